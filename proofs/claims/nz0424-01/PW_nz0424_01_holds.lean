import PyProof.Rows.All
import Wide.All
import OpenK.AllK
import Wide.FinOn
import Open.Split
import KE.KPar
import PySem.Challenge.RW_nz0424_01
set_option Elab.async false
set_option linter.unusedVariables false
set_option maxRecDepth 100000
set_option genInjectivity false
set_option genSizeOfSpec false
set_option genSizeOf false
set_option bootstrap.genMatcherCode false
set_option compiler.extract_closed false
set_option maxHeartbeats 1000000
section Macros
namespace Mine.Internal
def aa:=@Nat.le_trans
def aP:=@List.length_map
def b8:=@λ{a}{b}=>(@Bool.and_eq_true_iff a b).mp
def aQ:=@PySem.wpAny_bind
def dn:=@List.mem_cons_of_mem
def cS:=@List.mem_cons_self
def dN:=@λ{a}{b}{c}=>(@List.all_eq_true a b c).mp
def aA:=@if_neg
def bE:=@PySem.wpAny_mono
def aE:=@if_pos
def bf:=@List.length_range
def ak:=@congrArg
def bI:=@Bool.false_ne_true
def cn:=@PySem.Heap.get?_push_of_some
def bB:=@λ{a}{b}{c}{d}=>(@List.mem_cons a b c d).mp
def cO:=@λ{a}{b}{c}=>(@List.mem_singleton a b c).mp
def aU:=@Nat.zero_add
def cy:=@List.mem_of_getElem?
def bY:=@of_decide_eq_true
def cf:=@Int.natCast_nonneg
def bC:=@decide_eq_true
def cN:=@Nat.lt_of_lt_of_le
def b5:=@decide_eq_false
def eD:=@λ{a}[b:_][c:_]{d}{e}=>(@beq_eq_false_iff_ne a b c d e).mpr
def bg:=@PySem.wpAny_pure
def bO:=@List.map_map
def fz:=@List.getElem?_eq_getElem
def cY:=@λ{a}{b}{c}{d}{e}=>(@List.mem_map a b c d e).mpr
def bT:=@Nat.le_of_lt
def bF:=@Nat.le_refl
def aJ:=@trivial
def ci:=@λ{a}[b:_][c:_]{d}{e}=>(@beq_iff_eq a b c d e).mp
def gj:=@List.filter_cons_of_neg
def jB:=@λ{a}{b}{c}{d}=>(@List.getElem?_eq_some_iff a b c d).mp
def dm:=@λ{a}{b}{c}{d}{e}=>(@List.mem_map a b c d e).mp
def eM:=@λ{a}{b}=>(@List.mem_range a b).mpr
def dP:=@λ{a}{b}=>(@Int.ofNat_lt a b).mpr
def dH:=@Option.some.inj
def f9:=@List.map_congr_left
def fm:=@Nat.lt_of_le_of_lt
def fC:=@PySem.wpAny_truthy_bool
def gE:=@PySem.Heap.get?_push_size
def iJ:=@List.getElem?_eq_none
def cR:=@Nat.zero_le
def eR:=@List.map_append
def dM:=@Nat.add_assoc
def eY:=@λ{a}{b}=>(@Int.ofNat_lt a b).mp
def f_:=@List.getElem?_map
def gi:=@λ{a}{b}=>(@List.mem_range a b).mp
def fS:=@Nat.le_of_not_lt
def kO:=@List.filter_cons_of_pos
def gb:=@Nat.succ_le_succ
def gh:=@Nat.le_add_right
def eC:=@PySem.wpAny_holding
def dQ:=@Nat.add_comm
def gL:=@λ{a}{b}=>(@Int.ofNat_le a b).mpr
def kQ:=@Nat.pow_le_pow_right
def fu:=@PySem.mem_of_lookup
def jI:=@λ{a}{b}{c}{d}=>(@List.mem_filter a b c d).mp
def jL:=@Nat.add_right_comm
def iY:=@Nat.lt_succ_self
def kW:=@Nat.mul_le_mul_left
def dG:=@Nat.mod_lt
def ml:=@Nat.eq_of_beq_eq_true
def fB:=@Nat.mul_comm
def lg:=@List.length_append
def hU:=@PySem.Heap.size_push
def oE:=@Nat.le_of_ble_eq_true
def jD:=@Nat.two_pow_pos
def gT:=@List.map_cons
def kN:=@List.lookup_cons
def cQ:=@dif_neg
def qk:=@List.length_filter_le
def oJ:=@List.length_reverse
def ow:=@λ{a}{b}=>(@List.isEmpty_iff a b).mp
def r8:=@PySem.Heap.get?_update_other
def g_:=@Nat.ne_of_lt
def qi:=@PySem.Heap.get?_none_of_le
def mi:=@Nat.lt_of_not_le
def mT:=@Nat.le_of_succ_le
def jC:=@Int.ofNat_sub
def rX:=@PySem.builtinLookup_eq_fast
def gM:=@Nat.pow_add
def kX:=@λ{a}[b:_][c:_]{d}{e}=>(@beq_iff_eq a b c d e).mpr
def mo:=@List.length_cons
def nI:=@λ{a}{b}=>(@Int.ofNat_inj a b).mp
def oF:=@List.size_toArray
def jo:=@PySem.Heap.lt_size
def mv:=@List.length_nil
def kG:=@PySem.wpAny_standAt
def qh:=@Nat.le_of_lt_succ
def qg:=@Nat.lt_succ_of_lt
def jP:=@Nat.le_of_eq
def vw:=@λ{a}{b}=>(@Bool.or_eq_true_iff a b).mp
def vE:=@Nat.div_div_eq_div_mul
def ot:=@Nat.min_eq_left
def qe:=@List.take_length
def eE:=@Ne.symm
def wk:=@PySem.Heap.get?_update_self
def sD:=@Nat.lt_succ_of_le
def pd:=@List.mem_singleton_self
def io:=@λ{a}{b}=>(@Nat.not_lt a b).mpr
def jc:=@Nat.div_add_mod
def rV:=@λ{a}{b}{c}{d}{e}=>(@Option.map_eq_some_iff a b c d e).mp
def mH:=@Nat.add_sub_cancel'
def lq:=@PySem.wpAny_loadPart_at
def gW:=@Nat.lt_irrefl
def jQ:=@List.append_nil
def j6:=@PySem.typeLookup_type
def i8:=@List.sum_cons
def uu:=@λ{a}{b}{c}=>(@List.filter_eq_nil_iff a b c).mpr
def mC:=@decide_eq_true_eq
def mI:=@List.take_add_one
def pG:=@λ{a}{b}{c}{d}=>(@List.mem_filter a b c d).mpr
def oY:=@List.getElem?_range
def lF:=@List.nil_append
def rO:=@List.length_replicate
def oX:=@PySem.Obj.data_mapFields
def jk:=@Nat.lt_trans
def pw:=@Int.lt_of_le_of_lt
def rA:=@List.length_take_le'
def rF:=@Nat.add_le_add_right
def pf:=@List.append_assoc
def pI:=@List.filter_congr
def nG:=@PySem.wpAny_execs_nil
def jf:=@PySem.wpAny_of_eq
def jZ:=@Int.le_trans
def sA:=@λ{a}{b}{c}{d}=>(@List.mem_append a b c d).mp
def rY:=@Nat.sub_add_cancel
def oZ:=@List.foldl_cons
def pF:=@Nat.not_lt_zero
def i':=@Nat.sub_le
def lj:=@PySem.Calls.spliced_cons
def uO:=@List.mem_of_mem_take
def uR:=@PySem.Around.frames_deeper
def ur:=@Nat.le_sub_one_of_lt
def pH:=@List.range_succ
def Bt:=@Nat.and_two_pow_sub_one_eq_mod
def ui:=@Nat.add_mul_div_left
def uX:=@λ{a}{b}{c}{d}=>(@decide_eq_decide a b c d).mpr
def sJ:=@PySem.wpAny_newObj_type
def qU:=@λ{a}=>(@Nat.lt_one_iff a).mp
def nu:=@Nat.mul_assoc
def ua:=@Array.length_toList
def uI:=@PySem.Heap.SameBut.update
def uz:=@Nat.add_le_add_left
def uP:=@λ{a}{b}{c}{d}=>(@List.mem_append a b c d).mpr
def rE:=@PySem.wpAny_Call_NameR
def q9:=@Nat.div_eq_of_lt
def te:=@Nat.mod_eq_of_lt
def rm:=@beq_self_eq_true
def lB:=@Prod.mk.inj
def lE:=@PySem.wpAny_field
def yT:=@List.take_of_length_le
def xU:=@Nat.eq_zero_of_not_pos
def nB:=@Int.le_of_lt
def t8:=@Nat.lt_of_le_of_ne
def xk:=@PySem.Obj.isFreed_of_fields
def sF:=@Nat.mul_add_div
def zd:=@Nat.div_lt_iff_lt_mul
def AN:=@Nat.mod_two_eq_zero_or_one
def A4:=@List.getD_eq_getElem?_getD
def Bq:=@Nat.mod_mul_right_div_self
def tY:=@Nat.le_succ_of_le
def ut:=@List.ext_getElem?
def B1:=@Nat.add_mul_mod_self_left
def uW:=@List.all_eq_true
def xO:=@PySem.wpAny_Constant_none
def xC:=@PySem.wpAny_isSubtype_exc
def xb:=@PySem.wpAny_Constant_str
def y8:=@Int.lt_of_lt_of_le
def ux:=@λ{a}{b}=>(@Int.ofNat_le a b).mp
def uF:=@Nat.le_add_left
def uA:=@List.sum_append
def pk:=@PySem.Calls.spliced_nil
def Ch:=@λ{a}{b}{c}=>(@List.mem_singleton a b c).mpr
def BI:=@λ{a}{b}{c}{d}=>(@List.pairwise_cons a b c d).mpr
def ph:=@Nat.mul_one
def wR:=@List.reverse_cons
def xG:=@Nat.sub_pos_of_lt
def yu:=@List.foldl_append
def BX:=@List.getElem?_reverse
def BV:=@List.mem_append_right
def um:=@Nat.add_le_add
def ry:=@Nat.pow_succ
def BJ:=@λ{a}{b}{c}{d}=>(@List.mem_replicate a b c d).mp
def F7:=@PyProof.Rows.callWith_type1
def Gw:=@PyProof.Rows.joinParts_cons
def zl:=@List.length_drop
def xm:=@PySem.wpAny_call_entry
def B5:=@Nat.add_lt_of_lt_sub
def Ci:=@Nat.add_lt_add_right
def BB:=@Nat.not_succ_le_self
def Ed:=@Int.fdiv_eq_ediv_of_nonneg
def Es:=@λ{a}{b}=>(@List.length_eq_zero_iff a b).mp
def uj:=@List.map_take
def DW:=@PySem.Calls.Name_function_global
def FM:=@PySem.F.excBase_ValueError
def Bo:=@List.toList_toArray
def AZ:=@Nat.sub_lt_sub_left
def BQ:=@λ{a}{b}=>(@Bool.eq_iff_iff a b).mpr
def ze:=@Nat.le_antisymm
def xP:=@List.length_set
def yI:=@Nat.div_le_self
def wT:=@Nat.mod_add_div
def A9:=@Nat.pos_of_ne_zero
def ug:=@Nat.mul_zero
def BA:=@PySem.Code.quiet_builtin
def t4:=@Nat.pow_zero
def AR:=@Nat.lt_or_eq_of_le
def uY:=@Nat.mul_succ
def xg:=@PySem.wpAny_setField
def qY:=@PySem.wpAny_call
def xn:=@Bool.and_false
def zm:=@λ{a}{b}=>(@Int.not_lt a b).mpr
def xQ:=@λ{a}{b}=>(@Nat.not_le a b).mpr
def AV:=@Bool.not_eq_true'
def B6:=@Option.map_some
def DZ:=@Int.toNat_natCast
def GB:=@Bool.and_eq_true
@[elab_as_elim]theorem Ov.{u}{α:Sort u}{a b:α}{P:α->Prop}(h:a=b)(k:P b):P a:=h▸k
@[elab_as_elim]theorem OZ.{u}{α:Sort u}{a b:α}{P:α->Prop}(h:a=b)(k:P a):P b:=h▸k
theorem bz{a b c:Prop}(d:a)(e:b)(f:c):a/\b/\c:=⟨d,e,f⟩
theorem AA.{a}{α:Sort a}{b c d P3 e:α->Prop}(f:α)(g:b f)(h:c f)(i:d f)(j:P3 f)(h4:e f):∃f,b f/\c f/\d f/\P3 f/\e f:=⟨f,g,h,i,j,h4⟩
theorem an.{a}{α:Sort a}{b c:α->Prop}(d:α)(e:b d)(f:c d):∃d,b d/\c d:=⟨d,e,f⟩
theorem aY.{a,b}{α:Sort a}{β:Sort b}{c d:α->β->Prop}(e:α)(f:β)(g:c e f)(h:d e f):∃e,∃f,c e f/\d e f:=⟨e,f,g,h⟩
theorem j1.{a,b,c,d}{α:Sort a}{β:Sort b}{e:Sort c}{f:Sort d}{g h i P3:α->β->e->f->Prop}(j:α)(k:β)(l:e)(m:f)(n:g j k l m)(o:h j k l m)(p:i j k l m)(q:P3 j k l m):∃j,∃k,∃l,∃m,g j k l m/\h j k l m/\i j k l m/\P3 j k l m:=⟨j,k,l,m,n,o,p,q⟩
theorem dB.{a,b,c,d}{α:Sort a}{β:Sort b}{e:Sort c}{f:Sort d}{g h i P3 j:α->β->e->f->Prop}(k:α)(l:β)(m:e)(n:f)(o:g k l m n)(p:h k l m n)(q:i k l m n)(r:P3 k l m n)(h4:j k l m n):∃k,∃l,∃m,∃n,g k l m n/\h k l m n/\i k l m n/\P3 k l m n/\j k l m n:=⟨k,l,m,n,o,p,q,r,h4⟩
theorem fg.{a,b}{α:Sort a}{β:Sort b}{c:Prop}{d e:α->β->Prop}(f:c)(g:α)(h:β)(i:d g h)(j:e g h):c/\∃g,∃h,d g h/\e g h:=⟨f,g,h,i,j⟩
theorem tG.{a,b,c,d,e,f,g,h,i,j,k}{α:Sort a}{β:Sort b}{l:Sort c}{m:Sort d}{n:Sort e}{o:Sort f}{p:Sort g}{q:Sort h}{r:Sort i}{s:Sort j}{t:Sort k}{u v:α->β->l->m->n->o->p->q->r->s->t->Prop}(w:α)(x:β)(y:l)(z:m)(A:n)(B:o)(C:p)(D:q)(E:r)(F:s)(G:t)(H:u w x y z A B C D E F G)(I:v w x y z A B C D E F G):∃w,∃x,∃y,∃z,∃A,∃B,∃C,∃D,∃E,∃F,∃G,u w x y z A B C D E F G/\v w x y z A B C D E F G:=⟨w,x,y,z,A,B,C,D,E,F,G,H,I⟩
theorem bW.{a,b}{α:Sort a}{β:Sort b}{c d e P3:α->β->Prop}(f:α)(g:β)(h:c f g)(i:d f g)(j:e f g)(k:P3 f g):∃f,∃g,c f g/\d f g/\e f g/\P3 f g:=⟨f,g,h,i,j,k⟩
theorem jN{a b c P3 d:Prop}(e:a)(f:b)(g:c)(h:P3)(h4:d):a/\b/\c/\P3/\d:=⟨e,f,g,h,h4⟩
theorem tC.{a,b}{α:Sort a}{β:Sort b}{c:α->β->Prop}(d:α)(e:β)(f:c d e):∃d,∃e,c d e:=⟨d,e,f⟩
theorem dU.{a,b,c}{α:Sort a}{β:Sort b}{d:Sort c}{e f g:α->β->d->Prop}(h:α)(i:β)(j:d)(k:e h i j)(l:f h i j)(m:g h i j):∃h,∃i,∃j,e h i j/\f h i j/\g h i j:=⟨h,i,j,k,l,m⟩
theorem aL.{a,b}{α:Sort a}{β:Sort b}{c d e:α->β->Prop}(f:α)(g:β)(h:c f g)(i:d f g)(j:e f g):∃f,∃g,c f g/\d f g/\e f g:=⟨f,g,h,i,j⟩
theorem cW.{a}{α:Sort a}{b c d:α->Prop}(e:α)(f:b e)(g:c e)(h:d e):∃e,b e/\c e/\d e:=⟨e,f,g,h⟩
theorem rI.{a,b}{α:Sort a}{β:Sort b}{c d:α->Prop}{e:α->β->Prop}(f:α)(g:c f)(h:d f)(i:β)(j:e f i):∃f,c f/\d f/\∃i,e f i:=⟨f,g,h,i,j⟩
theorem uH.{a,b,c}{α:Sort a}{β:Sort b}{d:Sort c}{e f:α->β->d->Prop}(g:α)(h:β)(i:d)(j:e g h i)(k:f g h i):∃g,∃h,∃i,e g h i/\f g h i:=⟨g,h,i,j,k⟩
theorem FY.{a,b}{α:Sort a}{β:Sort b}{c:Prop}{d e P3:α->β->Prop}(f:c)(g:α)(h:β)(i:d g h)(j:e g h)(k:P3 g h):c/\∃g,∃h,d g h/\e g h/\P3 g h:=⟨f,g,h,i,j,k⟩
theorem C9.{a,b,c}{α:Sort a}{β:Sort b}{d:Sort c}{e f g P3 h i:α->β->d->Prop}(j:α)(k:β)(l:d)(m:e j k l)(n:f j k l)(o:g j k l)(p:P3 j k l)(h4:h j k l)(q:i j k l):∃j,∃k,∃l,e j k l/\f j k l/\g j k l/\P3 j k l/\h j k l/\i j k l:=⟨j,k,l,m,n,o,p,h4,q⟩
theorem eA.{a}{α:Sort a}{b:Prop}{c d:α->Prop}(e:b)(f:α)(g:c f)(h:d f):b/\∃f,c f/\d f:=⟨e,f,g,h⟩
theorem jY.{a,b,c}{α:Sort a}{β:Sort b}{d:Sort c}{e f g P3 h:α->β->d->Prop}(i:α)(j:β)(k:d)(l:e i j k)(m:f i j k)(n:g i j k)(o:P3 i j k)(h4:h i j k):∃i,∃j,∃k,e i j k/\f i j k/\g i j k/\P3 i j k/\h i j k:=⟨i,j,k,l,m,n,o,h4⟩
theorem fA.{a,b,c}{α:Sort a}{β:Sort b}{d:Sort c}{e f g P3:α->β->d->Prop}(h:α)(i:β)(j:d)(k:e h i j)(l:f h i j)(m:g h i j)(n:P3 h i j):∃h,∃i,∃j,e h i j/\f h i j/\g h i j/\P3 h i j:=⟨h,i,j,k,l,m,n⟩
theorem vh.{a,b,c}{α:Sort a}{β:Sort b}{d:Sort c}{e:α->Prop}{f g:α->β->d->Prop}(h:α)(i:e h)(j:β)(k:d)(l:f h j k)(m:g h j k):∃h,e h/\∃j,∃k,f h j k/\g h j k:=⟨h,i,j,k,l,m⟩
theorem et{a b c P3:Prop}(d:a)(e:b)(f:c)(g:P3):a/\b/\c/\P3:=⟨d,e,f,g⟩
theorem b6.{a,b,c,d}{α:Sort a}{β:Sort b}{e:Sort c}{f:Sort d}{g:Prop}{h i P3 j k:α->β->e->f->Prop}(l:g)(m:α)(n:β)(o:e)(p:f)(q:h m n o p)(r:i m n o p)(s:P3 m n o p)(h4:j m n o p)(t:k m n o p):g/\∃m,∃n,∃o,∃p,h m n o p/\i m n o p/\P3 m n o p/\j m n o p/\k m n o p:=⟨l,m,n,o,p,q,r,s,h4,t⟩
theorem OM.{a,b}{α:Sort a}{β:Sort b}{c:Prop}{d:α->β->Prop}(e:c)(f:α)(g:β)(h:d f g):c/\∃f,∃g,d f g:=⟨e,f,g,h⟩
theorem Ol.{a}{α:Sort a}{b:Prop}{c:α->Prop}(d:b)(e:α)(f:c e):b/\∃e,c e:=⟨d,e,f⟩
theorem Md.{a,b}{α:Sort a}{β:Sort b}{c:Prop}{d:α->Prop}{e P3:α->β->Prop}(f:c)(g:α)(h:d g)(i:β)(j:e g i)(k:P3 g i):c/\∃g,d g/\∃i,e g i/\P3 g i:=⟨f,g,h,i,j,k⟩
theorem Fi.{a,b,c,d}{α:Sort a}{β:Sort b}{e:Sort c}{f:Sort d}{g:Prop}{h i P3:α->β->e->f->Prop}(j:g)(k:α)(l:β)(m:e)(n:f)(o:h k l m n)(p:i k l m n)(q:P3 k l m n):g/\∃k,∃l,∃m,∃n,h k l m n/\i k l m n/\P3 k l m n:=⟨j,k,l,m,n,o,p,q⟩
theorem nj.{a,b,c,d}{α:Sort a}{β:Sort b}{e:Sort c}{f:Sort d}{g h i:α->β->e->f->Prop}(j:α)(k:β)(l:e)(m:f)(n:g j k l m)(o:h j k l m)(p:i j k l m):∃j,∃k,∃l,∃m,g j k l m/\h j k l m/\i j k l m:=⟨j,k,l,m,n,o,p⟩
theorem s8{a b c P3 d e:Prop}(f:a)(g:b)(h:c)(i:P3)(h4:d)(j:e):a/\b/\c/\P3/\d/\e:=⟨f,g,h,i,h4,j⟩
theorem qH.{a,b}{α:Sort a}{β:Sort b}{c:Prop}{d e P3 f:α->β->Prop}(g:c)(h:α)(i:β)(j:d h i)(k:e h i)(l:P3 h i)(h4:f h i):c/\∃h,∃i,d h i/\e h i/\P3 h i/\f h i:=⟨g,h,i,j,k,l,h4⟩
theorem lh.{a,b,c,d,e,f}{α:Sort a}{β:Sort b}{g:Sort c}{h:Sort d}{i:Sort e}{j:Sort f}{k l m P3 n o p:α->β->g->h->i->j->Prop}(q:α)(r:β)(s:g)(t:h)(u:i)(v:j)(w:k q r s t u v)(x:l q r s t u v)(y:m q r s t u v)(z:P3 q r s t u v)(h4:n q r s t u v)(A:o q r s t u v)(B:p q r s t u v):∃q,∃r,∃s,∃t,∃u,∃v,k q r s t u v/\l q r s t u v/\m q r s t u v/\P3 q r s t u v/\n q r s t u v/\o q r s t u v/\p q r s t u v:=⟨q,r,s,t,u,v,w,x,y,z,h4,A,B⟩
theorem wD.{a,b,c,d,e}{α:Sort a}{β:Sort b}{f:Sort c}{g:Sort d}{h:Sort e}{i:α->β->Prop}{j k P3 l m n:α->β->f->g->h->Prop}(o:α)(p:β)(q:i o p)(r:f)(s:g)(t:h)(u:j o p r s t)(v:k o p r s t)(w:P3 o p r s t)(h4:l o p r s t)(x:m o p r s t)(y:n o p r s t):∃o,∃p,i o p/\∃r,∃s,∃t,j o p r s t/\k o p r s t/\P3 o p r s t/\l o p r s t/\m o p r s t/\n o p r s t:=⟨o,p,q,r,s,t,u,v,w,h4,x,y⟩
theorem CH.{a,b}{α:Sort a}{β:Sort b}{c d:α->Prop}{e P3 f g h:α->β->Prop}(i:α)(j:c i)(k:d i)(l:β)(m:e i l)(n:P3 i l)(h4:f i l)(o:g i l)(p:h i l):∃i,c i/\d i/\∃l,e i l/\P3 i l/\f i l/\g i l/\h i l:=⟨i,j,k,l,m,n,h4,o,p⟩
theorem IE.{a}{α:Sort a}{b:Prop}{c d P3 e f:α->Prop}(g:b)(h:α)(i:c h)(j:d h)(k:P3 h)(h4:e h)(l:f h):b/\∃h,c h/\d h/\P3 h/\e h/\f h:=⟨g,h,i,j,k,h4,l⟩
theorem fx.{a,b}{α:Sort a}{β:Sort b}{c d e P3 f:α->β->Prop}(g:α)(h:β)(i:c g h)(j:d g h)(k:e g h)(l:P3 g h)(h4:f g h):∃g,∃h,c g h/\d g h/\e g h/\P3 g h/\f g h:=⟨g,h,i,j,k,l,h4⟩
theorem yq.{a}{α:Sort a}{b c d P3:α->Prop}(e:α)(f:b e)(g:c e)(h:d e)(i:P3 e):∃e,b e/\c e/\d e/\P3 e:=⟨e,f,g,h,i⟩
theorem lI.{a,b,c,d,e}{α:Sort a}{β:Sort b}{f:Sort c}{g:Sort d}{h:Sort e}{i j k P3 l:α->β->f->g->h->Prop}(m:α)(n:β)(o:f)(p:g)(q:h)(r:i m n o p q)(s:j m n o p q)(t:k m n o p q)(u:P3 m n o p q)(h4:l m n o p q):∃m,∃n,∃o,∃p,∃q,i m n o p q/\j m n o p q/\k m n o p q/\P3 m n o p q/\l m n o p q:=⟨m,n,o,p,q,r,s,t,u,h4⟩
theorem yP.{a,b,c}{α:Sort a}{β:Sort b}{d:Sort c}{e f:α->β->Prop}{g P3 h:α->β->d->Prop}(i:α)(j:β)(k:e i j)(l:f i j)(m:d)(n:g i j m)(o:P3 i j m)(h4:h i j m):∃i,∃j,e i j/\f i j/\∃m,g i j m/\P3 i j m/\h i j m:=⟨i,j,k,l,m,n,o,h4⟩
theorem sZ.{a,b}{α:Sort a}{β:Sort b}{c d e P3 f g:α->β->Prop}(h:α)(i:β)(j:c h i)(k:d h i)(l:e h i)(m:P3 h i)(h4:f h i)(n:g h i):∃h,∃i,c h i/\d h i/\e h i/\P3 h i/\f h i/\g h i:=⟨h,i,j,k,l,m,h4,n⟩
theorem Ak.{a,b,c}{α:Sort a}{β:Sort b}{d:Sort c}{e f g P3 h i j:α->β->d->Prop}(k:α)(l:β)(m:d)(n:e k l m)(o:f k l m)(p:g k l m)(q:P3 k l m)(h4:h k l m)(r:i k l m)(s:j k l m):∃k,∃l,∃m,e k l m/\f k l m/\g k l m/\P3 k l m/\h k l m/\i k l m/\j k l m:=⟨k,l,m,n,o,p,q,h4,r,s⟩
theorem pC.{a,b,c}{α:Sort a}{β:Sort b}{d:Sort c}{e f g P3 h i j k:α->β->d->Prop}(l:α)(m:β)(n:d)(o:e l m n)(p:f l m n)(q:g l m n)(r:P3 l m n)(h4:h l m n)(s:i l m n)(t:j l m n)(u:k l m n):∃l,∃m,∃n,e l m n/\f l m n/\g l m n/\P3 l m n/\h l m n/\i l m n/\j l m n/\k l m n:=⟨l,m,n,o,p,q,r,h4,s,t,u⟩
theorem Cb.{a}{α:Sort a}{b c d P3 e f:α->Prop}(g:α)(h:b g)(i:c g)(j:d g)(k:P3 g)(h4:e g)(l:f g):∃g,b g/\c g/\d g/\P3 g/\e g/\f g:=⟨g,h,i,j,k,h4,l⟩
theorem yC.{a,b}{α:Sort a}{β:Sort b}{c:Prop}{d e P3 f g:α->β->Prop}(h:c)(i:α)(j:β)(k:d i j)(l:e i j)(m:P3 i j)(h4:f i j)(n:g i j):c/\∃i,∃j,d i j/\e i j/\P3 i j/\f i j/\g i j:=⟨h,i,j,k,l,m,h4,n⟩
theorem fL{a b c P3 d e f g:Prop}(h:a)(i:b)(j:c)(k:P3)(h4:d)(l:e)(m:f)(n:g):a/\b/\c/\P3/\d/\e/\f/\g:=⟨h,i,j,k,h4,l,m,n⟩
theorem mj{a b c P3 d e f:Prop}(g:a)(h:b)(i:c)(j:P3)(h4:d)(k:e)(l:f):a/\b/\c/\P3/\d/\e/\f:=⟨g,h,i,j,h4,k,l⟩
theorem BD.{a,b}{α:Sort a}{β:Sort b}{c d e:Prop}{P3 f:α->β->Prop}(g:c)(h:d)(i:e)(j:α)(k:β)(l:P3 j k)(h4:f j k):c/\d/\e/\∃j,∃k,P3 j k/\f j k:=⟨g,h,i,j,k,l,h4⟩
theorem NY.{a,b,c}{α:Sort a}{β:Sort b}{d:Sort c}{e:α->β->d->Prop}(f:α)(g:β)(h:d)(i:e f g h):∃f,∃g,∃h,e f g h:=⟨f,g,h,i⟩
theorem Mp.{a,b,c,d}{α:Sort a}{β:Sort b}{e:Sort c}{f:Sort d}{g h:α->β->e->f->Prop}(i:α)(j:β)(k:e)(l:f)(m:g i j k l)(n:h i j k l):∃i,∃j,∃k,∃l,g i j k l/\h i j k l:=⟨i,j,k,l,m,n⟩
theorem Cu{a b c P3 d e f g h:Prop}(i:a)(j:b)(k:c)(l:P3)(h4:d)(m:e)(n:f)(o:g)(p:h):a/\b/\c/\P3/\d/\e/\f/\g/\h:=⟨i,j,k,l,h4,m,n,o,p⟩
theorem gN.{a,b,c,d,e}{α:Sort a}{β:Sort b}{f:Sort c}{g:Sort d}{h:Sort e}{i:Prop}{j k P3 l m n o:α->β->f->g->h->Prop}(p:i)(q:α)(r:β)(s:f)(t:g)(u:h)(v:j q r s t u)(w:k q r s t u)(x:P3 q r s t u)(h4:l q r s t u)(y:m q r s t u)(z:n q r s t u)(A:o q r s t u):i/\∃q,∃r,∃s,∃t,∃u,j q r s t u/\k q r s t u/\P3 q r s t u/\l q r s t u/\m q r s t u/\n q r s t u/\o q r s t u:=⟨p,q,r,s,t,u,v,w,x,h4,y,z,A⟩
theorem O4.{a,b}{α:Sort a}{β:Sort b}{c:α->Prop}{d:α->β->Prop}(e:α)(f:c e)(g:β)(h:d e g):∃e,c e/\∃g,d e g:=⟨e,f,g,h⟩
theorem Dm.{a,b,c}{α:Sort a}{β:Sort b}{d:Sort c}{e:Prop}{f g P3 h i:α->β->d->Prop}(j:e)(k:α)(l:β)(m:d)(n:f k l m)(o:g k l m)(p:P3 k l m)(h4:h k l m)(q:i k l m):e/\∃k,∃l,∃m,f k l m/\g k l m/\P3 k l m/\h k l m/\i k l m:=⟨j,k,l,m,n,o,p,h4,q⟩
theorem Ob.{a,b,c}{α:Sort a}{β:Sort b}{d:Sort c}{A:α->β->d->Prop}{P:Prop}(h:∃e,∃f,∃g,A e f g)(k:∀e,∀f,∀g,A e f g->P):P:=h.elim λx h=>h.elim λy h=>h.elim (k x y)
end Mine.Internal
open Mine.Internal in
local macro_rules
 |`(tactic|rw[$e:term])=>`(tactic|((first|refine Ov $e ?_|refine Ov ($e ..) ?_|refine Ov ($e _) ?_|refine Ov ($e _ _) ?_|rewrite[$e:term]);try with_reducible rfl))
open Mine.Internal in
local macro_rules
 |`(tactic|rw[<-$e:term])=>`(tactic|((first|refine OZ $e ?_|refine OZ ($e ..) ?_|refine OZ ($e _) ?_|rewrite[<-$e:term]);try with_reducible rfl))
local macro_rules
 |`(tactic|rw[$e:term]at$h:ident)=>`(tactic|((first|replace$h:ident:=$e▸$h|rewrite[$e:term]at$h:ident);try with_reducible rfl))
local macro_rules
 |`(tactic|cases$e:ident)=>`(tactic|first|(guard_hyp$e :_=_;subst$e:ident)|(replace$e:ident:=Option.some.inj $e;subst$e:ident)|fail)
local macro_rules
 |`(tactic|rw[$r:rwRule,$rs:rwRule,*])=>`(tactic|(rw[$r];rw[$rs,*]))
local macro_rules
 |`(tactic|rw[$r:rwRule,$rs:rwRule,*]at$h:ident)=>`(tactic|(rw[$r]at$h:ident;rw[$rs,*]at$h:ident))
set_option tactic.hygienic false
namespace Mine.Internal
open PySem PySem.W PyProof.Rows PySem.Calls
inductive Ev where|ld(o:Obj)|al|up (o:Obj)
noncomputable def sm{α:Type}(S:Setting):Sem α->Shared->List Ev->Option (List (Heap×Addr×Obj)×α×Shared)|.pure a,s,[]=>some ([],a,s)|.rule _ k,s,l=>sm S (k ()) s l|.point _ k,s,l=>sm S (k ()) s l|.at _ k,s,l=>sm S (k ()) s l|.ask k,s,l=>sm S (k S) s l|.fresh k,s,l=>sm S (k s.toks) {s with toks:=s.toks+1} l|.load a _ k,s,.ld o::l=>(sm S (k o) s l).map λr=>((s.heap,a,o)::r.1,r.2)|.alloc o k,s,.al::l=>sm S (k s.heap.objs.size) {s with heap:=s.heap.push o} l|.update a _ f k,s,.up o::l=>(sm S (k ()) {s with heap:=s.heap.update a f} l).map λr=>((s.heap,a,o)::r.1,r.2)|_,_,_=>none
theorem xX{α β:Type}{f:α->β}{x:Option α}{y:β}(e:x.map f=some y):∃z,x=some z/\f z=y:=by cases x with|none=>cases e|some z=>exact⟨z,rfl,dH e⟩
noncomputable def MS(r:List (Heap×Addr×Obj)):Prop:=∀p∈r,p.1.get? p.2.1=some p.2.2
theorem nS{α:Type}{a:α}{P:Prop}(e:none=some a):P:=nomatch e
noncomputable def Qh{α:Type}(M:Model)(b:Ctx)(E:Value->Pos->Shared->Prop)(Q:α->Pos->Shared->Prop)(a:α)(s':Shared)(t:Sem α):Prop:=∀s l r,sm ⟨M.prog,M.w.params⟩ t s l=some (r,a,s')->MS r->∀p,Sem.wp M b t Q E p s
theorem Nn{α:Type}{M:Model}{c:Ctx}{E:Value->Pos->Shared->Prop}{Q:α->Pos->Shared->Prop}{a:α}{s':Shared}(q:∀p,Q a p s'):∀t:Sem α,Qh M c E Q a s' t:=by
 intro t;induction t with
 |pure b=>
  intro s l;cases l with
  |nil=>exactλr e _ p=>(lB (lB (dH e)).2).1▸(lB (lB (dH e)).2).2▸q p|cons=>exactλ_ e=>nS e
 |rule _ k d=>exactλs l r e hr p=>d () s l r e hr p|point _ k d=>exactλs l r e hr p=>d () s l r e hr p|«at»x k d=>exactλs l r e hr p=>d () s l r e hr x|ask k d=>exactλs l r e hr p=>d _ s l r e hr p|fresh k d=>exactλs l r e hr p=>d s.toks _ l r e hr p|load b _ k d=>
  intro s l;cases l with|nil=>exactλ_ e=>nS e|cons v l=>cases v with
   |ld o=>exactλr e hr p=>(xX e).elim λz h=>⟨o,hr _ ((lB h.2).1▸cS ..),d o s l z.1 (h.1.trans (ak some (Prod.ext rfl (lB h.2).2))) (λp m=>hr p ((lB h.2).1▸dn _ m)) p⟩|al=>exactλ_ e=>nS e|up=>exactλ_ e=>nS e
 |alloc o k d=>
  intro s l;cases l with
  |nil=>exactλ_ e=>nS e|cons v l=>cases v with|al=>exactλr e hr p=>d _ _ l r e hr p|ld=>exactλ_ e=>nS e|up=>exactλ_ e=>nS e
 |update b _ f k d=>
  intro s l;cases l with|nil=>exactλ_ e=>nS e|cons v l=>cases v with
   |up o=>exactλr e hr p=>(xX e).elim λz h=>⟨Option.isSome_of_eq_some (hr (s.heap,b,o) ((lB h.2).1▸cS ..)),d () _ l z.1 (h.1.trans (ak some (Prod.ext rfl (lB h.2).2))) (λp m=>hr p ((lB h.2).1▸dn _ m)) p⟩|al=>exactλ_ e=>nS e|ld=>exactλ_ e=>nS e
 |_=>exactλ_ _ _ e=>nS e
theorem we{α:Type}{M:Model}{A:Around}{t:Sem α}{E:Value->Shared->Prop}{Q:α->Shared->Prop}{a:α}{s s':Shared}(l:List Ev)(r:List (Heap×Addr×Obj))(e:sm ⟨M.prog,M.w.params⟩ t s l=some (r,a,s'))(hr:MS r)(q:Q a s'):wpAny M A t Q E s:=λb p _=>Nn (λ_=>q) t s l r e hr p
theorem m0:MS []:=λ_ h=>nomatch h
theorem m1{h:Heap}{a:Addr}{o:Obj}{l:List (Heap×Addr×Obj)}(e:h.get? a=some o)(k:MS l):MS ((h,a,o)::l):=List.forall_mem_cons.mpr ⟨e,k⟩
theorem mR{h:Heap}{a:Addr}{o:Obj}{n:Nat}(e:h.get? a=some o):MS (List.replicate n (h,a,o)):=λp m=>(List.eq_of_mem_replicate m)▸e
end Mine.Internal
namespace Mine.Internal
theorem dA{A B P:Prop}(h:A/\B)(k:A->B->P):P:=k h.1 h.2
theorem dE.{u}{α:Sort u}{A:α->Prop}{P:Prop}(h:∃x,A x)(k:∀x,A x->P):P:=h.elim k
theorem lz{A:Prop}{B:Prop}{C:Prop}{P:Prop}(h:A/\B/\C)(k:A->B->C->P):P:=(k h.1) h.2.1 h.2.2
theorem Ou.{a}{α:Sort a}{A:Prop}{B:α->Prop}{P:Prop}(h:A/\∃b,B b)(k:A->∀b,B b->P):P:=h.2.elim (k h.1)
theorem am.{a}{α:Sort a}{A:α->Prop}{B:α->Prop}{P:Prop}(h:∃b,A b/\B b)(k:∀b,A b->B b->P):P:=h.elim λx h=>(k x) h.1 h.2
theorem qD.{a,b}{α:Sort a}{β:Sort b}{A:α->β->Prop}{P:Prop}(h:∃c,∃d,A c d)(k:∀c,∀d,A c d->P):P:=h.elim λx h=>h.elim (k x)
theorem tE{A:Prop}{B:Prop}{C:Prop}{D:Prop}{P:Prop}(h:A/\B/\C/\D)(k:A->B->C->D->P):P:=lz h.2 (k h.1)
theorem OC.{a}{α:Sort a}{A:Prop}{B:Prop}{C:α->Prop}{P:Prop}(h:A/\B/\∃b,C b)(k:A->B->∀b,C b->P):P:=Ou h.2 (k h.1)
theorem lW.{a}{α:Sort a}{A:Prop}{B:α->Prop}{C:α->Prop}{P:Prop}(h:A/\∃b,B b/\C b)(k:A->∀b,B b->C b->P):P:=am h.2 (k h.1)
theorem aT.{a}{α:Sort a}{A:α->Prop}{B:α->Prop}{C:α->Prop}{P:Prop}(h:∃b,A b/\B b/\C b)(k:∀b,A b->B b->C b->P):P:=h.elim λx h=>lz h (k x)
theorem aZ.{a,b}{α:Sort a}{β:Sort b}{A:α->β->Prop}{B:α->β->Prop}{P:Prop}(h:∃c,∃d,A c d/\B c d)(k:∀c,∀d,A c d->B c d->P):P:=h.elim λx h=>am h (k x)
theorem fK{A:Prop}{B:Prop}{C:Prop}{D:Prop}{F:Prop}{P:Prop}(h:A/\B/\C/\D/\F)(k:A->B->C->D->F->P):P:=tE h.2 (k h.1)
theorem Ka.{a}{α:Sort a}{A:Prop}{B:α->Prop}{C:α->Prop}{D:α->Prop}{P:Prop}(h:A/\∃b,B b/\C b/\D b)(k:A->∀b,B b->C b->D b->P):P:=aT h.2 (k h.1)
theorem Gi.{a,b}{α:Sort a}{β:Sort b}{A:Prop}{B:α->β->Prop}{C:α->β->Prop}{P:Prop}(h:A/\∃c,∃d,B c d/\C c d)(k:A->∀c,∀d,B c d->C c d->P):P:=aZ h.2 (k h.1)
theorem xW.{a}{α:Sort a}{A:α->Prop}{B:α->Prop}{C:α->Prop}{D:α->Prop}{P:Prop}(h:∃b,A b/\B b/\C b/\D b)(k:∀b,A b->B b->C b->D b->P):P:=h.elim λx h=>tE h (k x)
theorem u_.{a,b}{α:Sort a}{β:Sort b}{A:α->Prop}{B:α->Prop}{C:α->β->Prop}{P:Prop}(h:∃c,A c/\B c/\∃d,C c d)(k:∀c,A c->B c->∀d,C c d->P):P:=h.elim λx h=>OC h (k x)
theorem aW.{a,b}{α:Sort a}{β:Sort b}{A:α->β->Prop}{B:α->β->Prop}{C:α->β->Prop}{P:Prop}(h:∃c,∃d,A c d/\B c d/\C c d)(k:∀c,∀d,A c d->B c d->C c d->P):P:=h.elim λx h=>aT h (k x)
theorem ir.{a,b,c}{α:Sort a}{β:Sort b}{d:Sort c}{A:α->β->d->Prop}{B:α->β->d->Prop}{P:Prop}(h:∃e,∃f,∃g,A e f g/\B e f g)(k:∀e,∀f,∀g,A e f g->B e f g->P):P:=h.elim λx h=>aZ h (k x)
theorem FN{A:Prop}{B:Prop}{C:Prop}{D:Prop}{F:Prop}{G:Prop}{P:Prop}(h:A/\B/\C/\D/\F/\G)(k:A->B->C->D->F->G->P):P:=fK h.2 (k h.1)
theorem KJ.{a,b}{α:Sort a}{β:Sort b}{A:Prop}{B:Prop}{C:α->β->Prop}{D:α->β->Prop}{P:Prop}(h:A/\B/\∃c,∃d,C c d/\D c d)(k:A->B->∀c,∀d,C c d->D c d->P):P:=Gi h.2 (k h.1)
theorem K8.{a,b}{α:Sort a}{β:Sort b}{A:Prop}{B:α->Prop}{C:α->Prop}{D:α->β->Prop}{P:Prop}(h:A/\∃c,B c/\C c/\∃d,D c d)(k:A->∀c,B c->C c->∀d,D c d->P):P:=u_ h.2 (k h.1)
theorem wo.{a}{α:Sort a}{A:α->Prop}{B:α->Prop}{C:α->Prop}{D:α->Prop}{F:α->Prop}{P:Prop}(h:∃b,A b/\B b/\C b/\D b/\F b)(k:∀b,A b->B b->C b->D b->F b->P):P:=h.elim λx h=>fK h (k x)
theorem jV.{a,b}{α:Sort a}{β:Sort b}{A:α->β->Prop}{B:α->β->Prop}{C:α->β->Prop}{D:α->β->Prop}{P:Prop}(h:∃c,∃d,A c d/\B c d/\C c d/\D c d)(k:∀c,∀d,A c d->B c d->C c d->D c d->P):P:=h.elim λx h=>xW h (k x)
theorem bw.{a,b,c}{α:Sort a}{β:Sort b}{d:Sort c}{A:α->β->d->Prop}{B:α->β->d->Prop}{C:α->β->d->Prop}{P:Prop}(h:∃e,∃f,∃g,A e f g/\B e f g/\C e f g)(k:∀e,∀f,∀g,A e f g->B e f g->C e f g->P):P:=h.elim λx h=>aW h (k x)
theorem DT.{a,b,c,d}{α:Sort a}{β:Sort b}{e:Sort c}{f:Sort d}{A:α->β->e->f->Prop}{B:α->β->e->f->Prop}{P:Prop}(h:∃g,∃i,∃j,∃l,A g i j l/\B g i j l)(k:∀g,∀i,∀j,∀l,A g i j l->B g i j l->P):P:=h.elim λx h=>ir h (k x)
theorem AW{A:Prop}{B:Prop}{C:Prop}{D:Prop}{F:Prop}{G:Prop}{H:Prop}{P:Prop}(h:A/\B/\C/\D/\F/\G/\H)(k:A->B->C->D->F->G->H->P):P:=FN h.2 (k h.1)
theorem Ju.{a,b}{α:Sort a}{β:Sort b}{A:Prop}{B:Prop}{C:Prop}{D:α->β->Prop}{F:α->β->Prop}{P:Prop}(h:A/\B/\C/\∃c,∃d,D c d/\F c d)(k:A->B->C->∀c,∀d,D c d->F c d->P):P:=KJ h.2 (k h.1)
theorem IR.{a}{α:Sort a}{A:Prop}{B:α->Prop}{C:α->Prop}{D:α->Prop}{F:α->Prop}{G:α->Prop}{P:Prop}(h:A/\∃b,B b/\C b/\D b/\F b/\G b)(k:A->∀b,B b->C b->D b->F b->G b->P):P:=wo h.2 (k h.1)
theorem ko.{a,b}{α:Sort a}{β:Sort b}{A:Prop}{B:α->β->Prop}{C:α->β->Prop}{D:α->β->Prop}{F:α->β->Prop}{P:Prop}(h:A/\∃c,∃d,B c d/\C c d/\D c d/\F c d)(k:A->∀c,∀d,B c d->C c d->D c d->F c d->P):P:=jV h.2 (k h.1)
theorem v0.{a}{α:Sort a}{A:α->Prop}{B:α->Prop}{C:α->Prop}{D:α->Prop}{F:α->Prop}{G:α->Prop}{P:Prop}(h:∃b,A b/\B b/\C b/\D b/\F b/\G b)(k:∀b,A b->B b->C b->D b->F b->G b->P):P:=h.elim λx h=>FN h (k x)
theorem I3.{a,b,c}{α:Sort a}{β:Sort b}{d:Sort c}{A:α->Prop}{B:α->β->Prop}{C:α->β->Prop}{D:α->β->d->Prop}{P:Prop}(h:∃e,A e/\∃f,B e f/\C e f/\∃g,D e f g)(k:∀e,A e->∀f,B e f->C e f->∀g,D e f g->P):P:=h.elim λx h=>K8 h (k x)
theorem vV.{a,b}{α:Sort a}{β:Sort b}{A:α->β->Prop}{B:α->β->Prop}{C:α->β->Prop}{D:α->β->Prop}{F:α->β->Prop}{P:Prop}(h:∃c,∃d,A c d/\B c d/\C c d/\D c d/\F c d)(k:∀c,∀d,A c d->B c d->C c d->D c d->F c d->P):P:=h.elim λx h=>wo h (k x)
theorem c_.{a,b,c}{α:Sort a}{β:Sort b}{d:Sort c}{A:α->β->d->Prop}{B:α->β->d->Prop}{C:α->β->d->Prop}{D:α->β->d->Prop}{P:Prop}(h:∃e,∃f,∃g,A e f g/\B e f g/\C e f g/\D e f g)(k:∀e,∀f,∀g,A e f g->B e f g->C e f g->D e f g->P):P:=h.elim λx h=>jV h (k x)
theorem iV.{a,b,c,d}{α:Sort a}{β:Sort b}{e:Sort c}{f:Sort d}{A:α->β->e->f->Prop}{B:α->β->e->f->Prop}{C:α->β->e->f->Prop}{P:Prop}(h:∃g,∃i,∃j,∃l,A g i j l/\B g i j l/\C g i j l)(k:∀g,∀i,∀j,∀l,A g i j l->B g i j l->C g i j l->P):P:=h.elim λx h=>bw h (k x)
theorem fO{A:Prop}{B:Prop}{C:Prop}{D:Prop}{F:Prop}{G:Prop}{H:Prop}{I:Prop}{P:Prop}(h:A/\B/\C/\D/\F/\G/\H/\I)(k:A->B->C->D->F->G->H->I->P):P:=AW h.2 (k h.1)
theorem FT.{a}{α:Sort a}{A:Prop}{B:α->Prop}{C:α->Prop}{D:α->Prop}{F:α->Prop}{G:α->Prop}{H:α->Prop}{P:Prop}(h:A/\∃b,B b/\C b/\D b/\F b/\G b/\H b)(k:A->∀b,B b->C b->D b->F b->G b->H b->P):P:=v0 h.2 (k h.1)
theorem EE.{a,b}{α:Sort a}{β:Sort b}{A:Prop}{B:α->β->Prop}{C:α->β->Prop}{D:α->β->Prop}{F:α->β->Prop}{G:α->β->Prop}{P:Prop}(h:A/\∃c,∃d,B c d/\C c d/\D c d/\F c d/\G c d)(k:A->∀c,∀d,B c d->C c d->D c d->F c d->G c d->P):P:=vV h.2 (k h.1)
theorem w9.{a,b,c,d}{α:Sort a}{β:Sort b}{e:Sort c}{f:Sort d}{A:Prop}{B:α->β->e->f->Prop}{C:α->β->e->f->Prop}{D:α->β->e->f->Prop}{P:Prop}(h:A/\∃g,∃i,∃j,∃l,B g i j l/\C g i j l/\D g i j l)(k:A->∀g,∀i,∀j,∀l,B g i j l->C g i j l->D g i j l->P):P:=iV h.2 (k h.1)
theorem EB.{a}{α:Sort a}{A:α->Prop}{B:α->Prop}{C:α->Prop}{D:α->Prop}{F:α->Prop}{G:α->Prop}{H:α->Prop}{P:Prop}(h:∃b,A b/\B b/\C b/\D b/\F b/\G b/\H b)(k:∀b,A b->B b->C b->D b->F b->G b->H b->P):P:=h.elim λx h=>AW h (k x)
theorem zi.{a,b}{α:Sort a}{β:Sort b}{A:α->β->Prop}{B:α->β->Prop}{C:α->β->Prop}{D:α->β->Prop}{F:α->β->Prop}{G:α->β->Prop}{P:Prop}(h:∃c,∃d,A c d/\B c d/\C c d/\D c d/\F c d/\G c d)(k:∀c,∀d,A c d->B c d->C c d->D c d->F c d->G c d->P):P:=h.elim λx h=>v0 h (k x)
theorem Eo.{a,b,c,d}{α:Sort a}{β:Sort b}{e:Sort c}{f:Sort d}{A:α->β->Prop}{B:α->β->e->Prop}{C:α->β->e->Prop}{D:α->β->e->f->Prop}{P:Prop}(h:∃g,∃i,A g i/\∃j,B g i j/\C g i j/\∃l,D g i j l)(k:∀g,∀i,A g i->∀j,B g i j->C g i j->∀l,D g i j l->P):P:=h.elim λx h=>I3 h (k x)
theorem nK.{a,b,c}{α:Sort a}{β:Sort b}{d:Sort c}{A:α->β->d->Prop}{B:α->β->d->Prop}{C:α->β->d->Prop}{D:α->β->d->Prop}{F:α->β->d->Prop}{P:Prop}(h:∃e,∃f,∃g,A e f g/\B e f g/\C e f g/\D e f g/\F e f g)(k:∀e,∀f,∀g,A e f g->B e f g->C e f g->D e f g->F e f g->P):P:=h.elim λx h=>vV h (k x)
theorem cr.{a,b,c,d}{α:Sort a}{β:Sort b}{e:Sort c}{f:Sort d}{A:α->β->e->f->Prop}{B:α->β->e->f->Prop}{C:α->β->e->f->Prop}{D:α->β->e->f->Prop}{P:Prop}(h:∃g,∃i,∃j,∃l,A g i j l/\B g i j l/\C g i j l/\D g i j l)(k:∀g,∀i,∀j,∀l,A g i j l->B g i j l->C g i j l->D g i j l->P):P:=h.elim λx h=>c_ h (k x)
theorem yB.{a,b,c,d,e}{α:Sort a}{β:Sort b}{f:Sort c}{g:Sort d}{i:Sort e}{A:α->β->f->g->i->Prop}{B:α->β->f->g->i->Prop}{C:α->β->f->g->i->Prop}{P:Prop}(h:∃j,∃l,∃m,∃n,∃o,A j l m n o/\B j l m n o/\C j l m n o)(k:∀j,∀l,∀m,∀n,∀o,A j l m n o->B j l m n o->C j l m n o->P):P:=h.elim λx h=>iV h (k x)
theorem CU{A:Prop}{B:Prop}{C:Prop}{D:Prop}{F:Prop}{G:Prop}{H:Prop}{I:Prop}{a:Prop}{P:Prop}(h:A/\B/\C/\D/\F/\G/\H/\I/\a)(k:A->B->C->D->F->G->H->I->a->P):P:=fO h.2 (k h.1)
theorem DB.{a}{α:Sort a}{A:Prop}{B:Prop}{C:α->Prop}{D:α->Prop}{F:α->Prop}{G:α->Prop}{H:α->Prop}{I:α->Prop}{P:Prop}(h:A/\B/\∃b,C b/\D b/\F b/\G b/\H b/\I b)(k:A->B->∀b,C b->D b->F b->G b->H b->I b->P):P:=FT h.2 (k h.1)
theorem Dy.{a,b,c,d}{α:Sort a}{β:Sort b}{e:Sort c}{f:Sort d}{A:Prop}{B:α->β->e->f->Prop}{C:α->β->e->f->Prop}{D:α->β->e->f->Prop}{F:α->β->e->f->Prop}{P:Prop}(h:A/\∃g,∃i,∃j,∃l,B g i j l/\C g i j l/\D g i j l/\F g i j l)(k:A->∀g,∀i,∀j,∀l,B g i j l->C g i j l->D g i j l->F g i j l->P):P:=cr h.2 (k h.1)
theorem C_.{a,b}{α:Sort a}{β:Sort b}{A:α->β->Prop}{B:α->β->Prop}{C:α->β->Prop}{D:α->β->Prop}{F:α->β->Prop}{G:α->β->Prop}{H:α->β->Prop}{P:Prop}(h:∃c,∃d,A c d/\B c d/\C c d/\D c d/\F c d/\G c d/\H c d)(k:∀c,∀d,A c d->B c d->C c d->D c d->F c d->G c d->H c d->P):P:=h.elim λx h=>EB h (k x)
theorem oL.{a,b,c}{α:Sort a}{β:Sort b}{d:Sort c}{A:α->β->d->Prop}{B:α->β->d->Prop}{C:α->β->d->Prop}{D:α->β->d->Prop}{F:α->β->d->Prop}{G:α->β->d->Prop}{P:Prop}(h:∃e,∃f,∃g,A e f g/\B e f g/\C e f g/\D e f g/\F e f g/\G e f g)(k:∀e,∀f,∀g,A e f g->B e f g->C e f g->D e f g->F e f g->G e f g->P):P:=h.elim λx h=>zi h (k x)
theorem oH.{a,b,c,d,e}{α:Sort a}{β:Sort b}{f:Sort c}{g:Sort d}{i:Sort e}{A:α->β->f->Prop}{B:α->β->f->g->Prop}{C:α->β->f->g->Prop}{D:α->β->f->g->i->Prop}{P:Prop}(h:∃j,∃l,∃m,A j l m/\∃n,B j l m n/\C j l m n/\∃o,D j l m n o)(k:∀j,∀l,∀m,A j l m->∀n,B j l m n->C j l m n->∀o,D j l m n o->P):P:=h.elim λx h=>Eo h (k x)
theorem dD.{a,b,c,d}{α:Sort a}{β:Sort b}{e:Sort c}{f:Sort d}{A:α->β->e->f->Prop}{B:α->β->e->f->Prop}{C:α->β->e->f->Prop}{D:α->β->e->f->Prop}{F:α->β->e->f->Prop}{P:Prop}(h:∃g,∃i,∃j,∃l,A g i j l/\B g i j l/\C g i j l/\D g i j l/\F g i j l)(k:∀g,∀i,∀j,∀l,A g i j l->B g i j l->C g i j l->D g i j l->F g i j l->P):P:=h.elim λx h=>nK h (k x)
theorem AD{A:Prop}{B:Prop}{C:Prop}{D:Prop}{F:Prop}{G:Prop}{H:Prop}{I:Prop}{a:Prop}{K:Prop}{P:Prop}(h:A/\B/\C/\D/\F/\G/\H/\I/\a/\K)(k:A->B->C->D->F->G->H->I->a->K->P):P:=CU h.2 (k h.1)
theorem cT.{a,b,c,d}{α:Sort a}{β:Sort b}{e:Sort c}{f:Sort d}{A:Prop}{B:α->β->e->f->Prop}{C:α->β->e->f->Prop}{D:α->β->e->f->Prop}{F:α->β->e->f->Prop}{G:α->β->e->f->Prop}{P:Prop}(h:A/\∃g,∃i,∃j,∃l,B g i j l/\C g i j l/\D g i j l/\F g i j l/\G g i j l)(k:A->∀g,∀i,∀j,∀l,B g i j l->C g i j l->D g i j l->F g i j l->G g i j l->P):P:=dD h.2 (k h.1)
theorem Ax.{a,b}{α:Sort a}{β:Sort b}{A:α->Prop}{B:α->Prop}{C:α->β->Prop}{D:α->β->Prop}{F:α->β->Prop}{G:α->β->Prop}{H:α->β->Prop}{I:α->β->Prop}{P:Prop}(h:∃c,A c/\B c/\∃d,C c d/\D c d/\F c d/\G c d/\H c d/\I c d)(k:∀c,A c->B c->∀d,C c d->D c d->F c d->G c d->H c d->I c d->P):P:=h.elim λx h=>DB h (k x)
theorem sd.{a,b,c}{α:Sort a}{β:Sort b}{d:Sort c}{A:α->β->d->Prop}{B:α->β->d->Prop}{C:α->β->d->Prop}{D:α->β->d->Prop}{F:α->β->d->Prop}{G:α->β->d->Prop}{H:α->β->d->Prop}{P:Prop}(h:∃e,∃f,∃g,A e f g/\B e f g/\C e f g/\D e f g/\F e f g/\G e f g/\H e f g)(k:∀e,∀f,∀g,A e f g->B e f g->C e f g->D e f g->F e f g->G e f g->H e f g->P):P:=h.elim λx h=>C_ h (k x)
theorem qM.{a,b,c,d}{α:Sort a}{β:Sort b}{e:Sort c}{f:Sort d}{A:α->β->e->f->Prop}{B:α->β->e->f->Prop}{C:α->β->e->f->Prop}{D:α->β->e->f->Prop}{F:α->β->e->f->Prop}{G:α->β->e->f->Prop}{P:Prop}(h:∃g,∃i,∃j,∃l,A g i j l/\B g i j l/\C g i j l/\D g i j l/\F g i j l/\G g i j l)(k:∀g,∀i,∀j,∀l,A g i j l->B g i j l->C g i j l->D g i j l->F g i j l->G g i j l->P):P:=h.elim λx h=>oL h (k x)
theorem iO.{a,b,c,d,e}{α:Sort a}{β:Sort b}{f:Sort c}{g:Sort d}{i:Sort e}{A:α->β->f->g->i->Prop}{B:α->β->f->g->i->Prop}{C:α->β->f->g->i->Prop}{D:α->β->f->g->i->Prop}{F:α->β->f->g->i->Prop}{P:Prop}(h:∃j,∃l,∃m,∃n,∃o,A j l m n o/\B j l m n o/\C j l m n o/\D j l m n o/\F j l m n o)(k:∀j,∀l,∀m,∀n,∀o,A j l m n o->B j l m n o->C j l m n o->D j l m n o->F j l m n o->P):P:=h.elim λx h=>dD h (k x)
theorem o4.{a,b,c,d,e}{α:Sort a}{β:Sort b}{f:Sort c}{g:Sort d}{i:Sort e}{A:Prop}{B:α->β->f->g->i->Prop}{C:α->β->f->g->i->Prop}{D:α->β->f->g->i->Prop}{F:α->β->f->g->i->Prop}{G:α->β->f->g->i->Prop}{P:Prop}(h:A/\∃j,∃l,∃m,∃n,∃o,B j l m n o/\C j l m n o/\D j l m n o/\F j l m n o/\G j l m n o)(k:A->∀j,∀l,∀m,∀n,∀o,B j l m n o->C j l m n o->D j l m n o->F j l m n o->G j l m n o->P):P:=iO h.2 (k h.1)
theorem yF.{a}{α:Sort a}{A:α->Prop}{B:α->Prop}{C:α->Prop}{D:α->Prop}{F:α->Prop}{G:α->Prop}{H:α->Prop}{I:α->Prop}{b:α->Prop}{K:α->Prop}{P:Prop}(h:∃c,A c/\B c/\C c/\D c/\F c/\G c/\H c/\I c/\b c/\K c)(k:∀c,A c->B c->C c->D c->F c->G c->H c->I c->b c->K c->P):P:=h.elim λx h=>AD h (k x)
theorem xf.{a,b,c,d}{α:Sort a}{β:Sort b}{e:Sort c}{f:Sort d}{A:α->β->e->f->Prop}{B:α->β->e->f->Prop}{C:α->β->e->f->Prop}{D:α->β->e->f->Prop}{F:α->β->e->f->Prop}{G:α->β->e->f->Prop}{H:α->β->e->f->Prop}{P:Prop}(h:∃g,∃i,∃j,∃l,A g i j l/\B g i j l/\C g i j l/\D g i j l/\F g i j l/\G g i j l/\H g i j l)(k:∀g,∀i,∀j,∀l,A g i j l->B g i j l->C g i j l->D g i j l->F g i j l->G g i j l->H g i j l->P):P:=h.elim λx h=>sd h (k x)
theorem yo.{a,b,c,d,e}{α:Sort a}{β:Sort b}{f:Sort c}{g:Sort d}{i:Sort e}{A:α->β->f->g->i->Prop}{B:α->β->f->g->i->Prop}{C:α->β->f->g->i->Prop}{D:α->β->f->g->i->Prop}{F:α->β->f->g->i->Prop}{G:α->β->f->g->i->Prop}{P:Prop}(h:∃j,∃l,∃m,∃n,∃o,A j l m n o/\B j l m n o/\C j l m n o/\D j l m n o/\F j l m n o/\G j l m n o)(k:∀j,∀l,∀m,∀n,∀o,A j l m n o->B j l m n o->C j l m n o->D j l m n o->F j l m n o->G j l m n o->P):P:=h.elim λx h=>qM h (k x)
theorem zc.{a,b,c,d,e,f}{α:Sort a}{β:Sort b}{g:Sort c}{i:Sort d}{j:Sort e}{l:Sort f}{A:α->β->g->i->j->l->Prop}{B:α->β->g->i->j->l->Prop}{C:α->β->g->i->j->l->Prop}{D:α->β->g->i->j->l->Prop}{F:α->β->g->i->j->l->Prop}{P:Prop}(h:∃m,∃n,∃o,∃p,∃q,∃r,A m n o p q r/\B m n o p q r/\C m n o p q r/\D m n o p q r/\F m n o p q r)(k:∀m,∀n,∀o,∀p,∀q,∀r,A m n o p q r->B m n o p q r->C m n o p q r->D m n o p q r->F m n o p q r->P):P:=h.elim λx h=>iO h (k x)
theorem vP.{a,b}{α:Sort a}{β:Sort b}{A:α->β->Prop}{B:α->β->Prop}{C:α->β->Prop}{D:α->β->Prop}{F:α->β->Prop}{G:α->β->Prop}{H:α->β->Prop}{I:α->β->Prop}{c:α->β->Prop}{K:α->β->Prop}{P:Prop}(h:∃d,∃e,A d e/\B d e/\C d e/\D d e/\F d e/\G d e/\H d e/\I d e/\c d e/\K d e)(k:∀d,∀e,A d e->B d e->C d e->D d e->F d e->G d e->H d e->I d e->c d e->K d e->P):P:=h.elim λx h=>yF h (k x)
theorem vU.{a,b,c,d,e}{α:Sort a}{β:Sort b}{f:Sort c}{g:Sort d}{i:Sort e}{A:α->β->f->g->i->Prop}{B:α->β->f->g->i->Prop}{C:α->β->f->g->i->Prop}{D:α->β->f->g->i->Prop}{F:α->β->f->g->i->Prop}{G:α->β->f->g->i->Prop}{H:α->β->f->g->i->Prop}{P:Prop}(h:∃j,∃l,∃m,∃n,∃o,A j l m n o/\B j l m n o/\C j l m n o/\D j l m n o/\F j l m n o/\G j l m n o/\H j l m n o)(k:∀j,∀l,∀m,∀n,∀o,A j l m n o->B j l m n o->C j l m n o->D j l m n o->F j l m n o->G j l m n o->H j l m n o->P):P:=h.elim λx h=>xf h (k x)
theorem wt.{a,b,c,d,e,f}{α:Sort a}{β:Sort b}{g:Sort c}{i:Sort d}{j:Sort e}{l:Sort f}{A:α->β->g->i->j->l->Prop}{B:α->β->g->i->j->l->Prop}{C:α->β->g->i->j->l->Prop}{D:α->β->g->i->j->l->Prop}{F:α->β->g->i->j->l->Prop}{G:α->β->g->i->j->l->Prop}{P:Prop}(h:∃m,∃n,∃o,∃p,∃q,∃r,A m n o p q r/\B m n o p q r/\C m n o p q r/\D m n o p q r/\F m n o p q r/\G m n o p q r)(k:∀m,∀n,∀o,∀p,∀q,∀r,A m n o p q r->B m n o p q r->C m n o p q r->D m n o p q r->F m n o p q r->G m n o p q r->P):P:=h.elim λx h=>yo h (k x)
theorem vp.{a,b,c,d,e,f,g}{α:Sort a}{β:Sort b}{i:Sort c}{j:Sort d}{l:Sort e}{m:Sort f}{n:Sort g}{A:α->β->i->j->l->m->n->Prop}{B:α->β->i->j->l->m->n->Prop}{C:α->β->i->j->l->m->n->Prop}{D:α->β->i->j->l->m->n->Prop}{F:α->β->i->j->l->m->n->Prop}{P:Prop}(h:∃o,∃p,∃q,∃r,∃s,∃t,∃u,A o p q r s t u/\B o p q r s t u/\C o p q r s t u/\D o p q r s t u/\F o p q r s t u)(k:∀o,∀p,∀q,∀r,∀s,∀t,∀u,A o p q r s t u->B o p q r s t u->C o p q r s t u->D o p q r s t u->F o p q r s t u->P):P:=h.elim λx h=>zc h (k x)
theorem tJ.{a,b,c}{α:Sort a}{β:Sort b}{d:Sort c}{A:α->β->d->Prop}{B:α->β->d->Prop}{C:α->β->d->Prop}{D:α->β->d->Prop}{F:α->β->d->Prop}{G:α->β->d->Prop}{H:α->β->d->Prop}{I:α->β->d->Prop}{e:α->β->d->Prop}{K:α->β->d->Prop}{P:Prop}(h:∃f,∃g,∃i,A f g i/\B f g i/\C f g i/\D f g i/\F f g i/\G f g i/\H f g i/\I f g i/\e f g i/\K f g i)(k:∀f,∀g,∀i,A f g i->B f g i->C f g i->D f g i->F f g i->G f g i->H f g i->I f g i->e f g i->K f g i->P):P:=h.elim λx h=>vP h (k x)
theorem lG.{a,b,c,d,e,f}{α:Sort a}{β:Sort b}{g:Sort c}{i:Sort d}{j:Sort e}{l:Sort f}{A:α->β->g->i->j->l->Prop}{B:α->β->g->i->j->l->Prop}{C:α->β->g->i->j->l->Prop}{D:α->β->g->i->j->l->Prop}{F:α->β->g->i->j->l->Prop}{G:α->β->g->i->j->l->Prop}{H:α->β->g->i->j->l->Prop}{P:Prop}(h:∃m,∃n,∃o,∃p,∃q,∃r,A m n o p q r/\B m n o p q r/\C m n o p q r/\D m n o p q r/\F m n o p q r/\G m n o p q r/\H m n o p q r)(k:∀m,∀n,∀o,∀p,∀q,∀r,A m n o p q r->B m n o p q r->C m n o p q r->D m n o p q r->F m n o p q r->G m n o p q r->H m n o p q r->P):P:=h.elim λx h=>vU h (k x)
theorem tK.{a,b,c,d,e,f,g}{α:Sort a}{β:Sort b}{i:Sort c}{j:Sort d}{l:Sort e}{m:Sort f}{n:Sort g}{A:α->β->i->j->l->m->n->Prop}{B:α->β->i->j->l->m->n->Prop}{C:α->β->i->j->l->m->n->Prop}{D:α->β->i->j->l->m->n->Prop}{F:α->β->i->j->l->m->n->Prop}{G:α->β->i->j->l->m->n->Prop}{P:Prop}(h:∃o,∃p,∃q,∃r,∃s,∃t,∃u,A o p q r s t u/\B o p q r s t u/\C o p q r s t u/\D o p q r s t u/\F o p q r s t u/\G o p q r s t u)(k:∀o,∀p,∀q,∀r,∀s,∀t,∀u,A o p q r s t u->B o p q r s t u->C o p q r s t u->D o p q r s t u->F o p q r s t u->G o p q r s t u->P):P:=h.elim λx h=>wt h (k x)
theorem rD.{a,b,c,d}{α:Sort a}{β:Sort b}{e:Sort c}{f:Sort d}{A:α->β->e->f->Prop}{B:α->β->e->f->Prop}{C:α->β->e->f->Prop}{D:α->β->e->f->Prop}{F:α->β->e->f->Prop}{G:α->β->e->f->Prop}{H:α->β->e->f->Prop}{I:α->β->e->f->Prop}{g:α->β->e->f->Prop}{K:α->β->e->f->Prop}{P:Prop}(h:∃i,∃j,∃l,∃m,A i j l m/\B i j l m/\C i j l m/\D i j l m/\F i j l m/\G i j l m/\H i j l m/\I i j l m/\g i j l m/\K i j l m)(k:∀i,∀j,∀l,∀m,A i j l m->B i j l m->C i j l m->D i j l m->F i j l m->G i j l m->H i j l m->I i j l m->g i j l m->K i j l m->P):P:=h.elim λx h=>tJ h (k x)
theorem rK.{a,b,c,d,e,f,g,i}{α:Sort a}{β:Sort b}{j:Sort c}{l:Sort d}{m:Sort e}{n:Sort f}{o:Sort g}{p:Sort i}{A:α->β->j->l->m->n->o->p->Prop}{B:α->β->j->l->m->n->o->p->Prop}{C:α->β->j->l->m->n->o->p->Prop}{D:α->β->j->l->m->n->o->p->Prop}{F:α->β->j->l->m->n->o->p->Prop}{G:α->β->j->l->m->n->o->p->Prop}{P:Prop}(h:∃q,∃r,∃s,∃t,∃u,∃v,∃w,∃y,A q r s t u v w y/\B q r s t u v w y/\C q r s t u v w y/\D q r s t u v w y/\F q r s t u v w y/\G q r s t u v w y)(k:∀q,∀r,∀s,∀t,∀u,∀v,∀w,∀y,A q r s t u v w y->B q r s t u v w y->C q r s t u v w y->D q r s t u v w y->F q r s t u v w y->G q r s t u v w y->P):P:=h.elim λx h=>tK h (k x)
theorem pP.{a,b,c,d,e}{α:Sort a}{β:Sort b}{f:Sort c}{g:Sort d}{i:Sort e}{A:α->β->f->g->i->Prop}{B:α->β->f->g->i->Prop}{C:α->β->f->g->i->Prop}{D:α->β->f->g->i->Prop}{F:α->β->f->g->i->Prop}{G:α->β->f->g->i->Prop}{H:α->β->f->g->i->Prop}{I:α->β->f->g->i->Prop}{j:α->β->f->g->i->Prop}{K:α->β->f->g->i->Prop}{P:Prop}(h:∃l,∃m,∃n,∃o,∃p,A l m n o p/\B l m n o p/\C l m n o p/\D l m n o p/\F l m n o p/\G l m n o p/\H l m n o p/\I l m n o p/\j l m n o p/\K l m n o p)(k:∀l,∀m,∀n,∀o,∀p,A l m n o p->B l m n o p->C l m n o p->D l m n o p->F l m n o p->G l m n o p->H l m n o p->I l m n o p->j l m n o p->K l m n o p->P):P:=h.elim λx h=>rD h (k x)
theorem pY.{a,b,c,d,e,f,g,i,j}{α:Sort a}{β:Sort b}{l:Sort c}{m:Sort d}{n:Sort e}{o:Sort f}{p:Sort g}{q:Sort i}{r:Sort j}{A:α->β->l->m->n->o->p->q->r->Prop}{B:α->β->l->m->n->o->p->q->r->Prop}{C:α->β->l->m->n->o->p->q->r->Prop}{D:α->β->l->m->n->o->p->q->r->Prop}{F:α->β->l->m->n->o->p->q->r->Prop}{G:α->β->l->m->n->o->p->q->r->Prop}{P:Prop}(h:∃s,∃t,∃u,∃v,∃w,∃y,∃z,∃E,∃H,A s t u v w y z E H/\B s t u v w y z E H/\C s t u v w y z E H/\D s t u v w y z E H/\F s t u v w y z E H/\G s t u v w y z E H)(k:∀s,∀t,∀u,∀v,∀w,∀y,∀z,∀E,∀H,A s t u v w y z E H->B s t u v w y z E H->C s t u v w y z E H->D s t u v w y z E H->F s t u v w y z E H->G s t u v w y z E H->P):P:=h.elim λx h=>rK h (k x)
theorem nY.{a,b,c,d,e}{α:Sort a}{β:Sort b}{f:Sort c}{g:Sort d}{i:Sort e}{A:Prop}{B:α->β->f->g->i->Prop}{C:α->β->f->g->i->Prop}{D:α->β->f->g->i->Prop}{F:α->β->f->g->i->Prop}{G:α->β->f->g->i->Prop}{H:α->β->f->g->i->Prop}{I:α->β->f->g->i->Prop}{j:α->β->f->g->i->Prop}{K:α->β->f->g->i->Prop}{L:α->β->f->g->i->Prop}{P:Prop}(h:A/\∃l,∃m,∃n,∃o,∃p,B l m n o p/\C l m n o p/\D l m n o p/\F l m n o p/\G l m n o p/\H l m n o p/\I l m n o p/\j l m n o p/\K l m n o p/\L l m n o p)(k:A->∀l,∀m,∀n,∀o,∀p,B l m n o p->C l m n o p->D l m n o p->F l m n o p->G l m n o p->H l m n o p->I l m n o p->j l m n o p->K l m n o p->L l m n o p->P):P:=pP h.2 (k h.1)
theorem oM.{a,b,c,d,e,f,g,i,j,l}{α:Sort a}{β:Sort b}{m:Sort c}{n:Sort d}{o:Sort e}{p:Sort f}{q:Sort g}{r:Sort i}{s:Sort j}{t:Sort l}{A:α->β->m->n->o->p->q->r->s->t->Prop}{B:α->β->m->n->o->p->q->r->s->t->Prop}{C:α->β->m->n->o->p->q->r->s->t->Prop}{D:α->β->m->n->o->p->q->r->s->t->Prop}{F:α->β->m->n->o->p->q->r->s->t->Prop}{G:α->β->m->n->o->p->q->r->s->t->Prop}{P:Prop}(h:∃u,∃v,∃w,∃y,∃z,∃E,∃H,∃I,∃J,∃K,A u v w y z E H I J K/\B u v w y z E H I J K/\C u v w y z E H I J K/\D u v w y z E H I J K/\F u v w y z E H I J K/\G u v w y z E H I J K)(k:∀u,∀v,∀w,∀y,∀z,∀E,∀H,∀I,∀J,∀K,A u v w y z E H I J K->B u v w y z E H I J K->C u v w y z E H I J K->D u v w y z E H I J K->F u v w y z E H I J K->G u v w y z E H I J K->P):P:=h.elim λx h=>pY h (k x)
theorem mJ.{a,b,c,d,e,f,g,i,j,l,m}{α:Sort a}{β:Sort b}{n:Sort c}{o:Sort d}{p:Sort e}{q:Sort f}{r:Sort g}{s:Sort i}{t:Sort j}{u:Sort l}{v:Sort m}{A:α->β->n->o->p->q->r->s->t->u->v->Prop}{B:α->β->n->o->p->q->r->s->t->u->v->Prop}{C:α->β->n->o->p->q->r->s->t->u->v->Prop}{D:α->β->n->o->p->q->r->s->t->u->v->Prop}{F:α->β->n->o->p->q->r->s->t->u->v->Prop}{G:α->β->n->o->p->q->r->s->t->u->v->Prop}{P:Prop}(h:∃w,∃y,∃z,∃E,∃H,∃I,∃J,∃K,∃L,∃M,∃N,A w y z E H I J K L M N/\B w y z E H I J K L M N/\C w y z E H I J K L M N/\D w y z E H I J K L M N/\F w y z E H I J K L M N/\G w y z E H I J K L M N)(k:∀w,∀y,∀z,∀E,∀H,∀I,∀J,∀K,∀L,∀M,∀N,A w y z E H I J K L M N->B w y z E H I J K L M N->C w y z E H I J K L M N->D w y z E H I J K L M N->F w y z E H I J K L M N->G w y z E H I J K L M N->P):P:=h.elim λx h=>oM h (k x)
open PySem PySem.W PyProof.Rows PySem.Calls
inductive V where|none|bool (b:Bool)|int (i:Int)|str (s:List Nat)|bytes (b:List Nat)|tup (vs:List V)|rng (a b c:Int)|ref (a:Nat)
inductive AO where|list(vs:List V)|dictI (a:List (Int×V))(ep:Nat)|dictS (a:List (List Nat×V))|ba (b:List Nat)|inst (c:Nat)(dx:Nat)|attrs (fs:List (Nat×V))|ro (vs:List V)
noncomputable abbrev Hp:=Nat->Option AO
noncomputable abbrev aR:=Nat->Option V
noncomputable abbrev QV:=V->Hp->Prop
noncomputable abbrev QX:=Nat->Hp->Prop
noncomputable abbrev QR:=aR->Hp->Prop
noncomputable abbrev QE:=aR->Nat->Hp->Prop
noncomputable def fU(H:Hp)(a:Nat)(o:AO):Hp:=λb=>if b=a then some o else H b
noncomputable def bM(ρ:aR)(i:Nat)(v:V):aR:=λj=>if j=i then some v else ρ j
noncomputable def FE(o:AO)(Q:QV)(H:Hp):Prop:=∀a,H a=none->Q (.ref a) (fU H a o)
@[irreducible]noncomputable def dL(o:AO)(Q:QV)(H:Hp):Prop:=FE o Q H
theorem dL.b{H:Hp}{o:AO}{Q:QV}(h:dL o Q H):FE o Q H:=by unfold dL at h;exact h
theorem dL.k{H:Hp}{o:AO}{Q:QV}(h:FE o Q H):dL o Q H:=by unfold dL;exact h
inductive ue where|add|sub|mul|fdiv|mod|pow|shl|shr|and|or|xor deriving DecidableEq
inductive wE where|eq|ne|lt|le|gt|ge deriving DecidableEq
inductive Bi where|len|sorted|sum|min|max|abs|int|int2|bytes|bytearray|isInt|isBool|list|str|range deriving DecidableEq
inductive iw where|v(i:Nat)|t (is:List Nat)
inductive Sk where|val|enum|rev deriving DecidableEq
set_option genCtorIdx false in mutual inductive E where|var (i:Nat)|cint (n:Int)|cstr (s:List Nat)|cbool (b:Bool)|cnone|bin (op:ue)(a b:E)|neg (a:E)|not (a:E)|cmp (op:wE)(a b:E)|chain2 (g h:wE)(a b c:E)|chain3 (g h j:wE)(a b c d:E)|isN (a:E)|inD (pos:Bool)(a d:E)|and (a:E)(r:EL)|or (a:E)(r:EL)|ite (c a b:E)|idx (a i:E)|slLo (a lo:E)|slHi (a hi:E)|slB (a lo hi:E)|slRev (a:E)|attr (o:E)(f:Nat)|list (p:EL)|tup (p:EL)|dct0|dct1 (k:Int)(v:E)|dct2 (k l:List Nat)(v u:E)|comp (q:E)(t:iw)(sk:Sk)(w:E)|compIf (q:E)(t:iw)(sk:Sk)(w:E)(c:E)|call (f:Nat)(args:EL)|new (c:Nat)(args:EL)|meth (o:E)(m:Nat)(args:EL)|bi (b:Bi)(args:EL)|app (o x:E)|join (o x:E)|fs (x:E)|bad inductive EL where|nil|cons (e:E)(r:EL)end
set_option genCtorIdx false in mutual inductive S where|asg (x:Nat)(e:E)|asgT (xs:List Nat)(e:E)|asgA (o:E)(f:Nat)(e:E)|asgI (o i e:E)|augV (x:Nat)(op:ue)(e:E)|augA (o:E)(f:Nat)(op:ue)(e:E)|augI (o i:E)(op:ue)(e:E)|ex (e:E)|ite (c:E)(a b:SL)|for_ (t:iw)(sk:Sk)(d:E)(body:SL)|whl (c:E)(body:SL)|ret (e:E)|retN|raise (c:Nat)(e:E)|try1 (body:SL)(c:Nat)(h:SL)|try2 (body:SL)(c:Nat)(h:SL)(g:Nat)(h':SL)|cont|bad inductive SL where|nil|cons (s:S)(r:SL)end
noncomputable def lim:Int:=2^250
noncomputable def Sm(x:Int):Prop:=-1809251394333065553493296640760748560207343510400633813116524750123642650624<x/\x<1809251394333065553493296640760748560207343510400633813116524750123642650624
noncomputable def FA(x:Int):Prop:=-9223372036854775808<x/\x<9223372036854775808
noncomputable def MulOk(x y:Int):Prop:=(Sm x/\Sm y)\/FA x\/FA y
noncomputable def cu:Nat:=1048576
noncomputable def AF{α:Type}(n:Nat)(xs:List α):List α:=(List.replicate n xs).flatten
noncomputable def Nb(op:ue)(x y:Int)(Q:QV)(H:Hp):Prop:=match op with|.add=>Q (.int (x+y)) H|.sub=>Q (.int (x-y)) H|.mul=>MulOk x y/\Q (.int (x*y)) H|.fdiv=>0<y/\Sm y/\Q (.int (x/y)) H|.mod=>0<y/\Q (.int (x%y)) H|.pow=>0<=x/\x<=1000/\0<=y/\y<=1000/\Q (.int (x^y.toNat)) H|.shl=>0<=y/\y<=100000/\Sm x/\Q (.int (x*2^y.toNat)) H|.shr=>0<=y/\Q (.int (x/2^y.toNat)) H|.and=>0<=x/\0<=y/\Q (.int ((x.toNat&&&y.toNat:Nat):Int)) H|.or=>0<=x/\0<=y/\Q (.int ((x.toNat|||y.toNat:Nat):Int)) H|.xor=>0<=x/\0<=y/\Q (.int ((x.toNat^^^y.toNat:Nat):Int)) H
noncomputable def AP(op:ue)(a b:V)(Q:QV)(H:Hp):Prop:=match a,b with|.int x,.int y=>Nb op x y Q H|.str x,.str y=>op=.add/\x.length+y.length<=cu/\Q (.str (x++y)) H|.str x,.int n=>op=.mul/\0<=n/\n.toNat*x.length<=cu/\n<=cu/\Q (.str (AF n.toNat x)) H|.bytes x,.bytes y=>op=.add/\x.length+y.length<=cu/\Q (.bytes (x++y)) H|.ref a,.ref b=>op=.add/\∃xs c,H a=some (.list xs)/\H b=some (.list c)/\xs.length+c.length<=cu/\dL (.list (xs++c)) Q H|.ref a,.int n=>op=.mul/\∃xs,H a=some (.list xs)/\n.toNat*xs.length<=cu/\0<=n/\n<=cu/\dL (.list (AF n.toNat xs)) Q H|_,_=>False
@[irreducible]noncomputable def bK(op:ue)(a b:V)(Q:QV)(H:Hp):Prop:=AP op a b Q H
theorem bK.b{op:ue}{a b:V}{H:Hp}{Q:QV}(h:bK op a b Q H):AP op a b Q H:=by unfold bK at h;exact h
theorem bK.k{op:ue}{a b:V}{H:Hp}{Q:QV}(h:AP op a b Q H):bK op a b Q H:=by unfold bK;exact h
noncomputable def mQ(op:ue)(a b:V)(Q:QV)(H:Hp):Prop:=match a,b with
 |.int x,.int y=>match op with
  |.add=>Q (.int (x+y)) H|.sub=>Q (.int (x-y)) H|op=>bK op (.int x) (.int y) Q H
 |a,b=>bK op a b Q H
theorem mQ.b{op:ue}{a b:V}{H:Hp}{Q:QV}(h:mQ op a b Q H):AP op a b Q H:=by
 cases a with
 |int x=>cases b with
  |int y=>cases op<;>first|exact h|exact bK.b h
  |_=>exact bK.b h
 |_=>exact bK.b h
noncomputable def iL(p:List Int):AO:=.list (p.map .int)
noncomputable def f7(x:List Nat):Bool:=x.all λc=>decide (c<128)
noncomputable def OO(a b:V)(H:Hp)(r:Bool):Prop:=match a,b with|.int x,.int y=>r=(x==y)|.str x,.str y=>r=(x==y)|.bytes x,.bytes y=>r=(x==y)|.ref a,.ref b=>∃p q,H a=some (iL p)/\H b=some (iL q)/\r=(p==q)|.tup u,.tup v=>∃a x b y p q,u=[.ref a,.str x]/\v=[.ref b,.str y]/\H a=some (iL p)/\H b=some (iL q)/\f7 x=true/\f7 y=true/\r=(p==q&&x==y)|_,_=>False
noncomputable def OR(a b:V)(H:Hp)(K:Bool->Prop):Prop:=match a,b with|.int x,.int y=>(x=y->K true)/\(x≠y->K false)|.str x,.str y=>(x=y->K true)/\(x≠y->K false)|.bytes x,.bytes y=>(x=y->K true)/\(x≠y->K false)|.ref a,.ref b=>∃p q,H a=some (iL p)/\H b=some (iL q)/\(p=q->K true)/\(p≠q->K false)|.tup u,.tup v=>∃a x b y p q,u=[.ref a,.str x]/\v=[.ref b,.str y]/\H a=some (iL p)/\H b=some (iL q)/\f7 x=true/\f7 y=true/\((p=q/\x=y)->K true)/\(¬(p=q/\x=y)->K false)|_,_=>False
noncomputable def Eb(op:wE)(a b:V)(Q:QV)(H:Hp):Prop:=match op with
 |.eq=>OR a b H λr=>Q (.bool r) H|.ne=>OR a b H λr=>Q (.bool (!r)) H|.lt=>match a,b with|.int x,.int y=>(x<y->Q (.bool true) H)/\(¬x<y->Q (.bool false) H)|_,_=>False
 |.le=>match a,b with|.int x,.int y=>(x<=y->Q (.bool true) H)/\(¬x<=y->Q (.bool false) H)|_,_=>False
 |.gt=>match a,b with|.int x,.int y=>(y<x->Q (.bool true) H)/\(¬y<x->Q (.bool false) H)|_,_=>False
 |.ge=>match a,b with|.int x,.int y=>(y<=x->Q (.bool true) H)/\(¬y<=x->Q (.bool false) H)|_,_=>False
@[irreducible]noncomputable def bP(op:wE)(a b:V)(Q:QV)(H:Hp):Prop:=Eb op a b Q H
theorem bP.b{op:wE}{a b:V}{H:Hp}{Q:QV}(h:bP op a b Q H):Eb op a b Q H:=by unfold bP at h;exact h
theorem bP.k{op:wE}{a b:V}{H:Hp}{Q:QV}(h:Eb op a b Q H):bP op a b Q H:=by unfold bP;exact h
noncomputable def D_(o i:V)(Q:QV)(H:Hp):Prop:=match o,i with|.ref a,.int k=>(∃xs v,H a=some (.list xs)/\0<=k/\xs.length<=cu/\xs[k.toNat]?=some v/\Q v H)\/(∃c ep v,H a=some (.dictI c ep)/\c.lookup k=some v/\Q v H)|.ref a,.str k=>∃c v,H a=some (.dictS c)/\c.lookup k=some v/\Q v H|.tup vs,.int k=>∃v,0<=k/\vs.length<=cu/\vs[k.toNat]?=some v/\Q v H|.bytes b,.int k=>∃v:Nat,0<=k/\b.length<=cu/\b[k.toNat]?=some v/\Q (.int v) H|.str b,.int k=>∃v,0<=k/\b.length<=cu/\b[k.toNat]?=some v/\Q (.str [v]) H|_,_=>False
@[irreducible]noncomputable def dZ(o i:V)(Q:QV)(H:Hp):Prop:=D_ o i Q H
theorem dZ.b{o i:V}{H:Hp}{Q:QV}(h:dZ o i Q H):D_ o i Q H:=by unfold dZ at h;exact h
theorem dZ.k{o i:V}{H:Hp}{Q:QV}(h:D_ o i Q H):dZ o i Q H:=by unfold dZ;exact h
noncomputable def eg{α:Type}(lo hi:Option Int)(xs:List α):List α:=(xs.drop (kms_lo lo xs.length)).take (kms_hi hi xs.length-kms_lo lo xs.length)
noncomputable def Pg(o:V)(lo hi:Option Int)(Q:QV)(H:Hp):Prop:=match o with|.ref a=>∃xs,(H a=some (.list xs)\/H a=some (.ro xs))/\xs.length<=cu/\dL (.list (eg lo hi xs)) Q H|.str x=>x.length<=cu/\Q (.str (eg lo hi x)) H|.bytes x=>x.length<=cu/\kms_hi hi x.length<x.length/\Q (.bytes (eg lo hi x)) H|_=>False
inductive EF:V->Option Int->Prop|none:EF .none none|int (i:Int):EF (.int i) (some i)
noncomputable def Kz(o lo hi:V)(Q:QV)(H:Hp):Prop:=∃l h,EF lo l/\EF hi h/\Pg o l h Q H
@[irreducible]noncomputable def uT(o lo hi:V)(Q:QV)(H:Hp):Prop:=Kz o lo hi Q H
theorem uT.b{o lo hi:V}{H:Hp}{Q:QV}(h:uT o lo hi Q H):Kz o lo hi Q H:=by unfold uT at h;exact h
theorem uT.k{o lo hi:V}{H:Hp}{Q:QV}(h:Kz o lo hi Q H):uT o lo hi Q H:=by unfold uT;exact h
noncomputable def Gp(o:V)(Q:QV)(H:Hp):Prop:=∃x,o=.str x/\x.length<=cu/\Q (.str x.reverse) H
@[irreducible]noncomputable def xy(o:V)(Q:QV)(H:Hp):Prop:=Gp o Q H
theorem xy.b{o:V}{H:Hp}{Q:QV}(h:xy o Q H):Gp o Q H:=by unfold xy at h;exact h
theorem xy.k{o:V}{H:Hp}{Q:QV}(h:Gp o Q H):xy o Q H:=by unfold xy;exact h
noncomputable def Kf(o:V)(H:Hp)(c:Nat):Prop:=∃a dx fs,o=.ref a/\H a=some (.inst c dx)/\H dx=some (.attrs fs)
noncomputable def zz(o:V)(f:Nat)(Q:QV)(H:Hp):Prop:=∃a c dx fs v,o=.ref a/\H a=some (.inst c dx)/\H dx=some (.attrs fs)/\fs.lookup f=some v/\Q v H
@[irreducible]noncomputable def fa(o:V)(f:Nat)(Q:QV)(H:Hp):Prop:=zz o f Q H
theorem fa.b{o:V}{f:Nat}{H:Hp}{Q:QV}(h:fa o f Q H):zz o f Q H:=by unfold fa at h;exact h
theorem fa.k{o:V}{f:Nat}{H:Hp}{Q:QV}(h:zz o f Q H):fa o f Q H:=by unfold fa;exact h
noncomputable def oj{α β:Type}[BEq α](k:α)(v:β):List (α×β)->List (α×β)|[]=>[(k,v)]|(k',a)::r=>if k'==k then(k',v)::r else(k',a)::oj k v r
theorem pj{α β:Type}[BEq α]{k k':α}{v a:β}{r:List (α×β)}:oj k v ((k',a)::r)=if k'==k then(k',v)::r else(k',a)::oj k v r:=rfl
noncomputable def nR(o:V)(f:Nat)(v:V)(Q:Hp->Prop)(H:Hp):Prop:=∃a c dx fs,o=.ref a/\H a=some (.inst c dx)/\H dx=some (.attrs fs)/\fs.length<500/\Q (fU H dx (.attrs (oj f v fs)))
@[irreducible]noncomputable def cb(o:V)(f:Nat)(v:V)(Q:Hp->Prop)(H:Hp):Prop:=nR o f v Q H
theorem cb.b{o:V}{f:Nat}{v:V}{H:Hp}{Q:Hp->Prop}(h:cb o f v Q H):nR o f v Q H:=by unfold cb at h;exact h
theorem cb.k{o:V}{f:Nat}{v:V}{H:Hp}{Q:Hp->Prop}(h:nR o f v Q H):cb o f v Q H:=by unfold cb;exact h
noncomputable def sS(o i v:V)(Q:Hp->Prop)(H:Hp):Prop:=match o,i with|.ref a,.int k=>(∃xs,H a=some (.list xs)/\0<=k/\k.toNat<xs.length/\xs.length<=cu/\Q (fU H a (.list (xs.set k.toNat v))))\/ (∃b ep,H a=some (.dictI b ep)/\b.length<=cu/\∀ep,Q (fU H a (.dictI (oj k v b) ep)))|.ref a,.str k=>(∃b,H a=some (.dictS b)/\b.length<=cu/\Q (fU H a (.dictS (oj k v b))))\/(∃ep,H a=some (.dictI [] ep)/\Q (fU H a (.dictS [(k,v)])))|_,_=>False
@[irreducible]noncomputable def a_(o i v:V)(Q:Hp->Prop)(H:Hp):Prop:=sS o i v Q H
theorem a_.b{o i v:V}{H:Hp}{Q:Hp->Prop}(h:a_ o i v Q H):sS o i v Q H:=by unfold a_ at h;exact h
theorem a_.k{o i v:V}{H:Hp}{Q:Hp->Prop}(h:sS o i v Q H):a_ o i v Q H:=by unfold a_;exact h
noncomputable def inR(x d:V)(H:Hp)(r:Bool):Prop:=∃k a b ep,x=.int k/\d=.ref a/\H a=some (.dictI b ep)/\r=(b.lookup k).isSome
noncomputable def Lc(x d:V)(H:Hp)(K:Bool->Prop):Prop:=∃k a b ep,x=.int k/\d=.ref a/\H a=some (.dictI b ep)/\((b.lookup k).isSome=true->K true)/\((b.lookup k).isSome=false->K false)
@[irreducible]noncomputable def GX(x d:V)(H:Hp)(K:Bool->Prop):Prop:=Lc x d H K
theorem GX.b{x d:V}{H:Hp}{K:Bool->Prop}(h:GX x d H K):Lc x d H K:=by unfold GX at h;exact h
theorem GX.k{x d:V}{H:Hp}{K:Bool->Prop}(h:Lc x d H K):GX x d H K:=by unfold GX;exact h
noncomputable def cJ(a b c:Int):List Int:=if 0<c then(List.range ((b-a+c-1)/c).toNat).map (λ(i:Nat)=>a+c*(i:Int))else[]
noncomputable def bA:Nat->List V->List V|_,[]=>[]|n,x::r=>.tup [.int n,x]::bA (n+1) r
noncomputable def FV(v:V)(H:Hp)(l:List V):Prop:=match v with|.rng a b c=>l=(cJ a b c).map .int|.tup vs=>l=vs|.bytes b=>l=b.map λ(n:Nat)=>.int n|.ref a=>H a=some (.list l)\/∃d ep,H a=some (.dictI d ep)/\l=d.map λe=>.int e.1|_=>False
noncomputable def FG(sk:Sk)(v:V)(H:Hp)(l:List V):Prop:=match sk with|.val=>FV v H l|.enum=>(∃a xs,v=.ref a/\H a=some (.list xs)/\l=bA 0 xs)\/∃b,v=.bytes b/\l=bA 0 (b.map λ(n:Nat)=>.int n)|.rev=>∃a xs,v=.ref a/\H a=some (.list xs)/\l=xs.reverse
noncomputable def b_(v:V)(H Z:Hp):Prop:=match v with|.ref a=>Z a=H a|_=>True
noncomputable def Cc(a b:Nat)(P:Prop):Prop:=match Nat.beq a b with|true=>P|false=>False
theorem Cc.e{a b:Nat}{P:Prop}(h:Cc a b P):a=b/\P:=by unfold Cc at h;cases e:Nat.beq a b with|true=>rw[e]at h;exact⟨ml e,h⟩|false=>rw[e]at h;exact h.elim
theorem Cc.k{a b:Nat}{P:Prop}(e:a=b)(h:P):Cc a b P:=by unfold Cc;rw[e,show Nat.beq b b=true from Nat.beq_refl b];exact h
noncomputable def dC(t:iw)(x:V)(ρ:aR)(K:aR->Prop):Prop:=match t with|.v i=>K (bM ρ i x)|.t is=>match x with|.tup vs=>Cc is.length vs.length (K ((is.zip vs).foldl (λr p=>bM r p.1 p.2) ρ))|_=>False
noncomputable def QB(a:Bool->Hp->Prop):QV:=λv H=>match v with|.bool b=>a b H|_=>False
noncomputable def BP(x:V)(P R:Hp->Prop):Hp->Prop:=QB (λb=>cond b P R) x
noncomputable def G4(x:V)(K:Int->Hp->Prop)(H:Hp):Prop:=match x with|.int i=>K i H|_=>False
noncomputable def OA(x:Option V)(Q:QV)(H:Hp):Prop:=match x with|some v=>Q v H|none=>False
noncomputable def Fo(x:V)(P:Hp->Prop)(H:Hp):Prop:=match x with|.none=>P H|_=>False
noncomputable def OD(x:V)(P:Hp->Prop)(H:Hp):Prop:=match x with|.str _=>P H|_=>False
noncomputable def O0(x:V)(Q:QV):Hp->Prop:=QB (λb=>Q (.bool (!b))) x
noncomputable def M4(x:V)(Q:QV)(H:Hp):Prop:=match x with|.none=>Q (.bool true) H|.int _=>Q (.bool false) H|_=>False
noncomputable def Qe(x:V)(Q:QV):Hp->Prop:=G4 x λi H=>0<=i/\i<1000000/\∀s,Q (.str s) H
noncomputable def JT(x:Option Nat)(K:Nat->Hp->Prop)(H:Hp):Prop:=match x with|some f=>K f H|none=>False
noncomputable def rW(hd:Bool)(P:Hp->Prop)(H:Hp):Prop:=match hd with|false=>P H|true=>False
theorem rW.e{hd:Bool}{P:Hp->Prop}{H:Hp}(h:rW hd P H):hd=false/\P H:=by cases hd with|false=>exact⟨rfl,h⟩|true=>exact h.elim
noncomputable def GZ(hd:Bool)(b:Bi)(P:Hp->Prop)(H:Hp):Prop:=match hd with|false=>P H|true=>b=.len/\P H
theorem GZ.e{hd:Bool}{b:Bi}{P:Hp->Prop}{H:Hp}(h:GZ hd b P H):(hd=true->b=.len)/\P H:=by cases hd with|false=>exact⟨nofun,h⟩|true=>exact⟨λa=>h.1,h.2⟩
theorem GZ.l{hd:Bool}{P:Hp->Prop}{H:Hp}(h:P H):GZ hd .len P H:=by cases hd with|false=>exact h|true=>exact⟨rfl,h⟩
noncomputable def LW(n:Nat)(P:Hp->Prop)(H:Hp):Prop:=match Nat.ble n 1048576 with|true=>P H|false=>False
theorem LW.e{n:Nat}{P:Hp->Prop}{H:Hp}(h:LW n P H):n<=cu/\P H:=by unfold LW at h;cases e:Nat.ble n 1048576 with|true=>rw[e]at h;exact⟨oE e,h⟩|false=>rw[e]at h;exact h.elim
theorem Bf{x:Option Nat}{K:Nat->Hp->Prop}{H:Hp}(h:JT x K H):∃f,x=some f/\K f H:=by cases x with|none=>exact h.elim|some f=>exact⟨f,rfl,h⟩
noncomputable def Pb(P:Nat->Hp->Prop)(H:Hp):Prop:=∃n,P n H
theorem NA{x:V}{P:Hp->Prop}{H:Hp}(h:OD x P H):∃l,x=.str l/\P H:=by cases x with|str l=>exact⟨l,rfl,h⟩|_=>exact h.elim
@[irreducible]noncomputable def tN(x:V)(K:Nat->Hp->Prop)(H:Hp):Prop:=∃c,Kf x H c/\K c H
theorem tN.b{x:V}{K:Nat->Hp->Prop}{H:Hp}(h:tN x K H):∃c,Kf x H c/\K c H:=by unfold tN at h;exact h
theorem d9{a c dx:Nat}{fs:List (Nat×V)}{K:Nat->Hp->Prop}{H:Hp}(b:H a=some (.inst c dx))(d:H dx=some (.attrs fs))(k:K c H):tN (.ref a) K H:=by unfold tN;exact⟨c,⟨a,dx,fs,rfl,b,d⟩,k⟩
@[irreducible]noncomputable def gc(sk:Sk)(v:V)(K:(Hp->Prop)->List V->Hp->Prop)(H:Hp):Prop:=∃items,FG sk v H items/\items.length<=cu/\K (b_ v H) items H
theorem gc.b{sk:Sk}{v:V}{K:(Hp->Prop)->List V->Hp->Prop}{H:Hp}(h:gc sk v K H):∃items,FG sk v H items/\items.length<=cu/\K (b_ v H) items H:=by unfold gc at h;exact h
theorem dk{sk:Sk}{v:V}{l:List V}{K:(Hp->Prop)->List V->Hp->Prop}{H:Hp}(h:FG sk v H l)(a:l.length<=cu)(k:K (b_ v H) l H):gc sk v K H:=by unfold gc;exact⟨l,h,a,k⟩
noncomputable abbrev G3:=QR->QR->QV->QE->aR->Hp->Prop
noncomputable def ju(t:iw)(same:Hp->Prop)(body:G3):List V->QR->QV->QE->aR->Hp->Prop|[],nx,_,_,ρ,H=>same H/\nx ρ H|x::xs,nx,rt,ex,ρ,H=>same H/\dC t x ρ λO=>body (ju t same body xs nx rt ex) (ju t same body xs nx rt ex) rt ex O H
noncomputable abbrev GY:=aR->QV->Hp->Prop
noncomputable def jT(t:iw)(same:Hp->Prop)(cond a:GY)(ρ:aR):List V->List V->QV->Hp->Prop|[],acc,Q,H=>same H/\acc.length<=cu/\dL (.list acc) Q H|x::xs,acc,Q,H=>same H/\dC t x ρ λO=>cond O (λc=>BP c (a O (λv=>jT t same cond a ρ xs (acc++[v]) Q)) (jT t same cond a ρ xs acc Q)) H
noncomputable def xz(a:GY)(body:G3):Nat->QR->QV->QE->aR->Hp->Prop|0,_,_,_,_,_=>False|n+1,nx,rt,ex,ρ,H=>a ρ (λc=>BP c (body (xz a body n nx rt ex) (xz a body n nx rt ex) rt ex ρ) (nx ρ)) H
noncomputable def li{α:Type}(le:α->α->Bool)(x:α):List α->List α|[]=>[x]|y::r=>if le x y then x::y::r else y::li le x r
theorem qC{α:Type}{le:α->α->Bool}{x y:α}{r:List α}:li le x (y::r)=if le x y then x::y::r else y::li le x r:=rfl
noncomputable def dz{α:Type}(le:α->α->Bool):List α->List α|[]=>[]|x::r=>li le x (dz le r)
noncomputable def jU(x:Int×Int):V:=.tup [.int x.1,.int x.2]
noncomputable def bV(x y:Int×Int):Bool:=decide (x.1<y.1)||(x.1==y.1&&decide (x.2<=y.2))
noncomputable def hF:List Nat->Option Nat|l=>l.foldl (λa c=>a.bind λn=>if c=48 then some (2*n)else if c=49 then some (2*n+1)else none) (some 0)
noncomputable def C8(b:Bi)(args:List V)(Q:QV)(H:Hp):Prop:=match b with|.len=>(∃a xs,args=[.ref a]/\(H a=some (.list xs)\/H a=some (.ro xs))/\xs.length<=cu/\Q (.int xs.length) H)\/ (∃a xs,args=[.ref a]/\H a=some (.ba xs)/\xs.length<=cu/\Q (.int xs.length) H)\/∃x,(args=[.str x]\/args=[.bytes x])/\x.length<=cu/\Q (.int x.length) H|.sorted=>(∃a p,args=[.ref a]/\H a=some (.list (p.map jU))/\p.length<=6/\p.Nodup/\dL (.list ((dz bV p).map jU)) Q H)\/∃a d ep,args=[.ref a]/\H a=some (.dictI d ep)/\d.length<64/\dL (iL (dz (λx y=>decide (x<=y)) (d.map (·.1)))) Q H|.sum=>∃a p,args=[.ref a]/\H a=some (iL p)/\p.length<=cu/\Q (.int p.sum) H|.min=>(∃x y,args=[.int x,.int y]/\Q (.int (if y<x then y else x)) H)\/∃a p,args=[.ref a]/\H a=some (iL p)/\p≠[]/\p.length<=cu/\∀m,m∈p->(∀x∈p,m<=x)->Q (.int m) H|.max=>(∃x y,args=[.int x,.int y]/\Q (.int (if x<y then y else x)) H)\/∃a p,args=[.ref a]/\H a=some (iL p)/\p≠[]/\p.length<=cu/\∀m,m∈p->(∀x∈p,x<=m)->Q (.int m) H|.abs=>∃x,args=[.int x]/\Q (.int (if x<0 then-x else x)) H|.int=>∃b,args=[.bool b]/\Q (.int (if b then 1 else 0)) H|.int2=>∃x n,args=[.str x,.int 2]/\x≠[]/\x.length<=64/\hF x=some n/\Q (.int n) H|.bytes=>(∃x,args=[.bytes x]/\Q (.bytes x) H)\/(∃a p,args=[.ref a]/\H a=some (iL p)/\(∀x∈p,0<=x/\x<256)/\p.length<=cu/\Q (.bytes (p.map Int.toNat)) H)\/∃a xs,args=[.ref a]/\H a=some (.ba xs)/\xs.length<=cu/\Q (.bytes xs) H|.isInt=>∃x,args=[.int x]/\Q (.bool true) H|.isBool=>∃x,args=[.int x]/\Q (.bool false) H|.list=>∃a xs,args=[.ref a]/\H a=some (.list xs)/\xs.length<=cu/\dL (.list xs) Q H|.str=>∃x,args=[.int x]/\0<=x/\x<10/\Q (.str [48+x.toNat]) H|.range=>(∃b,args=[.int b]/\-(2^62)<=b/\b<2^62/\Q (.rng 0 b 1) H)\/(∃a b,args=[.int a,.int b]/\-(2^62)<=a/\a<2^62/\-(2^62)<=b/\b<2^62/\Q (.rng a b 1) H)\/∃a b c,args=[.int a,.int b,.int c]/\0<=a/\a<2^60/\-(2^60)<=b/\b<2^60/\0<c/\c<2^60/\Q (.rng a b c) H|.bytearray=>False
@[irreducible]noncomputable def dR(b:Bi)(args:List V)(Q:QV)(H:Hp):Prop:=C8 b args Q H
theorem dR.b{b:Bi}{args:List V}{H:Hp}{Q:QV}(h:dR b args Q H):C8 b args Q H:=by unfold dR at h;exact h
theorem dR.k{b:Bi}{args:List V}{H:Hp}{Q:QV}(h:C8 b args Q H):dR b args Q H:=by unfold dR;exact h
noncomputable def zU(o x:V)(Q:QV)(H:Hp):Prop:=∃(a:Nat)(p:List (List Nat)),o=.str []/\x=.ref a/\H a=some (.list (p.map V.str))/\p.length<=cu/\p.flatten.length<=cu/\Q (.str p.flatten) H
@[irreducible]noncomputable def lm(o x:V)(Q:QV)(H:Hp):Prop:=zU o x Q H
theorem lm.b{o x:V}{H:Hp}{Q:QV}(h:lm o x Q H):zU o x Q H:=by unfold lm at h;exact h
theorem lm.k{o x:V}{H:Hp}{Q:QV}(h:zU o x Q H):lm o x Q H:=by unfold lm;exact h
noncomputable def En(o x:V)(Q:QV)(H:Hp):Prop:=∃a xs,o=.ref a/\H a=some (.list xs)/\xs.length<cu/\Q .none (fU H a (.list (xs++[x])))
@[irreducible]noncomputable def oU(o x:V)(Q:QV)(H:Hp):Prop:=En o x Q H
theorem oU.b{o x:V}{H:Hp}{Q:QV}(h:oU o x Q H):En o x Q H:=by unfold oU at h;exact h
theorem oU.k{o x:V}{H:Hp}{Q:QV}(h:En o x Q H):oU o x Q H:=by unfold oU;exact h
noncomputable def EJ(o x:V)(Q:QV)(H:Hp):Prop:=∃a xs k,o=.ref a/\x=.int k/\H a=some (.ba xs)/\0<=k/\k<256/\xs.length<cu/\Q .none (fU H a (.ba (xs++[k.toNat])))
@[irreducible]noncomputable def vQ(o x:V)(Q:QV)(H:Hp):Prop:=EJ o x Q H
theorem vQ.b{o x:V}{H:Hp}{Q:QV}(h:vQ o x Q H):EJ o x Q H:=by unfold vQ at h;exact h
theorem vQ.k{o x:V}{H:Hp}{Q:QV}(h:EJ o x Q H):vQ o x Q H:=by unfold vQ;exact h
noncomputable def Pp(o:V)(H:Hp):Prop:=∃a xs,o=.ref a/\H a=some (.list xs)
noncomputable def PR(o:V)(H:Hp):Prop:=∃a xs,o=.ref a/\H a=some (.ba xs)
noncomputable def Fl(c:Nat)(Q:Nat->Hp->Prop)(H:Hp):Prop:=∀a dx,H a=none->H dx=none->a≠dx->Q a (fU (fU H a (.inst c dx)) dx (.attrs []))
@[irreducible]noncomputable def pR(c:Nat)(Q:Nat->Hp->Prop)(H:Hp):Prop:=Fl c Q H
theorem pR.b{H:Hp}{c:Nat}{Q:Nat->Hp->Prop}(h:pR c Q H):Fl c Q H:=by unfold pR at h;exact h
theorem pR.k{H:Hp}{c:Nat}{Q:Nat->Hp->Prop}(h:Fl c Q H):pR c Q H:=by unfold pR;exact h
noncomputable abbrev kC:=Bool->Nat->List V->QV->QX->Hp->Prop
structure cA where
 meth:Nat->Nat->Option Nat
 init:Nat->Option Nat
section
variable(T:cA)(Y:kC)(hd:Bool)
mutual noncomputable def WE:E->aR->QV->QX->Hp->Prop|.var i,ρ,Q,_,H=>OA (ρ i) Q H|.cint n,_,Q,_,H=>Q (.int n) H|.cstr s,_,Q,_,H=>Q (.str s) H|.cbool b,_,Q,_,H=>Q (.bool b) H|.cnone,_,Q,_,H=>Q .none H|.bin op a b,ρ,Q,X,H=>WE a ρ (λx=>WE b ρ (λy=>mQ op x y Q) X) X H|.neg a,ρ,Q,X,H=>WE a ρ (λx=>G4 x λi=>Q (.int (-i))) X H|.not a,ρ,Q,X,H=>WE a ρ (λx=>O0 x Q) X H|.cmp op a b,ρ,Q,X,H=>WE a ρ (λx=>WE b ρ (λy=>bP op x y Q) X) X H|.chain2 g h a b c,ρ,Q,X,H=>WE a ρ (λx=>WE b ρ (λy=>bP g x y (λr=>BP r (WE c ρ (λz=>bP h y z Q) X) (Q (.bool false)))) X) X H|.chain3 g h j a b c d,ρ,Q,X,H=>WE a ρ (λx=>WE b ρ (λy=>bP g x y (λr=>BP r (WE c ρ (λz=>bP h y z (λq=>BP q (WE d ρ (λw=>bP j z w Q) X) (Q (.bool false)))) X) (Q (.bool false)))) X) X H|.isN a,ρ,Q,X,H=>WE a ρ (λx=>M4 x Q) X H|.inD p a d,ρ,Q,X,H=>WE a ρ (λx=>WE d ρ (λy A=>GX x y A λr=>Q (.bool (if p then r else !r)) A) X) X H|.and a r,ρ,Q,X,H=>WE a ρ (λx=>BP x (Nq r ρ Q X) (Q (.bool false))) X H|.or a r,ρ,Q,X,H=>WE a ρ (λx=>BP x (Q (.bool true)) (Ph r ρ Q X)) X H|.ite c a b,ρ,Q,X,H=>WE c ρ (λx=>BP x (WE a ρ Q X) (WE b ρ Q X)) X H|.idx a i,ρ,Q,X,H=>WE a ρ (λx=>WE i ρ (λy=>dZ x y Q) X) X H|.slLo a lo,ρ,Q,X,H=>WE a ρ (λx=>WE lo ρ (λy=>uT x y .none Q) X) X H|.slHi a hi,ρ,Q,X,H=>WE a ρ (λx=>WE hi ρ (λy=>uT x .none y Q) X) X H|.slB a lo hi,ρ,Q,X,H=>WE a ρ (λx=>WE lo ρ (λy=>WE hi ρ (λz=>uT x y z Q) X) X) X H|.slRev a,ρ,Q,X,H=>WE a ρ (λx=>xy x Q) X H|.attr o f,ρ,Q,X,H=>WE o ρ (λx=>fa x f Q) X H|.list B,ρ,Q,X,H=>Bj B ρ (λvs=>LW vs.length (dL (.list vs) Q)) X H|.tup B,ρ,Q,X,H=>Bj B ρ (λvs=>LW vs.length (Q (.tup vs))) X H|.dct0,_,Q,_,H=>∀ep,dL (.dictI [] ep) Q H|.dct1 k v,ρ,Q,X,H=>WE v ρ (λx J=>∀ep,dL (.dictI [(k,x)] ep) Q J) X H|.dct2 k l v u,ρ,Q,X,H=>k≠l/\WE v ρ (λx=>WE u ρ (λy=>dL (.dictS [(k,x),(l,y)]) Q) X) X H|.comp C t sk D,ρ,Q,X,H=>rW hd (WE D ρ (λv=>gc sk v λsame l=>jT t same (λF Q'=>Q' (.bool true)) (λO Q'=>WE C O Q' (λF F=>False)) ρ l [] Q) X) H|.compIf C t sk D c,ρ,Q,X,H=>rW hd (WE D ρ (λv=>gc sk v λsame l=>jT t same (λO Q'=>WE c O Q' (λF F=>False)) (λO Q'=>WE C O Q' (λF F=>False)) ρ l [] Q) X) H|.call f args,ρ,Q,X,H=>Bj args ρ (λvs=>Y hd f vs Q X) X H|.new c args,ρ,Q,X,H=>Bj args ρ (λvs=>JT (T.init c) λf=>pR c (λa=>Y hd f (.ref a::vs) (λv=>Fo v (Q (.ref a))) X)) X H|.meth o m args,ρ,Q,X,H=>WE o ρ (λx=>tN x λc=>JT (T.meth c m) λf=>Bj args ρ (λvs=>Y hd f (x::vs) Q X) X) X H|.bi b args,ρ,Q,X,H=>GZ hd b (Bj args ρ (λvs=>dR b vs Q) X) H|.app o x,ρ,Q,X,H=>WE o ρ (λu J=>Pp u J/\WE x ρ (λv=>oU u v Q) X J) X H|.join o x,ρ,Q,X,H=>rW hd (WE o ρ (λu=>OD u (WE x ρ (λv=>lm u v Q) X)) X) H|.fs x,ρ,Q,X,H=>WE x ρ (λv=>Qe v Q) X H|.bad,_,_,_,_=>False noncomputable def Bj:EL->aR->(List V->Hp->Prop)->QX->Hp->Prop|.nil,_,Q,_,H=>Q [] H|.cons e r,ρ,Q,X,H=>WE e ρ (λv=>Bj r ρ (λvs=>Q (v::vs)) X) X H noncomputable def Nq:EL->aR->QV->QX->Hp->Prop|.nil,_,Q,_,H=>Q (.bool true) H|.cons e r,ρ,Q,X,H=>WE e ρ (λx=>BP x (Nq r ρ Q X) (Q (.bool false))) X H noncomputable def Ph:EL->aR->QV->QX->Hp->Prop|.nil,_,Q,_,H=>Q (.bool false) H|.cons e r,ρ,Q,X,H=>WE e ρ (λx=>BP x (Q (.bool true)) (Ph r ρ Q X)) X H end
mutual noncomputable def WS:S->QR->QR->QV->QE->aR->Hp->Prop|.asg x e,nx,_,_,ex,ρ,H=>WE T Y hd e ρ (λv=>nx (bM ρ x v)) (ex ρ) H|.asgT xs e,nx,_,_,ex,ρ,H=>rW hd (WE T Y hd e ρ (λv J=>dC (.t xs) v ρ λO=>nx O J) (ex ρ)) H|.asgA o f e,nx,_,_,ex,ρ,H=>WE T Y hd e ρ (λv=>WE T Y hd o ρ (λx=>cb x f v (nx ρ)) (ex ρ)) (ex ρ) H|.asgI o i e,nx,_,_,ex,ρ,H=>WE T Y hd e ρ (λv=>WE T Y hd o ρ (λx=>WE T Y hd i ρ (λk=>a_ x k v (nx ρ)) (ex ρ)) (ex ρ)) (ex ρ) H|.augV x op e,nx,_,_,ex,ρ,H=>OA (ρ x) (λd=>G4 d λa=>WE T Y hd e ρ (λv=>G4 v λb=>mQ op (.int a) (.int b) (λr=>nx (bM ρ x r))) (ex ρ)) H|.augA o f op e,nx,_,_,ex,ρ,H=>WE T Y hd o ρ (λx=>fa x f λd=>G4 d λa=>WE T Y hd e ρ (λv=>G4 v λb=>mQ op (.int a) (.int b) (λr=>cb x f r (nx ρ))) (ex ρ)) (ex ρ) H|.augI o i op e,nx,_,_,ex,ρ,H=>WE T Y hd o ρ (λx=>WE T Y hd i ρ (λk=>dZ x k λd=>G4 d λa=>WE T Y hd e ρ (λv=>G4 v λb=>mQ op (.int a) (.int b) (λr=>a_ x k r (nx ρ))) (ex ρ)) (ex ρ)) (ex ρ) H|.ex e,nx,_,_,ex,ρ,H=>WE T Y hd e ρ (λv=>Fo v (nx ρ)) (ex ρ) H|.ite c a b,nx,ct,rt,ex,ρ,H=>WE T Y hd c ρ (λx=>BP x (l5 a nx ct rt ex ρ) (l5 b nx ct rt ex ρ)) (ex ρ) H|.for_ t sk g body,nx,_,rt,ex,ρ,H=>rW hd (WE T Y hd g ρ (λv=>gc sk v λsame l=>ju t same (l5 body) l nx rt ex ρ) (ex ρ)) H|.whl c body,nx,_,rt,ex,ρ,H=>rW hd (Pb λn=>xz (λO Q=>WE T Y hd c O Q (λj j=>False)) (l5 body) n nx rt ex ρ) H|.ret e,_,_,rt,ex,ρ,H=>WE T Y hd e ρ rt (ex ρ) H|.retN,_,_,rt,_,_,H=>rt .none H|.raise c e,_,_,_,ex,ρ,H=>rW hd (WE T Y hd e ρ (λv=>OD v (ex ρ c)) (ex ρ)) H|.try1 body c h,nx,ct,rt,ex,ρ,H=>rW hd (l5 body nx ct rt (λO m Z=>if m=c then D5 h nx ct rt ex O Z else False) ρ) H|.try2 body c h p q,nx,ct,rt,ex,ρ,H=>rW hd (l5 body nx ct rt (λO m Z=>if m=c then D5 h nx ct rt ex O Z else if m=p then D5 q nx ct rt ex O Z else False) ρ) H|.cont,_,ct,_,_,ρ,H=>ct ρ H|.bad,_,_,_,_,_,_=>False noncomputable def l5:SL->QR->QR->QV->QE->aR->Hp->Prop|.nil,nx,_,_,_,ρ,H=>nx ρ H|.cons s r,nx,ct,rt,ex,ρ,H=>WS s (l5 r nx ct rt ex) ct rt ex ρ H noncomputable def D5:SL->QR->QR->QV->QE->aR->Hp->Prop|.cons (.ret e) .nil,_,_,rt,_,ρ,H=>WE T Y true e ρ rt (λj j=>False) H|_,_,_,_,_,_,_=>False end
end
structure Fn where
 params:Nat
 dflts:List V
 body:SL
noncomputable def cp(d:Fn)(args:List V):Option (List V):=if args.length=d.params then some args else if args.length<d.params/\d.params<=args.length+d.dflts.length then some (args++d.dflts.drop (args.length+d.dflts.length-d.params))else none
noncomputable def ei(T:cA)(aI:Nat->Option Fn):Nat->kC|0=>λa a a a a a=>False|n+1=>λhd f args Q X H=>match aI f with|none=>False|some d=>match cp d args with|none=>False|some vs=>l5 T (ei T aI n) hd d.body (λa=>Q .none) (λa a=>False) Q (λa=>X) (λi=>vs[i]?) H
mutual inductive VR(h:Heap):V->Value->Prop|none:VR h .none .none|bool {b:Bool}:VR h (.bool b) (.bool b)|int {i:Int}{t:Tok}:VR h (.int i) (.int i t)|str {s:List Nat}{x:Str}{t:Tok}:x.cps.toList=s->VR h (.str s) (.str x t)|bytes {l:List Nat}{b:Array UInt8}{t:Tok}:b.toList.map (·.toNat)=l->VR h (.bytes l) (.bytes b t)|tup {vs:List V}{a:Addr}{xs:List Value}:IsTup h a xs.toArray->bj h vs xs->VR h (.tup vs) (.ref a)|rng {a b c:Int}{r:Addr}{t u v:Tok}:IsRange h r a b c t u v->Builtin.Range.small a b c=true/\0<c->VR h (.rng a b c) (.ref r)|ref {a:Addr}:VR h (.ref a) (.ref a)inductive bj (h:Heap):List V->List Value->Prop|nil:bj h [] []|cons {v:V}{x:Value}{vs:List V}{xs:List Value}:VR h v x->bj h vs xs->bj h (v::vs) (x::xs)end
noncomputable def pV(o:Obj):Prop:=(o.cls=.type "tuple"/\∃xs n,o.data=.seq xs n)\/(o.cls=.type "range"/\∃vs,o.data=.fields vs)
noncomputable def TS(h h':Heap):Prop:=∀a o,h.get? a=some o->pV o->h'.get? a=some o
theorem TS.of_keeps{h h':Heap}(k:∀b o,h.get? b=some o->h'.get? b=some o):TS h h':=λa o e c=>k a o e
theorem IsTup.ts{h h':Heap}{a:Addr}{xs:Array Value}(x:IsTup h a xs)(k:TS h h'):IsTup h' a xs:=by
 refine u_ x λo ho b n hd=>?_;try clear x
 exact rI o (k a o ho (.inl (OM b _ n hd))) b n hd
theorem IsRange.ts{h h':Heap}{r:Addr}{a b c:Int}{t u v:Tok}(x:IsRange h r a b c t u v)(k:TS h h'):IsRange h' r a b c t u v:=by skip;exact k _ _ x (.inr (Ol rfl _ rfl))
theorem VR.ts{h h':Heap}(k:TS h h'){v:V}{x:Value}(r:VR h v x):VR h' v x:=VR.rec (motive_1:=λv x c=>VR h' v x) (motive_2:=λv x c=>bj h' v x) .none .bool .int .str .bytes (λa c b=>.tup (IsTup.ts a k) b) (λa b=>.rng (IsRange.ts a k) b) .ref .nil (λc c a b=>.cons a b) r
theorem bj.ts{h h':Heap}(k:TS h h'){v:List V}{x:List Value}(r:bj h v x):bj h' v x:=bj.rec (motive_1:=λc c c=>True) (motive_2:=λv x c=>bj h' v x) aJ aJ aJ (λc=>aJ) (λc=>aJ) (λc c c=>aJ) (λc c=>aJ) aJ .nil (λa c c b=>.cons (a.ts k) b) r
theorem bj.ind{h:Heap}{P:List V->List Value->Prop}(n:P [] [])(c:∀{v x vs xs},VR h v x->bj h vs xs->P vs xs->P (v::vs) (x::xs)){vs:List V}{xs:List Value}(r:bj h vs xs):P vs xs:=bj.rec (motive_1:=λd d d=>True) (motive_2:=λv x d=>P v x) aJ aJ aJ (λd=>aJ) (λd=>aJ) (λd d d=>aJ) (λd d=>aJ) aJ n (λa b d i=>c a b i) r
theorem bj.length{h:Heap}{vs:List V}{xs:List Value}(r:bj h vs xs):vs.length=xs.length:=bj.ind (P:=λvs xs=>vs.length=xs.length) rfl (λa a i=>ak (·+1) i) r
theorem bj.get{h:Heap}{vs:List V}{xs:List Value}(r:bj h vs xs):∀{i:Nat}{v:V},vs[i]?=some v->∃x,xs[i]?=some x/\VR h v x:=bj.ind (P:=λvs xs=>∀{i:Nat}{v:V},vs[i]?=some v->∃x,xs[i]?=some x/\VR h v x) (λe=>nomatch e) (λa b c i v e=>by cases i with|zero=>exact an _ rfl (dH e▸a)|succ i=>exact c e) r
theorem bj.append{h:Heap}{vs:List V}{xs:List Value}(r:bj h vs xs){c:List V}{d:List Value}(b:bj h c d):bj h (vs++c) (xs++d):=bj.ind (P:=λvs xs=>bj h (vs++c) (xs++d)) b (λa e i=>.cons a i) r
theorem bj.take{h:Heap}{vs:List V}{xs:List Value}(r:bj h vs xs):∀n,bj h (vs.take n) (xs.take n):=bj.ind (P:=λvs xs=>∀n,bj h (vs.take n) (xs.take n)) (λn=>by rw[List.take_nil,List.take_nil];exact .nil) (λa b i n=>by cases n with|zero=>exact .nil|succ n=>exact .cons a (i n)) r
theorem bj.drop{h:Heap}{vs:List V}{xs:List Value}(r:bj h vs xs):∀n,bj h (vs.drop n) (xs.drop n):=bj.ind (P:=λvs xs=>∀n,bj h (vs.drop n) (xs.drop n)) (λn=>by rw[List.drop_nil,List.drop_nil];exact .nil) (λa b i n=>by cases n with|zero=>exact .cons a b|succ n=>exact i n) r
theorem bj.set{h:Heap}{vs:List V}{xs:List Value}(r:bj h vs xs)(i:Nat){v:V}{x:Value}(b:VR h v x):bj h (vs.set i v) (xs.set i x):=bj.ind (P:=λvs xs=>∀i,bj h (vs.set i v) (xs.set i x)) (λc=>.nil) (λa r d i=>by cases i with|zero=>exact .cons b r|succ i=>exact .cons a (d i)) r i
theorem bj.rep{h:Heap}{vs:List V}{xs:List Value}(a:bj h vs xs):∀n,bj h (AF n vs) (List.replicate n xs).flatten|0=>.nil|n+1=>a.append (a.rep n)
theorem bj.reverse{h:Heap}{vs:List V}{xs:List Value}(r:bj h vs xs):bj h vs.reverse xs.reverse:=bj.ind (P:=λvs xs=>bj h vs.reverse xs.reverse) .nil (λa b i=>by rw[wR,wR];exact i.append (.cons a .nil)) r
structure Wd where
 prog:Program
 w:World
 B:Heap
 K:Frag
 s0:Shared
 cls:Nat->Addr
 exc:Nat->Addr
 fn:Nat->Addr
 attr:Nat->Str
noncomputable def dw(W:Wd)(h:Heap):List (Nat×V)->List DictEntry->Prop|[],[]=>True|(i,v)::r,e::a=>(∃t,e.key=.str (W.attr i) t)/\VR h v e.val/\dw W h r a|_,_=>False
noncomputable def wJ{α:Type}(h:Heap):List (α×V)->List (α×Value)->Prop|[],[]=>True|(k,v)::r,(k',x)::a=>k=k'/\VR h v x/\wJ h r a|_,_=>False
noncomputable def gC(s:List Nat):Str:=⟨s.toArray⟩
noncomputable def eK(W:Wd)(h:Heap)(a:Addr):AO->Prop|.list vs=>∃xs n,h.get? a=some (PySem.W.listOf xs.toArray n)/\bj h vs xs|.dictI d ep=>∃kvs,h.DictAt (intKind W.prog W.w) a kvs ep/\wJ h d kvs/\a≠sysModules|.dictS d=>∃kvs,h.DictOf (strKind W.prog W.w) a kvs/\wJ h (d.map λp=>(gC p.1,p.2)) kvs/\a≠sysModules|.ba b=>∃bs:Array UInt8,h.get? a=some ⟨.type "bytearray",none,.bytearray bs 0,#[]⟩/\bs.toList.map (·.toNat)=b|.inst c dx=>∃sl,h.get? a=some ⟨.ref (W.cls c),some dx,.plain,sl⟩|.attrs fs=>∃e n,h.get? a=some (dictOf e n)/\dw W h fs e/\e.length<=500|.ro vs=>∃xs,h.IsList a xs.toArray/\bj h vs xs
noncomputable def aX(A:Around):List Addr:=(A.frames.getD []).filterMap (·.frame)
noncomputable def ownOf(env:Env):List Addr:=env.locals::env.cells.map (·.2)
structure kg(own frs:List Addr)(H:Hp)(h:Heap)(Z:Hp)(h':Heap):Prop where
 keep:∀b o,h.get? b=some o->H b=none->b∉own->b∉frs->h'.get? b=some o
 slots:∀b o,h.get? b=some o->b∈frs->b∉own->∃sl,h'.get? b=some {o with slots:=sl}
 dom:∀b,Z b≠none->H b≠none\/h.get? b=none
 sub:∀b,H b≠none->Z b≠none
 live:∀b o,h.get? b=some o->∃a,h'.get? b=some a
theorem kg.refl{own frs:List Addr}{H:Hp}{h:Heap}:kg own frs H h H h:=⟨λa a e a a a=>e,λa o e a a=>⟨o.slots,e⟩,λa e=>.inl e,λa e=>e,λa o e=>⟨o,e⟩⟩
theorem kg.trans{own frs:List Addr}{H J c:Hp}{h d g:Heap}(a:kg own frs H h J d)(b:kg own frs J d c g):kg own frs H h c g where
 keep:=λx o e n no i=>by
  have e1:=a.keep x o e n no i;refine b.keep x o e1 ?_ no i;cases q:J x with
  |none=>rfl
  |some y=>
   rcases a.dom x (by rw[q];simp)with z|z;·exact absurd n z
   ·rw[e]at z;cases z
 slots:=λx o e f no=>by refine dE (a.slots x o e f no) λsl e1=>?_;refine dE (b.slots x _ e1 f no) λj e2=>?_;exact⟨j,e2⟩
 dom:=λx e=>by
  rcases b.dom x e with z|z;·exact a.dom x z
  ·right;cases q:h.get? x with
   |none=>rfl|some o=>refine dE (a.live x o q) λk l=>?_;rw[l]at z;cases z
 sub:=λx e=>b.sub x (a.sub x e);live:=λx o e=>by refine dE (a.live x o e) λk l=>?_;exact b.live x k l
noncomputable def pe(env:Env)(m:Str->Option Value)(h:Heap)(x:Str)(v:Value):Prop:=(env.kindOf x=some .local/\m x=some v)\/((env.kindOf x=some .cell\/env.kindOf x=some .free)/\∃c,env.cells.lookup x=some c/\h.IsCell c (some v))
noncomputable def LI(B:Heap)(H:Hp)(h:Heap)(env:Env):Prop:=env.scope.kind=.function/\∃L o a n,env.frame=some L/\h.get? L=some o/\o.data=.dict a n/\B.get? L=none/\H L=none
structure Fc where
 env:Env
 own:List Addr
 vs:List (Str×Nat)
 st:List Str
structure St(W:Wd)(A:Around)(G:Fc)(ρ:aR)(H:Hp)(s:Shared):Prop where
 rest:∃h t,s={W.s0 with heap:=h,toks:=t}
 base:∀b o,W.B.get? b=some o->s.heap.get? b=some o
 objs:∀a ao,H a=some ao->eK W s.heap a ao
 new:∀a ao,H a=some ao->(∀l,ao≠.ro l)->W.B.get? a=none
 kind:G.env.scope.kind=.function
 glob:G.env.globals=mainGlobals
 bltn:G.env.builtins=builtinsNs
 vars:∃m,s.heap.Ns G.env.locals m/\∀x i v,G.vs.lookup x=some i->ρ i=some v->∃d,VR s.heap v d/\pe G.env m s.heap x d
 cells:∀x c,(x,c)∈G.env.cells->∃v,s.heap.IsCell c v
 hasc:∀x,(G.env.kindOf x=some .cell\/G.env.kindOf x=some .free)->∃c,G.env.cells.lookup x=some c
 apart:G.env.cells.Pairwise λx y=>x.2≠y.2
 sepL:∀b∈ownOf G.env,H b=none/\W.B.get? b=none
 ownSub:∀b∈G.own,b∈ownOf G.env
 locOwn:G.env.locals∈G.own
 stOk:∀x∈G.st,G.env.kindOf x=some .local\/(G.env.kindOf x=some .cell/\∃c,G.env.cells.lookup x=some c/\c∈G.own)
 frames:∀l,A.frames=some l->∀e∈l,LI W.B H s.heap e
 hasF:∃l,A.frames=some l
 inj:∀x y i,G.vs.lookup x=some i->G.vs.lookup y=some i->x=y
theorem nn{α:Type}{x:Option α}{y:α}{P:Prop}(h:x=none)(e:x=some y):P:=nomatch h.symm.trans e
theorem uq{α:Type}{x:Option α}{y z:α}(e:x=some y)(f:x=some z):y=z:=dH (e.symm.trans f)
theorem ff{P:Prop}(h:false=true):P:=(bI h).elim
noncomputable def JH(o:Obj):Bool:=(match o.cls with|.type c=>c !="tuple"&&c !="range"|_=>true)&&(match o.data with|.fields _=>false|_=>true)
theorem JH.imm{o:Obj}(k:JH o=true):¬pV o:=by intro i;unfold JH at k;rcases i with⟨c,_⟩|⟨c,_⟩<;>rw[c]at k<;>exact ff k
theorem eK.at{W:Wd}{h:Heap}{a:Addr}{ao:AO}(r:eK W h a ao):∃o,h.get? a=some o/\JH o=true:=by cases ao with|list vs=>exact r.elim λd r=>r.elim λd r=>an _ r.1 rfl|dictI f ep=>exact r.elim λd r=>r.1.elim λo q=>q.elim λd q=>an o q.1 (by rw[JH,q.2.1.1,q.2.2.1];rfl)|dictS f=>exact r.elim λd r=>r.1.elim λo q=>q.elim λd q=>q.elim λd q=>an o q.1 (by rw[JH,q.2.1.1,q.2.2.1];rfl)|ba b=>exact r.elim λd r=>an _ r.1 rfl|inst c dx=>exact r.elim λd r=>an _ r rfl|attrs fs=>exact r.elim λd r=>r.elim λd r=>an _ r.1 rfl|ro vs=>exact r.elim λd r=>Exists.elim r.1 λo q=>an o q.1 (q.2.2.elim λd e=>by rw[JH,q.2.1,e];rfl)
theorem eK.live{W:Wd}{h:Heap}{a:Addr}{ao:AO}(r:eK W h a ao):∃o,h.get? a=some o:=r.at.elim λo q=>⟨o,q.1⟩
theorem St.live{W A G ρ H s}(S:St W A G ρ H s){a:Addr}{ao:AO}(e:H a=some ao):∃o,s.heap.get? a=some o:=(S.objs a ao e).live
theorem eK.notImm{W:Wd}{h:Heap}{a:Addr}{ao:AO}(x:eK W h a ao){o:Obj}(e:h.get? a=some o):¬pV o:=x.at.elim λb q=>uq e q.1▸JH.imm q.2
theorem CB{A:Around}{b:Addr}(h:b∈aX A):∃l e,A.frames=some l/\e∈l/\e.frame=some b:=by unfold aX at h;refine am (List.mem_filterMap.mp h) λe a c=>?_;cases q:A.frames with|none=>rw[q]at a;simp at a|some l=>rw[q]at a;exact aL l e rfl (by simpa using a) c
theorem St.own_obj{W A G ρ H s}(S:St W A G ρ H s){b:Addr}(a:b∈ownOf G.env):∃o,s.heap.get? b=some o/\((∃d n,o.data=.dict d n)\/∃v,o.data=.cell v):=by
 skip;rcases bB a with rfl|a;·refine am (S.vars) ?_;rintro m ⟨o,d,ep,ho,hd,_⟩_;exact an o ho (.inl (tC _ _ hd))
 ·(refine am (dm a) ?_;rintro⟨x,c⟩e f;rw[<-f]);refine aZ (S.cells x c e) λv o ho hd=>?_;exact an o ho (.inr ⟨_,hd⟩)
theorem St.frs_obj{W A G ρ H s}(S:St W A G ρ H s){b:Addr}(a:b∈aX A):∃o c n,s.heap.get? b=some o/\o.data=.dict c n/\H b=none/\W.B.get? b=none:=by refine aW (CB a) λl e d f g=>?_;refine cT (S.frames l d e f) λh L o c n i ho hd j k=>?_;rw[g]at i;rw[dH i];exact fA o c n ho hd k j
theorem bc{o:Obj}{a n}(h:o.data=.dict a n):¬pV o:=by rintro(⟨_,_,_,e⟩|⟨_,_,e⟩)<;>rw[h]at e<;>cases e
theorem fw{o:Obj}{v}(h:o.data=.cell v):¬pV o:=by rintro(⟨_,_,_,e⟩|⟨_,_,e⟩)<;>rw[h]at e<;>cases e
theorem St.fresh_out{W A G ρ H s}(S:St W A G ρ H s){b:Addr}(a:s.heap.get? b=none):b∉ownOf G.env/\b∉aX A:=⟨λq=>(S.own_obj q).elim λc e=>nn a e.1,λq=>(S.frs_obj q).elim λc e=>e.elim λc e=>e.elim λc e=>nn a e.1⟩
theorem St.imm_out{W A G ρ H s}(S:St W A G ρ H s){b:Addr}{o:Obj}(e:s.heap.get? b=some o)(i:pV o):b∉ownOf G.env/\b∉aX A:=⟨λq=>(S.own_obj q).elim λa z=>z.2.elim (λc=>c.elim λa c=>c.elim λa c=>bc c (uq e z.1▸i)) λc=>c.elim λa c=>fw c (uq e z.1▸i),λq=>(S.frs_obj q).elim λa z=>z.elim λa z=>z.elim λa z=>bc z.2.1 (uq e z.1▸i)⟩
theorem kg.ts{W A G ρ H s}(S:St W A G ρ H s){Z:Hp}{h':Heap}(P:kg G.own (aX A) H s.heap Z h'):TS s.heap h':=λa o e i=>P.keep a o e (by cases q:H a with|none=>rfl|some ao=>exact absurd i ((S.objs a ao q).notImm e)) (λb=>(S.imm_out e i).1 (S.ownSub _ b)) (S.imm_out e i).2
structure Reach(W:Wd)(A:Around)(G:Fc)(H:Hp)(s:Shared)(O:aR)(Z:Hp)(s':Shared):Prop where
 st:St W A G O Z s'
 pr:kg G.own (aX A) H s.heap Z s'.heap
noncomputable def PE(W:Wd)(A:Around)(G:Fc)(ρ:aR)(H:Hp)(s:Shared)(Q:QV):Value->Shared->Prop:=λv s'=>∃a Z,Q a Z/\VR s'.heap a v/\Reach W A G H s ρ Z s'
theorem eK.of_get{W:Wd}{h h':Heap}{a:Addr}{ao:AO}(x:eK W h a ao)(k:TS h h')(e:∀o,h.get? a=some o->h'.get? a=some o):eK W h' a ao:=by
 have d:∀{α:Type}{l:List (α×V)}{l':List (α×Value)},wJ h l l'->wJ h' l l':=by
  intro α l;induction l with
  |nil=>intro l' z;cases l' with|nil=>trivial|cons _ _=>exact z.elim
  |cons p r f=>intro l' z;cases l' with
   |nil=>exact z.elim|cons g i=>exact bz z.1 (z.2.1.ts k) (f z.2.2)
 have at':∀{l:List (Nat×V)}{j},dw W h l j->dw W h' l j:=by
  intro l;induction l with
  |nil=>intro j z;cases j with|nil=>trivial|cons _ _=>exact z.elim
  |cons p r f=>intro j z;cases j with|nil=>exact z.elim|cons g i=>exact bz z.1 (z.2.1.ts k) (f z.2.2)
 cases ao with
 |list vs=>refine aZ x λxs n m v=>?_;try clear x;exact aY xs n (e _ m) (v.ts k)|dictI q ep=>refine aT x ?_;try clear x;rintro s ⟨o,t,m,r⟩v nn;exact cW s (aY o t (e _ m) r) (d v) nn|dictS q=>refine aT x ?_;try clear x;rintro s ⟨o,t,u,m,r⟩v nn;exact cW s (uH o t u (e _ m) r) (d v) nn|ba b=>refine am x λxs m v=>?_;try clear x;exact an xs (e _ m) v|inst c dx=>refine dE x λsl m=>?_;try clear x;exact⟨sl,e _ m⟩|attrs fs=>refine aW x λj n m v z=>?_;try clear x;exact aL j n (e _ m) (at' v) z|ro vs=>refine am x ?_;try clear x;rintro xs ⟨o,m,r⟩v;exact an xs (an o (e _ m) r) (v.ts k)
theorem pe.of_get{env:Env}{m:Str->Option Value}{h h':Heap}{x:Str}{v:Value}(a:pe env m h x v)(e:∀b∈ownOf env,∀o,h.get? b=some o->h'.get? b=some o):pe env m h' x v:=by
 rcases a with a|⟨a,c,d,o,ho,hd⟩;·exact .inl a
 ·refine .inr (Md a c d o (e c ?_ o ho) hd);skip;exact dn _ (cY (an (x,c) (fu d) rfl))
theorem wS{G:Fc}{x:Str}{c:Addr}(h:(x,c)∈G.env.cells):c∈ownOf G.env:=dn _ (cY (an (x,c) h rfl))
theorem St.moveL{W A G ρ H s}(S:St W A G ρ H s){m:Str->Option Value}(a:s.heap.Ns G.env.locals m)(hv:∀x i v,G.vs.lookup x=some i->ρ i=some v->∃d,VR s.heap v d/\pe G.env m s.heap x d){C:Addr->Prop}{Z:Hp}{h':Heap}{t:Nat}(f:∀b,C b->∃ao,H b=some ao/\∀l,ao≠.ro l)(g:∀b,¬C b->Z b=H b)(k:∀b o,¬C b->b≠G.env.locals->s.heap.get? b=some o->h'.get? b=some o)(j:h'.Ns G.env.locals m)(r:TS s.heap h'->∀b,C b->∃ao,Z b=some ao/\eK W h' b ao/\∀l,ao≠.ro l):Reach W A G H s ρ Z {s with heap:=h',toks:=t}:=by
 have p:∀b,H b=none->¬C b:=λb e z=>(f b z).elim λu q=>nn e q.1;have L:=S.sepL G.env.locals (cS ..);have w:∀{b ao},H b=some ao->b≠G.env.locals:=λe q=>nn L.1 (q▸e);have nd:∀{h:Heap},h.Ns G.env.locals m->∃o B n,h.get? G.env.locals=some o/\o.data=.dict B n:=λa=>a.elim λo q=>q.elim λB q=>q.elim λn q=>uH o B n q.1 q.2.1;have D:∀{c v},s.heap.IsCell c v->c≠G.env.locals:=λE q=>E.elim λo z=>(nd a).elim λu y=>y.elim λu y=>y.elim λu y=>by have e:=uq (q▸z.1) y.1▸z.2;exact nomatch e.symm.trans y.2
 have F:∀{c v},¬C c->s.heap.IsCell c v->h'.IsCell c v:=λI E=>E.elim λo q=>an o (k _ o I (D E) q.1) q.2;have J:TS s.heap h':=λb o e i=>k b o (λz=>(f b z).elim λao q=>(S.objs b ao q.1).notImm e i) (λz=>(S.imm_out e i).1 (z▸cS ..)) e;have r:=r J;have own:∀b∈ownOf G.env,¬C b:=λb K=>p b (S.sepL b K).1;have M:∀b o,s.heap.get? b=some o->H b=none->b∉G.own->h'.get? b=some o:=λb o e n no=>k b o (p b n) (λq=>no (q▸S.locOwn)) e;have N:∀b ao,Z b=some ao->(C b/\eK W h' b ao/\∀l,ao≠.ro l)\/(¬C b/\H b=some ao):=λb ao e=>by
  by_cases z:C b;·exact(r b z).elim λO q=>.inl (uq q.1 e▸⟨z,q.2⟩)
  ·exact .inr ⟨z,(g b z).symm.trans e⟩
 refine⟨⟨?_,λb o e=>k b o (λz=>(f b z).elim λao q=>nn (S.new b ao q.1 q.2) e) (λz=>nn L.2 (z▸e)) (S.base b o e),λb ao e=>(N b ao e).elim (λz=>z.2.1) λz=>(S.objs b ao z.2).of_get J λo ab=>k b o z.1 (w z.2) ab,λb ao e l=>(N b ao e).elim (λz=>(f b z.1).elim λO q=>S.new b O q.1 q.2) λz=>S.new b ao z.2 l,S.kind,S.glob,S.bltn,(an m j (λx i v ag al=>(hv x i v ag al).elim λd q=>an d (q.1.ts J) (q.2.imp id λz=>⟨z.1,z.2.elim λc y=>an c y.1 (F (own c (wS (fu y.1))) y.2)⟩))),λx c e=>(S.cells x c e).elim λv E=>⟨v,F (own c (wS e)) E⟩,S.hasc,S.apart,λb K=>⟨(g b (own b K)).trans (S.sepL b K).1,(S.sepL b K).2⟩,S.ownSub,S.locOwn,S.stOk,λl ap e ar=>?_,S.hasF,S.inj⟩,⟨λb o e n no u=>M b o e n no,λb o e P no=>⟨o.slots,M b o e ((S.frs_obj P).elim λu z=>z.elim λu z=>z.elim λu z=>z.2.2.1) no⟩,λb e=>.inl ?_,λb e=>?_,λb o e=>?_⟩⟩;·exact S.rest.elim λh e=>e.elim λav e=>tC h' t (by rw[e])
 ·refine cT (S.frames l ap e ar) λQ R o B n P ho hd T U=>?_;have V:=(g R (p R U)).trans U;by_cases q:R=G.env.locals;·exact(nd j).elim λX y=>y.elim λY y=>y.elim λn' y=>b6 Q R X Y n' P (q▸y.1) y.2 T V
  ·exact b6 Q R o B n P (k _ _ (p R U) q ho) hd T V
 ·by_cases z:C b;·exact(f b z).elim λao q=>by rw[q.1];exact nofun
  ·exact g b z▸e
 ·by_cases z:C b;·exact(r b z).elim λao q=>by rw[q.1];exact nofun
  ·exact(g b z).symm▸e
 ·by_cases z:C b;·exact(r b z).elim λao q=>q.2.1.live
  ·by_cases q:b=G.env.locals;·exact(nd j).elim λX y=>y.elim λY y=>y.elim λn' y=>⟨X,q▸y.1⟩
   ·exact⟨o,k b o z q e⟩
theorem St.keepsL{W A G ρ H s}(S:St W A G ρ H s){m:Str->Option Value}(a:s.heap.Ns G.env.locals m)(hv:∀x i v,G.vs.lookup x=some i->ρ i=some v->∃c,VR s.heap v c/\pe G.env m s.heap x c){h':Heap}{t:Nat}(k:∀b o,b≠G.env.locals->s.heap.get? b=some o->h'.get? b=some o)(d:h'.Ns G.env.locals m):Reach W A G H s ρ H {s with heap:=h',toks:=t}:=S.moveL (C:=λe=>False) a hv (λe z=>z.elim) (λe e=>rfl) (λb o e=>k b o) d λe e z=>z.elim
theorem Reach.keeps{W A G ρ H s}(S:St W A G ρ H s){h':Heap}{t:Nat}(k:∀b o,s.heap.get? b=some o->h'.get? b=some o):Reach W A G H s ρ H {s with heap:=h',toks:=t}:=by refine am (S.vars) λm a hv=>?_;exact S.keepsL a hv (λb o c e=>k b o e) (a.at' λo e=>k _ o e)
theorem St.keeps{W A G ρ H s}(S:St W A G ρ H s){h':Heap}{t:Nat}(k:∀b o,s.heap.get? b=some o->h'.get? b=some o):St W A G ρ H {s with heap:=h',toks:=t}:=(Reach.keeps S k).st
theorem bG{H:Hp}{a:Nat}{o:AO}:fU H a o a=some o:=by simp[fU]
theorem ch{H:Hp}{a b:Nat}{o:AO}(h:b≠a):fU H a o b=H b:=by simp[fU,h]
theorem St.track{W A G ρ H s}(S:St W A G ρ H s){a:Addr}{ao:AO}(r:eK W s.heap a ao)(c:W.B.get? a=none)(d:H a=none)(ho:a∉ownOf G.env)(f:a∉aX A):St W A G ρ (fU H a ao) s where
 rest:=S.rest;base:=S.base;objs:=λb g e=>by
  by_cases q:b=a;·subst q;rw[bG]at e;rw[<-dH e];exact r
  ·rw[ch q]at e;exact S.objs b g e
 new:=λb g e l=>by
  by_cases q:b=a;·rw[q];exact c
  ·rw[ch q]at e;exact S.new b g e l
 kind:=S.kind;glob:=S.glob;bltn:=S.bltn;vars:=S.vars;cells:=S.cells;hasc:=S.hasc;apart:=S.apart;sepL:=λb h=>by refine⟨?_,(S.sepL b h).2⟩;rw[ch (by rintro rfl;exact ho h)];exact(S.sepL b h).1
 ownSub:=S.ownSub;locOwn:=S.locOwn;stOk:=S.stOk;frames:=λl i e j=>by refine cT (S.frames l i e j) λk L o m n p t hd u v=>?_;refine b6 k L o m n p t hd u ?_;rw[ch];exact v;rintro rfl;exact f (List.mem_filterMap.mpr (an e (by rw[i];exact j) p))
 hasF:=S.hasF;inj:=S.inj
theorem TS.of_but{W A G ρ H s}(S:St W A G ρ H s){a:Addr}{ao:AO}{h':Heap}(c:H a=some ao)(d:Heap.SameBut a s.heap h'):TS s.heap h':=λb o e i=>by refine(d.2 b ?_).trans e;rintro rfl;exact(S.objs _ _ c).notImm e i
theorem St.turnL{W:Wd}{A:Around}{G:Fc}{ρ:aR}{H:Hp}{s:Shared}{ao c:AO}{a:Addr}(S:St W A G ρ H s){m:Str->Option Value}(d:s.heap.Ns G.env.locals m)(hv:∀x i v,G.vs.lookup x=some i->ρ i=some v->∃e,VR s.heap v e/\pe G.env m s.heap x e){h':Heap}{t:Nat}(f:H a=some ao)(g:∀l,ao≠.ro l)(k:∀b o,b≠a->b≠G.env.locals->s.heap.get? b=some o->h'.get? b=some o)(h:h'.Ns G.env.locals m)(r:TS s.heap h'->eK W h' a c)(j:∀l,c≠.ro l):Reach W A G H s ρ (fU H a c) {s with heap:=h',toks:=t}:=by exact S.moveL (C:=λb=>b=a) d hv (λn z=>z▸(an ao f g)) (λn z=>ch z) k h λp b z=>by rw[z];exact cW c bG (r p) j
theorem St.turn{W A G ρ H s}(S:St W A G ρ H s){a:Addr}{ao c:AO}{h':Heap}{t:Nat}(d:H a=some ao)(f:∀l,ao≠.ro l)(g:Heap.SameBut a s.heap h')(r:eK W h' a c)(h:∀l,c≠.ro l):Reach W A G H s ρ (fU H a c) {s with heap:=h',toks:=t}:=by refine am (S.vars) λm i hv=>?_;refine S.turnL i hv d f (λb o j k e=>(g.2 b j).trans e) (i.at' λo e=>(g.2 _ ?_).trans e) (λk=>r) h;exactλq=>nn (S.sepL _ (cS ..)).1 (q▸d)
theorem Reach.trans{W A G ρ1 c H J d s s1 s2}(a:Reach W A G H s ρ1 J s1)(b:Reach W A G J s1 c d s2):Reach W A G H s c d s2:=⟨b.st,a.pr.trans b.pr⟩
theorem Reach.refl{W A G ρ H s}(S:St W A G ρ H s):Reach W A G H s ρ H s:=⟨S,.refl⟩
theorem Reach.toks{W A G ρ H s}(S:St W A G ρ H s){t:Nat}:Reach W A G H s ρ H {s with toks:=t}:=Reach.keeps (h':=s.heap) S λa a e=>e
theorem Reach.made{W A G ρ H s}(S:St W A G ρ H s){h':Heap}{t:Nat}{a:Addr}{ao:AO}(k:∀b o,s.heap.get? b=some o->h'.get? b=some o)(c:s.heap.get? a=none)(r:eK W h' a ao):H a=none/\Reach W A G H s ρ (fU H a ao) {s with heap:=h',toks:=t}:=by
 have d:H a=none:=by
  cases q:H a with|none=>rfl|some f=>exact(S.live q).elim λg e=>nn c e
 have h:W.B.get? a=none:=by
  cases q:W.B.get? a with
  |none=>rfl|some o=>exact nn c (S.base a o q)
 refine⟨d,(S.keeps k).track r h d (S.fresh_out c).1 (S.fresh_out c).2,⟨λb o e g g g=>k b o e,λb o e g g=>⟨o.slots,k b o e⟩,λb e=>?_,λb e=>?_,λb o e=>⟨o,k b o e⟩⟩⟩
 ·by_cases q:b=a;·rw[q];exact .inr c
  ·rw[ch q]at e;exact .inl e
 ·by_cases q:b=a;·subst q;rw[d]at e;exact absurd rfl e
  ·rw[ch q];exact e
@[elab_as_elim]theorem VR.mInt{h:Heap}{v:V}{x:Value}{f:Int->Hp->Prop}{H:Hp}{G:V->Value->Prop}(q:G4 v f H)(w:VR h v x)(k:∀i t,f i H->G (.int i) (.int i t)):G v x:=by cases w with|int=>exact k _ _ q|_=>exact q.elim
@[elab_as_elim]theorem VR.mBool{h:Heap}{v:V}{x:Value}{f:Bool->Hp->Prop}{H:Hp}{G:V->Value->Prop}(q:QB f v H)(w:VR h v x)(k:∀i,f i H->G (.bool i) (.bool i)):G v x:=by cases w with|bool=>exact k _ q|_=>exact q.elim
@[elab_as_elim]theorem VR.mNone{h:Heap}{v:V}{x:Value}{f:Hp->Prop}{H:Hp}{G:V->Value->Prop}(q:Fo v f H)(w:VR h v x)(k:f H->G .none .none):G v x:=by cases w with|none=>exact k q|_=>exact q.elim
@[elab_as_elim]theorem VR.mTF{h:Heap}{v:V}{x:Value}{f g:Hp->Prop}{H:Hp}{G:V->Value->Prop}(q:BP v f g H)(w:VR h v x)(k:f H->G (.bool true) (.bool true))(l:g H->G (.bool false) (.bool false)):G v x:=by
 cases w with
 |@bool b=>cases b with
  |true=>exact k q|false=>exact l q
 |_=>exact q.elim
@[elab_as_elim]theorem VR.eInt{h:Heap}{i:Int}{x:Value}{G:Value->Prop}(w:VR h (.int i) x)(k:∀t,G (.int i t)):G x:=by cases w;exact k _
@[elab_as_elim]theorem VR.eRef{h:Heap}{a:Nat}{x:Value}{G:Value->Prop}(w:VR h (.ref a) x)(k:G (.ref a)):G x:=by cases w;exact k
@[elab_as_elim]theorem VR.eStr{h:Heap}{l:List Nat}{x:Value}{G:Value->Prop}(w:VR h (.str l) x)(k:∀(y:Str)t,y.cps.toList=l->G (.str y t)):G x:=by cases w with|str e=>exact k _ _ e
@[elab_as_elim]theorem VR.eBytes{h:Heap}{l:List Nat}{x:Value}{G:Value->Prop}(w:VR h (.bytes l) x)(k:∀b t,b.toList.map (·.toNat)=l->G (.bytes b t)):G x:=by cases w with|bytes e=>exact k _ _ e
@[elab_as_elim]theorem bj.eNil{h:Heap}{x:List Value}{G:List Value->Prop}(w:bj h [] x)(k:G []):G x:=by cases w;exact k
@[elab_as_elim]theorem bj.eCons{h:Heap}{v:V}{vs:List V}{x:List Value}{G:List Value->Prop}(w:bj h (v::vs) x)(k:∀y c,VR h v y->bj h vs c->G (y::c)):G x:=by cases w with|cons a b=>exact k _ _ a b
@[elab_as_elim]theorem VR.mNI{h:Heap}{v:V}{x:Value}{Q:QV}{H:Hp}{G:V->Value->Prop}(q:M4 v Q H)(w:VR h v x)(k:Q (.bool true) H->G .none .none)(l:∀i t,Q (.bool false) H->G (.int i) (.int i t)):G v x:=by cases w with|none=>exact k q|int=>exact l _ _ q|_=>exact q.elim
section
variable{α:Type}{M:Model}{A:Around}{t:Sem α}{P:α->Shared->Prop}{E:Value->Shared->Prop}{s:Shared}
theorem aD(h:let p:=P;wpAny M A t p E s):wpAny M A t P E s:=h
theorem l9(h:let z:=s;wpAny M A t P E z):wpAny M A t P E s:=h
theorem CN(h:let p:=P;let e:=E;wpAny M A t p e s):wpAny M A t P E s:=h
end
noncomputable def tL(h:Heap)(L:Addr):List (Addr×Obj):=(List.range h.objs.size).filterMap λa=>if a=L then none else(h.get? a).map λo=>(a,o)
theorem hA{h:Heap}{L a:Addr}{o:Obj}(e:h.get? a=some o)(n:a≠L):(a,o)∈tL h L:=List.mem_filterMap.mpr (an a (eM (jo e)) (by simp[n,e]))
theorem ke{h:Heap}{L:Addr}{p:Addr×Obj}(e:p∈tL h L):h.get? p.1=some p.2/\p.1≠L:=by
 refine am (List.mem_filterMap.mp e) λa b q=>?_;split at q;·cases q
 ·rename_i n;refine am (rV q) ?_;rintro o ho rfl;exact⟨ho,n⟩
theorem iS(a:Addr):(({}:Heap)).get? a=none:=by simp[Heap.get?]
theorem St.fr{W A G ρ H s}(S:St W A G ρ H s):∃m,Fr {} G.env.locals s.heap m/\News {} G.env.locals s.heap (tL s.heap G.env.locals)/\∀h' t,Fr {} G.env.locals h' m->News {} G.env.locals h' (tL s.heap G.env.locals)->Reach W A G H s ρ H {s with heap:=h',toks:=t}:=by refine am (S.vars) λm a hv=>?_;refine cW m ⟨a,(λb o e=>by rw[iS]at e;cases e),cR _⟩ (λp c=>bz ((ke c).1) ((ke c).2) (iS _)) (λh' t F N=>?_);exact S.keepsL a hv (λb o n e=>N.get (hA e n)) F.ns
theorem St.frNew{W A G ρ H s}(S:St W A G ρ H s):∃m,Fr {} G.env.locals s.heap m/\News {} G.env.locals s.heap (tL s.heap G.env.locals)/\∀h' t a ao o,Fr {} G.env.locals h' m->News {} G.env.locals h' ((a,o)::tL s.heap G.env.locals)->s.heap.get? a=none->(TS s.heap h'->h'.get? a=some o->eK W h' a ao)->H a=none/\Reach W A G H s ρ (fU H a ao) {s with heap:=h',toks:=t}:=by
 refine aT (S.fr) λm F N R=>?_;refine cW m F N (λh' t a ao o c d f r=>?_);have g:=R h' t c λp h=>d p (dn _ h);have i:H a=none:=by
  cases q:H a with
  |none=>rfl|some j=>refine dE (S.live q) λo e=>?_;rw[f]at e;cases e
 have k:W.B.get? a=none:=by
  cases q:W.B.get? a with
  |none=>rfl|some o=>have:=S.base a o q;rw[f]at this;cases this
 have ho:a∉ownOf G.env:=λl=>by refine am (S.own_obj l) λo e n=>?_;rw[f]at e;cases e
 have u:a∉aX A:=λl=>by refine ir (S.frs_obj l) λo n n e n=>?_;rw[f]at e;cases e
 have hr:=r (g.pr.ts S) (d _ (cS ..)).1;refine⟨i,g.st.track hr k i ho u,⟨g.pr.keep,g.pr.slots,λb e=>?_,λb e=>?_,g.pr.live⟩⟩
 ·by_cases q:b=a;·subst q;exact .inr f
  ·rw[ch q]at e;exact .inl e
 ·by_cases q:b=a;·subst q;rw[i]at e;exact absurd rfl e
  ·rw[ch q];exact e
theorem bN{h:Heap}:h.get? h.objs.size=none:=by cases e:h.get? h.objs.size with|none=>rfl|some o=>exact absurd (jo e) (gW _)
variable{W:Wd}{A:Around}{G:Fc}{ρ:aR}{H:Hp}{s:Shared}{Q:QV}{E:Value->Shared->Prop}
theorem PE.tok(S:St W A G ρ H s){t:Nat}{a:V}{v:Value}(q:Q a H)(r:VR s.heap a v):PE W A G ρ H s Q v {s with toks:=t}:=(aL a H q r (Reach.toks S))
theorem PE.same(S:St W A G ρ H s){a:V}{v:Value}(q:Q a H)(r:VR s.heap a v):PE W A G ρ H s Q v s:=(aL a H q r (Reach.refl S))
theorem Sm.bits{x:Int}(h:Sm x):Builtin.Int.intBits x<=250:=by
 unfold Builtin.Int.intBits;split;·lia
 ·rename_i n
  have hx:x.natAbs≠0:=λq=>n (by have:x=0:=by lia
                                simp[this]);have a:x.natAbs<2^250:=by
   have e:(2:Nat)^250=1809251394333065553493296640760748560207343510400633813116524750123642650624:=by decide+kernel
   rw[e];unfold Sm at h;lia
  have:=(Nat.log2_lt hx).mpr a;lia
theorem Sm.noPylong{a b:Int}(h:Sm b):Builtin.divisionGoesByPylong a b=false:=by
 have c:=h.bits;unfold Builtin.Int.intBits at c;unfold Builtin.divisionGoesByPylong;split at c;·rename_i q;simp[q]
 ·rename_i q;simp only[q];have:b.natAbs.log2/30+1<=300:=by lia
  simp;lia
theorem Sm.mul{a b:Int}(c:Sm a)(d:Sm b):IntMulOk a b:=by
 unfold IntMulOk;have e:=c.bits;have f:=d.bits;unfold Builtin.Int.intTooBig;have g:bitsLine=134217728:=by decide+kernel
 simp only[Bool.and_eq_true,decide_eq_true_eq,not_and,g];lia
noncomputable def zC:ue->Operator|.add=>.Add|.sub=>.Sub|.mul=>.Mult|.fdiv=>.FloorDiv|.mod=>.Mod|.pow=>.Pow|.shl=>.LShift|.shr=>.RShift|.and=>.BitAnd|.or=>.BitOr|.xor=>.BitXor
theorem dj:cu<=sizeLine:=by decide+kernel
theorem jG:cu=1048576:=rfl
theorem M7:(cu:Int)<2^63:=by decide+kernel
theorem yA{xs:List Value}(n:Nat):(List.foldl (λa b=>a++b) #[] (List.replicate (if xs.toArray.isEmpty=true then 0 else n) xs.toArray))=((List.replicate n xs).flatten).toArray:=by
 cases xs with
 |nil=>
  have:(List.replicate n ([]:List Value)).flatten=[]:=by induction n with
   |zero=>rfl|succ n c=>simp[List.replicate_succ]
  simp[this]|cons x r=>
  have d:(x::r).toArray.isEmpty=false:=by simp
  rw[d];simp only[Bool.false_eq_true,if_false];have gen:∀(n:Nat)(acc:List Value),List.foldl (λa b=>a++b) acc.toArray (List.replicate n (x::r).toArray)=(acc++(List.replicate n (x::r)).flatten).toArray:=by
   intro n;induction n with
   |zero=>intro acc;simp|succ n c=>intro acc;rw[List.replicate_succ,oZ,List.append_toArray,c];simp[List.replicate_succ]
  simpa using gen n []
theorem eK.isList{W:Wd}{h:Heap}{a:Addr}{vs:List V}(r:eK W h a (.list vs)):∃xs,h.IsList a xs.toArray/\bj h vs xs/\∃n,h.get? a=some (PySem.W.listOf xs.toArray n):=by
 refine aZ r λxs n e v=>?_;try clear r
 exact rI xs (rI _ e rfl n rfl) v n e
theorem iI{x:Str}{s:List Nat}(h:x.cps.toList=s):x.length=s.length:=by rw[<-h];simp[Str.length]
theorem OG(x:Int):Builtin.bitNot (Builtin.bitNot x)=x:=by unfold Builtin.bitNot;lia
theorem AE{x y:Int}(hx:0<=x)(a:0<=y):Builtin.bitAnd x y=((x.toNat&&&y.toNat:Nat):Int):=by unfold Builtin.bitAnd;rw[bC hx,bC a]
theorem oC{x y:Int}(hx:0<=x)(c:0<=y):Builtin.bitOr x y=((x.toNat|||y.toNat:Nat):Int):=by
 unfold Builtin.bitOr Builtin.bitAnd;have a:¬0<=Builtin.bitNot x:=by unfold Builtin.bitNot;lia
 have b:¬0<=Builtin.bitNot y:=by unfold Builtin.bitNot;lia
 simp only[a,b,decide_false,OG]
theorem Ad:∀(n x y:Nat),x<n->(x|||y)=(x^^^y)+(x&&&y):=by
 intro n;induction n with
 |zero=>intro x y h;exact absurd h (pF _)|succ n c=>
  intro x y h;by_cases hx:x=0;·subst hx;simp
  have d:=c (x/2) (y/2) (cN (Nat.div_lt_self (A9 hx) (by decide)) (qh h));have e1:(x|||y)/2=x/2|||y/2:=Nat.or_div_two;have e2:(x^^^y)/2=x/2^^^y/2:=Nat.xor_div_two;have e3:(x&&&y)/2=x/2&&&y/2:=Nat.and_div_two;have m1:(x|||y)%2=(x%2|||y%2):=by simpa using Nat.or_mod_two_pow (a:=x) (b:=y) (n:=1)
  have e:(x^^^y)%2=(x%2^^^y%2):=by simpa using Nat.xor_mod_two_pow (a:=x) (b:=y) (n:=1)
  have f:(x&&&y)%2=(x%2&&&y%2):=by simpa using Nat.and_mod_two_pow (a:=x) (b:=y) (n:=1)
  have g:(x%2|||y%2)=(x%2^^^y%2)+(x%2&&&y%2):=by rcases AN x with i|i<;>rcases AN y with j|j<;>(rw[i,j])<;>rfl
  exact(jc (x|||y) 2).symm.trans (by rw[e1,m1,d,g,Nat.mul_add,Nat.add_add_add_comm,<-e2,<-e,<-e3,<-f,jc,jc])
theorem Ai{x y:Int}(hx:0<=x)(a:0<=y):Builtin.bitXor x y=((x.toNat^^^y.toNat:Nat):Int):=by unfold Builtin.bitXor;rw[oC hx a,Ad _ _ _ (iY _)];unfold Builtin.bitAnd;simp only[hx,a,decide_true];lia
theorem AG(n:Nat)(l:Array Nat):((List.replicate n l).foldl (·++·) #[]).toList=AF n l.toList:=by
 have gen:∀(n:Nat)(acc:Array Nat),((List.replicate n l).foldl (·++·) acc).toList=acc.toList++AF n l.toList:=by
  intro n;induction n with
  |zero=>intro acc;simp[AF]|succ n a=>intro acc;rw[List.replicate_succ,oZ,a];simp[AF,List.replicate_succ]
 simpa using gen n #[]
noncomputable def VI(h:Heap):V->Value->Prop|.none,x=>x=.none|.bool b,x=>x=.bool b|.int i,x=>∃t,x=.int i t|.str l,x=>∃(y:Str)(t:Tok),x=.str y t/\y.cps.toList=l|.bytes l,x=>∃b t,x=.bytes b t/\b.toList.map (·.toNat)=l|.tup vs,x=>∃(a:Addr)(xs:List Value),x=.ref a/\IsTup h a xs.toArray/\bj h vs xs|.rng a b c,x=>∃r t u v,x=.ref r/\IsRange h r a b c t u v/\Builtin.Range.small a b c=true/\0<c|.ref a,x=>x=.ref a
theorem VR.i{h:Heap}{v:V}{x:Value}(r:VR h v x):VI h v x:=by cases r with|none=>rfl|bool=>rfl|int=>exact⟨_,rfl⟩|str e=>exact aY _ _ rfl e|bytes e=>exact aY _ _ rfl e|tup a b=>exact aL _ _ rfl a b|rng a b=>exact nj _ _ _ _ rfl a b|ref=>rfl
theorem VR.iInt{h:Heap}{i:Int}{x:Value}(r:VR h (.int i) x):∃t,x=.int i t:=r.i
theorem VR.iRef{h:Heap}{a:Nat}{x:Value}(r:VR h (.ref a) x):x=.ref a:=r.i
theorem VR.iStr{h:Heap}{l:List Nat}{x:Value}(r:VR h (.str l) x):∃(y:Str)(t:Tok),x=.str y t/\y.cps.toList=l:=r.i
theorem VR.iBytes{h:Heap}{l:List Nat}{x:Value}(r:VR h (.bytes l) x):∃b t,x=.bytes b t/\b.toList.map (·.toNat)=l:=r.i
noncomputable def P9(h:Heap):List V->List Value->Prop|[],a=>a=[]|v::vs,a=>∃x xs,a=x::xs/\VR h v x/\bj h vs xs
theorem bj.i{h:Heap}{v:List V}{x:List Value}(r:bj h v x):P9 h v x:=by cases r with|nil=>rfl|cons a b=>exact aL _ _ rfl a b
theorem bj.iNil{h:Heap}{x:List Value}(r:bj h [] x):x=[]:=r.i
theorem bj.iCons{h:Heap}{v:V}{vs:List V}{x:List Value}(r:bj h (v::vs) x):∃y a,x=y::a/\VR h v y/\bj h vs a:=r.i
theorem uM{x:Int}(h:FA x):Builtin.Int.intBits x<=64:=by unfold FA at h;exact intBits_le_64 (by lia) (by lia)
theorem LP(S:St W A G ρ H s){op:ue}{i j:Int}{t u:Tok}(hw:Nb op i j Q H):wpAny (model W.prog W.w) A (binaryOp (zC op) (.int i t) (.int j u)) (PE W A G ρ H s Q) E s:=by
 cases op with
 |add=>exact PyProof.Rows.add_int (PE.tok S hw .int)|sub=>exact PyProof.Rows.sub_int (PE.tok S hw .int)|mul=>
  refine dA hw ?_;try clear hw;rintro a hw
  refine PyProof.Rows.mul_int (PE.tok S hw .int) ?_;rcases a with a|a|a;·exact a.1.mul a.2
  ·exact IntMulOk.of_left (uM a)
  ·exact IntMulOk.of_right (uM a)|fdiv=>
  refine lz hw ?_;try clear hw;rintro a b hw
  refine PyProof.Rows.floordiv_int (Int.ne_of_gt a) ?_ (.inl (Sm.noPylong b));rw[Ed _ (nB a)];exact PE.tok S hw .int|mod=>
  refine dA hw ?_;try clear hw;rintro a hw
  refine PyProof.Rows.mod_int' (Int.ne_of_gt a) ?_;rw[Int.fmod_eq_emod_of_nonneg _ (nB a)];exact PE.tok S hw .int|pow=>
  refine fK hw ?_;try clear hw;rintro a b c h4 hw
  exact PyProof.Rows.pow_int_small c (by lia) (by lia) (PE.tok S hw .int)|shl=>
  refine tE hw ?_;try clear hw;rintro a b c hw
  have:=c.bits;exact PyProof.Rows.lshift_int a (by lia) (PE.tok S hw .int)|shr=>
  refine dA hw ?_;try clear hw;rintro a hw
  refine PyProof.Rows.rshift_int a ?_;rw[Ed _ (nB (Int.pow_pos (by decide)))];exact PE.tok S hw .int|and=>
  refine lz hw ?_;try clear hw;rintro a b hw
  refine PyProof.Rows.and_int ?_;rw[AE a b];exact PE.tok S hw .int|or=>
  refine lz hw ?_;try clear hw;rintro a b hw
  refine PyProof.Rows.or_int ?_;rw[oC a b];exact PE.tok S hw .int|xor=>
  refine lz hw ?_;try clear hw;rintro a b hw
  refine PyProof.Rows.xor_int ?_;rw[Ai a b];exact PE.tok S hw .int
theorem N5(S:St W A G ρ H s){t:Nat}{m}{vs:List V}{xs:List Value}(hw:dL (.list vs) Q H)(v:bj s.heap vs xs)(R:∀h' t a ao o,Fr {} G.env.locals h' m->News {} G.env.locals h' ((a,o)::tL s.heap G.env.locals)->s.heap.get? a=none->(TS s.heap h'->h'.get? a=some o->eK W h' a ao)->H a=none/\Reach W A G H s ρ (fU H a ao) {s with heap:=h',toks:=t}){h':Heap}(F:Fr {} G.env.locals h' m)(N:News {} G.env.locals h' ((s.heap.objs.size,PySem.W.listOf xs.toArray 0)::tL s.heap G.env.locals)):PE W A G ρ H s Q (.ref s.heap.objs.size) {s with heap:=h',toks:=t}:=by refine dA (R h' t _ (.list vs) _ F N bN λb e=>aY xs 0 e (v.ts b)) λc r=>?_;exact aL _ _ (hw.b _ c) (.ref) r
theorem He(S:St W A G ρ H s){a b:Nat}{xs c:List V}(p:H a=some (.list xs))(q:H b=some (.list c))(d:xs.length+c.length<=cu)(hw:dL (.list (xs++c)) Q H):wpAny (model W.prog W.w) A (binaryOp .Add (.ref a) (.ref b)) (PE W A G ρ H s Q) E s:=by refine aT ((S.objs a _ p).isList) λe f g h=>?_;refine aT ((S.objs b _ q).isList) λi j k h=>?_;refine aT (S.frNew) λm F N R=>?_;refine PyProof.Rows.add_arrays F N f j (λh' l n=>N5 S hw (g.append k) R l n) ?_;rw[oF,oF,<-g.length,<-k.length];exact aa d dj
theorem HC(S:St W A G ρ H s){a:Nat}{n:Int}{u:Tok}{xs:List V}(p:H a=some (.list xs))(b:n.toNat*xs.length<=cu)(c:0<=n)(d:n<=cu)(hw:dL (.list (AF n.toNat xs)) Q H):wpAny (model W.prog W.w) A (binaryOp .Mult (.ref a) (.int n u)) (PE W A G ρ H s Q) E s:=by refine u_ ((S.objs a _ p).isList) λe f g k h=>?_;refine aT (S.frNew) λm F N R=>?_;have i:=M7;refine PyProof.Rows.mul_list F N h (by lia) (by lia) ?_ λh' j l=>N5 S hw (g.rep n.toNat) R j (by rw[yA]at l;exact l);rw[oF,<-g.length,fB];exact aa b dj
theorem I_(S:St W A G ρ H s){s1:List Nat}{n:Int}{x:Str}{t u:Tok}(e:x.cps.toList=s1)(a:0<=n)(b:n.toNat*s1.length<=cu)(c:n<=cu)(hw:Q (.str (AF n.toNat s1)) H):wpAny (model W.prog W.w) A (binaryOp .Mult (.str x t) (.int n u)) (PE W A G ρ H s Q) E s:=by
 have d:=iI e;rw[jG]at b;rw[jG]at c;have f:n<=1048576:=c;have g:(x.length:Int)*n<=1048576:=by have e1:((n.toNat*s1.length:Nat):Int)<=((1048576:Nat):Int):=gL b;rw[Int.natCast_mul,Int.toNat_of_nonneg a,Int.mul_comm]at e1;rw[d];exact e1
 refine PySem.SB.mul (bz ?_ ?_ ?_) λh k=>PE.tok S hw (.str ?_);·rw[b5 (by lia),b5 (by lia)];rfl
 ·intro i _ j;have i:0<n:=by lia
  have l:(x.length:Int)<=(2^63-1)/n:=(Int.le_ediv_iff_mul_le i).mpr (by lia);lia
 ·intro _ _;have hs:sizeLine=16777216:=by decide+kernel
  unfold Builtin.Str.tooLong;rw[hs,d,fB];exact b5 (by lia)
 ·unfold PySem.Txt.mul;by_cases m:n<1;·rw[aE m,show n.toNat=0 by lia];rfl
  ·rw[aA m];by_cases q:(n==1||x.length==0)=true
   ·rw[aE q,e];rcases vw q with q|q;·rw[ci q];exact(jQ s1).symm
    ·rw[show s1=[]from Es (d▸ci q)];unfold AF;rw[List.flatten_replicate_nil]
   ·rw[aA q];refine(?_:((List.replicate n.toNat x.cps).foldl (·++·) #[]).toList=_);rw[AG,e]
theorem KU(S:St W A G ρ H s){op:ue}{a b:V}{x y:Value}(hw:mQ op a b Q H)(c:VR s.heap a x)(d:VR s.heap b y):wpAny (model W.prog W.w) A (binaryOp (zC op) x y) (PE W A G ρ H s Q) E s:=by
 replace hw:=hw.b;cases a with
 |int i=>cases b with|int j=>refine VR.eInt c λt=>?_;refine VR.eInt d λu=>?_;exact LP S hw|_=>exact hw.elim
 |str l=>cases b with
  |str m=>
   refine lz hw ?_;try clear hw;rintro rfl f hw
   refine VR.eStr c λx t e=>?_;refine VR.eStr d λy u e2=>?_;refine PyProof.Rows.add_str (λg tk=>PE.tok S hw (.str ?_)) ?_;·rw[Str.cps_append,Array.toList_append,e,e2]
   ·rw[iI e,iI e2];exact aa f dj|int j=>
   refine fK hw ?_;try clear hw;rintro rfl h n o hw
   refine VR.eStr c λx t e=>?_;refine VR.eInt d λu=>?_;exact I_ S e h n o hw|_=>exact hw.elim
 |bytes l=>cases b with
  |bytes m=>
   refine lz hw ?_;try clear hw;rintro rfl f hw
   refine VR.eBytes c λx t e=>?_;refine VR.eBytes d λy u e2=>?_;refine PySem.W.KBy.add_bytes ?_ λg k=>PE.tok S hw (.bytes (by rw[Array.toList_append,eR,e,e2]));have e3:=ak List.length e;have r:=ak List.length e2;rw[aP,ua]at e3;rw[aP,ua]at r;rw[jG]at f;lia|_=>exact hw.elim
 |ref a=>cases b with
  |ref b=>
   refine ko hw ?_;try clear hw;rintro rfl xs v p q f hw
   refine VR.eRef c ?_;refine VR.eRef d ?_;exact He S p q f hw|int j=>
   refine IR hw ?_;try clear hw;rintro rfl xs p f w n hw
   refine VR.eRef c ?_;refine VR.eInt d λu=>?_;exact HC S p f w n hw|_=>exact hw.elim
 |_=>exact hw.elim
noncomputable def Rm(A:Around)(n:Nat):Prop:=A.depth+10*n+20<recursionLimit/\A.units+100*n+300<cLine/\A.guards=some []
theorem Rm.units{n:Nat}(h:Rm A n):A.units+64<cLine:=by unfold Rm at h;lia
theorem St.frUpd(S:St W A G ρ H s){a:Addr}{ao:AO}{o:Obj}(c:H a=some ao)(d:∀l,ao≠.ro l)(ho:s.heap.get? a=some o):∃m rest,Fr {} G.env.locals s.heap m/\News {} G.env.locals s.heap ((a,o)::rest)/\(∀p∈rest,p.1≠a)/\∀h' t f g,Fr {} G.env.locals h' m->News {} G.env.locals h' ((a,g)::rest)->(∀l,f≠.ro l)->(TS s.heap h'->h'.get? a=some g->eK W h' a f)->Reach W A G H s ρ (fU H a f) {s with heap:=h',toks:=t}:=by
 refine am (S.vars) λm h hv=>?_;have i:=S.sepL G.env.locals (cS ..);have j:a≠G.env.locals:=λq=>by rw[q,i.1]at c;cases c
 refine bW m ((tL s.heap G.env.locals).filter λp=>p.1≠a) ⟨h,(λb o e=>by rw[iS]at e;cases e),cR _⟩ (λp k=>?_) (λp k=>by simpa using(jI k).2) ?_
 ·rcases bB k with rfl|k;·exact bz ho j (iS _)
  ·have:=ke (jI k).1;exact bz this.1 this.2 (iS _)
 ·intro h' t f g F N n r;refine S.turnL h hv c d (λb o u v e=>?_) F.ns (λw=>r w (N _ (cS ..)).1) n;exact N.get (dn _ (pG ⟨hA e v,by simpa using u⟩))
noncomputable def jW:wE->CmpOp|.eq=>.Eq|.ne=>.NotEq|.lt=>.Lt|.le=>.LtE|.gt=>.Gt|.ge=>.GtE
theorem Au{h:Heap}:∀{p:List Int}{a:List Value},bj h (p.map .int) a->∃c,ReadsAll h a (p.map PyData.int) c:=by intro p;induction p with|nil=>intro a v;refine bj.eNil v ?_;exact⟨_,.nil⟩|cons i p d=>intro a v;refine bj.eCons v λx xs w b=>?_;refine VR.eInt w λt=>?_;refine dE (d b) λc e=>?_;exact⟨_,.cons (.int _ _) e⟩
theorem lL{W:Wd}{h:Heap}{a:Addr}{p:List Int}(r:eK W h a (iL p)):∃b,Reads h (.ref a) (.list (p.map PyData.int)) b:=by
 refine aZ r λc n ho v=>?_;try clear r
 refine dE (Au v) λb d=>?_;exact⟨_,.list ho rfl rfl (by rw[Bo];exact d)⟩
theorem pb:∀p:List Int,PyData.canLayAll0 (p.map PyData.int)=true:=by intro r;induction r with|nil=>exact rfl|cons _ r a=>exact a
theorem sq:∀p:List Int,PyData.depthAll (p.map PyData.int)=0:=by intro r;induction r with|nil=>exact rfl|cons _ r a=>refine(?_:max 0 (PyData.depthAll (r.map PyData.int))=0);rw[a];rfl
theorem sC:∀p q:List Int,PyData.eqvAll (p.map PyData.int) (q.map PyData.int)=(p==q)|[],[]=>rfl|[],_::_=>rfl|_::_,[]=>rfl|a::r,b::t=>ak ((a==b)&&·) (sC r t)
theorem shaped_ints(p:List Int):SeqAt.shaped (.list (p.map PyData.int))=true:=by simp only[SeqAt.shaped,PyData.canLay0,pb,PyData.depth,sq];decide
theorem rR{W:Wd}{h:Heap}{a:Addr}{p:List Int}{st:List Nat}{x:Value}(r:eK W h a (iL p))(v:VR h (.tup [.ref a,.str st]) x)(hs:f7 st=true):∃y:Str,y.cps.toList=st/\PyData.strOk y=true/\∃b,Reads h x (.tuple [.list (p.map PyData.int),.str y]) b:=by(refine aW (v.i) ?_;rintro c xs d;rw[d];rintro⟨o,ho,e,n,hd⟩f);refine aW (f.iCons) ?_;rintro g xs rfl i f;refine aW (f.iCons) ?_;rintro j xs rfl k f;obtain rfl:=f.iNil;obtain rfl:=i.iRef;refine aZ (k.iStr) ?_;rintro y t rfl l;refine dE (lL r) λb m=>?_;refine rI y l ?_ _ (.tuple ho e hd (.cons m (.cons (.str y t) .nil)));unfold PyData.strOk;rw[<-Array.all_toList,l,uW];intro c e;have:=bY (dN hs c e);exact bC (by lia)
theorem sW{x y:Str}{a b:List Nat}(c:x.cps.toList=a)(d:y.cps.toList=b):(x==y)=(a==b):=by
 have:x=y↔a=b:=by
  subst c;subst d;constructor;·rintro rfl;rfl
  ·intro h;obtain⟨⟨x⟩⟩:=x;obtain⟨⟨y⟩⟩:=y;simp at h;rw[h]
 by_cases q:x=y;·rw[kX q,kX (this.mp q)]
 ·rw[eD q,eD (λz=>q (this.mpr z))]
theorem pq{p:List Int}{y:Str}(h:PyData.strOk y=true):SeqAt.shaped (.tuple [.list (p.map PyData.int),.str y])=true:=by simp only[SeqAt.shaped,PyData.canLay0,PyData.canLayAll0,pb,PyData.depth,PyData.depthAll,sq,h];decide
theorem eq_data(S:St W A G ρ H s){a b:V}{x y:Value}{r:Bool}(hw:OO a b H r)(c:VR s.heap a x)(d:VR s.heap b y)(e:∀l,a≠.bytes l)(ns:∀l,a≠.str l):∃f g h bs,Reads s.heap x f h/\Reads s.heap y g bs/\SeqAt.shaped f=true/\SeqAt.shaped g=true/\PyData.eqv f g=r:=by
 cases a with
 |str l=>exact absurd rfl (ns l)|bytes l=>exact absurd rfl (e l)|int i=>cases b with
  |int j=>refine dE (c.iInt) ?_;rintro t rfl;refine dE (d.iInt) ?_;rintro u rfl;exact dB _ _ _ _ (.int _ _) (.int _ _) rfl rfl (Eq.symm hw)|_=>exact hw.elim
 |ref a=>cases b with
  |ref b=>
   obtain rfl:=c.iRef;obtain rfl:=d.iRef;refine aW hw ?_;try clear hw;rintro p q e1 e2 rfl
   refine dE (lL (S.objs a _ e1)) λh r1=>?_;refine dE (lL (S.objs b _ e2)) λbs k=>?_;exact dB _ _ _ _ r1 k (shaped_ints _) (shaped_ints _) (sC p q)|_=>exact hw.elim
 |tup m=>cases b with
  |tup n=>
   refine lG hw ?_;try clear hw;rintro a o b v p q rfl rfl e1 e2 w z rfl
   refine u_ (rR (S.objs a _ e1) c w) λB C D h r1=>?_;refine u_ (rR (S.objs b _ e2) d z) λE F I bs k=>?_;refine dB _ _ _ _ r1 k (pq D) (pq I) ?_;refine(?_:(PyData.eqvAll (p.map PyData.int) (q.map PyData.int)&&((B==E)&&true))=_);rw[sC,Bool.and_true,sW C F]|_=>exact hw.elim
 |_=>exact hw.elim
theorem v8{x y:Array UInt8}{a b:List Nat}(c:x.toList.map (·.toNat)=a)(d:y.toList.map (·.toNat)=b):(x.toList==y.toList)=(a==b):=by
 have:x.toList=y.toList↔a=b:=by rw[<-c,<-d];exact(List.map_inj_right λu v e=>UInt8.toNat_inj.mp e).symm
 by_cases q:x.toList=y.toList;·rw[kX q,kX (this.mp q)]
 ·rw[eD q,eD (λz=>q (this.mpr z))]
noncomputable def NK(W:Wd)(A:Around)(E:Value->Shared->Prop)(s:Shared)(x y:Value)(r:Bool):Prop:=(∀{Q':Value->Shared->Prop},Q' (.bool r) s->wpAny (model W.prog W.w) A (compareOp .Eq x y) Q' E s)/\∀{Q':Value->Shared->Prop},Q' (.bool (!r)) s->wpAny (model W.prog W.w) A (compareOp .NotEq x y) Q' E s
theorem J4(S:St W A G ρ H s)(c:Rm A 0){a b:V}{x y:Value}{r:Bool}(hw:OO a b H r)(d:VR s.heap a x)(f:VR s.heap b y):NK W A E s x y r:=by
 have gen:(∀l,a≠.bytes l)->(∀l,a≠.str l)->NK W A E s x y r:=λg i=>by refine dD (eq_data S hw d f g i) λj k n bs r1 o s1 s2 e=>?_;exact⟨λq=>PyProof.Rows.eq_dataH r1 o s1 s2 c.units (by rw[e];exact q),λq=>PyProof.Rows.ne_dataH r1 o s1 s2 c.units (by rw[e];exact q)⟩
 cases a with
 |bytes l=>cases b with
  |bytes m=>refine aZ (d.iBytes) ?_;rintro p t rfl e;refine aZ (f.iBytes) ?_;rintro v u rfl e2;obtain rfl:r=_:=hw;rw[<-v8 e e2];exact⟨λq=>PySem.W.eq_bytes q,λq=>PySem.W.ne_bytes q⟩|_=>exact hw.elim
 |str l=>cases b with
  |str m=>refine aZ (d.iStr) ?_;rintro p t rfl e;refine aZ (f.iStr) ?_;rintro v u rfl e2;obtain rfl:r=_:=hw;rw[<-sW e e2];exact⟨λq=>PyProof.Rows.eq_str q,λq=>PyProof.Rows.ne_str q⟩|_=>exact hw.elim
 |int=>exact gen (λw h=>nomatch h) (λw h=>nomatch h)|ref=>exact gen (λw h=>nomatch h) (λw h=>nomatch h)|tup=>exact gen (λw h=>nomatch h) (λw h=>nomatch h)|_=>exact hw.elim
theorem dq{p:Prop}[Decidable p]{K:Bool->Prop}{r:Bool}(e:r=decide p)(h:(p->K true)/\(¬p->K false)):K r:=by
 by_cases q:p;·rw[e,bC q];exact h.1 q
 ·rw[e,b5 q];exact h.2 q
theorem bq{α:Type}[BEq α][LawfulBEq α]{K:Bool->Prop}{x y:α}(h:(x=y->K true)/\(x≠y->K false)):K (x==y):=by
 by_cases q:x=y;·rw[kX q];exact h.1 q
 ·rw[eD q];exact h.2 q
theorem JQ{a b:V}{K:Bool->Prop}(h:OR a b H K):∃r,OO a b H r/\K r:=by
 cases a with
 |int x=>cases b with|int y=>exact an _ rfl (bq h)|_=>exact h.elim
 |str x=>cases b with
  |str y=>exact an _ rfl (bq h)|_=>exact h.elim
 |bytes x=>cases b with
  |bytes y=>exact an _ rfl (bq h)|_=>exact h.elim
 |ref x=>cases b with
  |ref y=>refine aW h ?_;try clear h;rintro p q c d h;exact an _ (aL p q c d rfl) (bq h)|_=>exact h.elim
 |tup x=>cases b with
  |tup y=>
   refine lG h ?_;try clear h;rintro a x b y p q e c d f h4 g h
   exact an _ (lh a x b y p q e c d f h4 g rfl) (dq (by rw[Bool.eq_iff_iff,GB,beq_iff_eq,beq_iff_eq,mC]) h)|_=>exact h.elim
 |_=>exact h.elim
theorem mX{a b:V}{P:Int->Int->Prop}(h:match a,b with|.int x,.int y=>P x y|_,_=>False):∃x y,a=.int x/\b=.int y/\P x y:=by
 cases a with
 |int x=>cases b with
  |int y=>exact aL x y rfl rfl h|_=>exact h.elim
 |_=>exact h.elim
theorem zP(S:St W A G ρ H s)(c:Rm A 0){op:wE}{a b:V}{x y:Value}(hw:bP op a b Q H)(d:VR s.heap a x)(f:VR s.heap b y):wpAny (model W.prog W.w) A (compareOp (jW op) x y) (λv s'=>s'=s/\∃r,v=.bool r/\Q (.bool r) H) E s:=by
 replace hw:=hw.b;refine aD ?_;intro g;have h:∀{P:Int->Int->Prop},(∃i j,a=.int i/\b=.int j/\P i j)->∃i j t u,x=.int i t/\y=.int j u/\P i j:=λ⟨i,j,e1,e2,q⟩=>by subst e1 e2;refine VR.eInt d λt=>?_;refine VR.eInt f λu=>?_;exact nj i j t u rfl rfl q
 cases op with
 |eq=>refine am (JQ (K:=λr=>Q (.bool r) H) hw) λr e hw=>?_;exact(J4 S c e d f).1 (eA rfl _ rfl hw)|ne=>refine am (JQ (K:=λr=>Q (.bool (!r)) H) hw) λr e hw=>?_;exact(J4 S c e d f).2 (eA rfl _ rfl hw)|lt=>refine iV (h (mX hw)) ?_;rintro i j t u rfl rfl q;exact PyProof.Rows.lt_int (eA rfl _ rfl (dq (K:=λr=>Q (.bool r) H) rfl q))|le=>refine iV (h (mX hw)) ?_;rintro i j t u rfl rfl q;exact PyProof.Rows.le_int (eA rfl _ rfl (dq (K:=λr=>Q (.bool r) H) rfl q))|gt=>refine iV (h (mX hw)) ?_;rintro i j t u rfl rfl q;exact PyProof.Rows.gt_int (eA rfl _ rfl (dq (K:=λr=>Q (.bool r) H) rfl q))|ge=>refine iV (h (mX hw)) ?_;rintro i j t u rfl rfl q;exact PyProof.Rows.ge_int (eA rfl _ rfl (dq (K:=λr=>Q (.bool r) H) rfl q))
theorem iA{α:Type}[BEq α][LawfulBEq α][DecidableEq α]{h:Heap}:∀{a:List (α×V)}{kvs:List (α×Value)}{k:α},wJ h a kvs->(∀v,a.lookup k=some v->∃x,valueAt kvs k=some x/\VR h v x)/\(a.lookup k=none->valueAt kvs k=none)
 |[],[],k,_=>⟨(λv e=>by cases e),λb=>rfl⟩|(k1,c)::r,(k2,d)::f,k,⟨e,hv,hr⟩=>by
  subst e;have g:=iA (k:=k) hr;unfold valueAt at*;by_cases q:k=k1
  ·subst q;refine⟨λv e=>?_,λe=>?_⟩
   ·simp[List.lookup]at e;subst e;exact an d (by simp) hv
   ·simp[List.lookup]at e
  ·have i:(k==k1)=false:=eD q;have j:decide (k1=k)=false:=b5 (λz=>q z.symm);simp only[List.lookup_cons,i,List.find?_cons,j];exact g|[],_::_,_,h=>h.elim|_::_,[],_,h=>h.elim
theorem wL{a b:List Nat}:gC a=gC b↔a=b:=by
 skip;constructor;·intro h;injection h with h;simpa using ak Array.toList h
 ·rintro rfl;rfl
theorem yM{a:List (List Nat×V)}{k:List Nat}:(a.map λp=>(gC p.1,p.2)).lookup (gC k)=a.lookup k:=by
 induction a with
 |nil=>rfl|cons p r b=>
  obtain⟨k1,c⟩:=p;simp only[List.map_cons,List.lookup_cons,b];by_cases q:k=k1;·subst q;simp
  ·have d:(k==k1)=false:=eD q;have e:(gC k==gC k1)=false:=eD (λz=>q (wL.mp z));rw[d,e]
theorem kl{x:Str}{k:List Nat}(h:x.cps.toList=k):gC k=x:=by subst h;obtain⟨⟨l⟩⟩:=x;rfl
theorem JM{x d:V}{K:Bool->Prop}(h:GX x d H K):∃r,inR x d H r/\K r:=by refine cr (h.b) λk a b ep c e f h=>?_;refine an _ (j1 k a b ep c e f rfl) ?_;cases q:(b.lookup k).isSome with|true=>exact h.1 q|false=>exact h.2 q
theorem JZ(S:St W A G ρ H s){a d:V}{x y:Value}{r:Bool}(hw:inR a d H r)(b:VR s.heap a x)(hd:VR s.heap d y): (∀{Q':Value->Shared->Prop},Q' (.bool r) {s with toks:=s.toks+1}->wpAny (model W.prog W.w) A (compareOp .In x y) Q' E s)/\(∀{Q':Value->Shared->Prop},Q' (.bool (!r)) {s with toks:=s.toks+1}->wpAny (model W.prog W.w) A (compareOp .NotIn x y) Q' E s):=by
 (refine cr (hw) ?_;try clear hw;rintro k a c ep rfl rfl p f;rw[f]);refine VR.eInt b λt=>?_;refine VR.eRef hd ?_;refine aT (S.objs _ _ p) λkvs dd g nn=>?_;have dd:=dd.dictOf;have h:(a==sysModules)=false:=eD nn;have l:=iA (k:=k) g
 have e:(c.lookup k).isSome=(valueAt kvs k).isSome:=by
  cases q:c.lookup k with
  |none=>rw[l.2 q];rfl|some v=>refine am (l.1 v q) λx hx i=>?_;rw[hx];rfl
 rw[e];exact⟨λq=>wpAny_in_of (intKind_is W.prog W.w k t) h dd.mapOf q,λq=>wpAny_notIn_of (intKind_is W.prog W.w k t) h dd.mapOf q⟩
noncomputable def Gv(s:Shared)(o:Value):Prop:=∃T id,s.TypeIs o T/\typeLookup (.type T) "__getitem__"=pure (some (.builtin id))
theorem nV(a:Expr)(o i:Value):∃b,subscripted a false o i=operate b (getItem o i):=by cases a with|Slice l u st p=>cases st<;>exact⟨_,rfl⟩|_=>exact⟨_,rfl⟩
theorem rj{a b:Expr}{o i:Value}{Q':Value->Shared->Prop}(c:Gv s o)(h:wpAny (model W.prog W.w) A (getItem o i) Q' E s):wpAny (model W.prog W.w) A (subscriptTail a b o i) Q' E s:=by
 refine aZ c λT id d f=>?_;try clear c
 refine dE (nV b o i) λg e=>?_;exact PyProof.Rows.tail_any d f h e
theorem n_{b:Array UInt8}{l:List Nat}(e:b.toList.map (·.toNat)=l):l.length=b.toList.length:=by rw[<-e,aP]
theorem Er{n:Nat}{k:Int}(a:0<=k)(h:k.toNat<n):seqIndex? k n=some k.toNat:=by
 unfold seqIndex?;have:¬k<0:=by lia
 simp only[this,if_false];rw[aE,GB,mC,mC];lia
theorem tc{n:Nat}{k:Int}(a:n<=cu)(h:k.toNat<n):k<2^63:=by rw[jG]at a;lia
theorem qV(S:St W A G ρ H s){o i:V}{x y:Value}(hw:dZ o i Q H)(ho:VR s.heap o x)(hi:VR s.heap i y):wpAny (model W.prog W.w) A (getItem x y) (PE W A G ρ H s Q) E s/\Gv s x:=by
 replace hw:=hw.b;cases o with
 |ref a=>
  refine VR.eRef ho ?_;cases i with
  |int k=>
   refine VR.eInt hi λt=>?_;rcases hw with⟨xs,v,p,d,f,e,hw⟩|⟨g,ep,v,p,e,hw⟩
   ·refine aT ((S.objs a _ p).isList) λh l m n=>?_;refine am (m.get e) λq r hv=>?_;exact fg (wpAny_getItem_list l d (tc f (jB e).1) (x:=q) (by rw[List.getElem?_toArray];exact r) (PE.same S hw hv)) _ _ l.typeIs slot_list_getitem.lookup
   ·refine aT (S.objs _ _ p) λkvs dd w nn=>?_;have dd:=dd.dictOf;refine am ((iA (k:=k) w).1 v e) λq r hv=>?_;exact fg (wpAny_getItem_of (intKind_is W.prog W.w k t) dd.mapOf r (PE.tok S hw hv)) _ _ dd.typeIs slot_dict_getitem.lookup|str k=>
   refine VR.eStr hi λz t B=>?_;refine aW hw ?_;try clear hw;rintro g v p e hw
   refine aT (S.objs _ _ p) λkvs dd w nn=>?_;refine am ((iA (k:=gC k) w).1 v (by rw[yM];exact e)) λq r hv=>?_;rw[kl B]at r;exact fg (wpAny_getItem_of (strKind_is W.prog W.w z t) dd.mapOf r (PE.tok S hw hv)) _ _ dd.typeIs slot_dict_getitem.lookup|_=>exact hw.elim
 |tup vs=>cases i with
  |int k=>
   (refine aW (ho.i) ?_;rintro a xs C;rw[C];rintro it D);refine VR.eInt hi λt=>?_;refine xW hw ?_;try clear hw;rintro v d f e hw
   refine am (D.get e) λq r hv=>?_;have I:=(jB e).1;have J:=tc f I;rw[D.length]at I;exact fg (PyProof.Rows.getItem_tuple it (by lia) J (j:=k.toNat) (Er d (by rw[oF];exact I)) (x:=q) (by rw[List.getElem?_toArray];exact r) (PE.same S hw hv)) _ _ it.typeIs slot_tuple_getitem.lookup|_=>exact hw.elim
 |bytes b=>cases i with
  |int k=>
   refine aZ (ho.iBytes) ?_;rintro K t rfl L;refine dE (hi.iInt) ?_;rintro u rfl;refine xW hw ?_;try clear hw;rintro v d f e hw
   have I:=(jB e).1;have J:=tc f I;rw[n_ L]at I;refine(fg ?_ ("bytes") _ rfl FB.slot_bytes_getitem.lookup);rw[show K=K.toList.toArray from(Array.toArray_toList ..).symm];refine PySem.W.getItem_bytes (by rw[jG]at f;have:=n_ L;lia) d (by lia) ?_;have:(K.toList.getD k.toNat 0).toNat=v:=by rw[<-L,f_]at e;(refine am (rV e) ?_;rintro c M C;rw[<-C]);rw[A4,M];rfl
   rw[this];exact PE.tok S hw .int|_=>exact hw.elim
 |str b=>cases i with
  |int k=>
   refine aZ (ho.iStr) ?_;rintro K t rfl L;refine dE (hi.iInt) ?_;rintro u rfl;refine xW hw ?_;try clear hw;rintro v d f e hw
   have I:=(jB e).1;have J:=tc f I;refine fg (PySem.P.getItem_str (by rw[b5 (by lia),b5 (by lia)];rfl) (c:=v) ?_ (PE.tok S hw (.str rfl))) ("str") _ rfl F.slot_str_getitem.lookup;rw[Er d (by rw[iI L];exact I)];refine(?_:K.cps[k.toNat]?=some v);rw[<-Array.getElem?_toList,L];exact e|_=>exact hw.elim
 |_=>exact hw.elim
theorem Dq(hi:Option Int)(n:Nat):kms_hi hi n<=n:=by cases hi with|none=>exact bF n|some y=>show(if y<0 then n-(-y).toNat else min y.toNat n)<=n;split<;>lia
theorem AY(lo hi:Option Int)(n:Nat):Builtin.Str.strSliceIndices lo hi 1 n=(List.range (kms_hi hi n-kms_lo lo n)).map (kms_lo lo n+·):=by
 rw[<-sliceRange_one];have a:∀y:Int,max 0 y=(y.toNat:Int):=λy=>by rw[Int.ofNat_toNat,Int.max_comm]
 have b:∀i:Int,max 0 (min (if i<0 then i+(n:Int)else i) (n:Int))=((if i<0 then n-(-i).toNat else min i.toNat n:Nat):Int):=λi=>by
  rw[a];by_cases h:i<0
  ·refine dE (Int.eq_ofNat_of_zero_le (Int.neg_nonneg_of_nonpos (nB h))) λk c=>?_;rw[aE h,aE h,c,Int.min_eq_left (by lia),show i+(n:Int)=(n:Int)-(k:Int)by lia,Int.toNat_sub];rfl
  ·refine dE (Int.eq_ofNat_of_zero_le (Int.not_lt.mp h)) ?_;rintro k rfl;rw[aA h,aA h];refine(?_:(((min (k:Int) (n:Int)).toNat:Nat):Int)=((min k n:Nat):Int));rcases Nat.le_total k n with q|q;·rw[Int.min_eq_left (gL q),ot q];rfl
   ·rw[Int.min_eq_right (gL q),Nat.min_eq_right q];rfl
 refine(?_:sliceRange _ _ 1=_);congr 1
 ·cases lo with
  |none=>rfl|some i=>exact b i
 ·cases hi with|none=>rfl|some i=>exact b i
theorem Ig{x:Str}{l:List Nat}(e:x.cps.toList=l){lo hi:Option Int}:(Builtin.Str.strSliceIndices lo hi 1 x.length).filterMap (x.cps[·]?)=eg lo hi l:=by rw[AY,pick_run,e,iI e];rfl
theorem yg{x:Str}{l:List Nat}(e:x.cps.toList=l){lo hi:Option Int}(a:(Builtin.Str.strSliceIndices lo hi 1 x.length).length=x.length):eg lo hi l=l:=by
 rw[AY,iI e,aP,bf]at a;have b:=Dq hi l.length;unfold eg;rw[a];by_cases h:l=[];·rw[h,List.drop_nil,List.take_nil]
 ·have c:=List.length_pos_iff.mpr h;rw[show kms_lo lo l.length=0 by lia,List.drop_zero,qe]
theorem uD{h:Heap}{v:V}{x:Value}{o:Option Int}(p:EF v o)(r:VR h v x):IsPart x o/\∃q:Option (Int×Tok),x=partValue q/\q.map (·.1)=o:=by cases p with|none=>obtain rfl:x=.none:=r.i;exact eA (.none) none rfl rfl|int i=>refine VR.eInt r λt=>?_;exact eA (.int _ _) (some (i,t)) rfl rfl
theorem Em(S:St W A G ρ H s){o lo hi:V}{x c d:Value}{f g:Option Int}{sl:Addr}(hs:s.heap.IsSliceOf sl c d .none)(pl:EF lo f)(h:EF hi g)(hw:Pg o f g Q H)(ho:VR s.heap o x)(i:VR s.heap lo c)(j:VR s.heap hi d):wpAny (model W.prog W.w) A (getItem x (.ref sl)) (PE W A G ρ H s Q) E s/\Gv s x:=by
 refine lW (uD pl i) λl1 k l2 m=>?_;refine lW (uD h j) λn v w y=>?_;have B:∀{α:Type}(xs:List α),(eg f g xs).length<=xs.length:=λxs=>by skip;rw[List.length_take,zl];exact aa (Nat.min_le_right _ _) (i' _ _)
 have C:∀(a:Addr)(xs:List V)(D:List Value),s.heap.IsList a D.toArray->bj s.heap xs D->xs.length<=cu->dL (.list (eg f g xs)) Q H->wpAny (model W.prog W.w) A (getItem (.ref a) (.ref sl)) (PE W A G ρ H s Q) E s/\Gv s (.ref a):=λa xs D I J K hw=>by
  refine fg (wpAny_getItem_list_slice I hs l1 n .none (by decide) ?_ ?_) _ _ I.typeIs slot_list_getitem.lookup
  ·rw[kms_pick_eq];have L:bj s.heap (eg f g xs) (kms_pick D f g):=by unfold eg kms_pick;rw[J.length];exact(J.drop _).take _
   refine dA (Reach.made (t:=s.toks) (h':=s.heap.push {cls:=.type "list",data:=.seq (kms_pick D.toArray.toList f g).toArray}) S (λb o e=>cn _ e) bN (ao:=.list (eg f g xs)) (aY (kms_pick D f g) 0 (by rw[gE _ rfl]) (L.ts (TS.of_keeps λb o e=>cn _ e)))) λM r=>?_;exact aL _ _ (hw.b _ M) (.ref) r
  ·rw[oF,<-J.length];exact aa K dj
 cases o with
 |str l=>
  refine VR.eStr ho λN t e=>?_;refine dA hw λO hw=>?_;subst l2;subst w;refine fg (wpAny_getItem_str_slice (l:=k) (u:=v) (st:=none) hs rfl ?_) ("str") _ rfl F.slot_str_getitem.lookup;unfold sliceMade slicePicked;skip;rw[m,y];split
  ·rename_i q;rw[GB]at q;exact PE.same S hw (.str (by rw[yg e (ci q.2)];exact e))
  ·rw[Ig e];exact⟨aa (aa (B l) O) dj,PE.tok S hw (.str rfl)⟩|bytes l=>
  refine VR.eBytes ho λP t e=>?_;refine lz hw ?_;try clear hw;rintro O R hw
  have T:l.length=P.size:=by rw[n_ e,ua]
  have U:(KBy.picked P f g).toList.map (·.toNat)=eg f g l:=by unfold KBy.picked Builtin.Bytes.sliced;rw[kms_bounds];skip;rw[sliceRange_one,pick_run,Bo,uj,List.map_drop,e,<-T];rfl
  refine(fg (getItem_meets rfl (by decide) FB.slot_bytes_getitem FB.entry_bytes_getitem (FB.args_bytes_getitem_2 _ _) (KBy.meets_slice P t _ l1 n ?_) (bz hs ?_ (PE.tok S hw (.bytes U)))) ("bytes") _ rfl FB.slot_bytes_getitem.lookup)
  ·unfold KBy.whole;rw[kms_bounds];skip;rw[show(((kms_hi g P.size:Nat):Int)==(P.size:Int))=false from eD λz=>g_ R (by rw[T];exact Int.ofNat.inj z)];simp
  ·have X:=ak List.length U;rw[aP,ua]at X;rw[X];exact aa (aa (B l) O) dj|ref a=>
  refine VR.eRef ho ?_;obtain⟨xs,p|p,K,hw⟩:=hw;·refine aT ((S.objs a _ p).isList) λD I J Y=>?_;exact C a xs D I J K hw
  ·refine am (S.objs a _ p) λD I J=>?_;exact C a xs D I J K hw|_=>exact hw.elim
theorem FR(l:List Nat):(List.range l.length).map (λk=>l.getD (l.length-1-k) 0)=l.reverse:=by refine List.ext_getElem (by rw[aP,bf,oJ]) λi a b=>?_;rw[oJ]at b;rw[List.getElem_map,List.getElem_range,List.getElem_reverse,<-List.getElem_eq_getD (h:=fm (i' ..) (Nat.sub_lt (fm (cR _) b) Nat.one_pos))]
theorem Mx(S:St W A G ρ H s){l:List Nat}{x:Str}{t u:Tok}{sl:Addr}(hs:s.heap.IsSlice sl none none (some (-1,u)))(e:x.cps.toList=l)(a:l.length<=cu)(hw:Q (.str l.reverse) H):wpAny (model W.prog W.w) A (getItem (.str x t) (.ref sl)) (PE W A G ρ H s Q) E s/\Gv s (.str x t):=by
 refine fg (wpAny_getItem_str_slice hs rfl ?_) ("str") _ rfl F.slot_str_getitem.lookup;have b:(Builtin.Str.strSliceIndices none none (-1) x.length).filterMap (x.cps[·]?)=l.reverse:=by
  rw[picked_rev,filterMap_get,bO,<-FR,iI e]
  ·refine f9 λk c=>?_;refine(?_:x.cps.getD (l.length-1-k) 0=l.getD (l.length-1-k) 0);rw[<-e,A4,Array.getElem?_toList,Array.getD_eq_getD_getElem?]
  ·intro i hi;(refine am (dm hi) ?_;rintro k d f;rw[<-f]);have:=gi d;exact fm (i' ..) (Nat.sub_lt (fm (cR _) this) Nat.one_pos)
 unfold sliceMade slicePicked;skip;rw[aA (by simp),b];exact⟨by refine(?_:l.reverse.length<=_);rw[oJ];exact aa a dj,PE.tok S hw (.str rfl)⟩
theorem handed{h:Heap}{v:V}{x:Value}(r:VR h v x):handedIn x=true:=by cases r<;>rfl
theorem n9{h:Heap}(inj:∀i j,W.attr i=W.attr j->i=j):∀{fs:List (Nat×V)}{a:List DictEntry}{f:Nat},dw W h fs a->(∀v,fs.lookup f=some v->∃x,getL (W.attr f) a=some (some x)/\VR h v x)/\(fs.lookup f=none->getL (W.attr f) a=some none)
 |[],[],f,_=>⟨(λv e=>by cases e),λb=>rfl⟩|(i,c)::r,d::a,f,⟨⟨t,g⟩,hv,hr⟩=>by
  have k:=n9 inj (f:=f) hr;unfold getL at*;have hs:d.key.isStr (W.attr f)=(W.attr i==W.attr f):=by rw[g];rfl
  have l:d.refKey=false:=by unfold DictEntry.refKey;rw[g]
  by_cases q:f=i
  ·subst q;have m:d.key.isStr (W.attr f)=true:=by rw[hs];simp
   refine⟨λv e=>?_,λe=>by simp[List.lookup]at e⟩;simp[List.lookup]at e;subst e;refine an d.val ?_ hv;simp only[List.find?_cons,m]
  ·have m:d.key.isStr (W.attr f)=false:=by rw[hs];exact eD λz=>q (inj _ _ z).symm
   have n:(f==i)=false:=eD q;simp only[List.lookup_cons,n,List.find?_cons,m];simp only[List.any_cons,l,Bool.false_or];exact k|[],_::_,_,h=>h.elim|_::_,[],_,h=>h.elim
theorem uN{h:Heap}(inj:∀i j,W.attr i=W.attr j->i=j){a:Int}{t:Tok}{v:V}{x:Value}(hv:VR h v x):∀{fs:List (Nat×V)}{b:List DictEntry}{f:Nat},dw W h fs b->dw W h (oj f v fs) (putL (W.attr f) a (.str (W.attr f) t) x b)
 |[],[],f,_=>bz ⟨_,rfl⟩ hv aJ|(i,c)::r,d::b,f,⟨⟨e,g⟩,k,hr⟩=>by
  have hs:d.key.isStr (W.attr f)=(W.attr i==W.attr f):=by rw[g];rfl
  rw[pj];unfold putL;by_cases q:i=f
  ·subst q;have l:d.key.isStr (W.attr i)=true:=by rw[hs];simp
   rw[aE (by simp),aE l];exact bz ⟨e,g⟩ hv hr
  ·have l:d.key.isStr (W.attr f)=false:=by rw[hs];exact eD λz=>q (inj _ _ z)
   rw[aA (by simpa using q),aA (by rw[l];simp)];exact bz ⟨e,g⟩ k (uN inj hv hr)|[],_::_,_,h=>h.elim|_::_,[],_,h=>h.elim
theorem GH(name:Str)(a:Int)(b v:Value):∀c:List DictEntry,(putL name a b v c).length<=c.length+1:=by
 intro r;induction r with
 |nil=>simp[putL]|cons e r d=>
  unfold putL;split;·simp
  ·have:=d;simp only[List.length_cons];lia
structure NJ(W:Wd)(n:Nat):Prop where
 inB:W.K.In W.B
 inj:∀i j,W.attr i=W.attr j->i=j
 pg:∀c,plainGet W.K (W.cls c) ""=true
 hd:∀c,hasDictIn W.K (W.cls c)=true
 sa:∀c,findIn W.K (.ref (W.cls c)) "__setattr__"=some (some (.builtin "object.__setattr__"))
 po:∀c,plainOver W.K (W.cls c)=true
 at':∀c i,i<n->findIn W.K (.ref (W.cls c)) (W.attr i)=some none/\takerIn W.K (W.cls c) (W.attr i)=some none
theorem St.K(S:St W A G ρ H s){n:Nat}(b:NJ W n):W.K.In s.heap:=λa o e=>S.base a o (b.inB a o e)
theorem Bw(S:St W A G ρ H s){n:Nat}(b:NJ W n){f:Nat}(d:f<n){o:V}{x:Value}{g:Bool}(hw:fa o f Q H)(ho:VR s.heap o x):wpAny (model W.prog W.w) A (getAttr x (W.attr f) g) (PE W A G ρ H s Q) E s:=by
 replace hw:=hw.b;refine iO hw ?_;try clear hw;rintro a c dx fs v rfl p q e hw
 refine VR.eRef ho ?_;refine dE (S.objs _ _ p) λsl h=>?_;refine aW (S.objs _ _ q) λi k hd j hz=>?_;refine am ((n9 b.inj (f:=f) j).1 v e) λl hx m=>?_;exact get_value (S.K b) ⟨h,rfl,rfl,hd⟩ (plainGet_of (name:="") (b.pg c)).1 (findObj_own (b.hd c) (b.at' c f d).1 (by rfl) (by rw[lookIn_dict];exact hx)) (handed m) (PE.tok S hw m)
theorem dw.of{h h':Heap}(k:TS h h'):∀{l:List (Nat×V)}{a:List DictEntry},dw W h l a->dw W h' l a|[],[],_=>aJ|_::_,_::_,z=>bz z.1 (z.2.1.ts k) (dw.of k z.2.2)|[],_::_,z=>z.elim|_::_,[],z=>z.elim
theorem dw.len{h:Heap}:∀{fs:List (Nat×V)}{a:List DictEntry},dw W h fs a->a.length=fs.length|[],[],_=>rfl|_::_,_::_,z=>ak (·+1) (dw.len z.2.2)|[],_::_,z=>z.elim|_::_,[],z=>z.elim
noncomputable def PU(W:Wd)(A:Around)(G:Fc)(ρ:aR)(H:Hp)(s:Shared)(Q:Hp->Prop):Unit->Shared->Prop:=λa s'=>∃Z,Q Z/\Reach W A G H s ρ Z s'
theorem lY(S:St W A G ρ H s){n:Nat}(b:NJ W n){f:Nat}(d:f<n){o v:V}{x y:Value}{Q:Hp->Prop}{E:Value->Shared->Prop}(hw:cb o f v Q H)(ho:VR s.heap o x)(hv:VR s.heap v y):wpAny (model W.prog W.w) A (setAttr x (W.attr f) y) (PU W A G ρ H s Q) E s:=by
 replace hw:=hw.b;refine dD hw ?_;try clear hw;rintro a c dx fs rfl p q h hw
 refine VR.eRef ho ?_;refine dE (S.objs _ _ p) λsl i=>?_;refine aW (S.objs _ _ q) λj k hd r hz=>?_;have I:InstAt s.heap a ⟨.ref (W.cls c),some dx,.plain,sl⟩ (W.cls c) (some (PySem.W.dictOf j k)):=⟨i,rfl,rfl,hd⟩;refine jV (S.frUpd q (by intro l;simp) hd) λm rest F N hr R=>?_;have t:∀z w,(putL (W.attr f) z w y j).length<=500:=λz w=>aa (GH ..) (by rw[r.len];exact h);refine set_plain (S.K b) I (b.sa c) (osa_dict (s:={s with toks:=s.toks+1}) (pre:=[]) F N (S.K b) I rfl (b.po c) (b.at' c f d).2 (b.hd c) ?_ (by simp) hr (by rw[putName_dict]) rfl ?_ λh' u B=>?_)
 ·rw[lookIn_dict];have g:=n9 b.inj (f:=f) r;cases e:fs.lookup f with|none=>rw[g.2 e];rfl|some v=>refine am (g.1 v e) λC hx D=>?_;rw[hx];rfl
 ·exact aa (t _ _) (by decide:500<=1000)
 ·exact an _ hw (R h' _ (.attrs (oj f v fs)) _ u B (by intro l;simp) λJ e=>aL _ _ e (uN b.inj (hv.ts J) (r.of J)) (t _ _))
theorem B_(S:St W A G ρ H s){x:Str}{i:Nat}{v:V}(hx:G.vs.lookup x=some i)(hv:ρ i=some v)(b:Q v H)(hd:(x==("__classdict__":Str))=false):wpAny (model W.prog W.w) A (loadName G.env x) (PE W A G ρ H s Q) E s:=by
 refine am (S.vars) λm d f=>?_;refine am (f x i v hx hv) λg r a=>?_;rcases a with⟨k,e⟩|⟨k,c,h,j⟩;·exact wpAny_loadName_local S.kind k d e (PE.same S b r)
 ·rcases k with k|k;·exact wpAny_loadName_cell S.kind k h j (PE.same S b r)
  ·exact wpAny_loadName_free S.kind k h j (PE.same S b r) hd
theorem lH{h:Heap}{a:Addr}{m:Str->Option Value}{v:Option Value}(b:h.Ns a m)(c:h.IsCell a v):False:=by
 refine bw b λo d ep ho hd e=>?_;try clear b
 refine am c λf g i=>?_;try clear c
 rw[ho]at g;cases g;rw[hd]at i;cases i
theorem St.ownTurn(S:St W A G ρ H s){m':Str->Option Value}{O:aR}{h':Heap}{t:Nat}(k:∀b o,b∉G.own->s.heap.get? b=some o->h'.get? b=some o)(d:h'.Ns G.env.locals m')(f:∀x c,(x,c)∈G.env.cells->∃v,h'.IsCell c v)(g:∀x i v,G.vs.lookup x=some i->O i=some v->∃j,VR s.heap v j/\pe G.env m' h' x j):Reach W A G H s O H {s with heap:=h',toks:=t}:=by
 have m:=λb (p:b∈G.own)=>S.sepL b (S.ownSub b p);have r:∀{a ao},H a=some ao->a∉G.own:=λe q=>by rw[(m _ q).1]at e;cases e
 have u:TS s.heap h':=λb o e i=>by
  refine k b o (λq=>?_) e;refine am (S.own_obj (S.ownSub _ q)) λw y z=>?_;rw[e]at y;cases y;rcases z with⟨B,n,z⟩|⟨v,z⟩;·exact bc z i
  ·exact fw z i
 have C:∀b∈ownOf G.env,∃w,h'.get? b=some w:=λb p=>by
  skip;rcases bB p with rfl|p;·refine ir d λo D D ho D=>?_;try clear d;exact⟨o,ho⟩
  ·(refine am (dm p) ?_;rintro⟨x,c⟩E F;rw[<-F]);refine aZ (f x c E) λv o ho D=>?_;exact⟨o,ho⟩
 refine⟨⟨?_,?_,?_,S.new,S.kind,S.glob,S.bltn,(an m' d (λx i v z I=>?_)),f,S.hasc,S.apart,S.sepL,S.ownSub,S.locOwn,S.stOk,?_,S.hasF,S.inj⟩,⟨?_,?_,λD e=>.inl e,λD e=>e,?_⟩⟩;·refine qD (S.rest) λh J e=>?_;exact tC h' t (by rw[e])
 ·intro b o e;exact k b o (λq=>by rw[(m _ q).2]at e;cases e) (S.base b o e)
 ·intro a ao e;exact(S.objs a ao e).of_get u λo y=>k a o (r e) y
 ·refine am (g x i v z I) λj a b=>?_;exact an j (a.ts u) b
 ·intro l K e M;refine cT (S.frames l K e M) λN L o B n P ho hd Q R=>?_;by_cases q:L∈G.own
  ·have T:=S.ownSub _ q;skip;rcases bB T with T|T
   ·subst T;refine bw d λw U n' V X D=>?_;try clear d
    exact b6 N _ w U n' P V X Q R
   ·refine am (dm T) ?_;rintro⟨x,c⟩E rfl;refine aZ (S.cells x c E) λv w V X=>?_;rw[ho]at V;cases V;rw[hd]at X;cases X
  ·exact b6 N L o B n P (k _ _ q ho) hd Q R
 ·intro b o e _ no _;exact k b o no e
 ·intro b o e _ no;exact⟨o.slots,k b o no e⟩
 ·intro b o e;by_cases q:b∈G.own;·exact C b (S.ownSub _ q)
  ·exact⟨o,k b o q e⟩
theorem fJ(S:St W A G ρ H s){x:Str}{i:Nat}{v:V}{f:Value}(hx:G.vs.lookup x=some i)(g:x∈G.st)(r:VR s.heap v f):wpAny (model W.prog W.w) A (storeName G.env x f) (λh s'=>Reach W A G H s (bM ρ i v) H s') E s:=by
 refine am (S.vars) λm l n=>?_;have p:∀y j w,G.vs.lookup y=some j->bM ρ i v j=some w->(y=x/\w=v)\/(y≠x/\ρ j=some w):=λy j w t hw=>by
  by_cases q:y=x
  ·subst q;rw[hx]at t;cases t;simp[bM]at hw;exact .inl ⟨rfl,hw.symm⟩
  ·have:j≠i:=by rintro rfl;exact q (S.inj _ _ _ t hx)
   simp[bM,this]at hw;exact .inr ⟨q,hw⟩
 rcases S.stOk x g with k|⟨k,c,u,z⟩
 ·refine wpAny_storeName_local k l (λh' B C=>?_) (by rw[S.kind];rfl);have D:∀{y d w},s.heap.IsCell d w->(y,d)∈G.env.cells->h'.IsCell d w:=λF I=>by refine am (id F) λo ho hd=>?_;exact an o (C.extBut _ _ (λq=>lH l (q▸F)) ho) hd
  refine S.ownTurn (m':=λy=>if y=x then some f else m y) (λb o J e=>C.extBut b o (λq=>J (q▸S.locOwn)) e) B (λy d I=>?_) λy j w t hw=>?_
  ·refine dE (S.cells y d I) λw hw=>?_;exact⟨w,D hw I⟩
  ·rcases p y j w t hw with⟨rfl,rfl⟩|⟨K,hw⟩;·exact an f r (.inl ⟨k,by simp⟩)
   ·refine am (n y j w t hw) λL a b=>?_;refine an L a ?_;rcases b with⟨b,e⟩|⟨b,d,hd,F⟩;·exact .inl ⟨b,by simp[K,e]⟩
    ·exact .inr (eA b d hd (D F (fu hd)))
 ·refine dE (S.cells x c (fu u)) λw0 M=>?_;refine wpAny_storeName_cell S.kind k u M λh' N C=>?_;have D:∀{y d w},s.heap.IsCell d w->(y,d)∈G.env.cells->d≠c->h'.IsCell d w:=λF I O=>by refine am (id F) λo ho hd=>?_;exact an o (C.extBut _ _ O ho) hd
  refine S.ownTurn (m':=m) (λb o J e=>C.extBut b o (λq=>J (q▸z)) e) (l.sameBut C λq=>lH l (q▸M)) (λy d I=>?_) λy j w t hw=>?_
  ·by_cases q:d=c;·rw[q];exact⟨_,N⟩
   ·refine dE (S.cells y d I) λw hw=>?_;exact⟨w,D hw I q⟩
  ·rcases p y j w t hw with⟨rfl,rfl⟩|⟨K,hw⟩;·exact an f r (.inr (eA (.inl k) c u N))
   ·refine am (n y j w t hw) λL a b=>?_;refine an L a ?_;rcases b with⟨b,e⟩|⟨b,d,hd,F⟩;·exact .inl ⟨b,e⟩
    ·refine .inr (eA b d hd (D F (fu hd) λq=>K ?_));subst q;exact name_of_addr S.apart (fu hd) (fu u)
theorem Reach.back{d:Around}{G':Fc}{O:aR}{H0 Z:Hp}{s0 s':Shared}(f:St W A G ρ H0 s0)(r:Reach W A G H0 s0 ρ H s)(g:St W d G' O Z s'){h:List Addr}(P:kg h (aX d) H s.heap Z s'.heap)(ab:∀b∈h,s0.heap.get? b=none)(ff:∀b∈aX d,s0.heap.get? b=none\/b∈aX A)(j:∀b,b∈h\/(b∈aX d/\b∉aX A)->∀o,s.heap.get? b=some o->¬pV o):Reach W A G H0 s0 ρ Z s':=by
 have S:=r.st;have lo:∀b o,s0.heap.get? b=some o->b∉h:=λb o e q=>by rw[ab b q]at e;cases e
 have k:∀b o,s0.heap.get? b=some o->b∉aX A->b∉aX d:=λb o e q p=>by
  rcases ff b p with z|z;·rw[z]at e;cases e
  ·exact q z
 have ag:TS s.heap s'.heap:=λb o e i=>by
  refine P.keep b o e ?_ (λq=>j b (.inl q) o e i) λq=>?_
  ·cases q:H b with|none=>rfl|some ao=>exact absurd i ((S.objs _ _ q).notImm e)
  ·by_cases z:b∈aX A
   ·refine bw (S.frs_obj z) λt u n w y B=>?_;rw[e]at w;cases w;exact bc y i
   ·exact j b (.inr ⟨q,z⟩) o e i
 have C:∀b∈ownOf G.env,∃o,s0.heap.get? b=some o:=λb D=>by refine am (f.own_obj D) λo ho B=>?_;exact⟨o,ho⟩
 have sl:∀b o E,s0.heap.get? b=some E->s.heap.get? b=some o->H b=none->∃sl,s'.heap.get? b=some {o with slots:=sl}:=λb o E e0 e n=>by
  by_cases q:b∈aX d;·exact P.slots b o e q (lo b E e0)
  ·exact⟨o.slots,P.keep b o e n (lo b E e0) q⟩
 have F:∀{x c v},s.heap.IsCell c v->(x,c)∈G.env.cells->s'.heap.IsCell c v:=λ{x c v}I J=>by refine am (id I) λo ho hd=>?_;have K:c∈ownOf G.env:=dn _ (cY (an (x,c) J rfl));refine dE (C _ K) λE M=>?_;refine an o (P.keep _ o ho (S.sepL _ K).1 (lo _ _ M) (k _ _ M λq=>?_)) hd;refine bw (S.frs_obj q) λt u n w y B=>?_;rw[ho]at w;cases w;rw[hd]at y;cases y
 have N:∀b o,s.heap.get? b=some o->H b=none->Z b=none:=λb o e n=>by
  cases q:Z b with|none=>rfl|some ao=>
   rcases P.dom b (by rw[q];simp)with z|z;·exact absurd n z
   ·rw[e]at z;cases z
 have nH:∀b E,s0.heap.get? b=some E->H0 b=none->H b=none:=λb E e0 n=>by
  cases q:H b with|none=>rfl|some ao=>
   rcases r.pr.dom b (by rw[q];simp)with z|z;·exact absurd n z
   ·rw[e0]at z;cases z
 refine⟨⟨g.rest,g.base,g.objs,g.new,S.kind,S.glob,S.bltn,?_,?_,S.hasc,S.apart,?_,S.ownSub,S.locOwn,S.stOk,?_,S.hasF,S.inj⟩,⟨λb o e n no Q=>?_,λb o e J no=>?_,λb e=>?_,λb e=>P.sub b (r.pr.sub b e),λb o e=>?_⟩⟩
 ·refine am (S.vars) λm R hv=>?_;refine an m ?_ (λx i v y al=>?_)
  ·refine bw R λo u ep ho hd ap=>?_;try clear R
   refine dE (C _ (cS ..)) λE M=>?_;refine dE (sl _ o E M ho (S.sepL _ (cS ..)).1) λsl hs=>?_;exact dU _ u ep hs hd ap
  ·refine am (hv x i v y al) λar a b=>?_;refine an ar (a.ts ag) ?_;rcases b with b|⟨b,c,I,av⟩;·exact .inl b
   ·exact .inr (eA b c I (F av (fu I)))
 ·intro x c e;refine dE (S.cells x c e) λv I=>?_;exact⟨v,F I e⟩
 ·intro b D;refine am (S.own_obj D) λo ho B=>?_;exact⟨N b o ho (S.sepL b D).1,(S.sepL b D).2⟩
 ·intro l T e U;refine cT (S.frames l T e U) λa0 L o u n V ho hd a1 X=>?_;refine w9 (f.frames l T e U) λB a3 E B B Y M B=>?_;rw[V]at Y;cases Y;refine dE (sl L o E M ho X) λsl hs=>?_;exact b6 a0 L _ u n V hs hd a1 (N L o ho X)
 ·have e1:=r.pr.keep b o e n no Q;exact P.keep b o e1 (nH b o e n) (lo b o e) (k b o e Q)
 ·refine dE (r.pr.slots b o e J no) λa4 e1=>?_;refine c_ (f.frs_obj J) λB B B B B X B=>?_;refine dE (sl b _ o e e1 (nH b o e X)) λa2 e2=>?_;exact⟨a2,e2⟩
 ·rcases P.dom b e with z|z;·exact r.pr.dom b z
  ·right;cases q:s0.heap.get? b with
   |none=>rfl|some o=>refine dE (r.pr.live b o q) λt p=>?_;rw[p]at z;cases z
 ·refine dE (r.pr.live b o e) λt w=>?_;exact P.live b t w
theorem St.others(S:St W A G ρ H s){its:List Addr}{h':Heap}{t:Nat}(d:∀b∈its,H b=none/\W.B.get? b=none/\b∉ownOf G.env/\b∉aX A)(f:∀b∈its,∀o,s.heap.get? b=some o->¬pV o)(k:∀b o,b∉its->s.heap.get? b=some o->h'.get? b=some o):St W A G ρ H {s with heap:=h',toks:=t}where
 rest:=by refine qD (S.rest) λh g e=>?_;exact tC h' t (by rw[e])
 base:=λb o e=>k b o (λq=>by rw[(d b q).2.1]at e;exact nomatch e) (S.base b o e);objs:=λa ao e=>(S.objs a ao e).of_get (λb o e i=>k b o (λq=>f b q o e i) e) λo j=>k a o (λq=>by rw[(d a q).1]at e;cases e) j;new:=S.new;kind:=S.kind;glob:=S.glob;bltn:=S.bltn;vars:=by refine am (S.vars) λm p hv=>?_;exact(an m (p.at' λo e=>k _ o (λq=>(d _ q).2.2.1 (cS ..)) e) (λx i v r u=>by refine am (hv x i v r u) λw a b=>?_;exact an w (a.ts (λb o e i=>k b o (λq=>f b q o e i) e)) (b.of_get λb y o e=>k b o (λq=>(d _ q).2.2.1 y) e)))
 cells:=λx c e=>by refine aZ (S.cells x c e) λv o ho hd=>?_;exact aY v o (k _ _ (λq=>(d _ q).2.2.1 (dn _ (cY (an _ e rfl)))) ho) hd
 hasc:=S.hasc;apart:=S.apart;sepL:=S.sepL;ownSub:=S.ownSub;locOwn:=S.locOwn;stOk:=S.stOk;frames:=λl z e B=>by refine cT (S.frames l z e B) λC L o D n E ho hd F I=>?_;exact b6 C L o D n E (k _ _ (λq=>(d _ q).2.2.2 (List.mem_filterMap.mpr (an e (by rw[z];exact B) E))) ho) hd F I
 hasF:=S.hasF;inj:=S.inj
theorem Reach.others{H0:Hp}{s0:Shared}(a:St W A G ρ H0 s0){O:aR}(r:Reach W A G H0 s0 O H s){its:List Addr}{h':Heap}{t:Nat}(fr:∀b∈its,s0.heap.get? b=none)(c:∀b∈its,H b=none)(d:∀b∈its,∀o,s.heap.get? b=some o->¬pV o)(k:∀b o,b∉its->s.heap.get? b=some o->h'.get? b=some o):Reach W A G H0 s0 O H {s with heap:=h',toks:=t}:=by
 have no:∀b o,s0.heap.get? b=some o->b∉its:=λb o e q=>by rw[fr b q]at e;cases e
 have f:∀b∈its,H b=none/\W.B.get? b=none/\b∉ownOf G.env/\b∉aX A:=λb g=>by
  refine et (c b g) ?_ (λq=>?_) (λq=>?_)
  ·cases q:W.B.get? b with
   |none=>rfl|some o=>have:=a.base b o q;rw[fr b g]at this;exact nomatch this
  ·refine am (a.own_obj q) λo e h=>?_;rw[fr b g]at e;cases e
  ·refine ir (a.frs_obj q) λo h h e h=>?_;rw[fr b g]at e;exact nomatch e
 refine⟨r.st.others f d k,⟨λb o e n i j=>k b o (no b o e) (r.pr.keep b o e n i j),λb o e l i=>?_,r.pr.dom,r.pr.sub,λb o e=>?_⟩⟩
 ·refine dE (r.pr.slots b o e l i) λsl e1=>?_;exact⟨sl,k b _ (no b o e) e1⟩
 ·refine dE (r.pr.live b o e) λm p=>?_;exact⟨m,k b m (no b o e) p⟩
theorem Reach.tracked{H0:Hp}{s0:Shared}(c:St W A G ρ H0 s0){O:aR}(r:Reach W A G H0 s0 O H s){a:Addr}{ao:AO}(fr:s0.heap.get? a=none)(d:H a=none)(o:eK W s.heap a ao):Reach W A G H0 s0 O (fU H a ao) s:=by
 refine⟨r.st.track o ?_ d (λq=>?_) λq=>?_,⟨r.pr.keep,r.pr.slots,λb e=>?_,λb e=>?_,r.pr.live⟩⟩
 ·cases q:W.B.get? a with|none=>rfl|some o=>have:=c.base a o q;rw[fr]at this;exact nomatch this
 ·refine am (c.own_obj q) λo e f=>?_;rw[fr]at e;exact nomatch e
 ·refine ir (c.frs_obj q) λo f f e f=>?_;rw[fr]at e;exact nomatch e
 ·by_cases q:b=a;·rw[q];exact .inr fr
  ·rw[ch q]at e;exact r.pr.dom b e
 ·by_cases q:b=a;·rw[q,bG];simp
  ·rw[ch q];exact r.pr.sub b e
theorem Reach.noH{H0:Hp}{s0:Shared}{O:aR}(r:Reach W A G H0 s0 O H s){b:Addr}{o:Obj}(e:s0.heap.get? b=some o)(n:H0 b=none):H b=none:=by
 cases q:H b with
 |none=>rfl|some ao=>
  rcases r.pr.dom b (by rw[q];simp)with z|z;·exact absurd n z
  ·rw[e]at z;cases z
noncomputable def DM(W:Wd)(a h:Heap)(c:Nat)(e:Addr):Prop:=a.get? e=none/\∃b vs,h.get? e=some b/\b.cls=.ref (W.exc c)/\b.data=.fields vs/\(vs[1]?=some .none\/∃T d f,vs[1]?=some (.ref T)/\a.get? T=none/\T≠e/\h.get? T=some d/\d.cls=.type "traceback"/\d.data=.fields f/\3<f.size)
noncomputable def Dr(W:Wd)(a h:Heap)(c:Nat)(e:Addr):Prop:=a.get? e=none/\∃b vs T d f,h.get? e=some b/\b.cls=.ref (W.exc c)/\b.data=.fields vs/\vs[1]?=some (.ref T)/\a.get? T=none/\T≠e/\h.get? T=some d/\d.cls=.type "traceback"/\d.data=.fields f/\3<f.size
theorem Dr.o{b h:Heap}{c:Nat}{e:Addr}(x:Dr W b h c e):DM W b h c e:=by
 refine o4 x λa d vs T f g i j k l r=>?_;try clear x
 exact qH a d vs i j k (.inr (uH T f g l r))
theorem DM.older{d g h:Heap}{c:Nat}{e:Addr}(x:DM W g h c e)(k:∀b o,d.get? b=some o->g.get? b≠none):DM W d h c e:=by
 have f:∀b,g.get? b=none->d.get? b=none:=λb i=>by
  cases q:d.get? b with
  |none=>rfl|some o=>exact absurd i (k b o q)
 refine ko x λa j vs l m n p=>?_;try clear x
 refine qH (f _ a) j vs l m n (p.imp id ?_);rintro⟨T,s,t,u,v,r⟩;exact dU T s t u (f _ v) r
structure Kx(a:Heap)(frs:List Addr)(e:Addr)(h h':Heap):Prop where
 keep:∀b o,h.get? b=some o->(a.get? b≠none\/(b≠e/\((∀vs,o.data≠.fields vs)\/o.cls≠.type "traceback")))->(b∉frs->h'.get? b=some o)/\∃sl,h'.get? b=some {o with slots:=sl}
 live:∀b o,h.get? b=some o->∃c,h'.get? b=some c
theorem Kx.refl{a:Heap}{frs:List Addr}{e:Addr}{h:Heap}:Kx a frs e h h:=⟨λb o q b=>(Ol (λb=>q) o.slots q),λb o q=>⟨o,q⟩⟩
theorem Kx.trans{d:Heap}{frs:List Addr}{e:Addr}{h f g:Heap}(a:Kx d frs e h f)(b:Kx d frs e f g):Kx d frs e h g where
 keep:=λx o q c=>by refine Ou (a.keep x o q c) λk1 sl k2=>?_;refine Ou (b.keep x _ k2 (c.imp id λz=>⟨z.1,z.2⟩)) λk3 i k4=>?_;exact Ol (λj=>(b.keep x o (k1 j) c).1 j) i k4
 live:=λx o q=>by refine dE (a.live x o q) λk l=>?_;exact b.live x k l
theorem Ck{l:List Env}{h B:Heap}{H:Hp}(k:∀e∈l,LI B H h e):h.FunFrames {} l:=by induction l with|nil=>trivial|cons e r a=>refine Dy (k e (cS ..)) λb L o c n d ho hd f=>?_;exact bz (by rw[b];decide) (bW L o d (iS _) ho (λvs q=>by rw[hd]at q;cases q)) (a λe g=>k e (dn _ g))
theorem xZ{l:List Env}{env:Env}{d:List Env}{f:Heap}{L e:Addr}{g:Obj}{vs:Array Value}{i:Value}{j:Bool}{c:Nat}{Q':Unit->Shared->Prop}(k:A.frames=some l)(m:l=env::d)(n:s.heap.FunFrames {} l)(p:env.frame=some L)(r:f.get? e=none)(sub:∀b o,f.get? b=some o->∃t,s.heap.get? b=some t)(u:s.heap.get? e=some g)(v:g.cls=.ref (W.exc c))(hd:g.data=.fields vs)(hsz:1<vs.size)(h:∀h',Kx f (aX A) e s.heap h'->Dr W f h' c e->Q' () {s with heap:=h'}):wpAny (model W.prog W.w) A (do let a<-frameOf env;let pl<-entryPlaceOf L j;let b<-EntryCells.newEntry i a .none (rawInt L) .none pl;setField (.ref e) 1 b) Q' E s:=by
 subst m;have w:aX A=(env::d).filterMap (·.frame):=by unfold aX;rw[k];rfl
 have x:e∉(env::d).filterMap (·.frame):=λy=>by refine lW (n.mem y) λB o ho C=>?_;rw[u]at ho;injection ho with ho;subst ho;exact C vs hd
 refine aQ (wpAny_frameOf_fun k n p λD F=>?_);refine aQ (wpAny_entryPlaceOf λpl G=>?_);skip;refine aQ (sJ ?_ (G.sizeOk5 _ _ _ _ _));refine l9 ?_;intro H;have I:D.get? e=some g:=(F.2.1 e x).trans u;refine xg (cn _ I) hd hsz (h _ ⟨λb o J cond=>?_,λb o J=>?_⟩ ?_)
 ·have K:b≠e:=by
   rcases cond with z|z;·rintro rfl;exact z r
   ·exact z.1
  refine dE (F.2.2 b o J) λsl M=>?_;refine Ol (λN=>?_) sl ?_
  ·rw[r8 _ _ (eE K)];exact cn _ ((F.2.1 b (w▸N)).trans J)
  ·rw[r8 _ _ (eE K)];exact cn _ M
 ·refine dE (F.2.2 b o J) λsl M=>?_;by_cases q:b=e;·rw[q];exact⟨_,wk _ (cn _ I) (xk (oX hd _))⟩
  ·exact⟨_,(r8 _ _ (eE q)).trans (cn _ M)⟩
 ·have O:D.objs.size≠e:=Nat.ne_of_gt (jo I);refine(gN r _ _ D.objs.size _ _ (wk _ (cn _ I) (xk (oX hd _))) (by rw[Obj.cls_mapFields];exact v) (oX hd _) (by simp[hsz]) ?_ O ⟨(r8 _ _ (eE O)).trans (gE D rfl),rfl,rfl,?_⟩)
  ·cases q:f.get? D.objs.size with
   |none=>rfl|some o=>refine dE (sub _ _ q) λt P=>?_;have:=jo P;rw[F.1]at this;exact absurd this (gW _)
  ·simp only[List.size_toArray,List.length_append,List.length_cons,List.length_nil];lia
theorem uQ{a:Heap}{frs:List Addr}{h:Heap}{e T:Addr}{c:Obj}{d:Array Value}{f:Array Value->Array Value}(g:h.get? T=some c)(i:c.cls=.type "traceback")(j:c.data=.fields d)(k:a.get? T=none):Kx a frs e h (h.update T (Obj.mapFields f)):=by
 have l:∀b o,h.get? b=some o->(a.get? b≠none\/(b≠e/\((∀vs,o.data≠.fields vs)\/o.cls≠.type "traceback")))->b≠T:=λb o m cond q=>by
  subst q;rw[g]at m;cases m;rcases cond with z|⟨_,z|z⟩;·exact z k
  ·exact z _ j
  ·exact z i
 refine⟨λb o m cond=>?_,λb o m=>?_⟩;·have:=(r8 h (Obj.mapFields f) (eE (l b o m cond))).trans m;exact Ol (λn=>this) o.slots this
 ·by_cases q:b=T
  ·rw[q];exact⟨_,wk _ g (xk (oX j _))⟩
  ·exact⟨o,(r8 _ _ (eE q)).trans m⟩
theorem I6{env:Env}{a:List Env}{d:Heap}{L e:Addr}{c:Nat}{Q':Unit->Shared->Prop}(f:A.frames=some (env::a))(g:s.heap.FunFrames {} (env::a))(i:env.frame=some L)(sub:∀b o,d.get? b=some o->∃j,s.heap.get? b=some j)(x:DM W d s.heap c e)(h:∀h',Kx d (aX A) e s.heap h'->Dr W d h' c e->Q' () {s with heap:=h'}):wpAny (model W.prog W.w) A (noteFrame (.ref e) env) Q' E s:=by
 refine ko x λk l vs m n hd hv=>?_;try clear x
 unfold noteFrame;simp only[i];rcases hv with p|⟨T,r,t,p,u,v,w,y,z,B⟩;·refine aQ (lE m hd p ?_);rw[aA (by decide)];exact xZ f rfl g i k sub m n hd (Array.getElem?_eq_some_iff.mp p).1 h
 ·obtain⟨C,D⟩:∃C,t[3]?=some C:=⟨t[3],by simp[B]⟩;refine aQ (lE m hd p ?_);rw[aE (show(Value.ref T !=Value.none)=true from by rfl)];refine aQ (lE w z D ?_);by_cases q:(C==rawInt L)=true
  ·rw[aE q];exact bg (h s.heap .refl (gN k l vs T r t m n hd p u v ⟨w,y,z,B⟩))
  ·rw[aA q];refine aQ (xg w z B ?_);have k1:Kx d (aX A) e s.heap (s.heap.update T (Obj.mapFields (·.setIfInBounds 3 Value.none))):=uQ w y z u;have F:∀b o,s.heap.get? b=some o->(∀vs,o.data≠.fields vs)->b≠T:=λb o G H q=>by subst q;rw[w]at G;cases G;exact H t z
   refine l9 ?_;intro I;refine xZ f rfl (g.of_keeps λb o G H=>an o ((r8 _ _ (eE (F b o G H))).trans G) rfl) i k (λb o q=>?_) ((r8 _ _ v).trans m) n hd (Array.getElem?_eq_some_iff.mp p).1 λh' k2 J=>h h' (k1.trans k2) J;refine dE (sub b o q) λj K=>?_;exact k1.live b j K
theorem CE{a:Heap}{e:Addr}{c:Nat}{fr:Option Addr}{frs:List Addr}{Q':Unit->Shared->Prop}(x:Dr W a s.heap c e)(h:∀h',Kx a frs e s.heap h'->Dr W a h' c e->Q' () {s with heap:=h'}):wpAny (model W.prog W.w) A (setFlight (.ref e) fr) Q' E s:=by
 refine nY x λb d vs T f g i j hd k l m n o p q=>?_;try clear x
 skip;refine aQ (lE i hd k ?_);rw[aE (show(Value.ref T !=Value.none)=true from by rfl)];refine xg n p q (h _ (uQ n o p l) ?_);exact(gN b d vs T _ _ ((r8 _ _ m).trans i) j hd k l m ⟨wk _ n (xk (oX p _)),by rw[Obj.cls_mapFields];exact o,oX p _,by simp[q]⟩)
theorem Dr.field1{a:Heap}{e:Addr}{c:Nat}(x:Dr W a s.heap c e){Q':Value->Shared->Prop}(h:∀T,Q' (.ref T) s):wpAny (model W.prog W.w) A (field (.ref e) 1) Q' E s:=by
 refine o4 x λb d vs T f g i j hd k l=>?_;try clear x
 exact lE i hd k (h T)
theorem St.kx{d:Heap}{c:Nat}{e:Addr}{h':Heap}{t:Nat}(S:St W A G ρ H s)(g:∀b o,W.B.get? b=some o->d.get? b≠none)(x:DM W d s.heap c e)(K:Kx d (aX A) e s.heap h'):St W A G ρ H {s with heap:=h',toks:=t}:=by
 refine ko x λab ag vs j p u w=>?_;try clear x
 have ne:∀b o,s.heap.get? b=some o->(∀vs,o.data≠.fields vs)->b≠e:=λb o q y z=>by subst z;rw[j]at q;cases q;exact y _ u
 have y:∀b o,s.heap.get? b=some o->(∀vs,o.data≠.fields vs)->b∉aX A->h'.get? b=some o:=λb o q z f=>(K.keep b o q (.inr ⟨ne b o q z,.inl z⟩)).1 f;have sl:∀b o,s.heap.get? b=some o->(∀vs,o.data≠.fields vs)->∃sl,h'.get? b=some {o with slots:=sl}:=λb o q z=>(K.keep b o q (.inr ⟨ne b o q z,.inl z⟩)).2;have B:∀b,b∈aX A->H b=none/\W.B.get? b=none:=λb C=>by refine c_ (S.frs_obj C) λw w w w w D E=>?_;exact⟨D,E⟩
 have F:TS s.heap h':=λb o q i=>by
  have f:b∉aX A:=λC=>by refine bw (S.frs_obj C) λI J n M D w=>?_;rw[q]at M;cases M;exact bc D i
  rcases i with⟨_,xs,k,hd⟩|⟨N,al,hd⟩;·exact y b o q (λvs z=>by rw[hd]at z;cases z) f
  ·refine(K.keep b o q (.inr ⟨λz=>?_,.inr (by rw[N];decide)⟩)).1 f;subst z;rw[j]at q;cases q;rw[N]at p;cases p
 have O:∀{c v},s.heap.IsCell c v->h'.IsCell c v:=λN=>by
  refine am N λo ho hd=>?_;try clear N
  refine an o (y _ o ho (λvs z=>by rw[hd]at z;cases z) λC=>?_) hd;refine bw (S.frs_obj C) λI J n M D w=>?_;rw[ho]at M;cases M;rw[hd]at D;cases D
 refine⟨?_,?_,?_,S.new,S.kind,S.glob,S.bltn,?_,?_,S.hasc,S.apart,S.sepL,S.ownSub,S.locOwn,S.stOk,?_,S.hasF,S.inj⟩;·refine qD (S.rest) λh ap e=>?_;exact tC h' t (by rw[e])
 ·intro b o q;exact(K.keep b o (S.base b o q) (.inl (g b o q))).1 λC=>by rw[(B b C).2]at q;cases q
 ·intro a ao q;have P:a∉aX A:=λC=>by rw[(B a C).1]at q;cases q
  have r:=S.objs a ao q;refine r.of_get F λo M=>y a o M (λvs z=>?_) P;cases ao with
  |list=>refine aZ r λw w e2 w=>?_;try clear r;rw[M]at e2;cases e2;cases z|dictI=>refine am r ?_;try clear r;rintro _ ⟨_,_,e2,_,hd,_⟩_;rw[M]at e2;cases e2;rw[hd]at z;cases z|dictS=>refine am r ?_;try clear r;rintro _ ⟨_,_,_,e2,_,hd,_⟩_;rw[M]at e2;cases e2;rw[hd]at z;cases z|ba=>refine am r λw e2 w=>?_;try clear r;rw[M]at e2;cases e2;cases z|inst=>refine dE r λw e2=>?_;try clear r;rw[M]at e2;cases e2;cases z|attrs=>refine aZ r λw w e2 w=>?_;try clear r;rw[M]at e2;cases e2;cases z|ro=>refine am r ?_;try clear r;rintro _ ⟨_,e2,_,_,hd⟩_;rw[M]at e2;cases e2;rw[hd]at z;cases z
 ·refine am (S.vars) λm Q hv=>?_;refine an m ?_ (λx i v D E=>?_)
  ·refine bw Q λo J ep ho hd r=>?_;try clear Q
   obtain⟨sl,hs⟩:=sl _ o ho λvs z=>by rw[hd]at z;cases z
   exact dU _ J ep hs hd r
  ·refine am (hv x i v D E) λR a b=>?_;refine an R (a.ts F) ?_;rcases b with b|⟨b,c,N,T⟩;·exact .inl b
   ·exact .inr (eA b c N (O T))
 ·intro x c e;refine dE (S.cells x c e) λv N=>?_;exact⟨v,O N⟩
 ·intro l U M V;refine cT (S.frames l U M V) λX L o J n P ho hd Y Z=>?_;obtain⟨sl,hs⟩:=sl L o ho λvs z=>by rw[hd]at z;cases z
  exact b6 X L _ J n P hs hd Y Z
theorem Reach.kx{H0:Hp}{s0:Shared}{c:Nat}{e:Addr}{h':Heap}{t:Nat}(a:St W A G ρ H0 s0){O:aR}(r:Reach W A G H0 s0 O H s)(x:DM W s0.heap s.heap c e)(K:Kx s0.heap (aX A) e s.heap h'):Reach W A G H0 s0 O H {s with heap:=h',toks:=t}:=by
 refine⟨r.st.kx (λb o q=>by rw[a.base b o q];simp) x K,⟨λb o q n no d=>?_,λb o q f no=>?_,r.pr.dom,r.pr.sub,λb o q=>?_⟩⟩;·exact(K.keep b o (r.pr.keep b o q n no d) (.inl (by rw[q];simp))).1 d
 ·refine dE (r.pr.slots b o q f no) λsl e1=>?_;refine dE ((K.keep b _ e1 (.inl (by rw[q];simp))).2) λg e2=>?_;exact⟨g,e2⟩
 ·refine dE (r.pr.live b o q) λh e1=>?_;exact K.live b h e1
end Mine.Internal
namespace Mine.Internal
open PySem PySem.W PyProof.Rows PySem.Calls
structure Cx where
 sc:Scope
 vs:List (Str×Nat)
 st:List Str
structure Nm where
 fn:Nat->Option Str
 cls:Nat->Option Str
 exc:Nat->Option Str
 meth:Nat->Option Str
 attr:Nat->Str
 nA:Nat
noncomputable def GO(x:Str):Bool:=!(x==("__debug__":Str))&&!(x==("__classdict__":Str))
noncomputable def glob(U:Cx)(x:Str):Bool:=U.sc.names.lookup x==some .globalImplicit&&!(x==("__debug__":Str))
noncomputable def oO(x:Expr):Bool:=!(x.ctorIdx==7)
noncomputable def ms(x:Expr):Bool:=!(x.ctorIdx==26)
noncomputable def ky(x:Expr):Bool:=!(x.ctorIdx==8)&&!(x.ctorIdx==9)&&!(x.ctorIdx==10)
noncomputable def LS(x:Expr):Bool:=x.ctorIdx==23
noncomputable def KT(a scope:Scope):Scope:={scope with names:=scope.names.map λ(n,k)=>if(k==.free&&a.kind==.function&&a.names.lookup n==some .cell)then(n,.cell)else(n,k)}
noncomputable def wy(x:Expr):Option Str:=if h:x.ctorIdx=23 then Expr.Name.elim (motive_1:=λa=>Option Str) x h λn a=>some n else none
noncomputable def Gd(x:Expr):Option (List Expr):=if h:x.ctorIdx=25 then Expr.Tuple.elim (motive_1:=λa=>Option (List Expr)) x h λl a a=>some l else none
noncomputable def namesOf:List Expr->Option (List Str)|[]=>some []|x::r=>(wy x).bind λn=>(namesOf r).map (n::·)
noncomputable def b0(t:iw)(x:Expr):Option (List (Str×Nat)):=match t with|.v i=>(wy x).map λn=>[(n,i)]|.t is=>(Gd x).bind λa=>(namesOf a).bind λns=>if ns.length=is.length then some (ns.zip is)else none
theorem yn{x:Expr}{n:Str}(h:wy x=some n):∃p,x=.Name n p:=by
 by_cases q:x.ctorIdx=23;·exact Expr.Name.elim (motive_1:=λx=>wy x=some n->∃p,x=.Name n p) x q (λm p h=>⟨p,by rw[dH h]⟩) h
 ·exact nomatch (cQ q).symm.trans h
theorem HA{x:Expr}{l:List Expr}(h:Gd x=some l):∃k p,x=.Tuple l k p:=by
 by_cases q:x.ctorIdx=25;·exact Expr.Tuple.elim (motive_1:=λx=>Gd x=some l->∃k p,x=.Tuple l k p) x q (λm k p h=>tC k p (by rw[dH h])) h
 ·exact nomatch (cQ q).symm.trans h
theorem mU{x:Expr}{r:List Expr}{ns:List Str}(h:namesOf (x::r)=some ns):∃n p q,x=.Name n p/\ns=n::q/\namesOf r=some q:=by refine am (Option.bind_eq_some_iff.mp h) λn e h=>?_;refine dE (yn e) λp e=>?_;refine am (rV h) λq a e2=>?_;exact dU n p q e e2.symm a
theorem AU{i:Nat}{x:Expr}{tn:List (Str×Nat)}(h:b0 (.v i) x=some tn):∃n p,x=.Name n p/\tn=[(n,i)]:=by refine am (rV h) λn e e2=>?_;refine dE (yn e) λp e=>?_;exact aY n p e e2.symm
theorem qL{is:List Nat}{x:Expr}{tn:List (Str×Nat)}(h:b0 (.t is) x=some tn):∃a k p ns,x=.Tuple a k p/\namesOf a=some ns/\ns.length=is.length/\tn=ns.zip is:=by
 refine am (Option.bind_eq_some_iff.mp h) λa e h=>?_;refine qD (HA e) λk p e=>?_;refine am (Option.bind_eq_some_iff.mp h) λns b h=>?_;by_cases q:ns.length=is.length;·rw[aE q]at h;exact j1 a k p ns e b q ((dH h).symm)
 ·rw[aA q]at h;exact nomatch h
noncomputable def lC(U:Cx)(t:iw)(x:Expr):Bool:=match b0 t x with|some tn=>tn.all λp=>U.vs.lookup p.1==some p.2&&U.st.contains p.1|none=>false
theorem qK{U:Cx}{t:iw}{x:Expr}(h:lC U t x=true):∃tn,b0 t x=some tn/\tn.all (λp=>U.vs.lookup p.1==some p.2&&U.st.contains p.1)=true:=by unfold lC at h;cases e:b0 t x with|none=>rw[e]at h;exact(bI h).elim|some tn=>rw[e]at h;exact an tn rfl h
noncomputable def b9(U:Cx)(scope:Scope)(tn:List (Str×Nat)):Cx:=⟨KT U.sc scope,tn++U.vs.filter (λp=>scope.names.lookup p.1==some .free),tn.map (·.1)⟩
noncomputable def gB{α:Type}[BEq α]:List α->Bool|[]=>true|x::r=>!(r.contains x)&&gB r
noncomputable def oQ(U:Cx)(scope:Scope)(tn:List (Str×Nat)):Bool:=scope.kind==.function&&gB (scope.names.map (·.1))&&gB (tn.map (·.2))&&gB (tn.map (·.1))&& (tn.all λp=>!((U.vs.map (·.2)).contains p.2)&&(scope.names.lookup p.1==some .local||scope.names.lookup p.1==some .cell))&& (scope.names.all λp=>match p.2 with|.free=>U.sc.names.lookup p.1==some .cell||U.sc.names.lookup p.1==some .free|.cell=>(tn.map (·.1)).contains p.1|.local=>true|.globalImplicit=>true|.globalExplicit=>false)
noncomputable def Ib(a b:Operator):Bool:=decide (a=b)
noncomputable def wz(a b:CmpOp):Bool:=decide (a=b)
noncomputable def DH:Bi->Str|.len=>"len"|.sorted=>"sorted"|.sum=>"sum"|.min=>"min"|.max=>"max"|.abs=>"abs"|.int=>"int"|.int2=>"int"|.bytes=>"bytes"|.bytearray=>"bytearray"|.isInt=>"isinstance"|.isBool=>"isinstance"|.list=>"list"|.str=>"str"|.range=>"range"
theorem no{P:Prop}(h:false=true):P:=(bI h).elim
section
variable{α:Type}{P:Prop}{l:List α}
noncomputable def wC(l:List α)(f:α->List α->Bool):Bool:=match l with|a::r=>f a r|[]=>false
theorem F_{f:α->List α->Bool}(h:wC l f=true)(k:∀a r,l=a::r->f a r=true->P):P:=by cases l<;>first|exact no h|exact k _ _ rfl h
noncomputable def wN(l:List α)(b:Bool):Bool:=match l with|[]=>b|_::_=>false
theorem kZ{b:Bool}(h:wN l b=true)(k:l=[]->b=true->P):P:=by cases l<;>first|exact no h|exact k rfl h
noncomputable def w1(l:List α)(f:α->Bool):Bool:=wC l λa r=>wN r (f a)
theorem jS{f:α->Bool}(h:w1 l f=true)(k:∀a,l=[a]->f a=true->P):P:=F_ h λa b e h=>kZ h λc h=>k a (by rw[e,c]) h
noncomputable def w2(l:List α)(f:α->α->Bool):Bool:=wC l λa r=>w1 r (f a)
theorem z9{f:α->α->Bool}(h:w2 l f=true)(k:∀a b,l=[a,b]->f a b=true->P):P:=F_ h λa c e h=>jS h λb d h=>k a b (by rw[e,d]) h
noncomputable def w3(l:List α)(f:α->α->α->Bool):Bool:=wC l λa r=>w2 r (f a)
theorem LR{f:α->α->α->Bool}(h:w3 l f=true)(k:∀a b c,l=[a,b,c]->f a b c=true->P):P:=F_ h λa d e h=>z9 h λb c g h=>k a b c (by rw[e,g]) h
variable{o:Option α}
noncomputable def wO(o:Option α)(f:α->Bool):Bool:=match o with|some a=>f a|none=>false
theorem oi{f:α->Bool}(h:wO o f=true)(k:∀a,o=some a->f a=true->P):P:=by cases o<;>first|exact no h|exact k _ rfl h
noncomputable def w0(o:Option α)(b:Bool):Bool:=match o with|none=>b|some _=>false
theorem rN{b:Bool}(h:w0 o b=true)(k:o=none->b=true->P):P:=by cases o<;>first|exact no h|exact k rfl h
end
section
variable{P:Prop}
theorem aO{a b:Bool}(h:(a&&b)=true):a=true/\b=true:=b8 h
theorem tO{α:Type}[DecidableEq α]{a b:α}{c:Bool}(h:(decide (a=b)&&c)=true)(k:a=b->c=true->P):P:=k (bY (aO h).1) (aO h).2
noncomputable def tf(c:Const)(f:Str->Bool):Bool:=if h:c.ctorIdx=5 then Const.str.elim (motive:=λa=>Bool) c h f else false
theorem sB{c:Const}{f:Str->Bool}(h:tf c f=true)(k:∀s,c=.str s->f s=true->P):P:=by
 by_cases q:c.ctorIdx=5;·exact Const.str.elim (motive:=λc=>tf c f=true->(∀s,c=.str s->f s=true->P)->P) c q (λs h k=>k s rfl h) h k
 ·exact no ((cQ q).symm.trans h)
noncomputable def Ht(c:Const)(f:Int->Bool):Bool:=if h:c.ctorIdx=2 then Const.int.elim (motive:=λa=>Bool) c h f else false
theorem K6{c:Const}{f:Int->Bool}(h:Ht c f=true)(k:∀s,c=.int s->f s=true->P):P:=by
 by_cases q:c.ctorIdx=2;·exact Const.int.elim (motive:=λc=>Ht c f=true->(∀s,c=.int s->f s=true->P)->P) c q (λs h k=>k s rfl h) h k
 ·exact no ((cQ q).symm.trans h)
variable{x:Expr}{C:Expr->Prop}
noncomputable def ca(x:Expr)(f:Str->Pos->Bool):Bool:=if h:x.ctorIdx=23 then Expr.Name.elim (motive_1:=λa=>Bool) x h f else false
theorem eJ{F:Str->Pos->Bool}(h:ca x F=true)(k:∀n p,x=.Name n p->F n p=true->P):P:=by
 by_cases q:x.ctorIdx=23;·exact Expr.Name.elim (motive_1:=λx=>ca x F=true->(∀n p,x=.Name n p->F n p=true->P)->P) x q (λa b h k=>k a b rfl h) h k
 ·exact no ((cQ q).symm.trans h)
noncomputable def bU(x:Expr)(f:Const->Nat->Pos->Bool):Bool:=if h:x.ctorIdx=19 then Expr.Constant.elim (motive_1:=λa=>Bool) x h f else false
theorem dT{F:Const->Nat->Pos->Bool}(h:bU x F=true)(k:∀c m p,x=.Constant c m p->F c m p=true->P):P:=by
 by_cases q:x.ctorIdx=19;·exact Expr.Constant.elim (motive_1:=λx=>bU x F=true->(∀c m p,x=.Constant c m p->F c m p=true->P)->P) x q (λa b d h k=>k a b d rfl h) h k
 ·exact no ((cQ q).symm.trans h)
noncomputable def FQ(x:Expr)(f:Expr->Operator->Expr->Pos->Bool):Bool:=if h:x.ctorIdx=2 then Expr.BinOp.elim (motive_1:=λa=>Bool) x h f else false
theorem Fg{F:Expr->Operator->Expr->Pos->Bool}(h:FQ x F=true)(k:∀l o r p,x=.BinOp l o r p->F l o r p=true->P):P:=by
 by_cases q:x.ctorIdx=2;·exact Expr.BinOp.elim (motive_1:=λx=>FQ x F=true->(∀l o r p,x=.BinOp l o r p->F l o r p=true->P)->P) x q (λa b c d h k=>k a b c d rfl h) h k
 ·exact no ((cQ q).symm.trans h)
noncomputable def Hh(x:Expr)(f:UnaryOp->Expr->Pos->Bool):Bool:=if h:x.ctorIdx=3 then Expr.UnaryOp.elim (motive_1:=λa=>Bool) x h f else false
theorem DQ{F:UnaryOp->Expr->Pos->Bool}(h:Hh x F=true)(k:∀o l p,x=.UnaryOp o l p->F o l p=true->P):P:=by
 by_cases q:x.ctorIdx=3;·exact Expr.UnaryOp.elim (motive_1:=λx=>Hh x F=true->(∀o l p,x=.UnaryOp o l p->F o l p=true->P)->P) x q (λa b c h k=>k a b c rfl h) h k
 ·exact no ((cQ q).symm.trans h)
noncomputable def qc(x:Expr)(f:Expr->List CmpOp->List Expr->Pos->Bool):Bool:=if h:x.ctorIdx=15 then Expr.Compare.elim (motive_1:=λa=>Bool) x h f else false
theorem sf{F:Expr->List CmpOp->List Expr->Pos->Bool}(h:qc x F=true)(k:∀l o r p,x=.Compare l o r p->F l o r p=true->P):P:=by
 by_cases q:x.ctorIdx=15;·exact Expr.Compare.elim (motive_1:=λx=>qc x F=true->(∀l o r p,x=.Compare l o r p->F l o r p=true->P)->P) x q (λa b c d h k=>k a b c d rfl h) h k
 ·exact no ((cQ q).symm.trans h)
noncomputable def sO(x:Expr)(f:BoolOp->List Expr->Pos->Bool):Bool:=if h:x.ctorIdx=0 then Expr.BoolOp.elim (motive_1:=λa=>Bool) x h f else false
theorem wA{F:BoolOp->List Expr->Pos->Bool}(h:sO x F=true)(k:∀o l p,x=.BoolOp o l p->F o l p=true->P):P:=by
 by_cases q:x.ctorIdx=0;·exact Expr.BoolOp.elim (motive_1:=λx=>sO x F=true->(∀o l p,x=.BoolOp o l p->F o l p=true->P)->P) x q (λa b c h k=>k a b c rfl h) h k
 ·exact no ((cQ q).symm.trans h)
noncomputable def NZ(x:Expr)(f:Expr->Expr->Expr->Pos->Bool):Bool:=if h:x.ctorIdx=5 then Expr.IfExp.elim (motive_1:=λa=>Bool) x h f else false
theorem J1{F:Expr->Expr->Expr->Pos->Bool}(h:NZ x F=true)(k:∀t y z p,x=.IfExp t y z p->F t y z p=true->P):P:=by
 by_cases q:x.ctorIdx=5;·exact Expr.IfExp.elim (motive_1:=λx=>NZ x F=true->(∀t y z p,x=.IfExp t y z p->F t y z p=true->P)->P) x q (λa b c d h k=>k a b c d rfl h) h k
 ·exact no ((cQ q).symm.trans h)
noncomputable def j9(x:Expr)(f:Expr->Expr->Pos->Bool):Bool:=if h:x.ctorIdx=21 then Expr.Subscript.elim (motive_1:=λa=>Bool) x h f else false
theorem jK{F:Expr->Expr->Pos->Bool}(h:j9 x F=true)(k:∀y z p,x=.Subscript y z p->F y z p=true->P):P:=by
 by_cases q:x.ctorIdx=21;·exact Expr.Subscript.elim (motive_1:=λx=>j9 x F=true->(∀y z p,x=.Subscript y z p->F y z p=true->P)->P) x q (λa b c h k=>k a b c rfl h) h k
 ·exact no ((cQ q).symm.trans h)
noncomputable def gG(x:Expr)(f:Option Expr->Option Expr->Option Expr->Pos->Bool):Bool:=if h:x.ctorIdx=26 then Expr.Slice.elim (motive_1:=λa=>Bool) x h f else false
theorem m_{F:Option Expr->Option Expr->Option Expr->Pos->Bool}(h:gG x F=true)(k:∀l u s p,x=.Slice l u s p->F l u s p=true->P):P:=by
 by_cases q:x.ctorIdx=26;·exact Expr.Slice.elim (motive_1:=λx=>gG x F=true->(∀l u s p,x=.Slice l u s p->F l u s p=true->P)->P) x q (λa b c d h k=>k a b c d rfl h) h k
 ·exact no ((cQ q).symm.trans h)
noncomputable def gy(x:Expr)(f:Expr->Str->Pos->Bool):Bool:=if h:x.ctorIdx=20 then Expr.Attribute.elim (motive_1:=λa=>Bool) x h f else false
theorem kh{F:Expr->Str->Pos->Bool}(h:gy x F=true)(k:∀y n p,x=.Attribute y n p->F y n p=true->P):P:=by
 by_cases q:x.ctorIdx=20;·exact Expr.Attribute.elim (motive_1:=λx=>gy x F=true->(∀y n p,x=.Attribute y n p->F y n p=true->P)->P) x q (λa b c h k=>k a b c rfl h) h k
 ·exact no ((cQ q).symm.trans h)
noncomputable def yb(x:Expr)(f:List Expr->Pos->Bool):Bool:=if h:x.ctorIdx=24 then Expr.List.elim (motive_1:=λa=>Bool) x h f else false
theorem BY{F:List Expr->Pos->Bool}(h:yb x F=true)(k:∀l p,x=.List l p->F l p=true->P):P:=by
 by_cases q:x.ctorIdx=24;·exact Expr.List.elim (motive_1:=λx=>yb x F=true->(∀l p,x=.List l p->F l p=true->P)->P) x q (λa b h k=>k a b rfl h) h k
 ·exact no ((cQ q).symm.trans h)
noncomputable def zX(x:Expr)(f:List Expr->Nat->Pos->Bool):Bool:=if h:x.ctorIdx=25 then Expr.Tuple.elim (motive_1:=λa=>Bool) x h f else false
theorem Ar{F:List Expr->Nat->Pos->Bool}(h:zX x F=true)(k:∀l m p,x=.Tuple l m p->F l m p=true->P):P:=by
 by_cases q:x.ctorIdx=25;·exact Expr.Tuple.elim (motive_1:=λx=>zX x F=true->(∀l m p,x=.Tuple l m p->F l m p=true->P)->P) x q (λa b c h k=>k a b c rfl h) h k
 ·exact no ((cQ q).symm.trans h)
noncomputable def mt(x:Expr)(f:List (Option Expr)->List Expr->Pos->Bool):Bool:=if h:x.ctorIdx=6 then Expr.Dict.elim (motive_1:=λa=>Bool) x h f else false
theorem qt{F:List (Option Expr)->List Expr->Pos->Bool}(h:mt x F=true)(k:∀l m p,x=.Dict l m p->F l m p=true->P):P:=by
 by_cases q:x.ctorIdx=6;·exact Expr.Dict.elim (motive_1:=λx=>mt x F=true->(∀l m p,x=.Dict l m p->F l m p=true->P)->P) x q (λa b c h k=>k a b c rfl h) h k
 ·exact no ((cQ q).symm.trans h)
noncomputable def rJ(x:Expr)(f:Expr->List Comprehension->Scope->Pos->Bool):Bool:=if h:x.ctorIdx=8 then Expr.ListComp.elim (motive_1:=λa=>Bool) x h f else false
theorem vZ{F:Expr->List Comprehension->Scope->Pos->Bool}(h:rJ x F=true)(k:∀y g s p,x=.ListComp y g s p->F y g s p=true->P):P:=by
 by_cases q:x.ctorIdx=8;·exact Expr.ListComp.elim (motive_1:=λx=>rJ x F=true->(∀y g s p,x=.ListComp y g s p->F y g s p=true->P)->P) x q (λa b c d h k=>k a b c d rfl h) h k
 ·exact no ((cQ q).symm.trans h)
noncomputable def cZ(x:Expr)(f:Expr->List Expr->List Keyword->Pos->Bool):Bool:=if h:x.ctorIdx=16 then Expr.Call.elim (motive_1:=λa=>Bool) x h f else false
theorem iK{F:Expr->List Expr->List Keyword->Pos->Bool}(h:cZ x F=true)(k:∀g l s p,x=.Call g l s p->F g l s p=true->P):P:=by
 by_cases q:x.ctorIdx=16;·exact Expr.Call.elim (motive_1:=λx=>cZ x F=true->(∀g l s p,x=.Call g l s p->F g l s p=true->P)->P) x q (λa b c d h k=>k a b c d rfl h) h k
 ·exact no ((cQ q).symm.trans h)
noncomputable def Jq(x:Expr)(f:Expr->Int->Option Expr->Pos->Bool):Bool:=if h:x.ctorIdx=17 then Expr.FormattedValue.elim (motive_1:=λa=>Bool) x h f else false
theorem L6{F:Expr->Int->Option Expr->Pos->Bool}(h:Jq x F=true)(k:∀y m s p,x=.FormattedValue y m s p->F y m s p=true->P):P:=by
 by_cases q:x.ctorIdx=17;·exact Expr.FormattedValue.elim (motive_1:=λx=>Jq x F=true->(∀y m s p,x=.FormattedValue y m s p->F y m s p=true->P)->P) x q (λa b c d h k=>k a b c d rfl h) h k
 ·exact no ((cQ q).symm.trans h)
noncomputable def yS(x:Expr)(f:List Expr->Pos->Bool):Bool:=if h:x.ctorIdx=18 then Expr.JoinedStr.elim (motive_1:=λa=>Bool) x h f else false
theorem Cf{F:List Expr->Pos->Bool}(h:yS x F=true)(k:∀l p,x=.JoinedStr l p->F l p=true->P):P:=by
 by_cases q:x.ctorIdx=18;·exact Expr.JoinedStr.elim (motive_1:=λx=>yS x F=true->(∀l p,x=.JoinedStr l p->F l p=true->P)->P) x q (λa b h k=>k a b rfl h) h k
 ·exact no ((cQ q).symm.trans h)
variable{g:Expr->Bool}
theorem nE{f:Expr->CmpOp->Expr->Bool}(h:(qc x λl o r a=>w1 o λo=>w1 r λr=>f l o r)=true)(k:∀l o r p,x=.Compare l [o] [r] p->f l o r=true->P):P:=sf h λl a a p e0 h=>jS h λo e1 h=>jS h λr e2 h=>k l o r p (by rw[e0,e1,e2]) h
theorem Bm(h:(qc x λl o r a=>decide (o=[.Is])&&w1 r λr=>bU r λc a a=>decide (c=.none)&&g l)=true)(k:∀l b d e,x=.Compare l [.Is] [.Constant .none b d] e->g l=true->P):P:=sf h λl a a p e0 h=>tO h λe1 h=>jS h λa e2 h=>dT h λa b d e3 h=>tO h λf h=>k l b d p (by rw[e0,e1,e2,e3,f]) h
theorem Bb(h:(Hh x λo l a=>decide (o=.USub)&&g l)=true)(k:∀l p,x=.UnaryOp .USub l p->g l=true->P):P:=DQ h λa l p e0 h=>tO h λe1 h=>k l p (by rw[e0,e1]) h
theorem vW(h:(Hh x λo l a=>decide (o=.Not)&&g l)=true)(k:∀l p,x=.UnaryOp .Not l p->g l=true->P):P:=DQ h λa l p e0 h=>tO h λe1 h=>k l p (by rw[e0,e1]) h
theorem Bc{f:Expr->CmpOp->CmpOp->Expr->Expr->Bool}(h:(qc x λl o r a=>w2 o λb c=>w2 r λr1 d=>f l b c r1 d)=true)(k:∀l b c r1 d p,x=.Compare l [b,c] [r1,d] p->f l b c r1 d=true->P):P:=sf h λl a a p e0 h=>z9 h λb c e1 h=>z9 h λr1 d e2 h=>k l b c r1 d p (by rw[e0,e1,e2]) h
theorem AS{f:Expr->CmpOp->CmpOp->CmpOp->Expr->Expr->Expr->Bool}(h:(qc x λl o r a=>w3 o λb c d=>w3 r λr1 e g=>f l b c d r1 e g)=true)(k:∀l b c d r1 e g p,x=.Compare l [b,c,d] [r1,e,g] p->f l b c d r1 e g=true->P):P:=sf h λl a a p e0 h=>LR h λb c d e1 h=>LR h λr1 e g e2 h=>k l b c d r1 e g p (by rw[e0,e1,e2]) h
theorem qI{f:Expr->List Expr->Bool}(h:(sO x λo l a=>decide (o=.And)&&wC l f)=true)(k:∀y b p,x=.BoolOp .And (y::b) p->f y b=true->P):P:=wA h λa a p e0 h=>tO h λe1 h=>F_ h λy b e2 h=>k y b p (by rw[e0,e1,e2]) h
theorem vk{f:Expr->List Expr->Bool}(h:(sO x λo l a=>decide (o=.Or)&&wC l f)=true)(k:∀y b p,x=.BoolOp .Or (y::b) p->f y b=true->P):P:=wA h λa a p e0 h=>tO h λe1 h=>F_ h λy b e2 h=>k y b p (by rw[e0,e1,e2]) h
variable{e2:Expr->Expr->Bool}{e3:Expr->Expr->Expr->Bool}
theorem Fq(h:(j9 x λy z a=>gG z λl u s a=>w0 u (w0 s (wO l (e2 y))))=true)(k:∀y l p q,x=.Subscript y (.Slice (some l) none none p) q->e2 y l=true->P):P:=jK h λy a q e0 h=>m_ h λa a a p e1 h=>rN h λe2 h=>rN h λe3 h=>oi h λl b h=>k y l p q (by rw[e0,e1,e2,e3,b]) h
theorem FC(h:(j9 x λy z a=>gG z λl u s a=>w0 l (w0 s (wO u (e2 y))))=true)(k:∀y l p q,x=.Subscript y (.Slice none (some l) none p) q->e2 y l=true->P):P:=jK h λy a q e0 h=>m_ h λa a a p e1 h=>rN h λe2 h=>rN h λe3 h=>oi h λl b h=>k y l p q (by rw[e0,e1,e2,e3,b]) h
theorem Hj(h:(j9 x λy z a=>gG z λl u s a=>w0 s (wO l λl=>wO u (e3 y l)))=true)(k:∀y l u p q,x=.Subscript y (.Slice (some l) (some u) none p) q->e3 y l u=true->P):P:=jK h λy a q e0 h=>m_ h λa a a p e1 h=>rN h λe2 h=>oi h λl e3 h=>oi h λu b h=>k y l u p q (by rw[e0,e1,e2,e3,b]) h
theorem Cw(h:(j9 x λy z a=>gG z λl u s a=>w0 l (w0 u (wO s λs=>Hh s λo c a=>decide (o=.USub)&&bU c λc a a=>decide (c=.int 1)&&g y)))=true)(k:∀y b d e f i,x=.Subscript y (.Slice none none (some (.UnaryOp .USub (.Constant (.int 1) b d) e)) f) i->g y=true->P):P:=jK h λy a i e0 h=>m_ h λa a a f e1 h=>rN h λe2 h=>rN h λe3 h=>oi h λa j h=>DQ h λa a e m h=>tO h λn h=>dT h λa b d p h=>tO h λq h=>k y b d e f i (by rw[e0,e1,e2,e3,j,m,n,p,q]) h
theorem FD(h:(mt x λl m a=>wN l (wN m true))=true)(k:∀p,x=.Dict [] [] p->P):P:=qt h λa a p e0 h=>kZ h λe1 h=>kZ h λe2 a=>k p (by rw[e0,e1,e2])
theorem Ei{f:Int->Expr->Bool}(h:(mt x λl m a=>w1 l λc=>w1 m λy=>wO c λc=>bU c λc a a=>Ht c λi=>f i y)=true)(k:∀m b d y p,x=.Dict [some (.Constant (.int m) b d)] [y] p->f m y=true->P):P:=qt h λa a p e0 h=>jS h λa e1 h=>jS h λy e2 h=>oi h λa e3 h=>dT h λa b d e h=>K6 h λm g h=>k m b d y p (by rw[e0,e1,e2,e3,e,g]) h
theorem DX{f:Str->Str->Expr->Expr->Bool}(h:(mt x λl m a=>w2 l λc d=>w2 m λy z=>wO c λc=>wO d λd=>bU c λc a a=>bU d λd a a=>tf c λi=>tf d λj=>f i j y z)=true)(k:∀m b e g n o y z p,x=.Dict [some (.Constant (.str m) b e),some (.Constant (.str g) n o)] [y,z] p->f m g y z=true->P):P:=qt h λa a p e0 h=>z9 h λa a e1 h=>z9 h λy z e2 h=>oi h λa e3 h=>oi h λa q h=>dT h λa b e r h=>dT h λa n o s h=>sB h λm t h=>sB h λg u h=>k m b e g n o y z p (by rw[e0,e1,e2,e3,q,r,s,t,u]) h
theorem gX{f:Str->List Expr->Bool}(h:(cZ x λg l s a=>wN s (ca g λn a=>f n l))=true)(k:∀n p b q,x=.Call (.Name n p) b [] q->f n b=true->P):P:=iK h λa b a q e0 h=>kZ h λe1 h=>eJ h λn p e2 h=>k n p b q (by rw[e0,e1,e2]) h
theorem wZ{f:Expr->Str->Pos->List Expr->Pos->Bool}(h:(cZ x λg l s p=>wN s (gy g λy n a=>f y n a l p))=true)(k:∀y n a b p,x=.Call (.Attribute y n a) b [] p->f y n a b p=true->P):P:=iK h λc b c q e0 h=>kZ h λe1 h=>kh h λy n p e2 h=>k y n p b q (by rw[e0,e1,e2]) h
theorem qz{f:Str->Expr->Str->Bool}(h:(cZ x λg l s a=>wN s (ca g λn a=>w2 l λy z=>ca z λb a=>f n y b))=true)(k:∀n c y b d p,x=.Call (.Name n c) [y,.Name b d] [] p->f n y b=true->P):P:=iK h λa a a p e0 h=>kZ h λe1 h=>eJ h λn c e2 h=>z9 h λy a e3 h=>eJ h λb d e h=>k n c y b d p (by rw[e0,e1,e2,e3,e]) h
theorem uc{f:Str->Expr->Bool}(h:(cZ x λg l s a=>wN s (ca g λn a=>w1 l λy=>f n y))=true)(k:∀n b y p,x=.Call (.Name n b) [y] [] p->f n y=true->P):P:=iK h λa a a p e0 h=>kZ h λe1 h=>eJ h λn b e2 h=>jS h λy e3 h=>k n b y p (by rw[e0,e1,e2,e3]) h
theorem vK{f:Expr->Str->Pos->Expr->Pos->Bool}(h:(cZ x λg l s p=>wN s (gy g λy n a=>w1 l λz=>f y n a z p))=true)(k:∀y n a z p,x=.Call (.Attribute y n a) [z] [] p->f y n a z p=true->P):P:=iK h λb b b p e0 h=>kZ h λe1 h=>kh h λy n a e2 h=>jS h λz e3 h=>k y n a z p (by rw[e0,e1,e2,e3]) h
theorem Ld{f:Str->Expr->Str->Bool}(h:(yS x λl c=>w3 l λa y b=>bU a λa c c=>tf a λa=>Jq y λy m s c=>decide (m=-1)&&w0 s (bU b λb c c=>tf b λb=>f a y b))=true)(k:∀a y b d e g i j n,x=.JoinedStr [.Constant (.str a) d e,.FormattedValue y (-1) none g,.Constant (.str b) i j] n->f a y b=true->P):P:=Cf h λc n e0 h=>LR h λc c c e1 h=>dT h λc d e e2 h=>sB h λa e3 h=>L6 h λy c c g o h=>tO h λp h=>rN h λq h=>dT h λc i j r h=>sB h λb t h=>k a y b d e g i j n (by rw[e0,e1,e2,e3,o,p,q,r,t]) h
variable{f2:Expr->Expr->Bool}{f3:Expr->Expr->Expr->Bool}
theorem Fz(h:(NZ x λt y z a=>f3 t y z)=true)(k:∀t y z p,x=.IfExp t y z p->f3 t y z=true->P):P:=J1 h λt y z p e h=>k t y z p e h
theorem Jl(h:(j9 x λy z a=>f2 y z)=true)(k:∀y z p,x=.Subscript y z p->f2 y z=true->P):P:=jK h λy z p e h=>k y z p e h
theorem GP{f:Expr->Str->Bool}(h:(gy x λy n a=>f y n)=true)(k:∀y n p,x=.Attribute y n p->f y n=true->P):P:=kh h λy n p e h=>k y n p e h
theorem Ft{f:List Expr->Bool}(h:(yb x λy a=>f y)=true)(k:∀y p,x=.List y p->f y=true->P):P:=BY h λy p e h=>k y p e h
theorem B9{f:List Expr->Bool}(h:(zX x λy a a=>f y)=true)(k:∀y m p,x=.Tuple y m p->f y=true->P):P:=Ar h λy m p e h=>k y m p e h
theorem Im{f:Expr->Operator->Expr->Bool}(h:(FQ x λl o r a=>f l o r)=true)(k:∀l o r p,x=.BinOp l o r p->f l o r=true->P):P:=Fg h λl o r p e h=>k l o r p e h
theorem F6{f:Str->Bool}(h:(ca x λn a=>f n)=true)(k:∀n p,x=.Name n p->f n=true->P):P:=eJ h λn p e h=>k n p e h
theorem km{f:Const->Bool}(h:(bU x λc a a=>f c)=true)(k:∀c m p,x=.Constant c m p->f c=true->P):P:=dT h λn m p e h=>k n m p e h
noncomputable def md(x:Expr):Bool:=!(cZ x λg l s a=>wN s (wN l (ca g λn a=>n==("super":Str))))
noncomputable def E5(g:Comprehension)(f:Expr->Expr->List Expr->Bool):Bool:=decide (g.is_async=0)&&f g.target g.iter g.ifs
theorem Ew{g:Comprehension}{f:Expr->Expr->List Expr->Bool}(h:E5 g f=true)(k:∀t i l,g=⟨t,i,l,0⟩->f t i l=true->P):P:=by obtain⟨t,i,l,a⟩:=g;exact tO h λe0 h=>k t i l (ak (Comprehension.mk t i l) e0) h
theorem yj{tp:Expr->Option (List (Str×Nat))}{f:Expr->Expr->Expr->Scope->List (Str×Nat)->Bool}(h:(rJ x λy g s a=>w1 g λg=>E5 g λt i l=>wN l (wO (tp t) λtn=>f y t i s tn))=true)(k:∀y tg iter scope p tn,x=.ListComp y [⟨tg,iter,[],0⟩] scope p->tp tg=some tn->f y tg iter scope tn=true->P):P:=vZ h λy a s p e0 h=>jS h λa e1 h=>Ew h λt i a e2 h=>kZ h λe3 h=>oi h λtn e q=>k y t i s p tn (by rw[e0,e1,e2,e3]) e q
theorem q8{tp:Expr->Option (List (Str×Nat))}{f:Expr->Expr->Expr->Expr->Scope->List (Str×Nat)->Bool}(h:(rJ x λy g s a=>w1 g λg=>E5 g λt i l=>w1 l λb=>wO (tp t) λtn=>f y t i b s tn)=true)(k:∀y tg iter b scope p tn,x=.ListComp y [⟨tg,iter,[b],0⟩] scope p->tp tg=some tn->f y tg iter b scope tn=true->P):P:=vZ h λy a s p e0 h=>jS h λa e1 h=>Ew h λt i a e2 h=>jS h λb e3 h=>oi h λtn e q=>k y t i b s p tn (by rw[e0,e1,e2,e3]) e q
end
noncomputable def CR(sk:Sk)(t:iw):Bool:=match sk,t with|.enum,.v _=>false|_,_=>true
noncomputable def oK(U:Cx)(sk:Sk)(f:Expr->Bool)(x:Expr):Bool:=match sk with|.val=>f x&&oO x|.enum=>cZ x λg l s a=>wN s (ca g λn a=>w1 l λy=>n==("enumerate":Str)&&glob U n&&f y)|.rev=>cZ x λg l s a=>wN s (ca g λn a=>w1 l λy=>n==("reversed":Str)&&glob U n&&f y)
section
variable(N:Nm)
mutual noncomputable def ay:E->Cx->Expr->Bool|.var i,U,x=>ca x λn j=>U.vs.lookup n==some i&&GO n|.cint n,_,x=>bU x λc j j=>decide (c=.int n)|.cstr s,_,x=>bU x λc j j=>tf c λm=>m.cps.toList==s|.cbool b,_,x=>bU x λc j j=>decide (c=.bool b)|.cnone,_,x=>bU x λc j j=>decide (c=.none)|.bin op a b,U,x=>FQ x λl o r j=>Ib o (zC op)&&ay a U l&&ay b U r|.neg a,U,x=>Hh x λo l j=>decide (o=.USub)&&ay a U l|.not a,U,x=>Hh x λo l j=>decide (o=.Not)&&ay a U l|.cmp op a b,U,x=>qc x λl o r j=>w1 o λo=>w1 r λr=>wz o (jW op)&&ay a U l&&ay b U r&&oO r|.chain2 q w a b c,U,x=>qc x λl o r j=>w2 o λA B=>w2 r λr1 C=>wz A (jW q)&&wz B (jW w)&&ay a U l&&ay b U r1&&ay c U C&&oO C|.chain3 q w D a b c d,U,x=>qc x λl o r j=>w3 o λA B F=>w3 r λr1 C G=>wz A (jW q)&&wz B (jW w)&&wz F (jW D)&&ay a U l&&ay b U r1&&ay c U C&&ay d U G&&oO G|.isN a,U,x=>qc x λl o r j=>decide (o=[.Is])&&w1 r λr=>bU r λc j j=>decide (c=.none)&&ay a U l|.inD p a d,U,x=>qc x λl o r j=>w1 o λo=>w1 r λr=>wz o (if p then .In else .NotIn)&&ay a U l&&ay d U r&&oO r|.and a r,U,x=>sO x λo l j=>decide (o=.And)&&wC l λy H=>ay a U y&&dg r U H|.or a r,U,x=>sO x λo l j=>decide (o=.Or)&&wC l λy H=>ay a U y&&dg r U H|.ite c a b,U,x=>NZ x λt y z j=>ay c U t&&ay a U y&&ay b U z|.idx a i,U,x=>j9 x λy z j=>ay a U y&&ay i U z&&ms z|.slLo a lo,U,x=>j9 x λy z j=>gG z λl u s j=>w0 u (w0 s (wO l λl=>ay a U y&&ay lo U l))|.slHi a hi,U,x=>j9 x λy z j=>gG z λl u s j=>w0 l (w0 s (wO u λh=>ay a U y&&ay hi U h))|.slB a lo hi,U,x=>j9 x λy z j=>gG z λl u s j=>w0 s (wO l λl=>wO u λh=>ay a U y&&ay lo U l&&ay hi U h)|.slRev a,U,x=>j9 x λy z j=>gG z λl u s j=>w0 l (w0 u (wO s λs=>Hh s λo c j=>decide (o=.USub)&&bU c λc j j=>decide (c=.int 1)&&ay a U y))|.attr o f,U,x=>gy x λy n j=>ay o U y&&n==N.attr f&&decide (f<N.nA)&&md y|.list I,U,x=>yb x λH j=>dg I U H|.tup I,U,x=>zX x λH j j=>dg I U H|.dct0,_,x=>mt x λl m j=>wN l (wN m true)|.dct1 k v,U,x=>mt x λl m j=>w1 l λc=>w1 m λy=>wO c λc=>bU c λc j j=>Ht c λm=>k==m&&ay v U y|.dct2 k l v u,U,x=>mt x λJ m j=>w2 J λc d=>w2 m λy z=>wO c λc=>wO d λd=>bU c λc j j=>bU d λd j j=>tf c λm=>tf d λK=>m.cps.toList==k&&K.cps.toList==l&&ay v U y&&ay u U z|.comp L t sk M,U,x=>rJ x λy g scope j=>w1 g λg=>E5 g λtg iter l=>wN l (wO (b0 t tg) λtn=>oQ U scope tn&&CR sk t&&oK U sk (ay M U) iter&&ay L (b9 U scope tn) y)|.compIf L t sk M c,U,x=>rJ x λy g scope j=>w1 g λg=>E5 g λtg iter l=>w1 l λO=>wO (b0 t tg) λtn=>oQ U scope tn&&CR sk t&&oK U sk (ay M U) iter&&ay L (b9 U scope tn) y&&ay c (b9 U scope tn) O|.call f args,U,x=>cZ x λg H s j=>wN s (ca g λn j=>N.fn f==some n&&glob U n&&dg args U H)|.new c args,U,x=>cZ x λg H s j=>wN s (ca g λn j=>N.cls c==some n&&glob U n&&dg args U H)|.meth o m args,U,x=>cZ x λg H s p=>wN s (gy g λy n P=>N.meth m==some n&&ay o U y&&dg args U H&&P.endLine==p.line&&md y&&decide (H.length<20))|.bi b args,U,x=>(match b with|.isInt=>cZ x λg l s j=>wN s (ca g λn j=>w2 l λy z=>ca z λQ j=>n==DH .isInt&&glob U n&&Q==DH .int&&glob U Q&&dg args U [y])|.isBool=>cZ x λg l s j=>wN s (ca g λn j=>w2 l λy z=>ca z λQ j=>n==DH .isInt&&glob U n&&Q==("bool":Str)&&glob U Q&&dg args U [y])|b=>cZ x λg H s j=>wN s (ca g λn j=>n==DH b&&glob U n&&dg args U H))|.app o e,U,x=>cZ x λg l s p=>wN s (gy g λy n P=>w1 l λz=>n==("append":Str)&&ay o U y&&ay e U z&&P.endLine==p.line&&md y)|.join o e,U,x=>cZ x λg l s p=>wN s (gy g λy n P=>w1 l λz=>n==("join":Str)&&ay o U y&&ay e U z&&P.endLine==p.line&&md y)|.fs e,U,x=>yS x λl j=>w3 l λa y b=>bU a λa j j=>tf a λa=>Jq y λy m s j=>decide (m=-1)&&w0 s (bU b λb j j=>tf b λb=>ay e U y&&decide (a.length<1000)&&decide (b.length<1000))|.bad,_,_=>false noncomputable def dg:EL->Cx->List Expr->Bool|.nil,_,xs=>xs.isEmpty|.cons e r,U,xs=>wC xs λy H=>ay e U y&&dg r U H end
end
noncomputable def zu(v:Expr):Bool:=if h:v.ctorIdx=25 then Expr.Tuple.elim (motive_1:=λa=>Bool) v h λvs a a=>vs.all (foldedForSure 8)||!(vs.all (constantsAlone 8))else true
section
variable{P:Prop}{x:Stmt}{C:Stmt->Prop}
noncomputable def ti(x:Stmt)(f:List Expr->Expr->Pos->Bool):Bool:=if h:x.ctorIdx=5 then Stmt.Assign.elim (motive_2:=λa=>Bool) x h f else false
theorem vM{F:List Expr->Expr->Pos->Bool}(h:ti x F=true)(k:∀l v p,x=.Assign l v p->F l v p=true->P):P:=by
 by_cases q:x.ctorIdx=5;·exact Stmt.Assign.elim (motive_2:=λx=>ti x F=true->(∀l v p,x=.Assign l v p->F l v p=true->P)->P) x q (λa b c h k=>k a b c rfl h) h k
 ·exact no ((cQ q).symm.trans h)
noncomputable def zf(x:Stmt)(f:Expr->Operator->Expr->Pos->Bool):Bool:=if h:x.ctorIdx=7 then Stmt.AugAssign.elim (motive_2:=λa=>Bool) x h f else false
theorem zF{F:Expr->Operator->Expr->Pos->Bool}(h:zf x F=true)(k:∀t o v p,x=.AugAssign t o v p->F t o v p=true->P):P:=by
 by_cases q:x.ctorIdx=7;·exact Stmt.AugAssign.elim (motive_2:=λx=>zf x F=true->(∀t o v p,x=.AugAssign t o v p->F t o v p=true->P)->P) x q (λa b c d h k=>k a b c d rfl h) h k
 ·exact no ((cQ q).symm.trans h)
noncomputable def On(x:Stmt)(f:Expr->Pos->Bool):Bool:=if h:x.ctorIdx=24 then Stmt.Expr.elim (motive_2:=λa=>Bool) x h f else false
theorem NO{F:Expr->Pos->Bool}(h:On x F=true)(k:∀v p,x=.Expr v p->F v p=true->P):P:=by
 by_cases q:x.ctorIdx=24;·exact Stmt.Expr.elim (motive_2:=λx=>On x F=true->(∀v p,x=.Expr v p->F v p=true->P)->P) x q (λa b h k=>k a b rfl h) h k
 ·exact no ((cQ q).symm.trans h)
noncomputable def Hz(x:Stmt)(f:Expr->List Stmt->List Stmt->Pos->Bool):Bool:=if h:x.ctorIdx=12 then Stmt.If.elim (motive_2:=λa=>Bool) x h f else false
theorem KC{F:Expr->List Stmt->List Stmt->Pos->Bool}(h:Hz x F=true)(k:∀t a b p,x=.If t a b p->F t a b p=true->P):P:=by
 by_cases q:x.ctorIdx=12;·exact Stmt.If.elim (motive_2:=λx=>Hz x F=true->(∀t a b p,x=.If t a b p->F t a b p=true->P)->P) x q (λc d e f h k=>k c d e f rfl h) h k
 ·exact no ((cQ q).symm.trans h)
noncomputable def I0(x:Stmt)(f:Expr->Expr->List Stmt->List Stmt->Pos->Bool):Bool:=if h:x.ctorIdx=9 then Stmt.For.elim (motive_2:=λa=>Bool) x h f else false
theorem KM{F:Expr->Expr->List Stmt->List Stmt->Pos->Bool}(h:I0 x F=true)(k:∀t i b e p,x=.For t i b e p->F t i b e p=true->P):P:=by
 by_cases q:x.ctorIdx=9;·exact Stmt.For.elim (motive_2:=λx=>I0 x F=true->(∀t i b e p,x=.For t i b e p->F t i b e p=true->P)->P) x q (λa c d f g h k=>k a c d f g rfl h) h k
 ·exact no ((cQ q).symm.trans h)
noncomputable def II(x:Stmt)(f:Expr->List Stmt->List Stmt->Pos->Bool):Bool:=if h:x.ctorIdx=11 then Stmt.While.elim (motive_2:=λa=>Bool) x h f else false
theorem L4{F:Expr->List Stmt->List Stmt->Pos->Bool}(h:II x F=true)(k:∀t b e p,x=.While t b e p->F t b e p=true->P):P:=by
 by_cases q:x.ctorIdx=11;·exact Stmt.While.elim (motive_2:=λx=>II x F=true->(∀t b e p,x=.While t b e p->F t b e p=true->P)->P) x q (λa c d f h k=>k a c d f rfl h) h k
 ·exact no ((cQ q).symm.trans h)
noncomputable def CK(x:Stmt)(f:Option Expr->Pos->Bool):Bool:=if h:x.ctorIdx=3 then Stmt.Return.elim (motive_2:=λa=>Bool) x h f else false
theorem D3{F:Option Expr->Pos->Bool}(h:CK x F=true)(k:∀v p,x=.Return v p->F v p=true->P):P:=by
 by_cases q:x.ctorIdx=3;·exact Stmt.Return.elim (motive_2:=λx=>CK x F=true->(∀v p,x=.Return v p->F v p=true->P)->P) x q (λa b h k=>k a b rfl h) h k
 ·exact no ((cQ q).symm.trans h)
noncomputable def vJ(x:Stmt)(f:Option Expr->Option Expr->Pos->Bool):Bool:=if h:x.ctorIdx=16 then Stmt.Raise.elim (motive_2:=λa=>Bool) x h f else false
theorem Ep{F:Option Expr->Option Expr->Pos->Bool}(h:vJ x F=true)(k:∀e c p,x=.Raise e c p->F e c p=true->P):P:=by
 by_cases q:x.ctorIdx=16;·exact Stmt.Raise.elim (motive_2:=λx=>vJ x F=true->(∀e c p,x=.Raise e c p->F e c p=true->P)->P) x q (λa b d h k=>k a b d rfl h) h k
 ·exact no ((cQ q).symm.trans h)
noncomputable def Ds(x:Stmt)(f:List Stmt->List ExceptHandler->List Stmt->List Stmt->Pos->Bool):Bool:=if h:x.ctorIdx=17 then Stmt.Try.elim (motive_2:=λa=>Bool) x h f else false
theorem E_{F:List Stmt->List ExceptHandler->List Stmt->List Stmt->Pos->Bool}(h:Ds x F=true)(k:∀b l o e p,x=.Try b l o e p->F b l o e p=true->P):P:=by
 by_cases q:x.ctorIdx=17;·exact Stmt.Try.elim (motive_2:=λx=>Ds x F=true->(∀b l o e p,x=.Try b l o e p->F b l o e p=true->P)->P) x q (λa c d f g h k=>k a c d f g rfl h) h k
 ·exact no ((cQ q).symm.trans h)
noncomputable def BM(x:Stmt)(f:Pos->Bool):Bool:=if h:x.ctorIdx=27 then Stmt.Continue.elim (motive_2:=λa=>Bool) x h f else false
theorem Hk{F:Pos->Bool}(h:BM x F=true)(k:∀p,x=.Continue p->F p=true->P):P:=by
 by_cases q:x.ctorIdx=27;·exact Stmt.Continue.elim (motive_2:=λx=>BM x F=true->(∀p,x=.Continue p->F p=true->P)->P) x q (λa h k=>k a rfl h) h k
 ·exact no ((cQ q).symm.trans h)
theorem mO{f:Str->Expr->Bool}(h:(ti x λl v a=>w1 l λt=>ca t λn a=>f n v)=true)(k:∀n b v p,x=.Assign [.Name n b] v p->f n v=true->P):P:=vM h λa v p e0 h=>jS h λa e1 h=>eJ h λn b e2 h=>k n b v p (by rw[e0,e1,e2]) h
theorem za{f:List Expr->Nat->Pos->Expr->Bool}(h:(ti x λl v a=>w1 l λt=>zX t λb k tp=>f b k tp v)=true)(k:∀b n tp v p,x=.Assign [.Tuple b n tp] v p->f b n tp v=true->P):P:=vM h λa v p e0 h=>jS h λa e1 h=>Ar h λb n tp e2 h=>k b n tp v p (by rw[e0,e1,e2]) h
theorem wV{f:Expr->Str->Expr->Bool}(h:(ti x λl v a=>w1 l λt=>gy t λy n a=>f y n v)=true)(k:∀y n b v p,x=.Assign [.Attribute y n b] v p->f y n v=true->P):P:=vM h λa v p e0 h=>jS h λa e1 h=>kh h λy n b e2 h=>k y n b v p (by rw[e0,e1,e2]) h
theorem Ej{f:Expr->Expr->Expr->Bool}(h:(ti x λl v a=>w1 l λt=>j9 t λy z a=>f y z v)=true)(k:∀y z b v p,x=.Assign [.Subscript y z b] v p->f y z v=true->P):P:=vM h λa v p e0 h=>jS h λa e1 h=>jK h λy z b e2 h=>k y z b v p (by rw[e0,e1,e2]) h
theorem EZ{f:Str->Operator->Expr->Bool}(h:(zf x λt o v a=>ca t λn a=>f n o v)=true)(k:∀n b o v p,x=.AugAssign (.Name n b) o v p->f n o v=true->P):P:=zF h λa o v p e0 h=>eJ h λn b e1 h=>k n b o v p (by rw[e0,e1]) h
theorem E4{f:Expr->Str->Operator->Expr->Bool}(h:(zf x λt o v a=>gy t λy n a=>f y n o v)=true)(k:∀y n b o v p,x=.AugAssign (.Attribute y n b) o v p->f y n o v=true->P):P:=zF h λa o v p e0 h=>kh h λy n b e1 h=>k y n b o v p (by rw[e0,e1]) h
theorem E8{f:Expr->Expr->Operator->Expr->Bool}(h:(zf x λt o v a=>j9 t λy z a=>f y z o v)=true)(k:∀y z b o v p,x=.AugAssign (.Subscript y z b) o v p->f y z o v=true->P):P:=zF h λa o v p e0 h=>jK h λy z b e1 h=>k y z b o v p (by rw[e0,e1]) h
theorem B7{f:Expr->Expr->List Stmt->Bool}(h:(I0 x λt i b e a=>wN e (f t i b))=true)(k:∀t i b p,x=.For t i b [] p->f t i b=true->P):P:=KM h λt i b a p e0 h=>kZ h λe1 h=>k t i b p (by rw[e0,e1]) h
theorem By{f:Expr->List Stmt->Bool}(h:(II x λt b e a=>wN e (f t b))=true)(k:∀t b p,x=.While t b [] p->f t b=true->P):P:=L4 h λt b a p e0 h=>kZ h λe1 h=>k t b p (by rw[e0,e1]) h
theorem IP{f:Expr->Bool}(h:(CK x λv a=>wO v f)=true)(k:∀v p,x=.Return (some v) p->f v=true->P):P:=D3 h λa p e0 h=>oi h λv e1 h=>k v p (by rw[e0,e1]) h
theorem GV(h:(CK x λv a=>w0 v true)=true)(k:∀p,x=.Return none p->P):P:=D3 h λa p e0 h=>rN h λe1 a=>k p (by rw[e0,e1])
theorem Dt{f:Str->Expr->Bool}(h:(vJ x λe c a=>w0 c (wO e λe=>cZ e λg l s a=>wN s (ca g λn a=>w1 l λy=>f n y)))=true)(k:∀n p y b d,x=.Raise (some (.Call (.Name n p) [y] [] b)) none d->f n y=true->P):P:=Ep h λa a d e0 h=>rN h λe1 h=>oi h λa e2 h=>iK h λa a a b e3 h=>kZ h λi h=>eJ h λn p j h=>jS h λy m h=>k n p y b d (by rw[e0,e1,e2,e3,i,j,m]) h
theorem GG{f:Expr->Bool}(h:(On x λv a=>f v)=true)(k:∀v p,x=.Expr v p->f v=true->P):P:=NO h λv p e h=>k v p e h
theorem AQ{f:Expr->List Stmt->List Stmt->Bool}(h:(Hz x λt a b c=>f t a b)=true)(k:∀t a b p,x=.If t a b p->f t a b=true->P):P:=KC h λt a b p e h=>k t a b p e h
theorem Fx(h:(BM x λa=>true)=true)(k:∀p,x=.Continue p->P):P:=Hk h λp e a=>k p e
noncomputable def r9(c:ExceptHandler)(f:Str->List Stmt->Bool):Bool:=match c with|.ExceptHandler t n b _=>w0 n (wO t λt=>ca t λn a=>f n b)
theorem wB{c:ExceptHandler}{f:Str->List Stmt->Bool}(h:r9 c f=true)(k:∀n p b q,c=.ExceptHandler (some (.Name n p)) none b q->f n b=true->P):P:=by obtain⟨t,nm,b,q⟩:=c;exact rN h λe0 h=>oi h λa e1 h=>eJ h λn p e2 h=>k n p b q (by rw[e0,e1,e2]) h
theorem Fw{f:List Stmt->Str->List Stmt->Bool}(h:(Ds x λb l o e a=>wN o (wN e (w1 l λc=>r9 c λn d=>f b n d)))=true)(k:∀b n p d g i,x=.Try b [.ExceptHandler (some (.Name n p)) none d g] [] [] i->f b n d=true->P):P:=E_ h λb a a a i e0 h=>kZ h λe1 h=>kZ h λe2 h=>jS h λa e3 h=>wB h λn p d g j h=>k b n p d g i (by rw[e0,e1,e2,e3,j]) h
theorem FU{f:List Stmt->Str->List Stmt->Str->List Stmt->Bool}(h:(Ds x λb l o e a=>wN o (wN e (w2 l λc d=>r9 c λn g=>r9 d λi j=>f b n g i j)))=true)(k:∀b n p g m i q j r s,x=.Try b [.ExceptHandler (some (.Name n p)) none g m,.ExceptHandler (some (.Name i q)) none j r] [] [] s->f b n g i j=true->P):P:=E_ h λb a a a s e0 h=>kZ h λe1 h=>kZ h λe2 h=>z9 h λa a e3 h=>wB h λn p g m t h=>wB h λi q j r u h=>k b n p g m i q j r s (by rw[e0,e1,e2,e3,t,u]) h
end
section
variable(N:Nm)
noncomputable def BC:ue->Bool|.add=>true|.sub=>true|.or=>true|.shr=>true|_=>false
noncomputable def yO(U:Cx)(c:Nat)(n:Str):Bool:=N.exc c==some n&&glob U n
mutual noncomputable def CJ:S->Cx->Stmt->Bool|.asg i e,U,x=>ti x λl v j=>w1 l λt=>ca t λn j=>U.vs.lookup n==some i&&U.st.contains n&&ay N e U v|.asgT is e,U,x=>ti x λl v j=>w1 l λt=>zX t λm k tp=>lC U (.t is) (.Tuple m k tp)&&gB is&&ay N e U v&&ky v&&zu v|.asgA o f e,U,x=>ti x λl v j=>w1 l λt=>gy t λy n j=>ay N o U y&&n==N.attr f&&decide (f<N.nA)&&ay N e U v|.asgI o i e,U,x=>ti x λl v j=>w1 l λt=>j9 t λy z j=>ay N o U y&&ay N i U z&&ms z&&ay N e U v|.augV i op e,U,x=>zf x λt o v j=>ca t λn j=>U.vs.lookup n==some i&&U.st.contains n&&GO n&&Ib o (zC op)&&BC op&&ay N e U v|.augA o f op e,U,x=>zf x λt q v j=>gy t λy n j=>ay N o U y&&n==N.attr f&&decide (f<N.nA)&&Ib q (zC op)&&BC op&&ay N e U v|.augI o i op e,U,x=>zf x λt q v j=>j9 t λy z j=>ay N o U y&&ay N i U z&&ms z&&Ib q (zC op)&&BC op&&ay N e U v|.ex e,U,x=>On x λv j=>ay N e U v&&ky v|.ite c a b,U,x=>Hz x λt p q j=>ay N c U t&&f8 a U p&&f8 b U q|.for_ t sk u body,U,x=>I0 x λtg iter b e j=>wN e (lC U t tg&&CR sk t&&oK U sk (ay N u U) iter&&f8 body U b)|.whl c body,U,x=>II x λt b e j=>wN e (ay N c U t&&f8 body U b)|.ret e,U,x=>CK x λv j=>wO v λv=>ay N e U v|.retN,_,x=>CK x λv j=>w0 v true|.raise c e,U,x=>vJ x λy z j=>w0 z (wO y λy=>cZ y λg l s j=>wN s (ca g λn j=>w1 l λy=>yO N U c n&&ay N e U y))|.try1 body c h,U,x=>Ds x λb l o e j=>wN o (wN e (w1 l λd=>r9 d λn w=>yO N U c n&&f8 body U b&&f8 h U w&&!b.isEmpty))|.try2 body c h A B,U,x=>Ds x λb l o e j=>wN o (wN e (w2 l λd C=>r9 d λn w=>r9 C λD E=>yO N U c n&&yO N U A D&&f8 body U b&&f8 h U w&&f8 B U E&&!b.isEmpty))|.cont,_,x=>BM x λj=>true|.bad,_,_=>true noncomputable def f8:SL->Cx->List Stmt->Bool|.nil,_,xs=>xs.isEmpty|.cons s r,U,xs=>wC xs λy F=>CJ s U y&&f8 r U F end
end
structure Gx(G:Fc)(U:Cx):Prop where
 sc:G.env.scope=U.sc
 vs:G.vs=U.vs
 st:G.st=U.st
noncomputable def XR(W:Wd)(A:Around)(G:Fc)(ρ:aR)(H:Hp)(s:Shared)(c:Nat)(e:Addr)(Z:Hp)(s':Shared):Prop:=Reach W A G H s ρ Z s'/\DM W s.heap s'.heap c e
noncomputable def DJ(W:Wd)(A:Around)(G:Fc)(ρ:aR)(H:Hp)(s:Shared)(X:QX)(E:Value->Shared->Prop):Prop:=∀c Z e s',X c Z->XR W A G ρ H s c e Z s'->E (.ref e) s'
variable{W:Wd}{A:Around}{G:Fc}{ρ:aR}{H J:Hp}{s s1:Shared}{Q:QV}{X:QX}{E:Value->Shared->Prop}
theorem DJ.next(h:DJ W A G ρ H s X E)(r:Reach W A G H s ρ J s1):DJ W A G ρ J s1 X E:=λc Z e s' hx hr=>h c Z e s' hx ⟨r.trans hr.1,hr.2.older λb o q=>by refine dE (r.pr.live b o q) λa d=>?_;rw[d];simp⟩
theorem DJ.never{h:∀c H,¬X c H}:DJ W A G ρ H s X E:=λc Z e s' hx a=>absurd hx (h c Z)
theorem PE.from{v:Value}{s2:Shared}(r:Reach W A G H s ρ J s1)(h:PE W A G ρ J s1 Q v s2):PE W A G ρ H s Q v s2:=by
 refine aW h λa Z q w b=>?_;try clear h
 exact aL a Z q w (r.trans b)
theorem Reach.ts(S:St W A G ρ H s)(r:Reach W A G H s ρ J s1):TS s.heap s1.heap:=r.pr.ts S
theorem PE.step{t:Sem Value}{P:Value->Shared->Prop}{a:QV}(h:wpAny (model W.prog W.w) A t (PE W A G ρ H s a) E s)(k:∀b v J s1,a b J->VR s1.heap b v->Reach W A G H s ρ J s1->P v s1):wpAny (model W.prog W.w) A t P E s:=bE h (λv s1 c=>by
 refine aW c λb J q w r=>?_;try clear c
 exact k b v J s1 q w r) λd d z=>z
theorem PE.ret{t:Sem Value}(r:Reach W A G H s ρ J s1)(h:wpAny (model W.prog W.w) A t (PE W A G ρ J s1 Q) E s1):wpAny (model W.prog W.w) A t (PE W A G ρ H s Q) E s1:=bE h (λa a z=>z.from r) λa a z=>z
section
variable(N:Nm)(T:cA)(Y:kC)(hd:Bool)(n:Nat)
structure Ctx(W:Wd)(U:Cx)(A:Around)(G:Fc)(ρ:aR)(H:Hp)(s:Shared)(X:QX)(E:Value->Shared->Prop):Prop where
 g:Gx G U
 S:St W A G ρ H s
 R:Rm A n
 hh:hd=false->A.handled=none
 ex:DJ W A G ρ H s X E
noncomputable def aN(W:Wd)(e:Internal.E):Prop:=∀U x A G ρ H s Q X E,ay N e U x=true->Ctx hd n W U A G ρ H s X E->WE T Y hd e ρ Q X H->wpAny (model W.prog W.w) A (eval x G.env) (PE W A G ρ H s Q) E s
noncomputable def PB(W:Wd)(A:Around)(G:Fc)(ρ:aR)(H:Hp)(s:Shared)(a:Bool->Hp->Prop):Bool->Shared->Prop:=λb s'=>∃Z,a b Z/\Reach W A G H s ρ Z s'
noncomputable def lQ(W:Wd)(e:Internal.E):Prop:=∀U x A G ρ H s a X E,ay N e U x=true->Ctx hd n W U A G ρ H s X E->WE T Y hd e ρ (QB a) X H->wpAny (model W.prog W.w) A (isTrue x G.env (eval x G.env)) (PB W A G ρ H s a) E s
noncomputable def PL(W:Wd)(A:Around)(G:Fc)(ρ:aR)(H:Hp)(s:Shared)(Ql:List V->Hp->Prop):List Value->Shared->Prop:=λvs s'=>∃avs Z,Ql avs Z/\bj s'.heap avs vs/\Reach W A G H s ρ Z s'
noncomputable def zq(W:Wd)(a:EL):Prop:=∀U xs A G ρ H s Ql X E (pos:Pos),dg N a U xs=true->Ctx hd n W U A G ρ H s X E->Bj T Y hd a ρ Ql X H->wpAny (model W.prog W.w) A (spliced (backTo pos (starEach xs G.env))) (PL W A G ρ H s Ql) E s
end
variable{N:Nm}{T:cA}{Y:kC}{hd:Bool}{n:Nat}{U:Cx}
theorem Ctx.next(c:Ctx hd n W U A G ρ H s X E)(r:Reach W A G H s ρ J s1):Ctx hd n W U A G ρ J s1 X E:=⟨c.g,r.st,c.R,c.hh,c.ex.next r⟩
theorem gK{a b c:Bool}(h:(a&&b&&c)=true):(a=true/\b=true)/\c=true:=⟨aO (aO h).1,(aO h).2⟩
theorem fX{a b c d:Bool}(h:(a&&b&&c&&d)=true):((a=true/\b=true)/\c=true)/\d=true:=⟨gK (aO h).1,(aO h).2⟩
theorem ME{op:ue}{a b:Internal.E}(d:aN N T Y hd n W a)(e:aN N T Y hd n W b):aN N T Y hd n W (.bin op a b):=λU x A G ρ H s Q X E f c hw=>by refine Im f λl o r g h f=>?_;rw[h];·refine dA (gK f) ?_;rintro⟨i,j⟩k;rw[bY i];refine wpAny_BinOp (PE.step (d _ _ _ _ _ _ _ _ _ _ j c hw) λm v J s1 q w r=>?_);refine PE.step (e _ _ _ _ _ _ _ _ _ _ k (c.next r) q) λp y t s2 u w2 z=>PE.ret (r.trans z) ?_;have B:=w.ts (z.ts r.st);exact KU z.st u B w2
theorem lQ.of{e:Internal.E}(h:aN N T Y hd n W e)(a:∀U x env whole,ay N e U x=true->isTrue x env whole=(do let v<-whole;standAt x.pos;holding [v] (truthy v))):lQ N T Y hd n W e:=λU x A G ρ H s d X E f c hw=>by rw[a U x _ _ f];refine aQ (PE.step (h _ _ _ _ _ _ _ _ _ _ f c hw) λg v J s1 q w r=>aQ (kG (eC ?_)));skip;refine w.mBool q λb q=>?_;exact fC (an J q r)
noncomputable def eQ(x:Expr):Nat:=if x.ctorIdx=3 then(if Hh x (λo a a=>decide (o=.Not))=true then 1 else 0)else if x.ctorIdx=0\/x.ctorIdx=5\/x.ctorIdx=15 then 1 else if x.ctorIdx=8\/x.ctorIdx=9\/x.ctorIdx=10 then 2 else 0
theorem isTrue_plain{x:Expr}(h:eQ x≠1)(env:Env)(whole:Sem Value):isTrue x env whole=(do let v<-whole;standAt x.pos;holding [v] (truthy v)):=by
 cases x with
 |UnaryOp op y p=>cases op<;>first|rfl|exact absurd rfl h
 |BoolOp=>exact absurd rfl h|IfExp=>exact absurd rfl h|Compare=>exact absurd rfl h|_=>rfl
theorem DC{x:Expr}(h:eQ x≠2):ky x=true:=by cases x<;>first|rfl|exact absurd rfl h
theorem zy:∀{b:Bool}(h:(!b)=true),b=false|false,_=>rfl
theorem Ms{i:Nat}:aN N T Y hd n W (.var i):=λU x A G ρ H s Q X E a c hw=>by refine F6 a λnm p b a=>?_;rw[b];have h:=aO a;have d:=aO h.2;have hw:(match ρ i with|some v=>Q v H|none=>False):=hw;cases hv:ρ i with|some v=>rw[hv]at hw;exact wpAny_Name (B_ c.S (by rw[c.g.vs];exact ci h.1) hv hw (zy d.2)) (zy d.1)|none=>rw[hv]at hw;exact hw.elim
theorem HQ{i:Int}:aN N T Y hd n W (.cint i):=λU x A G ρ H s Q X E a c hw=>by refine km a λm b b d a=>?_;rw[d,bY a];exact wpAny_Constant_int (PE.tok c.S hw .int)
theorem I9{l:List Nat}:aN N T Y hd n W (.cstr l):=λU x A G ρ H s Q X E a c hw=>by refine km a λm b b d a=>sB a λm e a=>?_;rw[d,e];exact xb (PE.tok c.S hw (.str (ci a)))
theorem F9{b:Bool}:aN N T Y hd n W (.cbool b):=λU x A G ρ H s Q X E a c hw=>by refine km a λm d d e a=>?_;rw[e,bY a];exact wpAny_Constant_bool (PE.same c.S hw .bool)
theorem EK:aN N T Y hd n W .cnone:=λU x A G ρ H s Q X E a c hw=>by refine km a λm b b d a=>?_;rw[d,bY a];exact xO (PE.same c.S hw .none)
theorem KG{a:Internal.E}(b:aN N T Y hd n W a):aN N T Y hd n W (.neg a):=λU x A G ρ H s Q X E d c hw=>by refine Bb d λy p e d=>?_;rw[e];refine UnaryOp_ (PE.step (b _ _ _ _ _ _ _ _ _ _ d c hw) λf v J s1 q w r=>PE.ret r ?_);refine w.mInt q λg h q=>?_;exact PyProof.Rows.neg_int (PE.tok r.st q .int)
theorem Ku{a:Internal.E}(d:aN N T Y hd n W a):aN N T Y hd n W (.not a):=λU x A G ρ H s Q X E e c hw=>by refine vW e λy p f e=>?_;rw[f];refine UnaryOp_ (PE.step (d _ _ _ _ _ _ _ _ _ _ e c hw) λg v J s1 q w r=>PE.ret r ?_);refine w.mBool q λb q=>?_;exact not_of (fC (PE.same r.st q .bool))
theorem Kw{a:Internal.E}(d:lQ N T Y hd n W a):lQ N T Y hd n W (.not a):=λU x A G ρ H s e X E f c hw=>by refine vW f λy p g f=>?_;rw[g];·exact isTrue_not (bE (d _ _ _ _ _ _ _ (λb=>e (!b)) X E f c hw) (λb s' z=>z) λh h z=>z)
theorem Rm.zero{n:Nat}(h:Rm A n):Rm A 0:=by unfold Rm at*;exact bz (by lia) (by lia) h.2.2
theorem cw{op:wE}{o:CmpOp}(h:wz o (jW op)=true):o=jW op:=by unfold wz at h;simpa using h
theorem Ke{op:CmpOp}{r:Expr}(h:oO r=true):behindInMarks op r=false:=by cases r<;>first|rfl|exact ff h
theorem L8{op:wE}{a b:Internal.E}(d:aN N T Y hd n W a)(e:aN N T Y hd n W b):aN N T Y hd n W (.cmp op a b):=λU x A G ρ H s Q X E f c hw=>by refine nE f λl o r p g f=>?_;rw[g];·refine dA (fX f) ?_;rintro⟨⟨h,i⟩,j⟩h4;cases cw h;refine wpAny_Compare1 (PE.step (d _ _ _ _ _ _ _ _ _ _ i c hw) λk v J s1 q w r=>?_) (Ke h4);refine PE.step (e _ _ _ _ _ _ _ _ _ _ j (c.next r) q) λm y t s2 u w2 B=>?_;refine bE (zP B.st c.R.zero u (w.ts (B.ts r.st)) w2) (λC s' z=>?_) λD D z=>z;(refine lW (z) ?_;try clear z;rintro F;rw[F];rintro b I;rw[I];rintro K);exact(PE.same B.st K .bool).from (r.trans B)
theorem L9{op:wE}{a b:Internal.E}(d:aN N T Y hd n W a)(e:aN N T Y hd n W b):lQ N T Y hd n W (.cmp op a b):=λU x A G ρ H s f X E g c hw=>by refine nE g λl o r p h g=>?_;rw[h];·refine dA (fX g) ?_;rintro⟨⟨i,j⟩,k⟩h4;cases cw i;refine wpAny_isTrue_Compare1 (PE.step (d _ _ _ _ _ _ _ _ _ _ j c hw) λm v J s1 q w r=>?_) (Ke h4);refine PE.step (e _ _ _ _ _ _ _ _ _ _ k (c.next r) q) λt y u s2 B w2 C=>?_;refine aD ?_;intro D;refine bE (zP C.st c.R.zero B (w.ts (C.ts r.st)) w2) (λF s' z=>?_) λI I z=>z;(refine lW (z) ?_;try clear z;rintro K;rw[K];rintro b L;rw[L];rintro M);exact fC (an u M (r.trans C))
theorem KK{a:Internal.E}(b:aN N T Y hd n W a):aN N T Y hd n W (.isN a):=λU x A G ρ H s Q X E d c hw=>by refine Bm d λl e f g h d=>?_;rw[h];·skip;refine wpAny_Compare1 (PE.step (b _ _ _ _ _ _ _ _ _ _ d c hw) λj v J s1 q w r=>?_) rfl;exact w.mNI q (λq=>xO (wpAny_is_plain rfl ((PE.same r.st q .bool).from r))) λi t q=>xO (wpAny_is_plain rfl ((PE.same r.st q .bool).from r))
theorem LK{a:Internal.E}(b:aN N T Y hd n W a):lQ N T Y hd n W (.isN a):=λU x A G ρ H s d X E e c hw=>by refine Bm e λl f g h j e=>?_;rw[j];·skip;refine wpAny_isTrue_Compare1 (PE.step (b _ _ _ _ _ _ _ _ _ _ e c hw) λk v J s1 q w r=>?_) rfl;exact w.mNI q (λq=>xO (wpAny_is_plain rfl (fC (an J q r)))) λi t q=>xO (wpAny_is_plain rfl (fC (an J q r)))
theorem L3{p:Bool}{a d:Internal.E}(f:aN N T Y hd n W a)(g:aN N T Y hd n W d):aN N T Y hd n W (.inD p a d):=λU x A G ρ H s Q X E h c hw=>by
 refine nE h λl o r i j h=>?_;rw[j]
 ·refine dA (fX h) ?_;rintro⟨⟨m,u⟩,B⟩h4;rw[bY m];refine wpAny_Compare1 (PE.step (f _ _ _ _ _ _ _ _ _ _ u c hw) λC v J s1 q w r=>?_) (Ke h4);refine aD ?_;intro D;refine PE.step (g _ _ _ _ _ _ _ _ _ _ B (c.next r) q) λF y I s2 L w2 M=>?_;refine am (JM (K:=λr=>Q (.bool (if p then r else !r)) I) L) λb e L=>?_;have k:=JZ (E:=E) M.st e (w.ts (M.ts r.st)) w2;have z:=(PE.tok (t:=s2.toks+1) M.st L .bool).from (r.trans M);cases p;·exact k.2 z
  ·exact k.1 z
theorem Lv{p:Bool}{a d:Internal.E}(f:aN N T Y hd n W a)(g:aN N T Y hd n W d):lQ N T Y hd n W (.inD p a d):=λU x A G ρ H s h X E i c hw=>by
 refine nE i λl o r j m i=>?_;rw[m]
 ·refine dA (fX i) ?_;rintro⟨⟨t,u⟩,B⟩h4;rw[bY t];refine wpAny_isTrue_Compare1 (PE.step (f _ _ _ _ _ _ _ _ _ _ u c hw) λC v J s1 q w r=>?_) (Ke h4);refine aD ?_;intro D;refine PE.step (g _ _ _ _ _ _ _ _ _ _ B (c.next r) q) λF y I s2 L w2 M=>?_;refine am (JM (K:=λr=>h (if p then r else !r) I) L) λb e L=>?_;have k:=JZ (E:=E) M.st e (w.ts (M.ts r.st)) w2;have z:wpAny (model W.prog W.w) A (truthy (.bool (if p then b else !b))) (PB W A G ρ H s h) E {s2 with toks:=s2.toks+1}:=fC (an I L ((r.trans M).trans (Reach.toks M.st)));cases p;·exact k.2 z
  ·exact k.1 z
theorem eZ{M:Model}{pos:Pos}{a:Value}{op d:CmpOp}{e:List CmpOp}{r f:Sem Value}{rs:List (Sem Value)}{Q:Bool->Shared->Prop}(h:wpAny M A r (λb g=>wpAny M A (compareOp op a b) (λc i=>wpAny M A (truthy c) (λt j=>if t then wpAny M A (testChain pos b (d::e) (f::rs)) Q E j else Q false j) E i) E g) E s):wpAny M A (testChain pos a (op::d::e) (r::f::rs)) Q E s:=by
 show wpAny M A (do
  let k<-holding [a] r
  standAt pos let c<-holding [a,k] (compareOp op a k)
  release [a,k] [c]if<-holding [c,k] (truthy c)then testChain pos k (d::e) (f::rs)else pure false) Q E s;refine aQ (eC (bE h (λb g l=>aQ (kG (aQ (eC (bE l (λc i m=>aQ (wpAny_release' (aQ (eC (bE m (λt j n=>?_) λo o x=>x))))) λo o x=>x))))) λo o x=>x));cases t with|false=>exact bg n|true=>exact n
theorem jh{M:Model}{pos:Pos}{a:Value}{op:CmpOp}{r:Sem Value}{Q:Bool->Shared->Prop}(h:wpAny M A r (λb d=>wpAny M A (compareOp op a b) (λc e=>wpAny M A (truthy c) Q E e) E d) E s):wpAny M A (testChain pos a [op] [r]) Q E s:=by
 show wpAny M A (do
  let f<-holding [a] r
  standAt pos let c<-operate [a,f] (compareOp op a f)
  holding [c] (truthy c)) Q E s;exact aQ (eC (bE h (λb d g=>aQ (kG (aQ (wpAny_operate' (bE g (λc e i=>eC i) λj j x=>x))))) λj j x=>x))
theorem jR{op:wE}{a b:V}{x y:Value}(S:St W A G ρ H s)(R:Rm A n)(hw:bP op a b Q H)(c:VR s.heap a x)(d:VR s.heap b y){P:Value->Shared->Prop}(k:∀r,Q (.bool r) H->P (.bool r) s):wpAny (model W.prog W.w) A (compareOp (jW op) x y) P E s:=bE (zP S R.zero hw c d) (λe s' z=>by(refine lW (z) ?_;try clear z;rintro f;rw[f];rintro r g;rw[g];rintro q);exact k r q) λh h z=>z
theorem ou{op:wE}{a b:V}{x y:Value}(S:St W A G ρ H s)(R:Rm A n)(hw:bP op a b Q H)(c:VR s.heap a x)(d:VR s.heap b y){P:Value->Shared->Prop}(k0:Q (.bool false) H->P (.bool false) s)(k1:Q (.bool true) H->P (.bool true) s):wpAny (model W.prog W.w) A (compareOp (jW op) x y) P E s:=jR S R hw c d λr q=>by cases r with|false=>exact k0 q|true=>exact k1 q
theorem tl{a b c d e f:Bool}(h:(a&&b&&c&&d&&e&&f)=true):((((a=true/\b=true)/\c=true)/\d=true)/\e=true)/\f=true:=⟨⟨fX (aO (aO h).1).1,(aO (aO h).1).2⟩,(aO h).2⟩
theorem yD{a b:Bool}(h:a=true)(k:b=true):(a&&b)=true:=by rw[h,k];rfl
theorem C2{d e:wE}{a b c:Internal.E}(f:aN N T Y hd n W a)(g:aN N T Y hd n W b)(h:aN N T Y hd n W c):aN N T Y hd n W (.chain2 d e a b c):=λU x A G ρ H s Q X E i c hw=>by
 refine Bc i λl j k r1 m o p i=>?_;rw[p]
 ·refine dA (tl i) ?_;rintro⟨⟨⟨⟨u,B⟩,C⟩,h4⟩,D⟩F;cases cw u;cases cw B;refine Compare_chain (PE.step (f _ _ _ _ _ _ _ _ _ _ C c hw) λI v J s1 q w r=>chain_link ?_) (Ke F);refine PE.step (g _ _ _ _ _ _ _ _ _ _ h4 (c.next r) q) λK y L s2 M w2 k2=>ou k2.st c.R M (w.ts (k2.ts r.st)) w2 (λO=>fC ?_) λO=>fC ?_;·exact(PE.same (Q:=Q) k2.st O .bool).from (r.trans k2)
  ·have P:=r.trans k2;refine chain_last (PE.step (h _ _ _ _ _ _ _ _ _ _ D (c.next P) O) λR z S ab V w3 k3=>jR k3.st c.R V (w2.ts (k3.ts k2.st)) w3 λt Z=>?_);exact(PE.same k3.st Z .bool).from (P.trans k3)
theorem CX{d e:wE}{a b c:Internal.E}(f:aN N T Y hd n W a)(g:aN N T Y hd n W b)(h:aN N T Y hd n W c):lQ N T Y hd n W (.chain2 d e a b c):=λU x A G ρ H s i X E j c hw=>by
 refine Bc j λl k m r1 o p u j=>?_;rw[u]
 ·refine dA (tl j) ?_;rintro⟨⟨⟨⟨B,C⟩,D⟩,h4⟩,F⟩I;cases cw B;cases cw C;refine isTrue_chain (PE.step (f _ _ _ _ _ _ _ _ _ _ D c hw) λK v J s1 q w r=>eZ ?_) (Ke I);refine PE.step (g _ _ _ _ _ _ _ _ _ _ h4 (c.next r) q) λL y M s2 O w2 k2=>ou k2.st c.R O (w.ts (k2.ts r.st)) w2 (λP=>fC ?_) λP=>fC ?_;·exact an M P (r.trans k2)
  ·have Q:=r.trans k2;refine jh (PE.step (h _ _ _ _ _ _ _ _ _ _ F (c.next Q) P) λR z S ab V w3 k3=>jR k3.st c.R V (w2.ts (k3.ts k2.st)) w3 λt Z=>?_);exact fC (an S Z (Q.trans k3))
theorem Co{e f g:wE}{a b c d:Internal.E}(h:aN N T Y hd n W a)(i:aN N T Y hd n W b)(j:aN N T Y hd n W c)(k:aN N T Y hd n W d):aN N T Y hd n W (.chain3 e f g a b c d):=λU x A G ρ H s Q X E m c hw=>by
 refine AS m λl ab ag al r1 ao ap ar o m=>?_;rw[o]
 ·refine dA (aO m) λm p=>?_;refine dA (aO m) λm u=>?_;refine dA (tl m) ?_;rintro⟨⟨⟨⟨B,C⟩,D⟩,F⟩,h4⟩I;cases cw B;cases cw C;cases cw D;refine Compare_chain (PE.step (h _ _ _ _ _ _ _ _ _ _ F c hw) λav v J s1 q w r=>chain_link ?_) (Ke p);refine PE.step (i _ _ _ _ _ _ _ _ _ _ h4 (c.next r) q) λa0 y a1 s2 K w2 k2=>ou k2.st c.R K (w.ts (k2.ts r.st)) w2 (λL=>fC ?_) λL=>fC ?_;·exact(PE.same (Q:=Q) k2.st L .bool).from (r.trans k2)
  ·have M:=r.trans k2;refine chain_link (PE.step (j _ _ _ _ _ _ _ _ _ _ I (c.next M) L) λa2 z a3 a4 O w3 k3=>ou k3.st c.R O (w2.ts (k3.ts k2.st)) w3 (λP=>fC ?_) λP=>fC ?_);·exact(PE.same (Q:=Q) k3.st P .bool).from (M.trans k3)
   ·have R:=M.trans k3;refine chain_last (PE.step (k _ _ _ _ _ _ _ _ _ _ u (c.next R) P) λa5 a6 a7 a8 S V k4=>jR k4.st c.R S (w3.ts (k4.ts k3.st)) V λt Z=>?_);exact(PE.same k4.st Z .bool).from (R.trans k4)
theorem C3{e f g:wE}{a b c d:Internal.E}(h:aN N T Y hd n W a)(i:aN N T Y hd n W b)(j:aN N T Y hd n W c)(k:aN N T Y hd n W d):lQ N T Y hd n W (.chain3 e f g a b c d):=λU x A G ρ H s al X E m c hw=>by
 refine AS m λl ao ap ar r1 av a0 a1 o m=>?_;rw[o]
 ·refine dA (aO m) λm p=>?_;refine dA (aO m) λm u=>?_;refine dA (tl m) ?_;rintro⟨⟨⟨⟨B,C⟩,D⟩,F⟩,h4⟩I;cases cw B;cases cw C;cases cw D;refine isTrue_chain (PE.step (h _ _ _ _ _ _ _ _ _ _ F c hw) λa2 v J s1 q w r=>eZ ?_) (Ke p);refine PE.step (i _ _ _ _ _ _ _ _ _ _ h4 (c.next r) q) λa3 y K s2 L w2 k2=>ou k2.st c.R L (w.ts (k2.ts r.st)) w2 (λM=>fC ?_) λM=>fC ?_;·exact an K M (r.trans k2)
  ·have O:=r.trans k2;refine eZ (PE.step (j _ _ _ _ _ _ _ _ _ _ I (c.next O) M) λa4 z P a5 Q w3 k3=>ou k3.st c.R Q (w2.ts (k3.ts k2.st)) w3 (λR=>fC ?_) λR=>fC ?_);·exact an P R (O.trans k3)
   ·have S:=O.trans k3;refine jh (PE.step (k _ _ _ _ _ _ _ _ _ _ u (c.next S) R) λa6 a7 V a8 Z ab k4=>jR k4.st c.R Z (w3.ts (k4.ts k3.st)) ab λt ag=>?_);exact fC (an V ag (S.trans k4))
noncomputable def IC(N:Nm)(T:cA)(Y:kC)(hd:Bool)(n:Nat)(W:Wd)(b:EL):Prop:=∀a,aN N T Y hd n W a->aN N T Y hd n W (.and a b)
noncomputable def OB(N:Nm)(T:cA)(Y:kC)(hd:Bool)(n:Nat)(W:Wd)(b:EL):Prop:=∀a,aN N T Y hd n W a->aN N T Y hd n W (.or a b)
noncomputable def BH(N:Nm)(T:cA)(Y:kC)(hd:Bool)(n:Nat)(W:Wd)(b:EL):Prop:=∀a,lQ N T Y hd n W a->lQ N T Y hd n W (.and a b)
noncomputable def IK(N:Nm)(T:cA)(Y:kC)(hd:Bool)(n:Nat)(W:Wd)(b:EL):Prop:=∀a,lQ N T Y hd n W a->lQ N T Y hd n W (.or a b)
theorem Iu:IC N T Y hd n W .nil:=λa b U x A G ρ H s Q X E d c hw=>by refine qI d λy e p f d=>?_;rw[f];·refine dA (aO d) λg h=>?_;rw[ow h];refine BoolOp_one (PE.step (b _ _ _ _ _ _ _ _ _ _ g c hw) λi v J s1 q w r=>?_);exact w.mTF q (λq=>(PE.same r.st q .bool).from r) (λq=>(PE.same r.st q .bool).from r)
theorem EQ{e:Internal.E}{r:EL}(b:aN N T Y hd n W e)(hr:IC N T Y hd n W r):IC N T Y hd n W (.cons e r):=λa d U x A G ρ H s Q X E f c hw=>by
 refine qI f λy g p h f=>?_;rw[h]
 ·refine dA (aO f) λi j=>?_;cases g with|nil=>exact(bI j).elim|cons z k=>replace j:=aO j;refine BoolOp_and (PE.step (d _ _ _ _ _ _ _ _ _ _ i c hw) λl v J s1 q w r=>?_);exact w.mTF q (λq=>fC (PE.ret r (hr e b U (.BoolOp .And (z::k) p) A G ρ J s1 Q X E (yD j.1 j.2) (c.next r) q))) (λq=>fC ((PE.same r.st q .bool).from r))
theorem KV:OB N T Y hd n W .nil:=λa b U x A G ρ H s Q X E d c hw=>by refine vk d λy e p f d=>?_;rw[f];·refine dA (aO d) λg h=>?_;rw[ow h];refine BoolOp_one (PE.step (b _ _ _ _ _ _ _ _ _ _ g c hw) λi v J s1 q w r=>?_);exact w.mTF q (λq=>(PE.same r.st q .bool).from r) (λq=>(PE.same r.st q .bool).from r)
theorem HJ{e:Internal.E}{r:EL}(b:aN N T Y hd n W e)(hr:OB N T Y hd n W r):OB N T Y hd n W (.cons e r):=λa d U x A G ρ H s Q X E f c hw=>by
 refine vk f λy g p h f=>?_;rw[h]
 ·refine dA (aO f) λi j=>?_;cases g with|nil=>exact(bI j).elim|cons z k=>replace j:=aO j;refine BoolOp_or (PE.step (d _ _ _ _ _ _ _ _ _ _ i c hw) λl v J s1 q w r=>?_);exact w.mTF q (λq=>fC ((PE.same r.st q .bool).from r)) (λq=>fC (PE.ret r (hr e b U (.BoolOp .Or (z::k) p) A G ρ J s1 Q X E (yD j.1 j.2) (c.next r) q)))
theorem PB.step{t:Sem Bool}{P:Bool->Shared->Prop}{a:Bool->Hp->Prop}(h:wpAny (model W.prog W.w) A t (PB W A G ρ H s a) E s)(k:∀b J s1,a b J->Reach W A G H s ρ J s1->P b s1):wpAny (model W.prog W.w) A t P E s:=bE h (λv s1 c=>by
 refine am c λJ q r=>?_;try clear c
 exact k v J s1 q r) λd d z=>z
theorem PB.from{a:Bool->Hp->Prop}{b:Bool}{s2:Shared}(r:Reach W A G H s ρ J s1)(h:PB W A G ρ J s1 a b s2):PB W A G ρ H s a b s2:=by
 refine am h λZ q c=>?_;try clear h
 exact an Z q (r.trans c)
theorem PB.ret{a:Bool->Hp->Prop}{t:Sem Bool}(r:Reach W A G H s ρ J s1)(h:wpAny (model W.prog W.w) A t (PB W A G ρ J s1 a) E s1):wpAny (model W.prog W.w) A t (PB W A G ρ H s a) E s1:=bE h (λb b z=>z.from r) λb b z=>z
theorem EN:BH N T Y hd n W .nil:=λa d U x A G ρ H s e X E f c hw=>by
 refine qI f λy g p h f=>?_;rw[h]
 ·refine dA (aO f) λi j=>?_;rw[ow j];refine isTrue_and (PB.step (d _ _ _ _ _ _ _ _ _ _ i c hw) λb J s1 q r=>?_);cases b;·exact an J q r
  ·exact isTrue_and_nil (an J q r)
theorem Dx{e:Internal.E}{r:EL}(d:lQ N T Y hd n W e)(hr:BH N T Y hd n W r):BH N T Y hd n W (.cons e r):=λa f U x A G ρ H s g X E h c hw=>by
 refine qI h λy i p j h=>?_;rw[j]
 ·refine dA (aO h) λk l=>?_;cases i with
  |nil=>exact(bI l).elim|cons z m=>
   replace l:=aO l;refine isTrue_and (PB.step (f _ _ _ _ _ _ _ _ _ _ k c hw) λb J s1 q r=>?_);cases b;·exact an J q r
   ·exact PB.ret r (hr e d U (.BoolOp .And (z::m) p) A G ρ J s1 g X E (yD l.1 l.2) (c.next r) q)
theorem HM:IK N T Y hd n W .nil:=λa d U x A G ρ H s e X E f c hw=>by
 refine vk f λy g p h f=>?_;rw[h]
 ·refine dA (aO f) λi j=>?_;rw[ow j];refine isTrue_or (PB.step (d _ _ _ _ _ _ _ _ _ _ i c hw) λb J s1 q r=>?_);cases b;·exact isTrue_or_nil (an J q r)
  ·exact an J q r
theorem Fe{e:Internal.E}{r:EL}(d:lQ N T Y hd n W e)(hr:IK N T Y hd n W r):IK N T Y hd n W (.cons e r):=λa f U x A G ρ H s g X E h c hw=>by
 refine vk h λy i p j h=>?_;rw[j]
 ·refine dA (aO h) λk l=>?_;cases i with
  |nil=>exact(bI l).elim|cons z m=>
   replace l:=aO l;refine isTrue_or (PB.step (f _ _ _ _ _ _ _ _ _ _ k c hw) λb J s1 q r=>?_);cases b;·exact PB.ret r (hr e d U (.BoolOp .Or (z::m) p) A G ρ J s1 g X E (yD l.1 l.2) (c.next r) q)
   ·exact an J q r
set_option tactic.hygienic true in
theorem KN{t a b:Internal.E}(d:lQ N T Y hd n W t)(e:aN N T Y hd n W a)(f:aN N T Y hd n W b):aN N T Y hd n W (.ite t a b):=λU x A G ρ H s Q X E g c hw=>by
 refine Fz g λu y z p h g=>?_;rw[h]
 ·refine dA (gK g) ?_;rintro⟨i,j⟩k;refine IfExp_ (PB.step (d _ _ _ _ _ _ _ _ _ _ i c hw) λt J s1 q r=>?_);cases t;·exact PE.ret r (f _ _ _ _ _ _ _ _ _ _ k (c.next r) q)
  ·exact PE.ret r (e _ _ _ _ _ _ _ _ _ _ j (c.next r) q)
theorem Db{M:Model}{env:Env}{a body b:Expr}{pos:Pos}{whole:Sem Value}{Q:Bool->Shared->Prop}(h:wpAny M A (isTrue a env (eval a env)) (λc d=>if c then wpAny M A (isTrue body env (eval body env)) Q E d else wpAny M A (isTrue b env (eval b env)) Q E d) E s):wpAny M A (isTrue (.IfExp a body b pos) env whole) Q E s:=by refine(?_:wpAny M A (do if<-isTrue a env (eval a env)then isTrue body env (eval body env)else isTrue b env (eval b env)) Q E s);refine aQ (bE h (λc d e=>?_) λf f x=>x);cases c<;>exact e
set_option tactic.hygienic true in
theorem LH{t a b:Internal.E}(d:lQ N T Y hd n W t)(e:lQ N T Y hd n W a)(f:lQ N T Y hd n W b):lQ N T Y hd n W (.ite t a b):=λU x A G ρ H s g X E h c hw=>by
 refine Fz h λu y z p i h=>?_;rw[i]
 ·refine dA (gK h) ?_;rintro⟨j,k⟩l;refine Db (PB.step (d _ _ _ _ _ _ _ _ _ _ j c hw) λt J s1 q r=>?_);cases t;·exact PB.ret r (f _ _ _ _ _ _ _ _ _ _ l (c.next r) q)
  ·exact PB.ret r (e _ _ _ _ _ _ _ _ _ _ k (c.next r) q)
noncomputable def iP:List (Str×Value):=[("len",.builtin "len"),("sorted",.builtin "sorted"),("sum",.builtin "sum"),("min",.builtin "min"),("max",.builtin "max"),("abs",.builtin "abs"),("isinstance",.builtin "isinstance"),("int",.type "int"),("bool",.type "bool"),("bytes",.type "bytes"),("bytearray",.type "bytearray"),("list",.type "list"),("str",.type "str"),("range",.type "range"),("enumerate",.type "enumerate"),("reversed",.type "reversed")]
theorem BG{p:Str×Value}(k:Nat)(h:iP[k]?=some p):p∈iP:=cy h
structure dX(W:Wd)(N:Nm):Prop where
 a:NJ W N.nA
 attr:W.attr=N.attr
 lim:W.B.NoLimit
 gl:∃b,W.B.Ns mainGlobals b/\(∀f x,N.fn f=some x->b x=some (.ref (W.fn f)))/\(∀c x,N.cls c=some x->b x=some (.ref (W.cls c)))/\(∀c x,N.exc c=some x->b x=some (.ref (W.exc c)))/\∀p∈iP,b p.1=none
 bl:∃d,W.B.Ns builtinsNs d/\∀p∈iP,d p.1=some p.2
theorem Ctx.kindG(c:Ctx hd n W U A G ρ H s X E){x:Str}(h:glob U x=true):G.env.kindOf x=some .globalImplicit/\(x==("__debug__":Str))=false:=by unfold glob at h;simp only[Bool.and_eq_true,beq_iff_eq,Bool.not_eq_true']at h;refine⟨?_,h.2⟩;unfold Env.kindOf;rw[c.g.sc];exact h.1
theorem iR(a:dX W N)(c:Ctx hd n W U A G ρ H s X E){x:Str}{v:Value}{p:Pos}{Q':Value->Shared->Prop}(h:glob U x=true)(d:∀g:Str->Option Value,(∀f x,N.fn f=some x->g x=some (.ref (W.fn f)))->(∀c x,N.cls c=some x->g x=some (.ref (W.cls c)))->(∀c x,N.exc c=some x->g x=some (.ref (W.exc c)))->g x=some v)(q:Q' v s):wpAny (model W.prog W.w) A (eval (.Name x p) G.env) Q' E s:=by refine wo (a.gl) λg i j k l h4=>?_;refine dA (c.kindG h) λk1 k2=>?_;exact DW c.S.kind k1 (Calls.loadGlobal_global (env:=G.env) (by rw[c.S.glob];exact i.keeps λb o e=>c.S.base b o e) (d g j k l) q) k2
theorem kE(a:dX W N)(c:Ctx hd n W U A G ρ H s X E){x:Str}{v:Value}{p:Pos}{Q':Value->Shared->Prop}(h:glob U x=true)(d:(x,v)∈iP)(q:Q' v s):wpAny (model W.prog W.w) A (eval (.Name x p) G.env) Q' E s:=by refine wo (a.gl) λf g i j k h4=>?_;refine am (a.bl) λl m r=>?_;refine dA (c.kindG h) λk1 k2=>?_;exact DW c.S.kind k1 (Calls.loadGlobal_builtin (env:=G.env) (by rw[c.S.glob];exact g.keeps λb o e=>c.S.base b o e) (h4 _ d) (by rw[c.S.bltn];exact m.keeps λb o e=>c.S.base b o e) (r _ d) q) k2
theorem Kn{a i:Internal.E}(b:aN N T Y hd n W a)(hi:aN N T Y hd n W i):aN N T Y hd n W (.idx a i):=λU x A G ρ H s Q X E d c hw=>by refine Jl d λy z p e d=>?_;rw[e];·refine dA (gK d) ?_;rintro⟨f,g⟩h;refine Subscript_ (PE.step (b _ _ _ _ _ _ _ _ _ _ f c hw) λj v J s1 q w r=>?_);refine PE.step (hi _ _ _ _ _ _ _ _ _ _ g (c.next r) q) λl y m s2 o w2 t=>?_;have k:=qV (E:=E) t.st o (w.ts (t.ts r.st)) w2;exact PE.ret (r.trans t) (rj k.2 k.1)
theorem mf{o lo hi:V}{x a c:Value}(S:St W A G ρ H s)(hw:uT o lo hi Q H)(ho:VR s.heap o x)(d:VR s.heap lo a)(f:VR s.heap hi c){g h:Expr}:wpAny (model W.prog W.w) A (subscriptTail g h x (.ref s.heap.objs.size)) (PE W A G ρ H s Q) E {s with heap:=s.heap.push {cls:=.type "slice",data:=.fields #[a,c,.none]}}:=by refine aW (hw.b) λi j pl l hw=>?_;have r:Reach W A G H s ρ H {s with heap:=s.heap.push {cls:=.type "slice",data:=.fields #[a,c,.none]}}:=Reach.keeps (t:=s.toks) S λb o e=>cn _ e;have m:=r.ts S;have k:=Em (E:=E) r.st (Heap.IsSliceOf.new s.heap a c .none) pl l hw (ho.ts m) (d.ts m) (f.ts m);exact PE.ret r (rj k.2 k.1)
theorem PE.ret'{t:Sem Value}{s2:Shared}(r:Reach W A G H s ρ J s1)(h:wpAny (model W.prog W.w) A t (PE W A G ρ J s1 Q) E s2):wpAny (model W.prog W.w) A t (PE W A G ρ H s Q) E s2:=bE h (λa a z=>z.from r) λa a z=>z
theorem Hm{a lo:Internal.E}(b:aN N T Y hd n W a)(d:aN N T Y hd n W lo):aN N T Y hd n W (.slLo a lo):=λU x A G ρ H s Q X E e c hw=>by refine Fq e λy z p f g e=>?_;rw[g];·refine dA (aO e) λh i=>?_;refine Subscript_ (PE.step (b _ _ _ _ _ _ _ _ _ _ h c hw) λj v J s1 q w r=>wpAny_Slice ?_);skip;refine PE.step (d _ _ _ _ _ _ _ _ _ _ i (c.next r) q) λk y l s2 m w2 o=>bg (bg ?_);exact PE.ret' (r.trans o) (mf o.st m (w.ts (o.ts r.st)) w2 .none)
theorem IQ{a hi:Internal.E}(b:aN N T Y hd n W a)(d:aN N T Y hd n W hi):aN N T Y hd n W (.slHi a hi):=λU x A G ρ H s Q X E e c hw=>by refine FC e λy z p f g e=>?_;rw[g];·refine dA (aO e) λh i=>?_;refine Subscript_ (PE.step (b _ _ _ _ _ _ _ _ _ _ h c hw) λj v J s1 q w r=>wpAny_Slice ?_);skip;refine bg (PE.step (d _ _ _ _ _ _ _ _ _ _ i (c.next r) q) λk y l s2 m w2 o=>bg ?_);exact PE.ret' (r.trans o) (mf o.st m (w.ts (o.ts r.st)) .none w2)
theorem KY{a lo hi:Internal.E}(b:aN N T Y hd n W a)(d:aN N T Y hd n W lo)(hh:aN N T Y hd n W hi):aN N T Y hd n W (.slB a lo hi):=λU x A G ρ H s Q X E e c hw=>by refine Hj e λy z u p f g e=>?_;rw[g];·refine dA (gK e) ?_;rintro⟨h,i⟩j;refine Subscript_ (PE.step (b _ _ _ _ _ _ _ _ _ _ h c hw) λk v J s1 q w r=>wpAny_Slice ?_);skip;refine PE.step (d _ _ _ _ _ _ _ _ _ _ i (c.next r) q) λl y m s2 o w2 t=>?_;refine PE.step (hh _ _ _ _ _ _ _ _ _ _ j (c.next (r.trans t)) o) λB z C D F w3 I=>bg ?_;exact PE.ret' ((r.trans t).trans I) (mf I.st F (w.ts ((t.trans I).ts r.st)) (w2.ts (I.ts t.st)) w3)
theorem GC{a:Internal.E}(d:aN N T Y hd n W a):aN N T Y hd n W (.slRev a):=λU x A G ρ H s Q X E f c hw=>by refine Cw f λy g h i j m p f=>?_;rw[p];·skip;refine Subscript_ (PE.step (d _ _ _ _ _ _ _ _ _ _ f c hw) λz v J s1 q w r=>wpAny_Slice ?_);skip;refine bg (bg (UnaryOp_ (wpAny_Constant_int (PyProof.Rows.neg_int ?_))));refine aT (q.b) ?_;rintro l rfl B q;refine VR.eStr w λy t e=>?_;have C:∀tk,Reach W A G J s1 ρ J {s1 with heap:=s1.heap.push {cls:=.type "slice",data:=.fields #[Value.none,Value.none,Value.int (-1) (s1.toks+1)]},toks:=tk}:=λtk=>Reach.keeps r.st λb o e=>cn _ e;have k:=Mx (E:=E) (C (s1.toks+1+1)).st (x:=y) (t:=t) (u:=s1.toks+1) (sl:=s1.heap.objs.size) (cW _ (gE _ rfl) rfl rfl) e B q;exact PE.ret' (r.trans (C _)) (rj k.2 k.1)
theorem rM{o:Expr}{attr:Str}{env:Env}{whole:Sem Value}(h:md o=true):attributeBase o attr env whole=whole:=by
 cases o with
 |Call f args a pos=>cases f with
  |Name id p=>cases args with
   |cons=>rfl|nil=>cases a with
    |cons=>rfl|nil=>have:(id !=("super":Str))=true:=h;exact aE (by rw[this];rfl)
  |_=>rfl
 |_=>rfl
theorem HD(a:dX W N){o:Internal.E}{f:Nat}(ho:aN N T Y hd n W o):aN N T Y hd n W (.attr o f):=λU x A G ρ H s Q X E b c hw=>by
 refine GP b λy nm p d b=>?_;rw[d]
 ·refine dA (fX b) ?_;rintro⟨⟨e,g⟩,h⟩h4;rw[ci g];replace h:=bY h;refine Attribute_any_ (PE.step (ho _ _ _ _ _ _ _ _ _ _ e c hw) λi v J s1 q w r=>?_) (by refine(?_:(do let o<-attributeBase y (N.attr f) G.env (eval y G.env);standAt p.atName;let r<-holding [o] (getAttr o (N.attr f) true);letTemporaryGo y o r;pure r)=_);rw[rM h4]);rw[<-a.attr];exact PE.ret r (Bw r.st a.a h q w)
set_option tactic.hygienic true in
theorem CQ{e:Internal.E}{U:Cx}{y:Expr}{p:Pos}:ay N e U (.Starred y p)=false:=by cases e<;>first|rfl|(rename_i b _;cases b<;>rfl)
theorem ax{y:Expr}{a:List Expr}{env:Env}(h:∀z p,y≠.Starred z p):starEach (y::a) env=(false,eval y env)::starEach a env:=by cases y<;>first|rfl|exact absurd rfl (h _ _)
theorem cg{pos:Pos}{t:Sem Value}{r:List (Bool×Sem Value)}:backTo pos ((false,t)::r)=(false,t)::backTo pos r:=rfl
theorem bS{e:Internal.E}{y:Expr}(h:ay N e U y=true):∀z p,y≠.Starred z p:=λz p q=>by subst q;rw[CQ]at h;cases h
theorem Ez:zq N T Y hd n W .nil:=λU xs A G ρ H s Ql X E pos a c hw=>by rw[ow a];exact pk (aL [] H hw (.nil) (Reach.refl c.S))
theorem AX{e:Internal.E}{r:EL}(a:aN N T Y hd n W e)(hr:zq N T Y hd n W r):zq N T Y hd n W (.cons e r):=λU xs A G ρ H s Ql X E pos b c hw=>by
 cases xs with
 |nil=>exact(bI b).elim|cons y d=>
  refine dA (aO b) λf g=>?_;rw[ax (bS f),cg];refine lj (PE.step (a _ _ _ _ _ _ _ _ _ _ f c hw) λh v J s1 q w k=>?_);refine bE (hr _ _ _ _ _ _ _ _ _ _ pos g (c.next k) q) (λvs s2 z=>?_) λi i z=>z;refine aW z λavs j l w2 k2=>?_;try clear z
  exact aL (h::avs) j l (.cons (w.ts (k2.ts k.st)) w2) (k.trans k2)
theorem hV{a:EL}:∀{xs:List Expr}{env:Env}{pos:Pos},dg N a U xs=true->(backTo pos (starEach xs env)).any (·.1)=false:=by intro xs;induction xs generalizing a with|nil=>intro env pos _;rfl|cons y b c=>intro env pos h;cases a with|nil=>exact(bI h).elim|cons e r=>replace h:=aO h;rw[ax (bS h.1),cg];skip;exact c h.2
theorem IU{a:EL}(d:zq N T Y hd n W a):aN N T Y hd n W (.list a):=λU x A G ρ H s Q X E f c hw=>by
 refine Ft f λg p h f=>?_;rw[h]
 ·skip;refine List_ (bE (d _ _ _ _ _ _ _ _ _ _ _ f c hw) (λvs s1 z=>?_) λi i z=>z);(refine aW (z) ?_;try clear z;rintro avs J q w r;refine dA (LW.e q) ?_;clear q;rintro j q);refine sJ ?_ (by refine(?_:vs.toArray.size<=sizeLine);rw[oF,<-w.length];exact aa j dj)
  refine dA (Reach.made (t:=s1.toks) (h':=s1.heap.push {cls:=.type "list",data:=.seq vs.toArray}) r.st (λb o e=>cn _ e) bN (ao:=.list avs) (aY vs 0 (gE _ rfl) (w.ts (TS.of_keeps λb o e=>cn _ e)))) λk l=>?_;exact aL _ _ (q.b _ k) (.ref) (r.trans l)
theorem KQ{a:EL}(d:zq N T Y hd n W a):aN N T Y hd n W (.tup a):=λU x A G ρ H s Q X E f c hw=>by refine B9 f λg h p i f=>?_;rw[i];·skip;refine Tuple_ (bE (d _ _ _ _ _ _ _ _ _ _ _ f c hw) (λvs s1 z=>?_) λj j z=>z);(refine aW (z) ?_;try clear z;rintro avs J q w r;refine dA (LW.e q) ?_;clear q;rintro l q);refine sJ ?_ (by refine(?_:vs.toArray.size<=sizeLine);rw[oF,<-w.length];exact aa l dj);have k:∀b o,s1.heap.get? b=some o->(s1.heap.push {cls:=.type "tuple",data:=.seq vs.toArray}).get? b=some o:=λb o e=>cn _ e;exact aL _ _ q (.tup (rI _ (gE _ rfl) rfl _ rfl) (w.ts (TS.of_keeps k))) (r.trans (Reach.keeps (t:=s1.toks) r.st k))
theorem St.freshH(S:St W A G ρ H s){a:Addr}(e:s.heap.get? a=none):H a=none:=by cases q:H a with|none=>rfl|some ao=>refine dE (S.live q) λo b=>?_;rw[e]at b;cases b
theorem St.lim(a:dX W N)(S:St W A G ρ H s):s.heap.NoLimit:=a.lim.keeps λb o q=>S.base b o q
theorem St.noMod(a:dX W N)(S:St W A G ρ H s):s.heap.objs.size≠sysModules:=Nat.ne_of_gt (modules_low (S.lim a))
theorem Hl(a:dX W N):aN N T Y hd n W .dct0:=λU x A G ρ H s Q X E d c hw=>by
 refine FD d λp f=>?_;rw[f]
 ·skip;refine wpAny_Dict_empty ?_;obtain⟨ep,g⟩:=(Heap.DictOf.new (knd:=intKind W.prog W.w) s.heap).dictAt;obtain⟨h,r⟩:=Reach.made (t:=s.toks) (h':=s.heap.push {cls:=.type "dict",data:=.dict #[]}) c.S (λb o e=>cn _ e) bN (ao:=.dictI [] ep) (cW [] g aJ (c.S.noMod a));exact aL _ _ ((hw _).b _ h) (.ref) r
theorem pZ{h:Heap}{K:Type}[DecidableEq K]{prog:Program}{w:World}{knd:KeyKind prog w K}{a:Addr}{kvs:List (K×Value)}(d:h.DictOf knd a kvs):∀o,h.get? a=some o->¬pV o:=λo e=>by
 refine c_ d λb c ep f g hd g=>?_;try clear d
 rw[e]at f;cases f;exact bc hd
theorem AM{K:Type}[DecidableEq K]{knd:KeyKind W.prog W.w K}(S:St W A G ρ H s)(r:Reach W A G H {s with heap:=s.heap.push {cls:=.type "dict",data:=.dict #[]}} ρ J s1){kvs:List (K×Value)}(a:True)(mk:∀h',TS s1.heap h'->h'.DictOf knd s.heap.objs.size kvs->∃ao,dL ao Q J/\eK W h' s.heap.objs.size ao):s1.heap.DictOf knd s.heap.objs.size []/\∀h' t,h'.DictOf knd s.heap.objs.size kvs->Heap.SameBut s.heap.objs.size s1.heap h'->PE W A G ρ H s Q (.ref s.heap.objs.size) {s1 with heap:=h',toks:=t}:=by
 have r0:Reach W A G H s ρ H {s with heap:=s.heap.push {cls:=.type "dict",data:=.dict #[]}}:=Reach.keeps (t:=s.toks) S λb o e=>cn _ e;have c:=S.freshH (bN (h:=s.heap));have f:(s.heap.push {cls:=.type "dict",data:=.dict #[]}).get? s.heap.objs.size=some {cls:=.type "dict",data:=.dict #[]}:=gE _ rfl;have own:s.heap.objs.size∉ownOf G.env:=λq=>by refine am (S.own_obj q) λo e g=>?_;rw[bN]at e;cases e
 have j:s.heap.objs.size∉aX A:=λq=>by refine ir (S.frs_obj q) λo g g e g=>?_;rw[bN]at e;cases e
 have k:s1.heap.get? s.heap.objs.size=some {cls:=.type "dict",data:=.dict #[]}:=r.pr.keep _ _ f c (λq=>own (S.ownSub _ q)) j;have l:s1.heap.DictOf knd s.heap.objs.size []:=by refine ir (Heap.DictOf.new (knd:=knd) s.heap) λo m ep e rest=>?_;rw[f]at e;cases e;exact uH _ m ep k rest
 refine⟨l,λh' t d n=>?_⟩;have p:J s.heap.objs.size=none:=r.noH f c;have u:∀o,s1.heap.get? s.heap.objs.size=some o->¬pV o:=pZ l;have live:∃o,h'.get? s.heap.objs.size=some o:=by refine ir d λo g g e g=>?_;try clear d;exact⟨o,e⟩
 have v:TS s1.heap h':=λb o e i=>n.extBut b o (λq=>u o (q▸e) i) e;have r1:=(r0.trans r).others S (its:=[s.heap.objs.size]) (h':=h') (t:=t) (λb w=>by rw[cO w];exact bN) (λb w=>by rw[cO w];exact p) (λb w=>by rw[cO w];exact u) (λb o x e=>n.extBut b o (by simpa using x) e);refine am (mk h' v d) λao y z=>?_;exact aL _ _ (y.b _ p) (.ref) (r1.tracked S bN p z)
theorem I7(a:dX W N){k:Int}{v:Internal.E}(hv:aN N T Y hd n W v):aN N T Y hd n W (.dct1 k v):=λU x A G ρ H s Q X E f c hw=>by
 refine Ei f λm g h y p i f=>?_;rw[i]
 ·obtain⟨j,l⟩:=aO f;rw[<-ci j];refine wpAny_Dict_walk (knd:=intKind W.prog W.w) rfl rfl (by simp) (by simp) ?_;refine l9 ?_;intro t;refine aD ?_;intro t;refine pairTrees_cons_walk (wpAny_Constant_int ?_);have r0:Reach W A G H s ρ H {s with heap:=s.heap.push {cls:=.type "dict",data:=.dict #[]},toks:=s.toks+1}:=Reach.keeps c.S λb o e=>cn _ e;refine PE.step (hv _ _ _ _ _ _ _ _ _ _ l (c.next r0) hw) λu y J s1 q w r=>pairTrees_nil_walk ?_;have z:Reach W A G H {s with heap:=s.heap.push {cls:=.type "dict",data:=.dict #[]}} ρ J s1:=⟨r.st,r.pr⟩;obtain⟨B,C⟩:=AM (knd:=intKind W.prog W.w) (Q:=Q) (kvs:=[(k,y)]) c.S z aJ λh' D d=>by obtain⟨ep,F⟩:=d.dictAt;exact an _ (q ep) ⟨_,F,(bz rfl (w.ts D) aJ),c.S.noMod a⟩
  refine cW [(k,y)] (bz (intKind_is _ _ _ _) rfl aJ) B (λh' d I=>?_);exact C h' _ (by simpa[merged,stored]using d) I
theorem Iw(a:dX W N){k l:List Nat}{v u:Internal.E}(hv:aN N T Y hd n W v)(f:aN N T Y hd n W u):aN N T Y hd n W (.dct2 k l v u):=λU x A G ρ H s Q X E g c hw=>by
 refine DX g λm ag al h ao ap y z p i g=>?_;rw[i]
 ·refine dA (fX g) ?_;rintro⟨⟨j,t⟩,B⟩h4;replace j:=ci j;replace t:=ci t;refine dA hw ?_;try clear hw;rintro C hw
  refine wpAny_Dict_walk (knd:=PySem.strKind W.prog W.w) rfl rfl (by simp) (by simp) ?_;refine aD ?_;intro D;refine pairTrees_cons_walk (xb ?_);refine l9 ?_;intro D;have r0:Reach W A G H s ρ H {s with heap:=s.heap.push {cls:=.type "dict",data:=.dict #[]},toks:=s.toks+1}:=Reach.keeps c.S λb o e=>cn _ e;refine PE.step (hv _ _ _ _ _ _ _ _ _ _ B (c.next r0) hw) λar y' J s1 q w r=>?_;refine aD ?_;intro D;refine pairTrees_cons_walk (xb ?_);have r1:Reach W A G J s1 ρ J {s1 with toks:=s1.toks+1}:=Reach.toks r.st;refine PE.step (f _ _ _ _ _ _ _ _ _ _ h4 (c.next (r0.trans (r.trans r1))) q) λav F I s2 K w2 L=>pairTrees_nil_walk ?_;have M:=r.trans (r1.trans L);have O:Reach W A G H {s with heap:=s.heap.push {cls:=.type "dict",data:=.dict #[]}} ρ I s2:=⟨M.st,M.pr⟩;have P:=w.ts ((r1.trans L).ts r.st);obtain⟨R,S⟩:=AM (knd:=PySem.strKind W.prog W.w) (Q:=Q) (kvs:=[(m,y'),(h,F)]) c.S O aJ λh' V d=>(an _ K ⟨_,d,(jN (kl j) (P.ts V) (kl t) (w2.ts V) aJ),c.S.noMod a⟩);refine cW [(m,y'),(h,F)] (jN (strKind_is _ _ _ _) rfl (strKind_is _ _ _ _) rfl aJ) R (λh' d Z=>?_);have ab:¬m=h:=λe=>C (by rw[<-j,<-t,e]);exact S h' _ (by simpa[merged,stored,ab]using d) Z
theorem ki{M:Model}{env:Env}{o:Expr}{name:Str}{a pos:Pos}{args:List Expr}{Q:Value->Shared->Prop}(b:md o=true)(c:(backTo pos (starEach args env)).any (·.1)=false)(d:args.length<20)(g:(a.endLine==pos.line)=true)(h:wpAny M A (eval o env) (λi j=>∀pl,wpAny M A (getMethod i name pl) (λk l=>wpAny M A (callWith pos k.1 k.2 (backTo pos (starEach args env)) []) Q E l) E j) E s):wpAny M A (eval (.Call (.Attribute o name a) args [] pos) env) Q E s:=by
 rw[arm_eval_Call,rM b];refine aQ (bE h (λi j m=>aQ (kG ?_)) λn n e=>e);have p:methodCallForm (args.length+([]:List Keyword).length) (backTo pos (starEach args env)) (backToKw pos (keywordEach [] env))=true:=by
  unfold methodCallForm;have:(backTo pos (starEach args env)).all (λx=>!x.1)=true:=by rw[uW];intro x hx;rw[List.any_eq_false]at c;simpa using c x hx
  rw[this];refine(?_:(true&&true&&decide (args.length+0+0<30))=true);simp;lia
 have q:methodCallPos true o env a pos=pure pos:=by unfold methodCallPos;simp[g]
 unfold methodCall;rw[p];refine aQ (eC ?_);refine(?_:wpAny M A (getMethod i name _) _ E j);refine bE (m _) (λk l r=>?_) λn n z=>z;obtain⟨f,first⟩:=k;exact aQ (jf q r)
noncomputable def Ey(A:Around)(n:Nat):Prop:=A.depth+10*n+15<recursionLimit/\A.units+100*n+290<cLine/\A.guards=some []
theorem Rm.two(h:Rm A n):Ey A n:=by unfold Rm at h;unfold Ey;exact bz (by lia) (by lia) h.2.2
noncomputable def RQ(P:Value->Shared->Prop)(E:Value->Shared->Prop):Result->Shared->Prop:=λr s'=>match r with|.ok (.ret v)=>P v s'|.ok _=>False|.error e=>E e s'
noncomputable def dr(W:Wd)(Y:kC)(n:Nat):Prop:=∀(hd:Bool)(f:Nat)(A:Around)(G:Fc)(ρ:aR)(H:Hp)(s:Shared)(Q:QV)(X:QX)(E:Value->Shared->Prop)(avs:List V)(a:List Value),St W A G ρ H s->Ey A n->(hd=false->A.handled=none)->DJ W A G ρ H s X E->bj s.heap avs a->Y hd f avs Q X H->codeAny (model W.prog W.w) A (.call (.ref (W.fn f)) ⟨a,[]⟩) (RQ (PE W A G ρ H s Q) E) s
theorem St.fra{a:Around}(S:St W A G ρ H s)(e:a.frames=A.frames):St W a G ρ H s:=⟨S.rest,S.base,S.objs,S.new,S.kind,S.glob,S.bltn,S.vars,S.cells,S.hasc,S.apart,S.sepL,S.ownSub,S.locOwn,S.stOk,(λl b=>S.frames l (e▸b)),(e▸S.hasF),S.inj⟩
theorem Reach.fra{a:Around}{O:aR}(r:Reach W A G H s O J s1)(e:a.frames=A.frames):Reach W a G H s O J s1:=⟨r.st.fra e,by have:=r.pr;unfold aX at*;rw[e];exact this⟩
structure eT(W:Wd)(N:Nm)(T:cA):Prop where
 fk:∀f x,N.fn f=some x->keepIn W.K (.ref (W.fn f))=true
 meth:∀c m f x,T.meth c m=some f->N.meth m=some x->findIn W.K (.ref (W.cls c)) x=some (some (.ref (W.fn f)))/\isFn W.K (.ref (W.fn f))=true/\keepIn W.K (.ref (W.fn f))=true
 apart:∀m x i,N.meth m=some x->N.attr i≠x
 ck:∀c x,N.cls c=some x->keepIn W.K (.ref (W.cls c))=true
 mks:∀c,makesIn W.K (W.cls c)=true
 init:∀c f,T.init c=some f->findIn W.K (.ref (W.cls c)) "__init__"=some (some (.ref (W.fn f)))/\typeIn W.K (.ref (W.fn f))=some (.type "function")
theorem lJ{h:Heap}{x:Str}(ne:∀i,W.attr i≠x):∀{fs:List (Nat×V)}{a:List DictEntry},dw W h fs a->getL x a=some none
 |[],[],_=>rfl|(i,b)::r,d::a,⟨⟨t,c⟩,hv,hr⟩=>by
  have e:=lJ ne hr;unfold getL at*;have hs:d.key.isStr x=false:=by rw[c];exact eD (ne i)
  have f:d.refKey=false:=by unfold DictEntry.refKey;rw[c]
  simp only[List.find?_cons,hs,List.any_cons,f,Bool.false_or];exact e|[],_::_,h=>h.elim|_::_,[],h=>h.elim
theorem args_call{a:EL}(b:zq N T Y hd n W a){d:List Expr}{pos:Pos}{f:Value}{first:List Value}{Ql:List V->Hp->Prop}{P:Value->Shared->Prop}(g:dX W N)(h:keepIn W.K f=true)(i:dg N a U d=true)(c:Ctx hd n W U A G ρ H s X E)(hw:Bj T Y hd a ρ Ql X H)(k:∀avs j J s1,Ql avs J->bj s1.heap avs j->Reach W A G H s ρ J s1->wpAny (model W.prog W.w) A (call f (first++j)) P E s1):wpAny (model W.prog W.w) A (callWith pos f first (backTo pos (starEach d G.env)) []) P E s:=by
 cases d with
 |nil=>
  cases a with
  |cons=>exact(bI i).elim|nil=>exact callWith_K0 (c.S.K g.a) h (k [] [] H s hw .nil (Reach.refl c.S))
 |cons y d=>
  have l:=i;cases a with|nil=>exact(bI i).elim|cons e r=>
   replace l:=aO l;refine callWith_K (c.S.K g.a) h (bE (b _ _ _ _ _ _ _ _ _ _ pos i c hw) (λvs s1 z=>?_) λm m z=>z) (ax (bS l.1)) (hV l.2);refine aW z λavs J q w r=>?_;try clear z
   exact⟨r.st.K g.a,k avs vs J s1 q w r⟩
theorem IS(b:dX W N)(C:eT W N T)(d:dr W Y n){f:Nat}{args:EL}(e:zq N T Y hd n W args):aN N T Y hd n W (.call f args):=λU x A G ρ H s Q X E g c hw=>by refine gX g λnm p h pos i g=>?_;rw[i];·refine dA (gK g) ?_;rintro⟨j,k⟩l;replace j:=ci j;refine rE (iR b c k (λm a o o=>a f nm j) ?_);refine args_call e b (C.fk f nm j) l c hw λavs t J s1 q w r=>?_;exact PE.ret r (qY (d hd f A G ρ J s1 Q X E avs t r.st c.R.two c.hh (c.ex.next r) w q))
theorem Hr(b:dX W N)(C:eT W N T)(d:dr W Y n){o:Internal.E}{m:Nat}{args:EL}(ho:aN N T Y hd n W o)(e:zq N T Y hd n W args):aN N T Y hd n W (.meth o m args):=λU x A G ρ H s Q X E g c hw=>by
 refine wZ g λy nm h ab p j g=>?_;rw[j]
 ·refine dA (tl g) ?_;rintro⟨⟨⟨⟨k,l⟩,t⟩,h4⟩,u⟩z;replace k:=ci k;replace z:=bY z;refine ki u (hV t) z h4 (PE.step (ho _ _ _ _ _ _ _ _ _ _ l c hw) λag v J s1 q w r pl=>?_);refine aD ?_;intro al;(refine am (tN.b q) ?_;try clear q;rintro cl ⟨a,dx,fs,rfl,B,D⟩q;refine am (Bf q) ?_;clear q;rintro f F q)
  ·····refine VR.eRef w ?_;refine lz (C.meth _ _ _ _ F k) λk1 k2 k3=>?_;refine dE (r.st.objs _ _ B) λsl K=>?_;refine aW (r.st.objs _ _ D) λL M O P hz=>?_;have I:InstAt s1.heap a ⟨.ref (W.cls _),some dx,.plain,sl⟩ (W.cls _) (some (PySem.W.dictOf L M)):=⟨K,rfl,rfl,O⟩;refine method_fn (r.st.K b.a) I (plainGet_of (name:="") (b.a.pg _)).1 (plainGet_of (name:="") (b.a.pg _)).2 k1 (ci k2) ?_ ?_
       ·refine(?_:(lookIn nm (PySem.W.dictOf L M)).map _=_);rw[lookIn_dict,lJ (λi=>by rw[b.attr];exact C.apart m nm i k) P];rfl
       ·refine args_call e b k3 t (c.next r) q λavs R S s2 V w2 Z=>?_;exact PE.ret (r.trans Z) (qY (d hd f A G ρ S s2 Q X E (.ref a::avs) (.ref a::R) Z.st c.R.two c.hh (c.ex.next (r.trans Z)) (.cons .ref w2) V))
theorem j5{C:Addr}{a:List Value}{b:List (Str×Value)}:(A.under (.builtin "type.__call__" ⟨.ref C::a,b⟩)).depth=A.depth+1:=rfl
theorem o5{C:Addr}{a:List Value}{b:List (Str×Value)}:(A.under (.builtin "type.__call__" ⟨.ref C::a,b⟩)).units=A.units+1:=rfl
theorem mq{C:Addr}{a:List Value}{b:List (Str×Value)}:(A.under (.builtin "type.__call__" ⟨.ref C::a,b⟩)).guards=A.guards:=by
 have:(Code.builtin "type.__call__" ⟨.ref C::a,b⟩).guards=[]:=by unfold Code.guards;rw[show(Code.builtin "type.__call__" ⟨.ref C::a,b⟩).isGuard=false from by refine(?_:guardIds.contains "type.__call__"=false);decide+kernel];rfl
 unfold Around.under;rw[this];rfl
theorem lr{C:Addr}{a:List Value}{b:List (Str×Value)}:(A.under (.builtin "type.__call__" ⟨.ref C::a,b⟩)).handled=A.handled:=rfl
theorem MG(d:dX W N)(C:eT W N T)(g:dr W Y n){cl:Nat}{args:EL}(h:zq N T Y hd n W args):aN N T Y hd n W (.new cl args):=λU x A G ρ H s Q X E i c hw=>by
 refine gX i λnm p a8 pos ab i=>?_;rw[ab]
 ·refine dA (gK i) ?_;rintro⟨j,ag⟩al;replace j:=ci j;refine rE (iR d c ag (λa' ap b ap=>b cl nm j) ?_);refine args_call h d (C.ck cl nm j) al c hw λavs l J s1 q w r=>?_;refine am (Bf q) ?_;try clear q;rintro f ar q
  ·refine dA (C.init cl f ar) λk1 k2=>?_;have S:=r.st;refine aT (S.fr) λm F av R=>?_;refine qY (make_K F av (S.K d.a) (C.mks cl) k1 k2 λa dx h' a0 t l1 l2=>?_);have u:∀b,(∃o,s1.heap.get? b=some o)->b≠G.env.locals->b<dx:=λb ⟨o,e⟩ne=>l1 _ (hA e ne);have y:∀{b o},(b,o)∈((a,instObj (W.cls cl) dx)::(dx,emptyDict)::tL s1.heap G.env.locals)->b≠G.env.locals:=λa1=>(t _ a1).2.1;have B:s1.heap.get? dx=none:=by
    cases e:s1.heap.get? dx with
    |none=>rfl|some o=>exact absurd (u dx ⟨o,e⟩ (y (dn _ (cS ..)))) (gW _)
   have D:s1.heap.get? a=none:=by
    cases e:s1.heap.get? a with
    |none=>rfl|some o=>exact absurd (jk (u a ⟨o,e⟩ (y (cS ..))) l2) (gW _)
   have I:=R h' s1.toks a0 λp a2=>t p (dn _ (dn _ a2));have K:=S.freshH D;have L:=S.freshH B;have ne:a≠dx:=λe=>gW _ (e▸l2);have a3:=I.tracked S (a:=a) (ao:=.inst cl dx) D K ⟨#[],(t _ (cS ..)).1⟩;have M:=a3.tracked S (a:=dx) (ao:=.attrs []) B (by rw[ch (eE ne)];exact L) (aL [] 0 ((t _ (dn _ (cS ..))).1) aJ (cR _));rw[lF];generalize O:A.under (.builtin "type.__call__" ⟨.ref (W.cls cl)::l,[]⟩)=P;have e1:P.frames=A.frames:=by rw[<-O];rfl
   have e2:A.frames=P.frames:=e1.symm;have k:=g hd f P G ρ _ _ _ X E (.ref a::avs) (.ref a::l) (M.st.fra e1) (by have:=c.R;unfold Rm at this;unfold Ey;rw[<-O,j5,o5,mq];exact bz (by lia) (by lia) this.2.2) (by rw[<-O,lr];exact c.hh) (λa4 Z e s' hx hr=>c.ex.next (r.trans M) a4 Z e s' hx ⟨hr.1.fra e2,hr.2⟩) (.cons .ref (w.ts (I.ts S))) (q.b a dx K L ne);refine codeAny_mono k λa5 s' z=>?_;unfold RQ at z;rcases a5 with e|(v|_|_|_)<;>first|exact z|exact z.elim|skip
   refine aW z λba Z V a6 a7=>?_;try clear z
   refine a6.mNone V λV=>?_;exact FY rfl _ _ V (.ref) (r.trans (M.trans (a7.fra e2)))
theorem vB{α:Type}[BEq α][LawfulBEq α][DecidableEq α]{h:Heap}{k:α}{v:V}{x:Value}(r:VR h v x):∀{a:List (α×V)}{kvs:List (α×Value)},wJ h a kvs->(kvs.map (·.1)).Nodup->wJ h (oj k v a) (stored kvs k x)
 |[],[],_,_=>⟨rfl,r,aJ⟩|(k1,b)::a,(k2,c)::kvs,z,nd=>by
  have e:=z.1;have nd:=List.nodup_cons.mp nd;have d:=vB (k:=k) r z.2.2 nd.2;rw[pj];by_cases q:k1=k
  ·have f:kvs.map (λi=>if i.1=k then(i.1,x)else i)=kvs:=(f9 (g:=id) λp j=>aA λy=>nd.1 (cY (an p j ((y.trans q.symm).trans e)))).trans (List.map_id kvs);have e2:stored ((k2,c)::kvs) k x=(k2,x)::kvs:=by unfold stored;rw[aE (by rw[List.any_cons];rw[bC (e.symm.trans q)];rfl),gT,aE (e.symm.trans q),f]
   rw[e2,aE (kX q)];exact bz e r z.2.2
  ·have e2:stored ((k2,c)::kvs) k x=(k2,c)::stored kvs k x:=by
    have l:¬k2=k:=λy=>q (e.trans y);unfold stored;rw[List.any_cons,b5 l,Bool.false_or];by_cases z:(kvs.any λi=>decide (i.1=k))=true;·rw[aE z,aE z,gT,aA l]
    ·rw[aA z,aA z];rfl
   rw[e2,aA λy=>q (ci y)];exact bz e z.2.1 d|[],_::_,z,_=>z.elim|_::_,[],z,_=>z.elim
theorem wJ.ts{α:Type}{h h':Heap}(k:TS h h'):∀{a:List (α×V)}{kvs:List (α×Value)},wJ h a kvs->wJ h' a kvs|[],[],_=>aJ|_::_,_::_,z=>bz z.1 (z.2.1.ts k) (wJ.ts k z.2.2)|[],_::_,z=>z.elim|_::_,[],z=>z.elim
theorem wJ.length{α:Type}{h:Heap}:∀{a:List (α×V)}{kvs:List (α×Value)},wJ h a kvs->a.length=kvs.length|[],[],_=>rfl|_::_,_::_,z=>ak (·+1) (wJ.length z.2.2)|[],_::_,z=>z.elim|_::_,[],z=>z.elim
theorem Fu{k:List Nat}{v:V}:∀{a:List (List Nat×V)},(oj k v a).map (λp=>(gC p.1,p.2))=oj (gC k) v (a.map λp=>(gC p.1,p.2)):=by
 intro r;induction r with
 |nil=>exact rfl|cons b r c=>
  obtain⟨k1,d⟩:=b;rw[pj];refine Eq.trans ?_ pj.symm;by_cases q:k1=k;·subst q;simp
  ·have e:(k1==k)=false:=eD q;have f:(gC k1==gC k)=false:=eD (λz=>q (wL.mp z));simp only[List.map_cons,e,f,Bool.false_eq_true,if_false,c]
theorem mF{K:Type}[DecidableEq K]{prog:Program}{w:World}{knd:KeyKind prog w K}{h:Heap}{a:Addr}{kvs:List (K×Value)}(d:h.DictOf knd a kvs):(kvs.map (·.1)).Nodup:=by refine oL d λb b b b b b b b z=>?_;try clear d;exact z
theorem xi{prog:Program}{w:World}{h:Heap}{a:Addr}{b:Nat}(d:h.DictAt (intKind prog w) a [] b):h.DictOf (PySem.strKind prog w) a []:=by
 refine oL (d.dictOf) λo c ep e x hd f g i=>?_;have:c.toList=[]:=by
  cases q:c.toList with
  |nil=>rfl|cons y r=>rw[q]at g;cases g
 refine C9 o c ep e x hd (λj k=>?_) (by rw[this];exact .nil) List.nodup_nil;have:j∈c.toList:=by simpa using k
 rw[‹c.toList=[]›]at this;cases this
theorem sx{Q:Hp->Prop}(S:St W A G ρ H s){o i v:V}{x y z:Value}(hw:a_ o i v Q H)(ho:VR s.heap o x)(hi:VR s.heap i y)(hv:VR s.heap v z):wpAny (model W.prog W.w) A (setItem x y z) (PU W A G ρ H s Q) E s:=by
 replace hw:=hw.b;have b:=dj;cases o with
 |ref a=>
  refine VR.eRef ho ?_;cases i with
  |int k=>
   refine VR.eInt hi λt=>?_;rcases hw with⟨xs,p,c,d,f,hw⟩|⟨g,ep,p,h,hw⟩
   ·refine aZ (S.objs _ _ p) λj nn e w=>?_;refine ki_setAt e c (tc f d) (by rw[oF,<-w.length];lia) ?_;exact an _ hw (S.turn p (by intro l;simp) (uI s.heap a _) (aY (j.set k.toNat z) nn (by rw[PySem.IsL.update e (·.setIfInBounds k.toNat z)];simp) ((w.ts (TS.of_but S p (uI s.heap a _))).set k.toNat (hv.ts (TS.of_but S p (uI s.heap a _))))) (by intro l;simp))
   ·refine aT (S.objs _ _ p) λkvs dd m nn=>?_;have dd:=dd.dictOf;refine wpAny_setItem_pairs (intKind_is W.prog W.w k t) dd (λh' n q=>?_) (by rw[<-m.length];exact aa h b);have r:=TS.of_but S p q;refine dE (n.dictAt) λu n=>?_;exact an _ (hw u) (S.turn p (by intro l;simp) q (cW _ n (vB (hv.ts r) (m.ts r) (mF dd)) nn) (by intro l;simp))|str k=>
   refine VR.eStr hi λB t C=>?_;rcases hw with⟨g,p,h,hw⟩|⟨ep,p,hw⟩
   ·refine aT (S.objs _ _ p) λkvs dd m nn=>?_;refine wpAny_setItem_pairs (strKind_is W.prog W.w B t) dd (λh' n q=>?_) (by rw[<-m.length,aP];exact aa h b);have r:=TS.of_but S p q;refine an _ hw (S.turn p (by intro l;simp) q (cW _ n ?_ nn) (by intro l;simp));rw[Fu,kl C];exact vB (hv.ts r) (m.ts r) (mF dd)
   ·refine aT (S.objs _ _ p) λkvs dd m nn=>?_;cases kvs with|cons=>exact m.elim|nil=>refine wpAny_setItem_pairs (strKind_is W.prog W.w B t) (xi dd) (λh' n q=>?_) (cR _);have r:=TS.of_but S p q;exact an _ hw (S.turn p (by intro l;simp) q (cW _ n (bz (kl C) (hv.ts r) aJ) nn) (by intro l;simp))
  |_=>exact hw.elim
 |_=>exact hw.elim
theorem vo{op:ue}{a b:Int}{t u:Tok}{Q:QV}(S:St W A G ρ H s)(ho:BC op=true)(hw:mQ op (.int a) (.int b) Q H):wpAny (model W.prog W.w) A (inplaceOp (zC op) (.int a t) (.int b u)) (PE W A G ρ H s Q) E s:=by
 replace hw:=hw.b;cases op<;>first|exact ff ho|skip
 ·exact PyProof.Rows.iadd_int (PE.tok S hw .int)
 ·exact PyProof.Rows.isub_int (PE.tok S hw .int)
 ·refine dA hw ?_;try clear hw;rintro c hw
  refine PyProof.Rows.irshift_int c ?_;rw[Ed _ (nB (Int.pow_pos (by decide)))];exact PE.tok S hw .int
 ·refine lz hw ?_;try clear hw;rintro c d hw
  refine PyProof.Rows.ior_int ?_;rw[oC c d];exact PE.tok S hw .int
end Mine.Internal
namespace Mine.Internal
open PySem PySem.W PyProof.Rows PySem.Calls
noncomputable def A0(W:Wd)(A:Around)(G:Fc)(H:Hp)(s:Shared)(ex:QE)(E:Value->Shared->Prop):Prop:=∀O c Z e s',ex O c Z->Reach W A G H s O Z s'->DM W s.heap s'.heap c e->E (.ref e) s'
noncomputable def PF(W:Wd)(A:Around)(G:Fc)(H:Hp)(s:Shared)(nx ct:QR)(rt:QV):Flow->Shared->Prop:=λf s'=>match f with|.next=>∃O Z,nx O Z/\Reach W A G H s O Z s'|.cont=>∃O Z,ct O Z/\Reach W A G H s O Z s'|.brk=>False|.ret v=>∃a O Z,rt a Z/\VR s'.heap a v/\Reach W A G H s O Z s'
structure nQ(hd:Bool)(n:Nat)(W:Wd)(U:Cx)(A:Around)(G:Fc)(ρ:aR)(H:Hp)(s:Shared)(ex:QE)(E:Value->Shared->Prop):Prop where
 g:Gx G U
 S:St W A G ρ H s
 R:Rm A n
 hh:hd=false->A.handled=none
 top:∃a L,A.frames=some (G.env::a)/\G.env.frame=some L
 ex:A0 W A G H s ex E
variable{W:Wd}{A:Around}{G:Fc}{ρ ρ1:aR}{H J:Hp}{s s1:Shared}{Q:QV}{X:QX}{E:Value->Shared->Prop}
variable{N:Nm}{T:cA}{Y:kC}{hd:Bool}{n:Nat}{U:Cx}{nx ct:QR}{rt:QV}{ex:QE}
theorem A0.next(h:A0 W A G H s ex E){O:aR}(r:Reach W A G H s O J s1):A0 W A G J s1 ex E:=λa c Z e s' hx hr ho=>h a c Z e s' hx (r.trans hr) (ho.older λb o q=>by refine dE (r.pr.live b o q) λd f=>?_;rw[f];simp)
theorem A0.expr(h:A0 W A G H s ex E){O:aR}:DJ W A G O H s (ex O) E:=λc Z e s' hx hr=>h O c Z e s' hx hr.1 hr.2
theorem nQ.next(c:nQ hd n W U A G ρ H s ex E)(r:Reach W A G H s ρ1 J s1):nQ hd n W U A G ρ1 J s1 ex E:=⟨c.g,r.st,c.R,c.hh,c.top,c.ex.next r⟩
theorem nQ.expr(c:nQ hd n W U A G ρ H s ex E):Ctx hd n W U A G ρ H s (ex ρ) E:=⟨c.g,c.S,c.R,c.hh,c.ex.expr⟩
theorem PF.from{f:Flow}{s2:Shared}(r:Reach W A G H s ρ1 J s1)(h:PF W A G J s1 nx ct rt f s2):PF W A G H s nx ct rt f s2:=by cases f with|next=>refine aZ h λa b c d=>?_;try clear h;exact aY a b c (r.trans d)|cont=>refine aZ h λa b c d=>?_;try clear h;exact aY a b c (r.trans d)|brk=>exact h|ret v=>refine bw h λg a b c d e=>?_;try clear h;exact dU g a b c d (r.trans e)
theorem PF.back{t:Sem Flow}{s2:Shared}(r:Reach W A G H s ρ1 J s1)(h:wpAny (model W.prog W.w) A t (PF W A G J s1 nx ct rt) E s2):wpAny (model W.prog W.w) A t (PF W A G H s nx ct rt) E s2:=bE h (λa a z=>z.from r) λa a z=>z
noncomputable def nN(N:Nm)(T:cA)(Y:kC)(hd:Bool)(n:Nat)(W:Wd)(st:Internal.S):Prop:=∀U x A G ρ H s nx ct rt ex E,CJ N st U x=true->nQ hd n W U A G ρ H s ex E->WS T Y hd st nx ct rt ex ρ H->wpAny (model W.prog W.w) A (exec x G.env) (PF W A G H s nx ct rt) E s
noncomputable def nr(N:Nm)(T:cA)(Y:kC)(hd:Bool)(n:Nat)(W:Wd)(st:SL):Prop:=∀U xs A G ρ H s nx ct rt ex E,f8 N st U xs=true->nQ hd n W U A G ρ H s ex E->l5 T Y hd st nx ct rt ex ρ H->wpAny (model W.prog W.w) A (execs xs G.env) (PF W A G H s nx ct rt) E s
theorem MQ:nr N T Y hd n W .nil:=λU xs A G ρ H s nx ct rt ex E a c hw=>by rw[ow a];exact nG (aY ρ H hw (Reach.refl c.S))
theorem Hu{st:Internal.S}{r:SL}(hs:nN N T Y hd n W st)(hr:nr N T Y hd n W r):nr N T Y hd n W (.cons st r):=λU xs A G ρ H s nx ct rt ex E a c hw=>by
 refine aD ?_;intro b;cases xs with
 |nil=>exact(bI a).elim|cons y d=>
  replace a:=aO a;refine wpAny_execs_cons (bE (hs _ _ _ _ _ _ _ _ _ _ _ _ a.1 c hw) (λf s1 z=>?_) λe e z=>z);cases f with
  |next=>
   refine aZ z λO Z q k=>?_;try clear z
   exact PF.back k (hr _ _ _ _ _ _ _ _ _ _ _ _ a.2 (c.next k) q)|cont=>exact z|brk=>exact z|ret v=>exact z
theorem ig{v:Expr}(h:ky v=true)(t:Option Expr)(l:Nat)(env:Env):swapsWith v t l env=pure false:=by cases v<;>first|rfl|exact ff h
theorem dO{v t:Expr}(h:LS t=false)(l:Nat)(env:Env):swapsWith v (some t) l env=pure false:=by cases v<;>first|rfl|(cases t<;>first|rfl|cases h)
theorem K5{o:Option V}{P:Int->Hp->Prop}(h:OA o (λv=>G4 v P) H):∃a,o=some (.int a)/\P a H:=by cases o with|none=>exact h.elim|some v=>cases v with|int a=>exact an a rfl h|_=>exact h.elim
theorem LM{i:Nat}{e:Internal.E}(a:aN N T Y hd n W e)(hx:∀x,ay N e U x=true->ky x=true){x:Stmt}(b:CJ N (.asg i e) U x=true)(c:nQ hd n W U A G ρ H s ex E)(hw:WS T Y hd (.asg i e) nx ct rt ex ρ H):wpAny (model W.prog W.w) A (exec x G.env) (PF W A G H s nx ct rt) E s:=by
 refine aD ?_;intro d;refine mO b λnm f v p g b=>?_;rw[g]
 ·refine dA (gK b) ?_;rintro⟨h,j⟩k;replace h:=ci h;refine wpAny_Assign_Name (PE.step (a _ _ _ _ _ _ _ _ _ _ k c.expr hw) λl v J s1 q w r=>?_) (ig (hx _ k) _ _ _);refine bE (fJ r.st (by rw[c.g.vs];exact h) (by rw[c.g.st];simpa using j) w) (λm s2 z=>?_) λm m z=>z;exact aY _ _ q (r.trans z)
theorem JF(b:dX W N){o e:Internal.E}{f:Nat}(ho:aN N T Y hd n W o)(d:aN N T Y hd n W e):nN N T Y hd n W (.asgA o f e):=λU x A G ρ H s nx ct rt ex E g c hw=>by
 refine aD ?_;intro h;refine wV g λy nm i v p j g=>?_;rw[j]
 ·refine dA (fX g) ?_;rintro⟨⟨k,l⟩,m⟩h4;rw[ci l];replace m:=bY m;rw[exec_Assign,show swapsWithSole [.Attribute y (N.attr f) i] v p.line G.env=swapsWith v (some (.Attribute y (N.attr f) i)) p.line G.env from rfl,dO rfl];refine aQ (kG (aQ (bg ?_)));rw[aA bI];refine aQ (PE.step (d _ _ _ _ _ _ _ _ _ _ h4 c.expr hw) λt x J s1 q w r=>?_);refine aQ (jf (a:=none) (by cases v<;>rfl) ?_);refine(?_:wpAny _ A ((do let u<-holding [x] (eval y G.env);standAt i.atName;holding [x,u] (setAttr u (N.attr f) x);release [x,u] []:Sem Unit)>>=λB=>(pure Flow.next:Sem Flow)) _ E s1);refine aQ ?_;refine aD ?_;intro h;refine aQ (eC (PE.step (ho _ _ _ _ _ _ _ _ _ _ k (c.next r).expr q) λu z C s2 D w2 F=>aQ (kG (aQ (eC ?_)))));rw[<-b.attr];refine bE (lY F.st b.a m D w2 (w.ts (F.ts r.st))) (λB I z=>?_) λB B z=>z;refine am z λK L M=>?_;try clear z
  exact wpAny_release' (bg (aY _ _ L ((r.trans F).trans M)))
theorem HF{o i e:Internal.E}(ho:aN N T Y hd n W o)(hi:aN N T Y hd n W i)(a:aN N T Y hd n W e):nN N T Y hd n W (.asgI o i e):=λU x A G ρ H s nx ct rt ex E b c hw=>by
 refine aD ?_;intro d;refine Ej b λy z f v p g b=>?_;rw[g]
 ·refine dA (fX b) ?_;rintro⟨⟨h,j⟩,k⟩h4;refine wpAny_Assign_Subscript (PE.step (a _ _ _ _ _ _ _ _ _ _ h4 c.expr hw) λl x J s1 q w r=>?_) (dO rfl _ _);refine PE.step (ho _ _ _ _ _ _ _ _ _ _ h (c.next r).expr q) λm z t s2 B w2 C=>?_;refine PE.step (hi _ _ _ _ _ _ _ _ _ _ j (c.next (r.trans C)).expr B) λD u F I K w3 L=>?_;refine bE (sx L.st K (w2.ts (L.ts C.st)) w3 (w.ts ((C.trans L).ts r.st))) (λM O z=>?_) λM M z=>z;refine am z λP Q R=>?_;try clear z
  exact aY _ _ Q (((r.trans C).trans L).trans R)
theorem Jc{i:Nat}{op:ue}{e:Internal.E}(b:aN N T Y hd n W e):nN N T Y hd n W (.augV i op e):=λU x A G ρ H s nx ct rt ex E d c hw=>by
 refine aD ?_;intro f;refine EZ d λnm g o v p h d=>?_;rw[h]
 ·refine dA (tl d) ?_;rintro⟨⟨⟨⟨j,k⟩,l⟩,h4⟩,m⟩t;rw[bY h4];replace j:=ci j;refine am (K5 hw) λa hv hw=>?_
  ·refine wpAny_AugAssign_Name (PE.step (B_ (Q:=λv J=>v=.int a/\J=H) c.S (by rw[c.g.vs];exact j) hv ⟨rfl,rfl⟩ (zy (aO l).2)) λu x J s1 q w r=>?_);refine aD ?_;intro f;refine dA q ?_;try clear q;rintro rfl rfl
   cases w;refine PE.step (b _ _ _ _ _ _ _ _ _ _ t (c.next r).expr hw) λB y C s2 D w2 F=>?_;refine w2.mInt D λI K D=>?_;refine PE.step (vo F.st m D) λL z M O P w3 R=>?_;refine bE (fJ R.st (by rw[c.g.vs];exact j) (by rw[c.g.st];simpa using k) w3) (λS V z=>?_) λS S z=>z;exact aY _ _ P (((r.trans F).trans R).trans z)
theorem Ic(a:dX W N){o e:Internal.E}{f:Nat}{op:ue}(ho:aN N T Y hd n W o)(b:aN N T Y hd n W e):nN N T Y hd n W (.augA o f op e):=λU x A G ρ H s nx ct rt ex E d c hw=>by
 refine aD ?_;intro g;refine E4 d λy nm h o v p i d=>?_;rw[i]
 ·refine dA (tl d) ?_;rintro⟨⟨⟨⟨j,k⟩,l⟩,h4⟩,m⟩t;rw[bY h4,ci k];replace l:=bY l;rw[<-a.attr];refine wpAny_AugAssign_AttributeAny (PE.step (ho _ _ _ _ _ _ _ _ _ _ j c.expr hw) λu z J s1 q w r=>?_);refine aD ?_;intro g;refine PE.step (Bw r.st a.a l q w) λB x C s2 D w2 F=>?_;refine w2.mInt D λI K D=>?_;refine aD ?_;intro g;refine PE.step (b _ _ _ _ _ _ _ _ _ _ t (c.next (r.trans F)).expr D) λL y M ab O w3 P=>?_;refine w3.mInt O λI K O=>?_;refine PE.step (vo P.st m O) λag z al ao Q R S=>?_;refine bE (lY S.st a.a l Q (w.ts (((F.trans P).trans S).ts r.st)) R) (λV ap z=>?_) λV V z=>z;refine am z λar X Z=>?_;try clear z
  exact aY _ _ X ((((r.trans F).trans P).trans S).trans Z)
theorem sI{z:Expr}(h:ms z=true)(a b new:Value):augStore z a b new=(do holding [new,a,b] (setItem a b new);release [new,a,b] [];pure .next):=by cases z<;>first|rfl|exact ff h
theorem Ir{o i e:Internal.E}{op:ue}(ho:aN N T Y hd n W o)(hi:aN N T Y hd n W i)(a:aN N T Y hd n W e):nN N T Y hd n W (.augI o i op e):=λU x A G ρ H s nx ct rt ex E b c hw=>by
 refine aD ?_;intro d;refine E8 b λy z f o v p g b=>?_;rw[g]
 ·refine dA (tl b) ?_;rintro⟨⟨⟨⟨h,j⟩,k⟩,h4⟩,l⟩m;rw[bY h4];refine wpAny_AugAssign_SubscriptAny (PE.step (ho _ _ _ _ _ _ _ _ _ _ h c.expr hw) λt z J s1 q w r=>?_) (sI k);refine PE.step (hi _ _ _ _ _ _ _ _ _ _ j (c.next r).expr q) λab u ag s2 B w2 C=>?_;refine aD ?_;intro d;refine PE.step (qV C.st B (w.ts (C.ts r.st)) w2).1 λal x ao ap D w3 F=>?_;refine w3.mInt D λI K D=>?_;refine aD ?_;intro d;refine PE.step (a _ _ _ _ _ _ _ _ _ _ m (c.next ((r.trans C).trans F)).expr D) λar y av a0 L M O=>?_;refine M.mInt L λI K L=>?_;refine PE.step (vo O.st l L) λa1 z a2 a3 P Q R=>?_;have S:=(F.trans O).trans R;refine bE (sx R.st P (w.ts ((C.trans S).ts r.st)) (w2.ts (S.ts C.st)) Q) (λV a4 z=>?_) λV V z=>z;refine am z λa5 X Z=>?_;try clear z
  exact aY _ _ X (((r.trans C).trans S).trans Z)
theorem e_(S:St W A G ρ H s):interactive G.env=false:=by unfold interactive;rw[S.kind];rfl
theorem N_{e:Internal.E}(a:aN N T Y hd n W e):nN N T Y hd n W (.ex e):=λU x A G ρ H s nx ct rt ex E b c hw=>by refine aD ?_;intro d;refine GG b λv p f b=>?_;rw[f];·replace b:=aO b;refine wpAny_Expr (PE.step (a _ _ _ _ _ _ _ _ _ _ b.1 c.expr hw) λg v J s1 q w r=>?_) (e_ c.S) (ig b.2 _ _ _);refine w.mNone q λq=>?_;exact aY _ _ q r
theorem Kr{e:Internal.E}{a b:SL}(d:lQ N T Y hd n W e)(f:nr N T Y hd n W a)(g:nr N T Y hd n W b):nN N T Y hd n W (.ite e a b):=λU x A G ρ H s nx ct rt ex E h c hw=>by
 refine aD ?_;intro i;refine AQ h λv j k p l h=>?_;rw[l]
 ·refine dA (gK h) ?_;rintro⟨m,o⟩u;refine wpAny_If (PB.step (d _ _ _ _ _ _ _ _ _ _ m c.expr hw) λt J s1 q r=>?_);cases t;·exact PF.back r (g _ _ _ _ _ _ _ _ _ _ _ _ u (c.next r) q)
  ·exact PF.back r (f _ _ _ _ _ _ _ _ _ _ _ _ o (c.next r) q)
theorem Ea{e:Internal.E}(a:aN N T Y hd n W e):nN N T Y hd n W (.ret e):=λU x A G ρ H s nx ct rt ex E b c hw=>by refine IP b λv p d b=>?_;rw[d];·skip;refine wpAny_Return_some (PE.step (a _ _ _ _ _ _ _ _ _ _ b c.expr hw) λf v J s1 q w r=>?_);exact dU _ _ _ q w r
theorem JE:nN N T Y hd n W .retN:=λU x A G ρ H s nx ct rt ex E a c hw=>by refine GV a λp b=>?_;rw[b];·exact wpAny_Return_none (dU _ _ _ hw (.none) (Reach.refl c.S))
theorem Ie:nN N T Y hd n W .cont:=λU x A G ρ H s nx ct rt ex E a c hw=>by refine Fx a λp b=>?_;rw[b];·exact wpAny_Continue (aY _ _ hw (Reach.refl c.S))
theorem LC:nN N T Y hd n W .bad:=λU x A G ρ H s nx ct rt ex E a c hw=>by exact hw.elim
noncomputable def bL(ρ:aR)(is:List Nat)(vs:List V):aR:=(is.zip vs).foldl (λr p=>bM r p.1 p.2) ρ
theorem Dj{ρ:aR}{i j:Nat}{v w:V}(h:i≠j):bM (bM ρ i v) j w=bM (bM ρ j w) i v:=by
 funext k;unfold bM;by_cases a:k=j;·subst a;simp[Ne.symm h]
 ·by_cases b:k=i;·rw[b];simp[h]
  ·simp[a,b]
theorem pn:∀{is:List Nat}{vs:List V}{ρ:aR}{i:Nat}{v:V},i∉is->bL (bM ρ i v) is vs=bM (bL ρ is vs) i v|[],_,_,_,_,_=>by simp[bL]|j::is,[],_,_,_,_=>by rfl|j::is,w::vs,ρ,i,v,h=>by simp only[List.mem_cons,not_or]at h;refine(?_:bL (bM (bM ρ i v) j w) is vs=bM (bL (bM ρ j w) is vs) i v);rw[Dj h.1,pn h.2]
theorem pL:∀{is:List Nat}{vs:List V}{ρ:aR}{i:Nat}{v:V},is.length=vs.length->bL ρ (is++[i]) (vs++[v])=bM (bL ρ is vs) i v|[],[],_,_,_,_=>rfl|j::is,w::vs,ρ,i,v,h=>by refine(?_:bL (bM ρ j w) (is++[i]) (vs++[v])=_);rw[pL (by simpa using h)];rfl|[],_::_,_,_,_,h=>by cases h|_::_,[],_,_,_,h=>by cases h
theorem sP:∀{is:List Nat}{vs:List V}{ρ:aR},is.Nodup->is.length=vs.length->bL ρ is.reverse vs.reverse=bL ρ is vs
 |[],[],_,_,_=>rfl|j::is,w::vs,ρ,nd,h=>by
  simp only[List.nodup_cons]at nd;have a:is.length=vs.length:=by simpa using h
  rw[wR,wR,pL (by simpa using a),sP nd.2 a];refine(?_:_=bL (bM ρ j w) is vs);rw[pn nd.1]|[],_::_,_,_,h=>by exact nomatch h|_::_,[],_,_,h=>by cases h
theorem ln{α β:Type}{l:List β}(h:([]:List α).length=l.length):l=[]:=List.eq_nil_of_length_eq_zero h.symm
theorem lc{α β:Type}{a:α}{l:List α}{m:List β}(h:(a::l).length=m.length):∃b r,m=b::r/\l.length=r.length:=by cases m with|nil=>exact nomatch h|cons b r=>exact⟨b,r,rfl,Nat.succ.inj h⟩
theorem uh:∀{a:List (Value->Sem Unit)}{ns:List Str}{is:List Nat}{vs:List V}{xs:List Value}{ρ:aR}{s:Shared},St W A G ρ H s->(a.length=ns.length/\∀(k:Nat)(op:Value->Sem Unit)(nm:Str),a[k]?=some op->ns[k]?=some nm->∀(v:Value)(s:Shared)(Q:Unit->Shared->Prop)(E:Value->Shared->Prop),wpAny (model W.prog W.w) A (storeName G.env nm v) Q E s->wpAny (model W.prog W.w) A (op v) Q E s)->(ns.length=is.length/\∀(k:Nat)(nm:Str)(i:Nat),ns[k]?=some nm->is[k]?=some i->G.vs.lookup nm=some i/\nm∈G.st)->is.length=vs.length->bj s.heap vs xs->wpAny (model W.prog W.w) A (assignInOrder a xs) (λb s'=>Reach W A G H s (bL ρ is vs) H s') E s:=by intro a;induction a with|nil=>intro ns is vs xs ρ s S ho c d hv;have e:=ln ho.1;subst e;have e:=ln c.1;subst e;have e:=ln d;subst e;exact hv.eNil (bg (Reach.refl S))|cons op a f=>intro ns is vs xs ρ s S ho c d hv;(refine aZ (lc ho.1) ?_;intro nm g e e1);subst e;(refine aZ (lc c.1) ?_;intro i h e e2);subst e;(refine aZ (lc d) ?_;intro v j e e3);subst e;refine hv.eCons λx l r rs=>?_;have m:=c.2 0 nm i rfl rfl;refine(?_:wpAny _ A (do holding _ (op _);assignInOrder a _) _ E s);refine aQ (eC (ho.2 0 op nm rfl rfl _ _ _ _ (bE (fJ S m.1 m.2 r) (λb s1 z=>?_) λb b z=>z)));refine bE (f z.st ⟨e1,λk=>ho.2 (k+1)⟩ ⟨e2,λk=>c.2 (k+1)⟩ e3 (rs.ts (z.pr.ts S))) (λb s2 n=>?_) λb b z=>z;exact⟨n.st,z.pr.trans n.pr⟩
theorem vg{env:Env}:∀{d:List Expr}{ns:List Str},namesOf d=some ns->(assignEach d env).length=ns.length/\(assignEach d env).findIdx? (·.1)=none/\∀(k:Nat)(op:Value->Sem Unit)(nm:Str),((assignEach d env).map (·.2))[k]?=some op->ns[k]?=some nm->∀(v:Value)(s:Shared)(Q:Unit->Shared->Prop)(E:Value->Shared->Prop),wpAny (model W.prog W.w) A (storeName env nm v) Q E s->wpAny (model W.prog W.w) A (op v) Q E s:=by
 intro r;induction r with
 |nil=>intro _ h;cases h;exact bz rfl rfl (λk op nm h=>nomatch h)|cons y r e=>
  intro ns h;refine bw (mU h) ?_;rintro x p q rfl rfl f;obtain⟨a,b,c⟩:=e f;refine bz (ak (·+1) a) ?_ (λk op nm g i=>?_)
  ·refine(?_:(((false,assign (.Name x p) env)::assignEach r env).findIdx? (·.1))=none);rw[List.findIdx?_cons,b];rfl
  ·cases k with|zero=>rw[<-dH g,dH i];exactλv s Q E h=>PyProof.Rows.assign_Name h|succ k=>exact c k op nm g i
theorem ud{is:List Nat}{ns:List Str}{G:Fc}(g:Gx G U)(a:ns.length=is.length)(h:(ns.zip is).all (λp=>U.vs.lookup p.1==some p.2&&U.st.contains p.1)=true):∀(k:Nat)(nm:Str)(i:Nat),ns[k]?=some nm->is[k]?=some i->G.vs.lookup nm=some i/\nm∈G.st:=λk nm i b c=>by have d:(nm,i)∈ns.zip is:=cy (i:=k) (List.getElem?_zip_eq_some (z:=(nm,i))|>.mpr ⟨b,c⟩);have:=dN h _ d;simp only[Bool.and_eq_true,beq_iff_eq]at this;rw[g.vs,g.st];exact⟨this.1,by simpa using this.2⟩
theorem Cs{c:List Expr}{k:Nat}{p:Pos}{ns:List Str}{is:List Nat}{vs:List V}{a:Addr}{xs:List Value}(S:St W A G ρ H s)(g:Gx G U)(hh:A.handled=none)(d:namesOf c=some ns)(e:ns.length=is.length)(f:(ns.zip is).all (λp=>U.vs.lookup p.1==some p.2&&U.st.contains p.1)=true)(it:IsTup s.heap a xs.toArray)(h:bj s.heap vs xs)(i:is.length=vs.length):wpAny (model W.prog W.w) A (assign (.Tuple c k p) G.env (.ref a)) (λj s'=>Reach W A G H s (bL ρ is vs) H s') E s:=by
 refine aD ?_;intro l;refine lz (vg (W:=W) (A:=A) (env:=G.env) d) λm n r=>?_;have u:=h.length;rw[arm_assign_Tuple];refine aQ (kG ?_);unfold unpack;have e1:(assignEach c G.env).length=xs.toArray.size:=by rw[m,e,i,u];rfl
 rw[n,e1];refine aQ (eC (unpackItems_tuple hh it λh' v=>?_));have r0:Reach W A G H s ρ H {s with heap:=h'}:=Reach.keeps (t:=s.toks) S λb o q=>v b o (g_ (jo q)) q;refine bE (uh r0.st ⟨by simpa using m,r⟩ ⟨e,ud g e f⟩ i (by simpa using h.ts (r0.ts S))) (λj s' z=>?_) λj j z=>z;exact⟨z.st,r0.pr.trans z.pr⟩
theorem AK{t:iw}{tg:Expr}{b:V}{x:Value}{K:aR->Prop}(S:St W A G ρ H s)(g:Gx G U)(hh:A.handled=none)(c:lC U t tg=true)(r:VR s.heap b x)(d:dC t b ρ K):wpAny (model W.prog W.w) A (assign tg G.env x) (λf s'=>∃O,K O/\Reach W A G H s O H s') E s:=by
 refine aD ?_;intro h;refine am (qK c) λtn e c=>?_;cases t with
 |v i=>(refine aZ (AU e) ?_;rintro nm p rfl j;rw[j]);have c:=aO (aO c).1;exact PyProof.Rows.assign_Name (bE (fJ S (by rw[g.vs];exact ci c.1) (by rw[g.st];exact List.contains_iff_mem.mp c.2) r) (λf s' z=>an _ d z) λf f z=>z)
 |t is=>
  (refine cr (qL e) ?_;rintro l k p ns m;rw[m];rintro n o rfl);cases b with
  |tup vs=>
   refine dA (Cc.e d) λq u=>?_;try clear d
   (refine aW (r.i) ?_;rintro a xs w;rw[w];rintro it y);exact bE (Cs S g hh n o c it y q) (λf s' z=>an _ u z) λf f z=>z|_=>exact d.elim
theorem v4{f:Expr->Option Str}(a:∀x p y,f (.Name x p)=some y->y=x):∀{b:List Expr}{ns:List Str},namesOf b=some ns->(b.filterMap f).length=b.length->b.filterMap f=ns:=by intro r;induction r with|nil=>intro _ h _;cases h;rfl|cons y r c=>intro ns h d;cases e:f y with|none=>rw[List.filterMap_cons_none e]at d;have:=List.length_filterMap_le f r;simp at d;lia|some z=>rw[List.filterMap_cons_some e]at d;rw[List.filterMap_cons_some e];(refine bw (mU h) ?_;rintro x p q rfl g;rw[g];rintro i);rw[a x p z e,c i (Nat.succ.inj d)]
theorem Pe{α:Type}{a c d e f:Bool}{n b o:α}:(if a=true then n else if c=true then n else if d=true then n else if e=true then n else if f=true then b else o)=n\/d=false/\e=false/\(f=false->(if a=true then n else if c=true then n else if d=true then n else if e=true then n else if f=true then b else o)=o):=by
 cases a
 ·cases c
  ·cases d
   ·cases e;·exact .inr ⟨rfl,rfl,λh=>by rw[h];rfl⟩
    ·exact .inl rfl
   ·exact .inl rfl
  ·exact .inl rfl
 ·exact .inl rfl
theorem tP{a:List Expr}{k:Nat}{tp:Pos}{v:Expr}{env:Env}{ns:List Str}(hs:zu v=true)(b:namesOf a=some ns):swappedStores [.Tuple a k tp] v env=pure none\/swappedStores [.Tuple a k tp] v env=pure (some ns):=by
 cases v with
 |Tuple vs k2 c=>
  replace hs:(vs.all (foldedForSure 8)||!(vs.all (constantsAlone 8)))=true:=hs;refine Or.imp_right (λh=>?_) (Pe (α:=Sem (Option (List Str))) (n:=pure none));refine(h.2.2 ?_).trans ?_
  ·have:=h.2.1;rw[this]at hs;exact(AV _).mp hs
  ·refine ak (λx=>pure (some x)) (v4 (λx p y h=>?_) b ?_)
   ·replace h:(if _=true then some x else none)=some y:=h;exact(Option.ite_some_none_eq_some.mp h).2.symm
   ·exact bne_eq_false_iff_eq.mp (Bool.or_eq_false_iff.mp h.1).1|_=>exact .inl rfl
theorem ej{α:Type}[BEq α][LawfulBEq α]:∀{l:List α},gB l=true->l.Nodup:=by intro r;induction r with|nil=>intro _;exact List.nodup_nil|cons a r b=>intro h;exact List.nodup_cons.mpr ⟨λm=>by have:=(aO h).1;rw[List.contains_iff_mem.mpr m]at this;exact bI this,b (aO h).2⟩
theorem BU{is:List Nat}{c:List Expr}{k:Nat}{tp:Pos}{v:Expr}{d:V}{x:Value}{K:aR->Prop}(S:St W A G ρ H s)(g:Gx G U)(hh:A.handled=none)(j:lC U (.t is) (.Tuple c k tp)=true)(l:gB is=true)(p:zu v=true)(w:VR s.heap d x)(q:dC (.t is) d ρ K):wpAny (model W.prog W.w) A (swappedStores [.Tuple c k tp] v G.env>>=λst=>assignStores G.env x st ((assignEach [.Tuple c k tp] G.env).map (·.2))) (λf s'=>f=.next/\∃O,K O/\Reach W A G H s O H s') E s:=by
 refine aD ?_;intro r;refine am (qK j) λtn e u=>?_;refine cr (qL e) ?_;rintro y k' B ns C D F rfl;(refine lz (Expr.Tuple.inj C) ?_;rintro rfl I;rw[<-I];rintro J;rw[<-J]);rcases tP (k:=k) (tp:=tp) (env:=G.env) p D with e1|e1
 ·refine aQ (jf e1 ?_);refine aQ (m:=assignAll x [assign (.Tuple c k tp) G.env]) ?_;skip;exact bE (AK S g hh j w q) (λL s2 z=>bg ⟨rfl,z⟩) λL L z=>z
 ·refine aQ (jf e1 ?_);cases d with
  |tup vs=>
   refine dA (Cc.e q) λM N=>?_;try clear q
   (refine aW (w.i) ?_;rintro a xs P;rw[P];rintro it R);have T:=R.length;refine(?_:wpAny _ A (rule "assign.swapped-stores">>=λL=>unpackItems (.ref a) ns.length none>>=λitems=>assignInOrder (ns.reverse.map λn=>bindName G.env n) items.reverse>>=λL=>(pure Flow.next:Sem Flow)) _ E s);rw[show ns.length=xs.toArray.size by rw[F];rw[M];rw[T];rw[oF]];refine aQ (wpAny_rule (aQ (unpackItems_tuple hh it λh' X=>?_)));refine l9 ?_;intro r;have r0:Reach W A G H s ρ H {s with heap:=h'}:=Reach.keeps (t:=s.toks) S λb o q=>X b o (g_ (jo q)) q;have tn:=ud g F u;refine aQ (bE (uh (is:=is.reverse) (vs:=vs.reverse) (ns:=ns.reverse) r0.st ⟨aP _,λk op nm j l v s Q E h=>?_⟩ ⟨by rw[oJ,oJ,F],λk nm i j l=>?_⟩ (by rw[oJ,oJ,M]) (by rw[Bo];exact(R.ts (r0.ts S)).reverse)) (λL s' z=>?_) λL L z=>z)
   ·rw[f_,l]at j;rw[<-dH j];exact wpAny_bindName h
   ·have r_:k<ns.length:=by rw[<-oJ];exact(jB j).1
    rw[BX r_]at j;rw[BX (F▸r_),<-F]at l;exact tn _ _ _ j l
   ·rw[sP (ej l) M]at z;exact bg (eA rfl _ N ⟨z.st,r0.pr.trans z.pr⟩)|_=>exact q.elim
theorem Je{is:List Nat}{e:Internal.E}(a:aN N T Y hd n W e):nN N T Y hd n W (.asgT is e):=λU x A G ρ H s nx ct rt ex E b c hw=>by
 refine aD ?_;intro d;refine za b λg k tp v p h b=>?_;rw[h];refine dA (aO b) λb i=>?_;refine dA (fX b) ?_;rintro⟨⟨j,l⟩,m⟩h4;refine dA (rW.e hw) ?_;try clear hw;rintro o hw
 rw[exec_Assign,show swapsWithSole [.Tuple g k tp] v p.line G.env=swapsWith v (some (.Tuple g k tp)) p.line G.env from rfl,ig h4];refine aQ (kG (aQ (bg ?_)));rw[aA bI];refine aQ (PE.step (a _ _ _ _ _ _ _ _ _ _ m c.expr hw) λt x J s1 q w r=>?_);refine bE (BU r.st c.g (c.hh o) j l i w q) (λf s2 z=>?_) λu u z=>z;(refine lW (z) ?_;try clear z;rintro y;rw[y];rintro O B z);exact aY _ _ B (r.trans z)
theorem yV{tg:Expr}{I:Addr}{o:Obj}{c:String}{x:Value}{Q':Unit->Shared->Prop}(ho:s.heap.get? I=some o)(b:o.cls=.type c)(d:(["enumerate","zip","dict_itemiterator","dict_reverseitemiterator","odict_iterator","itertools.zip_longest","itertools.pairwise"].contains c)=false)(h:Q' () s):wpAny (model W.prog W.w) A (letOwnedTupleGo tg (.ref I) x) Q' E s:=by
 have e:wpAny (model W.prog W.w) A (do
  let(.ref r,.ref a):=(Value.ref I,x)|return
  let o<-load r match o.cls,o.data with
  |.type n,.fields vs=>
   if["enumerate","zip","dict_itemiterator","dict_reverseitemiterator","odict_iterator","itertools.zip_longest","itertools.pairwise"].contains n&&vs[0]?==some (rawInt a)then
    rule "for.unpacks-the-owned-tuple"
    updateField r 0 .none|_,_=>pure ():Sem Unit) Q' E s:=by
  cases x<;>first|exact bg h|skip
  refine aQ (wpAny_load ho ?_);rw[b];cases hd:o.data<;>(try simp only)<;>first|exact bg h|skip
  rw[d,Bool.false_and];exact bg h
 cases tg<;>first|exact bg h|exact e
structure mr(W:Wd)(A:Around)(tg:Expr)(v:V)(J:Hp)(items:List V)(I:Addr)(its:List Addr)(It:Nat->Heap->Prop):Prop where
 frame:∀i h h',It i h->TS h h'->(∀b∈its,∀o,h.get? b=some o->h'.get? b=some o)->It i h'
 live:∀i h,It i h->∀b∈its,∃o,h.get? b=some o/\¬pV o
 item:∀{G:Fc}{ρ:aR}{H:Hp}{s:Shared}{E:Value->Shared->Prop}(i:Nat),St W A G ρ H s->b_ v J H->It i s.heap->i<items.length->wpAny (model W.prog W.w) A (pyNext (.ref I)) (λr s1=>∃x,r=some x/\wpAny (model W.prog W.w) A (letOwnedTupleGo tg (.ref I) x) (λa s2=>∃h' t c,s2={s with heap:=h',toks:=t}/\items[i]?=some c/\VR h' c x/\It (i+1) h'/\∀b o,b∉its->s.heap.get? b=some o->h'.get? b=some o) E s1) E s
 done:∀{G:Fc}{ρ:aR}{H:Hp}{s:Shared}{E:Value->Shared->Prop},St W A G ρ H s->b_ v J H->It items.length s.heap->wpAny (model W.prog W.w) A (pyNext (.ref I)) (λr s1=>r=none/\∃h' t,s1={s with heap:=h',toks:=t}/\∀b o,b∉its->s.heap.get? b=some o->h'.get? b=some o) E s
 self:∀(i:Nat)(s:Shared)(Q:Value->Shared->Prop)(E:Value->Shared->Prop),It i s.heap->Q (.ref I) s->wpAny (model W.prog W.w) A (pyIter (.ref I)) Q E s
theorem er{h h':Heap}{its:List Addr}(a:∀b∈its,∀o,h.get? b=some o->¬pV o)(k:∀b o,b∉its->h.get? b=some o->h'.get? b=some o):TS h h':=λb o e i=>k b o (λq=>a b q o e i) e
theorem Mm{h:Heap}{I:Addr}{o:Obj}(e:h.get? I=some o)(n:¬pV o):∀b∈[I],∀o,h.get? b=some o->¬pV o:=λb a c d=>by rw[cO a,e]at d;rw[<-dH d];exact n
theorem bZ{o:Obj}{c:String}(h:o.cls=.type c)(a:c≠"tuple")(b:c≠"range"):¬pV o:=by rintro(⟨d,_⟩|⟨d,_⟩)<;>rw[h]at d<;>injection d with d<;>contradiction
theorem mr.one{tg:Expr}{v:V}{J:Hp}{items:List V}{I:Addr}{It:Nat->Heap->Prop}{c:String}(a:(["enumerate","zip","dict_itemiterator","dict_reverseitemiterator","odict_iterator","itertools.zip_longest","itertools.pairwise"].contains c)=false)(d:c≠"tuple")(f:c≠"range")(g:∀i h,It i h->∃o,h.get? I=some o/\o.cls=.type c)(frame:∀i h h',It i h->TS h h'->(∀o,h.get? I=some o->h'.get? I=some o)->It i h')(item:∀{G:Fc}{ρ:aR}{H:Hp}{s:Shared}{E:Value->Shared->Prop}(Q:Option Value->Shared->Prop)(i:Nat),St W A G ρ H s->b_ v J H->It i s.heap->i<items.length->(∀x j h' t,items[i]?=some j->VR s.heap j x->It (i+1) h'->(∀b o,b∉[I]->s.heap.get? b=some o->h'.get? b=some o)->Q (some x) {s with heap:=h',toks:=t})->wpAny (model W.prog W.w) A (pyNext (.ref I)) Q E s)(done:∀{G:Fc}{ρ:aR}{H:Hp}{s:Shared}{E:Value->Shared->Prop}(Q:Option Value->Shared->Prop),St W A G ρ H s->b_ v J H->It items.length s.heap->(∀h' t,(∀b o,b∉[I]->s.heap.get? b=some o->h'.get? b=some o)->Q none {s with heap:=h',toks:=t})->wpAny (model W.prog W.w) A (pyNext (.ref I)) Q E s)(self:∀(i:Nat)(s:Shared)(Q:Value->Shared->Prop)(E:Value->Shared->Prop),It i s.heap->Q (.ref I) s->wpAny (model W.prog W.w) A (pyIter (.ref I)) Q E s):mr W A tg v J items I [I] It where
 self:=self;frame:=λi h h' it l k=>frame i h h' it l (k I (Ch rfl));live:=λi h it b m=>by rw[cO m];refine am (g i h it) λo e n=>?_;exact an o e (bZ n d f)
 item:=λi S hs it hi=>item _ i S hs it hi λx j h' t e r p k=>by refine am (g i _ it) λo q n=>?_;refine am (g _ _ p) λu w y=>?_;refine an x rfl (yV (s:={(_:Shared)with heap:=h',toks:=t}) w y a (jY h' t j rfl e ?_ p k));exact r.ts (er (Mm q (bZ n d f)) k)
 done:=λS hs it=>done _ S hs it λh' t k=>fg rfl h' t rfl k
theorem src_list{tg:Expr}{a I:Addr}{items:List V}{J:Hp}(hh:A.handled=none)(ne:a≠I)(b:J a=some (.list items)):mr W A tg (.ref a) J items I [I] (λi h=>h.IsListIter I a i):=by
 refine mr.one (c:="list_iterator") (by decide) (by decide) (by decide) (λi h it=>by refine aT it λo e c d=>?_;try clear it;exact an o e c) (λi h h' it d k=>it.at λo e=>k o e) ?_ ?_ (λd d d d it q=>wpAny_pyIter_listiter it q)
 ·intro G ρ H s E Q i S hs it hi k;have f:H a=some (.list items):=by rw[<-b];exact hs
  refine aT ((S.objs _ _ f).isList) λxs g j d=>?_;have l:=j.length;obtain⟨m,n⟩:∃m,items[i]?=some m:=⟨items[i],by simp[hi]⟩;refine(Walks.list hh I a ne xs.toArray).item i s Q E (by simp;lia) ⟨it,g⟩ λv h' tk hv st p=>?_;refine am (j.get n) λx hx r=>?_;have:v=x:=by simp at hv;rw[hv]at hx;cases hx;rfl
  rw[this];exact k _ m h' tk n r st.1 p
 ·intro G ρ H s E Q S hs it k;have f:H a=some (.list items):=by rw[<-b];exact hs
  refine aT ((S.objs _ _ f).isList) λxs g j d=>?_;have l:=j.length;refine(Walks.list hh I a ne xs.toArray).done s Q E ⟨?_,g⟩ λh' tk p=>k h' tk p;rw[show xs.toArray.size=items.length by simp[l]];exact it
theorem IL{tg:Expr}{a I:Addr}{items:List V}{J:Hp}(hh:A.handled=none)(ne:a≠I)(b:J a=some (.list items)):mr W A tg (.ref a) J items.reverse I [I] (λi h=>i<=items.length/\h.IsRevIter I a ((items.length:Int)-1-(i:Int))):=by
 refine mr.one (c:="list_reverseiterator") (by decide) (by decide) (by decide) (λi h it=>by refine Ka it λd o e c d=>?_;try clear it;exact an o e c) (λi h h' it d k=>⟨it.1,it.2.at λo e=>k o e⟩) ?_ ?_ (λd d d d it q=>wpAny_pyIter_revIter it.2 q)
 ·intro G ρ H s E Q i S hs it hi k;have f:H a=some (.list items):=by rw[<-b];exact hs
  refine aT ((S.objs _ _ f).isList) λxs g j d=>?_;have l:=j.length;obtain⟨m,n⟩:∃m,items.reverse[i]?=some m:=⟨items.reverse[i],fz hi⟩;simp only[List.length_reverse]at hi;refine(Walks.listRev hh I a ne xs.toArray).item i s Q E (by simp;omega) (bz (by simp;lia) ?_ g) λv h' tk hv st p=>?_;·have:=it.2;simp only[List.size_toArray];rw[<-l];exact this
  have t:=n;rw[BX hi]at n;refine am (j.get n) λx hx r=>?_;have:v=x:=by simp only[List.getElem?_toArray,List.size_toArray]at hv;rw[<-l,hx]at hv;cases hv;rfl
  rw[this];refine k _ m h' tk t r ⟨hi,?_⟩ p;have:=st.2.1;simp only[List.size_toArray]at this;rw[<-l]at this;exact this
 ·intro G ρ H s E Q S hs it k;have f:H a=some (.list items):=by rw[<-b];exact hs
  refine aT ((S.objs _ _ f).isList) λxs g j d=>?_;have l:=j.length;refine(Walks.listRev hh I a ne xs.toArray).done s Q E (bz (bF _) ?_ g) λh' tk p=>k h' tk p;have:=it.2;simp only[List.size_toArray,List.length_reverse]at this⊢;rw[<-l];exact this
theorem Hv{tg:Expr}{a I:Addr}{items:List V}{xs:List Value}{v:V}{J:Hp}(hh:A.handled=none)(ne:a≠I):mr W A tg v J items I [I] (λi h=>(IsTup h a xs.toArray/\bj h items xs)/\h.IsTupleIter I a i):=by
 refine mr.one (c:="tuple_iterator") (by decide) (by decide) (by decide) (λi h it=>by refine Ka it λd o e c d=>?_;try clear it;exact an o e c) (λi h h' it f k=>⟨⟨IsTup.ts it.1.1 f,it.1.2.ts f⟩,it.2.at λo e=>k o e⟩) ?_ ?_ (λd d d d it q=>wpAny_pyIter_tupleiter it.2 q)
 ·intro G ρ H s E Q i S hs it hi k;refine dA it ?_;try clear it;rintro⟨tp,g⟩it
  have j:=g.length;obtain⟨l,m⟩:∃l,items[i]?=some l:=⟨items[i],by simp[hi]⟩;have n:¬∃o,s.heap.get? I=some o/\pV o:=by
   rintro⟨o,e,p⟩;refine aT it λt u w d=>?_;try clear it
   rw[e]at u;cases u;exact bZ w (by decide) (by decide) p
  refine(Walks.tuple hh I a ne xs.toArray).item i s Q E (by simp;lia) ⟨it,tp⟩ λv h' tk hv st y=>?_;have f:TS s.heap h':=er (λb z o e p=>n (an o (by rw[cO z]at e;exact e) p)) y;refine am (g.get m) λx hx r=>?_;have:v=x:=by simp at hv;rw[hv]at hx;cases hx;rfl
  rw[this];exact k _ l h' tk m r ⟨⟨IsTup.ts tp f,g.ts f⟩,st.1⟩ y
 ·intro G ρ H s E Q S hs it k;refine dA it ?_;try clear it;rintro⟨tp,g⟩it
  have j:=g.length;refine(Walks.tuple hh I a ne xs.toArray).done s Q E ⟨?_,tp⟩ λh' tk y=>k h' tk y;rw[show xs.toArray.size=items.length by simp[j]];exact it
theorem AJ{a b c:Int}(d:0<c){i:Nat}(hi:i<(cJ a b c).length):(cJ a b c)[i]?=some (a+i*c):=by unfold cJ at*;simp only[d,if_true]at*;simp only[List.length_map,List.length_range]at hi;simp[hi,Int.mul_comm]
theorem Af{a b c:Int}(d:0<c):(((cJ a b c).length:Nat):Int)=Builtin.Range.rangeSize a b c:=by
 unfold cJ Builtin.Range.rangeSize;simp only[d,if_true,List.length_map,List.length_range,gt_iff_lt];split
 ·rename_i h;have e:b-a+c-1=(b-a-1)+1*c:=by lia
  rw[e,Int.add_mul_ediv_right _ _ (by lia)];have:0<=(b-a-1)/c:=Int.ediv_nonneg (by lia) (by lia);omega
 ·rename_i h;have:(b-a+c-1)/c<=0:=by
   have f:b-a+c-1<1*c:=by lia
   have:=Int.ediv_lt_of_lt_mul d f;omega
  lia
theorem HY{tg:Expr}{I:Addr}{a b c:Int}{v:V}{J:Hp}(hh:A.handled=none)(d:0<c):mr W A tg v J ((cJ a b c).map .int) I [I] (λi h=>IsRangeIter h I (a+(i:Nat)*c) (((cJ a b c).length:Int)-(i:Nat)) c):=by
 refine mr.one (c:="range_iterator") (by decide) (by decide) (by decide) (λi h it=>an _ it rfl) (λi h h' it e k=>k _ it) ?_ ?_ (λf f f f it q=>wpAny_pyIter_rangeiter it q)
 ·intro G ρ H s E Q i S hs it hi k;simp only[List.length_map]at hi;refine(Walks.range hh I a c (cJ a b c).length).item i s Q E hi it λv h' tk hv st g=>?_;(refine dE (hv) ?_;try clear hv;rintro t j;rw[j]);exact k _ (.int (a+i*c)) h' tk (by simp[AJ d hi]) .int st g
 ·intro G ρ H s E Q S hs it k;refine(Walks.range hh I a c (cJ a b c).length).done s Q E (by simpa using it) λh' tk g=>k h' tk g
theorem Cp{tg:Expr}{I:Addr}{bs:Array UInt8}{t:Tok}{v:V}{J:Hp}{l:List Nat}(hh:A.handled=none)(e:bs.toList.map (·.toNat)=l):mr W A tg v J (l.map λ(n:Nat)=>.int n) I [I] (λi h=>KBw.IsBytesIter h I bs t i):=by
 have a:l.length=bs.size:=by rw[<-e];simp
 refine mr.one (c:="bytes_iterator") (by decide) (by decide) (by decide) (λi h it=>by refine aT it λo e c b=>?_;try clear it;exact an o e c) (λi h h' it d k=>by refine am it λo e r=>?_;try clear it;exact an o (k o e) r) ?_ ?_ (λb b b b it q=>KBw.pyIter_self it q)
 ·intro G ρ H s E Q i S hs it hi k;simp only[List.length_map]at hi;refine(KBw.walks hh I bs t).item i s Q E (by lia) it λv h' tk hv st f=>?_;(refine aZ (hv) ?_;try clear hv;rintro c u g j;rw[j]);refine k _ (.int (c.toNat:Int)) h' tk ?_ .int st f;rw[<-e];simp[g]
 ·intro G ρ H s E Q S hs it k;refine(KBw.walks hh I bs t).done s Q E (by rw[<-a];simpa using it) λh' tk f=>k h' tk f
theorem ID{α:Type}{h:Heap}:∀{a:List (α×V)}{kvs:List (α×Value)}{i:Nat}{k:α}{x:Value},wJ h a kvs->kvs[i]?=some (k,x)->(a.map (·.1))[i]?=some k:=by
 intro a;induction a with
 |nil=>intro kvs i k x z e;cases kvs with|nil=>exact nomatch e|cons=>exact z.elim
 |cons p a b=>
  intro kvs i k x z e;cases kvs with
  |nil=>exact z.elim|cons q kvs=>cases i with|zero=>exact ak some (z.1.trans (ak Prod.fst (dH e)))|succ i=>exact b z.2.2 e
theorem Gr{tg:Expr}{a I:Addr}{b:List (Int×V)}{ep:Nat}{J:Hp}(hh:A.handled=none)(ne:a≠I)(d:J a=some (.dictI b ep)):mr W A tg (.ref a) J (b.map λe=>.int e.1) I [I] (λi h=>h.IsKeyIter I a i b.length ep):=by
 refine mr.one (c:="dict_keyiterator") (by decide) (by decide) (by decide) (λi h it=>by refine aT it λo e c f=>?_;try clear it;exact an o e c) (λi h h' it f k=>by refine am it λo e r=>?_;try clear it;exact an o (k o e) r) ?_ ?_ (λf f f f it q=>wpAny_pyIter_keyiter it q)
 ·intro G ρ H s E Q i S hs it hi k;have g:H a=some (.dictI b ep):=by rw[<-d];exact hs
  refine aT (S.objs _ _ g) λkvs dd j f=>?_;have l:=j.length;simp only[List.length_map]at hi;refine(Walks.dictKeys (knd:=intKind W.prog W.w) hh I a ne kvs ep).item i s Q E (by lia) ⟨by rw[<-l];exact it,dd⟩ λv h' tk hv st m=>?_;refine aZ hv λn x hx u=>?_;try clear hv
  have qs:=ID j hx;have hv:VR s.heap (.int n) v:=by have:∃t,v=.int n t:=Value.isInt_shape u;(refine dE (this) ?_;try clear this;rintro t w;rw[w]);exact .int
  refine k _ (.int n) h' tk ?_ hv (by rw[l];exact st.1) m;rw[f_]at qs;rw[f_];cases q:b[i]? with
  |none=>rw[q]at qs;cases qs|some p=>rw[q]at qs;exact ak (λk=>some (V.int k)) (dH qs)
 ·intro G ρ H s E Q S hs it k;have g:H a=some (.dictI b ep):=by rw[<-d];exact hs
  refine aT (S.objs _ _ g) λkvs dd j f=>?_;have l:=j.length;refine(Walks.dictKeys (knd:=intKind W.prog W.w) hh I a ne kvs ep).done s Q E ⟨?_,dd⟩ λh' tk m=>k h' tk m;rw[<-l];simpa using it
theorem y6:∀{xs:List V}{k i:Nat},(bA k xs)[i]?=(xs[i]?).map λx=>V.tup [.int ((k+i:Nat):Int),x]
 |[],_,_=>by simp[bA]|x::r,k,0=>by simp[bA]|x::r,k,i+1=>by
  simp only[bA,List.getElem?_cons_succ];rw[y6 (xs:=r) (k:=k+1) (i:=i)];congr 1;funext y;have:k+1+i=k+(i+1):=by lia
  rw[this]
theorem yX:∀{xs:List V}{k:Nat},(bA k xs).length=xs.length:=by intro r;induction r with|nil=>intro _;exact rfl|cons _ r a=>intro k;simp[bA,a]
theorem mr.enum{elts:List Expr}{k:Nat}{pos:Pos}{v:V}{J:Hp}{items:List V}{e it:Addr}{fp:List Addr}{n:Nat}{It:Nat->Heap->Prop}(d:items.length=n)(frame:∀i h h',It i h->TS h h'->(∀o,h.get? e=some o->h'.get? e=some o)->(∀o,h.get? it=some o->h'.get? it=some o)->It i h')(f:∀i h,It i h->(∃g,IsEnum h e it i g)/\∃o c,h.get? it=some o/\o.cls=.type c/\c≠"tuple"/\c≠"range")(l:∀{G:Fc}{ρ:aR}{H:Hp}{s:Shared}(i:Nat),St W A G ρ H s->b_ v J H->It i s.heap->∃(P:Nat->Value->Prop)(m:Nat->Heap->Prop)(p:Nat->Addr->Heap->Prop),WalksT W.prog W.w A e fp [e,it] n (λi u=>∃t x,P i x/\u=#[.int i t,x]) m p/\m i s.heap/\(∀h',m (i+1) h'->It (i+1) h')/\∀j x,P j x->∃y,items[j]?=some y/\VR s.heap y x):mr W A (.Tuple elts k pos) v J (bA 0 items) e [e,it] It where
 frame:=λi h h' a z B=>frame i h h' a z (B e (by simp)) (B it (by simp));live:=λi h a b C=>by
  refine ko (f i h a) ?_;rintro⟨g,D⟩o c ho F I K;rcases bB C with rfl|C;·exact an _ D (bZ (c:="enumerate") rfl (by decide) (by decide))
  ·rw[cO C];exact an o ho (bZ F I K)
 item:=λ{G ρ H s E}i S hs a hi=>by
  refine aD ?_;intro L;refine ko (f i _ a) ?_;rintro⟨g,D⟩o c ho F I K;have ab:∀b∈[e,it],∀o,s.heap.get? b=some o->¬pV o:=λb C a0 q=>by
   rcases bB C with rfl|C;·rw[D]at q;cases q;exact bZ (c:="enumerate") rfl (by decide) (by decide)
   ·rw[cO C,ho]at q;cases q;exact bZ F I K
  refine c_ (l i S hs a) λP m p w st M N=>?_;rw[yX]at hi;refine w.item i s _ E (by lia) st λT u h' tk hv lo O R U=>?_;refine aZ hv ?_;try clear hv;rintro t x ag rfl
  refine am (N i x ag) λy al r=>?_;refine an _ rfl (w.go elts k pos i T _ _ E R λX ao qs=>?_);have B:∀b o,b∉[e,it]->s.heap.get? b=some o->X.get? b=some o:=λb o Y q=>qs b o Y (U b o Y q);have z:TS s.heap X:=er ab B;refine jY X tk (.tup [.int i,y]) rfl (by rw[y6,al];simp) ?_ (M X ao) B;refine .tup (xs:=[.int i t,x]) ?_ (.cons .int (.cons (r.ts z) .nil));refine u_ O λZ ap ar n' av=>?_;try clear O
  exact rI Z (qs T Z (w.apart i T _ R) ap) ar n' av
 done:=λ{G ρ H s E}S hs a=>by refine aD ?_;intro L;refine c_ (l _ S hs a) λP m p w st M N=>?_;rw[yX,d]at st;exact w.done s _ E st λh' tk U=>fg rfl h' tk rfl U
 self:=λi s Q E a q=>by refine dA (f i _ a) ?_;rintro⟨g,D⟩_;exact wpAny_pyIter_enum D q
theorem Cm{elts:List Expr}{k:Nat}{pos:Pos}{a e it:Addr}{items:List V}{J:Hp}(hh:A.handled=none)(b:e≠it)(d:a≠e)(f:a≠it)(g:J a=some (.list items)):mr W A (.Tuple elts k pos) (.ref a) J (bA 0 items) e [e,it] (λi h=>(∃l,IsEnum h e it i l)/\h.IsListIter it a i):=by
 refine mr.enum (fp:=[e,it,a]) (n:=items.length) rfl (λi h h' x m k1 k2=>⟨by refine dE (x.1) λl q=>?_;exact⟨l,k1 _ q⟩,x.2.at λo q=>k2 o q⟩) (λi h x=>⟨x.1,by refine aT (x.2) λo q c p=>?_;exact bW o _ q c (by decide) (by decide)⟩) ?_;intro G ρ H s i S hs x;have t:H a=some (.list items):=by rw[<-g];exact hs
 refine aT ((S.objs _ _ t).isList) λxs u z p=>?_;have B:=z.length;have w:=WalksT.enumerate (prog:=W.prog) (w:=W.w) hh e it a b d f xs.toArray;rw[show xs.toArray.size=items.length by simp[B]]at w;refine fA (λj v=>xs.toArray[j]?=some v) _ _ w (bz x.1 x.2 u) (λh' st=>⟨st.1,st.2.1⟩) (λj v hv=>?_);simp only[List.getElem?_toArray]at hv;have hj:=(jB hv).1;obtain⟨C,D⟩:∃C,items[j]?=some C:=⟨items[j]'(by lia),by simp⟩;refine am (z.get D) λy E r=>?_;rw[hv]at E;cases E;exact an C D r
set_option maxHeartbeats 2000000 in
set_option tactic.hygienic true in
theorem O' {M:Model}{b:Bool}{P:Bool->Shared->Prop}(h:∀b,P b s):wpAny M A (pure b) P E s:=bg (h b)
theorem oI(b:Array UInt8)(t:Tok):Meets (Builtin.«enumerate.__new__» ⟨[.type "enumerate",.bytes b t],[]⟩) (λa R s=>R (.ok (.ret (.ref (s.heap.push {cls:=.type "bytes_iterator",data:=.fields #[.bytes b t,.int 0 0]}).objs.size))) {s with heap:=(s.heap.push {cls:=.type "bytes_iterator",data:=.fields #[.bytes b t,.int 0 0]}).push {cls:=.type "enumerate",data:=.fields #[.none,.bool false,.ref s.heap.objs.size,rawInt 0,.none,.none]}}):=
 .of_wp λprog w A R s h=>by
   refine aD ?_;intro c;obtain⟨e,g,d,tk,os⟩:=s;have f:=sub_enumerate;wp_walk;refine wpAny_stack_any λst=>O' λb=>?_;cases b
   ·wp_walk using KBw.pyIter_bytes;exact an _ rfl h
   ·wp_walk using KBw.pyIter_bytes;exact an _ rfl h
section
open Builtin
theorem mL{b:Array UInt8}{t:Tok}{it:Addr}{i:Nat}{c:UInt8}{Q:Value->Shared->Prop}(d:KBw.IsBytesIter s.heap it b t i)(hx:b[i]?=some c)(e:∀h',KBw.IsBytesIter h' it b t (i+1)->Heap.SameBut it s.heap h'->Q (.int (c.toNat:Int) s.toks) {s with heap:=h',toks:=s.toks+1}):wpAny (model W.prog W.w) A (Builtin.SmallTypes.nextOf (.ref it)) Q E s:=by refine aT (id d) λo ho f hd=>?_;unfold Builtin.SmallTypes.nextOf;refine aQ (wpAny_callSpecial?_slot (name:=Str.ofString "__next__") (KBw.iter_typeIs d) KBw.slot_next (xm KBw.slot_next (KBw.iter_typeIs d) KBw.entry_next ?_ (KBw.args_next _)));refine aD ?_;intro g;show wpAny _ _ (field (.ref it) 0>>=_) _ _ s;refine aQ (lE ho hd (x:=.bytes b t) rfl ?_);refine(?_:wpAny _ _ (if(Value.bytes b t==Value.none)=true then _ else _) _ _ s);rw[aA (show¬((Value.bytes b t==Value.none)=true)from bI)];refine(?_:wpAny _ _ (field (.ref it) 1>>=_) _ _ s);refine aQ (lE ho hd (x:=.int i 0) rfl ?_);refine aQ (jf (a:=b) rfl ?_);simp only[Int.toNat_natCast,hx];refine aQ (xg ho hd (by simp) (aQ (wpAny_mkInt (bg (an _ rfl (bg (e _ ?_ (uI ..))))))));exact(cW _ (wk _ ho (xk (oX hd _))) ((Obj.cls_mapFields ..).trans f) (by rw[oX hd];simp[rawInt]))
theorem oA{b:Array UInt8}{t:Tok}{it:Addr}{i:Nat}{Q:Value->Shared->Prop}(hh:A.handled=none)(c:KBw.IsBytesIter s.heap it b t i)(hx:b[i]?=none)(d:∀h' e,Heap.ExtBut it s.heap h'->(∃o,h'.get? e=some o/\o.cls=.type "StopIteration")->E (.ref e) {s with heap:=h'}):wpAny (model W.prog W.w) A (Builtin.SmallTypes.nextOf (.ref it)) Q E s:=by
 refine aT (id c) λo ho f hd=>?_;unfold Builtin.SmallTypes.nextOf;refine aQ (wpAny_callSpecial?_slot (name:=Str.ofString "__next__") (KBw.iter_typeIs c) KBw.slot_next (xm KBw.slot_next (KBw.iter_typeIs c) KBw.entry_next ?_ (KBw.args_next _)));refine aD ?_;intro g;show wpAny _ _ (field (.ref it) 0>>=_) _ _ s;refine aQ (lE ho hd (x:=.bytes b t) rfl ?_);refine(?_:wpAny _ _ (if(Value.bytes b t==Value.none)=true then _ else _) _ _ s);rw[aA (show¬((Value.bytes b t==Value.none)=true)from bI)];refine(?_:wpAny _ _ (field (.ref it) 1>>=_) _ _ s);refine aQ (lE ho hd (x:=.int i 0) rfl ?_);refine aQ (jf (a:=b) rfl ?_);simp only[Int.toNat_natCast,hx];refine aQ (wpAny_rule (aQ (xg ho hd (by simp) ?_)));refine l9 ?_;intro g;show wpAny _ _ (newExc (.type "StopIteration") []>>=_) _ _ _;refine aQ ?_;refine aD ?_;intro g;simp only[newExc,newTuple];refine aQ (sJ ?_ (by size_fits));refine aQ (m:=firstArgMember _ _) (jf (a:=Value.none) (by first|rfl|(simp only[firstArgMember];rfl)) ?_);refine sJ ?_ (by size_fits);simp only[raiseNew];refine aQ (wpAny_handled ?_);first|rw[show A.in1.handled=none from hh]|rw[hh]
 refine aQ (bg (wpAny_throw ?_));exact d _ _ (((uI ..).extBut.push _).push _) (an _ (gE _ rfl) rfl)
end
theorem wG(hh:A.handled=none)(it:Addr)(b:Array UInt8)(t:Tok):Draws W.prog W.w A it [it] b.size (λi v=>∃c u,b[i]?=some c/\v=.int (c.toNat:Int) u) (λi h=>KBw.IsBytesIter h it b t i)where live:=λa a st=>let⟨o,ho,_⟩:=st;⟨o,ho⟩;frame:=λa a a st d=>let⟨o,ho,r⟩:=st;(an o (d it (by simp) o ho) r);item:=λi s Q E hi st e=>mL (W:=W) st (c:=b[i]) (by simp[hi]) λh' f g=>e _ h' (s.toks+1) (aY _ _ (by simp[hi]) rfl) f g;done:=λs Q E st j=>oA (W:=W) hh st (by simp) j
theorem DG{elts:List Expr}{k:Nat}{pos:Pos}{e it:Addr}{l:List Nat}{bs:Array UInt8}{t:Tok}{v:V}{J:Hp}(hh:A.handled=none)(a:e≠it)(b:bs.toList.map (·.toNat)=l):mr W A (.Tuple elts k pos) v J (bA 0 (l.map λ(n:Nat)=>.int n)) e [e,it] (λi h=>(∃d,IsEnum h e it i d)/\KBw.IsBytesIter h it bs t i):=by
 have f:l.length=bs.size:=by rw[<-b];simp
 refine mr.enum (fp:=[e,it]) (n:=bs.size) (by simp[f]) (λi h h' x g k1 k2=>⟨by refine dE (x.1) λd q=>?_;exact⟨d,k1 _ q⟩,by refine am (x.2) λo q r=>?_;exact an o (k2 o q) r⟩) (λi h x=>⟨x.1,by refine aT (x.2) λo q c m=>?_;exact bW o _ q c (by decide) (by decide)⟩) ?_;intro G ρ H s i S hs x;have w:=WalksT.enumerateD (A:=A) (wG (W:=W) (A:=A.in1) hh it bs t) e a (by simpa using a) (by simp);refine fA _ _ _ w x (λh' st=>st) (λj v hv=>?_);refine aZ hv ?_;try clear hv;rintro c u p rfl
 refine an (.int (c.toNat:Int)) ?_ (.int);subst b;simp[p]
theorem qd{b:Array UInt8}{t:Tok}{Q:Value->Shared->Prop}(h:∀h',IsEnum h' (s.heap.objs.size+1) s.heap.objs.size 0 .none->KBw.IsBytesIter h' s.heap.objs.size b t 0->(∀b o,s.heap.get? b=some o->h'.get? b=some o)->Q (.ref (s.heap.objs.size+1)) {s with heap:=h'}):wpAny (model W.prog W.w) A (call (.type "enumerate") [.bytes b t]) Q E s:=by
 refine callType_new F.called_enumerate (by decide) (F.typeCall_enumerate_1 _) (F.newCall_enumerate_1 _) (λa=>F.args_object_init_2 a _) F.entry_enumerate_new (oI b t) ?_;have hz:(s.heap.push {cls:=.type "bytes_iterator",data:=.fields #[.bytes b t,.int 0 0]}).objs.size=s.heap.objs.size+1:=hU ..;refine(?_:_/\_);rw[hz]
 have c:IsEnum ((s.heap.push {cls:=.type "bytes_iterator",data:=.fields #[.bytes b t,.int 0 0]}).push {cls:=.type "enumerate",data:=.fields #[.none,.bool false,.ref s.heap.objs.size,rawInt 0,.none,.none]}) (s.heap.objs.size+1) s.heap.objs.size 0 .none:=by
  have:=gE (s.heap.push {cls:=.type "bytes_iterator",data:=.fields #[.bytes b t,.int 0 0]}) (o:={cls:=.type "enumerate",data:=.fields #[.none,.bool false,.ref s.heap.objs.size,rawInt 0,.none,.none]}) rfl;rw[hz]at this;exact this
 refine⟨(an _ c rfl),h _ c (cW _ (cn _ (gE _ rfl)) rfl rfl) λb o y=>cn _ (cn _ y)⟩
inductive jg(W:Wd)(A:Around)(tg:Expr)(sk:Sk)(G:Fc)(ρ:aR)(H:Hp)(s:Shared)(a:V->List V->Hp->Prop):Value->Shared->Prop|mk (v:V)(items:List V)(J:Hp)(s1:Shared)(I:Addr)(its:List Addr)(It:Nat->Heap->Prop)(h':Heap)(t:Nat):a v items J->Reach W A G H s ρ J s1->(∀b o,s1.heap.get? b=some o->h'.get? b=some o)->(∀b∈its,s1.heap.get? b=none)->mr W A tg v J items I its It->It 0 h'->jg W A tg sk G ρ H s a (.ref I) {s1 with heap:=h',toks:=t}
theorem c7{h:Heap}{o:Obj}:∀b x,h.get? b=some x->(h.push o).get? b=some x:=λa a e=>cn _ e
theorem ma{h:Heap}:∀b∈[h.objs.size],h.get? b=none:=λb a=>by rw[cO a];exact bN
theorem EH{h:Heap}:∀b∈[h.objs.size+1,h.objs.size],h.get? b=none:=λb a=>by
 rcases bB a with rfl|a;·exact qi (Nat.le_succ _)
 ·exact ma b a
theorem Jj{tg:Expr}{d:V->List V->Hp->Prop}{v:V}{x:Value}(hh:A.handled=none)(S:St W A G ρ H s)(r:VR s.heap v x){items:List V}(hi:FV v H items)(q:d v items H):wpAny (model W.prog W.w) A (pyIter x) (jg W A tg .val G ρ H s d) E s:=by
 refine aD ?_;intro f;cases v with
 |bytes l=>refine VR.eBytes r λb t e=>?_;obtain rfl:items=_:=hi;exact KBw.pyIter_bytes ⟨_,_,H,s,_,_,_,_,s.toks,q,Reach.refl S,c7,ma,Cp hh e,(cW _ (gE _ rfl) rfl rfl)⟩
 |tup vs=>
  refine aW (r.i) ?_;rintro a xs rfl it g;refine aD ?_;intro f;obtain rfl:items=_:=hi;have ne:a≠s.heap.objs.size:=by refine am it λo e h=>?_;try clear it;exact g_ (jo e)
  exact wpAny_pyIter_tuple (show s.heap.IsTuple a xs.toArray from it) ⟨_,_,H,s,_,_,_,_,s.toks,q,Reach.refl S,c7,ma,Hv (a:=a) (xs:=xs) hh ne,⟨⟨IsTup.ts it (TS.of_keeps c7),g.ts (TS.of_keeps c7)⟩,(cW _ (gE _ rfl) rfl rfl)⟩⟩|rng a b c=>refine aD ?_;intro f;refine cr (r.i) ?_;rintro p t u z rfl it sm i;obtain rfl:items=_:=hi;refine wpAny_pyIter_range it sm ⟨_,_,H,s,_,_,_,_,s.toks,q,Reach.refl S,c7,ma,HY hh i,?_⟩;refine(?_:(Heap.push _ _).get? _=_);rw[Af i,Int.natCast_zero,Int.zero_mul,Int.add_zero,Int.sub_zero];exact gE s.heap rfl
 |ref a=>
  refine VR.eRef r ?_;rcases hi with p|⟨j,ep,p,rfl⟩
  ·refine aT ((S.objs _ _ p).isList) λxs k g h=>?_;have ne:a≠s.heap.objs.size:=by refine am k λo e h=>?_;try clear k;exact g_ (jo e)
   exact wpAny_pyIter_list k ⟨_,_,H,s,_,_,_,_,s.toks,q,Reach.refl S,c7,ma,src_list hh ne p,(cW _ (gE _ rfl) rfl rfl)⟩
  ·refine aT (S.objs _ _ p) λkvs dd m nn=>?_;have ne:a≠s.heap.objs.size:=by refine aZ dd λo h e h=>?_;try clear dd;exact g_ (jo e)
   exact wpAny_pyIter_dict (knd:=intKind W.prog W.w) (eD nn) dd ⟨_,_,H,s,_,_,_,_,s.toks,q,Reach.refl S,c7,ma,Gr hh ne p,(cW _ (gE _ rfl) rfl (by rw[m.length];rfl))⟩|_=>exact hi.elim
theorem LQ{elts:List Expr}{k:Nat}{pos:Pos}{c:V->List V->Hp->Prop}{v:V}{x:Value}(hh:A.handled=none)(S:St W A G ρ H s)(r:VR s.heap v x){items:List V}(hi:FG .enum v H items)(q:c v items H):wpAny (model W.prog W.w) A (call (.type "enumerate") [x]) (λd s1=>wpAny (model W.prog W.w) A (pyIter d) (jg W A (.Tuple elts k pos) .enum G ρ H s c) E s1) E s:=by
 refine aD ?_;intro f;rcases hi with⟨a,xs,rfl,p,rfl⟩|⟨l,rfl,rfl⟩
 ·refine VR.eRef r ?_;refine aT ((S.objs _ _ p).isList) λd g h i=>?_;have lt:a<s.heap.objs.size:=by refine am g λo e i=>?_;try clear g;exact jo e
  exact call_enumerate_list g λh' e1 e2 e3 j=>wpAny_pyIter_enum e1 ⟨_,_,H,s,_,_,_,h',s.toks,q,Reach.refl S,j,EH,Cm (elts:=elts) (k:=k) (pos:=pos) hh (Nat.succ_ne_self _) (g_ (qg lt)) (g_ lt) p,⟨⟨_,e1⟩,e2⟩⟩
 ·refine VR.eBytes r λb t e=>?_;exact qd λh' e1 e2 j=>wpAny_pyIter_enum e1 ⟨_,_,H,s,_,_,_,h',s.toks,q,Reach.refl S,j,EH,DG (elts:=elts) (k:=k) (pos:=pos) hh (Nat.succ_ne_self _) e,⟨⟨_,e1⟩,e2⟩⟩
theorem MH{tg:Expr}{b:V->List V->Hp->Prop}{v:V}{x:Value}(hh:A.handled=none)(S:St W A G ρ H s)(r:VR s.heap v x){items:List V}(hi:FG .rev v H items)(q:b v items H):wpAny (model W.prog W.w) A (call (.type "reversed") [x]) (λc s1=>wpAny (model W.prog W.w) A (pyIter c) (jg W A tg .rev G ρ H s b) E s1) E s:=by
 refine aD ?_;intro d;refine aW hi ?_;try clear hi;rintro a xs rfl p rfl
 refine VR.eRef r ?_;refine aT ((S.objs _ _ p).isList) λc f g h=>?_;have lt:a<s.heap.objs.size:=by refine am f λo e h=>?_;try clear f;exact jo e
 have i:(s.heap.push (revObj a ((c.toArray.size:Int)-1))).IsRevIter s.heap.objs.size a ((xs.length:Int)-1-((0:Nat):Int)):=cW _ (gE _ rfl) rfl (by rw[g.length,Int.natCast_zero,Int.sub_zero];rfl);exact call_reversed_list f (wpAny_pyIter_revIter i ⟨_,_,H,s,_,_,_,_,s.toks,q,Reach.refl S,c7,ma,IL hh (g_ lt) p,⟨cR _,i⟩⟩)
theorem jg.back{tg:Expr}{sk:Sk}{a:V->List V->Hp->Prop}{it:Value}{s2:Shared}(r:Reach W A G H s ρ J s1)(h:jg W A tg sk G ρ J s1 a it s2):jg W A tg sk G ρ H s a it s2:=by cases h with|mk v items b c I its It h' t d e f g i j=>exact⟨v,items,b,c,I,its,It,h',t,d,r.trans e,f,g,i,j⟩
noncomputable def Pm(K:(Hp->Prop)->List V->Hp->Prop)(v:V)(l:List V)(H:Hp):Prop:=l.length<=cu/\K (b_ v H) l H
theorem zM(a:dX W N){e:Internal.E}(b:aN N T Y hd n W e){sk:Sk}{t:iw}{tg iter:Expr}{K:(Hp->Prop)->List V->Hp->Prop}(hh:A.handled=none)(d:CR sk t=true){tn:List (Str×Nat)}(f:b0 t tg=some tn)(g:oK U sk (ay N e U) iter=true)(c:Ctx hd n W U A G ρ H s X E)(hw:WE T Y hd e ρ (λv=>gc sk v K) X H):wpAny (model W.prog W.w) A (eval iter G.env) (λh s1=>wpAny (model W.prog W.w) A (pyIter h) (jg W A tg sk G ρ H s (Pm K)) E s1) E s/\∀x,foldedSetIterable iter G.env x=pure x:=by
 cases sk with
 |val=>have g:=aO g;refine⟨PE.step (b _ _ _ _ _ _ _ _ _ _ g.1 c hw) λj v J s1 q w r=>(gc.b q).elim λitems l=>bE (Jj hh r.st w l.1 l.2) (λm m z=>jg.back r z) λm m z=>z,λx=>?_⟩;have:=g.2;cases iter<;>first|rfl|cases this
 |enum=>
  cases t with
  |v i=>exact no d|t is=>refine DT (qL f) ?_;rintro elts k pos _ rfl _;refine uc g λnm p y o u g=>?_;rw[u];refine dA (gK g) ?_;rintro⟨B,C⟩D;refine⟨?_,λx=>rfl⟩;refine aD ?_;intro F;refine rE (kE a c (v:=.type "enumerate") C (by rw[ci B];exact BG 14 rfl) ?_);refine F7 ?_ (ax (bS D)) rfl;rw[ax (bS D),cg];exact lj (PE.step (b _ _ _ _ _ _ _ _ _ _ D c hw) λj v J s1 q w r=>(gc.b q).elim λitems l=>pk (bE (LQ hh r.st w l.1 l.2) (λm m z=>bE z (λm m z=>jg.back r z) λm m z=>z) λm m z=>z))
 |rev=>refine uc g λnm p y o u g=>?_;rw[u];refine dA (gK g) ?_;rintro⟨B,C⟩D;refine⟨?_,λx=>rfl⟩;refine aD ?_;intro F;refine rE (kE a c (v:=.type "reversed") C (by rw[ci B];exact BG 15 rfl) ?_);refine F7 ?_ (ax (bS D)) rfl;rw[ax (bS D),cg];exact lj (PE.step (b _ _ _ _ _ _ _ _ _ _ D c hw) λj v J s1 q w r=>(gc.b q).elim λitems l=>pk (bE (MH hh r.st w l.1 l.2) (λm m z=>bE z (λm m z=>jg.back r z) λm m z=>z) λm m z=>z))
theorem Reach.noL{H0:Hp}{s0:Shared}{O:aR}(a:St W A G ρ H0 s0)(r:Reach W A G H0 s0 O H s){b:Addr}{o:Obj}(e:s.heap.get? b=some o)(c:s0.heap.get? b=none):b∉ownOf G.env/\b∉aX A:=⟨(λq=>by refine am (a.own_obj q) λd f g=>?_;rw[c]at f;cases f),(λq=>by refine ir (a.frs_obj q) λd g g f g=>?_;rw[c]at f;cases f)⟩
theorem qX{a:Value->Shared->Prop}{d:List Env}{L:Addr}{H0:Hp}{s0:Shared}{c:Nat}{e:Addr}{fr:Option Addr}(f:St W A G ρ H0 s0)(g:A.frames=some (G.env::d))(h:G.env.frame=some L)(r:Reach W A G H0 s0 ρ1 H s)(x:DM W s0.heap s.heap c e){P:Shared->Prop}(k:∀s',Reach W A G H0 s0 ρ1 H s'->Dr W s0.heap s'.heap c e->P s'):wpAny (model W.prog W.w) A (noteFrame (.ref e) G.env) (λi s'=>P s') a s:=by have S:=r.st;refine I6 g (Ck λe j=>S.frames _ g e j) h (λb o q=>r.pr.live b o q) x λh' K l=>?_;exact k _ (r.kx (t:=s.toks) f x K) l
theorem kj{a:Value->Shared->Prop}{H0:Hp}{s0:Shared}{c:Nat}{e:Addr}{fr:Option Addr}(b:St W A G ρ H0 s0)(r:Reach W A G H0 s0 ρ1 H s)(x:Dr W s0.heap s.heap c e){P:Shared->Prop}(k:∀s',Reach W A G H0 s0 ρ1 H s'->Dr W s0.heap s'.heap c e->P s'):wpAny (model W.prog W.w) A (setFlight (.ref e) fr) (λd s'=>P s') a s:=CE (frs:=aX A) x λh' K f=>k _ (r.kx (t:=s.toks) b x.o K) f
theorem A0.loop{a:List Env}{L:Addr}(S:St W A G ρ H s)(b:A.frames=some (G.env::a))(d:G.env.frame=some L)(h:A0 W A G H s ex E):A0 W A G H s ex (notedBy (model W.prog W.w) A G.env λe s'=>cameBackBy (model W.prog W.w) A G.env E e s'):=λO c Z e s' hx r x=>by skip;refine qX S b d (fr:=none) r x λs2 f g=>?_;skip;refine aQ (g.field1 λTb=>?_);rw[aA (show¬((Value.ref Tb==Value.none)=true)from bI)];exact kj S f g λi j k=>h O c Z e i hx j k.o
inductive LoopAt(W:Wd)(A:Around)(G:Fc)(J:Hp)(s1:Shared)(items:List V)(its:List Addr)(It:Nat->Heap->Prop)(a:List V->aR->Hp->Prop):Nat->Shared->Prop|mk (i:Nat)(O:aR)(Z:Hp)(s':Shared):i<=items.length->Reach W A G J s1 O Z s'->It i s'.heap->(∀b∈its,Z b=none)->a (items.drop i) O Z->LoopAt W A G J s1 items its It a (items.length+1-i) s'
theorem Br{t:iw}{tg:Expr}{v:V}{items:List V}{I:Addr}{its:List Addr}{It:Nat->Heap->Prop}{a c:List V->aR->Hp->Prop}{d:QR}{k:Nat}{s':Shared}{P:Option Value->Shared->Prop}{B:Shared->Prop}(f:St W A G ρ J s1)(g:Gx G U)(hh:A.handled=none)(j:lC U t tg=true)(fr:∀b∈its,s1.heap.get? b=none)(m:mr W A tg v J items I its It)(fc:∀x l ρ H,a (x::l) ρ H->b_ v J H/\dC t x ρ λO=>c l O H)(fn:∀ρ H,a [] ρ H->b_ v J H/\d ρ H)(hs:∀x n,wpAny (model W.prog W.w) A (letOwnedTupleGo tg (.ref I) x) (λp s=>wpAny (model W.prog W.w) A (assign tg G.env x) (λp u=>B u) E s) E n->P (some x) n)(w:∀l y C u,Reach W A G J s1 y C u->c l y C->(∀D F K,Reach W A G C u D F K->a l D F->∃k',k'<k/\LoopAt W A G J s1 items its It a k' K)->B u)(L:∀O Z n,Reach W A G J s1 O Z n->d O Z->P none n)(h:LoopAt W A G J s1 items its It a k s'):wpAny (model W.prog W.w) A (pyNext (.ref I)) P E s':=by
 cases h with|mk i O Z _ hi r it nH q=>
  have ab:∀b∈its,∀o,s'.heap.get? b=some o->¬pV o:=λb M o e=>by refine am (m.live i _ it b M) λa6 N n'=>?_;rw[e]at N;rw[dH N];exact n'
  have go:∀{Q:Heap}(t2:Nat),(∀b o,b∉its->s'.heap.get? b=some o->Q.get? b=some o)->Reach W A G J s1 O Z {s' with heap:=Q,toks:=t2}:=λt2=>r.others f fr nH ab;rcases Nat.lt_or_ge i items.length with R|ag
  ·rw[List.drop_eq_getElem_cons R]at q;refine dA (fc _ _ _ _ q) λsame q=>?_;refine bE (m.item i r.st same it R) (λal n z=>?_) λp p z=>z;(refine am (z) ?_;try clear z;rintro x ao;rw[ao];rintro z);refine hs x n (bE z (λp s z=>?_) λp p z=>z);(refine nK (z) ?_;try clear z;rintro Q t2 a7 ap;rw[ap];rintro ar av S T);rw[dH ((fz R).symm.trans ar)]at q;refine bE (AK (go t2 T).st g hh j av q) (λp u z=>?_) λp p z=>z;refine am z λy a0 X=>?_;try clear z
   refine w _ y Z u ((go t2 T).trans X) a0 λD F K Y a1=>an _ (AZ (qg R) (iY i)) ⟨i+1,D,F,K,R,((go t2 T).trans X).trans Y,?_,λb M=>?_,a1⟩
   ·refine m.frame _ _ _ S ((X.trans Y).pr.ts (go t2 T).st) λb M o e=>?_;refine dA ((go t2 T).noL f e (fr b M)) λa2 a3=>?_;exact(X.trans Y).pr.keep b o e (nH b M) (λq=>a2 (f.ownSub _ q)) a3
   ·refine am (m.live (i+1) _ S b M) λo e p=>?_;exact(X.trans Y).noH e (nH b M)
  ·obtain rfl:=ze hi ag;rw[List.drop_length]at q;refine dA (fn _ _ q) λsame q=>?_;refine bE (m.done r.st same it) (λal n z=>?_) λp p z=>z;(refine Gi (z) ?_;try clear z;rintro a4;rw[a4];rintro Q t2 a5;rw[a5];rintro T);exact L O Z _ (go t2 T) q
theorem Lq(a:dX W N){t:iw}{sk:Sk}{e:Internal.E}{body:SL}(d:aN N T Y hd n W e)(g:nr N T Y hd n W body):nN N T Y hd n W (.for_ t sk e body):=λU x A G ρ H s nx ct rt ex E i c hw=>by
 refine aD ?_;intro j;refine B7 i λtg iter b p m i=>?_;rw[m];refine dA (fX i) ?_;rintro⟨⟨o,u⟩,w⟩h4;refine dA (rW.e hw) ?_;try clear hw;rintro y hw
 have hh:=c.hh y;refine aZ (c.top) λa2 L B C=>?_;refine am (qK o) λtn D F=>?_;refine dA (zM a d hh u D w c.expr hw) λk1 k2=>?_;refine wpAny_For (bE k1 (λa3 s1 z=>bE z (λit s2 z=>?_) λF F z=>z) λF F z=>z) k2;cases z with|mk v items J s1 I its It h' tk q r ab fr ag al=>
  have K:=r.st;have ao:=A0.loop K B C (c.ex.next r);refine codeAny_forLoop_any (I:=LoopAt W A G J s1 items its It λl=>ju t (b_ v J) (l5 T Y hd body) l nx rt ex) (λk s' h=>?_) (items.length+1) ⟨0,ρ,J,_,cR _,Reach.keeps K ab,al,λb g=>K.freshH (fr b g),q.2⟩;refine Br K c.g hh o fr ag (λF F F F z=>z) (λF F z=>z) (λF F z=>z) (λl a4 a5 a6 M ap P=>?_) (λO Z a7 ar av=>nG (aY O Z av (r.trans ar))) h;refine CN ?_;intro j a8;refine bE (g _ _ _ _ _ _ _ _ _ _ _ _ h4 ⟨c.g,M.st,c.R,c.hh,c.top,ao.next M⟩ ap) (λf Q z=>?_) λF F z=>z;cases f with|next=>refine aZ z λR S V X=>?_;try clear z;exact P R S Q X V|cont=>refine aZ z λR S V X=>?_;try clear z;exact P R S Q X V|brk=>exact z.elim|ret v=>refine bw z λa0 R S V a1 X=>?_;try clear z;exact dU a0 R S V a1 (r.trans (M.trans X))
theorem LZ{e:Internal.E}{body:SL}(a:lQ N T Y hd n W e)(d:nr N T Y hd n W body):nN N T Y hd n W (.whl e body):=λU x A G ρ H s nx ct rt ex E g c hw=>by
 refine aD ?_;intro i;refine By g λt b p j g=>?_;rw[j]
 ·refine dA (aO g) λl o=>?_;replace hw:=rW.e hw;refine Ou hw ?_;try clear hw;rintro u m hw
  refine aZ (c.top) λw L y B=>?_;have C:=A0.loop c.S y B c.ex;refine wpAny_While (codeAny_whileLoop (I:=λk s'=>∃O Z,Reach W A G H s O Z s'/\xz (λO Q=>WE T Y hd e O Q (λD D=>False)) (l5 T Y hd body) k nx rt ex O Z) ?_ m (aY ρ H (Reach.refl c.S) hw));rintro k s' ⟨O,Z,r,q⟩;refine CN ?_;intro i ab;cases k with|zero=>exact q.elim|succ k=>
   refine PB.step (a _ _ _ _ _ _ _ _ _ _ l ⟨c.g,r.st,c.R,c.hh,DJ.never (h:=λD D h=>h)⟩ q) λt J s1 F r1=>?_;cases t;·exact nG (aY _ _ F (r.trans r1))
   ·have K:=r.trans r1;have M:nQ hd n W U A G O J s1 ex (notedBy (model W.prog W.w) A G.env λe s'=>cameBackBy (model W.prog W.w) A G.env E e s'):=⟨c.g,K.st,c.R,c.hh,c.top,C.next K⟩;refine bE (d _ _ _ _ _ _ _ _ _ _ _ _ o M F) (λf ag z=>?_) λD D z=>z;cases f with
    |next=>refine aZ z λP R S V=>?_;try clear z;exact vh k (iY _) P R (K.trans V) S|cont=>refine aZ z λP R S V=>?_;try clear z;exact vh k (iY _) P R (K.trans V) S|brk=>exact z.elim|ret v=>refine bw z λX P R S w3 V=>?_;try clear z;exact dU X P R S w3 (K.trans V)
noncomputable def jb(env:Env):List (Str×NameKind)->List (Str×Addr)->List (Str×Addr)|[],acc=>acc|(x,k)::r,acc=>jb env r (if k==.free then(x,(env.cells.lookup x).getD 0)::acc else acc)
theorem BZ{env:Env}{x:Str}{k:NameKind}{r:List (Str×NameKind)}{acc:List (Str×Addr)}:jb env ((x,k)::r) acc=jb env r (if k==.free then(x,(env.cells.lookup x).getD 0)::acc else acc):=rfl
theorem z5{env:Env}(f:Str×NameKind->List (Str×Addr)->Sem (ForInStep (List (Str×Addr))))(b:∀x k acc,f (x,k) acc=if k==.free then(do let a<-cellOf env x;pure (.yield ((x,a)::acc)))else pure (.yield acc)):∀(names:List (Str×NameKind))(acc:List (Str×Addr)),(∀p∈names,p.2=.free->∃c,env.cells.lookup p.1=some c)->forIn names acc f=pure (jb env names acc):=by
 intro r;induction r with
 |nil=>intro acc _;exact rfl|cons d r e=>
  obtain⟨x,k⟩:=d;intro acc h;rw[List.forIn_cons,b,BZ];have g:=e;have hr:∀p∈r,p.2=.free->∃c,env.cells.lookup p.1=some c:=λp i=>h p (dn _ i);by_cases j:(k==NameKind.free)=true
  ·rw[aE j,aE j];refine dE (h (x,k) (cS ..) (by simpa using j)) λc l=>?_;have m:env.cells.lookup x=some c:=l;rw[m,<-g _ hr];unfold cellOf;rw[m];rfl
  ·rw[aA j,aA j,<-g _ hr];rfl
theorem tj{scope:Scope}{env:Env}(h:∀p∈scope.names,p.2=.free->∃c,env.cells.lookup p.1=some c):closureFor scope env=pure (jb env scope.names []):=by have e:=z5 (env:=env) (λx acc=>if x.2==.free then(do let a<-cellOf env x.1;pure (.yield ((x.1,a)::acc)))else pure (.yield acc)) (λx k acc=>rfl) scope.names [] h;exact ak (λ(m:Sem (List (Str×Addr)))=>m>>=λb=>pure b) e
theorem bu{β:Type}:∀{l:List (Str×β)}{x:Str}{k:β},(l.map (·.1)).Nodup->(x,k)∈l->l.lookup x=some k
 |(y,j)::r,x,k,nd,h=>by
  simp only[List.map_cons,List.nodup_cons]at nd;rcases bB h with e|h;·cases e;simp[List.lookup]
  ·have:(x==y)=false:=eD λe=>nd.1 (e▸cY (an (x,k) h rfl));rw[kN,this];exact bu nd.2 h
theorem zH{env:Env}(apart:env.cells.Pairwise λx y=>x.2≠y.2):∀(names:List (Str×NameKind))(acc:List (Str×Addr)),(names.map (·.1)).Nodup->(∀p∈names,p.2=.free->∃c,env.cells.lookup p.1=some c)->(∀p∈acc,p∈env.cells/\p.1∉names.map (·.1))->acc.Pairwise (λx y=>x.2≠y.2)->(acc.map (·.1)).Nodup->(∀p∈jb env names acc,p∈env.cells/\((p.1,NameKind.free)∈names\/p∈acc))/\(jb env names acc).Pairwise (λx y=>x.2≠y.2)/\((jb env names acc).map (·.1)).Nodup/\(∀x c,((x,NameKind.free)∈names/\env.cells.lookup x=some c)\/(x,c)∈acc->(x,c)∈jb env names acc):=by
 intro r;induction r with
 |nil=>intro acc _ _ a b f;exact et (λp g=>⟨(a p g).1,.inr g⟩) b f (λx c h=>h.elim (λz=>by cases z.1) id)|cons i r j=>
  obtain⟨x,k⟩:=i;intro acc nd l a b f;simp only[List.map_cons,List.nodup_cons]at nd;have m:∀p∈r,p.2=.free->∃c,env.cells.lookup p.1=some c:=λp g=>l p (dn _ g);rw[BZ];by_cases n:(k==NameKind.free)=true
  ·rw[aE n];have o:k=.free:=by simpa using n
   subst o;refine dE (l (x,.free) (cS ..) rfl) λc s=>?_;have t:env.cells.lookup x=some c:=s;rw[t];have u:=fu t;have hx:x∉acc.map (·.1):=λq=>by refine am (dm q) λp g e=>?_;exact(a p g).2 (by simp[e])
   refine tE (j ((x,c)::acc) nd.2 m (λp g=>by
    rcases bB g with rfl|g;·exact⟨u,nd.1⟩
    ·exact⟨(a p g).1,λq=>(a p g).2 (by skip;exact dn _ q)⟩) (BI ⟨λp g e=>by have v:c=p.2:=e;have:=name_of_addr apart u (n':=p.1) (by rw[v];exact(a p g).1);exact hx (cY (an p g this.symm)),b⟩) (by simp only[List.map_cons,List.nodup_cons];exact⟨hx,f⟩)) λw A B C=>?_;refine et (λp g=>?_) A B (λy d h=>C y d ?_)
   ·refine dA (w p g) λD E=>?_;refine⟨D,?_⟩;rcases E with E|E;·exact .inl (dn _ E)
    ·rcases bB E with rfl|E;·exact .inl (cS ..)
     ·exact .inr E
   ·rcases h with⟨h,e⟩|h
    ·rcases bB h with h|h;·cases h;rw[t]at e;rw[dH e];exact .inr (cS ..)
     ·exact .inl ⟨h,e⟩
    ·exact .inr (dn _ h)
  ·rw[aA n];have o:k≠.free:=by simpa using n
   refine tE (j acc nd.2 m (λp g=>⟨(a p g).1,λq=>(a p g).2 (by skip;exact dn _ q)⟩) b f) λw A B C=>?_;refine et (λp g=>⟨(w p g).1,(w p g).2.imp (dn _) id⟩) A B (λy d h=>C y d ?_);rcases h with⟨h,e⟩|h
   ·rcases bB h with h|h;·cases h;exact absurd rfl o
    ·exact .inl ⟨h,e⟩
   ·exact .inr h
theorem cX:∀(names:List (Str×NameKind))(h:Heap)(lo:Nat)(acc:List (Str×Addr)),(names.map (·.1)).Nodup->lo<=h.objs.size->(∀p∈acc,p.2<h.objs.size)->(∀p∈acc,p.1∉names.map (·.1)\/(p.1,NameKind.cell)∉names)->acc.Pairwise (λx y=>x.2≠y.2)->(acc.map (·.1)).Nodup->(∀p∈cellsFrom h.objs.size names acc,p∈acc\/(lo<=p.2/\(p.1,NameKind.cell)∈names/\(pushCells h names).IsCell p.2 none))/\(cellsFrom h.objs.size names acc).Pairwise (λx y=>x.2≠y.2)/\((cellsFrom h.objs.size names acc).map (·.1)).Nodup/\(∀p∈acc,p∈cellsFrom h.objs.size names acc)/\(∀x,(x,NameKind.cell)∈names->∃c,lo<=c/\(x,c)∈cellsFrom h.objs.size names acc):=by
 intro r;induction r with|nil=>intro h lo acc _ _ _ _ a d;exact jN (λp f=>.inl f) a d (λp f=>f) (λx hx=>by cases hx)|cons g r i=>
  obtain⟨x,k⟩:=g;intro h lo acc nd j l h4 a d;simp only[List.map_cons,List.nodup_cons]at nd;unfold pushCells cellsFrom;by_cases m:(k==NameKind.cell)=true
  ·rw[aE m,aE m];have n:k=.cell:=by simpa using m
   subst n;have hz:(h.push {cls:=.type "cell",data:=.cell none}).objs.size=h.objs.size+1:=hU ..;have hx:x∉acc.map (·.1):=λq=>by
    refine am (dm q) λp f e=>?_;rcases h4 p f with z|z;·exact z (by simp[e])
    ·exact z (by simp[e])
   refine fK (i (h.push {cls:=.type "cell",data:=.cell none}) lo ((x,h.objs.size)::acc) nd.2 (by rw[hz];lia)
    (λp f=>by
      rw[hz];rcases bB f with rfl|f;·exact iY _
      ·exact qg (l p f))
    (λp f=>by
      rcases bB f with rfl|f;·exact .inl nd.1
      ·refine(h4 p f).imp (λz q=>z ?_) λz q=>z (dn _ q);skip;exact dn _ q) (BI ⟨λp f e=>by have:=l p f;have o:h.objs.size=p.2:=e;exact gW _ (o▸this),a⟩) (by simp only[List.map_cons,List.nodup_cons];exact⟨hx,d⟩)) λs t u v w=>?_;rw[hz]at s;rw[hz]at t;rw[hz]at u;rw[hz]at v;rw[hz]at w;refine jN (λp f=>?_) t u (λp f=>v p (dn _ f)) (λy A=>?_)
   ·rcases s p f with b|⟨B,C,D⟩
    ·rcases bB b with rfl|b;·exact .inr (bz j (cS ..) (an _ (pushCells_keeps _ _ _ _ (gE _ rfl)) rfl))
     ·exact .inl b
    ·exact .inr (bz B (dn _ C) D)
   ·rcases bB A with A|A
    ·cases A;exact an _ j (v _ (cS ..))
    ·exact w y A
  ·rw[aA m,aA m];have n:k≠.cell:=by simpa using m
   refine fK (i h lo acc nd.2 j l (λp f=>(h4 p f).imp (λz q=>z (by skip;exact dn _ q)) λz q=>z (dn _ q)) a d) λs t u v w=>?_;refine jN (λp f=>(s p f).imp id λb=>bz b.1 (dn _ b.2.1) b.2.2) t u v (λy A=>?_);rcases bB A with A|A;·cases A;exact absurd rfl n
   ·exact w y A
theorem zr{M:Model}{scope:Scope}{globals:Addr}{cl:List (Str×Addr)}{qual:Str}{a:Env}{b:Addr}{Q':Env->Shared->Prop}(h:Q' {scope,locals:=s.heap.objs.size,globals,cells:=cellsFrom (s.heap.objs.size+1) scope.names cl,qual,func:=none,code:=a.code,frame:=a.frame,builtins:=a.builtins} {s with heap:=pushCells (s.heap.push {cls:=.type "dict",data:=.dict #[]}) scope.names}):wpAny M A (newFunctionEnv scope globals cl [] qual none .none (some a) b) Q' E s:=by skip;refine aQ (wpAny_alloc ?_);refine aQ (wpAny_layCells _ (λname kind cells=>by cases c:kind==NameKind.cell<;>simp[c]) _ _ _ _ ?_);refine l9 ?_;intro d;rw[show({s with heap:=s.heap.push {cls:=.type "dict",data:=.dict #[]}}:Shared).heap.objs.size=s.heap.objs.size+1 from hU ..];exact aQ (bg (bg h))
theorem qT{scope:Scope}{env:Env}:∀{l:List (Str×NameKind)}{x:Str}, (l.map λ(n,k)=>if(k==NameKind.free&&env.scope.kind==.function&&env.kindOf n==some .cell)then(n,NameKind.cell)else(n,k)).lookup x= (l.lookup x).map λk=>if(k==NameKind.free&&env.scope.kind==.function&&env.kindOf x==some .cell)then .cell else k:=by
 intro r;induction r with|nil=>intro x;exact rfl|cons a r b=>
  obtain⟨y,k⟩:=a;intro x;have d:=b (x:=x);simp only[List.map_cons];by_cases q:x=y
  ·rw[q];split
   ·rename_i c;simp only[List.lookup_cons,beq_self_eq_true,Option.map_some,c,if_true]
   ·rename_i c;simp only[List.lookup_cons,beq_self_eq_true,Option.map_some,c,if_false];rfl
  ·have e:(x==y)=false:=eD q;split;·simp only[List.lookup_cons,e];exact d
   ·simp only[List.lookup_cons,e];exact d
theorem St.weak{O:aR}(S:St W A G ρ H s)(h:∀i v,O i=some v->ρ i=some v):St W A G O H s:=⟨S.rest,S.base,S.objs,S.new,S.kind,S.glob,S.bltn,(by refine am (S.vars) λm a b=>?_;exact an m a (λx i v c d=>b x i v c (h i v d))),S.cells,S.hasc,S.apart,S.sepL,S.ownSub,S.locOwn,S.stOk,S.frames,S.hasF,S.inj⟩
theorem kg.more{own a frs:List Addr}{Z:Hp}{h h':Heap}(P:kg own frs H h Z h')(k:∀b∈own,b∈a):kg a frs H h Z h':=⟨λb o e c d g=>P.keep b o e c (λq=>d (k b q)) g,λb o e f d=>P.slots b o e f λq=>d (k b q),P.dom,P.sub,P.live⟩
theorem kg.others{own frs:List Addr}{Z:Hp}{h h' a:Heap}(P:kg own frs H h Z h')(k:∀b o,b∉own->h'.get? b=some o->a.get? b=some o)(live:∀b∈own,∀o,h'.get? b=some o->∃c,a.get? b=some c):kg own frs H h Z a:=⟨λb o e d g i=>k b o g (P.keep b o e d g i),λb o e f g=>by refine dE (P.slots b o e f g) λsl e1=>?_;exact⟨sl,k b _ g e1⟩,P.dom,P.sub,λb o e=>by
 refine dE (P.live b o e) λc j=>?_;by_cases q:b∈own;·exact live b q c j
 ·exact⟨c,k b c q j⟩⟩
noncomputable def vA:iw->List Nat|.v i=>[i]|.t is=>is
noncomputable def cP(t:iw)(ρ:aR):aR:=λj=>if j∈vA t then none else ρ j
theorem ew:∀{is:List Nat}{vs:List V}{ρ:aR}{j:Nat},j∉is->bL ρ is vs j=ρ j|[],_,_,_,_=>by simp[bL]|_::_,[],_,_,_=>by rfl|i::is,v::vs,ρ,j,h=>by simp only[List.mem_cons,not_or]at h;refine(?_:bL (bM ρ i v) is vs j=ρ j);rw[ew h.2];simp[bM,h.1]
theorem uV:∀{is:List Nat}{vs:List V}{ρ O:aR}{j:Nat},j∈is->is.length=vs.length->bL ρ is vs j=bL O is vs j
 |[],_,_,_,_,h,_=>by cases h|_::_,[],_,_,_,_,h=>by cases h|i::is,v::vs,ρ,O,j,h,a=>by
  refine(?_:bL (bM ρ i v) is vs j=bL (bM O i v) is vs j);by_cases q:j∈is;·exact uV q (by simpa using a)
  ·rw[ew q,ew q];rcases bB h with e|h;·simp[bM,e]
   ·exact absurd h q
theorem y4{t:iw}{x:V}{ρ:aR}{K:aR->Prop}(h:dC t x ρ K):dC t x (cP t ρ) (λO=>K O/\∀i v,cP t ρ i=some v->O i=some v):=by
 cases t with
 |v i=>
  have e:bM (cP (.v i) ρ) i x=bM ρ i x:=by funext j;simp only[bM,cP,vA,List.mem_singleton];split<;>simp_all
  refine(?_:K _/\_);rw[e];refine⟨h,λj v hj=>?_⟩;simp only[cP,vA,List.mem_singleton]at hj;split at hj;·exact nomatch hj
  ·rename_i q;simp[bM,q,hj]|t is=>
  cases x with
  |tup vs=>
   refine dA (Cc.e h) ?_;try clear h;rintro a h
   refine Cc.k a ?_;have e:bL (cP (.t is) ρ) is vs=bL ρ is vs:=by
    funext j;by_cases q:j∈is;·exact uV q a
    ·rw[ew q,ew q];simp[cP,vA,q]
   refine(?_:K (bL (cP (.t is) ρ) is vs)/\_);rw[e];refine⟨h,λj v hj=>?_⟩;by_cases q:j∈is;·simp[cP,vA,q]at hj
   ·have b:ρ j=some v:=by simpa[cP,vA,q]using hj
    refine(?_:bL (cP (.t is) ρ) is vs j=some v);rw[e,ew q];exact b|_=>exact h.elim
theorem vq{t:iw}{tg:Expr}{tn:List (Str×Nat)}(h:b0 t tg=some tn):tn.map (·.2)=vA t:=by cases t with|v i=>(refine aZ (AU h) ?_;rintro n p _ a;rw[a]);rfl|t is=>(refine cr (qL h) ?_;rintro b k p ns _ _ c d;rw[d]);refine(?_:(ns.zip is).map Prod.snd=is);exact List.map_snd_zip (jP c.symm)
noncomputable def compEnv(scope:Scope)(env:Env)(C:Addr):Env:={scope:=relabel scope env,locals:=C,globals:=env.globals,cells:=cellsFrom (C+1) scope.names (jb env scope.names []),qual:=env.qual,func:=none,code:=env.code,frame:=env.frame,builtins:=env.builtins}
noncomputable def iW(U:Cx)(G:Fc)(scope:Scope)(tn:List (Str×Nat))(C:Addr):Fc:=⟨compEnv scope G.env C,C::((compEnv scope G.env C).cells.map (·.2)).filter (λc=>decide (C<=c)),(b9 U scope tn).vs,(b9 U scope tn).st⟩
structure rh(U:Cx)(scope:Scope)(tn:List (Str×Nat)):Prop where
 kind:scope.kind=.function
 nd:(scope.names.map (·.1)).Nodup
 nd2:(tn.map (·.2)).Nodup
 nd1:(tn.map (·.1)).Nodup
 tn:∀p∈tn,p.2∉U.vs.map (·.2)/\(scope.names.lookup p.1=some .local\/scope.names.lookup p.1=some .cell)
 free:∀p∈scope.names,p.2=.free->U.sc.names.lookup p.1=some .cell\/U.sc.names.lookup p.1=some .free
theorem CY{scope:Scope}{tn:List (Str×Nat)}(h:oQ U scope tn=true):rh U scope tn:=by
 unfold oQ at h;simp only[Bool.and_eq_true,beq_iff_eq]at h;refine dA h ?_;try clear h;rintro⟨⟨⟨⟨a,b⟩,c⟩,h4⟩,d⟩f
 refine⟨a,ej b,ej c,ej h4,λp g=>?_,λp g e=>?_⟩
 ·have:=dN d p g;simp only[Bool.and_eq_true,Bool.not_eq_true',Bool.or_eq_true,beq_iff_eq]at this;exact⟨(λq=>by rw[List.contains_iff_mem.mpr q]at this;cases this.1),this.2⟩
 ·have:=dN f p g;simp only[e,Bool.or_eq_true,beq_iff_eq]at this;exact this
theorem tT{l:List (Str×Nat)}{f:Str->Bool}:∀{x:Str}{i:Nat},(l.filter (λp=>f p.1)).lookup x=some i->f x=true/\l.lookup x=some i:=by
 induction l with|nil=>intro x i h;cases h|cons p r c=>
  intro x i h;obtain⟨y,j⟩:=p;rw[List.filter_cons]at h;by_cases q:f y=true
  ·simp only[q,if_true]at h;rw[kN]at h;rw[kN];by_cases z:x=y;·subst z;simp at h⊢;exact⟨q,h⟩
   ·have d:(x==y)=false:=eD z;rw[d]at h;rw[d];exact c h
  ·simp only[q]at h;refine dA (c h) λa b=>?_;refine⟨a,?_⟩;rw[kN];have d:(x==y)=false:=eD λe=>q (e▸a);rw[d];exact b
theorem Ag{β:Type}{l r:List (Str×β)}{x:Str}{i:β}(h:(l++r).lookup x=some i):l.lookup x=some i\/r.lookup x=some i:=by
 induction l with|nil=>exact .inr h|cons p l a=>
  obtain⟨y,j⟩:=p;rw[List.cons_append,kN]at h;rw[kN];by_cases q:(x==y)=true;·rw[q]at h;rw[q];exact .inl h
  ·have b:(x==y)=false:=by simpa using q
   rw[b]at h;rw[b];exact a h
theorem qp:∀{l:List (Str×Nat)}{x y:Str}{i:Nat},(l.map (·.2)).Nodup->(x,i)∈l->(y,i)∈l->x=y
 |p::l,x,y,i,nd,a,b=>by
  simp only[List.map_cons,List.nodup_cons]at nd;rcases bB a with e1|a<;>rcases bB b with e2|b;·rw[<-e2]at e1;exact ak Prod.fst e1
  ·exact absurd (cY (an _ b (by rw[<-e1]))) nd.1
  ·exact absurd (cY (an _ a (by rw[<-e2]))) nd.1
  ·exact qp nd.2 a b
theorem K_{scope:Scope}{tn:List (Str×Nat)}{C:Addr}(g:Gx G U):Gx (iW U G scope tn C) (b9 U scope tn):=by refine⟨?_,rfl,rfl⟩;refine(?_:relabel scope G.env=KT U.sc scope);unfold relabel KT Env.kindOf;rw[g.sc]
theorem vd(S:St W A G ρ H s)(g:Gx G U){scope:Scope}{tn:List (Str×Nat)}(k:rh U scope tn):∀p∈scope.names,p.2=.free->∃c,G.env.cells.lookup p.1=some c:=λp a e=>by refine S.hasc p.1 ?_;unfold Env.kindOf;rw[g.sc];exact k.free p a e
theorem x_{t:iw}{i:Nat}{v:V}(h:cP t ρ i=some v):i∉vA t/\ρ i=some v:=by
 unfold cP at h;by_cases q:i∈vA t;·rw[aE q]at h;exact nomatch h
 ·rw[aA q]at h;exact⟨q,h⟩
theorem NH{b:Bool}:some (if b=true then NameKind.cell else .free)=some .cell\/some (if b=true then NameKind.cell else .free)=some NameKind.free:=by
 cases b;·exact .inr rfl
 ·exact .inl rfl
theorem PK:¬(some NameKind.«local»=some .cell\/some NameKind.«local»=some .free):=by decide
theorem PO:¬(some NameKind.globalImplicit=some .cell\/some NameKind.globalImplicit=some .free):=by decide
theorem PC:¬(some NameKind.globalExplicit=some .cell\/some NameKind.globalExplicit=some .free):=by decide
theorem PW:¬(none=some NameKind.cell\/none=some NameKind.free):=by decide
theorem Av{d:Heap}{scope:Scope}{tn:List (Str×Nat)}{t:iw}{tg:Expr}(g:Gx G U)(k:rh U scope tn)(ar:b0 t tg=some tn)(S:St W A G ρ H {s with heap:=d}):St W A (iW U G scope tn d.objs.size) (cP t ρ) H {s with heap:=pushCells (d.push {cls:=.type "dict",data:=.dict #[]}) scope.names}/\(∀b o,d.get? b=some o->(pushCells (d.push {cls:=.type "dict",data:=.dict #[]}) scope.names).get? b=some o)/\(∀b∈(iW U G scope tn d.objs.size).own,d.get? b=none/\∃o,(pushCells (d.push {cls:=.type "dict",data:=.dict #[]}) scope.names).get? b=some o/\¬pV o)/\(∀b∈ownOf (iW U G scope tn d.objs.size).env,b∈(iW U G scope tn d.objs.size).own\/b∈ownOf G.env)/\(pushCells (d.push {cls:=.type "dict",data:=.dict #[]}) scope.names).Ns d.objs.size (λj=>none):=by
 have u:=vd S g k;have kept:∀b o,d.get? b=some o->(pushCells (d.push {cls:=.type "dict",data:=.dict #[]}) scope.names).get? b=some o:=λb o e=>pushCells_keeps _ _ _ _ (cn _ e);have w:∀p∈G.env.cells,p.2<d.objs.size:=λp B=>by refine aZ (S.cells p.1 p.2 B) λv o ho j=>?_;exact jo ho
 have hz:(d.push {cls:=.type "dict",data:=.dict #[]}).objs.size=d.objs.size+1:=hU ..;refine tE (zH S.apart scope.names [] k.nd u (by simp) .nil (by simp)) λC av a0 D=>?_;refine fK (cX scope.names (d.push {cls:=.type "dict",data:=.dict #[]}) (d.objs.size+1) (jb G.env scope.names []) k.nd (by rw[hz];exact bF _) (λp B=>by rw[hz];exact qg (w p (C p B).1))
  (λp B=>by
    refine .inr λq=>?_;rcases(C p B).2 with z|z
    ·have a:=bu k.nd z;have b:=bu k.nd q;rw[a]at b;cases b
    ·cases z) av a0) λE ab ag F I=>?_;rw[hz]at E;rw[hz]at ab;rw[hz]at ag;rw[hz]at F;rw[hz]at I;have fresh:∀b,d.objs.size<=b->d.get? b=none:=λb J=>qi J;have al:∀b,d.get? b=none->H b=none/\W.B.get? b=none:=λb J=>by
  constructor
  ·cases q:H b with|none=>rfl|some ao=>refine dE (S.live q) λo e=>?_;have K:d.get? b=some o:=e;rw[J]at K;cases K
  ·cases q:W.B.get? b with
   |none=>rfl|some o=>have K:d.get? b=some o:=S.base b o q;rw[J]at K;cases K
 have M:∀x,(compEnv scope G.env d.objs.size).kindOf x=(scope.names.lookup x).map λk=>if(k==NameKind.free&&G.env.scope.kind==.function&&G.env.kindOf x==some .cell)then .cell else k:=λx=>qT (scope:=scope);have N:∀{x c},(x,c)∈(compEnv scope G.env d.objs.size).cells->(compEnv scope G.env d.objs.size).cells.lookup x=some c:=λh=>bu ag h;have O:∀{x i},(b9 U scope tn).vs.lookup x=some i->(x,i)∈tn\/(scope.names.lookup x=some .free/\U.vs.lookup x=some i):=λ{x i}h=>by
  rcases Ag h with h|h;·exact .inl (fu h)
  ·have:=tT (f:=λx=>scope.names.lookup x==some .free) h;exact .inr ⟨by simpa using this.1,this.2⟩
 have ns:(pushCells (d.push {cls:=.type "dict",data:=.dict #[]}) scope.names).Ns d.objs.size (λj=>none):=(Heap.Ns.new d (.type "dict")).keeps (pushCells_keeps _ _);refine jN ⟨?_,?_,?_,S.new,k.kind,S.glob,S.bltn,(an (λj=>none) ns (λx i v P a1=>?_)),?_,?_,ab,?_,?_,cS ..,?_,?_,S.hasF,?_⟩ kept ?_ ?_ ns
 ·refine qD (S.rest) λh a2 e=>?_;exact tC _ a2 (by rw[show({s with heap:=pushCells (d.push {cls:=.type "dict",data:=.dict #[]}) scope.names}:Shared)={({s with heap:=d}:Shared)with heap:=pushCells (d.push {cls:=.type "dict",data:=.dict #[]}) scope.names}from rfl,e])
 ·exactλb o e=>kept b o (S.base b o e)
 ·exactλa ao e=>(S.objs a ao e).of_get (TS.of_keeps kept) λo K=>kept a o K
 ·refine dA (x_ a1) λhi hr=>?_;rcases O P with P|⟨Q,P⟩;·exact absurd (by rw[<-vq ar];exact cY (an _ P rfl)) hi
  ·refine am (S.vars) λm bd hv=>?_;refine am (hv x i v (by rw[g.vs];exact P) hr) λa3 r a=>?_;refine an a3 (r.ts (TS.of_keeps kept)) ?_;have R:G.env.kindOf x=some .cell\/G.env.kindOf x=some .free:=by unfold Env.kindOf;rw[g.sc];exact k.free (x,.free) (fu Q) rfl
   rcases a with⟨a,_⟩|⟨_,c,T,a4⟩;·rcases R with R|R<;>rw[R]at a<;>cases a
   ·refine .inr (eA ?_ c (N (F _ (D x c (.inl ⟨fu Q,T⟩)))) (a4.keeps kept));refine(?_:(compEnv scope G.env d.objs.size).kindOf x=_\/(compEnv scope G.env d.objs.size).kindOf x=_);rw[M,Q];exact NH
 ·intro x c V;rcases E (x,c) V with z|z
  ·refine dE (S.cells x c (C _ z).1) λv hv=>?_;exact⟨v,hv.keeps kept⟩
  ·exact⟨_,z.2.2⟩
 ·intro x hx;have X:(compEnv scope G.env d.objs.size).kindOf x=some .cell\/(compEnv scope G.env d.objs.size).kindOf x=some .free:=hx;rw[M]at X;cases q:scope.names.lookup x with
  |none=>rw[q]at X;exact(PW X).elim|some a5=>
   rw[q]at X;simp only[Option.map_some]at X;have V:=fu q;cases a5 with
   |cell=>refine am (I x V) λc j T=>?_;exact⟨c,N T⟩|free=>refine dE (u (x,.free) V rfl) λc T=>?_;exact⟨c,N (F _ (D x c (.inl ⟨V,T⟩)))⟩|«local»=>exact(PK X).elim|globalImplicit=>exact(PO X).elim|globalExplicit=>exact(PC X).elim
 ·intro b J;rcases bB J with rfl|J;·exact al _ (fresh _ (bF _))
  ·refine am (dm J) ?_;rintro p B rfl;rcases E p B with z|z;·exact S.sepL _ (dn _ (cY (an p ((C p z).1) rfl)))
   ·exact al _ (fresh _ (mT z.1))
 ·intro b J;rcases bB J with rfl|J;·exact cS ..
  ·exact dn _ (jI J).1
 ·intro x hx;refine am (dm hx) ?_;rintro p B rfl;refine(?_:(compEnv scope G.env d.objs.size).kindOf p.1=_\/((compEnv scope G.env d.objs.size).kindOf p.1=_/\_));rw[M];rcases(k.tn p B).2 with q|q;·left;rw[q];rfl
  ·right;refine⟨by rw[q];rfl,?_⟩;refine am (I p.1 (fu q)) λc a6 T=>?_;exact an c (N T) (dn _ (pG ⟨cY (an _ T rfl),by simpa using mT a6⟩))
 ·intro l a7 e a8;refine cT (S.frames l a7 e a8) λR L o a' n Q ho hd ba bb=>?_;exact b6 R L o a' n Q (kept _ _ ho) hd ba bb
 ·intro x y i hx Y;have ap:∀{z:Str},(z,i)∈tn->∀{y:Str},U.vs.lookup y=some i->False:=λhz j Y=>(k.tn _ hz).1 (cY (an _ (fu Y) rfl));rcases O hx with hx|⟨_,hx⟩<;>rcases O Y with Y|⟨_,Y⟩;·exact qp k.nd2 hx Y
  ·exact(ap hx Y).elim
  ·exact(ap Y hx).elim
  ·exact S.inj x y i (by rw[g.vs];exact hx) (by rw[g.vs];exact Y)
 ·intro b J;rcases bB J with rfl|J;·exact eA (fresh _ (bF _)) _ (pushCells_keeps _ _ _ _ (gE _ rfl)) (bc rfl)
  ·refine dA (jI J) λJ Z=>?_;refine am (dm J) ?_;rintro p B rfl;have Z:d.objs.size<=p.2:=by simpa using Z
   rcases E p B with z|z;·exact absurd (w p (C p z).1) (io Z)
   ·refine am (z.2.2) λo ho hd=>?_;exact eA (fresh _ Z) o ho (fw hd)
 ·intro b J;rcases bB J with rfl|J;·exact .inl (cS ..)
  ·refine am (dm J) ?_;rintro p B rfl;rcases E p B with z|z;·exact .inr (dn _ (cY (an p ((C p z).1) rfl)))
   ·exact .inl (dn _ (pG ⟨cY (an p B rfl),by simpa using mT z.1⟩))
theorem xJ{R:Result->Shared->Prop}{a b iter:Expr}{d:List Expr}{scope:Scope}{pos:Pos}{it acc:Value}{env:Env}(I:Nat->Shared->Prop)(f:∀n s,I n s->wpAny (model W.prog W.w) A (pyNext it) (λr g=>match r with|none=>R (.ok .next) g|some v=>wpAny (model W.prog W.w) A (letOwnedTupleGo b it v) (λi j=>wpAny (model W.prog W.w) A (assign b env v) (λi k=>wpAny (model W.prog W.w) A (forIn d true λc r=>if r=true then do let ok<-isTrue c env (eval c env);pure (ForInStep.yield ok)else pure (ForInStep.yield r)) (λok l=>if ok=true then wpAny (model W.prog W.w) A (eval a env) (λx o=>wpAny (model W.prog W.w) A (call (.builtin "list.append") [acc,x]) (λi p=>∃m,m<n/\I m p) (notedBy (model W.prog W.w) A env λe s'=>R (.error e) s') o) (notedBy (model W.prog W.w) A env λe s'=>R (.error e) s') l else∃m,m<n/\I m l) (notedBy (model W.prog W.w) A env λe s'=>R (.error e) s') k) (notedBy (model W.prog W.w) A env λe s'=>R (.error e) s') j) (notedBy (model W.prog W.w) A env λe s'=>R (.error e) s') g) (notedBy (model W.prog W.w) A env λe s'=>R (.error e) s') s)(n:Nat)(h:I n s):codeAny (model W.prog W.w) A (.compLoop (.ListComp a [⟨b,iter,d,0⟩] scope pos) 0 it acc env) R s:=by refine codeAny_loop rfl I (λn s q=>?_) n h;refine aD ?_;intro t;show wpAny _ A ((compTurn (.ListComp a [⟨b,iter,d,0⟩] scope pos) 0 it acc env).onRaise (λx=>do noteFrame x env;theTreesLotGoes x)) _ _ s;refine wpAny_noted ?_;rw[compTurn_list];refine aQ (kG (aQ (bE (f n s q) (λr g u=>?_) λi i h'=>h')));cases r with|none=>exact bg u|some v=>refine aQ (bE u (λi j w=>?_) λi i h'=>h');refine aQ (bE w (λi k y=>aQ (bE y (λok l z=>?_) λi i h'=>h')) λi i h'=>h');cases ok with|false=>exact bg ⟨rfl,z⟩|true=>exact aQ (aQ (bE z (λx o B=>aQ (bE B (λi p C=>bg (bg ⟨rfl,C⟩)) λi i h'=>h')) λi i h'=>h'))
theorem xF{scope:Scope}{tn:List (Str×Nat)}{t:iw}{tg:Expr}(k:rh U scope tn)(a:b0 t tg=some tn):lC (b9 U scope tn) t tg=true:=by
 unfold lC;rw[a];simp only[List.all_eq_true,Bool.and_eq_true,beq_iff_eq];intro p b;refine⟨?_,?_⟩
 ·refine(?_:(tn++_).lookup p.1=some p.2);have:=bu k.nd1 (x:=p.1) (k:=p.2) b;rw[List.lookup_append,this];rfl
 ·skip;exact List.contains_iff_mem.mpr (cY (an p b rfl))
noncomputable def ta(N:Nm)(T:cA)(Y:kC)(hd:Bool)(n:Nat)(W:Wd)(U:Cx)(a:List Expr)(cond:GY):Prop:=∀(A:Around)(G:Fc)(ρ:aR)(H:Hp)(s:Shared)(b:Bool->Hp->Prop)(E:Value->Shared->Prop),Ctx hd n W U A G ρ H s (λd d=>False) E->cond ρ (QB b) H->wpAny (model W.prog W.w) A (forIn a true λc r=>if r=true then do let ok<-isTrue c G.env (eval c G.env);pure (ForInStep.yield ok)else pure (ForInStep.yield r)) (PB W A G ρ H s b) E s
theorem zj:ta N T Y hd n W U [] (λa Q'=>Q' (.bool true)):=λA G ρ H s b E c h=>wpAny_tests_nil (an H h (Reach.refl c.S))
theorem zn{e:Internal.E}{c:Expr}(a:lQ N T Y hd n W e)(b:ay N e U c=true):ta N T Y hd n W U [c] (λO Q'=>WE T Y hd e O Q' (λd d=>False)):=λA G ρ H s f E g h=>wpAny_tests_one (a _ _ _ _ _ _ _ _ _ _ b g h)
structure gz(W:Wd)(A:Around)(G':Fc)(D:Addr)(its:List Addr):Prop where
 B:∀b∈D::its,W.B.get? b=none/\b∉ownOf G'.env/\b∉aX A
 ne:D∉its
structure bh(W:Wd)(A:Around)(G':Fc)(J:Hp)(h4:Heap)(D:Addr)(its:List Addr)(It:Nat->Heap->Prop)(i:Nat)(acc:List V)(O:aR)(Z:Hp)(s':Shared):Prop where
 st:St W A G' O Z s'
 pr:kg (G'.own++(D::its)) (aX A) J h4 Z s'.heap
 it:It i s'.heap
 nH:∀b∈D::its,Z b=none
 acc:∃a,s'.heap.get? D=some (LCg.lst a)/\bj s'.heap acc a
inductive vS(W:Wd)(A:Around)(G':Fc)(J:Hp)(h4:Heap)(D:Addr)(items:List V)(its:List Addr)(It:Nat->Heap->Prop)(ρ:aR)(a:List V->List V->Hp->Prop):Nat->Shared->Prop|mk (i:Nat)(acc:List V)(Z:Hp)(s':Shared):i<=items.length->acc.length<=i->bh W A G' J h4 D its It i acc ρ Z s'->a (items.drop i) acc Z->vS W A G' J h4 D items its It ρ a (items.length+1-i) s'
section
variable{G':Fc}{h4:Heap}{D I:Addr}{items:List V}{its:List Addr}{It:Nat->Heap->Prop}{i:Nat}{acc:List V}{O:aR}{Z:Hp}{s':Shared}{v:V}{tg:Expr}
theorem bh.keep(F:gz W A G' D its)(m:bh W A G' J h4 D its It i acc O Z s'){a c d}(r:Reach W A G' Z s' a c d):∀b∈D::its,∀o,s'.heap.get? b=some o->d.heap.get? b=some o:=λb f o e=>r.pr.keep b o e (m.nH b f) (λz=>(F.B b f).2.1 (m.st.ownSub b z)) (F.B b f).2.2
theorem bh.go(F:gz W A G' D its)(a:mr W A tg v J items I its It)(m:bh W A G' J h4 D its It i acc O Z s'){c f g}(r:Reach W A G' Z s' c f g):bh W A G' J h4 D its It i acc c f g:=by
 have K:=m.keep F r;refine am (m.acc) λh d j=>?_;refine⟨r.st,m.pr.trans (r.pr.more λb k=>List.mem_append_left _ k),a.frame _ _ _ m.it (r.pr.ts m.st) λb k=>K b (dn _ k),λb k=>?_,h,K D (cS ..) _ d,j.ts (r.pr.ts m.st)⟩;rcases bB k with rfl|k;·exact r.noH d (m.nH _ (cS ..))
 ·refine am (a.live i _ m.it b k) λo e l=>?_;exact r.noH e (m.nH b (dn _ k))
theorem bh.ni(a:mr W A tg v J items I its It)(m:bh W A G' J h4 D its It i acc O Z s'):∀b∈its,∀o,s'.heap.get? b=some o->¬pV o:=λb c o e=>by refine am (a.live i _ m.it b c) λd f n'=>?_;rw[e]at f;rw[dH f];exact n'
theorem bh.turnS(F:gz W A G' D its)(a:mr W A tg v J items I its It)(m:bh W A G' J h4 D its It i acc O Z s'){c:Heap}{t2:Nat}(d:∀b o,b∉its->s'.heap.get? b=some o->c.get? b=some o):St W A G' O Z {s' with heap:=c,toks:=t2}:=m.st.others (λb e=>⟨m.nH b (dn _ e),F.B b (dn _ e)⟩) (m.ni a) d
theorem bh.turn(F:gz W A G' D its)(a:mr W A tg v J items I its It)(m:bh W A G' J h4 D its It i acc O Z s'){j:Nat}{c:Heap}{t2:Nat}(f:∀b o,b∉its->s'.heap.get? b=some o->c.get? b=some o)(g:It j c):bh W A G' J h4 D its It j acc O Z {s' with heap:=c,toks:=t2}:=by
 refine am (m.acc) λh d k=>?_;refine⟨m.turnS F a f,m.pr.others (λb o l e=>f b o (λz=>l (BV _ (dn _ z))) e) λb n o e=>?_,g,m.nH,h,f _ _ F.ne d,k.ts (er (m.ni a) f)⟩;by_cases z:b∈its;·refine am (a.live j _ g b z) λo e p=>?_;exact⟨o,e⟩
 ·exact⟨o,f b o z e⟩
theorem bh.app(F:gz W A G' D its)(a:mr W A tg v J items I its It)(m:bh W A G' J h4 D its It i acc O Z s'){w:V}{x:Value}(f:VR s'.heap w x)(g:acc.length<cu){P:Value->Shared->Prop}(k:∀h,bh W A G' J h4 D its It i (acc++[w]) O Z {s' with heap:=h}->P .none {s' with heap:=h}):wpAny (model W.prog W.w) A (call (.builtin "list.append") [.ref D,x]) P E s':=by
 refine am (m.acc) λj d l=>?_;have n:D∈D::its:=cS ..;refine append_at (hsz:=by refine(?_:j.toArray.size<=sizeLine);rw[oF,<-l.length];exact aa (bT g) dj) d λh p r=>k h ?_;have s:∀b∈[D],∀o,s'.heap.get? b=some o->¬pV o:=λb u o e=>by rw[cO u,d]at e;rw[<-dH e];exact bZ (c:="list") rfl (by decide) (by decide)
 have y:∀b o,b∉[D]->s'.heap.get? b=some o->h.get? b=some o:=λb o B e=>p.extBut b o (λz=>B (Ch z)) e;have C:=er s y;refine⟨m.st.others (t:=s'.toks) (its:=[D]) (λb u=>by rw[cO u];exact⟨m.nH D n,F.B D n⟩) s y,m.pr.others (λb o B e=>y b o (λz=>B (BV _ (by rw[cO z];exact n))) e) λb u o e=>?_,a.frame _ _ _ m.it C λb u o e=>y b o (λz=>F.ne (cO z▸u)) e,m.nH,j++[x],r.trans (ak some (LCg.lst_snoc j x)),(l.ts C).append (.cons (f.ts C) .nil)⟩;by_cases z:b=D;·exact⟨_,z▸r⟩
 ·exact⟨o,y b o (λq=>z (cO q)) e⟩
theorem bh.weak(m:bh W A G' J h4 D its It i acc O Z s'){a:aR}(h:∀i v,a i=some v->O i=some v):bh W A G' J h4 D its It i acc a Z s':=⟨m.st.weak h,m.pr,m.it,m.nH,m.acc⟩
theorem Ja{t:iw}{a:List V->List V->Hp->Prop}{c:List V->List V->aR->Hp->Prop}{d:List V->Hp->Prop}{k:Nat}{P:Option Value->Shared->Prop}{B:Shared->Prop}(e:Gx G' U)(hh:A.handled=none)(f:lC U t tg=true)(F:gz W A G' D its)(g:mr W A tg v J items I its It)(fc:∀x l acc H,a (x::l) acc H->b_ v J H/\dC t x ρ λO=>c l acc O H)(fn:∀acc H,a [] acc H->b_ v J H/\d acc H)(hs:∀x j,wpAny (model W.prog W.w) A (letOwnedTupleGo tg (.ref I) x) (λn p=>wpAny (model W.prog W.w) A (assign tg G'.env x) (λn r=>B r) E p) E j->P (some x) j)(s:∀i l acc u w r,acc.length<=i->i<items.length->bh W A G' J h4 D its It (i+1) acc u w r->c l acc u w->(∀y C G,y.length<=i+1->bh W A G' J h4 D its It (i+1) y u C G->a l y C->∃k',k'<k/\vS W A G' J h4 D items its It (cP t ρ) a k' G)->B r)(K:∀acc Z s' L t2,bh W A G' J h4 D its It items.length acc (cP t ρ) Z s'->(∀b o,b∉its->s'.heap.get? b=some o->L.get? b=some o)->d acc Z->P none {s' with heap:=L,toks:=t2})(h:vS W A G' J h4 D items its It (cP t ρ) a k s'):wpAny (model W.prog W.w) A (pyNext (.ref I)) P E s':=by
 cases h with|mk i acc Z _ hi M m q=>
  rcases Nat.lt_or_ge i items.length with N|Q
  ·rw[List.drop_eq_getElem_cons N]at q;refine dA (fc _ _ _ _ q) λsame q=>?_;refine bE (g.item i m.st same m.it N) (λR j z=>?_) λn n z=>z;(refine am (z) ?_;try clear z;rintro x S;rw[S];rintro z);refine hs x j (bE z (λn p z=>?_) λn n z=>z);(refine nK (z) ?_;try clear z;rintro L t2 a4 T;rw[T];rintro ab ag al X);have Y:=m.turn F g (t2:=t2) X al;rw[dH ((fz N).symm.trans ab)]at q;refine bE (AK Y.st e hh f ag (y4 q)) (λn r z=>?_) λn n z=>z;refine am z ?_;try clear z;rintro u ⟨ao,ap⟩ar
   exact s i _ acc u Z r M N (Y.go F g ar) ao λy C G av a0 a1=>an _ (AZ (qg N) (iY i)) ⟨i+1,y,C,G,N,av,a0.weak ap,a1⟩
  ·obtain rfl:=ze hi Q;rw[List.drop_length]at q;refine dA (fn _ _ q) λsame q=>?_;refine bE (g.done m.st same m.it) (λR j z=>?_) λn n z=>z;(refine Gi (z) ?_;try clear z;rintro a2;rw[a2];rintro L t2 a3;rw[a3];rintro X);exact K acc Z _ L t2 m X q
end
theorem C4{G':Fc}{h4:Heap}{D I:Addr}{items acc:List V}{its:List Addr}{It:Nat->Heap->Prop}{i:Nat}{O:aR}{Z:Hp}{s':Shared}{v:V}{tg:Expr}{tk:Nat}(c:St W A G ρ J s1)(k4:∀b o,s1.heap.get? b=some o->h4.get? b=some o)(F:gz W A G' D its)(f:mr W A tg v J items I its It)(g:∀b∈G'.own++(D::its),s1.heap.get? b=none/\∃o,h4.get? b=some o/\¬pV o)(m:bh W A G' J h4 D its It i acc O Z s'){h:Heap}{t2:Nat}(j:∀b o,b∉its->s'.heap.get? b=some o->h.get? b=some o):Z D=none/\Reach W A G J s1 ρ (fU Z D (.list acc)) {s' with heap:=h,toks:=t2}:=by
 have fr:∀b∈its,s1.heap.get? b=none:=λb k=>(g b (BV _ (dn _ k))).1;have l:=Reach.back c (Reach.keeps (t:=tk) c k4) m.st m.pr (λb k=>(g b k).1) (λb k=>.inr k) (λb k o e=>by
  rcases k with k|k
  ·refine lW (g b k) λn p q n'=>?_;have e:h4.get? b=some o:=e;rw[q]at e;rw[<-dH e];exact n'
  ·exact absurd k.1 k.2);have r:=l.others (t:=t2) c fr (λb k=>m.nH b (dn _ k)) (m.ni f) j;have s:=m.nH D (cS ..);refine am (m.acc) λu d w=>?_;exact⟨s,r.tracked c (a:=D) (ao:=.list acc) (g D (BV _ (cS ..))).1 s (aY u u.length (j _ _ F.ne d) (w.ts (er (m.ni f) j)))⟩
theorem De{t:iw}{tg y iter:Expr}{scope:Scope}{pos:Pos}{d:List Expr}{tn:List (Str×Nat)}{e:Internal.E}{cond:GY}{sk:Sk}{it:Value}{s2:Shared}{ab:Value->Addr->Result->Shared->Prop}(hh:A.handled=none)(R:Rm A n)(g:Gx G U)(k:rh U scope tn)(a1:b0 t tg=some tn)(b2:aN N T Y hd n W e)(b3:ay N e (b9 U scope tn) y=true)(b4:ta N T Y hd n W (b9 U scope tn) d cond)(b7:jg W A tg sk G ρ H s (Pm λsame l=>jT t same cond (λO Q'=>WE T Y hd e O Q' (λf f=>False)) ρ l [] Q) it s2)(b':∀D C Z acc j,Reach W A G H s ρ (fU Z D (.list acc)) j->Q (.ref D) (fU Z D (.list acc))->s.heap.get? C=none->fU Z D (.list acc) C=none->(∃m,j.heap.Ns C m)->ab (.ref D) C (.ok .next) j):wpAny (model W.prog W.w) A (newList []) (λacc cc=>wpAny (model W.prog W.w) A (newFunctionEnv scope G.env.globals (jb G.env scope.names []) [] G.env.qual none .none (some G.env)) (λa2 cd=>codeAny (model W.prog W.w) A (.compStart (.ListComp y [⟨tg,iter,d,0⟩] scope pos) 0 it acc {a2 with scope:=relabel scope G.env}) (ab acc a2.locals) cd) E cc) E s2:=by
 refine aD ?_;intro ag;cases b7 with|mk v items J s1 I its It h' tk q r a3 fr p a4=>
 have u:=r.st;have al:∀{h:Heap}{b:Addr},(∀c o,s1.heap.get? c=some o->h.get? c=some o)->h.get? b=none->s1.heap.get? b=none:=λ{h b}k e=>by
  cases q:s1.heap.get? b with
  |none=>rfl|some o=>rw[k _ _ q]at e;cases e
 refine sJ (zr ?_);dsimp only;have B:∀b o,h'.get? b=some o->(h'.push {cls:=.type "list",dict:=none,data:=.seq ([]:List Value).toArray}).get? b=some o:=c7;have k0:∀b o,s1.heap.get? b=some o->(h'.push {cls:=.type "list",dict:=none,data:=.seq ([]:List Value).toArray}).get? b=some o:=λb o e=>B b o (a3 b o e);have a5:(h'.push {cls:=.type "list",dict:=none,data:=.seq ([]:List Value).toArray}).get? h'.objs.size=some {cls:=.type "list",data:=.seq ([]:List Value).toArray}:=gE _ rfl;have ce:h'.objs.size≠(h'.push {cls:=.type "list",dict:=none,data:=.seq ([]:List Value).toArray}).objs.size:=by rw[hU];exact g_ (iY _)
 have a6:h'.get? h'.objs.size=none:=bN;generalize h'.objs.size=D at*;generalize h'.push {cls:=.type "list",dict:=none,data:=.seq ([]:List Value).toArray}=K at*;have a7:=p.live 0 h' a4;have ck:=al a3 a6;refine fK (Av (s:={s1 with heap:=h',toks:=tk}) g k a1 (u.keeps (t:=tk) k0)) λcl kept own co ns=>?_;have cs:K.get? K.objs.size=none:=bN;have ct:(iW U G scope tn K.objs.size).env=compEnv scope G.env K.objs.size:=rfl;have a8:Gx (iW U G scope tn K.objs.size) (b9 U scope tn):=K_ g;have a':(iW U G scope tn K.objs.size).env.locals=K.objs.size:=rfl;generalize K.objs.size=C at*;generalize pushCells (K.push {cls:=.type "dict",data:=.dict #[]}) scope.names=h4 at*;generalize iW U G scope tn C=G' at*;have k4:∀b o,s1.heap.get? b=some o->h4.get? b=some o:=λb o e=>kept b o (k0 b o e);have ao:∀b∈D::its,s1.heap.get? b=none/\∃o,K.get? b=some o/\¬pV o:=λb L=>by
  rcases bB L with rfl|L;·exact eA ck _ a5 (bZ (c:="list") rfl (by decide) (by decide))
  ·refine am (a7 b L) λo e z=>?_;exact eA (fr b L) o (B _ _ e) z
 have F:gz W A G' D its:=by
  refine⟨λb L=>?_,λcv=>by refine am (a7 D cv) λo e f=>?_;rw[a6]at e;cases e⟩;refine lW (ao b L) λe o ba f=>?_;refine bz ?_ (λz=>?_) (λz=>?_)
  ·cases q:W.B.get? b with
   |none=>rfl|some o=>rw[u.base b o q]at e;cases e
  ·rcases co b z with z|z;·rw[(own b z).1]at ba;cases ba
   ·refine am (u.own_obj z) λbb M f=>?_;rw[e]at M;cases M
  ·refine ir (u.frs_obj z) λbb f f M f=>?_;rw[e]at M;cases M
 have cx:∀b∈G'.own++(D::its),s1.heap.get? b=none/\∃o,h4.get? b=some o/\¬pV o:=λb L=>by
  rcases sA L with L|L;·exact⟨al k0 (own b L).1,(own b L).2⟩
  ·refine lW (ao b L) λcD o cL cM=>?_;exact eA cD o (kept _ _ cL) cM
 have Pb:∀{O Z s'}{P:Value->Shared->Prop},DJ W A G' O Z s' (λf f=>False) P:=λ{O Z s' P}=>DJ.never (h:=λf f h=>h);have bd:It 0 h4:=p.frame 0 _ _ a4 (TS.of_keeps λb o e=>kept b o (B b o e)) λb f o e=>kept b o (B b o e);have ap:codeAny (model W.prog W.w) A (.compLoop (.ListComp y [⟨tg,iter,d,0⟩] scope pos) 0 (.ref I) (.ref D) G'.env) (ab (.ref D) C) {s1 with heap:=h4,toks:=tk}:=by
  refine xJ (vS W A G' J h4 D items its It (cP t ρ) λl acc=>jT t (b_ v J) cond (λO Q'=>WE T Y hd e O Q' (λf f=>False)) ρ l acc Q) (λm s' h=>?_) (items.length+1) ⟨0,[],J,_,cR _,bF _,⟨cl,.refl,bd,λb L=>u.freshH (ao b L).1,[],kept _ _ a5,.nil⟩,q.2⟩;refine aD ?_;intro ag;refine CN ?_;intro ag c0;refine Ja (ρ:=ρ) a8 hh (xF k a1) F p (λf f f f z=>z) (λf f z=>z) (λf f z=>z) (λi l acc bi da j ar hi m c1 bl=>?_) (λacc Z s' db t2 m bo q=>?_) h
  ·refine CN ?_;intro ag c0;have bs:∀{V X}{P:Value->Shared->Prop},St W A G' bi V X->Ctx hd n W (b9 U scope tn) A G' bi V X (λf f=>False) P:=λS=>⟨a8,S,R,(λf=>hh),Pb⟩;refine bE (b4 _ _ _ _ _ _ _ (bs m.st) c1) (λok X z=>?_) λf f z=>z;refine am z λV bv c2=>?_;try clear z
   have av:=m.go F p c2;cases ok;·exact bl acc V X (tY ar) av bv
   ·refine PE.step (b2 _ _ _ _ _ _ _ _ _ _ b3 (bs av.st) bv) λw x c3 dc c4 c5 a0=>?_;refine(av.go F p a0).app F p c5 (fm ar (cN hi q.1)) λdd c6=>bl _ c3 _ (by rw[lg];exact gb ar) c6 c4
  ·refine dA (C4 (tk:=tk) u k4 F p cx m (t2:=t2) bo) λc' a0=>?_;have b1:=m.turnS F p (t2:=t2) bo;refine b' D C Z acc _ (r.trans a0) (q.2.b D c') ?_ ?_ (by refine am (b1.vars) λm a f=>?_;rw[a']at a;exact⟨m,a⟩)
   ·cases e:s.heap.get? C with
    |none=>rfl|some o=>refine dE (r.pr.live C o e) λbb M=>?_;rw[al k0 cs]at M;cases M
   ·rw[ch (eE ce)];exact(b1.sepL C (a'▸cS ..)).1
 rw[ct]at ap;exact codeAny_compStart_list ap (p.self 0 _ _ _ bd ap)
theorem sX(d:dX W N){t:iw}{tg y iter:Expr}{scope:Scope}{pos p:Pos}{f:List Expr}{tn:List (Str×Nat)}{e g:Internal.E}{cond:GY}{sk:Sk}{use:Option (Value->Sem Unit)}{Q':Value->Shared->Prop}(hh:A.handled=none)(c:Ctx hd n W U A G ρ H s X E)(hs:aN N T Y hd n W g)(h:aN N T Y hd n W e)(i:b0 t tg=some tn)(k:oQ U scope tn=true)(j:CR sk t=true)(o:oK U sk (ay N g U) iter=true)(q:ay N e (b9 U scope tn) y=true)(r:ta N T Y hd n W (b9 U scope tn) f cond)(hw:WE T Y hd g ρ (λv=>gc sk v λsame l=>jT t same cond (λO Q'=>WE T Y hd e O Q' (λu u=>False)) ρ l [] Q) X H)(w:∀D C Z acc B,Reach W A G H s ρ (fU Z D (.list acc)) B->Q (.ref D) (fU Z D (.list acc))->s.heap.get? C=none->fU Z D (.list acc) C=none->(∃m,B.heap.Ns C m)->compPost (model W.prog W.w) A E use Q' (.ref D) C (.ok .next) B):wpAny (model W.prog W.w) A (comprehension (.ListComp y [⟨tg,iter,f,0⟩] scope pos) scope G.env p (newList []) false (eval iter G.env) use) Q' E s:=by have K:=CY k;refine dA (zM d hs hh j i o c hw) λk1 k2=>?_;refine wpAny_comprehension_free (use:=use) rfl k2 (tj (vd c.S c.g K)) K.kind (λx hx e=>bu K.nd (by obtain⟨a,b⟩:=x;dsimp only at e;rw[<-e];exact hx)) (bE k1 (λF s1 z=>bE z (λit s2 z=>?_) λu u z=>z) λu u z=>z);exact De hh c.R c.g K i h q r z w
theorem uf{D C:Addr}{Z:Hp}{acc:List V}{a:Shared}(S:St W A G ρ H s)(r:Reach W A G H s ρ (fU Z D (.list acc)) a)(q:Q (.ref D) (fU Z D (.list acc)))(c:s.heap.get? C=none)(d:fU Z D (.list acc) C=none)(f:∃m,a.heap.Ns C m):compPost (model W.prog W.w) A E none (PE W A G ρ H s Q) (.ref D) C (.ok .next) a:=by
 refine dE f λm g=>?_;try clear f
 refine an m g (λh' h=>aL _ _ q (.ref) ?_);refine r.others (t:=a.toks) S (its:=[C]) (λb i=>by rw[cO i];exact c) (λb i=>by rw[cO i];exact d) (λb i o e=>?_) λb o j e=>h.extBut b o (by simpa using j) e;rw[cO i]at e;refine bw g λk l ep ho hd n=>?_;try clear g
 rw[e]at ho;rw[dH ho];exact bc hd
theorem BE(a:dX W N){b d:Internal.E}{t:iw}{sk:Sk}(hs:aN N T Y hd n W d)(e:aN N T Y hd n W b):aN N T Y hd n W (.comp b t sk d):=λU x A G ρ H s Q X E f c hw=>by
 refine yj f λy tg iter scope p tn g h i=>?_;rw[g]
 ··refine dA (fX i) ?_;rintro⟨⟨j,k⟩,l⟩h4;refine dA (rW.e hw) ?_;try clear hw;rintro m hw
   rw[eval_ListComp];exact sX a (c.hh m) c hs e h j k l h4 zj hw λD C Z acc o r q u v w=>uf c.S r q u v w
theorem uo(a:dX W N){b d e:Internal.E}{t:iw}{sk:Sk}(hs:aN N T Y hd n W d)(f:aN N T Y hd n W b)(g:lQ N T Y hd n W e):aN N T Y hd n W (.compIf b t sk d e):=λU x A G ρ H s Q X E h c hw=>by
 refine q8 h λy tg iter i scope p tn j k l=>?_;rw[j]
 ··refine dA (aO l) λl m=>?_;refine dA (fX l) ?_;rintro⟨⟨o,u⟩,v⟩h4;refine dA (rW.e hw) ?_;try clear hw;rintro w hw
   rw[eval_ListComp];exact sX a (c.hh w) c hs f k o u v h4 (zn g m) hw λD C Z acc z r q B F I=>uf c.S r q B F I
theorem DE{nm:Str}{i:Nat}{np:Pos}{D C:Addr}{Z:Hp}{acc:List V}{c:Shared}(S:St W A G ρ H s)(hx:G.vs.lookup nm=some i)(d:nm∈G.st)(r:Reach W A G H s ρ (fU Z D (.list acc)) c)(q:nx (bM ρ i (.ref D)) (fU Z D (.list acc)))(f:s.heap.get? C=none)(g:fU Z D (.list acc) C=none)(h:∃m,c.heap.Ns C m):compPost (model W.prog W.w) A E (some (assign (.Name nm np) G.env)) (λj s'=>PF W A G H s nx ct rt .next s') (.ref D) C (.ok .next) c:=by
 refine dE h λm k=>?_;try clear h
 refine(?_:wpAny _ A (assign (.Name nm np) G.env (.ref D)) _ _ _);refine aD ?_;intro l;refine PyProof.Rows.assign_Name (bE (fJ r.st hx d (.ref (a:=D))) (λj n p=>?_) λj j z=>z);have u:C∉ownOf G.env:=λz=>by refine am (S.own_obj z) λo e j=>?_;rw[f]at e;cases e
 have v:C∉aX A:=λz=>by refine ir (S.frs_obj z) λo j j e j=>?_;rw[f]at e;cases e
 refine bw k λo w ep ho hd hr=>?_;try clear k
 have x:n.heap.get? C=some o:=p.pr.keep C o ho g (λz=>u (S.ownSub _ z)) v;refine an m (dU o w ep x hd hr) (λh' y=>aY _ _ q ?_);have B:Reach W A G H s (bM ρ i (.ref D)) (fU Z D (.list acc)) n:=⟨p.st,r.pr.trans p.pr⟩;refine B.others (t:=n.toks) S (its:=[C]) (λb F=>by rw[cO F];exact f) (λb F=>by rw[cO F];exact g) (λb F I e=>?_) λb o J e=>y.extBut b o (by simpa using J) e;rw[cO F,x]at e;rw[<-dH e];exact bc hd
theorem zQ{e:Expr}{gens:List Comprehension}{scope:Scope}{pos np:Pos}{nm:Str}{l:Nat}{env:Env}:swapsWith (.ListComp e gens scope pos) (some (.Name nm np)) l env=pure true\/swapsWith (.ListComp e gens scope pos) (some (.Name nm np)) l env=pure false:=by
 generalize a:(env.blockKind==.function&&env.kindOf nm==some .local&&np.line==(Expr.ListComp e gens scope pos).pos.line&&!(scope.names.any λ(n,k)=>n==nm&&(k==.local||k==.cell)))=b;have:swapsWith (.ListComp e gens scope pos) (some (.Name nm np)) l env=pure b:=by rw[<-a];rfl
 cases b;·exact .inr this
 ·exact .inl this
theorem xt(a:dX W N){nm:Str}{i:Nat}{np b:Pos}{t:iw}{tg y iter:Expr}{scope:Scope}{pos:Pos}{d:List Expr}{tn:List (Str×Nat)}{e f g:Internal.E}{cond:GY}{sk:Sk}(c:nQ hd n W U A G ρ H s ex E)(h:U.vs.lookup nm=some i)(j:U.st.contains nm=true)(m:aN N T Y hd n W g)(o:ay N g U (.ListComp y [⟨tg,iter,d,0⟩] scope pos)=true)(p:WE T Y hd g ρ (λv=>nx (bM ρ i v)) (ex ρ) H)(hh:A.handled=none)(hs:aN N T Y hd n W f)(u:aN N T Y hd n W e)(x:b0 t tg=some tn)(k:oQ U scope tn=true)(B:CR sk t=true)(F:oK U sk (ay N f U) iter=true)(I:ay N e (b9 U scope tn) y=true)(K:ta N T Y hd n W (b9 U scope tn) d cond)(hw:WE T Y hd f ρ (λv=>gc sk v λsame l=>jT t same cond (λO Q'=>WE T Y hd e O Q' (λL L=>False)) ρ l [] λv=>nx (bM ρ i v)) (ex ρ) H):wpAny (model W.prog W.w) A (exec (.Assign [.Name nm np] (.ListComp y [⟨tg,iter,d,0⟩] scope pos) b) G.env) (PF W A G H s nx ct rt) E s:=by
 refine aD ?_;intro ab;have hx:G.vs.lookup nm=some i:=by rw[c.g.vs];exact h
 have M:nm∈G.st:=by rw[c.g.st];simpa using j
 rcases zQ (e:=y) (gens:=[⟨tg,iter,d,0⟩]) (scope:=scope) (pos:=pos) (np:=np) (nm:=nm) (l:=b.line) (env:=G.env)with P|P
 ·rw[exec_Assign_Name_used _ _ _ _ P];refine aQ (kG (aQ ?_));refine(?_:wpAny _ A (do let _<-comprehension (.ListComp y [⟨tg,iter,d,0⟩] scope pos) scope G.env _ (newList []) false (eval iter G.env) (some (assign (.Name nm np) G.env))) _ _ s);refine aQ (bE (sX a (use:=some (assign (.Name nm np) G.env)) (Q':=λL s'=>PF W A G H s nx ct rt .next s') (Q:=λv=>nx (bM ρ i v)) hh c.expr hs u x k B F I K hw λD C Z acc ag r q R S V=>DE c.S hx M r q R S V) (λL s' X=>bg (bg X)) λL L e=>e)
 ·refine wpAny_Assign_Name (PE.step (m _ _ _ _ _ _ _ _ _ _ o c.expr p) λal v J s1 q w r=>?_) P;refine bE (fJ r.st hx M w) (λL s2 z=>?_) λL L z=>z;exact aY _ _ q (r.trans z)
theorem Aa(a:dX W N){i:Nat}{b d:Internal.E}{t:iw}{sk:Sk}(hs:aN N T Y hd n W d)(e:aN N T Y hd n W b):nN N T Y hd n W (.asg i (.comp b t sk d)):=λU x A G ρ H s nx ct rt ex E f c hw=>by
 refine aD ?_;intro g;refine mO f λnm h v p j f=>?_;rw[j]
 ·refine dA (gK f) ?_;rintro⟨k,l⟩m;replace k:=ci k;have o:=m;have q:=hw;refine yj m λy tg iter scope p tn j r u=>?_;subst j
  ··refine dA (fX u) ?_;rintro⟨⟨k1,k2⟩,k3⟩k4;refine dA (rW.e hw) ?_;try clear hw;rintro w hw
    exact xt a c k l (BE a hs e) o q (c.hh w) hs e r k1 k2 k3 k4 zj hw
theorem wu(a:dX W N){i:Nat}{b d e:Internal.E}{t:iw}{sk:Sk}(hs:aN N T Y hd n W d)(f:aN N T Y hd n W b)(g:lQ N T Y hd n W e):nN N T Y hd n W (.asg i (.compIf b t sk d e)):=λU x A G ρ H s nx ct rt ex E h c hw=>by
 refine aD ?_;intro j;refine mO h λnm k v p l h=>?_;rw[l]
 ·refine dA (gK h) ?_;rintro⟨m,o⟩q;replace m:=ci m;have r:=q;have u:=hw;refine q8 q λy tg iter w scope p tn l z B=>?_;subst l
  ··refine dA (aO B) λB k5=>?_;refine dA (fX B) ?_;rintro⟨⟨k1,k2⟩,k3⟩k4;refine dA (rW.e hw) ?_;try clear hw;rintro C hw
    exact xt a c m o (uo a hs f g) r u (c.hh C) hs f z k1 k2 k3 k4 (zn g k5) hw
end Mine.Internal
namespace Mine.Internal
open PySem PySem.W PyProof.Rows PySem.Calls
noncomputable def oN{α:Type}(lt:Nat->Nat->Bool):KasT α->α|.ret a=>a|.ask i j k=>oN lt (k (lt i j))
noncomputable def H_{α:Type}(n:Nat)(lt:Nat->Nat->Bool):KasT α->Bool|.ret _=>true|.ask i j k=>decide (i<n)&&decide (j<n)&&H_ n lt (k (lt i j))
noncomputable def lx:Nat->List Nat->List (List Nat)|0,_=>[[]]|n+1,l=>l.flatMap λx=>(lx n (l.erase x)).map (x::·)
theorem Ji{n:Nat}{l:List Nat}:lx (n+1) l=l.flatMap λx=>(lx n (l.erase x)).map (x::·):=rfl
theorem K9{α:Type}{lt:Nat->Nat->Bool}{i j:Nat}{k:Bool->KasT α}:oN lt (.ask i j k)=oN lt (k (lt i j)):=rfl
theorem Et{α:Type}{n:Nat}{lt:Nat->Nat->Bool}{i j:Nat}{k:Bool->KasT α}:H_ n lt (.ask i j k)=(decide (i<n)&&decide (j<n)&&H_ n lt (k (lt i j))):=rfl
theorem Di:∀{σ l:List Nat},σ.Nodup->(∀x∈σ,x∈l)->l.Nodup->σ∈lx σ.length l:=by intro σ;induction σ with|nil=>intro l _ _ _;exact Ch rfl|cons x σ a=>intro l nd hs b;simp only[List.nodup_cons]at nd;have hx:=hs x (cS ..);have c:=a (l:=l.erase x) nd.2 (λy d=>by rw[List.Nodup.mem_erase_iff b];exact⟨λe=>nd.1 (e▸d),hs y (dn _ d)⟩) (b.erase x);refine(?_:_∈lx (σ.length+1) l);rw[Ji];exact List.mem_flatMap.mpr (an x hx (cY (an σ c rfl)))
noncomputable def eG(n:Nat)(σ:List Nat):Bool:=let lt:=λi j=>decide (σ.getD i 0<σ.getD j 0);H_ n lt (kas_sort n)&&((oN lt (kas_sort n)).toList.map (λi=>σ.getD i 0)==List.range n)&&(oN lt (kas_sort n)).toList.all (λi=>decide (i<n))
theorem Ma:(lx 2 (List.range 2)).all (eG 2)=true:=by decide+kernel
theorem Ki:(lx 3 (List.range 3)).all (eG 3)=true:=by decide+kernel
theorem KE:(lx 4 (List.range 4)).all (eG 4)=true:=by decide+kernel
theorem Kj:(lx 5 (List.range 5)).all (eG 5)=true:=by decide+kernel
theorem Mn:(lx 6 (List.range 6)).all (eG 6)=true:=by decide+kernel
theorem sr{α:Type}{n:Nat}{lt lt':Nat->Nat->Bool}(h:∀i j,i<n->j<n->lt i j=lt' i j):∀(t:KasT α),H_ n lt' t=true->oN lt t=oN lt' t/\H_ n lt t=true
 |.ret a,_=>⟨rfl,rfl⟩|.ask i j k,b=>by
  simp only[Et,Bool.and_eq_true,decide_eq_true_eq]at b;refine dA b ?_;try clear b;rintro⟨hi,hj⟩b
  have e:=h i j hi hj;have c:=sr h (k (lt' i j)) b;simp only[K9,Et,e,hi,hj,decide_true,Bool.true_and];exact c
theorem tW{α:Type}{n:Nat}{lt:Nat->Nat->Bool}{cmp:Nat->Nat->(Bool->Shared->Prop)->Shared->Prop}{Q:α->Shared->Prop}{s:Shared}(b:∀i j C,i<n->j<n->C (lt i j) s->cmp i j C s):∀(t:KasT α),H_ n lt t=true->Q (oN lt t) s->t.kasWp cmp Q s|.ret a,_,q=>q|.ask i j k,c,q=>by simp only[Et,Bool.and_eq_true,decide_eq_true_eq]at c;exact b i j _ c.1.1 c.1.2 (tW b (k (lt i j)) c.2 q)
theorem IM:∀{σ l:List Nat},σ.Nodup->(∀x∈σ,x∈l)->l.Nodup->σ.length=l.length->σ.Perm l:=by intro σ;induction σ with|nil=>intro l _ _ _ h;have:l=[]:=Es h.symm;subst this;exact .nil|cons x σ a=>intro l nd hs b h;simp only[List.nodup_cons]at nd;have hx:=hs x (cS ..);have c:(l.erase x).length=l.length-1:=List.length_erase_of_mem hx;have d:0<l.length:=List.length_pos_of_mem hx;have f:=a (l:=l.erase x) nd.2 (λy g=>by rw[List.Nodup.mem_erase_iff b];exact⟨λe=>nd.1 (e▸g),hs y (dn _ g)⟩) (b.erase x) (by rw[c];simp at h;lia);exact(f.cons x).trans (List.perm_cons_erase hx).symm
theorem yU{p q:Nat->Bool}:∀{l:List Nat},(∀x∈l,p x=true->q x=true)->(∃x∈l,p x=false/\q x=true)->(l.filter p).length<(l.filter q).length:=by
 intro l;induction l with
 |nil=>intro _ h;refine am h λx hx a=>?_;try clear h;cases hx|cons y l b=>
  intro hi h;have le:∀{l:List Nat},(∀x∈l,p x=true->q x=true)->(l.filter p).length<=(l.filter q).length:=by
   intro l;induction l with|nil=>intro _;simp|cons z l c=>intro hz;have c:=c λx hx=>hz x (dn _ hx);have d:=hz z (cS ..);simp only[List.filter_cons];cases e1:p z<;>cases e2:q z<;>simp only[e1,e2,if_true,if_false,List.length_cons,Bool.false_eq_true]at d⊢<;>first|lia|(exact absurd (d aJ) (by simp))
  have e:=le λx hx=>hi x (dn _ hx);have f:=hi y (cS ..);refine aT h λx hx g i=>?_;try clear h
  simp only[List.filter_cons];rcases bB hx with rfl|hx;·rw[g,i];simp;lia
  ·have c:=b (λx hx=>hi x (dn _ hx)) (cW x hx g i);cases e1:p y<;>cases e2:q y<;>simp only[e1,e2,if_true,if_false,List.length_cons,Bool.false_eq_true]at f c⊢<;>first|lia|(exact absurd (f aJ) (by simp))
theorem CV{n:Nat}(a:2<=n)(b:n<=6){σ:List Nat}(c:σ.length=n)(nd:σ.Nodup)(hr:∀x∈σ,x<n):eG n σ=true:=by
 have d:=Di (l:=List.range n) nd (λx hx=>eM (hr x hx)) List.nodup_range;rw[c]at d;have k:n=2\/n=3\/n=4\/n=5\/n=6:=by lia
 rcases k with rfl|rfl|rfl|rfl|rfl;·exact dN Ma _ d
 ·exact dN Ki _ d
 ·exact dN KE _ d
 ·exact dN Kj _ d
 ·exact dN Mn _ d
theorem yk{n:Nat}(c:2<=n)(d:n<=6){lt:Nat->Nat->Bool}(f:∀i,i<n->lt i i=false)(g:∀i j k,i<n->j<n->k<n->lt i j=true->lt j k=true->lt i k=true)(l:∀i j,i<n->j<n->i≠j->lt i j=true\/lt j i=true):H_ n lt (kas_sort n)=true/\(oN lt (kas_sort n)).toList.Perm (List.range n)/\(oN lt (kas_sort n)).toList.Pairwise (λi j=>lt i j=true):=by
 let m:Nat->Nat:=λi=>((List.range n).filter (λj=>lt j i)).length;have o:∀i j,i<n->j<n->(lt i j=true↔m i<m j):=by
  have p:∀i j,i<n->j<n->lt i j=true->m i<m j:=λi j hi hj h=>by refine yU (λx hx r=>g x i j (gi hx) hi hj r h) (cW i (eM hi) (f i hi) h)
  intro i j hi hj;refine⟨p i j hi hj,λh=>?_⟩;by_cases e:i=j;·subst e;exact absurd h (gW _)
  ·rcases l i j hi hj e with q|q;·exact q
   ·exact absurd (p j i hj hi q) (by lia)
 have s:∀i,i<n->m i<n:=λi hi=>by have:m i<((List.range n).filter (λt=>true)).length:=yU (λt t t=>rfl) (cW i (eM hi) (f i hi) rfl);rw[List.filter_eq_self.mpr (λt t=>rfl),bf]at this;exact this
 have u:∀i j,i<n->j<n->m i=m j->i=j:=λi j hi hj h=>by
  by_cases e:i=j;·exact e
  ·rcases l i j hi hj e with q|q;·have:=(o i j hi hj).mp q;lia
   ·have:=(o j i hj hi).mp q;lia
 have v:((List.range n).map m).length=n:=by simp
 have w:∀i,i<n->((List.range n).map m).getD i 0=m i:=λi hi=>by simp[List.getD,hi]
 have y:((List.range n).map m).Nodup:=by unfold List.Nodup;rw[List.pairwise_map];refine List.Pairwise.imp_of_mem (λ{a b}A B C=>?_) (List.nodup_range (n:=n));exactλe=>C (u a b (gi A) (gi B) e)
 have hw:=CV c d v y (λx hx=>by refine am (dm hx) ?_;rintro i hi rfl;exact s i (gi hi));unfold eG at hw;simp only[Bool.and_eq_true,beq_iff_eq,List.all_eq_true,decide_eq_true_eq]at hw;refine dA hw ?_;try clear hw;rintro⟨w1,w2⟩w3
 have D:∀i j,i<n->j<n->lt i j=decide (((List.range n).map m).getD i 0<((List.range n).map m).getD j 0):=λi j hi hj=>by
  rw[w i hi,w j hj];have:=o i j hi hj;cases e:lt i j;·exact(b5 λz=>by rw[this.mpr z]at e;cases e).symm
  ·exact(bC (this.mp e)).symm
 refine dA (sr D (kas_sort n) w1) λe1 e2=>?_;rw[<-e1]at w2;rw[<-e1]at w3;generalize (oN lt (kas_sort n)).toList=out at*;have E:out.map m=List.range n:=by rw[<-w2];exact f9 λi hi=>(w i (w3 i hi)).symm
 have F:out.length=n:=by have:=ak List.length E;simpa using this
 have G:out.Nodup:=by
  have:(out.map m).Nodup:=by rw[E];exact List.nodup_range
  unfold List.Nodup at this;rw[List.pairwise_map]at this;exact this.imp λh e=>h (by rw[e])
 refine bz e2 (IM G (λx hx=>eM (w3 x hx)) List.nodup_range (by simp[F])) ?_;have r:(out.map m).Pairwise (·<·):=by rw[E];exact List.pairwise_lt_range
 rw[List.pairwise_map]at r;exact r.imp_of_mem λ{a b}A B h=>(o a b (w3 a A) (w3 b B)).mpr h
theorem qW{α:Type}{le:α->α->Bool}{x:α}:∀{l:List α},(li le x l).Perm (x::l):=by
 intro r;induction r with
 |nil=>exact .refl _|cons y r a=>
  rw[qC];split;·exact .refl _
  ·exact((a).cons y).trans (.swap ..)
theorem cm{α:Type}{le:α->α->Bool}:∀{l:List α},(dz le l).Perm l:=by intro r;induction r with|nil=>exact .refl _|cons x r a=>exact qW.trans ((a).cons x)
theorem vO{α:Type}{le:α->α->Bool}(d:∀a b,le a b=true\/le b a=true)(e:∀a b c,le a b=true->le b c=true->le a c=true){x:α}:∀{l:List α},l.Pairwise (λa b=>le a b=true)->(li le x l).Pairwise (λa b=>le a b=true):=by
 intro r;induction r with
 |nil=>intro _;simp[li]|cons y r f=>
  intro h;refine dA (List.pairwise_cons.mp h) λg i=>?_;rw[qC];by_cases q:le x y=true
  ·rw[aE q];exact BI ⟨λz hz=>by
    rcases bB hz with rfl|hz;·exact q
    ·exact e _ _ _ q (g z hz),h⟩
  ·rw[aA q];refine BI ⟨λz hz=>?_,f i⟩;rcases bB (qW.mem_iff.mp hz)with rfl|hz;·exact(d _ _).resolve_left q
   ·exact g z hz
theorem iy{α:Type}{le:α->α->Bool}(d:∀a b,le a b=true\/le b a=true)(e:∀a b c,le a b=true->le b c=true->le a c=true):∀{l:List α},(dz le l).Pairwise (λa b=>le a b=true)|[]=>.nil|_::_=>vO d e (iy d e)
theorem iC{α:Type}{le:α->α->Bool}(d:∀a b,le a b=true\/le b a=true)(e:∀a b c,le a b=true->le b c=true->le a c=true)(f:∀a b,le a b=true->le b a=true->a=b){q p:List α}(g:q.Perm p)(hs:q.Pairwise (λa b=>le a b=true)):q=dz le p:=List.Perm.eq_of_pairwise (λa b h h i j=>f a b i j) hs (iy d e) (g.trans cm.symm)
theorem dy{x y:Int×Int}:bV x y=true↔x.1<y.1\/(x.1=y.1/\x.2<=y.2):=by simp[bV]
theorem mc(a b:Int×Int):bV a b=true\/bV b a=true:=by
 rw[dy,dy];rcases Int.lt_trichotomy a.1 b.1 with h|h|h;·exact .inl (.inl h)
 ·exact(Int.le_total a.2 b.2).imp (λk=>.inr ⟨h,k⟩) λk=>.inr ⟨h.symm,k⟩
 ·exact .inr (.inl h)
theorem oh(a b c:Int×Int):bV a b=true->bV b c=true->bV a c=true:=by
 rw[dy,dy,dy];rintro(h|h)(k|k);·exact .inl (Int.lt_trans h k)
 ·exact .inl (k.1▸h)
 ·exact .inl (h.1▸k)
 ·exact .inr ⟨h.1.trans k.1,jZ h.2 k.2⟩
theorem pi(a b:Int×Int):bV a b=true->bV b a=true->a=b:=by simp only[dy];intro c d;exact Prod.ext (by lia) (by lia)
theorem zW{p:List (Int×Int)}(a:2<=p.length)(b:p.length<=6)(nd:p.Nodup):H_ p.length (λi j=>bV (p.getD i (0,0)) (p.getD j (0,0))&&!(p.getD i (0,0)==p.getD j (0,0))) (kas_sort p.length)=true/\(oN (λi j=>bV (p.getD i (0,0)) (p.getD j (0,0))&&!(p.getD i (0,0)==p.getD j (0,0))) (kas_sort p.length)).toList.map (λi=>p.getD i (0,0))=dz bV p/\∀i∈(oN (λi j=>bV (p.getD i (0,0)) (p.getD j (0,0))&&!(p.getD i (0,0)==p.getD j (0,0))) (kas_sort p.length)).toList,i<p.length:=by
 refine lz (yk (n:=p.length) a b (lt:=λi j=>bV (p.getD i (0,0)) (p.getD j (0,0))&&!(p.getD i (0,0)==p.getD j (0,0))) (λi hi=>by simp) (λi j k c c c d f=>by simp only[Bool.and_eq_true,Bool.not_eq_true',beq_eq_false_iff_ne]at d f⊢;refine⟨oh _ _ _ d.1 f.1,λe=>d.2 (pi _ _ d.1 (e▸f.1))⟩)
  (λi j hi hj ne=>by
    have g:p.getD i (0,0)≠p.getD j (0,0):=λe=>ne (by
     have e1:p.getD i (0,0)=p[i]:=by simp[hi]
     have e2:p.getD j (0,0)=p[j]:=by simp[hj]
     rw[e1,e2]at e;exact(List.getElem_inj nd).mp e);simp only[Bool.and_eq_true,Bool.not_eq_true',beq_eq_false_iff_ne];rcases mc (p.getD i (0,0)) (p.getD j (0,0))with q|q;·exact .inl ⟨q,g⟩
    ·exact .inr ⟨q,g.symm⟩)) λl m o=>?_;refine bz l (iC mc oh pi ?_ ?_) (λi hi=>gi (m.mem_iff.mp hi))
 ·refine(m.map _).trans (List.Perm.of_eq ?_);apply ut;intro i;by_cases hi:i<p.length;·simp[hi]
  ·simp[hi]
 ·rw[List.pairwise_map];exact o.imp λh=>by simp only[Bool.and_eq_true]at h;exact h.1
variable{W:Wd}{A:Around}{G:Fc}{ρ ρ1:aR}{H J:Hp}{s s1:Shared}{Q:QV}{X:QX}{E:Value->Shared->Prop}
variable{N:Nm}{T:cA}{Y:kC}{hd:Bool}{n:Nat}{U:Cx}{nx ct:QR}{rt:QV}{ex:QE}
theorem HZ{a:EL}(b:zq N T Y hd n W a){d:List Expr}{pos:Pos}{f:Value}{Ql:List V->Hp->Prop}{P:Value->Shared->Prop}(g:(∃id,f=.builtin id)\/∃t,f=.type t)(h:dg N a U d=true)(c:Ctx hd n W U A G ρ H s X E)(hw:Bj T Y hd a ρ Ql X H)(k:∀avs i J s1,Ql avs J->bj s1.heap avs i->Reach W A G H s ρ J s1->wpAny (model W.prog W.w) A (call f i) P E s1):wpAny (model W.prog W.w) A (callWith pos f [] (backTo pos (starEach d G.env)) []) P E s:=by
 have j:wpAny (model W.prog W.w) A (spliced (backTo pos (starEach d G.env))) (λvs s1=>wpAny (model W.prog W.w) A (call f vs) P E s1) E s:=by
  refine bE (b _ _ _ _ _ _ _ _ _ _ pos h c hw) (λvs s1 z=>?_) λl l z=>z;refine aW z λavs J q w r=>?_;try clear z
  exact k avs vs J s1 q w r
 cases d with
 |nil=>
  have m:wpAny (model W.prog W.w) A (call f []) P E s:=by
   cases a with|cons=>exact no h|nil=>exact k [] [] H s hw .nil (Reach.refl c.S)
  rcases g with⟨id,rfl⟩|⟨t,rfl⟩;·exact callWith_builtin rfl (evalArgs_nil3 m)
  ·exact PyProof.Rows.callWith_type rfl (evalArgs_nil3 m)|cons y d=>
  have o:=h;cases a with
  |nil=>exact no h|cons e r=>
   have o:=aO o;rcases g with⟨id,rfl⟩|⟨t,rfl⟩;·exact PyProof.Rows.callWith_builtin1 j (ax (bS o.1)) (hV o.2)
   ·exact F7 j (ax (bS o.1)) (hV o.2)
theorem iM{h:Heap}{a:V}{b:List Value}(v:bj h [a] b):∃x,b=[x]/\VR h a x:=by refine bj.eCons v λx xs c v=>?_;refine bj.eNil v ?_;exact an x rfl c
theorem Dw{h:Heap}{a b:V}{c:List Value}(v:bj h [a,b] c):∃x y,c=[x,y]/\VR h a x/\VR h b y:=by refine bj.eCons v λx xs d v=>?_;(refine am (iM v) ?_;rintro y e;rw[e];rintro f);exact aL x y rfl d f
theorem OL{h:Heap}{a b c:V}{d:List Value}(v:bj h [a,b,c] d):∃x y z,d=[x,y,z]/\VR h a x/\VR h b y/\VR h c z:=by refine bj.eCons v λx xs e v=>?_;(refine aW (Dw v) ?_;rintro y z f;rw[f];rintro g i);exact fA x y z rfl e g i
theorem intsAre_of{h:Heap}:∀{p:List Int}{a:List Value},bj h (p.map .int) a->IntsAre a p:=by intro p;induction p with|nil=>intro _ v;refine bj.eNil v ?_;exact .nil|cons i p c=>intro _ v;refine bj.eCons v λx xs w b=>?_;refine VR.eInt w λt=>?_;exact .cons _ _ (c b)
theorem o7{h:Heap}:∀{a:List Value}{p:List Int},IntsAre a p->bj h (p.map .int) a|_,_,.nil=>.nil|_,_,.cons _ _ r=>.cons .int (o7 r)
noncomputable def oS(W:Wd)(b:Bi)(f:Value):Prop:=∀(A:Around)(G:Fc)(ρ:aR)(H:Hp)(s:Shared)(Q:QV)(E:Value->Shared->Prop)(avs:List V)(a:List Value),(b≠.len->A.handled=none)->Rm A 0->St W A G ρ H s->bj s.heap avs a->C8 b avs Q H->wpAny (model W.prog W.w) A (call f a) (PE W A G ρ H s Q) E s
theorem KW:oS W .abs (.builtin "abs"):=λA G ρ H s Q E avs a hh R S v hw=>by
 refine am hw ?_;try clear hw;rintro x rfl hw
 (refine am (iM v) ?_;rintro _ b;rw[b];rintro r);refine VR.eInt r λt=>?_;exact PyProof.Rows.call_abs_int λu tk=>PE.tok S hw .int
theorem Lu:oS W .int (.type "int"):=λA G ρ H s Q E avs a hh R S v hw=>by
 refine am hw ?_;try clear hw;rintro x rfl hw
 (refine am (iM v) ?_;rintro _ b;rw[b];rintro r);obtain rfl:(_:Value)=Value.bool x:=r.i;exact PySem.call_int_bool (PE.tok S hw .int)
theorem uB{x:Int}{k:Nat}(h:x.natAbs<2^(k+1)):x.natAbs.log2<=k:=by
 by_cases q:x.natAbs=0;·rw[q];exact cR _
 ·exact qh ((Nat.log2_lt q).mpr h)
theorem LV:oS W .str (.type "str"):=λA G ρ H s Q E avs a hh R S v hw=>by
 refine xW hw ?_;try clear hw;rintro x rfl b c hw
 (refine am (iM v) ?_;rintro _ d;rw[d];rintro r);refine VR.eInt r λt=>?_;refine dE (Int.eq_ofNat_of_zero_le b) ?_;rintro n rfl;have e:n<10:=eY c;refine P.str_of_int (fm (uB (k:=4) (jk e (by decide))) (by decide)) (PE.tok S hw (.str ?_));have k:∀n:Nat,n<10->(Str.ofString (toString (n:Int))).cps.toList=[48+n]:=by decide+kernel
 exact k n e
theorem y7{a b c:Int}(d:-(2^60)<=a)(e:a<2^60)(f:-(2^60)<=b)(h4:b<2^60)(g:0<c)(i:c<2^60):Builtin.Range.small a b c=true:=by
 unfold Builtin.Range.small Builtin.Range.rangeSize;simp only[Builtin.Range.rangeFitsLong,Bool.and_eq_true,Bool.or_eq_true,decide_eq_true_eq,beq_iff_eq,gt_iff_lt,g,if_true];have L:∀{x:Int},-(2^60)<=x->-2^63<=x:=λh=>jZ (by decide) h;have j:∀{x:Int},x<2^60->x<2^63:=λh=>y8 h (by decide);have C:=And.intro (And.intro (And.intro (L d) (j e)) (And.intro (L f) (j h4))) (And.intro (jZ (by decide:-2^63<=(0:Int)) (nB g)) (j i));split
 ·have k:0<=(b-a-1)/c:=Int.ediv_nonneg (by lia) (nB g);have l:(b-a-1)/c<=b-a-1:=Int.ediv_le_self _ (by lia);generalize (b-a-1)/c=q at*;exact⟨⟨C,jZ (by decide) (nB (Int.lt_add_one_of_le k)),by lia⟩,.inr ⟨by lia,by lia⟩⟩
 ·exact⟨⟨C,by decide,by decide⟩,.inl rfl⟩
theorem D7:oS W .range (.type "range"):=λA G ρ H s Q E avs d hh R S v hw=>by
 have f:∀{a b c:Int}{t u v:Tok}{tk:Nat},Q (.rng a b c) H->Builtin.Range.small a b c=true/\0<c->PE W A G ρ H s Q (.ref s.heap.objs.size) {s with heap:=s.heap.push {cls:=.type "range",data:=.fields #[.int a t,.int b u,.int c v]},toks:=tk}:=λ{a b c t u v tk}g hs=>by refine aL _ _ g (.rng (t:=t) (u:=u) (v:=v) ?_ hs) (Reach.keeps S λb o e=>cn _ e);exact gE _ rfl
 rcases hw with⟨b,rfl,h,i,hw⟩|⟨a,b,rfl,h,i,j,h4,hw⟩|⟨a,b,c,rfl,h,i,j,h4,l,m,hw⟩
 ·(refine am (iM v) ?_;rintro _ n;rw[n];rintro r);refine VR.eInt r λt=>?_;exact PySem.call_range_1 (f hw ⟨small_one (by decide) (by decide) h i,by decide⟩)
 ·(refine aW (Dw v) ?_;rintro _ _ p;rw[p];rintro r u);refine VR.eInt r λt=>?_;refine VR.eInt u λq=>?_;exact PySem.call_range_2 (f hw ⟨small_one h i j h4,by decide⟩)
 ·(refine c_ (OL v) ?_;rintro _ _ _ w;rw[w];rintro r u z);refine VR.eInt r λt=>?_;refine VR.eInt u λq=>?_;refine VR.eInt z λt2=>?_;exact PySem.call_range_3 (Int.ne_of_gt l) (f hw ⟨y7 (jZ (by decide) h) i j h4 l m,l⟩) (.inl (PyProof.noPylong_of_log2 (fm (uB (k:=59) (by omega)) (by decide))))
theorem Mb:oS W .min (.builtin "min"):=λA G ρ H s Q E avs b hh R S v hw=>by
 have hh:=hh nofun;refine aT (S.fr) λm F c d=>?_;rcases hw with⟨x,y,rfl,hw⟩|⟨a,p,rfl,e,f,g,hw⟩
 ·(refine aW (Dw v) ?_;rintro _ _ h;rw[h];rintro r u);refine VR.eInt r λt=>?_;refine VR.eInt u λi=>?_;exact min_two_N hh F c λh' tk j k=>aL _ _ hw (.int) (d h' tk j k)
 ·(refine am (iM v) ?_;rintro _ l;rw[l];rintro r);refine VR.eRef r ?_;refine aT ((S.objs a _ e).isList) λn o q w=>?_;exact min_list_N hh F c o (intsAre_of q) (List.length_pos_iff.mpr f) λh' M t tk j k z B=>aL _ _ (hw M z B) (.int) (d h' tk j k)
theorem MD:oS W .max (.builtin "max"):=λA G ρ H s Q E avs b hh R S v hw=>by
 have hh:=hh nofun;refine aT (S.fr) λm F c d=>?_;rcases hw with⟨x,y,rfl,hw⟩|⟨a,p,rfl,e,f,g,hw⟩
 ·(refine aW (Dw v) ?_;rintro _ _ h;rw[h];rintro r u);refine VR.eInt r λt=>?_;refine VR.eInt u λi=>?_;exact max_two_N hh F c λh' tk j k=>aL _ _ hw (.int) (d h' tk j k)
 ·(refine am (iM v) ?_;rintro _ l;rw[l];rintro r);refine VR.eRef r ?_;refine aT ((S.objs a _ e).isList) λn o q w=>?_;exact max_list_N hh F c o (intsAre_of q) (List.length_pos_iff.mpr f) λh' M t tk j k z B=>aL _ _ (hw M z B) (.int) (d h' tk j k)
theorem Hf{a:List Value}{p:List Int}(h:IntsAre a p):∃xs:Array (Int×Tok),a.toArray=intItems xs/\xs.toList.map (·.1)=p:=by
 induction h with
 |nil=>exact an (#[]) (by simp[intItems]) rfl|cons i t r b=>
  refine am b λxs e1 e2=>?_;try clear b
  refine an (((i,t)::xs.toList).toArray) ?_ (by simp[e2]);have c:=ak Array.toList e1;apply Array.toList_inj.mp;simp[intItems]at c⊢;exact c
theorem L5:oS W .sum (.builtin "sum"):=λA G ρ H s Q E avs b hh R S v hw=>by
 refine jV hw ?_;try clear hw;rintro a q rfl e c hw
 (refine am (iM v) ?_;rintro _ d;rw[d];rintro r);refine VR.eRef r ?_;refine aT ((S.objs a _ e).isList) λf g h i=>?_;refine am (Hf (intsAre_of h)) λj e1 e2=>?_;rw[e1]at g;refine sum_intListG (hh nofun) g λh' tk l k=>?_;rw[show preSum (numAt j) j.size=q.sum by rw[preSum_eq];rw[e2];rw[yT (by rw[<-e2];rw[aP];rw[ua];exact bF _)]];exact aL _ _ hw (.int) (Reach.keeps S k)
theorem Ik:oS W .list (.type "list"):=λA G ρ H s Q E avs b hh R S v hw=>by
 refine jV hw ?_;try clear hw;rintro a xs rfl e d hw
 (refine am (iM v) ?_;rintro _ f;rw[f];rintro r);refine VR.eRef r ?_;refine aT ((S.objs a _ e).isList) λg h i j=>?_;refine aT (S.frNew) λm F k l=>?_;refine list_copyK F k h (λD c h' n p l1=>?_) (by rw[oF,<-i.length];exact aa d dj)
 have fr:s.heap.get? D=none:=by
  cases e:s.heap.get? D with
  |none=>rfl|some o=>exact absurd (l1 _ (hA e (p _ (cS ..)).2.1)) (gW _)
 refine dA (l h' s.toks D (.list xs) _ n p fr λq e=>aY g c e (i.ts q)) λt r=>?_;exact aL _ _ (hw.b D t) (.ref) r
theorem wI{p:List Int}(h:∀x∈p,0<=x/\x<256):(byteArr p).toList.map (·.toNat)=p.map Int.toNat:=by unfold byteArr;simp only[List.map_map];refine f9 λx hx=>?_;have:=h x hx;refine(?_:(x.toNat.toUInt8).toNat=x.toNat);simp[Nat.toUInt8,UInt8.toNat_ofNat'];lia
theorem Ga:∀{x:Value}{a:V},VR s.heap a x->C8 .isInt [a] Q H->St W A G ρ H s->wpAny (model W.prog W.w) A (call (.builtin "isinstance") [x,.type "int"]) (PE W A G ρ H s Q) E s:=λ{x a}v hw S=>by
 refine am hw ?_;try clear hw;rintro i e hw
 cases e;refine VR.eInt v λt=>?_;exact PySem.IsiPair.int_int (PE.same S hw .bool)
theorem Dk:∀{x:Value}{a:V},VR s.heap a x->C8 .isBool [a] Q H->St W A G ρ H s->wpAny (model W.prog W.w) A (call (.builtin "isinstance") [x,.type "bool"]) (PE W A G ρ H s Q) E s:=λ{x a}v hw S=>by
 refine am hw ?_;try clear hw;rintro i e hw
 cases e;refine VR.eInt v λt=>?_;exact PySem.IsiPair.int_bool (PE.tok S hw .bool)
theorem lN{l:List Nat}{b:Array UInt8}(e:b.toList.map (·.toNat)=l):b.size=l.length:=by rw[<-e];simp
end Mine.Internal
namespace Mine.Internal
open PySem PySem.W PyProof.Rows PySem.Calls
variable{W:Wd}{A:Around}{G:Fc}{ρ ρ1:aR}{H J:Hp}{s s1:Shared}{Q:QV}{X:QX}{E:Value->Shared->Prop}
theorem se{h:Heap}{D:Addr}{vs:List Value}{c:Nat}(e:h.get? D=some (PySem.W.listOf vs.toArray c)):h.get? D=some (seqObj "list" vs.toArray c):=e
theorem zK{h':Heap}{D:Addr}{vs:List Value}{out:Array Value}{m:Str->Option Value}{L:Addr}{a:List (Addr×Obj)}{c:Nat}(F:Fr {} L h' m)(N:News {} L h' ((D,PySem.W.listOf vs.toArray c)::a))(d:∀p∈a,p.1≠D):∃e,Fr {} L (sortedHeap h' D vs out) m/\News {} L (sortedHeap h' D vs out) ((D,PySem.W.listOf out e)::a):=by
 have f:=N (D,PySem.W.listOf vs.toArray c) (cS ..);refine dE (sortedHeap_at (out:=out) (se f.1)) λe g=>?_;have h:L≠D:=eE f.2.1;refine an e ⟨F.ns.at' λo i=>?_,(λb o e=>by rw[iS]at e;cases e),cR _⟩ (λp j=>?_);·exact(sortedHeap_old h (jo i)).trans i
 ·rcases bB j with rfl|j;·exact⟨g,f.2⟩
  ·have z:=N p (dn _ j);exact⟨(sortedHeap_old (d p j) (jo z.1)).trans z.1,z.2⟩
theorem CI{h:Heap}:∀{a:List (Int×V)}{kvs:List (Int×Value)}{vs:List Value},wJ h a kvs->vs.length=kvs.length->(∀(j:Nat)(v:Value),vs[j]?=some v->∃k x,kvs[j]?=some (k,x)/\(intKind W.prog W.w).is k v=true)->IntsAre vs (a.map (·.1)):=by
 intro a;induction a with
 |nil=>
  intro kvs vs z b hv;cases kvs with
  |cons=>exact z.elim|nil=>rw[Es b];exact .nil
 |cons p a c=>intro kvs vs z b hv;cases kvs with|nil=>exact z.elim|cons q kvs=>cases vs with|nil=>exact nomatch b|cons v vs=>(refine aZ (hv 0 v rfl) ?_;intro k x e d);(refine dE (Value.isInt_shape d) ?_;intro t e3);have e1:p.1=k:=z.1.trans (ak Prod.fst (dH e));rw[e3,gT,e1];exact .cons _ _ (c z.2.2 (Nat.succ.inj b) λj v e=>hv (j+1) v e)
theorem z4{a:Addr}{b:List (Int×V)}{ep:Nat}(hh:A.handled=none)(S:St W A G ρ H s)(p:H a=some (.dictI b ep))(c:b.length<64)(hw:dL (iL (dz (λx y=>decide (x<=y)) (b.map (·.1)))) Q H):wpAny (model W.prog W.w) A (call (.builtin "sorted") [.ref a]) (PE W A G ρ H s Q) E s:=by
 refine aT (S.objs _ _ p) λkvs dd d nn=>?_;have f:=d.length;refine aT (S.frNew) λm F g h=>?_;have hz:sizeLine=16777216:=by decide+kernel
 refine kdu_sorted (kdl_dict (knd:=intKind W.prog W.w) (kvs:=kvs) (ep:=ep) (eD nn)) hh F g dd (by rw[hz];lia) λD h' tk vs i j l1 k hv=>?_;refine aD ?_;intro l;refine l9 ?_;intro l;have hi:=CI d k hv;have n:=j (D,PySem.W.listOf vs.toArray 0) (cS ..);refine xm PyProof.Rows.slot_list_sort (an _ n.1 rfl) PyProof.Rows.entry_list_sort (list_sort_tree (vs:=vs) (se n.1) hi (by lia) λout t u v w=>an (.none) rfl ?_) (PyProof.Rows.args_list_sort _);refine am (zK (out:=out) i j (λq z=>g_ (l1 q z))) λe B C=>?_;have fr:s.heap.get? D=none:=by
  cases e:s.heap.get? D with|none=>rfl|some o=>exact absurd (l1 _ (hA e n.2.1)) (gW _)
 have eq:t=dz (λx y=>decide (x<=y)) (b.map (·.1)):=iC (by simp;lia) (by simp;lia) (by simp;lia) v (w.imp (by simp));have I:out=out.toList.toArray:=by rfl
 rw[I]at C;refine dA (h _ tk D (.list ((dz (λx y=>decide (x<=y)) (b.map (·.1))).map .int)) _ B C fr λJ q=>aY out.toList e q (by rw[<-eq];exact o7 u)) λK r=>?_;exact aL _ _ (hw.b D K) (.ref) r
theorem FH{M:Program}{w:World}{a:Addr}{vs:List Value}{n:Nat}{P:PySem.Fin->Shared->Prop}(ho:s.heap.get? a=some (seqObj "list" vs.toArray n))(b:vs.length<2)(h:P (.done (.ret .none)) {s with heap:=sortedHeap s.heap a vs vs.toArray}):wpAny (model M w) A (Builtin.«list.sort» ⟨[.ref a],[]⟩) P E s:=by
 have hz:sizeLine=16777216:=by decide+kernel
 rw[list_sort_plain];have c:a<s.heap.objs.size:=jo ho;have e1:=get?_update_seq ho λd=>(#[]:Array Value);refine aQ (listItems_at ho rfl (aQ (listUpdate_at ho rfl ?_ (by simp;lia) (by simp))));refine l9 ?_;intro e;refine aQ (seqEpoch_at e1 rfl (aQ (wpAny_newTuple ?_ (by simp;lia))));refine l9 ?_;intro e;refine aQ (wpAny_newList ?_ (by simp));refine eC ?_;have e2:(((s.heap.update a (Obj.mapSeq λd=>#[])).push (seqObj "tuple" vs.toArray 0)).push (seqObj "list" #[] 0)).get? a=some (seqObj "list" #[] (if(#[]:Array Value).size==vs.toArray.size then n else n+1)):=cn _ (cn _ e1);refine(?_:wpAny (model M w) A _ P E {s with heap:=((s.heap.update a (Obj.mapSeq λd=>#[])).push (seqObj "tuple" vs.toArray 0)).push (seqObj "list" #[] 0)});dsimp only;refine l9 ?_;intro e;have hs:vs.toArray.size<2:=by simpa using b
 rw[aE hs,aE hs];refine aQ (bg ?_);rw[StateT.run_pure];refine aQ (bg ?_);dsimp only;have ho:(arrOf (SortSt.mk' general' (vs.toArray.zip vs.toArray) #[] 7 none)).map (·.2)=vs.toArray:=by refine(?_:(vs.toArray.zip vs.toArray).map (·.2)=vs.toArray);apply Array.toList_inj.mp;simp only[Array.toList_map,Array.toList_zip];exact List.map_snd_zip (by simp)
 rw[ho];refine aQ (seqEpoch_at e2 rfl (aQ (listUpdate_at e2 rfl ?_ (by simp) (by simp;lia))));simp only[bne_self_eq_false,Bool.false_eq_true,if_false];exact bg h
theorem z0{l:Addr}{vs:List Value}{P:Value->Shared->Prop}{M:Program}{w:World}(a:s.heap.IsList l vs.toArray)(b:vs.length<2)(h:P (.ref (s.heap.objs.size+1)) {s with heap:=sortedAll s.heap vs vs.toArray}):wpAny (model M w) A (call (.builtin "sorted") [.ref l]) P E s:=by
 have hz:sizeLine=16777216:=by decide+kernel
 refine Calls.call_function_entry kind_sorted plain_sorted entry_sorted (args_sorted1 _) ?_;refine aD ?_;intro c;skip;refine aQ (m:=checkCount "sorted" 1 1 _) (bg (aQ (collect_list a ?_ (by lia))));refine aQ (wpAny_newList ?_ (by lia));have hsz:((s.heap.push (seqObj "list" #[] 0)).update s.heap.objs.size (Obj.mapSeq (·++vs.toArray))).objs.size=s.heap.objs.size+1:=by rw[Heap.size_update,size_push']
 have d:(((s.heap.push (seqObj "list" #[] 0)).update s.heap.objs.size (Obj.mapSeq (·++vs.toArray))).push (seqObj "list" vs.toArray 0)).get? (s.heap.objs.size+1)=some (seqObj "list" vs.toArray 0):=by rw[<-hsz];exact gE _ rfl
 refine(?_:wpAny _ _ _ _ _ {s with heap:=((s.heap.push (seqObj "list" #[] 0)).update s.heap.objs.size (Obj.mapSeq (·++vs.toArray))).push (seqObj "list" vs.toArray 0)});rw[hsz];refine aQ (eC (xm slot_list_sort (an _ d rfl) entry_list_sort (FH d b (an _ rfl ?_)) (args_list_sort _)));exact bg (an _ rfl h)
noncomputable def gI(h:Heap)(x:Value)(p:Int×Int):Prop:=∃a t u,x=.ref a/\IsTup h a #[.int p.1 t,.int p.2 u]
theorem pairs_at{h:Heap}:∀{p:List (Int×Int)}{d:List Value},bj h (p.map jU) d->d.length=p.length/\∀i (hi:i<p.length),gI h (d.getD i .none) (p.getD i (0,0)):=by intro p;induction p with|nil=>intro _ v;refine bj.eNil v ?_;exact⟨rfl,λi hi=>absurd hi (pF i)⟩|cons e p f=>obtain⟨a,b⟩:=e;intro _ v;refine bj.eCons v λx xs w v=>?_;refine dA (f v) λk1 k2=>?_;refine⟨ak (·+1) k1,λi hi=>?_⟩;cases i with|zero=>(refine aW (w.i) ?_;rintro c g j;rw[j];rintro it k);refine aW (Dw k) ?_;rintro y z rfl l m;refine dE (l.iInt) ?_;rintro t rfl;refine dE (m.iInt) ?_;rintro u rfl;exact uH _ _ _ rfl it|succ i=>exact k2 i (Nat.lt_of_succ_lt_succ hi)
theorem A5{h:Heap}{x:Value}{p:Int×Int}(k:gI h x p):VR h (jU p) x:=by(refine ir (k) ?_;try clear k;rintro a t u b;rw[b];rintro it);exact .tup (xs:=[.int p.1 t,.int p.2 u]) it (.cons .int (.cons .int .nil))
theorem gI.keeps{h h':Heap}{x:Value}{p:Int×Int}(k:gI h x p)(b:TS h h'):gI h' x p:=by
 refine ir k λa t u e it=>?_;try clear k
 exact uH a t u e (IsTup.ts it b)
theorem wW{h:Heap}:∀{vs:List Value}{p:List (Int×Int)},vs.length=p.length->(∀i (hi:i<p.length),gI h (vs.getD i .none) (p.getD i (0,0)))->∃fs,KatTups h vs fs/\fs.length=vs.length/\∀v∈fs,∃a t,v=.int a t
 |[],[],_,_=>cW [] aJ rfl (λv h=>by cases h)|v::vs,q::p,b,k=>by
  refine aT (wW (vs:=vs) (p:=p) (by simpa using b) (λi hi=>by simpa using k (i+1) (by simpa using hi))) λfs c d f=>?_;refine oH (k 0 (by simp)) λa t u e o ho g n hd=>?_;skip;subst e;refine cW (.int q.1 t::fs) (KatTups.cons ho g hd (by rfl) c) (by simp[d]) (λv hv=>?_);rcases bB hv with rfl|hv;·exact tC _ _ rfl
  ·exact f v hv|[],_::_,h,_=>by cases h|_::_,[],h,_=>by cases h
theorem FK{M:Program}{w:World}{A:Around}{vs:List Value}{p:List (Int×Int)}(k:∀i (hi:i<p.length),gI s.heap (vs.getD i .none) (p.getD i (0,0)))(i j:Nat)(C:Bool->Shared->Prop)(hi:i<p.length)(hj:j<p.length)(h:C (bV (p.getD i (0,0)) (p.getD j (0,0))&&!(p.getD i (0,0)==p.getD j (0,0))) s):kas_ask M w A (tuples' true) vs i j C s:=by
 refine oH (k i hi) λa t u e1 c d f g l=>?_;refine oH (k j hj) λb m o e2 r v z B D=>?_;unfold kas_ask;rw[e1,e2];generalize p.getD i (0,0)=x at*;generalize p.getD j (0,0)=y at*;refine kat_lt d l v D ?_;refine(?_:KatLex M w A true false C [(.int x.1 t,.int y.1 m),(.int x.2 u,.int y.2 o)] 0 s);have cl:∀b:Bool,b=(bV x y&&!(x==y))->C b s:=λb E=>E▸h;have F:(bV x y&&!(x==y))=decide (x.1<y.1\/(x.1=y.1/\x.2<y.2)):=by
  rw[Bool.eq_iff_iff];simp only[Bool.and_eq_true,Bool.not_eq_true',beq_eq_false_iff_ne,dy,decide_eq_true_eq];have:x=y↔x.1=y.1/\x.2=y.2:=Prod.ext_iff;rw[ne_eq,this];constructor
  ·rintro⟨h|h,n⟩;·exact .inl h
   ·exact .inr ⟨h.1,Int.lt_iff_le_and_ne.mpr ⟨h.2,λe=>n ⟨h.1,e⟩⟩⟩
  ·rintro(h|h);·exact⟨.inl h,λe=>Int.ne_of_lt h e.1⟩
   ·exact⟨.inr ⟨h.1,nB h.2⟩,λe=>Int.ne_of_lt h.2 e.2⟩
 rw[F]at cl;refine kat_cons (wpAny_eqBool_int (kat_go (λq=>kat_yes ?_) λq=>kat_no ?_))
 ·have q:x.1=y.1:=by simpa using q
  refine kat_cons (wpAny_eqBool_int (kat_go (λG=>kat_yes (kat_nil (cl _ ?_))) λG=>kat_no ?_))
  ·have G:x.2=y.2:=by simpa using G
   symm;skip;lia
  ·refine kat_one _ _ (PyProof.Rows.lt_int ?_);refine(?_:C _ s);refine cl _ ?_;rw[Bool.eq_iff_iff];skip;lia
 ·have q:x.1≠y.1:=by simpa using q
  refine oneLt_int (cl _ ?_);rw[Bool.eq_iff_iff];simp;lia
theorem C5{h:Heap}{vs:List Value}{p:List (Int×Int)}:∀(l:List Nat),(∀i∈l,gI h (vs.getD i .none) (p.getD i (0,0)))->bj h ((l.map λi=>p.getD i (0,0)).map jU) (l.map λi=>vs.getD i .none):=by intro l;induction l with|nil=>intro _;exact .nil|cons i l a=>intro k;exact .cons (A5 (k i (cS ..))) (a λj hj=>k j (dn _ hj))
theorem qS{h:Heap}:∀{vs:List Value}{p:List (Int×Int)},vs.length=p.length->(∀i (hi:i<p.length),gI h (vs.getD i .none) (p.getD i (0,0)))->bj h (p.map jU) vs|[],[],_,_=>.nil|v::vs,q::p,a,k=>.cons (A5 (k 0 (Nat.zero_lt_succ _))) (qS (Nat.succ.inj a) λi hi=>k (i+1) (Nat.succ_lt_succ hi))|[],_::_,h,_=>nomatch h|_::_,[],h,_=>nomatch h
theorem CG{α:Type}{le:α->α->Bool}:∀{l:List α},l.length<2->dz le l=l|[],_=>rfl|[x],_=>rfl|_::_::_,h=>by simp at h;lia
theorem Ab{a:Addr}{p:List (Int×Int)}(S:St W A G ρ H s)(e:H a=some (.list (p.map jU)))(d:p.length<=6)(nd:p.Nodup)(hw:dL (.list ((dz bV p).map jU)) Q H):wpAny (model W.prog W.w) A (call (.builtin "sorted") [.ref a]) (PE W A G ρ H s Q) E s:=by
 refine aT ((S.objs a _ e).isList) λvs f g ar=>?_;refine dA (pairs_at g) λk1 k2=>?_;by_cases k:vs.length<2
 ·refine z0 f k ?_;rw[CG (by lia)]at hw;refine dE (sortedAll_at s.heap vs vs.toArray) λc l=>?_;have u:∀b o,s.heap.get? b=some o->(sortedAll s.heap vs vs.toArray).get? b=some o:=λb o q=>sortedAll_old q;obtain⟨w,r⟩:=Reach.made (t:=s.toks) (ρ:=ρ) (ao:=.list (p.map jU)) S u (qi (Nat.le_succ _)) (aY vs c l (qS (by assumption) λi hi=>(k2 i hi).keeps (TS.of_keeps u)));exact aL _ _ (hw.b _ w) (.ref) r
 ·refine aT (S.frNew) λm F y z=>?_;refine PySem.W.kat_sorted F y f (by lia) (by lia) λD e1 h' B I l1=>?_;refine l9 ?_;intro av;have fr:s.heap.get? D=none:=by
   cases q:s.heap.get? D with
   |none=>rfl|some o=>exact absurd (l1 _ (hA q (I _ (cS ..)).2.1)) (gW _)
  have r0:Reach W A G H s ρ H {s with heap:=h',toks:=s.toks}:=by
   refine aT (S.fr) λm' J a0 K=>?_;have:m'=m:=by refine c_ (F.ns) λo a1 ep ho hd a2 L=>?_;refine c_ (J.ns) λa3 a4 a5 M N a6 O=>?_;rw[ho]at M;cases M;rw[hd]at N;cases N;funext x;rw[<-L,<-O]
   subst this;exact K h' s.toks B λq P=>I q (dn _ P)
  have k3:∀i (hi:i<p.length),gI h' (vs.getD i .none) (p.getD i (0,0)):=λi hi=>(k2 i hi).keeps (r0.ts S);refine aT (wW (h:=h') k1 k3) λfs R t2 U=>?_;refine kat_kind (T:=.type "int") R (by lia) (λv hv=>?_) (by decide) ?_;·(refine qD (U v hv) ?_;rintro x t V;rw[V]);exact Looks.now
  ·have X:vs.length=p.length:=k1;refine lz (zW (p:=p) (by lia) d nd) λs1 s2 Y=>?_;rw[X];refine tW (n:=p.length) (λi j C hi hj Z=>?_) _ s1 ?_;·exact FK (s:={s with heap:=h'}) k3 i j C hi hj Z
   ·refine bW _ _ B I (UpdF.head (λp ab=>g_ (l1 p ab))) (λk c ag al=>?_);obtain⟨w,r⟩:=z k s.toks D (.list ((dz bV p).map jU)) _ ag al fr λap q=>(aY _ c q (by rw[<-s2];exact C5 _ λi hi=>(k2 i (Y i hi)).keeps ap));exact aL _ _ (hw.b D w) (.ref) r
theorem Dl:oS W .sorted (.builtin "sorted"):=λA G ρ H s Q E avs b hh R S v hw=>by
 rcases hw with⟨a,p,rfl,e,c,nd,hw⟩|⟨a,d,ep,rfl,e,c,hw⟩;·refine am (iM v) ?_;rintro _ rfl r;obtain rfl:=r.iRef;exact Ab S e c nd hw
 ·refine am (iM v) ?_;rintro _ rfl r;obtain rfl:=r.iRef;exact z4 (hh nofun) S e c hw
end Mine.Internal
namespace Mine.Internal
open PySem PySem.W PyProof.Rows PySem.Calls PySem.NumText
variable{W:Wd}{A:Around}{G:Fc}{ρ ρ1:aR}{H J:Hp}{s s1:Shared}{Q:QV}{X:QX}{E:Value->Shared->Prop}
theorem Ef:∀(l:List Nat),l.foldl (λa c=>a.bind λn=>if c=48 then some (2*n)else if c=49 then some (2*n+1)else none) (none:Option Nat)=none:=by intro l;induction l with|nil=>exact rfl|cons _ l b=>exact b
theorem ye:∀(l:List Nat)(a n:Nat)(b:Array Nat),l.foldl (λa c=>a.bind λn=>if c=48 then some (2*n)else if c=49 then some (2*n+1)else none) (some a)=some n->b.foldl (λacc d=>acc*2+d) 0=a->(∀c∈l,c=48\/c=49)/\∃e,l.foldlM (NumText.step 2) (b,true)=some (e,true)/\e.foldl (λacc d=>acc*2+d) 0=n:=by
 intro l;induction l with
 |nil=>intro a n b h hd;cases h;exact eA (λc f=>by cases f) b rfl hd
 |cons c l g=>
  intro a n b h hd;rw[oZ]at h;have f:c=48\/c=49:=by
   by_cases q:c=48;·exact .inl q
   ·by_cases i:c=49;·exact .inr i
    ·simp only[Option.bind_some,q,i,if_false]at h;rw[Ef]at h;cases h
  obtain⟨j,k,hs,m⟩:∃j,(some a).bind (λn=>if c=48 then some (2*n)else if c=49 then some (2*n+1)else none)=some j/\NumText.step 2 (b,true) c=some (b.push (c-48),true)/\(b.push (c-48)).foldl (λacc d=>acc*2+d) 0=j:=by
   rcases f with rfl|rfl;·exact cW (2*a) rfl rfl (by rw[Array.foldl_push,hd];lia)
   ·exact cW (2*a+1) rfl rfl (by rw[Array.foldl_push,hd];lia)
  rw[k]at h;refine lW (g j n _ h m) λk1 e k2 k3=>?_;refine eA (λd hd=>?_) e ?_ k3
  ·rcases bB hd with rfl|hd;·exact f
   ·exact k1 d hd
  ·rw[List.foldlM_cons,hs];exact k2
theorem GT{x:List Nat}{n:Nat}(a:x≠[])(h:hF x=some n):(int_private%"readNumeral") 0 2 (x.takeWhile (·!=0))=(int_private%"Numeral.value") n/\((x.takeWhile (·!=0)).length==x.length)=true:=by
 have hh:(∀c∈x,c=48\/c=49)/\∃b,x.foldlM (NumText.step 2) ((#[]:Array Nat),false)=some (b,true)/\b.foldl (λacc d=>acc*2+d) 0=n:=by
  cases x with|nil=>exact absurd rfl a|cons c l=>
   have e:∀f:Array Nat,NumText.step 2 (f,false) c=NumText.step 2 (f,true) c\/c=95:=λf=>by
    by_cases q:c=95;·exact .inr q
    ·left;simp[NumText.step,q]
   refine lW (ye (c::l) 0 n #[] h rfl) λk1 b k2 k3=>?_;refine eA k1 b ?_ k3;rw[List.foldlM_cons]at k2;rw[List.foldlM_cons];rcases e #[]with e|e;·rw[e];exact k2
   ·rcases k1 c (cS ..)with q|q<;>rw[q]at e<;>cases e
 refine lW hh λk1 b k2 k3=>?_;try clear hh
 have g:x.takeWhile (·!=0)=x:=by
  have gen:∀l:List Nat,(∀c∈l,c=48\/c=49)->l.takeWhile (·!=0)=l:=by
   intro l;induction l with|nil=>intro _;rfl|cons c l i=>intro h;have j:=h c (cS ..);rw[List.takeWhile_cons,i λd hd=>h d (dn _ hd)];rcases j with q|q<;>rw[q]<;>rfl
  exact gen x k1
 rw[g];refine⟨?_,by simp⟩;obtain⟨c,l,rfl⟩:∃c l,x=c::l:=by cases x with|nil=>exact absurd rfl a|cons c l=>exact tC c l rfl
 have k:∀c,c=48\/c=49->blank c=false:=λc j=>by rcases j with q|q<;>rw[q]<;>rfl
 have m:(c::l).dropWhile blank=c::l:=by rw[List.dropWhile_cons,k c (k1 c (cS ..))];rfl
 have o:sign (c::l)=(false,c::l):=by rcases k1 c (cS ..)with q|q<;>rw[q]<;>rfl
 have p:prefix? (c::l)=none:=by
  cases l with|nil=>rcases k1 c (cS ..)with q|q<;>rw[q]<;>rfl|cons d l=>
   rcases k1 c (cS ..)with q|q
   ·rw[q];rcases k1 d (dn _ (cS ..))with q|q<;>rw[q]<;>rfl
   ·rw[q];rfl
 have h4:based 2 (c::l)=(2,false,c::l):=by unfold based;rw[p];rfl
 have s:(((c::l).reverse.dropWhile blank).reverse)=c::l:=by
  cases e:(c::l).reverse with
  |nil=>simp at e|cons d r=>
   have hd:d∈c::l:=by rw[<-List.mem_reverse,e];exact cS ..
   rw[List.dropWhile_cons,k d (k1 d hd)];refine(?_:(d::r).reverse=_);rw[<-e,List.reverse_reverse]
 have t:digits? 2 (c::l)=some b:=by unfold digits?;rw[k2];rfl
 rw[readNumeral_eq,m,o];simp only[h4,s,t];unfold judge;simp[k3]
theorem DV{M:Model}{A:Around}{E:Value->Shared->Prop}{s:Shared}{Q:Value->Shared->Prop}{v:Value}{a:List Nat}{n:Int}(hs:(a.takeWhile (·!=0)).length<=640)(hr:(int_private%"readNumeral") 0 2 (a.takeWhile (·!=0))=(int_private%"Numeral.value") n)(b:((a.takeWhile (·!=0)).length==a.length)=true)(h:Q (.int n s.toks) {s with toks:=s.toks+1}):wpAny M A ((int_private%"intFromText") v a 2) Q E s:=by
 obtain⟨c,g,d,tk,os⟩:=s;repeat (any_goals (first
  |assumption|(with_reducible refine wpAny_ite_true (bC hs) ?_)|(with_reducible refine wpAny_ite_true (bC b) ?_)|wp_step))
 all_goals (try rw[hr])
 all_goals (try dsimp only)
 repeat (any_goals (first|assumption|(with_reducible refine wpAny_ite_true (bC hs) ?_)|(with_reducible refine wpAny_ite_true (bC b) ?_)|wp_step))
theorem xE{x:Str}{u t:Tok}{n:Nat}{l:List Nat}(a:x.cps.toList=l)(b:l.length<=64)(e:l≠[])(f:hF l=some n):Gives (Builtin.«int.__new__» ⟨[.type "int",.str x u,.int 2 t],[]⟩) (.int n):=
 .of_wp λM A E s Q h=>by
   refine aD ?_;intro i;obtain⟨j,g,d,tk,os⟩:=s;have k:=F.conv_sub_int;have f2:=F.madeHere_int;have m:typeOf (.str x u)=pure (.type "str"):=rfl;refine dA (GT e f) λr1 o=>?_;have p:numTextOf x=l:=by
    refine(?_:(if x.cps.all (·<128)then x.cps.toList else Unicode.numberText x.cps.toList)=l);rewrite[aE ?_,a];rfl;rw[<-Array.all_toList,a,uW];intro c r;obtain⟨k1,_⟩:(∀c∈l,c=48\/c=49)/\True:=by refine⟨?_,aJ⟩;have:=(ye l 0 n #[] f rfl).1;exact this
    rcases k1 c r with q|q<;>rw[q]<;>rfl
   have hs:((numTextOf x).takeWhile (·!=0)).length<=640:=by rw[p];exact aa (len_takeWhile _ _) (by lia)
   rw[<-p]at r1;rw[<-p]at o;have v:=KIN.Hid.mk (And.intro hs (And.intro r1 o));clear hs r1 o p b f a e;repeat (any_goals (first
    |assumption|((with_reducible show wpAny _ _ ((int_private%"intFromText") _ _ _) _ _ _);refine DV v.out.1 v.out.2.1 v.out.2.2 ?_)|wp_step))
   all_goals first|exact(an _ rfl h)|skip
end Mine.Internal
namespace Mine.Internal
open PySem PySem.W PyProof.Rows PySem.Calls
theorem tQ:PlainAttrs "bytearray":=⟨(an ("bytearray.__getattribute__") (by rw[j6,rX];kernel_rfl) (by decide+kernel)),by rw[j6,rX];kernel_rfl⟩
theorem oW:Slot "bytearray" "__len__" "bytearray.__len__":=.of (owner:="bytearray") (n:="__len__") (by rw[j6,rX];kernel_rfl) (by decide+kernel) (by decide+kernel) (by decide+kernel) (by first|exact .inl (by decide+kernel)|exact .inr (by decide+kernel)) (by rw[isSubtype_type];kernel_rfl)
theorem v_:entryFor table "bytearray.__len__"=some Builtin.«bytearray.__len__»:=entryFor_of_tree (by kernel_rfl)
theorem xj(a:Value):argsOk "bytearray.__len__" ⟨[a],[]⟩:=by unfold argsOk;kernel_rfl
theorem fF:Slot "bytearray" "append" "bytearray.append":=.of (owner:="bytearray") (n:="append") (by rw[j6,rX];kernel_rfl) (by decide+kernel) (by decide+kernel) (by decide+kernel) (by first|exact .inl (by decide+kernel)|exact .inr (by decide+kernel)) (by rw[isSubtype_type];kernel_rfl)
theorem qQ:typeOf (.builtin "bytearray.append")=pure (.type "method_descriptor"):=by refine(?_:builtinType _=_);rw[builtinType_eq_fast];kernel_rfl
theorem pQ:entryFor table "bytearray.append"=some Builtin.«bytearray.append»:=entryFor_of_tree (by kernel_rfl)
theorem rT(a b:Value):argsOk "bytearray.append" ⟨[a,b],[]⟩:=by unfold argsOk;kernel_rfl
variable{W:Wd}{A:Around}{G:Fc}{ρ ρ1:aR}{H J:Hp}{s s1:Shared}{Q:QV}{X:QX}{E:Value->Shared->Prop}
variable{N:Nm}{T:cA}{Y:kC}{hd:Bool}{n:Nat}{U:Cx}{nx ct:QR}{rt:QV}{ex:QE}
theorem Aw{a:Addr}{bs:Array UInt8}{n:Nat}{sl:Array (Option Value)}{d:Option Addr}{cl:Value}{M:Model}{P:Array UInt8->Shared->Prop}(e:s.heap.get? a=some ⟨cl,d,.bytearray bs n,sl⟩)(h:P bs s):wpAny M A (Builtin.Bytes.payload (.ref a)) P E s:=by unfold Builtin.Bytes.payload Builtin.Bytes.payload?;exact aQ (aQ (wpAny_load e (bg (bg h))))
theorem Mk{a:Addr}{bs:Array UInt8}{P:Value->Shared->Prop}{M:Program}{w:World}(e:s.heap.get? a=some ⟨.type "bytearray",none,.bytearray bs 0,#[]⟩)(c:bs.size<=1099511627776)(h:P (.int bs.size (s.toks+1)) {s with toks:=s.toks+1+1}):wpAny (model M w) A (call (.builtin "len") [.ref a]) P E s:=by refine PyProof.Rows.call_len_slot (T:="bytearray") (an _ e rfl) oW (λQ' d=>?_) (by simp) (by lia) h;refine xm oW (an _ e rfl) v_ ?_ (xj _);refine(?_:wpAny _ _ (Builtin.Bytes.payload (.ref a)>>=λb=>retInt b.size) _ _ s);refine aQ (Aw e ?_);exact aQ (wpAny_mkInt (bg (an _ rfl d)))
theorem Mw:oS W .len (.builtin "len"):=λA G ρ H s Q E avs c hh R S v hw=>by
 have d:∀{n:Nat},n<=cu->(n:Int)<2^63:=λh=>by rw[jG]at h;lia
 have f:∀{n:Nat},n<=cu->n<=1099511627776:=λh=>by rw[jG]at h;lia
 have g:∀{xs:List V}{i:List Value}{a:Addr},s.heap.IsList a i.toArray->bj s.heap xs i->xs.length<=cu->Q (.int xs.length) H->wpAny (model W.prog W.w) A (call (.builtin "len") [.ref a]) (PE W A G ρ H s Q) E s:=λ{xs i a}j k l hw=>by
  have e:i.toArray.size=xs.length:=by rw[oF,<-k.length]
  exact PyProof.Rows.len_list j (by rw[e];exact d l) (by rw[e];exact PE.tok S hw .int)
 rcases hw with⟨a,xs,rfl,p,l,hw⟩|⟨a,xs,rfl,p,l,hw⟩|⟨x,e|e,l,hw⟩
 ·refine am (iM v) ?_;rintro _ rfl r;refine VR.eRef r ?_;rcases p with p|p;·refine aT ((S.objs a _ p).isList) λi j k m=>?_;exact g j k l hw
  ·refine am (S.objs a _ p) λi j k=>?_;exact g j k l hw
 ·refine am (iM v) ?_;rintro _ rfl r;refine VR.eRef r ?_;refine am (S.objs a _ p) λbs e o=>?_;have j:=lN o;exact Mk e (by rw[j];exact f l) (by rw[j];exact PE.tok S hw .int)
 ·subst e;refine am (iM v) ?_;rintro _ rfl r;refine VR.eStr r λy t e=>?_;have j:=iI e;exact PySem.P.len_str (by rw[j];exact Int.not_le.mpr (d l)) (by rw[j];exact PE.tok S hw .int)
 ·subst e;refine am (iM v) ?_;rintro _ rfl r;refine VR.eBytes r λb t e=>?_;have j:=lN e;exact PySem.W.len_bytes (by rw[j];exact f l) (by rw[j];exact PE.tok S hw .int)
theorem Jh:oS W .int2 (.type "int"):=λA G ρ H s Q E avs a hh R S v hw=>by
 refine vV hw ?_;try clear hw;rintro x n rfl b c e hw
 refine aW (Dw v) ?_;rintro _ _ rfl r d;refine VR.eStr r λy t f=>?_;refine VR.eInt d λu=>?_;refine callType_new F.called_int F.newNe_int (by kernel_rfl) (by kernel_rfl) (λg=>PySem.F.args_object_init_3 g _ _) F.entry_int_new (xE f c b e).meets ?_;exact show(Made.int n).post _ s from⟨rfl,PE.tok S hw .int⟩
end Mine.Internal
namespace Mine.Internal
open PySem PySem.W PyProof.Rows PySem.Calls
theorem yL:typeLookup (.type "bytearray") "__bytes__"=pure none:=by rw[j6,rX];kernel_rfl
theorem yh:typeLookup (.type "bytearray") "__index__"=pure none:=by rw[j6,rX];kernel_rfl
theorem m9:typeLookup (.type "bytearray") "__buffer__"=pure (some (.builtin "bytearray.__buffer__")):=by rw[j6,rX];kernel_rfl
theorem tB:typeLookup (.type "bytearray") "__release_buffer__"=pure (some (.builtin "bytearray.__release_buffer__")):=by rw[j6,rX];kernel_rfl
theorem mV(b:Array UInt8)(t:Tok):Meets (Builtin.«bytes.__new__» ⟨[.type "bytes",.bytes b t],[]⟩) (λa R s=>R (.ok (.ret (.bytes b t))) s):=.of_wp λprog w A R s h=>we [] [] (by kernel_rfl) m0 (an _ rfl h)
theorem ss{name id:String}{a:Addr}{o:Obj}{s:Shared}{M:Program}{w:World}{A:Around}{E:Value->Shared->Prop}{P:Bool->Shared->Prop}(e:s.heap.get? a=some o)(b:o.cls=.type "bytearray")(c:typeLookup (.type "bytearray") name=pure (some (.builtin id)))(d:id.endsWith ("."++name)=true)(f:id.dropRight (name.length+1)="bytearray")(h:P true s):wpAny (model M w) A (Builtin.Bytes.slotIsOwn (.ref a) name) P E s:=by unfold Builtin.Bytes.slotIsOwn;refine aQ (wpAny_specialOf (an o e b) c ?_);dsimp only;rw[d,f];exact wpAny_isInstance (an o e b) F.sub_bytearray_bytearray h
theorem so(a:Addr)(bs:Array UInt8):Meets (Builtin.«bytes.__new__» ⟨[.type "bytes",.ref a],[]⟩) (λb R s=>(s.heap.get? a=some ⟨.type "bytearray",none,.bytearray bs 0,#[]⟩/\bs.size<=sizeLine)/\R (.ok (.ret (.bytes bs s.toks))) {s with toks:=s.toks+1}):=
 .of_wp λprog w A R s h=>by
   refine aD ?_;intro c;refine dA h ?_;try clear h;rintro⟨e,hz⟩h
   obtain⟨f,g,d,tk,os⟩:=s;have i:(⟨f,g,d,tk,os⟩:Shared).TypeIs (.ref a) "bytearray":=an _ e rfl;have j:=F.bm_sub;have f2:=F.bm_bind (.ref a);have f3:=yL;have k:=yh;have l:=m9;repeat (any_goals (first
    |assumption|((with_reducible show wpAny _ _ (Builtin.Bytes.slotIsOwn _ "__buffer__") _ _ _);refine ss e rfl m9 (by decide+kernel) (by decide+kernel) ?_)|((with_reducible show wpAny _ _ (Builtin.Bytes.slotIsOwn _ "__release_buffer__") _ _ _);refine ss e rfl tB (by decide+kernel) (by decide+kernel) ?_)|wp_step))
   all_goals first|exact(an _ rfl h)|skip
variable{W:Wd}{A:Around}{G:Fc}{ρ ρ1:aR}{H J:Hp}{s s1:Shared}{Q:QV}{X:QX}{E:Value->Shared->Prop}
variable{N:Nm}{T:cA}{Y:kC}{hd:Bool}{n:Nat}{U:Cx}{nx ct:QR}{rt:QV}{ex:QE}
theorem F4:oS W .bytes (.type "bytes"):=λA G ρ H s Q E avs c hh R S v hw=>by
 rcases hw with⟨x,rfl,hw⟩|⟨a,q,rfl,p,d,f,hw⟩|⟨a,xs,rfl,p,d,hw⟩;·(refine am (iM v) ?_;rintro _ g;rw[g];rintro r);refine VR.eBytes r λb t e=>?_;exact callType_new F.bm_called (by decide) (F.bm_typeCall _) (F.bm_newCall _) (λh=>F.args_object_init_2 h _) F.bm_entry (mV b t) ⟨rfl,PE.same S hw (.bytes e)⟩
 ·(refine am (iM v) ?_;rintro _ g;rw[g];rintro r);refine VR.eRef r ?_;refine aT ((S.objs a _ p).isList) λi j l m=>?_;have hi:=intsAre_of l;exact call_bytes_ints j hi d (by rw[hi.length];exact aa f dj) (hh nofun) λh' t k n=>aL _ _ hw (.bytes (wI d)) (Reach.keeps S n)
 ·(refine am (iM v) ?_;rintro _ g;rw[g];rintro r);refine VR.eRef r ?_;refine am (S.objs a _ p) λbs e o=>?_;exact callType_new F.bm_called (by decide) (F.bm_typeCall _) (F.bm_newCall _) (λh=>F.args_object_init_2 h _) F.bm_entry (so a bs) (bz ⟨e,by rw[lN o];exact aa d dj⟩ rfl (PE.tok S hw (.bytes o)))
noncomputable def Oa:Bi->Value|.len=>.builtin "len"|.sorted=>.builtin "sorted"|.sum=>.builtin "sum"|.min=>.builtin "min"|.max=>.builtin "max"|.abs=>.builtin "abs"|.int=>.type "int"|.int2=>.type "int"|.bytes=>.type "bytes"|.bytearray=>.type "bytearray"|.isInt=>.builtin "isinstance"|.isBool=>.builtin "isinstance"|.list=>.type "list"|.str=>.type "str"|.range=>.type "range"
theorem El(b:Bi):(∃id,Oa b=.builtin id)\/∃t,Oa b=.type t:=by cases b<;>first|exact .inl ⟨_,rfl⟩|exact .inr ⟨_,rfl⟩
noncomputable def Pw:Bi->Nat|.len=>0|.sorted=>1|.sum=>2|.min=>3|.max=>4|.abs=>5|.int=>7|.int2=>7|.bytes=>9|.bytearray=>10|.isInt=>6|.isBool=>6|.list=>11|.str=>12|.range=>13
theorem qJ(b:Bi):(DH b,Oa b)∈iP:=BG (Pw b) (by cases b<;>rfl)
theorem Mg(b:Bi)(a:b≠.isInt)(c:b≠.isBool):oS W b (Oa b):=by cases b with|len=>exact Mw|sorted=>exact Dl|sum=>exact L5|min=>exact Mb|max=>exact MD|abs=>exact KW|int=>exact Lu|int2=>exact Jh|bytes=>exact F4|bytearray=>exactλA G ρ H s Q E avs d hh R S v hw=>hw.elim|isInt=>exact absurd rfl a|isBool=>exact absurd rfl c|list=>exact Ik|str=>exact LV|range=>exact D7
theorem GU(a:dX W N){e:Internal.E}(b:aN N T Y hd n W e){y:Expr}{nm d:Str}{p f pos:Pos}{tv:String}{g:QV}{P:Value->Shared->Prop}(h:nm=DH .isInt)(i:glob U nm=true)(j:glob U d=true)(l:(d,Value.type tv)∈iP)(m:ay N e U y=true)(c:Ctx hd n W U A G ρ H s X E)(hw:WE T Y hd e ρ g X H)(k:∀o v J s1,g o J->VR s1.heap o v->Reach W A G H s ρ J s1->wpAny (model W.prog W.w) A (call (.builtin "isinstance") [v,.type tv]) P E s1):wpAny (model W.prog W.w) A (eval (.Call (.Name nm p) [y,.Name d f] [] pos) G.env) P E s:=by refine rE (kE a c (v:=.builtin "isinstance") i (by rw[h];exact qJ .isInt) ?_);refine PyProof.Rows.callWith_builtin1 ?_ (ax (bS m)) rfl;refine aD ?_;intro t;rw[ax (bS m),cg];have e2:starEach [Expr.Name d f] G.env=[(false,eval (.Name d f) G.env)]:=rfl;rw[e2,cg];refine lj (PE.step (b _ _ _ _ _ _ _ _ _ _ m c hw) λo v J s1 q w r=>?_);refine lj (kE a (c.next r) j l (pk ?_));exact k o v J s1 q w r
theorem NL(a:dX W N){b:Bi}{args:EL}(d:zq N T Y hd n W args)(e:b≠.isInt)(h:b≠.isBool):aN N T Y hd n W (.bi b args):=λU x A G ρ H s Q X E i c hw=>by
 have j:(cZ x λg k s l=>wN s (ca g λn l=>n==DH b&&glob U n&&dg N args U k))=true:=by cases b<;>first|exact absurd rfl e|exact absurd rfl h|exact i
 refine gX (f:=λn k=>n==DH b&&glob U n&&dg N args U k) j λnm p k pos m j=>?_;rw[m]
 ·refine dA (gK j) ?_;rintro⟨k1,k2⟩k3;replace k1:=ci k1;refine dA (GZ.e hw) ?_;try clear hw;rintro o hw
  refine rE (kE a c (v:=Oa b) k2 (by rw[k1];exact qJ b) ?_);refine HZ d (El b) k3 c hw λavs t J s1 q w r=>PE.ret r ?_;refine Mg b e h A G ρ J s1 Q E avs t (λu=>c.hh ?_) c.R.zero r.st w q.b;cases hd with|false=>rfl|true=>exact absurd (o rfl) u
theorem GK(a:dX W N){e:Internal.E}(b:aN N T Y hd n W e):aN N T Y hd n W (.bi .isInt (.cons e .nil)):=λU x A G ρ H s Q X E d c hw=>by refine qz d λnm f y g h p i d=>?_;rw[i];·refine dA (aO d) λd k5=>?_;refine dA (fX d) ?_;rintro⟨⟨k1,k2⟩,k3⟩k4;replace k1:=ci k1;replace k3:=ci k3;replace k5:=(aO k5).1;exact GU a b (tv:="int") k1 k2 k4 (by rw[k3];exact qJ .int) k5 c (GZ.e hw).2 λj v J s1 q w r=>PE.ret r (Ga w (dR.b q) r.st)
theorem Dz(a:dX W N){e:Internal.E}(b:aN N T Y hd n W e):aN N T Y hd n W (.bi .isBool (.cons e .nil)):=λU x A G ρ H s Q X E d c hw=>by refine qz d λnm f y g h p i d=>?_;rw[i];·refine dA (aO d) λd k5=>?_;refine dA (fX d) ?_;rintro⟨⟨k1,k2⟩,k3⟩k4;replace k1:=ci k1;replace k3:=ci k3;replace k5:=(aO k5).1;exact GU a b (tv:="bool") k1 k2 k4 (by rw[k3];exact BG 8 rfl) k5 c (GZ.e hw).2 λj v J s1 q w r=>PE.ret r (Dk w (dR.b q) r.st)
theorem J8{id:String}{self:Value}{e:Internal.E}(a:aN N T Y hd n W e){y:Expr}{pos:Pos}{b:QV}{P:Value->Shared->Prop}(d:ay N e U y=true)(c:Ctx hd n W U A G ρ H s X E)(hw:WE T Y hd e ρ b X H)(k:∀f v J s1,b f J->VR s1.heap f v->Reach W A G H s ρ J s1->wpAny (model W.prog W.w) A (call (.builtin id) [self,v]) P E s1):wpAny (model W.prog W.w) A (callWith pos (.builtin id) [self] (backTo pos (starEach [y] G.env)) []) P E s:=by rw[ax (bS d),cg];refine Calls.callWith_builtin rfl (evalArgs_plain (lj (PE.step (a _ _ _ _ _ _ _ _ _ _ d c hw) λf v J s1 q w r=>pk ?_)));exact k f v J s1 q w r
theorem oz{e:Internal.E}{y:Expr}{env:Env}{pos:Pos}(a:ay N e U y=true):(backTo pos (starEach [y] env)).any (·.1)=false:=by rw[ax (bS a),cg];rfl
theorem Lw{o e:Internal.E}(ho:aN N T Y hd n W o)(b:aN N T Y hd n W e):aN N T Y hd n W (.app o e):=λU x A G ρ H s Q X E d c hw=>by
 have hz:sizeLine=16777216:=by decide+kernel
 refine vK d λy nm f z p g d=>?_;rw[g]
 ·refine dA (aO d) λd h=>?_;refine dA (fX d) ?_;rintro⟨⟨i,j⟩,k⟩h4;rw[ci i];refine ki h (oz k) (by simp) h4 (PE.step (ho _ _ _ _ _ _ _ _ _ _ j c hw) λm v J s1 q w r pl=>?_);refine aD ?_;intro B;refine dA q ?_;try clear q;rintro⟨a,C,rfl,D⟩q
  refine VR.eRef w ?_;refine aZ (r.st.objs _ _ D) λI nn e1 w1=>?_;refine getMethod_builtin (an _ e1 rfl) F.plainAttrs_list F.slot_list_append F.type_list_append (λa e=>by cases e;exact an _ e1 rfl) ?_;refine J8 b k (c.next r) q λK u ab s2 L w2 M=>?_;refine jV (L.b) λO xs e0 P hsz L=>?_;obtain rfl:a=O:=by injection e0
  refine aZ (M.st.objs _ _ P) λR S e2 w3=>?_;refine append_at (hsz:=by refine(?_:R.toArray.size<=sizeLine);rw[oF,<-w3.length];exact aa (bT hsz) dj) e2 λh' V e3=>?_;have Z:=TS.of_but M.st P V;refine aL _ _ L (.none) ((r.trans M).trans (M.st.turn (t:=s2.toks) P (by intro l;simp) V (aY (R++[u]) (S+1) ?_ ((w3.ts Z).append (.cons (w2.ts Z) .nil))) (by intro l;simp)));rw[e3];simp[PySem.W.listOf]
theorem zN{h:Heap}:∀{p:List (List Nat)}{a:List Value},bj h (p.map .str) a->StrsAre a (p.map gC):=by intro p;induction p with|nil=>intro _ v;refine bj.eNil v ?_;exact .nil|cons l p c=>intro _ v;refine bj.eCons v λd xs w b=>?_;refine VR.eStr w λx t ex=>?_;rw[gT,kl ex];exact .cons _ _ (c b)
theorem Ix:∀(p:List (List Nat)),((p.map gC).map (λx=>x.length)).sum=p.flatten.length:=by intro p;induction p with|nil=>exact rfl|cons l p a=>have:=a;simp only[List.map_cons,List.sum_cons,this,List.flatten_cons,List.length_append];rfl
theorem Dg{e:Str}(a:e.cps.toList=[]):∀(p:List (List Nat)),(Txt.join e (p.map gC)).cps.toList=p.flatten:=by
 have b:e.cps=#[]:=Array.toList_inj.mp (by simpa using a);have gen:∀(p:List (List Nat))(acc:Array Nat),((p.map gC).foldl (λacc q=>acc++e.cps++q.cps) acc).toList=acc.toList++p.flatten:=by
  intro p;induction p with
  |nil=>intro acc;simp|cons l p c=>intro acc;rw[gT,oZ,c,b];simp[gC]
 intro p;cases p with|nil=>rfl|cons l p=>refine(?_:((p.map gC).foldl (λacc q=>acc++e.cps++q.cps) (gC l).cps).toList=_);rw[gen];rfl
theorem Jm{o e:Internal.E}(ho:aN N T Y hd n W o)(b:aN N T Y hd n W e):aN N T Y hd n W (.join o e):=λU x A G ρ H s Q X E d c hw=>by
 refine vK d λy nm f z p g d=>?_;rw[g]
 ·refine dA (aO d) λd h=>?_;refine dA (fX d) ?_;rintro⟨⟨i,j⟩,m⟩h4;rw[ci i];refine dA (rW.e hw) ?_;try clear hw;rintro B hw
  refine ki h (oz m) (by simp) h4 (PE.step (ho _ _ _ _ _ _ _ _ _ _ j c hw) λC v J s1 q w r pl=>?_);refine aD ?_;intro D;refine am (NA q) ?_;try clear q;rintro l rfl q
  refine VR.eStr w λxs t F=>?_;refine PySem.GM.join ?_;refine J8 b m (c.next r) q λI u K s2 L w2 M=>?_;refine zi (L.b) λa O e0 e1 P R S V=>?_;subst e1;obtain rfl:l=[]:=by injection e0
  refine VR.eRef w2 ?_;refine aT ((M.st.objs _ _ P).isList) λab Z w3 ag=>?_;have hx:xs.length=0:=by rw[iI F];rfl
  refine PyProof.Rows.join_list Z (by rw[Bo];exact zN w3) (by rw[Ix,hx,ug,Nat.add_zero];exact aa S dj) λal k=>aL _ _ V (.str (Dg F O)) ((r.trans M).trans (Reach.toks M.st))
theorem Oe{e:Internal.E}(d:aN N T Y hd n W e):aN N T Y hd n W (.fs e):=λU x A G ρ H s Q X E g c hw=>by
 have hz:sizeLine=16777216:=by decide+kernel
 ·refine Ld (f:=λa y b=>ay N e U y&&decide (a.length<1000)&&decide (b.length<1000)) g λa y b h h h h h h j g=>?_;rw[j];refine dA (gK g) ?_;rintro⟨l,m⟩o;replace m:=bY m;replace o:=bY o;have p:(Str.empty).length=0:=rfl;refine PyProof.Rows.JoinedStr_many (Gw (xb ⟨by rw[Str.length_append,p];lia,?_⟩));refine l9 ?_;intro u;have r0:Reach W A G H s ρ H {s with toks:=s.toks+1}:=Reach.toks c.S;refine Gw (PyProof.Rows.FormattedValue_plain (PE.step (d _ _ _ _ _ _ _ _ _ _ l (c.next r0) hw) λz v J s1 q w r=>?_));refine aD ?_;intro u;refine w.mInt q λi t q=>?_;refine lz q λB C D=>?_;try clear q
  have F:i.natAbs<10^6:=by lia
  have I:(Str.ofString (toString i)).length<=7:=by have l:=int_text_length_le10 (k:=6) (by decide) F;have m:(Str.ofString (toString i)).length=(toString i).length:=PySem.ofString_length (toString i);lia
  refine wpAny_formatField_int (by
   by_cases q:i.natAbs=0;·rw[q];decide
   ·exact jk ((Nat.log2_lt q).mpr (cN F (by decide:10^6<=2^20))) (by decide)) ⟨?_,?_⟩;·rw[Str.length_append,Str.length_append,p];lia
  ·refine Gw (xb ⟨by simp only[Str.length_append,p];lia,?_⟩);refine PyProof.Rows.joinParts_nil ?_ (by simp only[Str.length_append,p];lia);exact aL _ _ (D _) (.str rfl) ((r0.trans r).trans (Reach.toks r.st))
noncomputable def Be(d:Fn)(a b:List Value):List Value:=if b.length=d.params then b else b++a.drop (b.length+a.length-d.params)
noncomputable def DY(d:Fn)(k:Nat):Prop:=k=d.params\/(k<d.params/\d.params<=k+d.dflts.length)
structure MT(W:Wd)(np:Nat)(vs:List (Str×Nat))(a:Addr)(b:FuncData)(body:List Stmt):Prop where
 at_:∃o,W.B.get? a=some o/\o.data=.func b
 body:b.body=.stmts body
 code:W.B.CodeRec b.code b.qualname
 lim:W.B.NoLimit
 kind:b.scope.kind=.function
 nd2:(vs.map (·.2)).Nodup
 nd1:(vs.map (·.1)).Nodup
 ndn:(b.scope.names.map (·.1)).Nodup
 loc:∀p∈vs,b.scope.names.lookup p.1=some .local\/b.scope.names.lookup p.1=some .cell
 co:b.scope.isCoroutine=false
 gen:b.scope.isGenerator=false
 clo:b.closure=[]
 glob:b.globals=mainGlobals
 blt:b.builtins=builtinsNs
 nums:(vs.take np).map (·.2)=List.range np
 nofree:∀p∈b.scope.names,p.2≠.free
theorem zD{kindOf:Str->Option NameKind}{x:Str}:∀{l:List (Str×Value)}{m:Str->Option Value},x∉l.map (·.1)->bindL kindOf l m x=m x:=by
 intro r;induction r with
 |nil=>intro m _;exact rfl|cons a r b=>
  obtain⟨y,v⟩:=a;intro m h;simp only[List.map_cons,List.mem_cons,not_or]at h;skip;rw[b h.2];split;·simp[h.1]
  ·rfl
theorem ub{kindOf:Str->Option NameKind}{x:Str}{v:Value}(a:kindOf x=some .local):∀{l:List (Str×Value)}{m:Str->Option Value},(l.map (·.1)).Nodup->(x,v)∈l->bindL kindOf l m x=some v
 |(y,u)::r,m,nd,h=>by
  simp only[List.map_cons,List.nodup_cons]at nd;unfold bindL;rcases bB h with e|h
  ·cases e;rw[zD nd.1,aE a];simp
  ·exact ub a nd.2 h
theorem z7{kindOf:Str->Option NameKind}{x:Str}:∀{l:List (Str×Value)}{m:Str->Option Value},x∉l.map (·.1)->bindC kindOf l m x=m x:=by
 intro r;induction r with
 |nil=>intro m _;exact rfl|cons a r b=>
  obtain⟨y,v⟩:=a;intro m h;simp only[List.map_cons,List.mem_cons,not_or]at h;skip;rw[b h.2];split;·rfl
  ·simp[h.1]
theorem uC{kindOf:Str->Option NameKind}{x:Str}{v:Value}(a:kindOf x≠some .local):∀{l:List (Str×Value)}{m:Str->Option Value},(l.map (·.1)).Nodup->(x,v)∈l->bindC kindOf l m x=some v
 |(y,u)::r,m,nd,h=>by
  simp only[List.map_cons,List.nodup_cons]at nd;unfold bindC;rcases bB h with e|h
  ·cases e;rw[z7 nd.1,aA a];simp
  ·exact uC a nd.2 h
noncomputable def wc(b:FuncData)(vs:List (Str×Nat))(L a:Addr):Fc:=⟨callEnvC b L a,ownOf (callEnvC b L a),vs,vs.map (·.1)⟩
theorem oo{xs:List Str}{a:List Value}(h:xs.length=a.length):(xs.zip a).map (·.1)=xs:=by rw[List.map_fst_zip];lia
structure MW(W:Wd)(A:Around)(H:Hp)(s:Shared):Prop where
 rest:∃h t,s={W.s0 with heap:=h,toks:=t}
 base:∀b o,W.B.get? b=some o->s.heap.get? b=some o
 objs:∀a ao,H a=some ao->eK W s.heap a ao
 new:∀a ao,H a=some ao->(∀l,ao≠.ro l)->W.B.get? a=none
 frames:∀l,A.frames=some l->∀e∈l,LI W.B H s.heap e
 hasF:∃l,A.frames=some l
theorem St.toP(S:St W A G ρ H s):MW W A H s:=⟨S.rest,S.base,S.objs,S.new,S.frames,S.hasF⟩
theorem MW.enter(S:MW W A H s){np:Nat}{vs:List (Str×Nat)}{a:Addr}{d:FuncData}{body:List Stmt}(F:MT W np vs a d body){pv:List V}{g:List Value}(hv:bj s.heap pv g)(m:pv.length=np)(a5:np<=vs.length)(I:InCallC s (callEnvC d s.heap.objs.size a).locals (bindL (callEnvC d s.heap.objs.size a).kindOf (((vs.take np).map (·.1)).zip g) λn=>none) (callEnvC d s.heap.objs.size a).cells (bindC (callEnvC d s.heap.objs.size a).kindOf (((vs.take np).map (·.1)).zip g) λn=>none) s1):St W (A.deeper (callEnvC d s.heap.objs.size a)) (wc d vs s.heap.objs.size a) (λi=>pv[i]?) H s1:=by
 refine fK (cX d.scope.names (s.heap.push {cls:=.type "frame",data:=.dict #[]}) (s.heap.objs.size+1) [] F.ndn (by rw[hU];exact bF _) (by simp) (by simp) .nil .nil) λu w B C D=>?_;rw[hU]at u;rw[hU]at w;rw[hU]at B;rw[hU]at C;rw[hU]at D;have kept:=I.toInCall.keep;have E:∀{x c},(x,c)∈(callEnvC d s.heap.objs.size a).cells->(callEnvC d s.heap.objs.size a).cells.lookup x=some c:=λh=>bu B h;have ab:∀x,(callEnvC d s.heap.objs.size a).kindOf x=d.scope.names.lookup x:=λn=>rfl;have a6:pv.length=g.length:=hv.length;have ag:((vs.take np).map (·.1)).length=g.length:=by simp;lia
 have G:((((vs.take np).map (·.1)).zip g).map (·.1)).Nodup:=by rw[oo ag];exact uj (f:=Prod.fst) (l:=vs) (i:=np)▸(List.take_sublist np (vs.map (·.1))).nodup F.nd1
 have J:∀b,s.heap.objs.size<=b->H b=none/\W.B.get? b=none:=λb K=>⟨by
  cases q:H b with
  |none=>rfl|some ao=>exact(S.objs b ao q).live.elim λn e=>nn (qi K) e,by
  cases q:W.B.get? b with|none=>rfl|some o=>have:=S.base b o q;rw[qi K]at this;cases this⟩;have al:∀p∈(callEnvC d s.heap.objs.size a).cells,s.heap.objs.size+1<=p.2/\(p.1,NameKind.cell)∈d.scope.names:=λp M=>by
  rcases u p M with z|z;·cases z
  ·exact⟨z.1,z.2.1⟩
 refine⟨?_,λb o q=>kept b o (S.base b o q),λb ao q=>(S.objs b ao q).of_get (TS.of_keeps kept) λo e=>kept b o e,S.new,F.kind,F.glob,F.blt,(an _ I.toInCall.ns (λx i v N O=>?_)),λx c P=>⟨_,I.cell x c (E P)⟩,λx hx=>?_,w,λb K=>?_,λb K=>K,cS ..,λx hx=>?_,λl Q e R=>?_,?_,λx y i N O=>qp F.nd2 (fu N) (fu O)⟩
 ·refine qD (S.rest) λh t e=>?_;refine qD (I.toInCall.same) λh' ap ar=>?_;exact tC h' ap (by rw[ar,e])
 ·have av:vs.lookup x=some i:=N;have P:=fu av;have hi:i<np:=by rw[<-m];exact(jB O).1
  have hx:((vs.take np).map (·.1))[i]?=some x:=by
   have e1:((vs.take np).map (·.2))[i]?=some i:=by rw[F.nums];simp[hi]
   rw[f_]at e1;rw[f_];cases q:(vs.take np)[i]? with
   |none=>rw[q]at e1;cases e1|some p=>rw[q]at e1;obtain⟨y,j⟩:=p;simp only[Option.map_some,Option.some.injEq]at e1;subst e1;have a0:(y,j)∈vs:=uO (cy q);rw[qp F.nd2 P a0];rfl
  refine am (hv.get O) λT a1 r=>?_;refine an T (r.ts (TS.of_keeps kept)) ?_;have K:(x,T)∈((vs.take np).map (·.1)).zip g:=by refine cy (i:=i) ?_;rw[List.getElem?_zip_eq_some];exact⟨hx,a1⟩
  rcases F.loc _ P with q|q;·exact .inl ⟨q,ub q G K⟩
  ·refine am (D x (fu q)) λc a7 U=>?_;refine .inr (eA (.inl q) c (E U) ?_);have:=I.cell x c (E U);rw[uC (by rw[ab];rw[q];simp) G K]at this;exact this
 ·have a2:d.scope.names.lookup x=some .cell\/d.scope.names.lookup x=some .free:=hx;rcases a2 with q|q;·refine am (D x (fu q)) λc n U=>?_;exact⟨c,E U⟩
  ·exact absurd rfl (F.nofree _ (fu q))
 ·rcases bB K with rfl|K;·exact J _ (bF _)
  ·refine am (dm K) ?_;rintro p M rfl;exact J _ (mT (al p M).1)
 ·refine am (dm hx) ?_;rintro p M rfl;rcases F.loc p M with q|q;·exact .inl q
  ·refine am (D p.1 (fu q)) λc n U=>?_;exact .inr (eA q c (E U) (dn _ (cY (an _ U rfl))))
 ·refine dE (S.hasF) λX Y=>?_;have e1:(A.deeper (callEnvC d s.heap.objs.size a)).frames=some (callEnvC d s.heap.objs.size a::X):=uR Y;rw[e1]at Q;cases Q;rcases bB R with rfl|R
  ·refine bw (I.toInCall.ns) λo Z ep ho hd n=>?_;have fr:=J s.heap.objs.size (bF _);exact b6 F.kind s.heap.objs.size o _ _ rfl ho hd fr.2 fr.1
  ·refine w9 (S.frames X Y e R) λa3 L o Z k a4 ho r=>?_;exact Fi a3 L o Z k a4 (kept _ _ ho) r
 ·refine dE (S.hasF) λX Y=>?_;exact⟨_,uR Y⟩
theorem K3(S:St W A G ρ H s){c:FuncData}{vs:List (Str×Nat)}{a:Addr}(ndn:(c.scope.names.map (·.1)).Nodup):∀b∈ownOf (callEnvC c s.heap.objs.size a),s.heap.get? b=none:=λb d=>by
 refine dA (cX c.scope.names (s.heap.push {cls:=.type "frame",data:=.dict #[]}) (s.heap.objs.size+1) [] ndn (by rw[hU];exact bF _) (by exact nofun) (by simp) .nil .nil) λe f=>?_;rw[hU]at e;rcases bB d with rfl|d;·exact qi (bF _)
 ·refine am (dm d) ?_;rintro p g rfl;rcases e p g with z|z;·cases z
  ·exact qi (mT z.1)
theorem wU(S:St W A G ρ H s){np:Nat}{vs:List (Str×Nat)}{a:Addr}{d:FuncData}{body:List Stmt}(F:MT W np vs a d body)(g:A.depth<recursionLimit){pv:List V}{h j:List Value}(hv:bj s.heap pv j)(l:pv.length=np)(m:np<=vs.length)(n:BindsTo s d ⟨h,[]⟩ (((vs.take np).map (·.1)).zip j)){P:Result->Shared->Prop}
 (k:∀s1,St W (A.deeper (callEnvC d s.heap.objs.size a)) (wc d vs s.heap.objs.size a) (λi=>pv[i]?) H s1->(∀b o,s.heap.get? b=some o->s1.heap.get? b=some o)->wpAny (model W.prog W.w) (A.deeper (callEnvC d s.heap.objs.size a)) (execs body (callEnvC d s.heap.objs.size a)) (λf s'=>P (.ok (.ret (match f with|.ret v=>v|_=>.none))) s') (λe s'=>wpAny (model W.prog W.w) (A.deeper (callEnvC d s.heap.objs.size a)) (leaving (callEnvC d s.heap.objs.size a) e) (λr t=>P (.error e) t) (λu t=>P (.error u) t) s') s1):codeAny (model W.prog W.w) A (.call (.ref a) ⟨h,[]⟩) P s:=by
 refine am (F.at_) λo ho w=>?_;have y:((vs.take np).map (·.1)).length=j.length:=by simp;have:=hv.length;lia
 refine codeAny_call_function g (S.base _ _ ho) w F.co F.gen F.body (F.code.keeps λb o e=>S.base b o e) (n _ _ _ _ ?_);rw[F.clo];refine wpAny_newFunctionEnv_cells F.kind (λx hx=>?_) λenv z s' x=>?_
 ·have B:x.1∈(vs.take np).map (·.1):=by rw[<-oo y];exact cY (an _ hx rfl)
  refine am (dm B) λp C D=>?_;have E:p∈vs:=uO C;rw[<-D];rcases F.loc p E with q|q;·exact .inl q
  ·refine fK (cX d.scope.names (s.heap.push {cls:=.type "frame",data:=.dict #[]}) (s.heap.objs.size+1) [] F.ndn (by rw[hU];exact bF _) (by exact nofun) (by exact nofun) .nil .nil) λr r I r J=>?_;rw[hU]at I;rw[hU]at J;refine am (J p.1 (fu q)) λc r K=>?_;exact .inr ⟨q,by rw[bu I K];rfl⟩
 ·subst z;exact⟨(F.lim.keeps λb o e=>x.toInCall.keep b o (S.base b o e)),codeAny_func (k s' (S.toP.enter F hv l m x) x.toInCall.keep)⟩
theorem nM(S:St W A G ρ H s){c:FuncData}{vs:List (Str×Nat)}{a:Addr}(ndn:(c.scope.names.map (·.1)).Nodup){O d:aR}{Z:Hp}{s':Shared}(f:St W (A.deeper (callEnvC c s.heap.objs.size a)) (wc c vs s.heap.objs.size a) d H s1)(kept:∀b o,s.heap.get? b=some o->s1.heap.get? b=some o)(r:Reach W (A.deeper (callEnvC c s.heap.objs.size a)) (wc c vs s.heap.objs.size a) H s1 O Z s'):Reach W A G H s ρ Z s':=by
 refine dE (S.hasF) λg j=>?_;have k:aX (A.deeper (callEnvC c s.heap.objs.size a))=s.heap.objs.size::aX A:=by unfold aX;rw[uR j,j];rfl
 have l:=K3 S (vs:=vs) (a:=a) ndn;have k1:Reach W A G H s ρ H s1:=by refine qD (S.rest) λh t e=>?_;refine qD (f.rest) λh' m p=>?_;have:=Reach.keeps S (h':=h') (t:=m) (λb o q=>by have:=kept b o q;rw[p]at this;exact this);rw[p,e]at*;exact this
 refine Reach.back S k1 r.st r.pr l (λb u=>?_) λb u o e i=>?_
 ·rw[k]at u;rcases bB u with rfl|u;·exact .inl (qi (bF _))
  ·exact .inr u
 ·rcases u with u|⟨u,_⟩
  ·refine am (f.own_obj u) λw p x=>?_;rw[e]at p;cases p;rcases x with⟨y,n,x⟩|⟨v,x⟩;·exact bc x i
   ·exact fw x i
  ·refine bw (f.frs_obj u) λw y n p x z=>?_;rw[e]at p;cases p;exact bc x i
noncomputable def B4:Internal.E->Nat|.not _=>1|.cmp ..=>1|.chain2 ..=>1|.chain3 ..=>1|.isN _=>1|.inD ..=>1|.and ..=>1|.or ..=>1|.ite ..=>1|.comp ..=>2|.compIf ..=>2|_=>0
section
variable{x:Expr}
theorem HS{F:Expr->Str->Pos->Bool}(h:gy x F=true):eQ x=0:=kh h λa a a e a=>e▸rfl
theorem Lp{F:Expr->Operator->Expr->Pos->Bool}(h:FQ x F=true):eQ x=0:=Fg h λa a a a e a=>e▸rfl
theorem Bz{F:BoolOp->List Expr->Pos->Bool}(h:sO x F=true):eQ x=1:=wA h λa a a e a=>e▸rfl
theorem kz{F:Expr->List Expr->List Keyword->Pos->Bool}(h:cZ x F=true):eQ x=0:=iK h λa a a a e a=>e▸rfl
theorem sR{F:Expr->List CmpOp->List Expr->Pos->Bool}(h:qc x F=true):eQ x=1:=sf h λa a a a e a=>e▸rfl
theorem BS{F:Expr->List Comprehension->Scope->Pos->Bool}(h:rJ x F=true):eQ x=2:=vZ h λa a a a e a=>e▸rfl
theorem mB{F:Const->Nat->Pos->Bool}(h:bU x F=true):eQ x=0:=dT h λa a a e a=>e▸rfl
theorem wj{F:List (Option Expr)->List Expr->Pos->Bool}(h:mt x F=true):eQ x=0:=qt h λa a a e a=>e▸rfl
theorem M9{F:Expr->Expr->Expr->Pos->Bool}(h:NZ x F=true):eQ x=1:=J1 h λa a a a e a=>e▸rfl
theorem G7{F:List Expr->Pos->Bool}(h:yS x F=true):eQ x=0:=Cf h λa a e a=>e▸rfl
theorem Js{F:List Expr->Pos->Bool}(h:yb x F=true):eQ x=0:=BY h λa a e a=>e▸rfl
theorem Ih{F:Str->Pos->Bool}(h:ca x F=true):eQ x=0:=eJ h λa a e a=>e▸rfl
theorem sj{F:Expr->Expr->Pos->Bool}(h:j9 x F=true):eQ x=0:=jK h λa a a e a=>e▸rfl
theorem La{F:List Expr->Nat->Pos->Bool}(h:zX x F=true):eQ x=0:=Ar h λa a a e a=>e▸rfl
end
theorem BN{e:Internal.E}{x:Expr}(h:ay N e U x=true):eQ x=B4 e:=by
 cases e with
 |var=>exact Ih h|cint=>exact mB h|cstr=>exact mB h|cbool=>exact mB h|cnone=>exact mB h|bin=>exact Lp h|neg=>exact Bb h λa a e a=>e▸rfl|not=>exact vW h λa a e a=>e▸rfl|cmp=>exact sR h|chain2=>exact sR h|chain3=>exact sR h|isN=>exact sR h|inD=>exact sR h|and=>exact Bz h|or=>exact Bz h|ite=>exact M9 h|idx=>exact sj h|slLo=>exact sj h|slHi=>exact sj h|slB=>exact sj h|slRev=>exact sj h|attr=>exact HS h|list=>exact Js h|tup=>exact La h|dct0=>exact wj h|dct1=>exact wj h|dct2=>exact wj h|comp=>exact BS h|compIf=>exact BS h|call=>exact kz h|new=>exact kz h|meth=>exact kz h|bi b args=>
  obtain⟨f,h⟩:∃f,cZ x f=true:=by cases b<;>exact⟨_,h⟩
  exact kz h|app=>exact kz h|join=>exact kz h|fs=>exact G7 h|bad=>exact no h
theorem IT{e:Internal.E}(h:B4 e≠1):∀U x env whole,ay N e U x=true->isTrue x env whole=(do let v<-whole;standAt x.pos;holding [v] (truthy v)):=λU x env whole a=>isTrue_plain (BN a▸h) env whole
theorem LJ:aN N T Y hd n W .bad:=λU x A G ρ H s Q X E a c hw=>(bI a).elim
theorem KH:lQ N T Y hd n W .bad:=λU x A G ρ H s Q X E a c hw=>(bI a).elim
theorem yR{b:Bi}{args:EL}(a:b=.isInt\/b=.isBool)(d:∀U y,dg N args U [y]=false):aN N T Y hd n W (.bi b args):=λU x A G ρ H s Q X E e c hw=>by
 rcases a with rfl|rfl;·refine qz (f:=λn y g=>n==DH .isInt&&glob U n&&g==DH .int&&glob U g&&dg N args U [y]) e λh h y h h h i e=>?_;exact no ((d U y).symm.trans (aO e).2)
 ·refine qz (f:=λn y g=>n==DH .isInt&&glob U n&&g==("bool":Str)&&glob U g&&dg N args U [y]) e λh h y h h h i e=>?_;exact no ((d U y).symm.trans (aO e).2)
noncomputable def J7(N:Nm)(T:cA)(Y:kC)(hd:Bool)(n:Nat)(W:Wd):EL->Prop|.cons e .nil=>aN N T Y hd n W e|_=>True
theorem xr(a:dX W N){b:Bi}{args:EL}(c:b=.isInt\/b=.isBool)(h:J7 N T Y hd n W args):aN N T Y hd n W (.bi b args):=by
 cases args with|nil=>exact yR c λd d=>rfl|cons e r=>cases r with
  |nil=>
   rcases c with rfl|rfl;·exact GK a h
   ·exact Dz a h|cons=>exact yR c λd d=>xn _
noncomputable def Nx(N:Nm)(T:cA)(Y:kC)(hd:Bool)(n:Nat)(W:Wd)(a:EL):Prop:=zq N T Y hd n W a/\IC N T Y hd n W a/\OB N T Y hd n W a/\BH N T Y hd n W a/\IK N T Y hd n W a/\J7 N T Y hd n W a
theorem Gc(a:dX W N){b:Bi}{c:EL}(h:Nx N T Y hd n W c):aN N T Y hd n W (.bi b c):=by
 by_cases d:b=.isInt;·exact xr a (.inl d) h.2.2.2.2.2
 ·by_cases e:b=.isBool;·exact xr a (.inr e) h.2.2.2.2.2
  ·exact NL a h.1 d e
theorem pl{e:Internal.E}(h:aN N T Y hd n W e)(k:Nat.beq (B4 e) 1=false):aN N T Y hd n W e/\lQ N T Y hd n W e:=⟨h,lQ.of h (IT λz=>by rw[z]at k;exact ff k.symm)⟩
mutual theorem au(g:dX W N)(C:eT W N T)(h:dr W Y n):∀e:Internal.E,aN N T Y hd n W e/\lQ N T Y hd n W e|.var i=>pl Ms rfl|.cint i=>pl HQ rfl|.cstr i=>pl I9 rfl|.cbool i=>pl F9 rfl|.cnone=>pl EK rfl|.bin op a b=>pl (ME (op:=op) (au g C h a).1 (au g C h b).1) rfl|.neg a=>pl (KG (au g C h a).1) rfl|.not a=>⟨Ku (au g C h a).1,Kw (au g C h a).2⟩|.cmp op a b=>⟨L8 (au g C h a).1 (au g C h b).1,L9 (au g C h a).1 (au g C h b).1⟩|.chain2 q s a b c=>⟨C2 (au g C h a).1 (au g C h b).1 (au g C h c).1,CX (au g C h a).1 (au g C h b).1 (au g C h c).1⟩|.chain3 q s w a b c d=>⟨Co (au g C h a).1 (au g C h b).1 (au g C h c).1 (au g C h d).1,C3 (au g C h a).1 (au g C h b).1 (au g C h c).1 (au g C h d).1⟩|.isN a=>⟨KK (au g C h a).1,LK (au g C h a).1⟩|.inD p a d=>⟨L3 (au g C h a).1 (au g C h d).1,Lv (au g C h a).1 (au g C h d).1⟩|.and a r=>⟨(jz g C h r).2.1 a (au g C h a).1,(jz g C h r).2.2.2.1 a (au g C h a).2⟩|.or a r=>⟨(jz g C h r).2.2.1 a (au g C h a).1,(jz g C h r).2.2.2.2.1 a (au g C h a).2⟩|.ite c a b=>⟨KN (au g C h c).2 (au g C h a).1 (au g C h b).1,LH (au g C h c).2 (au g C h a).2 (au g C h b).2⟩|.idx a i=>pl (Kn (au g C h a).1 (au g C h i).1) rfl|.slLo a i=>pl (Hm (au g C h a).1 (au g C h i).1) rfl|.slHi a i=>pl (IQ (au g C h a).1 (au g C h i).1) rfl|.slB a i j=>pl (KY (au g C h a).1 (au g C h i).1 (au g C h j).1) rfl|.slRev a=>pl (GC (au g C h a).1) rfl|.attr o f=>pl (HD g (f:=f) (au g C h o).1) rfl|.list y=>pl (IU (jz g C h y).1) rfl|.tup y=>pl (KQ (jz g C h y).1) rfl|.dct0=>pl (Hl g) rfl|.dct1 k v=>pl (I7 g (k:=k) (au g C h v).1) rfl|.dct2 k l v u=>pl (Iw g (k:=k) (l:=l) (au g C h v).1 (au g C h u).1) rfl|.comp z t sk A=>pl (BE g (t:=t) (sk:=sk) (au g C h A).1 (au g C h z).1) rfl|.compIf z t sk A c=>pl (uo g (t:=t) (sk:=sk) (au g C h A).1 (au g C h z).1 (au g C h c).2) rfl|.call f args=>pl (IS g C h (f:=f) (jz g C h args).1) rfl|.new f args=>pl (MG g C h (cl:=f) (jz g C h args).1) rfl|.meth o m args=>pl (Hr g C h (m:=m) (au g C h o).1 (jz g C h args).1) rfl|.bi b args=>pl (Gc g (b:=b) (jz g C h args)) rfl|.app o x=>pl (Lw (au g C h o).1 (au g C h x).1) rfl|.join o x=>pl (Jm (au g C h o).1 (au g C h x).1) rfl|.fs x=>pl (Oe (au g C h x).1) rfl|.bad=>⟨LJ,KH⟩theorem jz (g:dX W N)(C:eT W N T)(h:dr W Y n):∀y:EL,Nx N T Y hd n W y|.nil=>s8 Ez Iu KV EN HM aJ|.cons e r=>(s8 (AX (au g C h e).1 (jz g C h r).1) (EQ (au g C h e).1 (jz g C h r).2.1) (HJ (au g C h e).1 (jz g C h r).2.2.1) (Dx (au g C h e).2 (jz g C h r).2.2.2.1) (Fe (au g C h e).2 (jz g C h r).2.2.2.2.1) (by cases r;exact(au g C h e).1;exact aJ))end
noncomputable def iU:Internal.E->Bool|.comp ..=>true|.compIf ..=>true|_=>false
theorem rP{e:Internal.E}(h:iU e=false):∀x,ay N e U x=true->ky x=true:=λx a=>DC λz=>by
 have k:B4 e=2->iU e=true:=by cases e<;>first|exactλb=>rfl|exact nofun
 rw[k ((BN a).symm.trans z)]at h;cases h
theorem IY{P:Internal.E->Prop}{e:Internal.E}(h:iU e=true)(k:∀a t sk c,P (.comp a t sk c))(k2:∀a t sk c d,P (.compIf a t sk c d)):P e:=by cases e<;>first|exact ff h|exact k _ _ _ _|exact k2 _ _ _ _ _
theorem CM(a:dX W N)(C:eT W N T)(b:dr W Y n){i:Nat}{e:Internal.E}:nN N T Y hd n W (.asg i e):=by cases h:iU e with|false=>exactλU x A G ρ H s nx ct rt ex E d c hw=>LM (au a C b e).1 (λx hx=>rP h x hx) d c hw|true=>exact IY (P:=λe=>nN N T Y hd n W (.asg i e)) h (λf f f f=>Aa a (au a C b _).1 (au a C b _).1) λf f f f f=>wu a (au a C b _).1 (au a C b _).1 (au a C b _).2
section
variable(hR:∀c e,aN N T Y hd n W e->nN N T Y hd n W (.raise c e))
variable(hT1:∀body c h,nr N T Y hd n W body->nN N T Y hd n W (.try1 body c h))
variable(hT2:∀body c h a b,nr N T Y hd n W body->nN N T Y hd n W (.try2 body c h a b))
include hR hT1 hT2
mutual theorem Nh(d:dX W N)(C:eT W N T)(g:dr W Y n):∀e:Internal.S,nN N T Y hd n W e|.asg x e=>CM d C g|.asgT xs e=>Je (au d C g e).1|.asgA o f e=>JF d (au d C g o).1 (au d C g e).1|.asgI o i e=>HF (au d C g o).1 (au d C g i).1 (au d C g e).1|.augV x op e=>Jc (au d C g e).1|.augA o f op e=>Ic d (au d C g o).1 (au d C g e).1|.augI o i op e=>Ir (au d C g o).1 (au d C g i).1 (au d C g e).1|.ex e=>N_ (au d C g e).1|.ite c a b=>Kr (au d C g c).2 (pD d C g a) (pD d C g b)|.for_ t sk j body=>Lq d (au d C g j).1 (pD d C g body)|.whl c body=>LZ (au d C g c).2 (pD d C g body)|.ret e=>Ea (au d C g e).1|.retN=>JE|.raise c e=>hR c e (au d C g e).1|.try1 body c h=>hT1 body c h (pD d C g body)|.try2 body c h k l=>hT2 body c h k l (pD d C g body)|.cont=>Ie|.bad=>LC theorem pD (d:dX W N)(C:eT W N T)(g:dr W Y n):∀e:SL,nr N T Y hd n W e|.nil=>MQ|.cons s r=>Hu (Nh d C g s) (pD d C g r)end
end
noncomputable def Az(W:Wd)(N:Nm)(aI:Nat->Option Fn):Prop:=∀f d,aI f=some d->∃vs a body c,MT W d.params vs (W.fn f) a body/\f8 N d.body ⟨a.scope,vs,vs.map (·.1)⟩ body=true/\d.params<=vs.length/\(∀h,bj h d.dflts c)/\∀e:List Value,DY d e.length->∀s:Shared,(∀b o,W.B.get? b=some o->s.heap.get? b=some o)->BindsTo s a ⟨e,[]⟩ (((vs.take d.params).map (·.1)).zip (Be d c e))
theorem oq{d:Fn}{avs pv:List V}{a b:List Value}{h:Heap}(hv:bj h avs a)(hd:bj h d.dflts b)(c:cp d avs=some pv):bj h pv (Be d b a)/\pv.length=d.params/\DY d a.length:=by
 have e1:=hv.length;have e2:=hd.length;unfold cp at c;unfold Be DY;split at c;·rename_i q;rw[<-dH c,aE (e1▸q)];exact bz hv q (.inl (e1▸q))
 ·rename_i q;split at c
  ·rename_i z;cases c;rw[aA λy=>q (e1.trans y)];refine bz (hv.append (by rw[e1,e2];exact hd.drop _)) (by simp;lia) (.inr (e1▸z))
  ·exact nomatch c
theorem Pj{o:Option Fn}{args:List V}{K:Fn->List V->Prop}(h:match o with|none=>False|some d=>match cp d args with|none=>False|some vs=>K d vs):∃d vs,o=some d/\cp d args=some vs/\K d vs:=by cases o with|none=>exact h.elim|some d=>replace h:match cp d args with|none=>False|some vs=>K d vs:=h;cases e:cp d args with|none=>rw[e]at h;exact h.elim|some vs=>rw[e]at h;exact aL d vs rfl e h
set_option tactic.hygienic true in
theorem Fd(aI:Nat->Option Fn)(F:Az W N aI)(a:∀hd d,nr N T (ei T aI n) hd n W d):dr W (ei T aI (n+1)) (n+1):=λhd f A G ρ H s Q X E avs g S R hh ep hv hw=>by
 (refine aW (Pj hw) ?_;clear hw;rintro d pv h j hw)
 ·skip
  ·skip;refine dD (F f d h) λvs k body ar C l m p t=>?_;refine lz (oq hv (p s.heap) j) λu y B=>?_;unfold Ey at R;refine wU S C (by lia) u y m (t g B s λb o e=>S.base b o e) λs1 D kept=>?_;refine dE (S.hasF) λI J=>?_;have K:(A.deeper (callEnvC k s.heap.objs.size (W.fn f))).frames=some (callEnvC k s.heap.objs.size (W.fn f)::I):=uR J;have L:nQ hd n W ⟨k.scope,vs,vs.map (·.1)⟩ (A.deeper (callEnvC k s.heap.objs.size (W.fn f))) (wc k vs s.heap.objs.size (W.fn f)) (λi=>pv[i]?) H s1 (λM=>X) (λe s'=>wpAny (model W.prog W.w) (A.deeper (callEnvC k s.heap.objs.size (W.fn f))) (leaving (callEnvC k s.heap.objs.size (W.fn f)) e) (λM P=>RQ (PE W A G ρ H s Q) E (.error e) P) (λU P=>RQ (PE W A G ρ H s Q) E (.error U) P) s'):=by
    refine⟨⟨rfl,rfl,rfl⟩,D,?_,hh,(aY I s.heap.objs.size K rfl),λO c Z e s' hx r x=>?_⟩
    ·skip;exact bz (by refine(?_:A.depth+1+10*n+20<_);lia) (by refine(?_:A.units+3+100*n+300<_);lia) R.2.2
    ·skip;refine aQ (qX (fr:=none) D K rfl r x λs2 V Y=>?_);exact kj D V Y λab ag al=>ep c Z e ab hx ⟨nM S C.ndn D kept ag,al.o.older λb o q=>by rw[kept b o q];simp⟩
   refine aD ?_;intro av;refine bE (a hd d.body _ _ _ _ _ _ _ _ _ _ _ _ l L hw) (λao s' z=>?_) λM M z=>z;cases ao with
   |next=>
    refine aZ z λO Z q r=>?_;try clear z
    exact aL (.none) Z q (.none) (nM S C.ndn D kept r)|cont=>refine aZ z λM M q M=>?_;try clear z;exact q.elim|brk=>exact z.elim|ret v=>
    refine bw z λap O Z q w r=>?_;try clear z
    exact aL ap Z q w (nM S C.ndn D kept r)
theorem D9(aI:Nat->Option Fn):dr W (ei T aI 0) 0:=λhd f A G ρ H s Q X E avs a S R hh ep hv hw=>hw.elim
end Mine.Internal
namespace Mine.Internal
open PySem PySem.W PyProof.Rows PySem.Calls
noncomputable abbrev Kp:List Value:=[.type "ValueError",.type "Exception",.type "BaseException",.type "object"]
theorem NM{C P:Addr}:(Value.ref C::Value.ref P::Kp).contains (.type "ValueError")=true:=by simp
theorem J0{C P:Addr}:(Value.ref C::Value.ref P::Kp).contains (.type "BaseException")=true:=by simp
theorem NG{C P:Addr}:(Value.ref C::Value.ref P::Kp).contains (.type "AttributeError")=false:=by simp
theorem Nv{C P:Addr}:(Value.ref C::Value.ref P::Kp).contains (.type "NameError")=false:=by simp
structure EX where
 nm:Str
 q:Str
 N:Addr
 bs:List Value
 sn:List Str
 sub:List Value
 ab:Bool
 col:Option Bool
 dd:Option Addr
 k0:Option Value
 k1:Option Value
 k2:Option Value
 k3:Option Value
 k5:Option Value
noncomputable abbrev EX.obj(y:EX)(hdct:Bool)(C P:Addr):Obj:=excClassObj y.nm y.q C y.N y.bs (.ref P::Kp) hdct y.sn y.sub y.ab y.col y.dd y.k0 y.k1 y.k2 y.k3 y.k5 "ValueError.__new__"
noncomputable abbrev eX(C t:Addr)(dx:Option Addr)(sl:Array (Option Value)):Obj:={cls:=.ref C,dict:=dx,data:=.fields #[.ref t,.none,.none,.none,.bool false,.none],slots:=sl}
section
variable{prog:Program}{w:World}{A:Around}{h:Heap}{g:Array GenState}{d:Drawn}{t:Nat}{os:OsState}
variable{y:EX}{C P:Addr}{hdct:Bool}
theorem AC{M:Model}{E:Value->Shared->Prop}{rest:List Value}{Q:Unit->Shared->Prop}(a:h.get? C=some (y.obj hdct C P))(b:Q () ⟨h,g,d,t,os⟩):wpAny M A (checkBuiltinCall "ValueError.__new__" ⟨.ref C::rest,[]⟩) Q E ⟨h,g,d,t,os⟩:=we (List.replicate 7 (.ld (y.obj hdct C P))) (List.replicate 7 (h,C,y.obj hdct C P)) (by kernel_rfl) (mR a) b
theorem C7{R:Result->Shared->Prop}{rest:List Value}(a:h.get? C=some (y.obj hdct C P))(b:R (.ok (.ret (.ref (h.objs.size+1)))) ⟨(h.push {cls:=.type "tuple",data:=.seq rest.toArray}).push {cls:=.ref C,data:=.fields #[.ref h.objs.size,.none,.none,.none,.bool false,.none]},g,d,t,os⟩)(hrest:rest.length<=sizeLine:=by size_fits):codeAny (model prog w) A (.builtin "ValueError.__new__" ⟨.ref C::rest,[]⟩) R ⟨h,g,d,t,os⟩:=by
 have F:=FM;have c:=F.ends;have e:=NM (C:=C) (P:=P);have f:=NG (C:=C) (P:=P);have i:=Nv (C:=C) (P:=P);refine codeAny_builtinAt F.entry ?_;unfold Builtin.«BaseException.__new__»;refine PySem.wpAt_bind ?_;refine(?_:PySem.wpAt _ _ _ (stack>>=_) _ _ _);refine PySem.wpAt_bind (PySem.wpAt_stack λp j=>PySem.wpAt_of_wpAny ?_);wp_walk;refine PySem.wpAt_of_wpAny ?_;refine aD ?_;intro k;rw[F.owner];repeat (first|with_reducible refine wpAny_madeHere_exc F.canon a ?_|with_reducible refine lq a ?_|(with_reducible refine xC a ?_;first|rw[e]|rw[f]|rw[i])|wp_step)
 refine(?_:R _ _);rw[hU];exact b
theorem xM{M:Model}{E:Value->Shared->Prop}{e a:Addr}{dx:Option Addr}{sl:Array (Option Value)}{v:Value}{Q:Unit->Shared->Prop}(b:h.get? C=some (y.obj hdct C P))(c:h.get? e=some (eX C a dx sl))(f:Q () ⟨h,g,d,t,os⟩):wpAny M A (checkBuiltinCall "ValueError.__init__" ⟨[.ref e,v],[]⟩) Q E ⟨h,g,d,t,os⟩:=we [.ld (eX C a dx sl),.ld (y.obj hdct C P),.ld (eX C a dx sl),.ld (y.obj hdct C P)] [(h,e,eX C a dx sl),(h,C,y.obj hdct C P),(h,e,eX C a dx sl),(h,C,y.obj hdct C P)] (by kernel_rfl) (m1 c (m1 b (m1 c (m1 b m0)))) f
theorem AI{E:Value->Shared->Prop}{K:Frag}{rest:List Value}{a:Addr}{Q:Fin->Shared->Prop}(X:K.In h)(c:findIn K (.ref C) "__init__"=some (some (.ref a)))(f:typeIn K (.ref a)=some (.type "function"))(i:h.get? C=some (y.obj hdct C P))(j:∀h' e,Heap.MadeExcOf h h' e (.ref C) rest->wpAny (model prog w) A (call (.ref a) (.ref e::rest)) (λr s'=>r=.none/\Q (.done (.ret (.ref e))) s') E ⟨h',g,d,t,os⟩)(hrest:rest.length<=sizeLine:=by size_fits):wpAny (model prog w) A (Builtin.«type.__call__» ⟨.ref C::rest,[]⟩) Q E ⟨h,g,d,t,os⟩:=by
 have F:=FM;repeat (first|with_reducible refine lq i ?_|with_reducible refine wpAny_madeBy_exc i ?_|wp_step)
 refine codeAny_call_builtin_code (BA _ F.quiet) (AC i ?_);refine C7 i ?_ hrest;refine(?_:wpAny _ _ _ _ _ _);have kept:∀b o,h.get? b=some o->((h.push {cls:=.type "tuple",data:=.seq rest.toArray}).push {cls:=.ref C,data:=.fields #[.ref h.objs.size,.none,.none,.none,.bool false,.none]}).get? b=some o:=λb o k=>cn _ (cn _ k);have l:=kept _ _ i;have m:=X.keeps kept
 have n:((h.push {cls:=.type "tuple",data:=.seq rest.toArray}).push {cls:=.ref C,data:=.fields #[.ref h.objs.size,.none,.none,.none,.bool false,.none]}).get? (h.objs.size+1)=some {cls:=.ref C,data:=.fields #[.ref h.objs.size,.none,.none,.none,.bool false,.none]}:=by heap_get
 have p:(Value.ref C::.ref P::Kp).contains (.ref C)=true:=by simp
 unfold isInstance;repeat (first|with_reducible refine lq n ?_|(with_reducible refine xC l ?_;rw[p])|wp_step)
 refine(?_:wpAny _ _ (typeLookup (.ref C) _) _ _ _);refine(looks_findIn m c).here ?_;refine eC (aQ ?_);refine(bind_fn m _ f).here ?_;refine aQ (bE (j _ (h.objs.size+1) ⟨λb o k=>kept b o k,qi (Nat.le_succ _),h.objs.size,n,qi (bF _),?_⟩) (λr s' hr=>?_) λq q x=>x);·exact cn _ (Heap.get?_push_at rfl rfl)
 ·refine dA hr ?_;try clear hr;rintro rfl s
  wp_walk;exact s
theorem Du{E:Value->Shared->Prop}{K:Frag}{rest:List Value}{a:Addr}{Q:Value->Shared->Prop}(X:K.In h)(b:findIn K (.ref C) "__init__"=some (some (.ref a)))(c:typeIn K (.ref a)=some (.type "function"))(f:h.get? C=some (y.obj hdct C P))(i:∀h' e,Heap.MadeExcOf h h' e (.ref C) rest->wpAny (model prog w) (A.under (.builtin "type.__call__" ⟨.ref C::rest,[]⟩)) (call (.ref a) (.ref e::rest)) (λr s'=>r=.none/\Q (.ref e) s') E ⟨h',g,d,t,os⟩)(hrest:rest.length<=sizeLine:=by size_fits):wpAny (model prog w) A (call (.ref C) rest) Q E ⟨h,g,d,t,os⟩:=by
 have j:=tc_lookup;have f2:=tc_bind (.ref C);have k:(⟨h,g,d,t,os⟩:Shared).TypeIs (.ref C) "type":=an _ f rfl;refine qY (codeAny_of_tree ?_);refine(?_:wpAny _ _ (callAny (.ref C) _) _ _ _);repeat (any_goals (first|assumption|with_reducible refine lq f ?_|wp_step))
 refine⟨rfl,?_⟩;refine codeAny_call_builtin_at (BA _ (by decide+kernel)) entry_typeCall (wpAny_check_type_call_sub f (AI (hrest:=hrest) X b c f λh' e b=>?_));exact i h' e b
theorem M2{E:Value->Shared->Prop}{e a:Addr}{dx:Option Addr}{sl:Array (Option Value)}{v:Value}{Q:Value->Shared->Prop}(c:h.get? C=some (y.obj hdct C P))(f:h.get? e=some (eX C a dx sl))(i:∀h',(∀b o,b≠e->h.get? b=some o->h'.get? b=some o)->(∃j,h'.get? e=some (eX C j dx sl))->Q .none ⟨h',g,d,t,os⟩):wpAny (model prog w) A (call (.builtin "ValueError.__init__") [.ref e,v]) Q E ⟨h,g,d,t,os⟩:=by
 have F:=FM;refine qY (codeAny_call_builtin F.init.plain F.initEntry (xM c f ?_));wp_walk;refine i _ (λb o k l=>?_) ⟨h.objs.size,?_⟩
 ·rw[r8 _ _ (eE k)];exact cn _ l
 ·rw[wk _ (cn _ f) rfl];rfl
end
section
variable{prog:Program}{w:World}{A:Around}{E:Value->Shared->Prop}{h:Heap}{g:Array GenState}{d:Drawn}{t:Nat}{os:OsState}
variable{z:EX}{C P x:Addr}{K:Frag}
theorem Cr{M:Model}{o:Obj}{a v:Value}{Q:Unit->Shared->Prop}(b:h.get? C=some (z.obj true C P))(hx:h.get? x=some o)(c:o.cls=.ref C)(e:Q () ⟨h,g,d,t,os⟩):wpAny M A (checkBuiltinCall "object.__setattr__" ⟨[.ref x,a,v],[]⟩) Q E ⟨h,g,d,t,os⟩:=by
 have hx:h.get? x=some ⟨.ref C,o.dict,o.data,o.slots⟩:=by rw[<-c];exact hx
 exact we [.ld ⟨.ref C,o.dict,o.data,o.slots⟩,.ld (z.obj true C P)] [(h,x,⟨.ref C,o.dict,o.data,o.slots⟩),(h,C,z.obj true C P)] (by kernel_rfl) (m1 hx (m1 b m0)) e
theorem wa{name:Str}{v:Value}{tk:Tok}{Q:Fin->Shared->Prop}{o:Obj}(X:K.In h)(a:findIn K (.ref C) name=some none)(f:h.get? C=some (z.obj true C P))(hx:h.get? x=some o)(i:o.cls=.ref C)(j:∀c,o.data≠.cls c)(k:o.dict=none)(l:∀h' m dx,(∀b o,b≠x->h.get? b=some o->h'.get? b=some o)->h'.get? x=some {cls:=o.cls,dict:=some dx,data:=o.data,slots:=o.slots}->Q (.done (.ret .none)) ⟨h',g,d,m,os⟩):wpAny (model prog w) A (Builtin.«object.__setattr__» ⟨[.ref x,.str name tk,v],[]⟩) Q E ⟨h,g,d,t,os⟩:=by
 have n:=PySem.F.store_ValueError;have p:=n.passes (.ref x);unfold Builtin.«object.__setattr__»;repeat (first|rw[refuse_eq]|(rw[refuseLoop_ref,refuseLoop_ref,p])|(with_reducible refine lq hx ?_;rw[i])|with_reducible refine wpAny_mroOf_exc f ?_|(with_reducible refine(looks_findIn X a).here ?_)|wp_step)
 refine aD ?_;intro q;rw[k,aA (by simp[typeHasDict])];split;·rename_i r;cases r
 split
 ·rename_i c r;exact absurd r (j c)
 ·have s:(h.push {cls:=.type "dict",data:=.dict #[]}).get? x=some o:=cn _ hx;have u:x≠h.objs.size:=g_ (jo hx);refine aQ (wpAny_alloc' ?_);refine aQ (wpAny_update' s ?_);refine l9 ?_;intro q;refine bg ?_;have y:((h.push {cls:=.type "dict",data:=.dict #[]}).update x λo=>{cls:=o.cls,dict:=some h.objs.size,data:=o.data,slots:=o.slots}).get? h.objs.size=some {cls:=.type "dict",data:=.dict #[]}:=(Heap.get?_update_ne _ _ _ _ u.symm).trans (Heap.get?_push_at rfl rfl);have B:((h.push {cls:=.type "dict",data:=.dict #[]}).update x λo=>{cls:=o.cls,dict:=some h.objs.size,data:=o.data,slots:=o.slots}).Ns h.objs.size (λD=>none):=(fA _ (#[]) _ y rfl (λe F=>absurd F (by simp)) (λD=>rfl));refine(?_:wpAny _ _ (Builtin.ObjectAttr.storeInDict h.objs.size (.str name tk) name v) _ _ _);unfold Builtin.ObjectAttr.storeInDict Builtin.ObjectAttr.newKeyGuard;refine aQ (bg (aQ (wpAny_nsSet1 (Heap.Ns1.of_empty B) λh' G hs=>?_)));refine bw (G.count (Within.cons name v Within.nil)) λH I J L M N=>?_;refine aQ (wpAny_lookBehind L (by rw[M];exact pastItsLine_dict (aa N (by rw[mo,mv,sizeLine_eq];lia))) ?_);wp_walk;refine l h' _ h.objs.size (λb O R S=>?_) ?_;·exact(hs.2 b (g_ (jo S))).trans ((Heap.get?_update_ne _ _ _ _ R).trans (cn _ S))
  ·refine(hs.2 x u).trans (wk _ s ?_);have T:=(Heap.get?_some_iff.mp hx).2;obtain⟨U,V,W,Y⟩:=o;cases W<;>first|rfl|exact T
theorem yJ{name:Str}{v:Value}{Q:Unit->Shared->Prop}{o:Obj}(X:K.In h)(a:findIn K (.ref C) name=some none)(e:findIn K (.ref C) "__setattr__"=some (some (.builtin "object.__setattr__")))(f:h.get? C=some (z.obj true C P))(hx:h.get? x=some o)(i:o.cls=.ref C)(j:∀c,o.data≠.cls c)(k:o.dict=none)(l:∀h' m dx,(∀b o,b≠x->h.get? b=some o->h'.get? b=some o)->h'.get? x=some {cls:=o.cls,dict:=some dx,data:=o.data,slots:=o.slots}->Q () ⟨h',g,d,m,os⟩):wpAny (model prog w) A (setAttr (.ref x) name v) Q E ⟨h,g,d,t,os⟩:=by
 have n:=PySem.F.store_ValueError;have f3:=n.slot.bind (.ref x);unfold setAttr callSpecial? specialOf;repeat (any_goals (first|assumption|(with_reducible refine lq hx ?_;rw[i])|(with_reducible refine(looks_findIn X e).here ?_)|wp_step))
 refine codeAny_call_builtin n.slot.plain n.entry (Cr f hx i (wa X a f hx i j k λh' m dx p hh=>?_));repeat (any_goals (first|assumption|wp_step))
 exact l h' m dx p hh
theorem Mj{M:Model}{env:Env}{s:Shared}{y:Sem Value}{Q:Flow->Shared->Prop}{hdct:Bool}(hh:A.handled=none)(h:wpAny M A y (λv a=>∃e t dx sl,v=.ref e/\a.heap.get? C=some (z.obj hdct C P)/\a.heap.get? e=some (eX C t dx sl)/\E (.ref e) a) E s):wpAny M A (raiseStmt env (some y) none) Q E s:=by
 have b:=J0 (C:=C) (P:=P);unfold raiseStmt;refine aQ (bE h (λv a c=>?_) λf f x=>x);refine cr c ?_;try clear c;rintro e t dx sl rfl i j k
 obtain⟨l,g,d,tk,os⟩:=a;repeat (first|with_reducible refine lq j ?_|with_reducible refine lq i ?_|(with_reducible refine xC i ?_;rw[b])|wp_step)
 exact wpAny_raiseNew_none hh k
end
theorem KA{h:Heap}:Frag.In [] h:=λa o e=>by cases e
theorem Dv{prog:Program}{w:World}{A:Around}{E:Value->Shared->Prop}{s:Shared}{pl:Sem Bool}{Q:Value×List Value->Shared->Prop}(h:Q (.builtin "ValueError.__init__",[]) {s with toks:=s.toks+1}):wpAny (model prog w) A (getMethod (.type "ValueError") "__init__" pl) Q E s:=by
 have X:Frag.In [] s.heap:=KA;have a:typeOf (.type "ValueError")=pure (.type "type"):=by first|rfl|kernel_rfl
 have hs:Manifest.isStub "ValueError"=false:=by decide+kernel
 have e:findCls [] (.type "ValueError") (.type "type") "__init__"=some (.val (.builtin "ValueError.__init__")):=by rfl
 have hh:handedIn (.builtin "ValueError.__init__")=true:=by decide+kernel
 have b:opaqueClassAbove (.type "ValueError")=pure none:=by unfold opaqueClassAbove;dsimp only;rw[hs];rfl
 have c:Looks (model prog w) s.heap (typeOf (.type "ValueError")) (.type "type"):=Looks.of_pure a;have d:findIn [] (.type "type") "__getattribute__"=some (some (.builtin "type.__getattribute__")):=type_tga;unfold getMethod specialOf;refine aQ (aQ (c.here ((looks_findIn X d).here ?_)));dsimp only;rw[aE canon_tga];refine aQ (bE (Q:=λv=>Q (v,[])) (E:=E) ?_ (λf f z=>bg z) λf f z=>z);have g:Looks (model prog w) s.heap (opaqueClassAbove (.type "ValueError")) none:=Looks.of_pure b;refine cls_open X g c d (looks_hook X (r:=none) (by rfl)) (by refine(?_:subIn [] _ _=_);rfl) e (bg (by refine(?_:wpAny _ _ (handedOut _) _ _ _);rw[handedOut_of hh];exact bg h))
variable{W:Wd}{A:Around}{G:Fc}{ρ ρ1:aR}{H J:Hp}{s s1:Shared}{Q:QV}{X:QX}{E:Value->Shared->Prop}
variable{N:Nm}{T:cA}{Y:kC}{hd:Bool}{n:Nat}{U:Cx}{nx ct:QR}{rt:QV}{ex:QE}
noncomputable abbrev Oz:List (Str×Nat):=[("self",0),("reason",1)]
structure Ce(W:Wd)(N:Nm)(d:Addr):Prop where
 cls:∀c x,N.exc c=some x->(∃(y:EX)(P:Addr),W.K.lookup (W.exc c)=some (y.obj true (W.exc c) P)/\(∀e f,N.exc e=some f->P≠W.exc e))/\findIn W.K (.ref (W.exc c)) "__init__"=some (some (.ref d))/\findIn W.K (.ref (W.exc c)) "__setattr__"=some (some (.builtin "object.__setattr__"))/\findIn W.K (.ref (W.exc c)) "reason"=some none/\keepIn W.K (.ref (W.exc c))=true
 inj:∀c e x f,N.exc c=some x->N.exc e=some f->W.exc c=W.exc e->c=e
 typ:typeIn W.K (.ref d)=some (.type "function")
 fn:∃g h i j k l m n p q r,i.endLine=l.line/\MT W 2 Oz d g [.Expr (.Call (.Attribute (.Name "ValueError" h) "__init__" i) [.Name "self" j,.Name "reason" k] [] l) m,.Assign [.Attribute (.Name "self" n) "reason" p] (.Name "reason" q) r]/\g.scope.names.lookup ("ValueError":Str)=some NameKind.globalImplicit/\g.scope.names.lookup ("self":Str)=some NameKind.local/\g.scope.names.lookup ("reason":Str)=some NameKind.local/\∀a b:Value,∀s:Shared,(∀b o,W.B.get? b=some o->s.heap.get? b=some o)->BindsTo s g ⟨[a,b],[]⟩ [("self",a),("reason",b)]
 ve:∃t u,W.B.Ns mainGlobals t/\W.B.Ns builtinsNs u/\t "ValueError"=none/\u "ValueError"=some (.type "ValueError")
theorem A7(S:St W A G ρ H s){x:Str}{i:Nat}{v:V}(b:G.env.kindOf x=some .local)(c:G.vs.lookup x=some i)(d:ρ i=some v)(hd:(x==("__debug__":Str))=false):∃e,VR s.heap v e/\∀(p:Pos)(Q:Value->Shared->Prop)(E:Value->Shared->Prop),Q e s->wpAny (model W.prog W.w) A (eval (.Name x p) G.env) Q E s:=by
 refine am (S.vars) λm ns hv=>?_;refine am (hv x i v c d) λe r a=>?_;refine an e r (λp Q E q=>?_);rcases a with⟨_,a⟩|⟨a|a,_⟩;·exact wpAny_Name (wpAny_loadName_local S.kind b ns a q) hd
 ·rw[b]at a;cases a
 ·rw[b]at a;cases a
theorem Ge{C P e al:Addr}{y:EX}{l:List Nat}{ao c d f g ap h j m p:Pos}{r u:Str->Option Value}{Q:Flow->Shared->Prop}(ar:dX W N)(av:c.endLine=g.line)(w:G.vs=Oz)(a0:G.env.kindOf "ValueError"=some .globalImplicit)(x:G.env.kindOf "self"=some .local)(B:G.env.kindOf "reason"=some .local)(a1:W.B.Ns mainGlobals r)(a2:W.B.Ns builtinsNs u)(a3:r "ValueError"=none)(a4:u "ValueError"=some (.type "ValueError"))(D:W.B.get? C=some (y.obj true C P))(a5:findIn W.K (.ref C) "__setattr__"=some (some (.builtin "object.__setattr__")))(a6:findIn W.K (.ref C) "reason"=some none)(a7:H e=none)(a8:W.B.get? e=none)(S:St W A G (λi=>[V.ref e,.str l][i]?) H s)(F:s.heap.get? e=some (eX C al none #[]))(k:∀h4 I a' dx,(∀b o,b≠e->s.heap.get? b=some o->h4.get? b=some o)->h4.get? e=some (eX C a' (some dx) #[])->Q .next {s with heap:=h4,toks:=I}):wpAny (model W.prog W.w) A (execs [.Expr (.Call (.Attribute (.Name "ValueError" ao) "__init__" c) [.Name "self" d,.Name "reason" f] [] g) ap,.Assign [.Attribute (.Name "self" h) "reason" j] (.Name "reason" m) p] G.env) Q E s:=by
 have J:St W A G (λi=>[V.ref e,.str l][i]?) H {s with toks:=s.toks+1}:=(Reach.toks S).st;have ba:e∉ownOf G.env:=λK=>by refine am (S.own_obj K) λbb L z=>?_;rw[F]at L;cases L;rcases z with⟨_,_,z⟩|⟨_,z⟩<;>cases z
 have bd:e∉aX A:=λK=>by refine bw (S.frs_obj K) λbb cc n L z M=>?_;rw[F]at L;cases L;cases z
 refine am (A7 (i:=0) (v:=.ref e) J x (by rw[w];decide) rfl (by decide)) λcd r1 bi=>?_;obtain rfl:=r1.iRef;refine am (A7 (i:=1) (v:=.str l) J B (by rw[w];decide) rfl (by decide)) λce M bl=>?_;have bo:(backTo g (starEach [Expr.Name "self" d,Expr.Name "reason" f] G.env)).any (·.1)=false:=rfl;refine wpAny_execs_cons (wpAny_Expr (ki (by rfl) bo (by refine(?_:2<20);decide) (kX av) (DW S.kind a0 (Calls.loadGlobal_builtin (env:=G.env) (by rw[S.glob];exact a1.keeps λb o e=>S.base b o e) a3 (by rw[S.bltn];exact a2.keeps λb o e=>S.base b o e) a4 λpl=>Dv ?_) (by decide))) (e_ S) rfl);refine aD ?_;intro O;refine Calls.callWith_builtin rfl (evalArgs_plain ?_);refine aD ?_;intro O;show wpAny (model W.prog W.w) A (spliced [(false,eval (.Name "self" d) G.env),(false,eval (.Name "reason" f) G.env)]) _ _ _;refine lj (bi _ _ _ (lj (bl _ _ _ (pk ?_))));obtain⟨ck,g2,bs,R,bv⟩:=s;refine M2 (J.base _ _ D) F λT ab U=>?_;refine(?_:wpAny (model W.prog W.w) A (execs _ G.env) _ _ _);refine l9 ?_;intro O;have X:St W A G (λi=>[V.ref e,.str l][i]?) H ⟨T,g2,bs,R+1,bv⟩:=by
  refine S.others (its:=[e]) (h':=T) (t:=R+1) (λb K=>?_) (λb K o z i=>?_) λb o K z=>ab b o (λq=>K (Ch q)) z;·rw[cO K];exact et a7 a8 ba bd
  ·rw[cO K,F]at z;cases z;rcases i with⟨i,_⟩|⟨i,_⟩<;>cases i
 refine dE U ?_;try clear U;rintro b1 U
 refine am (A7 (i:=0) (v:=.ref e) X x (by rw[w];decide) rfl (by decide)) λcl b2 b3=>?_;obtain rfl:=b2.iRef;refine am (A7 (i:=1) (v:=.str l) X B (by rw[w];decide) rfl (by decide)) λY M b4=>?_;refine wpAny_execs_cons ?_;refine aD ?_;intro O;rw[exec_Assign,show swapsWithSole [.Attribute (.Name "self" h) "reason" j] (.Name "reason" m) p.line G.env=swapsWith (.Name "reason" m) (some (.Attribute (.Name "self" h) "reason" j)) p.line G.env from rfl,dO rfl];refine aQ (kG (aQ (bg ?_)));rw[aA bI];refine aQ (b4 _ _ _ (aQ (jf (a:=none) (by rfl) ?_)));refine(?_:wpAny _ A ((do let Z<-holding [Y] (eval (.Name "self" h) G.env);standAt j.atName;holding [Y,Z] (setAttr Z "reason" Y);release [Y,Z] []:Sem Unit)>>=λM=>(pure Flow.next:Sem Flow)) _ _ _);refine aQ (aQ (eC (b3 _ _ _ (aQ (kG (aQ (eC ?_)))))));refine yJ (X.K ar.a) a6 a5 (X.base _ _ D) U rfl (λ_ z=>Data.noConfusion z) rfl λh4 I dx b7 b'=>?_;exact wpAny_release' (bg (nG (k h4 I b1 dx (λb o ag z=>b7 b o ag (ab b o ag z)) b')))
theorem St.same{a:Around}{b:Fc}{c:aR}{d:Hp}{s2:Shared}{h:Heap}{t:Nat}(S:St W A G ρ H s)(f:St W a b c d s2):({s2 with heap:=h,toks:=t}:Shared)={s with heap:=h,toks:=t}:=by refine qD (S.rest) λg g e=>?_;refine qD (f.rest) λg g e2=>?_;rw[e,e2]
theorem Fv{a:Addr}{c:Nat}{x:Str}(f:dX W N)(h:Ce W N a)(i:N.exc c=some x)(S:St W A G ρ H s)(hd:A.depth+10<recursionLimit)(av:A.guards=some []){l:List Nat}{v:Value}(hv:VR s.heap (.str l) v){P:Value->Shared->Prop}(k:∀e j h' tk,(∀b o,s.heap.get? b=some o->h'.get? b=some o)->s.heap.get? e=none->(∃dx sl,h'.get? e=some (eX (W.exc c) j dx sl))->P (.ref e) {s with heap:=h',toks:=tk}):wpAny (model W.prog W.w) A (call (.ref (W.exc c)) [v]) P E s:=by
 have hz:sizeLine=16777216:=by decide+kernel
 refine fK (h.cls c x i) ?_;rintro⟨y,a0,m,_⟩n p r a1;refine mJ (h.fn) λu a2 a3 a4 a5 a6 a7 a8 a' ba bb w F B C D I=>?_;refine jV (h.ve) λbd bi J K L M=>?_;have O:W.B.get? (W.exc c)=_:=f.a.inB _ _ m;obtain⟨Q,g,d,tk,os⟩:=s;refine Du (S.K f.a) n h.typ (S.base _ _ O) (λR e T=>?_) (by rw[hz];exact oE rfl);have U:St W A G ρ H ⟨R,g,d,tk,os⟩:=(Reach.keeps (h':=R) (t:=tk) S T.keeps).st;have ab:St W (A.under (.builtin "type.__call__" ⟨[.ref (W.exc c),v],[]⟩)) G ρ H ⟨R,g,d,tk,os⟩:=U.fra rfl;refine aT (T.there) λbl ag bo bs=>?_;have al:bj R [V.ref e,.str l] [.ref e,v]:=.cons .ref (.cons (hv.ts (TS.of_keeps T.keeps)) .nil);have X:Q.get? e=none:=T.new;refine qY (wU ab F (by rw[j5];lia) al rfl (by decide) (I _ _ _ λb o z=>U.base b o z) λs2 Y Z=>?_);refine Ge (G:=wc u Oz R.objs.size a) f w rfl B C D J K L M O p r (S.freshH X) ?_ Y (Z _ _ ag) λh4 ao j dx ap ar=>⟨rfl,?_⟩
 ·cases q:W.B.get? e with
  |none=>rfl|some o=>have:=S.base _ _ q;rw[X]at this;cases this
 ·have all:∀b o,Q.get? b=some o->h4.get? b=some o:=λb o z=>ap b o (λq=>by rw[q,X]at z;cases z) (Z b o (T.keeps b o z));rw[S.same Y];exact k e j h4 ao all X (tC (some dx) _ ar)
theorem Jy{a h:Heap}{c:Nat}{e b:Addr}{dx:Option Addr}{sl:Array (Option Value)}(d:a.get? e=none)(f:h.get? e=some (eX (W.exc c) b dx sl)):DM W a h c e:=(qH d _ _ f rfl rfl (.inl rfl))
theorem qA{c:Nat}{nm:Str}(h:yO N U c nm=true):N.exc c=some nm/\glob U nm=true:=⟨ci (aO h).1,(aO h).2⟩
theorem xV{a:Addr}(d:dX W N)(f:Ce W N a){c:Nat}{e:Internal.E}(g:aN N T Y hd n W e):nN N T Y hd n W (.raise c e):=λU x A G ρ H s nx ct rt ex E i j hw=>by
 refine aD ?_;intro k;refine Dt i λnm p y m q t i=>?_;rw[t]
 ·refine dA (aO i) λu B=>?_;refine dA (qA u) λD u=>?_;refine dA (rW.e hw) ?_;try clear hw;rintro F hw
  refine fK (f.cls c nm D) ?_;rintro⟨z,I,K,_⟩al ao ap L;rw[arm_exec_Raise];have hR:=j.R;unfold Rm at hR;refine aQ (kG ?_);refine(?_:wpAny _ A (raiseStmt G.env (some (do let v<-eval (.Call (.Name nm p) [y] [] m) G.env;standAt q;pure v)) none) _ E s);refine Mj (j.hh F) (C:=W.exc c) (P:=I) (z:=z) (hdct:=true) ?_;refine aD ?_;intro k;refine aQ (rE (iR d j.expr u (λar M M b=>b c nm D) ?_));refine aD ?_;intro k;refine args_call (first:=[]) (AX g Ez) d L (yD B rfl) j.expr (Ql:=λvs J=>∃v,vs=[v]/\match v with|.str _=>ex ρ c J|_=>False) ?_ λavs av J s1 O w r=>?_;·refine(?_:WE T Y hd e ρ (λv J=>∃Q,[v]=[Q]/\match Q with|.str _=>ex ρ c J|_=>False) _ H);rw[show(λ(v:V)(J:Hp)=>∃Q,[v]=[Q]/\match Q with|.str _=>ex ρ c J|_=>False)=λv J=>match v with|.str _=>ex ρ c J|_=>False from funext λv=>funext λJ=>propext ⟨λ⟨Q,e,h⟩=>by cases e;exact h,λh=>an v rfl h⟩];exact hw
  ·refine am O ?_;try clear O;rintro R rfl O
   cases R<;>first|exact O.elim|skip
   rename_i l;refine am (iM w) ?_;rintro v rfl S;refine Fv d f D r.st (by lia) hR.2.2 S λe ab h' tk kept ne X=>aQ (kG (bg ?_));refine qD X ?_;try clear X;rintro dx sl X
   have Z:Reach W A G H s ρ J {s1 with heap:=h',toks:=tk}:=r.trans (Reach.keeps r.st kept);refine j1 e ab dx sl rfl (Z.st.base _ _ (d.a.inB _ _ K)) X ?_;refine j.ex ρ c J e _ O Z ((Jy ne X).older λb o z=>?_);refine dE (r.pr.live b o z) λa0 ag=>?_;rw[ag];simp
theorem Am{prog:Program}{w:World}{env:Env}{e:Addr}{t:Expr}{a:Stmt}{d:List Stmt}{pos:Pos}{rest:List ExceptHandler}{Q:Flow->Shared->Prop}{b:Bool}(h:wpAny (model prog w) (A.mark (some (.ref e))) (eval t env) (λc f=>wpAny (model prog w) (A.mark (some (.ref e))) (excMatches (.ref e) c) (λg i=>g=b/\i=f) (λj j=>False) f/\if b then wpAny (model prog w) (A.mark (some (.ref e))) (setFlight (.ref e) none) (λj i=>wpAny (model prog w) (A.mark (some (.ref e))) (execs (a::d) env) Q (λj j=>False) i) (λj j=>False) f else wpAny (model prog w) A (handleBy (.ref e) env rest) Q E f) (λj j=>False) s):wpAny (model prog w) A (handleBy (.ref e) env (.ExceptHandler (some t) none (a::d) pos::rest)) Q E s:=by
 refine wpAny_handleBy_cons (codeAny_handlers_test (bE h (λc f k=>?_) λj j x=>x.elim)) (by intro q;cases q);refine CN ?_;intro l m;refine dA k λn o=>?_;try clear k
 refine bE n (λg i z=>?_) λj j x=>x.elim;(refine dA (z) ?_;try clear z;rintro rfl p;rw[p]);cases g with|true=>exact codeAny_handlers_suite (bE o (λj r z=>bE z (λj j y=>y) λj j y=>y.elim) λj j y=>y.elim)|false=>exact o
theorem Dp{prog:Program}{w:World}{env:Env}{e:Addr}{t:Expr}{a:List Stmt}{pos:Pos}{rest:List ExceptHandler}{Q:Flow->Shared->Prop}(h:wpAny (model prog w) (A.mark (some (.ref e))) (eval t env) (λc b=>wpAny (model prog w) (A.mark (some (.ref e))) (excMatches (.ref e) c) (λd f=>d=false/\f=b) (λg g=>False) b/\wpAny (model prog w) A (handleBy (.ref e) env rest) Q E b) (λg g=>False) s):wpAny (model prog w) A (handleBy (.ref e) env (.ExceptHandler (some t) none a pos::rest)) Q E s:=by
 refine wpAny_handleBy_cons (codeAny_handlers_test (bE h (λc b i=>?_) λg g x=>x.elim)) (by intro q;exact nomatch q);refine CN ?_;intro j k;refine dA i λl m=>?_;try clear i
 refine bE l (λd f z=>?_) λg g x=>x.elim;(refine dA (z) ?_;try clear z;rintro rfl n;rw[n]);exact m
section
variable{M:Model}{h:Heap}{g:Array GenState}{d:Drawn}{t:Nat}{os:OsState}
variable{y y':EX}{C C' P P':Addr}{hdct hdct':Bool}
theorem wP{e:Addr}{a:Obj}{Q:Bool->Shared->Prop}(b:h.get? C=some (y.obj hdct C P))(c:h.get? C'=some (y'.obj hdct' C' P'))(i:P≠C')(j:h.get? e=some a)(k:a.cls=.ref C)(l:Q (decide (C=C')) ⟨h,g,d,t,os⟩):wpAny M A (excMatches (.ref e) (.ref C')) Q E ⟨h,g,d,t,os⟩:=by
 have m:=J0 (C:=C') (P:=P');have n:(Value.ref C::.ref P::Kp).contains (.ref C')=decide (C=C'):=by
  have e1:(Value.ref C'==Value.ref C)=decide (C=C'):=by
   by_cases z:C=C';·rw[z];simp
   ·rw[b5 z];exact eD λy=>z (by cases y;rfl)
  have e2:(Value.ref C'==Value.ref P)=false:=eD λy=>i (by cases y;rfl);rw[List.contains_cons,List.contains_cons,e1,e2];simp
 have f:=tc_notTuple;unfold excMatches;repeat (first|(with_reducible refine lq j ?_;rw[k])|with_reducible refine lq c ?_|(with_reducible refine xC c ?_;rw[m])|(with_reducible refine xC b ?_;rw[n])|wp_step)
 refine aD ?_;intro o;cases z:decide (C=C')<;>(rw[z]at l;wp_walk;exact l)
end
theorem OU{h:SL}(hw:D5 T Y hd h nx ct rt ex ρ H):∃e,h=.cons (.ret e) .nil/\WE T Y true e ρ rt (λa a=>False) H:=by
 cases h with|nil=>exact hw.elim|cons s r=>cases s with
  |ret e=>cases r with
   |nil=>exact an e rfl hw|cons=>exact hw.elim
  |_=>exact hw.elim
theorem vi{i:Addr}(j:dX W N)(k:Ce W N i)(C:eT W N T)(ab:dr W Y n){c l:Nat}{nm m:Str}{p pos:Pos}{o:List Stmt}{h:SL}{e:Addr}{rest:List ExceptHandler}{H0:Hp}{s0:Shared}(q:N.exc c=some nm)(t:N.exc l=some m)(u:glob U nm=true)(w:f8 N h U o=true)(g:Gx G U)(R:Rm A n)(ag:St W A G ρ H0 s0)(top:∃al L,A.frames=some (G.env::al)/\G.env.frame=some L)(r:Reach W A G H0 s0 ρ1 H s)(x:Dr W s0.heap s.heap l e)(k1:l=c->D5 T Y hd h nx ct rt ex ρ1 H)(k2:l≠c->wpAny (model W.prog W.w) A (handleBy (.ref e) G.env rest) (PF W A G H0 s0 nx ct rt) E s):wpAny (model W.prog W.w) A (handleBy (.ref e) G.env (.ExceptHandler (some (.Name nm p)) none o pos::rest)) (PF W A G H0 s0 nx ct rt) E s:=by
 refine aD ?_;intro ba;have S:=r.st;have ao:St W (A.mark (some (.ref e))) G ρ1 H s:=S.fra rfl;refine dA (k.cls c nm q) ?_;rintro⟨y,bb,B,_⟩_;refine dA (k.cls l m t) ?_;rintro⟨y',bd,D,F⟩_;have I:Ctx true n W U (A.mark (some (.ref e))) G ρ1 H s (λJ J=>False) (λJ J=>False):=⟨g,ao,R,λz=>(by cases z),DJ.never (h:=λJ J h=>h)⟩;cases o with
 |nil=>
  cases h with
  |nil=>
   by_cases z:l=c;·exact(k1 z).elim
   ·refine Dp (iR j I u (λap J J b=>b c nm q) ⟨?_,k2 z⟩);refine yB (x.2) λar vs av a0 a1 K M J=>?_;obtain⟨a2,a3,d,tk,os⟩:=s;exact wP (S.base _ _ (j.a.inB _ _ D)) (S.base _ _ (j.a.inB _ _ B)) (F c nm q) K M ⟨b5 λy=>z (k.inj _ _ _ _ t q y),rfl⟩|cons=>exact(bI w).elim
 |cons O a4=>
  refine Am (b:=decide (l=c)) ?_;refine iR j I u (λap J J b=>b c nm q) ⟨?_,?_⟩
  ·refine yB (x.2) λar vs av a0 a1 K M J=>?_;obtain⟨a2,a3,d,tk,os⟩:=s;refine wP (S.base _ _ (j.a.inB _ _ D)) (S.base _ _ (j.a.inB _ _ B)) (F c nm q) K M ⟨?_,rfl⟩;by_cases z:l=c;·rw[z];simp
   ·rw[b5 z];exact b5 λy=>z (k.inj _ _ _ _ t q y)
  ·by_cases z:l=c
   ·rw[bC z,aE rfl];have hw:=k1 z;have a5:Reach W (A.mark (some (.ref e))) G H0 s0 ρ1 H s:=r.fra rfl;refine kj (show St W (A.mark (some (.ref e))) G ρ H0 s0 from ag.fra rfl) a5 x λP Q bi=>?_;refine am (OU hw) ?_;rintro V rfl hw
    ·skip;have X:CJ N (.ret V) U O=true/\a4=[]:=⟨(aO w).1,ow (aO w).2⟩;(refine dA (X) ?_;try clear X;rintro X a6;rw[a6]);have a7:nQ true n W U (A.mark (some (.ref e))) G ρ1 H P (λJ J J=>False) (λJ J=>False):=⟨g,Q.st,R,λz=>(by cases z),top,λJ J J J J h=>h.elim⟩;have hs:=Ea (au (hd:=true) j C ab V).1 U O _ G ρ1 H P nx ct rt (λJ J J=>False) (λJ J=>False) X a7 hw;refine wpAny_execs_cons (bE hs (λf a8 z=>?_) λJ J z=>z)
     have Z:PF W A G H0 s0 nx ct rt f a8:=PF.from (Q.fra rfl) (by
      cases f with
      |next=>refine aZ z λa b c d=>?_;try clear z;exact aY a b c (d.fra rfl)|cont=>refine aZ z λa b c d=>?_;try clear z;exact aY a b c (d.fra rfl)|brk=>exact z|ret v=>refine bw z λa' a b c d e=>?_;try clear z;exact dU a' a b c d (e.fra rfl));cases f with
     |next=>exact nG Z|cont=>exact Z|brk=>exact Z|ret v=>exact Z
   ·rw[b5 z,aA (by decide)];exact k2 z
theorem A0.caught{a:List Env}{L:Addr}(S:St W A G ρ H s)(b:A.frames=some (G.env::a))(d:G.env.frame=some L){P:Shared->Prop}{c:Nat}{e:Addr}{Z:Hp}{O:aR}{s':Shared}(r:Reach W A G H s O Z s')(x:DM W s.heap s'.heap c e)(k:∀f,Reach W A G H s O Z f->Dr W s.heap f.heap c e->P f):wpAny (model W.prog W.w) A (noteFrame (.ref e) G.env) (λg h=>wpAny (model W.prog W.w) A (setFlight (.ref e) none) (λg i=>P i) E h) E s':=qX (fr:=none) S b d r x λs2 j l=>kj S j l k
theorem Bx{a:Addr}(d:dX W N)(g:Ce W N a)(C:eT W N T)(i:dr W Y n){body h:SL}{c:Nat}(j:nr N T Y hd n W body):nN N T Y hd n W (.try1 body c h):=λU x A G ρ H s nx ct rt ex E k l hw=>by
 refine aD ?_;intro m;refine Fw k λb nm p o t u w k=>?_;rw[w]
 ·refine dA (fX k) ?_;rintro⟨⟨y,B⟩,D⟩h4;refine dA (qA y) λF y=>?_;refine dA (rW.e hw) ?_;try clear hw;rintro I hw
  refine aZ (l.top) λab L J K=>?_;refine wpAny_Try_except (bE (j _ _ _ _ _ _ _ _ _ _ _ (λe s1=>wpAny (model W.prog W.w) A (noteFrame e G.env) (λM P=>wpAny (model W.prog W.w) A (setFlight e none) (λM Q=>wpAny (model W.prog W.w) A (handleBy e G.env [.ExceptHandler (some (.Name nm p)) none o t]) (PF W A G H s nx ct rt) E Q) E P) E s1) B ⟨l.g,l.S,l.R,l.hh,l.top,λO R Z e s' hx r S=>A0.caught l.S J K r S λag V X=>?_⟩ hw) (λf s1 z=>?_) λM M z=>z)
  ·by_cases q:R=c
   ·rw[aE q]at hx;exact vi (hd:=hd) (ex:=ex) d g C i F (by rw[q];exact F) y D l.g l.R l.S l.top V X (λM=>hx) λz=>absurd q z
   ·rw[aA q]at hx;exact hx.elim
  ·cases f with
   |next=>exact nG z|cont=>exact z|brk=>exact z|ret v=>exact z
theorem BR{a:Addr}(d:dX W N)(g:Ce W N a)(C:eT W N T)(i:dr W Y n){body h j:SL}{c k:Nat}(l:nr N T Y hd n W body):nN N T Y hd n W (.try2 body c h k j):=λU x A G ρ H s nx ct rt ex E m o hw=>by
 refine aD ?_;intro ao;refine FU m λb nm p t u w y B D ap F m=>?_;rw[F]
 ·refine dA (tl m) ?_;rintro⟨⟨⟨⟨I,k1⟩,j⟩,J⟩,k3⟩h4;refine dA (qA I) λK I=>?_;refine dA (qA k1) λk0 k1=>?_;refine dA (rW.e hw) ?_;try clear hw;rintro ar hw
  refine aZ (o.top) λav L M P=>?_;refine wpAny_Try_except (bE (l _ _ _ _ _ _ _ _ _ _ _ (λe s1=>wpAny (model W.prog W.w) A (noteFrame e G.env) (λQ ab=>wpAny (model W.prog W.w) A (setFlight e none) (λQ ag=>wpAny (model W.prog W.w) A (handleBy e G.env [.ExceptHandler (some (.Name nm p)) none t u,.ExceptHandler (some (.Name w y)) none B D]) (PF W A G H s nx ct rt) E ag) E ab) E s1) j ⟨o.g,o.S,o.R,o.hh,o.top,λO R Z e s' hx r al=>A0.caught o.S M P r al λa0 S V=>?_⟩ hw) (λf s1 z=>?_) λQ Q z=>z)
  ·by_cases q:R=c;·rw[aE q]at hx;exact vi (hd:=hd) (ex:=ex) d g C i K (by rw[q];exact K) I J o.g o.R o.S o.top S V (λQ=>hx) λz=>absurd q z
   ·rw[aA q]at hx;by_cases X:R=k
    ·rw[aE X]at hx;refine vi (hd:=hd) (ex:=ex) d g C i K (by rw[X];exact k0) I J o.g o.R o.S o.top S V (λz=>absurd z q) λQ=>?_;exact vi (hd:=hd) (ex:=ex) d g C i k0 (by rw[X];exact k0) k1 k3 o.g o.R o.S o.top S V (λQ=>hx) λz=>absurd X z
    ·rw[aA X]at hx;exact hx.elim
  ·cases f with|next=>exact nG z|cont=>exact z|brk=>exact z|ret v=>exact z
end Mine.Internal
namespace Mine.Internal
open PySem PySem.W PyProof.Rows PySem.Calls
variable{W:Wd}{N:Nm}{T:cA}
theorem M'{Y:kC}{hd:Bool}{n:Nat}{a:Addr}(b:dX W N)(c:Ce W N a)(C:eT W N T)(e:dr W Y n)(d:SL):nr N T Y hd n W d:=pD (λf f g=>xV b c g) (λf f f h=>Bx b c C e h) (λf f f f f h=>BR b c C e h) b C e d
theorem vC{a:Addr}(b:dX W N)(c:Ce W N a)(C:eT W N T)(aI:Nat->Option Fn)(F:Az W N aI):∀n,dr W (ei T aI n) n:=by intro n;induction n with|zero=>exact D9 aI|succ n e=>exact Fd aI F λhd d=>M' b c C (e) d
end Mine.Internal
namespace Mine.Internal
open PySem PySem.W PyProof.Rows PySem.Calls
noncomputable def jj:Code->Bool|.builtin id _=>Builtin.Bytes.decodersThatHold.contains id|_=>false
noncomputable def MU(a:PySem.Ctx):Prop:=jj a.code=false/\∀x∈a.below,jj x.1=false
noncomputable def bm{α:Type}(M:Model)(A:Around)(t:Sem α)(Q:α->Shared->Prop)(s:Shared):Prop:=∀b p,b.In A->MU b->Sem.wp M b t (λa c s'=>Q a s') (λc c c=>False) p s
noncomputable def RN(R:Flow->Shared->Prop):Result->Shared->Prop:=λr s'=>match r with|.ok f=>R f s'|.error _=>False
noncomputable def cz(M:Model)(A:Around)(c:Code)(R:Flow->Shared->Prop)(s:Shared):Prop:=∀a p,a.code=c->a.Below A->MU a->wpCode M a (RN R) p s
section
variable{α β:Type}{M:Model}{A:Around}{s:Shared}
theorem c9{t:Sem α}{Q:α->Shared->Prop}(h:wpAny M A t Q (λa a=>False) s):bm M A t Q s:=λb p c a=>h b p c
theorem vb{c:Code}{R:Flow->Shared->Prop}(h:codeAny M A c (RN R) s):cz M A c R s:=λa p b d e=>h a p b d
theorem aC{a:α}{Q:α->Shared->Prop}(h:Q a s):bm M A (pure a) Q s:=c9 (bg h)
theorem aS{t:Sem α}{Q Q':α->Shared->Prop}(h:bm M A t Q s)(b:∀a s,Q a s->Q' a s):bm M A t Q' s:=λc p d e=>Sem.wp_mono M c t (λa f s=>b a s) (λf f f h=>h) p s (h c p d e)
theorem sV{c:Code}{R a:Flow->Shared->Prop}(h:cz M A c R s)(hR:∀r s,R r s->a r s):cz M A c a s:=λb p d g i=>wpCode_mono (λr s z=>by cases r with|ok f=>exact hR _ _ z|error e=>exact z) (h b p d g i)
theorem aK{m:Sem α}{f:α->Sem β}{Q:β->Shared->Prop}(h:bm M A m (λa s'=>bm M A (f a) Q s') s):bm M A (m>>=f) Q s:=λb p c d=>by rw[Sem.wp_bind'];exact Sem.wp_mono M b m (λa e s' h'=>h' b e c d) (λg g g h'=>h') p s (h b p c d)
theorem ah{m:Sem α}{f:α->Sem β}{Q:β->Shared->Prop}(h:wpAny M A m (λa s'=>bm M A (f a) Q s') (λb b=>False) s):bm M A (m>>=f) Q s:=aK (c9 h)
theorem Ah{m:Sem α}{a:α}{f:α->Sem β}{Q:β->Shared->Prop}(e:m=pure a)(h:bm M A (f a) Q s):bm M A (m>>=f) Q s:=ah (jf e h)
theorem mD{vs:List Value}{m:Sem α}{Q:α->Shared->Prop}(h:bm M A m Q s):bm M A (holding vs m) Q s:=λa p b c=>by rw[Sem.wp_holding];exact h a p b c
theorem FX{vs:List Value}{m:Sem α}{Q:α->Shared->Prop}(h:bm M A m Q s):bm M A (m.keep vs) Q s:=λa p b c=>by rw[Sem.wp_keep];exact h a p b c
theorem gu{m:Sem α}{k:Value->Sem Unit}{Q:α->Shared->Prop}(h:bm M A m Q s):bm M A (m.onRaise k) Q s:=λa p b c=>by rw[Sem.wp_onRaise];exact Sem.wp_mono M a m (λd d d h'=>h') (λe f s' h'=>h'.elim) p s (h a p b c)
theorem MU.enter{a:PySem.Ctx}(h:MU a){c:Code}{x:Option Value}{p:Pos}(hd:jj c=false):MU (a.enter c x p):=by
 refine⟨hd,λy b=>?_⟩;rcases bB b with rfl|b;·exact h.1
 ·exact h.2 y b
theorem IJ{c:Code}{x:Option Value}{Q:Flow->Shared->Prop}(a:cz M (A.mark x) c Q s)(hd:jj c=false)(b:x≠some byPass:=by intro x;cases x):bm M A (run c x) Q s:=λd p g h=>by rw[Sem.wp_run];refine wpCode_mono (λr s z=>?_) (a _ p rfl (g.enter c x p b) (h.enter hd));cases r with|ok f=>exact z|error e=>exact z
theorem qZ{env:Env}{c:Code}{Q:Flow->Shared->Prop}(f:cz M A c Q s)(hd:jj c=false):bm M A (runOwn c env none) Q s:=by
 unfold runOwn;refine gu (IJ ?_ hd);have:A.mark none=A:=by obtain⟨a,b,c,d,e⟩:=A;rfl
 rw[this];exact f
noncomputable def RV(Q:Value->Shared->Prop):Flow->Shared->Prop:=λf s'=>match f with|.ret v=>Q v s'|_=>False
theorem eS{f:Value}{pos:List Value}{a:List (Str×Value)}{Q:Value->Shared->Prop}(b:cz M A (.call f ⟨pos,a⟩) (RV Q) s):bm M A (call f pos a) Q s:=λc p d g=>by refine(?_:Sem.wp M c (runValue (.call f ⟨pos,a⟩)) _ _ p s);rw[Sem.wp_runValue];refine wpCode_mono (λr s z=>?_) (b _ p rfl (d.enter _ none p (by intro x;cases x)) (g.enter rfl));rcases r with e|(v|_|_|_)<;>exact z
theorem cq{c:Code}{R:Flow->Shared->Prop}(h:bm M (A.under c) (M.den c) (λa s'=>match a with|.done f=>R f s'|.again b=>b.quiet=true/\jj b=false/\cz M A b R s') s):cz M A c R s:=λd p e g i=>by rw[wpCode_iff_wp,e];refine Sem.wp_mono M d _ (λa j s' h'=>?_) (λk k k h'=>h'.elim) p s (h d p (e▸g.in) i);cases a with|done f=>exact h'|again b=>exact⟨h'.1,h'.2.2 (d.goto b) j rfl (g.goto b) ⟨h'.2.1,i.2⟩⟩
theorem rZ{c:Code}{R:Flow->Shared->Prop}(a:c.quiet=true)(hd:jj c=false)(I:Nat->Shared->Prop)
 (b:∀n s,I n s->bm M (A.under c) (M.den c)
   (λd s'=>match d with
     |.done f=>R f s'|.again e=>(e=c/\∃m,m<n/\I m s')\/(e.quiet=true/\jj e=false/\cz M A e R s')) s)(n:Nat)(h:I n s):cz M A c R s:=by
 induction n using Nat.strongRecOn generalizing s with|ind n g=>
  refine cq (aS (b n s h) (λd s' i=>?_));cases d with
  |done f=>exact i|again e=>
   rcases i with⟨rfl,m,j,k⟩|i;·exact bz a hd (g m j k)
   ·exact i
theorem vY{f:Code×Pos->Bool}{Q:Bool->Shared->Prop}(a:A.guards=some [])(b:∀c p,c.isGuard=false->jj c=false->f (c,p)=false)(h:Q false s):bm M A (do return (<-stack).any f) Q s:=λd p g i=>by
 refine(?_:Q (((d.code,p)::d.below).any f) s);have j:=g.2.2.2.1 [] a;rw[<-guardsOf_cons d.code p]at j;have:((d.code,p)::d.below).any f=false:=by
  rw[List.any_eq_false];intro x hx;obtain⟨c,q⟩:=x;have k:c.isGuard=false:=by cases z:c.isGuard with|false=>rfl|true=>have:c∈guardsOf ((d.code,p)::d.below):=pG ⟨cY (an _ hx rfl),z⟩;rw[j]at this;cases this
  have l:jj c=false:=by
   rcases bB hx with e|hx;·cases e;exact i.1
   ·exact i.2 _ hx
  rw[b c q k l];simp
 rw[this];exact h
end
theorem rG{M:Model}{A:Around}{s:Shared}{self:Value}{Q:Bool->Shared->Prop}(a:A.guards=some [])(h:Q false s):bm M A (Builtin.Bytes.exported self) Q s:=by
 unfold Builtin.Bytes.exported;refine vY a (λc p b d=>?_) h;cases c with
 |builtin id f=>
  have b:guardIds.contains id=false:=b;have g:Builtin.Bytes.decodersThatHold.contains id=false:=d;have ne:∀l,guardIds.contains l=true->¬id=l:=λl h e=>by rw[e,h]at b;cases b
  delta PySem.Builtin.Bytes.exported.match_1;dsimp only[Builtin.Bytes.exported._sparseCasesOn_1];rw[cQ (ne "bytearray.__contains__" (by decide)),cQ (ne "bytearray.__mod__" (by decide)),cQ (ne "bytearray.__rmod__" (by decide)),cQ (ne "_struct.pack_into.held" (by decide)),cQ (ne "bytearray.find.held" (by decide))];obtain⟨pos,i⟩:=f;cases pos with
  |nil=>rfl|cons v r=>show(_&&Builtin.Bytes.decodersThatHold.contains id)=false;rw[g,xn]
 |_=>rfl
section
variable{prog:Program}{w:World}{A:Around}{s:Shared}
theorem fZ{id:String}{args:Args}{b:Builtin}{R:Flow->Shared->Prop}(a:plainId id=true)(hd:Builtin.Bytes.decodersThatHold.contains id=false)(c:entryFor table id=some b)(h:wpAny (model prog w) A.in1 (checkBuiltinCall id args) (λd e=>bm (model prog w) A.in1 (b args) (λg s'=>match g with|.done f=>R f s'|.again i=>i.quiet=true/\jj i=false/\cz (model prog w) A i R s') e) (λd d=>False) s):cz (model prog w) A (.call (.builtin id) args) R s:=by refine cq ?_;refine(?_:bm _ A.in1 (do checkBuiltinCall id args;again (.builtin id args)) _ s);refine ah (bE h (λd e j=>aC (bz (plainId_quiet a args) hd (cq ?_))) λd d z=>z);rw[Around.under_plainId a args];refine(?_:bm _ _ (match entryFor table id with|some b=>b args|none=>unsupported ((withoutEnding? id "#data").getD id)) _ e);rw[c];exact j
theorem lu{id:String}{args:Args}{b:Builtin}{R:Flow->Shared->Prop}(hd:Builtin.Bytes.decodersThatHold.contains id=false)(a:entryFor table id=some b)(h:bm (model prog w) (A.under (.builtin id args)) (b args) (λc s'=>match c with|.done f=>R f s'|.again d=>d.quiet=true/\jj d=false/\cz (model prog w) A d R s') s):cz (model prog w) A (.builtin id args) R s:=by refine cq ?_;refine(?_:bm _ _ (match entryFor table id with|some b=>b args|none=>unsupported ((withoutEnding? id "#data").getD id)) _ s);rw[a];exact h
theorem tM{a:Addr}{bs:Array UInt8}{Q:Unit->Shared->Prop}(b:A.guards=some [])(ho:s.heap.get? a=some ⟨.type "bytearray",none,.bytearray bs 0,#[]⟩)(h:Q () s):bm (model prog w) A (Builtin.Bytes.checkResize (.ref a)) Q s:=by
 skip;refine aK ?_;refine(?_:bm _ A (Builtin.Bytes.exported (.ref a)>>=_) _ s);refine aK (rG b ?_);refine c9 ?_;obtain⟨c,g,d,t,os⟩:=s;repeat (any_goals (first|assumption|wp_step))
 rw[aA (by decide)];exact aC h
theorem Ex{a:Addr}{bs:Array UInt8}{k:Int}{t:Tok}{Q:Value->Shared->Prop}(b:A.guards=some [])(ho:s.heap.get? a=some ⟨.type "bytearray",none,.bytearray bs 0,#[]⟩)(e:0<=k)(f:k<256)(hz:bs.size<1048576)(h:∀h',Heap.SameBut a s.heap h'->h'.get? a=some ⟨.type "bytearray",none,.bytearray (bs.push k.toNat.toUInt8) 0,#[]⟩->Q .none {s with heap:=h'}):bm (model prog w) A (call (.builtin "bytearray.append") [.ref a,.int k t]) Q s:=by
 refine eS (fZ fF.plain (by decide) pQ (fF.check _ _ _ _ _ _ _ _ (an _ ho rfl) (rT _ _) ?_));skip;refine ah ?_;refine aD ?_;intro i;obtain⟨j,g,d,tk,os⟩:=s;repeat (any_goals (first|assumption|wp_step))
 refine(?_:bm _ A.in1 (Builtin.Bytes.byteValue (.int k t)>>=λc=>Builtin.Bytes.checkResize (.ref a)>>=λl=>Builtin.Bytes.write (.ref a) (·.push c)>>=λl=>ret .none) _ _);have m:(decide (k<0)||decide (k>=256))=false:=by rw[b5 (by lia),b5 (by lia)];rfl
 refine ah ?_;refine aD ?_;intro i;unfold Builtin.Bytes.byteValue;repeat (any_goals (first|assumption|(rfl)|wp_step))
 refine aK (tM b ho ?_);refine c9 ?_;refine aD ?_;intro i;have n:=ho;refine(?_:wpAny _ A.in1 (updateBytearray a _>>=λl=>ret .none) _ _ _);skip;refine aQ (aQ (wpAny_load ho ?_));skip;have e1:(j.update a (Obj.mapBytearray λx=>x.push k.toNat.toUInt8)).get? a=some ⟨.type "bytearray",none,.bytearray (bs.push k.toNat.toUInt8) 0,#[]⟩:=wk _ ho rfl;refine aQ (wpAny_update ho ?_);refine wpAny_lookBehind e1 ?_ ?_
 ·unfold Data.pastItsLine;simp[sizeLine_eq];lia
 ·refine bg ?_;exact h _ (uI ..) e1
end
theorem iQ:Slot "bytearray" "__init__" "bytearray.__init__":=.of (owner:="bytearray") (n:="__init__") (by rw[j6,rX];kernel_rfl) (by decide+kernel) (by decide+kernel) (by decide+kernel) (by first|exact .inl (by decide+kernel)|exact .inr (by decide+kernel)) (by rw[isSubtype_type];kernel_rfl)
theorem vt:mroOf (.type "bytearray")=pure [.type "bytearray",.type "object"]:=by rw[mroOf_type];kernel_rfl
theorem ty:typeLookup (.type "bytearray") "__new__"=pure (some (.builtin "bytearray.__new__")):=by rw[j6,rX];kernel_rfl
theorem v9:entryFor table "bytearray.__new__"=some Builtin.«list.__new__»:=entryFor_alias (id':="list.__new__") (by rw[fastTable_eq_tree];kernel_rfl) (by first|rfl|decide+kernel) (by decide+kernel) (by rw[fastTable_eq_tree];kernel_rfl)
theorem tV:entryFor table "bytearray.__init__"=some Builtin.«bytearray.__init__»:=entryFor_of_tree (by kernel_rfl)
theorem vF(a:Value):argsOk "bytearray.__init__" ⟨[a],[]⟩:=by unfold argsOk;kernel_rfl
theorem oR:TypeCalled "bytearray" "bytearray.__new__" "bytearray.__init__":=⟨by decide+kernel,by decide+kernel,⟨_,_,vt⟩,madeBy_type vt ty (by decide+kernel),by decide+kernel,by rw[isSubtype_type];kernel_rfl,iQ⟩
theorem y5:checkTypeCall "bytearray" ⟨[],[]⟩=pure ():=by kernel_rfl
theorem zA:checkBuiltinCall "bytearray.__new__" ⟨[.type "bytearray"],[]⟩=pure ():=by kernel_rfl
theorem KB:typeHasDict (.type "bytearray")=false:=by decide+kernel
theorem Ng:typeLookup (.type "bytearray") "__release_buffer__"=pure (some (.builtin "bytearray.__release_buffer__")):=by rw[j6,rX];kernel_rfl
theorem Io:("bytearray.__release_buffer__".endsWith ("."++"__release_buffer__"))=true:=by decide+kernel
theorem I5:"bytearray.__release_buffer__".dropRight ("__release_buffer__".length+1)="bytearray":=by decide+kernel
section
variable{prog:Program}{w:World}{A:Around}{s:Shared}
theorem Lh{R:Result->Shared->Prop}(h:R (.ok (.ret (.ref s.heap.objs.size))) {s with heap:=s.heap.push ⟨.type "bytearray",none,.bytearray #[] 0,#[]⟩}):codeAny (model prog w) A (.builtin "bytearray.__new__" ⟨[.type "bytearray"],[]⟩) R s:=by
 obtain⟨a,g,d,tk,os⟩:=s;refine codeAny_builtinAt v9 ?_;unfold Builtin.«list.__new__»;refine PySem.wpAt_bind (PySem.wpAt_stack λp b=>PySem.wpAt_of_wpAny ?_);refine aD ?_;intro c;have e:(List.headD ("bytearray.__new__".splitOn ".__new__") "")="bytearray":=by rw[split_bytearray];rfl
 have f:=oR.sub;have i:=KB;dsimp only;rw[e];wp_walk;exact h
noncomputable def JY(o:Addr):Sem Fin:=do
 if<-Builtin.Bytes.ownRelease (.ref o)then unsupported "bytearray.__init__:own-__release_buffer__-on-a-subclass"
 if<-Builtin.Bytes.exported (.ref o)<||>(do return (<-Builtin.Bytes.exportsOf (.ref o))>0)then
  if !(<-Builtin.Bytes.payload (.ref o)).isEmpty then Builtin.Bytes.checkResize (.ref o)
  unsupported "bytearray.__init__:exported"
 Builtin.Bytes.write (.ref o) λa=>#[]
 ret .none
theorem Iz(o:Addr):Builtin.«bytearray.__init__» ⟨[.ref o],[]⟩=JY o:=by kernel_rfl
theorem IZ{a:Heap}{g:Array GenState}{d:Drawn}{tk:Nat}{os:OsState}{o:Addr}{P:Fin->Shared->Prop}(b:A.guards=some [])(ho:a.get? o=some ⟨.type "bytearray",none,.bytearray #[] 0,#[]⟩)(h:∀h',h'=a.update o (Obj.mapBytearray λx=>#[])->h'.get? o=some ⟨.type "bytearray",none,.bytearray #[] 0,#[]⟩->P (.done (.ret .none)) ⟨h',g,d,tk,os⟩):bm (model prog w) A (Builtin.«bytearray.__init__» ⟨[.ref o],[]⟩) P ⟨a,g,d,tk,os⟩:=by
 have c:=vt;have e:=oR.sub;rw[Iz];unfold JY;refine ah ?_;refine aD ?_;intro f;unfold Builtin.Bytes.ownRelease Builtin.Bytes.slotIsOwn specialOf isInstance;repeat (any_goals (first|assumption|wp_step))
 refine jf Ng ?_;dsimp only;rw[Io,I5];repeat (any_goals (first|assumption|wp_step))
 refine aK ?_;refine(?_:bm _ _ (Builtin.Bytes.exported (.ref o)>>=_) _ _);refine aK (rG b ?_);refine c9 ?_;repeat (any_goals (first|assumption|wp_step))
 rw[aA (by decide)];refine ah ?_;refine aD ?_;intro f;show wpAny _ _ (updateBytearray o _) _ _ _;unfold updateBytearray;refine aQ (wpAny_load ho ?_);dsimp only;have e1:(a.update o (Obj.mapBytearray λx=>#[])).get? o=some ⟨.type "bytearray",none,.bytearray #[] 0,#[]⟩:=wk _ ho rfl;refine aQ (wpAny_update ho ?_);refine wpAny_lookBehind e1 (by unfold Data.pastItsLine;simp) ?_;exact aC (h _ rfl e1)
theorem HW{Q:Value->Shared->Prop}(a:A.guards=some [])(h:∀h',(∀b o,s.heap.get? b=some o->h'.get? b=some o)->h'.get? s.heap.objs.size=some ⟨.type "bytearray",none,.bytearray #[] 0,#[]⟩->Q (.ref s.heap.objs.size) {s with heap:=h'}):bm (model prog w) A (call (.type "bytearray") []) Q s:=by
 have ft:=oR;have c:=vt;have e:=ft.made;have f:=ft.sub;have i:=y5;refine eS (cq ?_);refine(?_:bm _ _ (callAny (.type "bytearray") _) _ _);refine aC ⟨BA _ (by decide+kernel),by decide,lu (by decide) F.entry_type_call ?_⟩;rw[Around.under_plain (weight_type_call_type "bytearray" [] []) (units_type_call_type "bytearray" [] [])];have j:=ft.notType;have k:=ft.canCreate;unfold Builtin.«type.__call__»;repeat (any_goals (first|assumption|refine ah ?_|wp_step))
 refine codeAny_mono (codeAny_call_builtin_code (plainId_quiet ft.plain _) (jf zA (Lh (R:=λr s'=>r=.ok (.ret (.ref s.heap.objs.size))/\s'={s with heap:=s.heap.push ⟨.type "bytearray",none,.bytearray #[] 0,#[]⟩}) ⟨rfl,rfl⟩))) λr l hr=>?_;refine dA hr ?_;try clear hr;rintro rfl rfl
 obtain⟨m,g,d,tk,os⟩:=s;have ho:(m.push ⟨.type "bytearray",none,.bytearray #[] 0,#[]⟩).get? m.objs.size=some ⟨.type "bytearray",none,.bytearray #[] 0,#[]⟩:=Heap.get?_push_at rfl rfl;have n:(⟨m.push ⟨.type "bytearray",none,.bytearray #[] 0,#[]⟩,g,d,tk,os⟩:Shared).TypeIs (.ref m.objs.size) "bytearray":=⟨_,ho,rfl⟩;have p:=ft.init.lookup;have q:=ft.init.bind (.ref m.objs.size);dsimp only;refine ah ?_;unfold isInstance;repeat (any_goals (first|assumption|wp_step))
 refine aK (mD ?_);unfold callSpecial?;refine ah ?_;unfold specialOf;repeat (any_goals (first|assumption|wp_step))
 refine mD (Ah q ?_);dsimp only;refine aK (eS (fZ iQ.plain (by decide) tV (iQ.check _ _ _ _ _ _ _ _ n (vF _) ?_)));refine IZ a ho λh' t e1=>?_;refine(?_:RV _ (Flow.ret Value.none) _);refine aC ?_;dsimp only;rw[aA (by decide)];refine aC ?_;refine h _ (λb o u=>?_) e1;rw[t,r8 _ _ (Nat.ne_of_gt (jo u))];exact cn _ u
end
section
variable{prog:Program}{w:World}{A:Around}{K:Frag}{C:Addr}{R:Flow->Shared->Prop}{h:Heap}{g:Array GenState}{d:Drawn}{t:Nat}{os:OsState}
noncomputable def RI(x:Addr)(R:Flow->Shared->Prop):Flow->Shared->Prop:=λf s'=>match f with|.ret v=>v=.none/\R (.ret (.ref x)) s'|_=>False
theorem As{rest:List Value}{c:Addr}(X:K.In h)(i:makesIn K C=true)(hi:findIn K (.ref C) "__init__"=some (some (.ref c)))(j:typeIn K (.ref c)=some (.type "function"))(l:cz (model prog w) (A.under (.builtin "type.__call__" ⟨.ref C::rest,[]⟩)) (.call (.ref c) ⟨.ref (h.objs.size+1)::rest,[]⟩) (RI (h.objs.size+1) R) ⟨(h.push emptyDict).push (instObj C h.objs.size),g,d,t,os⟩):cz (model prog w) A (.call (.ref C) ⟨rest,[]⟩) R ⟨h,g,d,t,os⟩:=by
 have m:=makes_of (M:=model prog w) X i;have n:=m;have p:=looks_findIn (M:=model prog w) X hi;obtain⟨⟨q,r,s,sl,u,e1,e2,x⟩,made,base,self,top,call,typ⟩:=m;refine cq ?_;refine(?_:bm _ _ (callAny (.ref C) _) _ _);refine ah (wpAny_load u ?_);refine(?_:bm _ _ (callAny.viaDunder (.ref C) _) _ _);unfold callAny.viaDunder;refine ah (call.at ?_);dsimp only;rw[tc_bind];refine ah (bg (ah (bg ?_)));refine aC (a:=Fin.again (.call (.builtin "type.__call__") ⟨.ref C::rest,[]⟩)) (bz rfl rfl ?_);refine cq ?_;refine(?_:bm _ A.in1 (do checkBuiltinCall "type.__call__" ⟨.ref C::rest,[]⟩;again (.builtin "type.__call__" ⟨.ref C::rest,[]⟩)) _ _);refine ah (check_slot tc_kind tc_split typ (tc_args _ _ _) (aC (bz (BA _ (by decide+kernel)) (by refine(?_:Builtin.Bytes.decodersThatHold.contains "type.__call__"=false);decide) (lu (by decide) entry_typeCall ?_))));unfold Builtin.«type.__call__»;have y:Looks (model prog w) h (mroOf (.ref C)) s.mro:=((Looks.ld (part:=none) u).andThen .now).andThen .now;dsimp only;repeat (first|simp only[x,Bool.false_eq_true,if_false]|with_reducible refine qY ?_|refine ah ?_|lk)
 refine new_K n p (.inl rfl) ?_;have k:∀b o,h.get? b=some o->((h.push emptyDict).push (instObj C h.objs.size)).get? b=some o:=λb o e=>cn _ (cn _ e);have hx:((h.push emptyDict).push (instObj C h.objs.size)).get? (h.objs.size+1)=some (instObj C h.objs.size):=by heap_get
 have B:Looks (model prog w) ((h.push emptyDict).push (instObj C h.objs.size)) (typeOf (.ref (h.objs.size+1))) (.ref C):=(Looks.ld hx).andThen .now;have s1:=self.keeps k;have D:=p.keeps k;have E:=bind_fn (M:=model prog w) (X.keeps k) (.ref (h.objs.size+1)) j;dsimp only;unfold isInstance;refine ah ?_;repeat lk
 refine aK (mD ?_);unfold callSpecial? specialOf;refine ah ?_;repeat lk
 refine mD (ah ?_);repeat lk
 refine aK (eS (sV l λf s' z=>?_));rcases f with v|_|_|_<;>first|exact z.elim|skip
 refine dA z ?_;try clear z;rintro rfl z
 refine aC ?_;dsimp only;rw[aA (by decide)];exact aC z
end
section
variable{M:Model}{A:Around}{s:Shared}{env:Env}
theorem wf{st rest}{Q:Flow->Shared->Prop}(h:bm M A (exec st env) (λf s'=>match f with|.next=>bm M A (execs rest env) Q s'|f=>Q f s') s):bm M A (execs (st::rest) env) Q s:=by rw[execs_cons];refine aK (aS h λf s' z=>?_);cases f<;>first|exact z|exact aC z
theorem pM{Q:Flow->Shared->Prop}(h:Q .next s):bm M A (execs [] env) Q s:=c9 (nG h)
theorem br{α:Type}{p:Pos}{m:Sem α}{Q:α->Shared->Prop}(h:bm M A m Q s):bm M A (standAt p>>=λa=>m) Q s:=ah (kG h)
theorem Li{e pos}{Q:Flow->Shared->Prop}(h:bm M A (eval e env) (λv s'=>match v with|.ref _=>False|_=>Q .next s') s)(hi:interactive env=false)(hs:swapsWith e none pos.line env=pure false):bm M A (exec (.Expr e pos) env) Q s:=by
 rw[exec_Expr env e pos hi hs];refine br (aK (aS h λv s' z=>?_));have hv:∀a,v≠.ref a:=λa b=>by subst b;exact z
 rw[dropValue_plain hv];cases v<;>first|exact z.elim|exact aC z
theorem ww{x a b pos}{Q:Flow->Shared->Prop}(h:bm M A (eval b env) (λv c=>wpAny M A (storeName env x v) (λd s'=>Q .next s') (λd d=>False) c) s)(hs:swapsWith b (some (.Name x a)) pos.line env=pure false):bm M A (exec (.Assign [.Name x a] b pos) env) Q s:=by rw[exec_Assign_Name env x a b pos hs];refine br (aK (aS h λv s' z=>br (ah ?_)));exact wpAny_bindName (bE z (λd d y=>aC y) λd d y=>y)
theorem O3{a body c pos}{Q:Flow->Shared->Prop}(h:wpAny M A (isTrue a env (eval a env)) (λb d=>if b then bm M A (execs body env) Q d else bm M A (execs c env) Q d) (λe e=>False) s):bm M A (exec (.If a body c pos) env) Q s:=by rw[exec_If];refine br (ah (bE h (λb s' z=>?_) λe e y=>y));cases b<;>exact z
theorem HO{a body b pos}{Q:Flow->Shared->Prop}(h:cz M A (.whileLoop a body b env) Q s):bm M A (exec (.While a body b pos) env) Q s:=by rw[exec_While];exact br (qZ h rfl)
theorem NB{a iter body b pos}{Q:Flow->Shared->Prop}(h:wpAny M A (eval iter env) (λx c=>wpAny M A (pyIter x) (λit d=>cz M A (.forLoop a it body b env) Q d) (λe e=>False) c) (λe e=>False) s)(hs:∀x,foldedSetIterable iter env x=pure x):bm M A (exec (.For a iter body b pos) env) Q s:=by rw[exec_For];refine br (ah (bE h (λx c z=>?_) λe e y=>y));refine Ah (hs x) (br (ah (eC (bE z (λit d y=>qZ y rfl) λe e y=>y))))
end
section
variable{prog:Program}{w:World}{A:Around}{s:Shared}{R:Flow->Shared->Prop}
theorem xA{a body env}(I:Nat->Shared->Prop)(c:∀n s,I n s->wpAny (model prog w) A (isTrue a env (eval a env)) (λb d=>if b then bm (model prog w) A (execs body env) (λf e=>match f with|.next|.cont=>∃m,m<n/\I m e|.brk=>R .next e|.ret v=>R (.ret v) e) d else R .next d) (λg g=>False) s)(n:Nat)(h:I n s):cz (model prog w) A (.whileLoop a body [] env) R s:=by refine rZ rfl rfl I (λn s i=>?_) n h;refine(?_:bm _ A ((whileTurn a body [] env).onRaise (λx=>do noteFrame x env;theTreesLotGoes x)) _ s);refine gu ?_;skip;refine ah (bE (c n s i) (λb d j=>?_) λg g h'=>h');cases b with|false=>skip;exact aK (pM (aC j))|true=>skip;refine aK (aS j λf e k=>?_);cases f with|next=>exact aC (.inl ⟨rfl,k⟩)|cont=>exact aC (.inl ⟨rfl,k⟩)|brk=>exact aC k|ret v=>exact aC k
theorem CO{a it body env}(I:Nat->Shared->Prop)(b:∀n s,I n s->wpAny (model prog w) A (pyNext it) (λr c=>match r with|none=>R .next c|some v=>wpAny (model prog w) A (letOwnedTupleGo a it v) (λd e=>wpAny (model prog w) A (assign a env v) (λd g=>bm (model prog w) A (execs body env) (λf i=>match f with|.next|.cont=>∃m,m<n/\I m i|.brk=>R .next i|.ret v=>R (.ret v) i) g) (λd d=>False) e) (λd d=>False) c) (λd d=>False) s)(n:Nat)(h:I n s):cz (model prog w) A (.forLoop a it body [] env) R s:=by refine rZ rfl rfl I (λn s j=>?_) n h;refine(?_:bm _ A ((forTurn a it body [] env).onRaise (λx=>do noteFrame x env;theTreesLotGoes x)) _ s);refine gu ?_;skip;refine br (ah (wpAny_onRaise (bE (b n s j) (λr c k=>?_) λd d h'=>h'.elim)));cases r with|none=>exact aC (.inr (bz rfl rfl (vb (codeAny_block (nG k)))))|some v=>refine ah (bE k (λd e l=>?_) λd d h'=>h');refine ah (bE l (λd g o=>aK (aS o λf i p=>?_)) λd d h'=>h');cases f with|next=>exact aC (.inl ⟨rfl,p⟩)|cont=>exact aC (.inl ⟨rfl,p⟩)|brk=>exact aC p|ret v=>exact aC p
theorem zS{body env}(h:bm (model prog w) (A.deeper env) (execs body env) (λf s'=>R (.ret (match f with|.ret v=>v|_=>.none)) s') s):cz (model prog w) A (.func body env) R s:=by refine cq ?_;refine(?_:bm _ (A.deeper env) (do point;match<-(execs body env).onRaise (leaving env)with|.ret v=>ret v|_=>ret .none) _ s);refine ah (wpAny_point (aK (gu (aS h λf s' h'=>?_))));cases f<;>exact aC h'
theorem kU{a:Addr}{args:Args}{o:Obj}{b:FuncData}{body:List Stmt}(d:A.depth<recursionLimit)(ho:s.heap.get? a=some o)(e:o.data=.func b)(f:b.scope.isCoroutine=false)(g:b.scope.isGenerator=false)(i:b.body=.stmts body)(j:s.heap.CodeRec b.code b.qualname)(h:wpAny (model prog w) A.in1 (bindArgs b args) (λk l=>wpAny (model prog w) A.in1 (newFunctionEnv b.scope b.globals b.closure k (b.qualname++".<locals>.") (some a) b.code none b.builtins) (λenv n=>n.heap.NoLimit/\cz (model prog w) A (.func body env) R n) (λp p=>False) l) (λp p=>False) s):cz (model prog w) A (.call (.ref a) args) R s:=by
 refine cq ?_;refine(?_:bm _ A.in1 (callAny (.ref a) args) _ s);skip;refine ah (wpAny_load ho ?_);refine cr j λc q vs r t u v x=>?_;try clear j
 simp only[e,callFunction,f,g,i,t];rw[t]at h;refine c9 ?_;refine aD ?_;intro y;refine aQ (m:=field (.ref c) 1) (lE u v x (aQ (bg ?_)));exact aQ (bE h (λk l z=>aQ (bE z (λenv n B=>aQ (wpAny_enterFrame B.1 d (bg (And.intro rfl (And.intro rfl B.2))))) λp p h'=>h')) λp p h'=>h')
end
section
variable{M:Model}{A:Around}{s:Shared}
theorem ws{P:Heap->Prop}{pos:Pos}{f:Value}{first:List Value}{Q:Value->Shared->Prop}{args:List (Bool×Sem Value)}(b:args.any (·.1)=false)(c:∀h,P h->∃k,(k=Keeper.frame\/k=Keeper.machine\/k=Keeper.boundFrame)/\Looks M h (keeperOf f) k)(h:wpAny M A (evalArgs f true args []) (λa d=>P d.heap/\bm M A (call f (first++a.pos) a.kw) Q d) (λe e=>False) s):bm M A (callWith pos f first args []) Q s:=by
 skip;refine ah (eC (bE h (λa d g=>br ?_) λe e x=>x));refine am (c _ g.1) λk i L=>?_;simp only[b,List.any_nil,Bool.or_false];refine ah (L.here ?_);have j:∀{t:Sem Value},bm M A t Q d->bm M A (t>>=λr=>holding [r] point>>=λe=>pure r) Q d:=λl=>aK (aS l λr m hr=>ah (eC (wpAny_point (aC hr))));have n (mk:Value):bm M A (callMarked mk f (first++a.pos) a.kw) Q d:=by skip;exact FX g.2
 rcases i with rfl|rfl|rfl<;>dsimp only<;>first|exact j g.2|(split<;>first|exact j g.2|exact j (n _))
theorem mS{pos:Pos}{id:String}{first:List Value}{args:List (Bool×Sem Value)}{Q:Value->Shared->Prop}(b:args.any (·.1)=false)(h:wpAny M A (evalArgs (.builtin id) true args []) (λa c=>bm M A (call (.builtin id) (first++a.pos) a.kw) Q c) (λd d=>False) s):bm M A (callWith pos (.builtin id) first args []) Q s:=by skip;refine ah (eC (bE h (λa c e=>br ?_) λd d x=>x));simp only[b,List.any_nil,Bool.or_false];refine ah (bg ?_);exact aK (aS e λr f hr=>ah (eC (wpAny_point (aC hr))))
theorem sM{pos:Pos}{T:String}{first:List Value}{args:List (Bool×Sem Value)}{Q:Value->Shared->Prop}(b:args.any (·.1)=false)(h:wpAny M A (evalArgs (.type T) true args []) (λa c=>bm M A (call (.type T) (first++a.pos) a.kw) Q c) (λd d=>False) s):bm M A (callWith pos (.type T) first args []) Q s:=by skip;refine ah (eC (bE h (λa c e=>br ?_) λd d x=>x));simp only[b,List.any_nil,Bool.or_false];refine ah (bg ?_);exact aK (aS e λr f hr=>ah (eC (wpAny_point (aC hr))))
theorem l_{env:Env}{id:Str}{p pos:Pos}{args:List Expr}{Q:Value->Shared->Prop}(h:wpAny M A (eval (.Name id p) env) (λf a=>bm M A (callWith pos f [] (backTo pos (starEach args env)) []) Q a) (λb b=>False) s):bm M A (eval (.Call (.Name id p) args [] pos) env) Q s:=by refine(?_:bm M A (do callWith pos (<-eval (.Name id p) env) [] (backTo pos (starEach args env)) (backToKw pos (keywordEach [] env))) Q s);exact ah h
theorem su{env:Env}{o:Expr}{name:Str}{a pos:Pos}{args:List Expr}{Q:Value->Shared->Prop}(b:md o=true)(c:(backTo pos (starEach args env)).any (·.1)=false)(d:args.length<20)(g:(a.endLine==pos.line)=true)(h:wpAny M A (eval o env) (λi j=>∀pl,wpAny M A (getMethod i name pl) (λk l=>bm M A (callWith pos k.1 k.2 (backTo pos (starEach args env)) []) Q l) (λm m=>False) j) (λm m=>False) s):bm M A (eval (.Call (.Attribute o name a) args [] pos) env) Q s:=by
 rw[arm_eval_Call,rM b];refine ah (bE h (λi j n=>br ?_) λm m e=>e);have p:methodCallForm (args.length+([]:List Keyword).length) (backTo pos (starEach args env)) (backToKw pos (keywordEach [] env))=true:=by
  unfold methodCallForm;have:(backTo pos (starEach args env)).all (λx=>!x.1)=true:=by rw[uW];intro x hx;rw[List.any_eq_false]at c;simpa using c x hx
  rw[this];refine(?_:(true&&true&&decide (args.length+0+0<30))=true);skip;lia
 have q:methodCallPos true o env a pos=pure pos:=by unfold methodCallPos;simp[g]
 unfold methodCall;rw[p];refine ah (eC ?_);skip;refine bE (n _) (λk l r=>?_) λm m z=>z;obtain⟨f,first⟩:=k;exact Ah q r
end
variable{W:Wd}{A:Around}{G:Fc}{ρ ρ1:aR}{H J:Hp}{s s1:Shared}{Q:QV}{X:QX}{E:Value->Shared->Prop}
variable{N:Nm}{T:cA}{Y:kC}{n:Nat}{U:Cx}{nx ct:QR}{rt:QV}{ex:QE}
theorem M8{a b c d e:Bool}(h:(a&&b&&c&&d&&e)=true):(((a=true/\b=true)/\c=true)/\d=true)/\e=true:=⟨fX (aO h).1,(aO h).2⟩
noncomputable abbrev DK:=Nat->List V->QV->Hp->Prop
noncomputable def uw:QX:=λa a=>False
noncomputable def GW:QE:=λa a a=>False
section
variable(T:cA)(Y:kC)(Ψ:DK)
noncomputable def G1:Internal.E->aR->QV->Hp->Prop|.meth o m args,ρ,Q,H=>WE T Y false o ρ (λx=>tN x λc=>JT (T.meth c m) λf=>Bj T Y false args ρ (λvs=>Ψ f (x::vs) Q) uw) uw H|.app o x,ρ,Q,H=>WE T Y false o ρ (λu J=>PR u J/\WE T Y false x ρ (λv=>vQ u v Q) uw J) uw H|.call f args,ρ,Q,H=>Bj T Y false args ρ (λvs=>Ψ f vs Q) uw H|.new c args,ρ,Q,H=>Bj T Y false args ρ (λvs=>JT (T.init c) λf=>pR c (λa=>Ψ f (.ref a::vs) (λv=>Fo v (Q (.ref a))))) uw H|.bi .bytearray .nil,_,Q,H=>dL (.ba []) Q H|e,ρ,Q,H=>WE T Y false e ρ Q uw H
noncomputable def WX:Internal.E->aR->QV->Hp->Prop|.tup (.cons e1 (.cons e2 .nil)),ρ,Q,H=>G1 T Y Ψ e1 ρ (λv=>WE T Y false e2 ρ (λw=>Q (.tup [v,w])) uw) H|e,ρ,Q,H=>G1 T Y Ψ e ρ Q H
mutual noncomputable def Pr:Internal.S->QR->QR->QV->aR->Hp->Prop|.ex e,nx,_,_,ρ,H=>WX T Y Ψ e ρ (λv=>Fo v (nx ρ)) H|.asg x e,nx,ct,rt,ρ,H=>if iU e=true then WS T Y false (.asg x e) nx ct rt GW ρ H else WX T Y Ψ e ρ (λv=>nx (bM ρ x v)) H|.asgT xs e,nx,_,_,ρ,H=>WX T Y Ψ e ρ (λv J=>dC (.t xs) v ρ λO=>nx O J) H|.asgA o f e,nx,_,_,ρ,H=>WX T Y Ψ e ρ (λv=>WE T Y false o ρ (λx=>cb x f v (nx ρ)) uw) H|.ite c a b,nx,ct,rt,ρ,H=>WE T Y false c ρ (λx=>BP x (sy a nx ct rt ρ) (sy b nx ct rt ρ)) uw H|.for_ t sk d body,nx,_,rt,ρ,H=>WE T Y false d ρ (λv=>gc sk v λsame l=>ju t same (λg h i j=>sy body g h i) l nx rt GW ρ) uw H|.whl c body,nx,_,rt,ρ,H=>∃n,xz (λO Q=>WE T Y false c O Q (λj j=>False)) (λg h i j=>sy body g h i) n nx rt GW ρ H|s,nx,ct,rt,ρ,H=>WS T Y false s nx ct rt GW ρ H noncomputable def sy:SL->QR->QR->QV->aR->Hp->Prop|.nil,nx,_,_,ρ,H=>nx ρ H|.cons s r,nx,ct,rt,ρ,H=>Pr s (sy r nx ct rt) ct rt ρ H end
end
noncomputable def nD(T:cA)(aI:Nat->Option Fn):Nat->DK|0=>λa a a a=>False|n+1=>λf args Q H=>ei T aI (n+1) false f args Q uw H\/(match aI f with|none=>False|some d=>match cp d args with|none=>False|some vs=>sy T (ei T aI n) (nD T aI n) d.body (λa=>Q .none) (λa a=>False) Q (λi=>vs[i]?) H)
noncomputable def nJ(W:Wd)(Ψ:DK)(n:Nat):Prop:=∀(f:Nat)(A:Around)(G:Fc)(ρ:aR)(H:Hp)(s:Shared)(Q:QV)(avs:List V)(a:List Value),St W A G ρ H s->Ey A n->A.handled=none->bj s.heap avs a->Ψ f avs Q H->cz (model W.prog W.w) A (.call (.ref (W.fn f)) ⟨a,[]⟩) (RV (PE W A G ρ H s Q)) s
noncomputable abbrev fq(n:Nat)(W:Wd)(U:Cx)(A:Around)(G:Fc)(ρ:aR)(H:Hp)(s:Shared):Prop:=nQ false n W U A G ρ H s GW (λa a=>False)
theorem nU(c:fq n W U A G ρ H s):Ctx false n W U A G ρ H s uw (λa a=>False):=c.expr
theorem PN.step{t:Sem Value}{P:Value->Shared->Prop}{a:QV}(h:bm (model W.prog W.w) A t (PE W A G ρ H s a) s)(k:∀b v J s1,a b J->VR s1.heap b v->Reach W A G H s ρ J s1->P v s1):bm (model W.prog W.w) A t P s:=aS h λv s1 c=>by
 refine aW c λb J q w r=>?_;try clear c
 exact k b v J s1 q w r
theorem PN.ret{t:Sem Value}(r:Reach W A G H s ρ J s1)(h:bm (model W.prog W.w) A t (PE W A G ρ J s1 Q) s1):bm (model W.prog W.w) A t (PE W A G ρ H s Q) s1:=aS h λa a z=>z.from r
theorem lK{a:EL}(b:zq N T Y false n W a){d:List Expr}{pos:Pos}{f:Value}{first:List Value}{Ql:List V->Hp->Prop}{P:Value->Shared->Prop}(g:dX W N)(i:keepIn W.K f=true)(j:dg N a U d=true)(c:fq n W U A G ρ H s)(hw:Bj T Y false a ρ Ql uw H)(k:∀avs l J s1,Ql avs J->bj s1.heap avs l->Reach W A G H s ρ J s1->bm (model W.prog W.w) A (call f (first++l)) P s1):bm (model W.prog W.w) A (callWith pos f first (backTo pos (starEach d G.env)) []) P s:=by
 refine ws (P:=λh=>W.K.In h) (hV j) (keeps_K i) ?_;refine aD ?_;intro m;cases d with
 |nil=>
  refine aD ?_;intro m;cases a with
  |cons=>exact(bI j).elim|nil=>exact evalArgs_nil3 ⟨c.S.K g.a,k [] [] H s hw .nil (Reach.refl c.S)⟩
 |cons y d=>
  have o:=j;cases a with|nil=>exact(bI j).elim|cons e r=>
   have o:=aO o;have hh:=b _ _ _ _ _ _ _ _ _ _ pos j (nU c) hw;rw[ax (bS o.1),cg]at hh;rw[ax (bS o.1),cg];refine evalArgs_plain (bE hh (λvs s1 z=>?_) λp p z=>z);refine aW z λavs J q w r=>?_;try clear z
   exact⟨r.st.K g.a,k avs vs J s1 q w r⟩
theorem Mf{e:Internal.E}{x:Expr}(a:aN N T Y false n W e)(b:ay N e U x=true)(c:fq n W U A G ρ H s)(hw:WE T Y false e ρ Q uw H):bm (model W.prog W.w) A (eval x G.env) (PE W A G ρ H s Q) s:=c9 (a _ _ _ _ _ _ _ _ _ _ b (nU c) hw)
theorem Jr{Ψ:DK}(b:dX W N)(C:eT W N T)(d:nJ W Ψ n){f:Nat}{args:EL}{x:Expr}(e:zq N T Y false n W args)(g:ay N (.call f args) U x=true)(c:fq n W U A G ρ H s)(hw:G1 T Y Ψ (.call f args) ρ Q H):bm (model W.prog W.w) A (eval x G.env) (PE W A G ρ H s Q) s:=by
 refine gX g λnm p h pos i g=>?_;rw[i]
 ·refine dA (gK g) ?_;rintro⟨j,k⟩l;have j:=ci j;refine l_ (iR b (nU c) k (λm a o o=>a f nm j) ?_);refine lK (first:=[]) e b (C.fk f nm j) l c hw λavs t J s1 q w r=>?_;exact PN.ret r (eS (d f A G ρ J s1 Q avs t r.st c.R.two (c.hh rfl) w q))
theorem Hn{Ψ:DK}(b:dX W N)(C:eT W N T)(d:nJ W Ψ n){o:Internal.E}{m:Nat}{args:EL}{x:Expr}(ho:aN N T Y false n W o)(e:zq N T Y false n W args)(g:ay N (.meth o m args) U x=true)(c:fq n W U A G ρ H s)(hw:G1 T Y Ψ (.meth o m args) ρ Q H):bm (model W.prog W.w) A (eval x G.env) (PE W A G ρ H s Q) s:=by
 refine wZ g λy nm h j p k g=>?_;rw[k]
 ·refine dA (tl g) ?_;rintro⟨⟨⟨⟨l,t⟩,u⟩,h4⟩,z⟩B;have l:=ci l;have B:=bY B;refine su z (hV u) B h4 (PE.step (ho _ _ _ _ _ _ _ _ _ _ t (nU c) hw) λD v J s1 q w r pl=>?_);refine aD ?_;intro ab;(refine am (tN.b q) ?_;try clear q;rintro cl ⟨a,dx,fs,rfl,E,F⟩q;refine am (Bf q) ?_;clear q;rintro f K q);refine VR.eRef w ?_;refine lz (C.meth _ _ _ _ K l) λk1 k2 k3=>?_;refine dE (r.st.objs _ _ E) λsl L=>?_;refine aW (r.st.objs _ _ F) λM O P R hz=>?_;have I:InstAt s1.heap a ⟨.ref (W.cls cl),some dx,.plain,sl⟩ (W.cls cl) (some (PySem.W.dictOf M O)):=⟨L,rfl,rfl,P⟩;refine method_fn (r.st.K b.a) I (plainGet_of (name:="") (b.a.pg _)).1 (plainGet_of (name:="") (b.a.pg _)).2 k1 (ci k2) ?_ ?_
  ·refine(?_:(lookIn nm (PySem.W.dictOf M O)).map _=_);rw[lookIn_dict,lJ (λi=>by rw[b.attr];exact C.apart m nm i l) R];rfl
  ·refine lK e b k3 u (c.next r) q λavs S V s2 X w2 Z=>?_;exact PN.ret (r.trans Z) (eS (d f A G ρ V s2 Q (.ref a::avs) (.ref a::S) Z.st c.R.two (c.hh rfl) (.cons .ref w2) X))
theorem MR{Ψ:DK}(h:dX W N)(C:eT W N T)(i:nJ W Ψ n){cl:Nat}{args:EL}{x:Expr}(j:zq N T Y false n W args)(l:ay N (.new cl args) U x=true)(c:fq n W U A G ρ H s)(hw:G1 T Y Ψ (.new cl args) ρ Q H):bm (model W.prog W.w) A (eval x G.env) (PE W A G ρ H s Q) s:=by
 refine gX l λnm p a1 pos m l=>?_;rw[m]
 ·refine dA (gK l) ?_;rintro⟨u,y⟩B;have u:=ci u;refine l_ (iR h (nU c) y (λa2 D b D=>b cl nm u) ?_);refine lK (first:=[]) j h (C.ck cl nm u) B c hw λavs E J s1 q w r=>?_;refine am (Bf q) ?_;try clear q;rintro f ab q
  ·skip;refine dA (C.init cl f ab) λk1 k2=>?_;have S:=r.st;obtain⟨F,g,d,tk,os⟩:=s1;rw[lF];refine eS (As (S.K h.a) (C.mks cl) k1 k2 ?_);have I:F.get? F.objs.size=none:=qi (bF _);have K:F.get? (F.objs.size+1)=none:=qi (Nat.le_succ _);have kept:∀b o,F.get? b=some o->((F.push emptyDict).push (instObj (W.cls cl) F.objs.size)).get? b=some o:=λb o e=>cn _ (cn _ e);have L:J (F.objs.size+1)=none:=S.freshH K;have M:J F.objs.size=none:=S.freshH I;have ne:F.objs.size+1≠F.objs.size:=by simp
   have O:Reach W A G J ⟨F,g,d,tk,os⟩ ρ J ⟨(F.push emptyDict).push (instObj (W.cls cl) F.objs.size),g,d,tk,os⟩:=Reach.keeps (t:=tk) S kept;have ag:((F.push emptyDict).push (instObj (W.cls cl) F.objs.size)).get? (F.objs.size+1)=some (instObj (W.cls cl) F.objs.size):=by heap_get
   have al:((F.push emptyDict).push (instObj (W.cls cl) F.objs.size)).get? F.objs.size=some emptyDict:=cn _ (Heap.get?_push_at rfl rfl);have ap:=O.tracked S (a:=F.objs.size+1) (ao:=.inst cl F.objs.size) K L ⟨#[],ag⟩;have P:=ap.tracked S (a:=F.objs.size) (ao:=.attrs []) I (by rw[ch (eE ne)];exact M) (aL [] 0 al aJ (cR _));generalize R:A.under (.builtin "type.__call__" ⟨.ref (W.cls cl)::E,[]⟩)=V;have e1:V.frames=A.frames:=by rw[<-R];rfl
   have e2:A.frames=V.frames:=e1.symm;have k:=i f V G ρ _ _ _ (.ref (F.objs.size+1)::avs) (.ref (F.objs.size+1)::E) (P.st.fra e1) (by have:=c.R;unfold Rm at this;unfold Ey;rw[<-R,j5,o5,mq];exact bz (by lia) (by lia) this.2.2) (by rw[<-R,lr];exact c.hh rfl) (.cons .ref (w.ts (O.ts S))) (q.b (F.objs.size+1) F.objs.size L M ne);refine sV k λar s' z=>?_;unfold RV at z;rcases ar with v|_|_|_<;>first|exact z.elim|skip
   refine aW z λa3 Z X av a0=>?_;try clear z
   refine av.mNone X λX=>?_;exact FY rfl _ _ X (.ref) (r.trans (P.trans (a0.fra e2)))
variable{Ψ:DK}
theorem KZ{id:String}{self:Value}{e:Internal.E}(a:aN N T Y false n W e){y:Expr}{pos:Pos}{b:QV}{P:Value->Shared->Prop}(d:ay N e U y=true)(c:fq n W U A G ρ H s)(hw:WE T Y false e ρ b uw H)(k:∀f v J s1,b f J->VR s1.heap f v->Reach W A G H s ρ J s1->bm (model W.prog W.w) A (call (.builtin id) [self,v]) P s1):bm (model W.prog W.w) A (callWith pos (.builtin id) [self] (backTo pos (starEach [y] G.env)) []) P s:=by rw[ax (bS d),cg];refine mS rfl (evalArgs_plain (lj (PE.step (a _ _ _ _ _ _ _ _ _ _ d (nU c) hw) λf v J s1 q w r=>pk ?_)));exact k f v J s1 q w r
theorem LL{o e:Internal.E}{x:Expr}(ho:aN N T Y false n W o)(b:aN N T Y false n W e)(d:ay N (.app o e) U x=true)(c:fq n W U A G ρ H s)(hw:G1 T Y Ψ (.app o e) ρ Q H):bm (model W.prog W.w) A (eval x G.env) (PE W A G ρ H s Q) s:=by
 have hz:sizeLine=16777216:=by decide+kernel
 refine vK d λy nm f z p g d=>?_;rw[g]
 ·refine dA (M8 d) ?_;rintro⟨⟨⟨h,i⟩,j⟩,h4⟩m;rw[ci h];refine su m (oz j) (by simp) h4 (PE.step (ho _ _ _ _ _ _ _ _ _ _ i (nU c) hw) λB v J s1 q w r pl=>?_);refine aD ?_;intro C;refine dA q ?_;try clear q;rintro⟨a,D,rfl,E⟩q
  refine VR.eRef w ?_;refine am (r.st.objs _ _ E) λbs e1 w1=>?_;refine getMethod_builtin (an _ e1 rfl) tQ fF qQ (λa e=>by cases e;exact an _ e1 rfl) ?_;refine KZ b j (c.next r) q λF u I s2 K w2 L=>?_;refine sd (K.b) λM xs k e0 e2 O k0 k1 hsz P=>?_;subst e2;obtain rfl:a=M:=by injection e0
  refine VR.eInt w2 λt=>?_;refine am (L.st.objs _ _ O) λR e2 w3=>?_;have S:R.size=xs.length:=by rw[<-w3,aP,ua]
  refine Ex c.R.2.2 e2 k0 k1 (by rw[S];exact cN hsz (jP jG)) λh' V e3=>?_;refine aL _ _ P (.none) ((r.trans L).trans (L.st.turn (t:=s2.toks) O (by intro l;simp) V (an _ e3 ?_) (by intro l;simp)));have X:(k.toNat.toUInt8).toNat=k.toNat:=by refine(?_:k.toNat%256=k.toNat);lia
  simp[w3,X]
theorem MY(b:dX W N){x:Expr}(d:ay N (.bi .bytearray .nil) U x=true)(c:fq n W U A G ρ H s)(hw:dL (.ba []) Q H):bm (model W.prog W.w) A (eval x G.env) (PE W A G ρ H s Q) s:=by
 refine gX (f:=λn e=>n==DH .bytearray&&glob U n&&dg N .nil U e) d λnm p e pos g d=>?_;rw[g]
 ·refine dA (gK d) ?_;rintro⟨k1,k2⟩k3;have k1:=ci k1;rw[ow k3];refine l_ (kE b (nU c) (v:=.type "bytearray") k2 (by rw[k1];exact qJ .bytearray) ?_);refine sM rfl (evalArgs_nil3 (HW c.R.2.2 λh' kept h=>?_));refine dA (Reach.made (t:=s.toks) (h':=h') (a:=s.heap.objs.size) (ao:=.ba []) c.S kept bN (an (#[]) h rfl)) λi j=>?_;exact aL _ _ (hw.b _ i) (.ref) j
theorem KO(a:dX W N)(C:eT W N T){e1 e2:Internal.E}{x:Expr}(d:∀{x Q},ay N e1 U x=true->G1 T Y Ψ e1 ρ Q H->bm (model W.prog W.w) A (eval x G.env) (PE W A G ρ H s Q) s)(f:aN N T Y false n W e2)(g:ay N (.tup (.cons e1 (.cons e2 .nil))) U x=true)(c:fq n W U A G ρ H s)(hw:WX T Y Ψ (.tup (.cons e1 (.cons e2 .nil))) ρ Q H):bm (model W.prog W.w) A (eval x G.env) (PE W A G ρ H s Q) s:=by
 have hz:sizeLine=16777216:=by decide+kernel
 refine B9 g λh k p i g=>?_;rw[i]
 ·cases h with
  |nil=>exact(bI g).elim|cons j h=>cases h with|nil=>exact(bI (aO g).2).elim|cons l h=>cases h with
   |cons=>exact(bI (aO (aO g).2).2).elim
   |nil=>refine dA (aO g) λm g=>?_;have y:=(aO g).1;rw[arm_eval_Tuple,ax (bS m),ax (bS y)];refine br (aK ?_);refine(?_:bm _ A (spliced [(false,eval j G.env),(false,eval l G.env)]) _ s);have e0:spliced [(false,eval j G.env),(false,eval l G.env)]=(do let v<-eval j G.env;let vs<-holding [v] (spliced [(false,eval l G.env)]);pure (v::vs)):=by rfl
         rw[e0];refine aK (PN.step (d m hw) λz v J s1 q w r=>c9 ?_);refine aD ?_;intro B;refine aQ (eC (lj (PE.step (f _ _ _ _ _ _ _ _ _ _ y (nU (c.next r)) q) λD u E s2 F w2 I=>pk ?_)));refine bg (c9 ?_);refine sJ ?_ (by refine(?_:(#[v,u]).size<=sizeLine);simp;decide);have k:∀b o,s2.heap.get? b=some o->(s2.heap.push {cls:=.type "tuple",data:=.seq #[v,u]}).get? b=some o:=λb o e=>cn _ e;exact aL _ _ F (.tup (rI _ (gE _ rfl) rfl _ rfl) (.cons ((w.ts (I.ts r.st)).ts (TS.of_keeps k)) (.cons (w2.ts (TS.of_keeps k)) .nil))) ((r.trans I).trans (Reach.keeps (t:=s2.toks) I.st k))
theorem N6{P:Internal.E->Prop}(o:∀e,(∀{ρ Q H},G1 T Y Ψ e ρ Q H->WE T Y false e ρ Q uw H)->P e)(m:∀o m a,P (.meth o m a))(a:∀o x,P (.app o x))(c:∀f a,P (.call f a))(w:∀f a,P (.new f a))(b:P (.bi .bytearray .nil)):∀e,P e:=by
 intro e;cases e with
 |meth=>exact m _ _ _|app=>exact a _ _|call=>exact c _ _|new=>exact w _ _|bi d g=>cases g with
  |cons=>exact o _ (by cases d<;>exact id)|nil=>cases d<;>first|exact b|exact o _ id
 |_=>exact o _ id
theorem Pf(a:dX W N)(C:eT W N T)(b:dr W Y n)(d:nJ W Ψ n):∀(e:Internal.E){x:Expr}{Q:QV},ay N e U x=true->fq n W U A G ρ H s->G1 T Y Ψ e ρ Q H->bm (model W.prog W.w) A (eval x G.env) (PE W A G ρ H s Q) s:=N6 (λe k f f g c hw=>Mf (au a C b e).1 g c (k hw)) (λf f f f f g c hw=>Hn a C d (au a C b _).1 (jz a C b _).1 g c hw) (λf f f f g c hw=>LL (au a C b _).1 (au a C b _).1 g c hw) (λf f f f g c hw=>Jr a C d (jz a C b _).1 g c hw) (λf f f f g c hw=>MR a C d (jz a C b _).1 g c hw) λg c hw=>MY a g c hw
theorem O5{P:Internal.E->Prop}(o:∀e,(∀{ρ Q H},WX T Y Ψ e ρ Q H->G1 T Y Ψ e ρ Q H)->P e)(t:∀a b,P (.tup (.cons a (.cons b .nil)))):∀e,P e:=by
 intro e;cases e with
 |tup c=>cases c with|nil=>exact o _ id|cons e1 r=>cases r with|nil=>exact o _ id|cons e2 r=>cases r with
  |nil=>exact t _ _|cons=>exact o _ id
 |_=>exact o _ id
theorem xN(d:dX W N)(C:eT W N T)(f:dr W Y n)(g:nJ W Ψ n):∀(e:Internal.E){x:Expr}{Q:QV},ay N e U x=true->fq n W U A G ρ H s->WX T Y Ψ e ρ Q H->bm (model W.prog W.w) A (eval x G.env) (PE W A G ρ H s Q) s:=O5 (λe k h h i c hw=>Pf d C f g e i c (k hw)) λa b h h i c hw=>KO d C (λj l=>Pf d C f g a j c l) (au d C f b).1 i c hw
noncomputable def Jf(N:Nm)(T:cA)(Y:kC)(Ψ:DK)(n:Nat)(W:Wd)(st:Internal.S):Prop:=∀U x A G ρ H s nx ct rt,CJ N st U x=true->fq n W U A G ρ H s->Pr T Y Ψ st nx ct rt ρ H->bm (model W.prog W.w) A (exec x G.env) (PF W A G H s nx ct rt) s
noncomputable def vf(N:Nm)(T:cA)(Y:kC)(Ψ:DK)(n:Nat)(W:Wd)(st:SL):Prop:=∀U xs A G ρ H s nx ct rt,f8 N st U xs=true->fq n W U A G ρ H s->sy T Y Ψ st nx ct rt ρ H->bm (model W.prog W.w) A (execs xs G.env) (PF W A G H s nx ct rt) s
theorem fq.go(c:fq n W U A G ρ H s){ρ1:aR}(r:Reach W A G H s ρ1 J s1):fq n W U A G ρ1 J s1:=c.next r
theorem PN.back{t:Sem Flow}(r:Reach W A G H s ρ1 J s1)(h:bm (model W.prog W.w) A t (PF W A G J s1 nx ct rt) s1):bm (model W.prog W.w) A t (PF W A G H s nx ct rt) s1:=aS h λa a z=>z.from r
theorem cB{st:Internal.S}(h:nN N T Y false n W st){x:Stmt}(a:CJ N st U x=true)(c:fq n W U A G ρ H s)(hw:WS T Y false st nx ct rt GW ρ H):bm (model W.prog W.w) A (exec x G.env) (PF W A G H s nx ct rt) s:=c9 (h _ _ _ _ _ _ _ _ _ _ _ _ a c hw)
theorem NC(a:∀(e:Internal.E)U A G ρ H s {x:Expr}{Q:QV},ay N e U x=true->fq n W U A G ρ H s->WX T Y Ψ e ρ Q H->bm (model W.prog W.w) A (eval x G.env) (PE W A G ρ H s Q) s){e:Internal.E}:Jf N T Y Ψ n W (.ex e):=λU x A G ρ H s nx ct rt b c hw=>by refine GG b λv p d b=>?_;rw[d];·have b:=aO b;refine Li (PN.step (a e U A G ρ H s b.1 c hw) λf v J s1 q w r=>?_) (e_ c.S) (ig b.2 _ _ _);refine w.mNone q λq=>?_;exact aY _ _ q r
theorem LG(a:nN N T Y false n W (.asg i e))(b:∀(e:Internal.E)U A G ρ H s {x:Expr}{Q:QV},ay N e U x=true->fq n W U A G ρ H s->WX T Y Ψ e ρ Q H->bm (model W.prog W.w) A (eval x G.env) (PE W A G ρ H s Q) s):Jf N T Y Ψ n W (.asg i e):=λU x A G ρ H s nx ct rt d c hw=>by replace hw:if iU e=true then WS T Y false (.asg i e) nx ct rt GW ρ H else WX T Y Ψ e ρ (λv J=>nx (bM ρ i v) J) H:=hw;cases f:iU e with|true=>rw[f,aE rfl]at hw;exact cB a d c hw|false=>rw[f,aA bI]at hw;refine mO d λg g g g h d=>?_;rw[h];·refine dA (gK d) ?_;rintro⟨j,k⟩l;have j:=ci j;refine ww (PN.step (b e U A G ρ H s l c hw) λm v J s1 q w r=>?_) (ig (rP f _ l) _ _ _);refine bE (fJ r.st (by rw[c.g.vs];exact j) (by rw[c.g.st];simpa using k) w) (λg s2 z=>?_) λg g z=>z;exact aY _ _ q (r.trans z)
theorem HE(b:dX W N)(d:∀(e:Internal.E)U A G ρ H s {x:Expr}{Q:QV},ay N e U x=true->fq n W U A G ρ H s->WX T Y Ψ e ρ Q H->bm (model W.prog W.w) A (eval x G.env) (PE W A G ρ H s Q) s){o e:Internal.E}{f:Nat}(ho:aN N T Y false n W o):Jf N T Y Ψ n W (.asgA o f e):=λU x A G ρ H s nx ct rt g c hw=>by
 refine wV g λy nm h v p i g=>?_;rw[i]
 ·refine dA (fX g) ?_;rintro⟨⟨j,k⟩,l⟩h4;rw[ci k];have l:=bY l;rw[exec_Assign,show swapsWithSole [.Attribute y (N.attr f) h] v p.line G.env=swapsWith v (some (.Attribute y (N.attr f) h)) p.line G.env from rfl,dO rfl];refine br (ah (bg ?_));rw[aA (by decide)];refine aK (PN.step (d e U A G ρ H s h4 c hw) λm x J s1 q w r=>c9 ?_);refine aD ?_;intro t;refine aQ (jf (a:=none) (by cases v<;>rfl) ?_);refine(?_:wpAny _ A ((do let u<-holding [x] (eval y G.env);standAt h.atName;holding [x,u] (setAttr u (N.attr f) x);release [x,u] []:Sem Unit)>>=λB=>(pure Flow.next:Sem Flow)) _ _ s1);refine aQ ?_;refine aD ?_;intro t;refine aQ (eC (PE.step (ho _ _ _ _ _ _ _ _ _ _ j (nU (c.go r)) q) λu z C s2 D w2 E=>aQ (kG (aQ (eC ?_)))));rw[<-b.attr];refine bE (lY E.st b.a l D w2 (w.ts (E.ts r.st))) (λB F z=>?_) λB B z=>z;refine am z λI K L=>?_;try clear z
  exact wpAny_release' (bg (aY _ _ K ((r.trans E).trans L)))
theorem Jg(a:∀(e:Internal.E)U A G ρ H s {x:Expr}{Q:QV},ay N e U x=true->fq n W U A G ρ H s->WX T Y Ψ e ρ Q H->bm (model W.prog W.w) A (eval x G.env) (PE W A G ρ H s Q) s){is:List Nat}{e:Internal.E}:Jf N T Y Ψ n W (.asgT is e):=λU x A G ρ H s nx ct rt b c hw=>by refine za b λd k tp v p g b=>?_;rw[g];refine dA (M8 b) ?_;rintro⟨⟨⟨h,i⟩,j⟩,h4⟩l;rw[exec_Assign,show swapsWithSole [.Tuple d k tp] v p.line G.env=swapsWith v (some (.Tuple d k tp)) p.line G.env from rfl,ig h4];refine br (ah (bg ?_));rw[aA bI];refine aK (PN.step (a e U A G ρ H s j c hw) λm x J s1 q w r=>c9 (bE (BU r.st c.g (c.hh rfl) h i l w q) (λf s2 z=>?_) λo o z=>z));(refine lW (z) ?_;try clear z;rintro t;rw[t];rintro O u z);exact aY _ _ u (r.trans z)
theorem KS{e:Internal.E}{a b:SL}(d:lQ N T Y false n W e)(f:vf N T Y Ψ n W a)(g:vf N T Y Ψ n W b):Jf N T Y Ψ n W (.ite e a b):=λU x A G ρ H s nx ct rt h c hw=>by
 refine AQ h λi i i i j h=>?_;rw[j]
 ·refine dA (gK h) ?_;rintro⟨k,l⟩m;refine O3 (PB.step (d _ _ _ _ _ _ _ _ _ _ k (nU c) hw) λt J s1 q r=>?_);cases t;·exact PN.back r (g _ _ _ _ _ _ _ _ _ _ m (c.go r) q)
  ·exact PN.back r (f _ _ _ _ _ _ _ _ _ _ l (c.go r) q)
theorem Mq:vf N T Y Ψ n W .nil:=λU xs A G ρ H s nx ct rt a c hw=>by rw[ow a];exact pM (aY ρ H hw (Reach.refl c.S))
theorem HB{st:Internal.S}{r:SL}(hs:Jf N T Y Ψ n W st)(hr:vf N T Y Ψ n W r):vf N T Y Ψ n W (.cons st r):=λU xs A G ρ H s nx ct rt a c hw=>by
 cases xs with
 |nil=>exact(bI a).elim|cons x xs=>
  have a:=aO a;refine wf (aS (hs _ _ _ _ _ _ _ _ _ _ a.1 c hw) λf s1 z=>?_);cases f with
  |next=>
   refine aZ z λO Z q k=>?_;try clear z
   exact PN.back k (hr _ _ _ _ _ _ _ _ _ _ a.2 (c.go k) q)|cont=>exact z|brk=>exact z|ret v=>exact z
theorem Lg{e:Internal.E}{body:SL}(a:lQ N T Y false n W e)(d:vf N T Y Ψ n W body):Jf N T Y Ψ n W (.whl e body):=λU x A G ρ H s nx ct rt g c hw=>by
 refine By g λt b p h g=>?_;rw[h]
 ·refine dA (aO g) λi j=>?_;refine dE hw ?_;try clear hw;rintro m hw
  refine HO (xA (I:=λk s'=>∃O Z,Reach W A G H s O Z s'/\xz (λO Q=>WE T Y false e O Q (λl l=>False)) (λo u w l=>sy T Y Ψ body o u w) k nx rt GW O Z) ?_ m (aY ρ H (Reach.refl c.S) hw));rintro k s' ⟨O,Z,r,q⟩;refine aD ?_;intro y;cases k with|zero=>exact q.elim|succ k=>
   refine PB.step (a _ _ _ _ _ _ _ _ _ _ i (nU (c.go r)) q) λt J s1 B r1=>?_;cases t;·exact aY _ _ B (r.trans r1)
   ·have C:=r.trans r1;refine aS (d _ _ _ _ _ _ _ _ _ _ j (c.go C) B) λf D z=>?_;cases f with
    |next=>refine aZ z λE F K L=>?_;try clear z;exact vh k (iY _) E F (C.trans L) K|cont=>refine aZ z λE F K L=>?_;try clear z;exact vh k (iY _) E F (C.trans L) K|brk=>exact z.elim|ret v=>refine bw z λM E F K w3 L=>?_;try clear z;exact dU M E F K w3 (C.trans L)
theorem Km(a:dX W N){t:iw}{sk:Sk}{e:Internal.E}{body:SL}(d:aN N T Y false n W e)(g:vf N T Y Ψ n W body):Jf N T Y Ψ n W (.for_ t sk e body):=λU x A G ρ H s nx ct rt i c hw=>by refine B7 i λtg iter b p j i=>?_;rw[j];refine dA (fX i) ?_;rintro⟨⟨m,o⟩,u⟩h4;have hh:=c.hh rfl;refine am (qK m) λtn w y=>?_;refine dA (zM a d hh o w u (nU c) hw) λk1 k2=>?_;refine NB (bE k1 (λar s1 z=>bE z (λit s2 z=>?_) λy y z=>z) λy y z=>z) k2;cases z with|mk v items J s1 I its It h' tk q r B fr C D=>have E:=r.st;refine CO (I:=LoopAt W A G J s1 items its It λl=>ju t (b_ v J) (λF K L y=>sy T Y Ψ body F K L) l nx rt GW) (λk s' h=>?_) (items.length+1) ⟨0,ρ,J,_,cR _,Reach.keeps E B,D,λb g=>E.freshH (fr b g),q.2⟩;refine Br E c.g hh m fr C (λy y y y z=>z) (λy y z=>z) (λy y z=>z) (λl av a0 a1 M ab P=>?_) (λO Z a2 ag al=>aY O Z al (r.trans ag)) h;refine aS (g _ _ _ _ _ _ _ _ _ _ h4 ((c.go r).go M) ab) λf Q z=>?_;cases f with|next=>refine aZ z λR S V X=>?_;try clear z;exact P R S Q X V|cont=>refine aZ z λR S V X=>?_;try clear z;exact P R S Q X V|brk=>exact z.elim|ret v=>refine bw z λao R S V ap X=>?_;try clear z;exact dU ao R S V ap (r.trans (M.trans X))
theorem pX{Y:kC}{hd:Bool}{n:Nat}{a:Addr}(b:dX W N)(c:Ce W N a)(C:eT W N T)(e:dr W Y n)(d:Internal.S):nN N T Y hd n W d:=Nh (λf f g=>xV b c g) (λf f f h=>Bx b c C e h) (λf f f f f h=>BR b c C e h) b C e d
mutual theorem sN{g:Addr}(h:dX W N)(j:Ce W N g)(C:eT W N T)(k:dr W Y n)(l:nJ W Ψ n):∀d:Internal.S,Jf N T Y Ψ n W d|.ex e=>NC (λe U A G ρ H s x Q m p q=>xN h C k l e m p q)|.asg i e=>LG (pX h j C k _) (λe U A G ρ H s x Q m p q=>xN h C k l e m p q)|.asgT is e=>Jg (λe U A G ρ H s x Q m p q=>xN h C k l e m p q)|.asgA o f e=>HE h (λe U A G ρ H s x Q m p q=>xN h C k l e m p q) (au h C k o).1|.ite c a b=>KS (au h C k c).2 (K2 h j C k l a) (K2 h j C k l b)|.for_ t sk u body=>Km h (au h C k u).1 (K2 h j C k l body)|.whl c body=>Lg (au h C k c).2 (K2 h j C k l body)|.asgI ..=>λU x A G ρ H s nx ct rt v c hw=>cB (pX h j C k _) v c hw|.augV ..=>λU x A G ρ H s nx ct rt v c hw=>cB (pX h j C k _) v c hw|.augA ..=>λU x A G ρ H s nx ct rt v c hw=>cB (pX h j C k _) v c hw|.augI ..=>λU x A G ρ H s nx ct rt v c hw=>cB (pX h j C k _) v c hw|.ret ..=>λU x A G ρ H s nx ct rt v c hw=>cB (pX h j C k _) v c hw|.retN=>λU x A G ρ H s nx ct rt v c hw=>cB (pX h j C k _) v c hw|.raise ..=>λU x A G ρ H s nx ct rt v c hw=>cB (pX h j C k _) v c hw|.try1 ..=>λU x A G ρ H s nx ct rt v c hw=>cB (pX h j C k _) v c hw|.try2 ..=>λU x A G ρ H s nx ct rt v c hw=>cB (pX h j C k _) v c hw|.cont=>λU x A G ρ H s nx ct rt v c hw=>cB (pX h j C k _) v c hw|.bad=>λU x A G ρ H s nx ct rt v c hw=>cB (pX h j C k _) v c hw theorem K2 {g:Addr}(h:dX W N)(j:Ce W N g)(C:eT W N T)(k:dr W Y n)(l:nJ W Ψ n):∀d:SL,vf N T Y Ψ n W d|.nil=>Mq|.cons s r=>HB (sN h j C k l s) (K2 h j C k l r)end
theorem va(S:MW W A H s){np:Nat}{vs:List (Str×Nat)}{a:Addr}{d:FuncData}{body:List Stmt}(F:MT W np vs a d body)(g:A.depth<recursionLimit){pv:List V}{h j:List Value}(hv:bj s.heap pv j)(l:pv.length=np)(m:np<=vs.length)(n:BindsTo s d ⟨h,[]⟩ (((vs.take np).map (·.1)).zip j)){P:Flow->Shared->Prop}(k:∀s1,St W (A.deeper (callEnvC d s.heap.objs.size a)) (wc d vs s.heap.objs.size a) (λi=>pv[i]?) H s1->(∀b o,s.heap.get? b=some o->s1.heap.get? b=some o)->bm (model W.prog W.w) (A.deeper (callEnvC d s.heap.objs.size a)) (execs body (callEnvC d s.heap.objs.size a)) (λf s'=>P (.ret (match f with|.ret v=>v|_=>.none)) s') s1):cz (model W.prog W.w) A (.call (.ref a) ⟨h,[]⟩) P s:=by
 refine am (F.at_) λo ho r=>?_;have t:((vs.take np).map (·.1)).length=j.length:=by simp;have:=hv.length;lia
 refine kU g (S.base _ _ ho) r F.co F.gen F.body (F.code.keeps λb o e=>S.base b o e) (n _ _ _ _ ?_);rw[F.clo];refine wpAny_newFunctionEnv_cells F.kind (λx hx=>?_) λenv u s' x=>?_
 ·have w:x.1∈(vs.take np).map (·.1):=by rw[<-oo t];exact cY (an _ hx rfl)
  refine am (dm w) λp y z=>?_;have B:p∈vs:=uO y;rw[<-z];rcases F.loc p B with q|q;·exact .inl q
  ·refine fK (cX d.scope.names (s.heap.push {cls:=.type "frame",data:=.dict #[]}) (s.heap.objs.size+1) [] F.ndn (by rw[hU];exact bF _) (by simp) (by simp) .nil .nil) λC C D C E=>?_;rw[hU]at D;rw[hU]at E;refine am (E p.1 (fu q)) λc C G=>?_;exact .inr ⟨q,by rw[bu D G];rfl⟩
 ·subst u;exact⟨(F.lim.keeps λb o e=>x.toInCall.keep b o (S.base b o e)),zS (k s' (S.enter F hv l m x) x.toInCall.keep)⟩
set_option tactic.hygienic true in
theorem FO(aI:Nat->Option Fn)(F:Az W N aI)(a:dr W (ei T aI (n+1)) (n+1))(c:∀d,vf N T (ei T aI n) (nD T aI n) n W d):nJ W (nD T aI (n+1)) (n+1):=λf A G ρ H s Q avs g S R hh hv hw=>by
 skip;rcases hw with hw|hw
 ·refine vb (codeAny_mono (a false f A G ρ H s Q uw (λj j=>False) avs g S R (λj=>hh) (λj j j j h=>h.elim) hv hw) λr s' z=>?_);rcases r with e|(v|_|_|_)<;>exact z
 ·(refine aW (Pj hw) ?_;clear hw;rintro d pv k l hw)
  ·skip
   ·skip;refine dD (F f d k) λvs m body p C t u x y=>?_;refine lz (oq hv (x s.heap) l) λB D E=>?_;unfold Ey at R;refine va S.toP C (by lia) B D u (y g E s λb o e=>S.base b o e) λs1 I kept=>?_;refine dE (S.hasF) λJ K=>?_;have L:(A.deeper (callEnvC m s.heap.objs.size (W.fn f))).frames=some (callEnvC m s.heap.objs.size (W.fn f)::J):=uR K;have M:fq n W ⟨m.scope,vs,vs.map (·.1)⟩ (A.deeper (callEnvC m s.heap.objs.size (W.fn f))) (wc m vs s.heap.objs.size (W.fn f)) (λi=>pv[i]?) H s1:=by refine⟨⟨rfl,rfl,rfl⟩,I,?_,λj=>hh,(aY J s.heap.objs.size L rfl),λj j j j j h=>h.elim⟩;skip;exact bz (by refine(?_:A.depth+1+10*n+20<_);lia) (by refine(?_:A.units+3+100*n+300<_);lia) R.2.2
    refine aS (c d.body _ _ _ _ _ _ _ _ _ _ t M hw) λP s' z=>?_;cases P with
    |next=>
     refine aZ z λO Z q r=>?_;try clear z
     exact aL (.none) Z q (.none) (nM S C.ndn I kept r)|cont=>refine aZ z λj j q j=>?_;try clear z;exact q.elim|brk=>exact z.elim|ret v=>
     refine bw z λU O Z q w r=>?_;try clear z
     exact aL U Z q w (nM S C.ndn I kept r)
theorem IX{a:Addr}(b:dX W N)(c:Ce W N a)(C:eT W N T)(aI:Nat->Option Fn)(F:Az W N aI):∀n,nJ W (nD T aI n) n:=by intro n;induction n with|zero=>exactλf A G ρ H s Q avs e S R hh hv hw=>hw.elim|succ n g=>exact FO aI F (vC b c C aI F (n+1)) λd=>K2 b c C (vC b c C aI F n) (g) d
theorem JA{aI:Nat->Option Fn}{a:Addr}(c:dX W N)(g:Ce W N a)(C:eT W N T)(F:Az W N aI){f:Nat}{d:Fn}(j:aI f=some d)(hh:A.handled=none){avs pv:List V}{l:List Value}(S:MW W A H s)(R:Ey A (n+1))(hv:bj s.heap avs l)(m:cp d avs=some pv)(hw:sy T (ei T aI n) (nD T aI n) d.body (λp Z=>Q .none Z) (λp p=>False) Q (λi=>pv[i]?) H){P:Value->Shared->Prop}(k:∀u v Z s',Q u Z->VR s'.heap u v->(∃h t,s'={W.s0 with heap:=h,toks:=t})->(∀b o,W.B.get? b=some o->s'.heap.get? b=some o)->P v s'):bm (model W.prog W.w) A (call (.ref (W.fn f)) l) P s:=by
 refine dD (F f d j) λvs x body ab C' y B D E=>?_;refine lz (oq hv (D s.heap) m) λG I J=>?_;unfold Ey at R;refine eS (va S C' (by lia) G I B (E l J s λb o e=>S.base b o e) λs1 K kept=>?_);refine dE (S.hasF) λL M=>?_;have U:(A.deeper (callEnvC x s.heap.objs.size (W.fn f))).frames=some (callEnvC x s.heap.objs.size (W.fn f)::L):=uR M;have X:fq n W ⟨x.scope,vs,vs.map (·.1)⟩ (A.deeper (callEnvC x s.heap.objs.size (W.fn f))) (wc x vs s.heap.objs.size (W.fn f)) (λi=>pv[i]?) H s1:=by refine⟨⟨rfl,rfl,rfl⟩,K,?_,λp=>hh,(aY L s.heap.objs.size U rfl),λp p p p p h=>h.elim⟩;skip;exact bz (by refine(?_:A.depth+1+10*n+20<_);lia) (by refine(?_:A.units+3+100*n+300<_);lia) R.2.2
 refine aS (K2 c g C (vC c g C aI F n) (IX c g C aI F n) d.body _ _ _ _ _ _ _ _ _ _ y X hw) λY s' z=>?_;cases Y with
 |next=>
  refine aZ z λO Z q r=>?_;try clear z
  exact k .none .none Z s' q .none r.st.rest r.st.base|cont=>refine aZ z λp p q p=>?_;try clear z;exact q.elim|brk=>exact z.elim|ret v=>
  refine bw z λu O Z q w r=>?_;try clear z
  exact k u v Z s' q w r.st.rest r.st.base
end Mine.Internal
namespace Mine.Internal
open PySem PySem.W PyProof.Rows PySem.Calls
theorem vL{prog:Program}{w:World}{t:Sem Fin}{s:Shared}{R:Result->Shared->Prop}(a:s.asleep)(h:bm (model prog w) callerA t (λb s'=>∃f,b=.done f/\(R (.ok f) s'/\leftWithCleanup s'.gens=false)) s):∃n r s' c,runN (denote table) prog w n s ⟨t,.builtin "claim.caller" {},default,[]⟩=.halted (outcomeOf r) s'/\schedN (denote table) prog w n (.single s ⟨t,.builtin "claim.caller" {},default,[]⟩)=.halted (outcomeOf r) s'/\s'.forget=c.forget/\R r c:=by
 have d:=caller_in;have g:MU ⟨.builtin "claim.caller" {},none,none,[],none⟩:=⟨by decide,λx hx=>by cases hx⟩;have hw:Sem.wp (model prog w) ⟨.builtin "claim.caller" {},none,none,[],none⟩ t (Sem.finPost (model prog w) ⟨.builtin "claim.caller" {},none,none,[],none⟩ λr s'=>R r s'/\leftWithCleanup s'.gens=false) (λe i s'=>R (.error e) s'/\leftWithCleanup s'.gens=false) default s:=by
  refine Sem.wp_mono _ _ t (λb j s' h'=>?_) (λi i i h'=>h'.elim) default s (h _ default d g);refine am h' ?_;try clear h';rintro f rfl k
  exact k
 refine cr (wp_halts_full (M:=model prog w) (R:=R) a hw) λn r l m hs o p hR=>?_;exact j1 n r m l o hs p hR
theorem Cy{c:ClaimW}{tree:List Value->Sem Fin}{w:World}{s:Shared}{free:Addr->Prop}{gens:Prop}{kept:Heap->Prop}(hz:s.asleep)(a:s.gens=#[])(d:∀args,c.pre args=true->WData.layableAll args=true->∀ord:List DictEntry->List DictEntry,(∀l,(ord l).Perm l)->∃vs g,layAllW c.records (classAt s.heap) w.params ord args s=some (vs,g)/\bm (model c.prog w) callerA (tree vs) (λh s'=>∃f,h=.done f/\(c.Ends s args vs g (.ok f) s'/\s'.os=s.os/\AllBare s'.gens/\kept s'.heap)) g):c.CallFrom (λvs=>⟨tree vs,.builtin "claim.caller" {},default,[]⟩) w free gens kept s:=by
 intro args j m ord n;refine aZ (d args j m ord n) λvs g p q=>?_;have u:=layAllW_rest _ _ _ p;refine qM (vL (prog:=c.prog) (w:=w) (t:=tree vs) (s:=g) (R:=λr s'=>c.Ends s args vs g r s'/\s'.os=s.os/\kept s'.heap) (Shared.asleep_of_life u.2.2.2 hz) (aS q λh s' z=>z.imp λf z=>bz z.1 (bz z.2.1 z.2.2.1 z.2.2.2.2) (leftWithCleanup_false_of_bare z.2.2.2.1))) ?_;clear q;intro k r s' A B C D E F G;refine fK (Shared.forget_eq D) ?_;intro H _ _ I _;have E:=E.congr H;have G:kept s'.heap:=by rw[H];exact G
 rw[<-I]at F;have J:s'.heap.life=s.heap.life:=(runN_life _ _ _ B).trans u.2.2.2;refine wD vs g p k _ s' C ?_ (λK i x hx=>by rw[a]at hx;simp at hx) G (by rw[J]) (Shared.rest_eq F);exact E.imp (Exists.imp λv z=>s8 (ak outcomeOf z.1) z.2.1 z.2.2.1 z.2.2.2.1 (λb o y K=>z.2.2.2.2.1 b o y) z.2.2.2.2.2) (Exists.imp λe=>Exists.imp λL=>Exists.imp λcls z=>s8 (ak outcomeOf z.1) z.2.1 z.2.2.1 z.2.2.2.1 z.2.2.2.2.1 (λb o y K=>z.2.2.2.2.2 b o y))
theorem GF{r:RowW}{run:Value->List Value->Sem Value}{tree:List Value->Sem Fin}{q:Program}{a d i:List Str}{j:Bool}{k:Shared->Bool}{XP:(Str->Option Value)->Heap->Prop}{α:Type}{l:Shared->α}{m:World->α}{p:World->Heap->Prop}{N:Nat}(t:LeftO r.prog q a k l m N)(u:∀w s,l s=m w->p w s.heap)(x:∀w h h',p w h->(∀b o,h.get? b=some o->h'.get? b=some o)->p w h')(A:∀s,k s=true->XP (s.heap.nsMap mainGlobals) s.heap)(B:∀C h h',XP C h->(∀b o,h.get? b=some o->h'.get? b=some o)->XP C h')(ab:∀s,k s=true->RecFacts r.records s.heap)(ag:(!j||r.records.isEmpty)=true)(ok:(chainsOk q&&opensWell r.prog&&(frees r&&r.within.isEmpty))=true)(al:r.prog.bare)(hw:r.promised)(ao:∀vs (w:World)(s:Shared)C f (Q:Fin->Shared->Prop),s.heap.Ns mainGlobals C->C r.name=some f->bm (model r.prog w) callerA (run f vs) (λv s'=>Q (.done (.ret v)) s') s->bm (model r.prog w) callerA (tree vs) Q s)(ap:∀w s,s.heap.isNs mainGlobals=true->Ground q a [] XP w s (s.heap.nsMap mainGlobals) (s.heap.nsMap builtinsNs) s.heap->∀n∈d,isTheDefsW r.prog s.heap n)(call:∀(w:World)(D E:Shared)(C ar:Str->Option Value),Ground q a r.records XP w D C ar E.heap->p w E.heap->∀(args:List WData)(vs:List Value)(F:List Addr),r.claim.pre args=true->WData.layableAll args=true->Laid r.records w D E args vs F->sysModules<D.heap.objs.size->∃f,C r.name=some f/\bm (model r.prog w) callerA (run f vs) (λv s'=>GoodWG r.claim (classAt D.heap) (ExcName.means D.heap) args E (.ok (.ret v)) s') E):r.claim.HoldsOpenBy (λvs=>⟨tree vs,.builtin "claim.caller" {},default,[]⟩) d i j:=by refine dA (b8 ok) λok k5=>?_;refine dA (b8 ok) λH av=>?_;refine dA (b8 k5) λk5 a0=>?_;refine fK (frees_parts k5) λa1 a2 a3 a4 a5=>?_;refine bz (bz al av (by refine(?_:r.makers.map _=[]);rw[a5];rfl)) hw.witness (λw=>⟨(t.behind A H w).1,λs' a6=>?_⟩);refine Ax ((t.behind (XP:=λC h=>XP C h/\RecFacts r.records h) (λs hs=>⟨A s hs,ab s hs⟩) H w).2 s' a6) λD I a7 s J hz K M O y=>?_;have R:Ground q a [] XP w s (s.heap.nsMap mainGlobals) (s.heap.nsMap builtinsNs) s.heap:=⟨O.T,O.B,O.D,O.TE,O.TD,O.W,O.X.1,O.cls,O.has,O.apart,O.once,O.K⟩;have S:=O.X.2;have a8:=J;refine CH D I a7 s J (ap w s M R) S.1 S.2.1 ?_;have K:s.gens=#[]:=Array.eq_empty_of_size_eq_zero (ci K);have G:Ground q a r.records XP w s _ _ s.heap:=S.ground R;refine Cy (c:=r.claim) hz K λargs T U ord V=>?_;refine dE (Option.isSome_iff_exists.mp (layAllW_isSome (P:=w.params) (ord:=ord) G.has args r.args s (pre_splitW T).1)) ?_;rintro⟨vs,E⟩W;have X:=layAllW_keeps _ _ _ W;have Y:=layAllW_rest _ _ _ W;refine aT (reads_layAllW V _ _ _ W U E.heap (λa' a' e=>e)) λF ba bb bd=>?_;have L:Laid r.records w s E args vs F:=⟨(an ord V W),ba,bb,bd,X,Y.1.trans K,Y.2.2.1⟩;have Z:=G.keeps B X;refine am (call w s E _ _ Z (x _ _ _ (u w s y) X) args vs F T U L G.low) λf I h=>?_;have hi:=ident_freeW a2 a3 a4;have bi:r.claim.within=[]:=ow a0;exact aY vs E W (ao vs w E _ f _ Z.T.g I (aS h (λv s' g=>an _ rfl (have z:=g.laid (c:=r.claim) a1 bi hi L;(et z.1 z.2.1 z.2.2 (λq=>⟨namesKept_of a8 M i X g.2.1.old,noTable ag q⟩))))))
noncomputable abbrev MZ(q:Program)(b:List Str)(XP:(Str->Option Value)->Heap->Prop)(c:World->Heap->Prop)(r:RowW):Prop:=∀(w:World)(d e:Shared)(f g:Str->Option Value),Ground q b r.records XP w d f g e.heap->c w e.heap->∀(a:Addr),f r.name=some (.ref a)->e.gens=#[]->∀(args:List WData)(h:List Value)(i:List Addr),r.claim.pre args=true->WData.layableAll args=true->ReadsAllW r.records (classAt d.heap) e.heap h args i->bm (model r.prog w) callerA (PySem.call (.ref a) h) (λv s'=>GoodWG r.claim (classAt d.heap) (ExcName.means d.heap) args e (.ok (.ret v)) s') e
end Mine.Internal
open PySem PySem.W PyProof.Rows PySem.Calls
namespace MineHead
open Mine.Internal
theorem PySem.W.holds_open{r:OpenRow}{q:Program}{loose:List Str}{Xt:Shared->Bool}{XP:(Str->Option Value)->Heap->Prop}{α:Type}{Yf:Shared->α}{Ya:World->α}{YP:World->Heap->Prop}{d:DefRec}{kwd:List (Str×Expr)}{N:Nat}(left:LeftO r.prog q loose Xt Yf Ya N)(hY:∀w s,Yf s=Ya w->YP w s.heap)(hYk:∀w h h',YP w h->(∀b o,h.get? b=some o->h'.get? b=some o)->YP w h')(hX:∀s,Xt s=true->XP (s.heap.nsMap mainGlobals) s.heap)(hXk:∀mg h h',XP mg h->(∀b o,h.get? b=some o->h'.get? b=some o)->XP mg h')(hdef:defOf q r.name=some (d,kwd))(hp:r.prog.theDef r.name=some (d.params,d.body,d.scope))(hk:kwWritten? d.params.kwonlyargs d.params.kw_defaults=some kwd)(hRf:∀s,Xt s=true->RecFacts r.records s.heap)(hwr:(!r.writes||r.records.isEmpty)=true)(k1:r.wellSaid=true)(ok:(chainsOk q&&opensWell r.prog&&(frees r.toRowW&&r.within.isEmpty))=true)(hb:r.prog.bare)(hw:r.toRowW.promised)(call:MZ q loose XP YP r.toRowW):r.Holds:=by
 refine(bz k1 hw (GF (r:=r.toRowW) (run:=λf vs=>PySem.call f vs) (tree:=λvs=>do match<-nsGet mainNs r.name with|some f=>do ret (<-PySem.call f vs)|none=>unsupported "claim.caller:no-such-global") left hY hYk hX hXk hRf hwr ok hb hw (λvs w s mg f Q hg hf h=>ah (wpAny_nsGet hg (by rw[hf];exact aK (aS h (λj0 j0 x=>aC x))))) (λw s hg G n hn=>?_) λw s₀ s₁ mg mb G Y args vs as hpre hlay L low=>?_))
 ·obtain rfl:n=r.name:=by split at hn<;>simp_all
  exact pinned_of_view hg G hdef hp hk
 ·refine vp (G.fn hdef) λa o pm cd doc dV kV h1 h2 h3 h4 h5=>?_;exact an (.ref a) h1 (call w s₀ s₁ mg mb G Y a (by exact h1) L.gens args vs as hpre hlay L.reads)
end MineHead
namespace Mine.Internal
open PySem
noncomputable def fG:Fn:=⟨2,[],(.cons (.asg 2 (.bin .mul (.list (.cons (.cint 0) .nil)) (.bin .add (.var 1) (.cint 1)))) (.cons (.for_ (.v 3) .val (.var 0) (.cons (.ite (.not (.chain2 .le .le (.cint 0) (.var 3) (.var 1))) (.cons .bad .nil) .nil) (.cons (.augI (.var 2) (.var 3) .add (.cint 1)) .nil))) (.cons (.ret (.var 2)) .nil)))⟩
noncomputable def jy:List (PySem.Str×Nat):=[("lengths",0),("longest",1),("found",2),("length",3)]
noncomputable def uS:Fn:=⟨1,[],(.cons (.asg 1 (.cint 1)) (.cons (.for_ (.v 2) .val (.slLo (.var 0) (.cint 1)) (.cons (.asg 1 (.bin .sub (.bin .mul (.var 1) (.cint 2)) (.var 2))) .nil)) (.cons (.ret (.var 1)) .nil)))⟩
noncomputable def wq:List (PySem.Str×Nat):=[("counts",0),("left",1),("count",2)]
noncomputable def iZ:Fn:=⟨3,[.bool false],(.cons (.asg 3 (.call 0 (.cons (.var 0) (.cons (.var 1) .nil)))) (.cons (.asg 4 (.bin .sub (.bi .len (.cons (.var 0) .nil)) (.idx (.var 3) (.cint 0)))) (.cons (.ite (.cmp .eq (.var 4) (.cint 0)) (.cons (.ite (.not (.var 2)) (.cons .bad .nil) .nil) (.cons .retN .nil)) .nil) (.cons (.asg 5 (.call 1 (.cons (.var 3) .nil))) (.cons (.ite (.cmp .lt (.var 5) (.cint 0)) (.cons .bad .nil) .nil) (.cons (.ite (.and (.cmp .gt (.var 5) (.cint 0)) (.cons (.not (.and (.var 2) (.cons (.cmp .eq (.var 4) (.cint 1)) (.cons (.cmp .eq (.idx (.var 3) (.cint 1)) (.cint 1)) .nil)))) .nil)) (.cons .bad .nil) .nil) .nil))))))⟩
noncomputable def lZ:List (PySem.Str×Nat):=[("lengths",0),("longest",1),("lone",2),("counts",3),("used",4),("left",5)]
noncomputable def gp:Fn:=⟨1,[],(.cons (.asg 1 (.cint 0)) (.cons (.for_ (.v 2) .val (.var 0) (.cons (.ite (.cmp .gt (.var 2) (.var 1)) (.cons (.asg 1 (.var 2)) .nil) .nil) .nil)) (.cons (.ret (.var 1)) .nil)))⟩
noncomputable def j_:List (PySem.Str×Nat):=[("lengths",0),("most",1),("length",2)]
noncomputable def ly:Fn:=⟨1,[],(.cons (.asgT [1,2] (.tup (.cons (.bin .mul (.list (.cons (.cint 0) .nil)) (.bi .len (.cons (.var 0) .nil))) (.cons (.cint 0) .nil)))) (.cons (.for_ (.v 3) .val (.bi .range (.cons (.cint 1) (.cons (.bi .len (.cons (.var 0) .nil)) .nil))) (.cons (.asg 4 (.ite (.cmp .gt (.var 3) (.cint 1)) (.idx (.var 0) (.bin .sub (.var 3) (.cint 1))) (.cint 0))) (.cons (.asg 2 (.bin .shl (.bin .add (.var 2) (.var 4)) (.cint 1))) (.cons (.asgI (.var 1) (.var 3) (.var 2)) .nil)))) (.cons (.ret (.var 1)) .nil)))⟩
noncomputable def nZ:List (PySem.Str×Nat):=[("counts",0),("found",1),("code",2),("length",3),("shorter",4)]
noncomputable def pE:Fn:=⟨1,[],(.cons (.asg 1 (.call 4 (.cons (.call 0 (.cons (.var 0) (.cons (.call 3 (.cons (.var 0) .nil)) .nil))) .nil))) (.cons (.asg 2 (.list .nil)) (.cons (.for_ (.v 3) .val (.var 0) (.cons (.ite (.cmp .eq (.var 3) (.cint 0)) (.cons (.ex (.app (.var 2) (.cint 0))) .nil) (.cons (.ex (.app (.var 2) (.idx (.var 1) (.var 3)))) (.cons (.augI (.var 1) (.var 3) .add (.cint 1)) .nil))) .nil)) (.cons (.ret (.var 2)) .nil))))⟩
noncomputable def sQ:List (PySem.Str×Nat):=[("lengths",0),("following",1),("codes",2),("length",3)]
noncomputable def wH:Fn:=⟨2,[],(.cons (.asg 2 (.cint 0)) (.cons (.for_ (.v 3) .val (.bi .range (.cons (.var 1) .nil)) (.cons (.asg 2 (.bin .or (.bin .shl (.var 2) (.cint 1)) (.bin .and (.bin .shr (.var 0) (.var 3)) (.cint 1)))) .nil)) (.cons (.ret (.var 2)) .nil)))⟩
noncomputable def zb:List (PySem.Str×Nat):=[("code",0),("count",1),("found",2),("lap",3)]
noncomputable def pz:Fn:=⟨1,[],(.cons (.asg 1 (.call 0 (.cons (.var 0) (.cons (.call 3 (.cons (.var 0) .nil)) .nil)))) (.cons (.asgT [2,3] (.tup (.cons (.bin .mul (.list (.cons (.cint 0) .nil)) (.bi .len (.cons (.var 1) .nil))) (.cons (.cint 0) .nil)))) (.cons (.for_ (.v 4) .val (.bi .range (.cons (.cint 1) (.cons (.bi .len (.cons (.var 1) .nil)) .nil))) (.cons (.asgI (.var 2) (.var 4) (.var 3)) (.cons (.augV 3 .add (.idx (.var 1) (.var 4))) .nil))) (.cons (.asg 5 (.bin .mul (.list (.cons (.cint 0) .nil)) (.var 3))) (.cons (.for_ (.t [6,4]) .enum (.var 0) (.cons (.ite (.cmp .gt (.var 4) (.cint 0)) (.cons (.asgI (.var 5) (.idx (.var 2) (.var 4)) (.var 6)) (.cons (.augI (.var 2) (.var 4) .add (.cint 1)) .nil)) .nil) .nil)) (.cons (.ret (.var 5)) .nil))))))⟩
noncomputable def td:List (PySem.Str×Nat):=[("lengths",0),("counts",1),("places",2),("used",3),("length",4),("found",5),("symbol",6)]
noncomputable def fe:Fn:=⟨4,[.int 15,.bool false],(.cons (.ex (.call 2 (.cons (.var 1) (.cons (.var 2) (.cons (.var 3) .nil))))) (.cons (.asgA (.var 0) 2 (.call 3 (.cons (.var 1) .nil))) (.cons (.asgA (.var 0) 3 (.call 0 (.cons (.var 1) (.cons (.attr (.var 0) 2) .nil)))) (.cons (.asgA (.var 0) 4 (.call 7 (.cons (.var 1) .nil))) .nil))))⟩
noncomputable def iz:List (PySem.Str×Nat):=[("self",0),("lengths",1),("longest",2),("lone",3)]
noncomputable def fi:Fn:=⟨2,[],(.cons (.asgT [2,3,4] (.tup (.cons (.cint 0) (.cons (.cint 0) (.cons (.cint 0) .nil))))) (.cons (.for_ (.v 5) .val (.bi .range (.cons (.cint 1) (.cons (.bin .add (.attr (.var 0) 2) (.cint 1)) .nil))) (.cons (.asg 2 (.bin .or (.bin .shl (.var 2) (.cint 1)) (.meth (.var 1) 8 .nil))) (.cons (.asg 6 (.idx (.attr (.var 0) 3) (.var 5))) (.cons (.ite (.cmp .lt (.bin .sub (.var 2) (.var 3)) (.var 6)) (.cons (.ret (.idx (.attr (.var 0) 4) (.bin .sub (.bin .add (.var 4) (.var 2)) (.var 3)))) .nil) .nil) (.cons (.augV 4 .add (.var 6)) (.cons (.asg 3 (.bin .shl (.bin .add (.var 3) (.var 6)) (.cint 1))) .nil)))))) (.cons (.raise 1 (.cstr [98,105,116,115,32,116,104,97,116,32,97,114,101,32,110,111,32,99,111,100,101])) .nil)))⟩
noncomputable def iH:List (PySem.Str×Nat):=[("self",0),("bits",1),("code",2),("first",3),("place",4),("length",5),("count",6)]
noncomputable def fV:Fn:=⟨5,[.int 9,.int 15,.bool false],(.cons (.ex (.call 2 (.cons (.var 1) (.cons (.var 3) (.cons (.var 4) .nil))))) (.cons (.ite (.cmp .lt (.var 2) (.cint 1)) (.cons .bad .nil) .nil) (.cons (.asgA (.var 0) 2 (.call 3 (.cons (.var 1) .nil))) (.cons (.asgA (.var 0) 5 (.bi .max (.cons (.cint 1) (.cons (.bi .min (.cons (.var 2) (.cons (.attr (.var 0) 2) .nil))) .nil)))) (.cons (.asgA (.var 0) 4 (.bin .mul (.list (.cons (.neg (.cint 1)) .nil)) (.bin .shl (.cint 1) (.attr (.var 0) 5)))) (.cons (.asgA (.var 0) 6 (.bin .mul (.list (.cons (.cint 0) .nil)) (.bin .shl (.cint 1) (.attr (.var 0) 5)))) (.cons (.asgA (.var 0) 7 .dct0) (.cons (.asg 5 (.call 5 (.cons (.var 1) .nil))) (.cons (.for_ (.v 6) .val (.call 7 (.cons (.var 1) .nil)) (.cons (.ex (.meth (.var 0) 1 (.cons (.var 6) (.cons (.call 6 (.cons (.idx (.var 5) (.var 6)) (.cons (.idx (.var 1) (.var 6)) .nil))) (.cons (.idx (.var 1) (.var 6)) .nil))))) .nil)) (.cons (.for_ (.v 7) .val (.bi .sorted (.cons (.attr (.var 0) 7) .nil)) (.cons (.asgI (.attr (.var 0) 7) (.var 7) (.new 2 (.cons (.idx (.attr (.var 0) 7) (.var 7)) (.cons (.attr (.var 0) 5) .nil)))) .nil)) .nil))))))))))⟩
noncomputable def jA:List (PySem.Str×Nat):=[("self",0),("lengths",1),("root",2),("longest",3),("lone",4),("codes",5),("symbol",6),("start",7)]
noncomputable def dh:Fn:=⟨4,[], (.cons (.ite (.cmp .gt (.var 3) (.attr (.var 0) 5)) (.cons (.asg 4 (.bin .and (.var 2) (.bin .sub (.bin .shl (.cint 1) (.attr (.var 0) 5)) (.cint 1)))) (.cons (.ite (.inD false (.var 4) (.attr (.var 0) 7)) (.cons (.asgI (.attr (.var 0) 7) (.var 4) (.list .nil)) .nil) .nil) (.cons (.ex (.app (.idx (.attr (.var 0) 7) (.var 4)) (.tup (.cons (.var 1) (.cons (.var 2) (.cons (.var 3) .nil)))))) (.cons .retN .nil)))) .nil) (.cons (.for_ (.v 5) .val (.bi .range (.cons (.var 2) (.cons (.bin .shl (.cint 1) (.attr (.var 0) 5)) (.cons (.bin .shl (.cint 1) (.var 3)) .nil)))) (.cons (.asgI (.attr (.var 0) 4) (.var 5) (.var 1)) (.cons (.asgI (.attr (.var 0) 6) (.var 5) (.var 3)) .nil))) .nil))⟩
noncomputable def iX:List (PySem.Str×Nat):=[("self",0),("symbol",1),("code",2),("length",3),("start",4),("place",5)]
noncomputable def fM:Fn:=⟨2,[],(.cons (.asg 2 (.meth (.var 1) 5 (.cons (.attr (.var 0) 5) .nil))) (.cons (.asg 3 (.idx (.attr (.var 0) 6) (.var 2))) (.cons (.ite (.cmp .gt (.var 3) (.cint 0)) (.cons (.ex (.meth (.var 1) 6 (.cons (.var 3) .nil))) (.cons (.ret (.idx (.attr (.var 0) 4) (.var 2))) .nil)) .nil) (.cons (.ite (.inD false (.var 2) (.attr (.var 0) 7)) (.cons (.raise 1 (.cstr [98,105,116,115,32,116,104,97,116,32,97,114,101,32,110,111,32,99,111,100,101])) .nil) .nil) (.cons (.ret (.meth (.idx (.attr (.var 0) 7) (.var 2)) 0 (.cons (.var 1) .nil))) .nil)))))⟩
noncomputable def jw:List (PySem.Str×Nat):=[("self",0),("bits",1),("place",2),("size",3)]
noncomputable def fR:Fn:=⟨3,[],(.cons (.asgA (.var 0) 5 (.var 2)) (.cons (.asgA (.var 0) 8 (.bin .sub (.call 3 (.cons (.comp (.var 9) (.t [7,8,9]) .val (.var 1)) .nil)) (.var 2))) (.cons (.asgA (.var 0) 4 (.bin .mul (.list (.cons (.neg (.cint 1)) .nil)) (.bin .shl (.cint 1) (.attr (.var 0) 8)))) (.cons (.asgA (.var 0) 6 (.bin .mul (.list (.cons (.cint 0) .nil)) (.bin .shl (.cint 1) (.attr (.var 0) 8)))) (.cons (.for_ (.t [3,4,5]) .val (.var 1) (.cons (.for_ (.v 6) .val (.bi .range (.cons (.bin .shr (.var 4) (.var 2)) (.cons (.bin .shl (.cint 1) (.attr (.var 0) 8)) (.cons (.bin .shl (.cint 1) (.bin .sub (.var 5) (.var 2))) .nil)))) (.cons (.asgI (.attr (.var 0) 4) (.var 6) (.var 3)) (.cons (.asgI (.attr (.var 0) 6) (.var 6) (.var 5)) .nil))) .nil)) .nil)))))⟩
noncomputable def jq:List (PySem.Str×Nat):=[("self",0),("rows",1),("root",2),("symbol",3),("code",4),("length",5),("place",6)]
noncomputable def fT:Fn:=⟨2,[],(.cons (.asg 2 (.bin .shr (.meth (.var 1) 5 (.cons (.bin .add (.attr (.var 0) 5) (.attr (.var 0) 8)) .nil)) (.attr (.var 0) 5))) (.cons (.ex (.meth (.var 1) 6 (.cons (.idx (.attr (.var 0) 6) (.var 2)) .nil))) (.cons (.ret (.idx (.attr (.var 0) 4) (.var 2))) .nil)))⟩
noncomputable def jp:List (PySem.Str×Nat):=[("self",0),("bits",1),("place",2)]
noncomputable def fh:Fn:=⟨2,[],(.cons (.asgA (.var 0) 0 (.bi .list (.cons (.var 1) .nil))) (.cons (.asgA (.var 0) 1 (.call 5 (.cons (.var 1) .nil))) .nil))⟩
noncomputable def iG:List (PySem.Str×Nat):=[("self",0),("lengths",1)]
noncomputable def fb:Fn:=⟨2,[], (.cons (.ite (.or (.not (.chain2 .le .lt (.cint 0) (.var 1) (.bi .len (.cons (.attr (.var 0) 0) .nil)))) (.cons (.cmp .eq (.idx (.attr (.var 0) 0) (.var 1)) (.cint 0)) .nil)) (.cons (.ret .cnone) .nil) .nil) (.cons (.ret (.idx (.attr (.var 0) 0) (.var 1))) .nil))⟩
noncomputable def iN:List (PySem.Str×Nat):=[("self",0),("symbol",1)]
noncomputable def cU:Fn:=⟨3,[], (.cons (.ite (.isN (.meth (.var 0) 2 (.cons (.var 2) .nil))) (.cons (.raise 1 (.fs (.var 2))) .nil) .nil) (.cons (.ex (.meth (.var 1) 10 (.cons (.idx (.attr (.var 0) 1) (.var 2)) (.cons (.idx (.attr (.var 0) 0) (.var 2)) .nil)))) .nil))⟩
noncomputable def ic:List (PySem.Str×Nat):=[("self",0),("writer",1),("symbol",2)]
noncomputable def j7:Fn:=⟨1,[],(.cons (.asg 1 (.list .nil)) (.cons (.for_ (.t [2,3]) .enum (.var 0) (.cons (.ite (.cmp .lt (.var 3) (.cint 0)) (.cons .bad .nil) .nil) (.cons (.ite (.cmp .gt (.var 3) (.cint 0)) (.cons (.ex (.app (.var 1) (.tup (.cons (.var 3) (.cons (.var 2) .nil))))) .nil) .nil) .nil))) (.cons (.ret (.bi .sorted (.cons (.var 1) .nil))) .nil)))⟩
noncomputable def mA:List (PySem.Str×Nat):=[("counts",0),("found",1),("symbol",2),("count",3)]
noncomputable def mY:Fn:=⟨2,[],(.cons (.asg 2 (.cint 0)) (.cons (.for_ (.t [3,4]) .enum (.var 0) (.cons (.ite (.cmp .gt (.var 4) (.cint 0)) (.cons (.ite (.or (.cmp .ge (.var 3) (.bi .len (.cons (.var 1) .nil))) (.cons (.cmp .eq (.idx (.var 1) (.var 3)) (.cint 0)) .nil)) (.cons .bad .nil) .nil) (.cons (.augV 2 .add (.bin .mul (.var 4) (.idx (.var 1) (.var 3)))) .nil)) .nil) .nil)) (.cons (.ret (.var 2)) .nil)))⟩
noncomputable def p_:List (PySem.Str×Nat):=[("counts",0),("lengths",1),("found",2),("symbol",3),("count",4)]
noncomputable def yi:Fn:=⟨3,[],(.cons (.asg 3 (.bin .mul (.list (.cons (.cint 0) .nil)) (.var 0))) (.cons (.for_ (.t [4,5]) .enum (.var 2) (.cons (.asgI (.var 3) (.idx (.idx (.var 1) (.var 4)) (.cint 1)) (.var 5)) .nil)) (.cons (.ret (.var 3)) .nil)))⟩
noncomputable def yw:List (PySem.Str×Nat):=[("size",0),("rows",1),("depths",2),("found",3),("place",4),("depth",5)]
noncomputable def mG:Fn:=⟨2,[], (.cons (.ite (.or (.and (.cmp .gt (.var 0) (.cint 0)) (.cons (.cmp .lt (.var 1) (.cint 1)) .nil)) (.cons (.cmp .gt (.var 0) (.bin .shl (.cint 1) (.bi .max (.cons (.cint 0) (.cons (.var 1) .nil))))) .nil)) (.cons .bad .nil) .nil) .nil)⟩
noncomputable def qj:List (PySem.Str×Nat):=[("many",0),("longest",1)]
noncomputable def yZ:Fn:=⟨2,[],(.cons (.asgT [2,3,4,5] (.tup (.cons (.list .nil) (.cons (.list .nil) (.cons (.cint 0) (.cons (.cint 0) .nil)))))) (.cons (.whl (.or (.cmp .lt (.var 4) (.bi .len (.cons (.var 0) .nil))) (.cons (.cmp .lt (.var 5) (.bi .len (.cons (.var 1) .nil))) .nil)) (.cons (.asg 6 (.or (.cmp .eq (.var 5) (.bi .len (.cons (.var 1) .nil))) (.cons (.and (.cmp .lt (.var 4) (.bi .len (.cons (.var 0) .nil))) (.cons (.cmp .le (.idx (.var 0) (.var 4)) (.idx (.var 1) (.var 5))) .nil)) .nil))) (.cons (.ex (.app (.var 3) (.var 6))) (.cons (.ite (.var 6) (.cons (.ex (.app (.var 2) (.idx (.var 0) (.var 4)))) (.cons (.augV 4 .add (.cint 1)) .nil)) (.cons (.ex (.app (.var 2) (.idx (.var 1) (.var 5)))) (.cons (.augV 5 .add (.cint 1)) .nil))) .nil)))) (.cons (.ret (.tup (.cons (.var 2) (.cons (.var 3) .nil)))) .nil)))⟩
noncomputable def ym:List (PySem.Str×Nat):=[("weights",0),("pairs",1),("row",2),("leaves",3),("leaf",4),("pair",5),("is_leaf",6)]
noncomputable def gQ:Fn:=⟨2,[],(.cons (.asgT [2,3] (.tup (.cons (.list .nil) (.cons (.list .nil) .nil)))) (.cons (.for_ (.v 4) .val (.bi .range (.cons (.var 1) .nil)) (.cons (.asg 5 (.comp (.bin .add (.idx (.var 3) (.var 12)) (.idx (.var 3) (.bin .add (.var 12) (.cint 1)))) (.v 12) .val (.bi .range (.cons (.cint 0) (.cons (.bin .sub (.bi .len (.cons (.var 3) .nil)) (.cint 1)) (.cons (.cint 2) .nil)))))) (.cons (.asgT [3,6] (.call 22 (.cons (.var 0) (.cons (.var 5) .nil)))) (.cons (.ex (.app (.var 2) (.var 6))) .nil)))) (.cons (.asgT [7,8] (.tup (.cons (.bin .mul (.list (.cons (.cint 0) .nil)) (.bi .len (.cons (.var 0) .nil))) (.cons (.bin .sub (.bin .mul (.cint 2) (.bi .len (.cons (.var 0) .nil))) (.cint 2)) .nil)))) (.cons (.for_ (.v 6) .rev (.var 2) (.cons (.asg 9 (.cint 0)) (.cons (.for_ (.v 10) .val (.slHi (.var 6) (.var 8)) (.cons (.augV 9 .add (.bi .int (.cons (.var 10) .nil))) .nil)) (.cons (.for_ (.v 11) .val (.bi .range (.cons (.var 9) .nil)) (.cons (.augI (.var 7) (.var 11) .add (.cint 1)) .nil)) (.cons (.asg 8 (.bin .mul (.cint 2) (.bin .sub (.var 8) (.var 9)))) .nil))))) (.cons (.ret (.var 7)) .nil)))))⟩
noncomputable def k8:List (PySem.Str×Nat):=[("weights",0),("longest",1),("rows",2),("row",3),("lap",4),("pairs",5),("leaves",6),("depths",7),("wanted",8),("taken",9),("is_leaf",10),("place",11)]
noncomputable def ja:Fn:=⟨2,[],(.cons (.asg 2 (.call 18 (.cons (.var 0) .nil))) (.cons (.ex (.call 21 (.cons (.bi .len (.cons (.var 2) .nil)) (.cons (.var 1) .nil)))) (.cons (.ite (.cmp .lt (.bi .len (.cons (.var 2) .nil)) (.cint 2)) (.cons (.ret (.call 20 (.cons (.bi .len (.cons (.var 0) .nil)) (.cons (.var 2) (.cons (.bin .mul (.list (.cons (.cint 1) .nil)) (.bi .len (.cons (.var 2) .nil))) .nil))))) .nil) .nil) (.cons (.ret (.call 20 (.cons (.bi .len (.cons (.var 0) .nil)) (.cons (.var 2) (.cons (.call 23 (.cons (.comp (.var 3) (.t [3,4]) .val (.var 2)) (.cons (.var 1) .nil))) .nil))))) .nil))))⟩
noncomputable def me:List (PySem.Str×Nat):=[("counts",0),("longest",1),("rows",2)]
noncomputable def mK:Fn:=⟨1,[], (.cons (.ite (.or (.not (.bi .isInt (.cons (.var 0) .nil))) (.cons (.bi .isBool (.cons (.var 0) .nil)) (.cons (.cmp .lt (.var 0) (.cint 0)) .nil))) (.cons .bad .nil) .nil) .nil)⟩
noncomputable def pU:List (PySem.Str×Nat):=[("count",0)]
noncomputable def mP:Fn:=⟨2,[],(.cons (.ex (.call 25 (.cons (.var 1) .nil))) (.cons (.ite (.or (.not (.bi .isInt (.cons (.var 0) .nil))) (.cons (.cmp .lt (.var 0) (.cint 0)) (.cons (.cmp .ne (.bin .shr (.var 0) (.var 1)) (.cint 0)) .nil))) (.cons .bad .nil) .nil) .nil))⟩
noncomputable def pW:List (PySem.Str×Nat):=[("value",0),("size",1)]
noncomputable def zh:Fn:=⟨3,[],(.cons (.asg 3 (.ite (.isN (.var 2)) (.bi .len (.cons (.var 0) .nil)) (.var 2))) (.cons (.ite (.not (.chain3 .le .le .le (.cint 0) (.var 1) (.var 3) (.bi .len (.cons (.var 0) .nil)))) (.cons .bad .nil) .nil) (.cons (.ret (.var 3)) .nil)))⟩
noncomputable def xq:List (PySem.Str×Nat):=[("octets",0),("start",1),("end",2),("stop",3)]
noncomputable def rB:Fn:=⟨4,[],(.cons (.asgT [4,5,6,7] (.tup (.cons (.cint 0) (.cons (.cint 0) (.cons (.bin .shr (.var 1) (.cint 3)) (.cons (.bin .and (.var 1) (.cint 7)) .nil)))))) (.cons (.whl (.and (.cmp .lt (.var 5) (.var 2)) (.cons (.cmp .lt (.var 6) (.var 3)) .nil)) (.cons (.augV 4 .or (.bin .shl (.bin .shr (.idx (.var 0) (.var 6)) (.var 7)) (.var 5))) (.cons (.augV 5 .add (.bin .sub (.cint 8) (.var 7))) (.cons (.augV 6 .add (.cint 1)) (.cons (.asg 7 (.cint 0)) .nil))))) (.cons (.ret (.bin .and (.var 4) (.bin .sub (.bin .shl (.cint 1) (.var 2)) (.cint 1)))) .nil)))⟩
noncomputable def tm:List (PySem.Str×Nat):=[("octets",0),("low",1),("count",2),("stop",3),("value",4),("got",5),("place",6),("inside",7)]
noncomputable def a9:Fn:=⟨4,[.int 0,.none],(.cons (.asgA (.var 0) 9 (.bi .bytes (.cons (.var 1) .nil))) (.cons (.asgA (.var 0) 10 (.call 27 (.cons (.attr (.var 0) 9) (.cons (.var 2) (.cons (.var 3) .nil))))) (.cons (.asgA (.var 0) 11 (.bin .mul (.cint 8) (.var 2))) .nil)))⟩
noncomputable def kP:List (PySem.Str×Nat):=[("self",0),("octets",1),("start",2),("end",3)]
noncomputable def hG:Fn:=⟨1,[],(.cons (.ret (.bin .sub (.bin .mul (.cint 8) (.attr (.var 0) 10)) (.attr (.var 0) 11))) .nil)⟩
noncomputable def kL:List (PySem.Str×Nat):=[("self",0)]
noncomputable def ip:Fn:=⟨2,[],(.cons (.ex (.call 25 (.cons (.var 1) .nil))) (.cons (.ret (.call 28 (.cons (.attr (.var 0) 9) (.cons (.attr (.var 0) 11) (.cons (.var 1) (.cons (.attr (.var 0) 10) .nil)))))) .nil))⟩
noncomputable def kJ:List (PySem.Str×Nat):=[("self",0),("count",1)]
noncomputable def hM:Fn:=⟨2,[],(.cons (.ex (.call 25 (.cons (.var 1) .nil))) (.cons (.ite (.cmp .gt (.var 1) (.meth (.var 0) 4 .nil)) (.cons (.raise 0 (.cstr [98,105,116,115])) .nil) .nil) (.cons (.augA (.var 0) 11 .add (.var 1)) .nil)))⟩
noncomputable def k9:List (PySem.Str×Nat):=[("self",0),("count",1)]
noncomputable def ib:Fn:=⟨2,[],(.cons (.asg 2 (.meth (.var 0) 5 (.cons (.var 1) .nil))) (.cons (.ex (.meth (.var 0) 6 (.cons (.var 1) .nil))) (.cons (.ret (.var 2)) .nil)))⟩
noncomputable def kI:List (PySem.Str×Nat):=[("self",0),("count",1),("value",2)]
noncomputable def jn:Fn:=⟨1,[],(.cons (.ret (.meth (.var 0) 7 (.cons (.cint 1) .nil))) .nil)⟩
noncomputable def lP:List (PySem.Str×Nat):=[("self",0)]
noncomputable def gw:Fn:=⟨1,[],(.cons (.ret (.bin .shr (.bin .add (.attr (.var 0) 11) (.cint 7)) (.cint 3))) .nil)⟩
noncomputable def jM:List (PySem.Str×Nat):=[("self",0)]
noncomputable def h_:Fn:=⟨1,[],(.cons (.asgA (.var 0) 12 (.bi .bytearray .nil)) (.cons (.asgA (.var 0) 13 (.cint 0)) (.cons (.asgA (.var 0) 14 (.cint 0)) .nil)))⟩
noncomputable def kY:List (PySem.Str×Nat):=[("self",0)]
noncomputable def gZ:Fn:=⟨3,[],(.cons (.ex (.call 26 (.cons (.var 1) (.cons (.var 2) .nil)))) (.cons (.augA (.var 0) 13 .or (.bin .shl (.var 1) (.attr (.var 0) 14))) (.cons (.augA (.var 0) 14 .add (.var 2)) (.cons (.whl (.cmp .ge (.attr (.var 0) 14) (.cint 8)) (.cons (.ex (.app (.attr (.var 0) 12) (.bin .and (.attr (.var 0) 13) (.cint 255)))) (.cons (.augA (.var 0) 13 .shr (.cint 8)) (.cons (.augA (.var 0) 14 .sub (.cint 8)) .nil)))) .nil))))⟩
noncomputable def kK:List (PySem.Str×Nat):=[("self",0),("value",1),("count",2)]
noncomputable def gU:Fn:=⟨3,[],(.cons (.ex (.call 26 (.cons (.var 1) (.cons (.var 2) .nil)))) (.cons (.asg 3 (.cint 0)) (.cons (.for_ (.v 4) .val (.bi .range (.cons (.var 2) .nil)) (.cons (.asg 3 (.bin .or (.bin .shl (.var 3) (.cint 1)) (.bin .and (.bin .shr (.var 1) (.var 4)) (.cint 1)))) .nil)) (.cons (.ex (.meth (.var 0) 7 (.cons (.var 3) (.cons (.var 2) .nil)))) .nil))))⟩
noncomputable def kR:List (PySem.Str×Nat):=[("self",0),("code",1),("count",2),("turned",3),("place",4)]
noncomputable def ik:Fn:=⟨1,[],(.cons (.ret (.bin .add (.bin .mul (.cint 8) (.bi .len (.cons (.attr (.var 0) 12) .nil))) (.attr (.var 0) 14))) .nil)⟩
noncomputable def k_:List (PySem.Str×Nat):=[("self",0)]
noncomputable def iu:Fn:=⟨1,[],(.cons (.asg 1 (.ite (.cmp .gt (.attr (.var 0) 14) (.cint 0)) (.list (.cons (.attr (.var 0) 13) .nil)) (.list .nil))) (.cons (.ret (.bin .add (.bi .bytes (.cons (.attr (.var 0) 12) .nil)) (.bi .bytes (.cons (.var 1) .nil)))) .nil))⟩
noncomputable def lb:List (PySem.Str×Nat):=[("self",0),("rest",1)]
noncomputable def qO:Fn:=⟨1,[],(.cons (.asg 1 (.cint 0)) (.cons (.for_ (.v 2) .val (.slHi (.var 0) (.cint 24)) (.cons (.asg 1 (.bin .mod (.bin .add (.bin .add (.bin .mul (.var 1) (.cint 1009)) (.bin .mul (.cint 2) (.bi .abs (.cons (.var 2) .nil)))) (.bi .int (.cons (.cmp .lt (.var 2) (.cint 0)) .nil))) (.bin .pow (.cint 10) (.cint 70)))) .nil)) (.cons (.ret (.list (.cons (.var 1) (.cons (.cint 0) .nil)))) .nil)))⟩
noncomputable def tR:List (PySem.Str×Nat):=[("script",0),("whole",1),("cell",2)]
noncomputable def sH:Fn:=⟨2,[], (.cons (.ite (.cmp .gt (.idx (.var 0) (.cint 0)) (.cint 0)) (.cons (.asg 2 (.bin .mod (.idx (.var 0) (.cint 0)) (.var 1))) (.cons (.asgI (.var 0) (.cint 0) (.bin .fdiv (.idx (.var 0) (.cint 0)) (.var 1))) (.cons (.ret (.var 2)) .nil))) .nil) (.cons (.augI (.var 0) (.cint 1) .add (.cint 1)) (.cons (.ret (.bin .mod (.bin .add (.bin .mul (.cint 7) (.idx (.var 0) (.cint 1))) (.cint 3)) (.var 1))) .nil)))⟩
noncomputable def tU:List (PySem.Str×Nat):=[("pool",0),("many",1),("digit",2)]
noncomputable def lp:Fn:=⟨2,[],(.cons (.asgT [2,3] (.tup (.cons (.bin .add (.cint 2) (.call 42 (.cons (.var 0) (.cons (.ite (.var 1) (.cint 11) (.cint 4)) .nil)))) (.cons (.bin .add (.cint 1) (.call 42 (.cons (.var 0) (.cons (.cint 6) .nil)))) .nil)))) (.cons (.asg 4 (.list (.cons (.tup (.cons (.cstr [111,110,101]) (.cons (.call 42 (.cons (.var 0) (.cons (.var 3) .nil))) (.cons (.cint 0) .nil)))) .nil))) (.cons (.for_ (.v 5) .val (.bi .range (.cons (.bin .sub (.var 2) (.cint 1)) .nil)) (.cons (.asg 6 (.call 42 (.cons (.var 0) (.cons (.cint 4) .nil)))) (.cons (.ite (.cmp .lt (.var 6) (.cint 2)) (.cons (.ex (.app (.var 4) (.tup (.cons (.cstr [111,110,101]) (.cons (.call 42 (.cons (.var 0) (.cons (.var 3) .nil))) (.cons (.cint 0) .nil)))))) .nil) (.cons (.ite (.cmp .eq (.var 6) (.cint 2)) (.cons (.ex (.app (.var 4) (.tup (.cons (.cstr [116,119,111]) (.cons (.call 42 (.cons (.var 0) (.cons (.cint 3) .nil))) (.cons (.cint 0) .nil)))))) .nil) (.cons (.asg 7 (.idx (.list (.cons (.cint 0) (.cons (.cint 1) (.cons (.cint 3) (.cons (.cint 7) (.cons (.cint 13) .nil)))))) (.call 42 (.cons (.var 0) (.cons (.cint 5) .nil))))) (.cons (.ex (.app (.var 4) (.tup (.cons (.cstr [114,97,119]) (.cons (.call 42 (.cons (.var 0) (.cons (.bin .shl (.cint 1) (.var 7)) .nil))) (.cons (.var 7) .nil)))))) .nil))) .nil)) .nil))) (.cons (.ret (.tup (.cons (.var 4) (.cons (.var 3) .nil)))) .nil))))⟩
noncomputable def nX:List (PySem.Str×Nat):=[("pool",0),("wide",1),("many",2),("size",3),("items",4),("k",5),("way",6),("count",7)]
noncomputable def o_:Fn:=⟨2,[], (.cons (.ite (.cmp .lt (.bi .len (.cons (.var 0) .nil)) (.cint 2)) (.cons (.ret (.bi .sum (.cons (.var 0) .nil))) .nil) .nil) (.cons (.asg 2 (.bin .shl (.cint 1) (.var 1))) (.cons (.asg 3 (.dct1 0 (.cint 0))) (.cons (.for_ (.v 4) .val (.var 0) (.cons (.asg 5 .dct0) (.cons (.for_ (.v 6) .val (.var 3) (.cons (.for_ (.v 7) .val (.bi .range (.cons (.cint 1) (.cons (.bin .add (.var 1) (.cint 1)) .nil))) (.cons (.asgT [8,9] (.tup (.cons (.bin .add (.var 6) (.bin .shl (.cint 1) (.bin .sub (.var 1) (.var 7)))) (.cons (.bin .add (.idx (.var 3) (.var 6)) (.bin .mul (.var 4) (.var 7))) .nil)))) (.cons (.ite (.and (.cmp .le (.var 8) (.var 2)) (.cons (.or (.inD false (.var 8) (.var 5)) (.cons (.cmp .lt (.var 9) (.idx (.var 5) (.var 8))) .nil)) .nil)) (.cons (.asgI (.var 5) (.var 8) (.var 9)) .nil) .nil) .nil))) .nil)) (.cons (.asg 3 (.var 5)) .nil)))) (.cons (.ret (.bi .min (.cons (.comp (.idx (.var 3) (.var 10)) (.v 10) .val (.var 3)) .nil))) .nil)))))⟩
noncomputable def sg:List (PySem.Str×Nat):=[("used",0),("longest",1),("room",2),("best",3),("count",4),("later",5),("spent",6),("length",7),("there",8),("total",9)]
noncomputable def pJ:Fn:=⟨1,[],(.cons (.asg 1 (.bi .max (.cons (.bin .add (.var 0) (.list (.cons (.cint 1) .nil))) .nil))) (.cons (.asgT [2,3] (.tup (.cons .dct0 (.cons (.cint 0) .nil)))) (.cons (.for_ (.t [4,5]) .val (.bi .sorted (.cons (.compIf (.tup (.cons (.var 8) (.cons (.var 7) .nil))) (.t [7,8]) .enum (.var 0) (.cmp .gt (.var 8) (.cint 0))) .nil)) (.cons (.asg 6 (.bin .shr (.var 3) (.bin .sub (.var 1) (.var 4)))) (.cons (.asgI (.var 2) (.var 5) (.join (.cstr []) (.comp (.bi .str (.cons (.bin .and (.bin .shr (.var 6) (.bin .sub (.bin .sub (.var 4) (.cint 1)) (.var 9))) (.cint 1)) .nil)) (.v 9) .val (.bi .range (.cons (.var 4) .nil))))) (.cons (.augV 3 .add (.bin .shl (.cint 1) (.bin .sub (.var 1) (.var 4)))) .nil)))) (.cons (.ret (.var 2)) .nil))))⟩
noncomputable def sz:List (PySem.Str×Nat):=[("lengths",0),("most",1),("found",2),("spent",3),("length",4),("symbol",5),("place",6)]
noncomputable def sG:Fn:=⟨2,[],(.cons (.asg 2 (.list .nil)) (.cons (.for_ (.t [3,4,5]) .val (.var 0) (.cons (.ite (.cmp .eq (.var 3) (.cstr [114,97,119])) (.cons (.ex (.app (.var 2) (.join (.cstr []) (.comp (.bi .str (.cons (.bin .and (.bin .shr (.var 4) (.var 6)) (.cint 1)) .nil)) (.v 6) .val (.bi .range (.cons (.var 5) .nil)))))) .nil) (.cons (.ex (.app (.var 2) (.idx (.idx (.var 1) (.var 3)) (.var 4)))) .nil)) .nil)) (.cons (.ret (.join (.cstr []) (.var 2))) .nil)))⟩
noncomputable def tz:List (PySem.Str×Nat):=[("items",0),("codes",1),("found",2),("kind",3),("value",4),("count",5)]
noncomputable def mE:Fn:=⟨1,[],(.cons (.asg 1 (.bin .add (.var 0) (.bin .mul (.cstr [48]) (.bin .mod (.neg (.bi .len (.cons (.var 0) .nil))) (.cint 8))))) (.cons (.ret (.bi .bytes (.cons (.comp (.bi .int2 (.cons (.slRev (.slB (.var 1) (.var 2) (.bin .add (.var 2) (.cint 8)))) (.cons (.cint 2) .nil))) (.v 2) .val (.bi .range (.cons (.cint 0) (.cons (.bi .len (.cons (.var 1) .nil)) (.cons (.cint 8) .nil))))) .nil))) .nil))⟩
noncomputable def pS:List (PySem.Str×Nat):=[("text",0),("full",1)]
noncomputable def o6:Fn:=⟨1,[],(.cons (.ret (.join (.cstr []) (.comp (.join (.cstr []) (.comp (.bi .str (.cons (.bin .and (.bin .shr (.var 1) (.var 2)) (.cint 1)) .nil)) (.v 2) .val (.bi .range (.cons (.cint 8) .nil)))) (.v 1) .val (.var 0)))) .nil)⟩
noncomputable def sU:List (PySem.Str×Nat):=[("octets",0)]
noncomputable def pO:Fn:=⟨3,[],(.cons (.asgT [3,4] (.tup (.cons (.list .nil) (.cons (.cint 0) .nil)))) (.cons (.for_ (.t [5,6,7]) .val (.var 0) (.cons (.asg 8 (.slLo (.var 2) (.var 4))) (.cons (.ite (.cmp .eq (.var 5) (.cstr [114,97,119])) (.cons (.ite (.cmp .lt (.bi .len (.cons (.var 8) .nil)) (.var 7)) (.cons (.ret (.tup (.cons (.var 3) (.cons (.cstr [99,117,116]) .nil)))) .nil) .nil) (.cons (.ex (.app (.var 3) (.bi .sum (.cons (.compIf (.bin .shl (.cint 1) (.var 13)) (.v 13) .val (.bi .range (.cons (.var 7) .nil)) (.cmp .eq (.idx (.var 8) (.var 13)) (.cstr [49]))) .nil)))) (.cons (.augV 4 .add (.var 7)) (.cons .cont .nil)))) .nil) (.cons (.asg 9 (.compIf (.var 12) (.v 12) .val (.idx (.var 1) (.var 5)) (.cmp .eq (.slHi (.var 8) (.bi .len (.cons (.idx (.idx (.var 1) (.var 5)) (.var 12)) .nil))) (.idx (.idx (.var 1) (.var 5)) (.var 12))))) (.cons (.ite (.cmp .eq (.var 9) (.list .nil)) (.cons (.asg 10 (.compIf (.var 11) (.v 11) .val (.idx (.var 1) (.var 5)) (.cmp .eq (.slHi (.idx (.idx (.var 1) (.var 5)) (.var 11)) (.bi .len (.cons (.var 8) .nil))) (.var 8)))) (.cons (.ret (.tup (.cons (.var 3) (.cons (.ite (.cmp .ne (.var 10) (.list .nil)) (.cstr [99,117,116]) (.cstr [98,97,100])) .nil)))) .nil)) .nil) (.cons (.ex (.app (.var 3) (.idx (.var 9) (.cint 0)))) (.cons (.augV 4 .add (.bi .len (.cons (.idx (.idx (.var 1) (.var 5)) (.idx (.var 9) (.cint 0))) .nil))) .nil))))))) (.cons (.ret (.tup (.cons (.var 3) (.cons (.cstr [111,110]) .nil)))) .nil)))⟩
noncomputable def sT:List (PySem.Str×Nat):=[("items",0),("codes",1),("text",2),("found",3),("place",4),("kind",5),("value",6),("count",7),("rest",8),("begun",9),("ahead",10)]
noncomputable def s_:Fn:=⟨3,[],(.cons (.asg 3 (.list .nil)) (.cons (.for_ (.t [4,5,6]) .val (.var 0) (.cons (.try2 (.cons (.ex (.app (.var 3) (.ite (.cmp .eq (.var 4) (.cstr [114,97,119])) (.meth (.var 2) 7 (.cons (.var 6) .nil)) (.meth (.idx (.var 1) (.var 4)) 0 (.cons (.var 2) .nil))))) .nil) 0 (.cons (.ret (.tup (.cons (.var 3) (.cons (.cstr [99,117,116]) .nil)))) .nil) 1 (.cons (.ret (.tup (.cons (.var 3) (.cons (.cstr [98,97,100]) .nil)))) .nil)) .nil)) (.cons (.ret (.tup (.cons (.var 3) (.cons (.cstr [111,110]) .nil)))) .nil)))⟩
noncomputable def tI:List (PySem.Str×Nat):=[("items",0),("readers",1),("stream",2),("found",3),("kind",4),("value",5),("count",6)]
noncomputable def ji:Fn:=⟨3,[],(.cons (.asg 3 (.meth (.var 1) 11 .nil)) (.cons (.try1 (.cons (.ex (.meth (.var 0) 3 (.cons (.var 1) (.cons (.var 2) .nil)))) .nil) 1 (.cons (.ret (.and (.cmp .eq (.meth (.var 1) 11 .nil) (.var 3)) (.cons (.isN (.meth (.var 0) 2 (.cons (.var 2) .nil))) .nil))) .nil)) (.cons (.ret (.cbool false)) .nil)))⟩
noncomputable def mh:List (PySem.Str×Nat):=[("own",0),("writer",1),("symbol",2),("before",3)]
noncomputable def ls:Fn:=⟨3,[],(.cons (.asgT [3,4] (.tup (.cons (.new 5 .nil) (.cons (.cint 0) .nil)))) (.cons (.asg 5 (.dct2 [111,110,101] [116,119,111] (.new 3 (.cons (.idx (.var 1) (.cstr [111,110,101])) .nil)) (.new 3 (.cons (.idx (.var 1) (.cstr [116,119,111])) .nil)))) (.cons (.for_ (.t [6,7,8]) .val (.var 0) (.cons (.ite (.cmp .eq (.var 6) (.cstr [114,97,119])) (.cons (.ex (.meth (.var 3) 7 (.cons (.var 7) (.cons (.var 8) .nil)))) (.cons (.augV 4 .add (.var 8)) .nil)) (.cons (.ex (.meth (.idx (.var 5) (.var 6)) 3 (.cons (.var 3) (.cons (.var 7) .nil)))) (.cons (.augV 4 .add (.meth (.idx (.var 5) (.var 6)) 2 (.cons (.var 7) .nil))) .nil))) (.cons (.ite (.cmp .ne (.meth (.var 3) 11 .nil) (.var 4)) (.cons (.ret .cnone) .nil) .nil) .nil))) (.cons (.for_ (.v 6) .val (.tup (.cons (.cstr [111,110,101]) (.cons (.cstr [116,119,111]) .nil))) (.cons (.for_ (.v 9) .val (.bi .range (.cons (.bin .add (.bi .len (.cons (.idx (.var 1) (.var 6)) .nil)) (.cint 1)) .nil)) (.cons (.ite (.and (.inD false (.var 9) (.idx (.var 2) (.var 6))) (.cons (.not (.call 51 (.cons (.idx (.var 5) (.var 6)) (.cons (.var 3) (.cons (.var 9) .nil))))) .nil)) (.cons (.ret .cnone) .nil) .nil) .nil)) .nil)) (.cons (.ret (.meth (.var 3) 12 .nil)) .nil)))))⟩
noncomputable def om:List (PySem.Str×Nat):=[("items",0),("lengths",1),("codes",2),("writer",3),("done",4),("own",5),("kind",6),("value",7),("count",8),("symbol",9)]
noncomputable def ij:Fn:=⟨6,[],(.cons (.asg 6 (.bin .add (.cint 1) (.call 42 (.cons (.var 0) (.cons (.cint 4) .nil))))) (.cons (.asg 7 (.comp (.var 20) (.t [19,20,21]) .val (.var 1))) (.cons (.asg 8 (.call 42 (.cons (.var 0) (.cons (.bin .mul (.cint 8) (.bi .len (.cons (.var 4) .nil))) .nil)))) (.cons (.asg 9 (.bi .bytes (.cons (.comp (.bin .xor (.var 18) (.bin .mul (.bin .shl (.cint 1) (.bin .mod (.var 8) (.cint 8))) (.bi .int (.cons (.cmp .eq (.var 17) (.bin .fdiv (.var 8) (.cint 8))) .nil)))) (.t [17,18]) .enum (.var 4)) .nil))) (.cons (.for_ (.v 10) .val (.bi .range (.cons (.cint 2) .nil)) (.cons (.asg 11 .dct0) (.cons (.for_ (.v 12) .val (.tup (.cons (.cstr [111,110,101]) (.cons (.cstr [116,119,111]) .nil))) (.cons (.asg 13 (.idx (.var 2) (.var 12))) (.cons (.asgI (.var 11) (.var 12) (.ite (.cmp .eq (.var 10) (.cint 0)) (.new 0 (.cons (.var 13) (.cons (.cint 15) (.cons (.cbool true) .nil)))) (.new 1 (.cons (.var 13) (.cons (.var 6) (.cons (.cint 15) (.cons (.cbool true) .nil))))))) .nil))) (.cons (.asg 14 (.new 4 (.cons (.bin .add (.bi .bytes (.cons (.list (.cons (.cint 255) .nil)) .nil)) (.var 4)) (.cons (.cint 1) .nil)))) (.cons (.ite (.or (.cmp .ne (.call 50 (.cons (.var 1) (.cons (.var 11) (.cons (.var 14) .nil)))) (.tup (.cons (.var 7) (.cons (.cstr [111,110]) .nil)))) (.cons (.cmp .ne (.meth (.var 14) 9 .nil) (.bin .add (.cint 1) (.bi .len (.cons (.var 4) .nil)))) .nil)) (.cons (.ret (.cbool false)) .nil) .nil) (.cons (.for_ (.v 15) .val (.ite (.var 5) (.bi .range (.cons (.bi .len (.cons (.var 4) .nil)) .nil)) (.list (.cons (.bin .sub (.bi .len (.cons (.var 4) .nil)) (.cint 1)) .nil))) (.cons (.asg 16 (.call 49 (.cons (.var 1) (.cons (.var 3) (.cons (.call 48 (.cons (.slHi (.var 4) (.var 15)) .nil)) .nil))))) (.cons (.ite (.cmp .ne (.call 50 (.cons (.var 1) (.cons (.var 11) (.cons (.new 4 (.cons (.var 4) (.cons (.cint 0) (.cons (.var 15) .nil)))) .nil)))) (.var 16)) (.cons (.ret (.cbool false)) .nil) .nil) .nil))) (.cons (.ite (.cmp .ne (.call 50 (.cons (.var 1) (.cons (.var 11) (.cons (.new 4 (.cons (.var 9) .nil)) .nil)))) (.call 49 (.cons (.var 1) (.cons (.var 3) (.cons (.call 48 (.cons (.var 9) .nil)) .nil))))) (.cons (.ret (.cbool false)) .nil) .nil) .nil))))))) (.cons (.ret (.cbool true)) .nil))))))⟩
noncomputable def kM:List (PySem.Str×Nat):=[("pool",0),("items",1),("lengths",2),("codes",3),("octets",4),("wide",5),("bits",6),("values",7),("at",8),("torn",9),("kind",10),("readers",11),("which",12),("row",13),("stream",14),("end",15),("due",16)]
noncomputable def B8:Fn:=⟨1,[],(.cons (.asgT [1,2] (.tup (.cons (.call 41 (.cons (.var 0) .nil)) (.cons (.cmp .gt (.bi .len (.cons (.var 0) .nil)) (.cint 1)) .nil)))) (.cons (.asgT [3,4] (.call 43 (.cons (.var 1) (.cons (.var 2) .nil)))) (.cons (.asgT [5,6,7] (.tup (.cons .dct0 (.cons .dct0 (.cons (.bi .sum (.cons (.comp (.var 22) (.t [20,21,22]) .val (.var 3)) .nil)) .nil))))) (.cons (.for_ (.t [8,9]) .val (.tup (.cons (.tup (.cons (.cstr [111,110,101]) (.cons (.var 4) .nil))) (.cons (.tup (.cons (.cstr [116,119,111]) (.cons (.cint 3) .nil))) .nil))) (.cons (.asg 10 (.comp (.bi .len (.cons (.compIf (.var 19) (.v 19) .val (.var 3) (.and (.cmp .eq (.idx (.var 19) (.cint 0)) (.var 8)) (.cons (.cmp .eq (.idx (.var 19) (.cint 1)) (.var 18)) .nil))) .nil)) (.v 18) .val (.bi .range (.cons (.var 9) .nil)))) (.cons (.asg 11 (.compIf (.var 17) (.v 17) .val (.var 10) (.cmp .gt (.var 17) (.cint 0)))) (.cons (.asg 12 (.bin .add (.cint 1) (.call 42 (.cons (.var 1) (.cons (.cint 4) .nil))))) (.cons (.whl (.cmp .lt (.bin .shl (.cint 1) (.var 12)) (.bi .len (.cons (.var 11) .nil))) (.cons (.augV 12 .add (.cint 1)) .nil)) (.cons (.asgI (.var 5) (.var 8) (.bi .list (.cons (.call 24 (.cons (.var 10) (.cons (.var 12) .nil))) .nil))) (.cons (.asgI (.var 6) (.var 8) (.call 45 (.cons (.idx (.var 5) (.var 8)) .nil))) (.cons (.asg 13 (.call 44 (.cons (.var 11) (.cons (.var 12) .nil)))) (.cons (.ite (.or (.cmp .ne (.call 19 (.cons (.var 10) (.cons (.idx (.var 5) (.var 8)) .nil))) (.var 13)) (.cons (.cmp .ne (.bi .sorted (.cons (.idx (.var 6) (.var 8)) .nil)) (.compIf (.var 16) (.v 16) .val (.bi .range (.cons (.var 9) .nil)) (.cmp .gt (.idx (.var 10) (.var 16)) (.cint 0)))) .nil)) (.cons (.ret (.cbool false)) .nil) .nil) (.cons (.augV 7 .add (.var 13)) .nil)))))))))) (.cons (.asg 14 (.call 46 (.cons (.var 3) (.cons (.var 6) .nil)))) (.cons (.asg 15 (.call 52 (.cons (.var 3) (.cons (.var 5) (.cons (.var 6) .nil))))) (.cons (.ite (.or (.cmp .ne (.bi .len (.cons (.var 14) .nil)) (.var 7)) (.cons (.cmp .ne (.var 15) (.call 47 (.cons (.var 14) .nil))) .nil)) (.cons (.ret (.cbool false)) .nil) .nil) (.cons (.ret (.call 53 (.cons (.var 1) (.cons (.var 3) (.cons (.var 5) (.cons (.var 6) (.cons (.var 15) (.cons (.var 2) .nil)))))))) .nil))))))))⟩
noncomputable def DU:List (PySem.Str×Nat):=[("script",0),("pool",1),("wide",2),("items",3),("size",4),("lengths",5),("codes",6),("due",7),("kind",8),("many",9),("counts",10),("used",11),("longest",12),("whole",13),("text",14),("octets",15)]
noncomputable def DS{α:Type}:List α->Nat->Option α|[],_=>none|x::_,0=>some x|_::r,n+1=>DS r n
noncomputable def aI:Nat->Option Fn:=DS [fG,uS,iZ,gp,ly,pE,wH,pz,fe,fi,fV,dh,fM,fR,fT,fh,fb,cU,j7,mY,yi,mG,yZ,gQ,ja,mK,mP,zh,rB,a9,hG,ip,hM,ib,jn,gw,h_,gZ,gU,ik,iu,qO,sH,lp,o_,pJ,sG,mE,o6,pO,s_,ji,ls,ij,B8]
noncomputable def zG(i:Nat):List (PySem.Str×Nat):=(DS [jy,wq,lZ,j_,nZ,sQ,zb,td,iz,iH,jA,iX,jw,jq,jp,iG,iN,ic,mA,p_,yw,qj,ym,k8,me,pU,pW,xq,tm,kP,kL,kJ,k9,kI,lP,jM,kY,kK,kR,k_,lb,tR,tU,nX,sg,sz,tz,pS,sU,sT,tI,mh,om,kM,DU] i).getD []
noncomputable def aq:cA where meth:=λc m=>(DS [[(0,9)],[(0,12),(1,11)],[(0,14)],[(2,16),(3,17)],[(4,30),(5,31),(6,32),(7,33),(8,34),(9,35)],[(7,37),(10,38),(11,39),(12,40)]] c).bind λl=>l.lookup m;init:=DS [8,10,13,15,29,36]
noncomputable def v5:List PySem.Str:=[Str.ofString "counts_by_length",Str.ofString "room_of",Str.ofString "check_lengths",Str.ofString "greatest_length",Str.ofString "first_codes",Str.ofString "canonical",Str.ofString "turned",Str.ofString "by_length",Str.ofString "__init__",Str.ofString "read",Str.ofString "__init__",Str.ofString "enter",Str.ofString "read",Str.ofString "__init__",Str.ofString "read",Str.ofString "__init__",Str.ofString "cost",Str.ofString "write",Str.ofString "used_symbols",Str.ofString "total_bits",Str.ofString "placed",Str.ofString "check_room",Str.ofString "merged",Str.ofString "package_depths",Str.ofString "least_lengths",Str.ofString "need_count",Str.ofString "need_value",Str.ofString "end_of",Str.ofString "gathered",Str.ofString "__init__",Str.ofString "left",Str.ofString "peek",Str.ofString "skip",Str.ofString "bits",Str.ofString "bit",Str.ofString "place",Str.ofString "__init__",Str.ofString "bits",Str.ofString "code",Str.ofString "size",Str.ofString "done",Str.ofString "_law_pool",Str.ofString "_law_take",Str.ofString "_law_message",Str.ofString "_law_least",Str.ofString "_law_codes",Str.ofString "_law_text",Str.ofString "_law_packed",Str.ofString "_law_signs",Str.ofString "_law_plain",Str.ofString "_law_told",Str.ofString "_law_unwritten",Str.ofString "_law_written",Str.ofString "_law_read_right",Str.ofString "law"]
noncomputable def mM:List PySem.Str:=[Str.ofString "PrefixReader",Str.ofString "TableReader",Str.ofString "LesserTable",Str.ofString "PrefixWriter",Str.ofString "LowReader",Str.ofString "LowWriter"]
noncomputable def mu:List PySem.Str:=[Str.ofString "CutShort",Str.ofString "BadCode"]
noncomputable def fE:List PySem.Str:=[Str.ofString "lengths",Str.ofString "codes",Str.ofString "most",Str.ofString "counts",Str.ofString "symbols",Str.ofString "root",Str.ofString "sizes",Str.ofString "lesser",Str.ofString "more",Str.ofString "data",Str.ofString "stop",Str.ofString "position",Str.ofString "made",Str.ofString "held",Str.ofString "held_bits"]
noncomputable def df:List PySem.Str:=[Str.ofString "read",Str.ofString "enter",Str.ofString "cost",Str.ofString "write",Str.ofString "left",Str.ofString "peek",Str.ofString "skip",Str.ofString "bits",Str.ofString "bit",Str.ofString "place",Str.ofString "code",Str.ofString "size",Str.ofString "done"]
end Mine.Internal
namespace Mine.Internal
open PySem PySem.W PyProof.Rows PySem.Calls
noncomputable def fr:List (Option V)->aR|[],_=>none|x::_,0=>x|_::r,i+1=>fr r i
theorem qE:∀(vs:List V),(λi=>vs[i]?)=fr (vs.map some)|[]=>funext λa=>rfl|v::vs=>funext λi=>by cases i with|zero=>rfl|succ i=>exact congrFun (qE vs) i
noncomputable def qq(ρ:aR):List (Nat×V)->Prop|[]=>True|(i,v)::r=>ρ i=some v/\qq ρ r
noncomputable def jE(ρ:aR):List (Nat×V)->aR|[]=>ρ|(i,v)::r=>bM (jE ρ r) i v
theorem Cz{ρ:aR}{i:Nat}{v:V}(h:ρ i=some v):bM ρ i v=ρ:=funext λj=>by
 refine(?_:(if j=i then some v else ρ j)=ρ j);by_cases q:j=i;·rw[aE q,q,h]
 ·rw[aA q]
theorem fy{ρ:aR}:∀{l:List (Nat×V)},qq ρ l->jE ρ l=ρ:=by intro r;induction r with|nil=>intro _;exact rfl|cons a r b=>obtain⟨i,v⟩:=a;intro h;refine(?_:bM (jE ρ r) i v=ρ);rw[b h.2];exact Cz h.1
noncomputable def bt(H Z:Hp):Prop:=∀b o,H b=some o->Z b=some o
theorem bt.refl{H:Hp}:bt H H:=λa a e=>e
theorem bt.trans{H J c:Hp}(a:bt H J)(b:bt J c):bt H c:=λx o e=>b x o (a x o e)
theorem af{H:Hp}{r b:Nat}{o:AO}(hr:H r=Option.none)(a:H b=some o):b≠r:=λq=>by rw[q,hr]at a;cases a
theorem bt.upd{H:Hp}{a:Nat}{o:AO}(h:H a=none):bt H (fU H a o):=λb c e=>(ch (af h e)).trans e
noncomputable def aG(a:Nat)(H Z:Hp):Prop:=∀b o,b≠a->H b=some o->Z b=some o
theorem aG.of{a:Nat}{H Z:Hp}(e:bt H Z):aG a H Z:=λb o c h=>e b o h
theorem aG.trans{a:Nat}{H J c:Hp}(x:aG a H J)(y:aG a J c):aG a H c:=λb o n e=>y b o n (x b o n e)
theorem aG.upd{H:Hp}{a:Nat}{o:AO}:aG a H (fU H a o):=λb c n e=>(ch n).trans e
theorem bt.none{H Z:Hp}(e:bt H Z){r:Nat}(h:Z r=none):H r=none:=by cases z:H r with|none=>rfl|some o=>rw[e _ _ z]at h;cases h
theorem bt.b{H J a:Hp}{r:Nat}(e:bt H J)(x:aG r J a)(hr:H r=Option.none):bt H a:=λb o h=>x b o (af hr h) (e b o h)
theorem ai{H:Hp}{o:AO}{Q:QV}(k:∀r Z,H r=Option.none->bt H Z->Z r=some o->Q (.ref r) Z):dL o Q H:=dL.k λr hr=>k r _ hr (bt.upd hr) bG
noncomputable def nv(n:Nat):V:=.int n
noncomputable def nl(l:List Nat):List V:=l.map nv
theorem F5(a b:List Nat):nl (a++b)=nl a++nl b:=eR
theorem sw(l:List Nat):(nl l).length=l.length:=aP _
theorem wr{l:List Nat}(h:l.length<=1000):(nl l).length<=cu:=by rw[sw];exact aa h (by decide)
theorem cI{n:Nat}(h:n<=1000):n<=cu:=aa h (by decide)
theorem Ec{n:Nat}(h:n<=1000):(n:Int)<=cu:=gL (cI h)
theorem AB(l:List Nat)(i:Nat):(nl l)[i]?=(l[i]?).map nv:=f_ ..
theorem Kg{l:List Nat}{i:Nat}{v:V}(h:(nl l)[i]?=some v):∃x,l[i]?=some x/\v=nv x:=by rw[AB]at h;refine am (rV h) λx hx e=>?_;exact an x hx e.symm
theorem L1(l:List Nat)(i n:Nat):(nl l).set i (nv n)=nl (l.set i n):=List.map_set.symm
theorem Ky(k n:Nat):AF k [nv n]=nl (List.replicate k n):=by induction k with|zero=>rfl|succ k a=>exact ak (nv n::·) a
theorem i0(l:List Nat):AO.list (nl l)=iL (l.map λ(n:Nat)=>(n:Int)):=ak AO.list (bO ..).symm
inductive aj(T:cA)(aI:Nat->Option Fn)(n:Nat)(hd:Bool)(f:Nat)(args:List V)(Q:QV)(X:QX)(H:Hp):Prop where|k (h:ei T aI n hd f args Q X H)
inductive hZ(T:cA)(aI:Nat->Option Fn)(n f:Nat)(args:List V)(Q:QV)(H:Hp):Prop where|k (h:nD T aI n f args Q H)
theorem jX:@aj=@ei:=by funext T aI n hd f args Q X H;exact propext ⟨λ⟨h⟩=>h,.k⟩
theorem q_:@hZ=@nD:=by funext T aI n f args Q H;exact propext ⟨λ⟨h⟩=>h,.k⟩
section
variable{T:cA}{Y:kC}{Ψ:DK}{hd:Bool}{ρ:aR}{H:Hp}{nx ct:QR}{rt:QV}{ex:QE}{r:SL}{t:iw}{same:Hp->Prop}{body:G3}{xs:List V}{e:E}{Q:QV}{X:QX}{n f:Nat}{vs:List V}{aI:Nat->Option Fn}
theorem bn(h:let e:=ρ;l5 T Y hd r nx ct rt ex e H):l5 T Y hd r nx ct rt ex ρ H:=h
theorem N7(h:let e:=nx;l5 T Y hd r e ct rt ex ρ H):l5 T Y hd r nx ct rt ex ρ H:=h
theorem NV(h:let e:=nx;l5 T Y hd r e e rt ex ρ H):l5 T Y hd r nx nx rt ex ρ H:=h
theorem Do(h:let e:=ρ;let k:=nx;l5 T Y hd r k ct rt ex e H):l5 T Y hd r nx ct rt ex ρ H:=h
theorem Oj(h:let e:=ρ;ju t same body xs nx rt ex e H):ju t same body xs nx rt ex ρ H:=h
theorem Lz(h:let e:=nx;ju t same body xs e rt ex ρ H):ju t same body xs nx rt ex ρ H:=h
theorem jO(h:let q:=Q;WE T Y hd e ρ q X H):WE T Y hd e ρ Q X H:=h
theorem lM(h:let e:=ρ;sy T Y Ψ r nx ct rt e H):sy T Y Ψ r nx ct rt ρ H:=h
end
theorem ac{aI:Nat->Option Fn}{T:cA}{n:Nat}{hd:Bool}{f:Nat}{args vs:List V}{H:Hp}{Q:QV}{X:QX}(d:Fn)(a:aI f=some d)(b:cp d args=some vs)(h:let Y:kC:=aj T aI n;let ρ:aR:=fr (vs.map some);let nx:QR:=λc=>Q .none;let ex:QE:=λc=>X;l5 T Y hd d.body nx (λc c=>False) Q ex ρ H):aj T aI (n+1) hd f args Q X H:=by rw[jX]at*;refine(?_:match aI f with|none=>False|some d=>match cp d args with|none=>False|some vs=>l5 T (ei T aI n) hd d.body (λc=>Q .none) (λc c=>False) Q (λc=>X) (λi=>vs[i]?) H);rw[a];refine(?_:match cp d args with|none=>False|some vs=>l5 T (ei T aI n) hd d.body (λc=>Q .none) (λc c=>False) Q (λc=>X) (λi=>vs[i]?) H);rw[b];refine(?_:l5 T (ei T aI n) hd d.body (λc=>Q .none) (λc c=>False) Q (λc=>X) (λi=>vs[i]?) H);rw[qE vs];exact h
section
variable{H:Hp}{Q:QV}{x y:Int}{a b:Nat}{l:List V}{v:V}{s:List Nat}{P:Hp->Prop}
theorem Ff(h:H a=some (.list l))(b:x.toNat*l.length<=cu)(c:0<=x)(d:x<=cu)(k:∀r Z,H r=none->bt H Z->Z r=some (.list (AF x.toNat l))->Q (.ref r) Z):bK .mul (.ref a) (.int x) Q H:=bK.k (IE rfl l h b c d (ai k))
theorem MM{l2:List V}(h:H a=some (.list l))(c:H b=some (.list l2))(d:l.length+l2.length<=cu)(k:∀r Z,H r=none->bt H Z->Z r=some (.list (l++l2))->Q (.ref r) Z):bK .add (.ref a) (.ref b) Q H:=bK.k (qH rfl l l2 h c d (ai k))
theorem gY(h:MulOk x y)(q:Q (.int (x*y)) H):bK .mul (.int x) (.int y) Q H:=bK.k ⟨h,q⟩
theorem J5(h:0<y)(a:Sm y)(q:Q (.int (x/y)) H):bK .fdiv (.int x) (.int y) Q H:=bK.k (bz h a q)
theorem xS(h:0<y)(q:Q (.int (x%y)) H):bK .mod (.int x) (.int y) Q H:=bK.k ⟨h,q⟩
theorem A8{k:Nat}(h:k<=100000)(a:Sm x)(q:Q (.int (x*2^k)) H):bK .shl (.int x) (.int k) Q H:=bK.k (et (cf k) (gL h) a q)
theorem jm{m k:Nat}(q:Q (.int (m/2^k:Nat)) H):bK .shr (.int m) (.int k) Q H:=bK.k ⟨cf k,by refine(?_:Q (.int ((m:Int)/2^k)) H);rw[show((m:Int)/2^k)=((m/2^k:Nat):Int)by rfl];exact q⟩
theorem uG{m k:Nat}(q:Q (.int (m&&&k:Nat)) H):bK .and (.int m) (.int k) Q H:=bK.k (bz (cf m) (cf k) q)
theorem IB{m k:Nat}(q:Q (.int (m|||k:Nat)) H):bK .or (.int m) (.int k) Q H:=bK.k (bz (cf m) (cf k) q)
theorem Nw{m k:Nat}(q:Q (.int (m^^^k:Nat)) H):bK .xor (.int m) (.int k) Q H:=bK.k (bz (cf m) (cf k) q)
theorem jv(h:x<y->Q (.bool true) H)(a:¬x<y->Q (.bool false) H):bP .lt (.int x) (.int y) Q H:=bP.k ⟨h,a⟩
theorem Le(h:x<=y->Q (.bool true) H)(a:¬x<=y->Q (.bool false) H):bP .le (.int x) (.int y) Q H:=bP.k ⟨h,a⟩
theorem iB(h:y<x->Q (.bool true) H)(a:¬y<x->Q (.bool false) H):bP .gt (.int x) (.int y) Q H:=bP.k ⟨h,a⟩
theorem NF(h:y<=x->Q (.bool true) H)(a:¬y<=x->Q (.bool false) H):bP .ge (.int x) (.int y) Q H:=bP.k ⟨h,a⟩
theorem tF(h:x=y->Q (.bool true) H)(a:x≠y->Q (.bool false) H):bP .eq (.int x) (.int y) Q H:=bP.k ⟨h,a⟩
theorem Gy(h:x=y->Q (.bool false) H)(a:x≠y->Q (.bool true) H):bP .ne (.int x) (.int y) Q H:=bP.k ⟨h,a⟩
theorem qP(h:x<=y)(q:Q (.bool true) H):bP .le (.int x) (.int y) Q H:=Le (λa=>q) λz=>absurd h z
theorem iE(h:H a=some (.list l))(hx:0<=x)(b:l.length<=cu)(hv:l[x.toNat]?=some v)(q:Q v H):dZ (.ref a) (.int x) Q H:=dZ.k (.inl (fx l v h hx b hv q))
theorem gH{b:List (Int×V)}{ep:Nat}(h:H a=some (.dictI b ep))(hv:b.lookup x=some v)(q:Q v H):dZ (.ref a) (.int x) Q H:=dZ.k (.inr (dU b ep v h hv q))
theorem FZ(hx:0<=x)(a:l.length<=cu)(hv:l[x.toNat]?=some v)(q:Q v H):dZ (.tup l) (.int x) Q H:=dZ.k (yq v hx a hv q)
theorem vT(h:H a=some (.list l))(hx:0<=x)(b:l.length<=cu)(hv:x.toNat<l.length)(q:∀Z,aG a H Z->Z a=some (.list (l.set x.toNat v))->P Z):a_ (.ref a) (.int x) v P H:=a_.k (.inl (AA l h hx hv b (q _ .upd bG)))
theorem vm{b:List (Int×V)}{ep:Nat}(h:H a=some (.dictI b ep))(c:b.length<=cu)(q:∀d Z,aG a H Z->Z a=some (.dictI (oj x v b) d)->P Z):a_ (.ref a) (.int x) v P H:=a_.k (.inr (aL b ep h c (λd=>q d _ .upd bG)))
theorem Ba{b:List (List Nat×V)}(h:H a=some (.dictS b))(c:b.length<=cu)(q:∀Z,aG a H Z->Z a=some (.dictS (oj s v b))->P Z):a_ (.ref a) (.str s) v P H:=a_.k (.inl (cW b h c (q _ .upd bG)))
theorem BO{ep:Nat}(h:H a=some (.dictI [] ep))(q:∀Z,aG a H Z->Z a=some (.dictS [(s,v)])->P Z):a_ (.ref a) (.str s) v P H:=a_.k (.inr (an ep h (q _ .upd bG)))
theorem len_list(h:H a=some (.list l))(b:l.length<=cu)(q:Q (.int l.length) H):dR .len [.ref a] Q H:=dR.k (.inl (bW a l rfl (.inl h) b q))
theorem ae{c dx:Nat}{fs:List (Nat×V)}{f:Nat}(h:H a=some (.inst c dx))(b:H dx=some (.attrs fs))(hv:fs.lookup f=some v)(q:Q v H):fa (.ref a) f Q H:=fa.k (lI a c dx fs v rfl h b hv q)
theorem aV{c dx:Nat}{fs:List (Nat×V)}{f:Nat}(h:H a=some (.inst c dx))(b:H dx=some (.attrs fs))(d:Nat.ble (fs.length+1) 500=true)(q:∀Z,aG dx H Z->Z dx=some (.attrs (oj f v fs))->P Z):cb (.ref a) f v P H:=cb.k (dB a c dx fs rfl h b (oE d) (q _ .upd bG))
theorem eI(h:H a=some (.list l))(b:l.length<cu)(q:∀Z,aG a H Z->Z a=some (.list (l++[v]))->Q .none Z):oU (.ref a) v Q H:=oU.k (bW a l rfl h b (q _ .upd bG))
theorem uv{lo hi:V}{i j:Option Int}(p:EF lo i)(b:EF hi j)(h:H a=some (.list l))(c:l.length<=cu)(k:∀r Z,H r=none->bt H Z->Z r=some (.list (eg i j l))->Q (.ref r) Z):uT (.ref a) lo hi Q H:=uT.k (yP i j p b l (.inl h) c (ai k))
theorem Pc(k:Nat):-(2^62)<=(k:Int):=jZ (by decide) (cf k)
theorem OS{k:Nat}(h:k<=1000):(k:Int)<2^62:=pw (gL h) (by decide)
theorem eW{k:Nat}(h:k<=1000)(q:Q (.rng 0 k 1) H):dR .range [.int k] Q H:=dR.k (.inl (yq k rfl (Pc k) (OS h) q))
theorem vH{i k:Nat}(a:i<=1000)(h:k<=1000)(q:Q (.rng i k 1) H):dR .range [.int i,.int k] Q H:=dR.k (.inr (.inl (sZ i k rfl (Pc i) (OS a) (Pc k) (OS h) q)))
end
section
variable{H:Hp}{Q:QV}{a i x:Nat}{l:List Nat}{v:V}{P:Hp->Prop}
theorem dp(h:H a=some (.list (nl l)))(b:l.length<=1000)(hv:l[i]?=some x)(q:Q (nv x) H):dZ (.ref a) (nv i) Q H:=iE h (cf i) (wr b) (by rw[AB];exact ak (Option.map nv) hv) q
theorem v6(h:H a=some (.list (nl l)))(b:l.length<=1000)(hv:i<l.length)(q:∀Z,aG a H Z->Z a=some (.list (nl (l.set i x)))->P Z):a_ (.ref a) (nv i) (nv x) P H:=vT h (cf i) (wr b) (by rw[sw];exact hv) λZ e h'=>q Z e (h'.trans (ak (λl=>some (AO.list l)) (L1 l i x)))
theorem iT(h:H a=some (.list (nl l)))(b:l.length<=1000)(q:Q (nv l.length) H):dR .len [.ref a] Q H:=len_list h (wr b) (by rw[sw];exact q)
theorem vz(h:H a=some (.list [nv x]))(hi:i<=1000)(k:∀r Z,H r=none->bt H Z->Z r=some (.list (nl (List.replicate i x)))->Q (.ref r) Z):bK .mul (.ref a) (nv i) Q H:=Ff h (by refine(?_:i*1<=cu);rw[ph];exact cI hi) (cf i) (Ec hi) λr Z hr e h'=>k r Z hr e (h'.trans (ak (λl=>some (AO.list l)) (Ky i x)))
theorem uK(h:H a=some (.list (nl l)))(b:l.length<1000)(q:∀Z,aG a H Z->Z a=some (.list (nl (l++[x])))->Q .none Z):oU (.ref a) (nv x) Q H:=eI h (by rw[sw];exact jk b (by decide)) λZ e h'=>q Z e (h'.trans (ak (λl=>some (AO.list l)) (F5 l [x]).symm))
theorem cK{l:List V}(h:H a=some (.list l)):Pp (.ref a) H:=aY a l rfl h
theorem Jz{lo hi:V}{i j:Option Int}(p:EF lo i)(b:EF hi j)(h:H a=some (.list (nl l)))(c:l.length<=1000)(k:∀r Z,H r=none->bt H Z->Z r=some (.list (nl (eg i j l)))->Q (.ref r) Z):uT (.ref a) lo hi Q H:=uv p b h (wr c) λr Z hr e h'=>k r Z hr e (h'.trans (ak (λl=>some (AO.list l)) (by unfold eg nl;rw[uj,List.map_drop,aP])))
end
section
variable{H:Hp}{K:(Hp->Prop)->List V->Hp->Prop}
theorem v_is{o:Option V}{v:V}{Q:QV}(h:o=some v)(k:Q v H):OA o Q H:=by rw[h];exact k
theorem bH{a:Nat}{l:List V}(h:H a=some (.list l))(b:l.length<=cu)(k:K (λZ=>Z a=H a) l H):gc .val (.ref a) K H:=dk (.inl h) b k
theorem n7{a:Nat}{l:List Nat}(h:H a=some (.list (nl l)))(b:l.length<=1000)(k:K (λZ=>Z a=H a) (l.map nv) H):gc .val (.ref a) K H:=bH h (wr b) k
theorem Aq(a b:Nat):cJ a b 1=(List.range (b-a)).map (λ(i:Nat)=>((a+i:Nat):Int)):=by unfold cJ;rw[aE (by decide),Int.add_sub_cancel,Int.ediv_one,Int.toNat_sub];exact f9 λi c=>by rw[Int.one_mul];rfl
theorem gV{a b:Nat}(c:b<=1000)(k:K (λd=>True) ((List.range (b-a)).map λi=>nv (a+i)) H):gc .val (.rng a b 1) K H:=dk (by refine(?_:_=(cJ a b 1).map V.int);rw[Aq,bO];rfl) (by rw[aP,bf];exact aa (i' ..) (cI c)) k
theorem bD{b:Nat}(c:b<=1000)(k:K (λd=>True) ((List.range b).map nv) H):gc .val (.rng 0 b 1) K H:=gV (a:=0) c (by rw[Nat.sub_zero,show(λi=>nv (0+i))=nv from funext λi=>ak nv (aU i)];exact k)
end
theorem ez{t:iw}{v:V}{ρ:aR}{K a:aR->Prop}(h:∀r,K r->a r)(b:dC t v ρ K):dC t v ρ a:=by cases t with|v i=>exact h _ b|t is=>cases v<;>first|exact b|exact Cc.k (Cc.e b).1 (h _ (Cc.e b).2)
theorem qB{t:iw}{same:Hp->Prop}{body:G3}{nx:QR}{rt:QV}{ex:QE}{items:List V}(l:Nat->List (Nat×V))(a:Nat->Hp->Prop){ρ:aR}{H:Hp}(h:qq ρ (l 0))(c:a 0 H)(hs:∀i H,a i H->same H)(step:∀i v ρ H,items[i]?=some v->a i H->dC t v (jE ρ (l i)) λO=>∀d:QR,(∀e f,qq e (l (i+1))->a (i+1) f->d e f)->body d d rt ex O H)(done:∀ρ H,a items.length H->nx (jE ρ (l items.length)) H):ju t same body items nx rt ex ρ H:=by
 have gen:∀(xs:List V)(n:Nat),(∀i,xs[i]?=items[n+i]?)->n+xs.length=items.length->∀ρ H,qq ρ (l n)->a n H->ju t same body xs nx rt ex ρ H:=by
  intro xs;induction xs with
  |nil=>intro n _ g ρ H h c;obtain rfl:n=items.length:=g;exact⟨hs _ H c,by rw[<-fy h];exact done ρ H c⟩|cons x xs j=>intro n hx g ρ H h c;refine⟨hs n H c,ez (λr b=>?_) (fy h▸step n x ρ H (hx 0).symm c)⟩;exact b _ λe f k m=>j (n+1) (λi=>by rw[jL];exact hx (i+1)) (by rw[<-g,mo];lia) e f k m
 exact gen items 0 (λi=>by rw[aU]) (aU _) ρ H h c
theorem ku{σ α:Type}{t:iw}{same:Hp->Prop}{body:G3}{nx:QR}{rt:QV}{ex:QE}{g:α->V}(l:σ->List (Nat×V))(a:σ->Hp->Prop)(f:σ->α->σ)(hs:∀s H,a s H->same H):∀{xs:List α}{s0:σ}{ρ:aR}{H:Hp},qq ρ (l s0)->a s0 H->(∀s x ρ H,x∈xs->a s H->dC t (g x) (jE ρ (l s)) λO=>∀c:QR,(∀d e,qq d (l (f s x))->a (f s x) e->c d e)->body c c rt ex O H)->(∀ρ H,a (xs.foldl f s0) H->nx (jE ρ (l (xs.foldl f s0))) H)->ju t same body (xs.map g) nx rt ex ρ H:=by intro xs;induction xs with|nil=>intro s0 ρ H h i _ done;exact⟨hs _ _ i,fy h▸done ρ H i⟩|cons x xs j=>intro s0 ρ H h i step done;exact⟨hs _ _ i,ez (λr b=>b _ λk k n o=>j n o (λs y ρ H m=>step s y ρ H (dn _ m)) done) (fy h▸step s0 x ρ H (cS ..) i)⟩
theorem w_{i n:Nat}:kms_lo (some (i:Int)) n=min i n:=by unfold kms_lo;exact aA (zm (cf _))
theorem rC{i n:Nat}:kms_hi (some (i:Int)) n=min i n:=by unfold kms_hi;exact aA (zm (cf _))
theorem zZ{α:Type}{i j:Nat}{l:List α}:eg (some (i:Int)) (some (j:Int)) l=(l.take j).drop i:=by
 unfold eg;rw[w_,rC,List.drop_take];rcases Nat.le_total i l.length with h|h
 ·rw[ot h];rcases Nat.le_total j l.length with a|a;·rw[ot a]
  ·rw[Nat.min_eq_right a,yT (by rw[zl];exact bF _),yT (by rw[zl];exact Nat.sub_le_sub_right a _)]
 ·rw[Nat.min_eq_right h,List.drop_eq_nil_of_le (bF _),List.drop_eq_nil_of_le h,List.take_nil,List.take_nil]
theorem JO{α:Type}{i:Nat}{l:List α}:eg (some (i:Int)) none l=l.drop i:=by
 have:eg (some (i:Int)) none l=eg (some (i:Int)) (some (l.length:Int)) l:=by unfold eg;rw[rC,Nat.min_self];rfl
 rw[this,zZ,qe]
theorem A3{α:Type}{j:Nat}{l:List α}:eg none (some (j:Int)) l=l.take j:=by
 have:eg none (some (j:Int)) l=eg (some ((0:Nat):Int)) (some (j:Int)) l:=by unfold eg;rw[w_,Nat.zero_min];rfl
 rw[this,zZ];rfl
theorem D8{b:Nat}{f:Nat->V}{i:Nat}{v:V}(h:((List.range b).map f)[i]?=some v):i<b/\v=f i:=by rw[f_]at h;(refine am (rV h) ?_;rintro x hx a;rw[<-a]);refine dE (jB hx) λc d=>?_;rw[List.getElem_range]at d;rw[bf]at c;exact⟨c,d▸rfl⟩
theorem be{t:iw}{same:Hp->Prop}{body:G3}{nx:QR}{rt:QV}{ex:QE}{b:Nat}{g:Nat->V}(l:Nat->List (Nat×V))(a:Nat->Hp->Prop){ρ:aR}{H:Hp}(h:qq ρ (l 0))(c:a 0 H)(hs:∀i H,a i H->same H)(step:∀i ρ H,i<b->a i H->dC t (g i) (jE ρ (l i)) λO=>∀d:QR,(∀f k,qq f (l (i+1))->a (i+1) k->d f k)->body d d rt ex O H)(done:∀ρ H,a b H->nx (jE ρ (l b)) H):ju t same body ((List.range b).map g) nx rt ex ρ H:=by
 have e:((List.range b).map g).length=b:=by rw[aP,bf]
 refine qB l a h c hs (λi v ρ H hv j=>?_) (by rw[e];exact done);(refine dA (D8 hv) ?_;rintro m n;rw[n]);exact step i ρ H m j
theorem wb{T:cA}{Y:kC}{hd:Bool}{x:Nat}{e:E}{r:SL}{ρ:aR}{H:Hp}{nx ct:QR}{rt:QV}{ex:QE}(P:V->Hp->Prop)(a:∀(Q:QV)(X:QX),(∀v Z,P v Z->Q v Z)->WE T Y hd e ρ Q X H)(b:∀v Z,P v Z->l5 T Y hd r nx ct rt ex (bM ρ x v) Z):l5 T Y hd (.cons (.asg x e) r) nx ct rt ex ρ H:=a _ _ b
theorem ka{x:Int}(a:-4611686018427387904<=x)(b:x<=4611686018427387904):Sm x:=by unfold Sm;lia
theorem fP{α:Type}{f g:Nat->α}{b i:Nat}{v:α}(hi:i<b)(a:g i=v)(c:∀j,j<b->j≠i->g j=f j):((List.range b).map f).set i v=(List.range b).map g:=by
 refine ut λj=>?_;by_cases hj:j<b
 ·by_cases e:i=j;·rw[<-e,List.getElem?_set_self (by rw[aP];rw[bf];exact hi),f_,oY hi,B6,a]
  ·rw[List.getElem?_set_ne e,f_,f_,oY hj,B6,B6,c j hj (eE e)]
 ·rw[iJ (by rw[xP];rw[aP];rw[bf];exact fS hj),iJ (by rw[aP];rw[bf];exact fS hj)]
theorem xY(b:Nat):List.replicate b 0=(List.range b).map λa=>0:=by rw[List.map_const',bf]
theorem jH{aI:Nat->Option Fn}{T:cA}{n:Nat}{f:Nat}{args vs:List V}{H:Hp}{Q:QV}(d:Fn)(a:aI f=some d)(b:cp d args=some vs)(h:let Y:kC:=aj T aI n;let Ψ:DK:=hZ T aI n;let ρ:aR:=fr (vs.map some);let nx:QR:=λc=>Q .none;sy T Y Ψ d.body nx (λc c=>False) Q ρ H):hZ T aI (n+1) f args Q H:=by rw[jX,q_]at*;refine .inr ?_;rw[a];refine(?_:match cp d args with|none=>False|some vs=>sy T (ei T aI n) (nD T aI n) d.body (λc=>Q .none) (λc c=>False) Q (λi=>vs[i]?) H);rw[b];refine(?_:sy T (ei T aI n) (nD T aI n) d.body (λc=>Q .none) (λc c=>False) Q (λi=>vs[i]?) H);rw[qE vs];exact h
theorem fD{aI:Nat->Option Fn}{T:cA}{n:Nat}{f:Nat}{args:List V}{H:Hp}{Q:QV}(h:aj T aI (n+1) false f args Q uw H):hZ T aI (n+1) f args Q H:=by rw[jX]at h;rw[q_];exact .inl h
theorem ix{H:Hp}{c:Nat}{Q:Nat->Hp->Prop}(k:∀a dx Z,H a=none->H dx=none->a≠dx->bt H Z->Z a=some (.inst c dx)->Z dx=some (.attrs [])->Q a Z):pR c Q H:=pR.k λa dx b hx ne=>k a dx _ b hx ne ((bt.upd b).trans (bt.upd ((ch (eE ne)).trans hx))) ((ch ne).trans bG) bG
noncomputable def d_(x y:Nat)(H Z:Hp):Prop:=∀b o,b≠x->b≠y->H b=some o->Z b=some o
theorem d_.refl{x y:Nat}{H:Hp}:d_ x y H H:=λa a a a h=>h
theorem d_.trans{x y:Nat}{H J d:Hp}(a:d_ x y H J)(b:d_ x y J d):d_ x y H d:=λc o e f h=>b c o e f (a c o e f h)
theorem d_.of1{x y:Nat}{H Z:Hp}(a:aG x H Z):d_ x y H Z:=λb o c d h=>a b o c h
theorem d_.of2{x y:Nat}{H Z:Hp}(a:aG y H Z):d_ x y H Z:=λb o c d h=>a b o d h
theorem LU{a x:Nat}{xs:List Nat}{H:Hp}{Q:QV}(h:H a=some (.ba xs))(hx:x<256)(b:xs.length<cu)(q:∀Z,aG a H Z->Z a=some (.ba (xs++[x]))->Q .none Z):vQ (.ref a) (.int x) Q H:=vQ.k (Ak a xs x rfl rfl h (cf x) (dP hx) b (q _ .upd bG))
theorem qw{σ:Type}{a:GY}{body:G3}{nx:QR}{rt:QV}{ex:QE}(b:σ->Nat)(l:σ->List (Nat×V))(I:σ->Hp->Prop)(step:∀z ρ H (B:aR->Hp->Prop),I z H->(∀d e f,b d<b z->qq e (l d)->I d f->B e f)->a (jE ρ (l z)) (λc=>BP c (body B B rt ex (jE ρ (l z))) (nx (jE ρ (l z)))) H){z:σ}{ρ:aR}{H:Hp}(g:qq ρ (l z))(h:I z H):∃n,xz a body n nx rt ex ρ H:=by
 have gen:∀N z ρ H,b z<N->qq ρ (l z)->I z H->xz a body N nx rt ex ρ H:=by
  intro N;induction N with
  |zero=>exactλz ρ H i=>absurd i (pF _)|succ N j=>exactλz ρ H i g h=>fy g▸step z ρ H _ h λd e f k m o=>j d e f (cN k (qh i)) m o
 exact⟨b z+1,gen (b z+1) z ρ H (iY _) g h⟩
theorem mN{D:List Nat}{H:Hp}{Q:QV}(a:D.length<=1000)(q:Q (nv D.length) H):dR .len [.bytes D] Q H:=dR.k (.inr (.inr (cW D (.inr rfl) (cI a) q)))
theorem Iv{D:List Nat}{i x:Nat}{H:Hp}{Q:QV}(a:D.length<=1000)(hv:D[i]?=some x)(q:Q (nv x) H):dZ (.bytes D) (nv i) Q H:=dZ.k (yq x (cf i) (cI a) hv q)
theorem IV(x k:Nat):((x:Int)*2^k)=((x*2^k:Nat):Int):=by rw[Int.natCast_mul,Int.natCast_pow];rfl
theorem rH{x k:Nat}{H:Hp}{Q:QV}(h:k<=100000)(a:Sm x)(q:Q (nv (x*2^k)) H):bK .shl (.int x) (.int k) Q H:=A8 h a (by rw[IV];exact q)
theorem eN{k:Nat}{H:Hp}{Q:QV}(h:k<=1000)(q:Q (nv (2^k)) H):bK .shl (.int 1) (.int k) Q H:=rH (x:=1) (aa h (by decide)) (ka (by decide) (by decide)) (by rw[Nat.one_mul];exact q)
theorem DA(v:V):∀n,AF n [v]=(List.range n).map λa=>v:=λn=>by rw[List.map_const',bf];induction n with|zero=>rfl|succ n b=>exact ak (v::·) b
theorem JP{H:Hp}{Q:QV}{a i:Nat}{v:V}(h:H a=some (.list [v]))(hi:i<=1000)(k:∀r Z,H r=none->bt H Z->Z r=some (.list ((List.range i).map λb=>v))->Q (.ref r) Z):bK .mul (.ref a) (nv i) Q H:=Ff h (by refine(?_:i*1<=cu);rw[ph];exact cI hi) (cf i) (Ec hi) λr Z hr e h'=>k r Z hr e (h'.trans (ak (λl=>some (AO.list l)) (DA v i)))
theorem AH{a b c:Nat}{H:Hp}{Q:QV}(d:a<=1000)(e:b<=1000)(f:0<c)(g:c<=1000)(q:Q (.rng a b c) H):dR .range [nv a,nv b,nv c] Q H:=dR.k (.inr (.inr (pC a b c rfl (cf a) (pw (gL d) (by decide)) (jZ (by decide) (cf b)) (pw (gL e) (by decide)) (dP f) (pw (gL g) (by decide)) q)))
theorem Hi{a b c:Nat}(h:a<c):cJ a b c=(List.range ((b+(c-1-a))/c)).map (λ(i:Nat)=>((a+c*i:Nat):Int)):=by unfold cJ;rw[aE (pw (cf a) (dP h)),show((b:Int)-a+c-1)=((b+(c-1-a):Nat):Int)by rw[Int.natCast_add];rw[jC (ur h)];rw[jC (fm (cR a) h)];show _=(b:Int)+((c:Int)-1-a);lia];rfl
theorem lT{H:Hp}{K:(Hp->Prop)->List V->Hp->Prop}{a b c:Nat}(h:a<c)(d:b<=500)(e:c<=500)(k:K (λf=>True) ((List.range ((b+(c-1-a))/c)).map λi=>nv (a+c*i)) H):gc .val (.rng a b c) K H:=dk (by refine(?_:_=(cJ a b c).map V.int);rw[Hi h,bO];rfl) (by rw[aP,bf];exact aa (yI ..) (aa (um d (aa (i' ..) (aa (i' ..) e))) (by decide))) k
theorem JS{H:Hp}{a b c d:Nat}{l:List V}(h:H a=some (.inst c d))(f:H b=some (.list l)):a≠b:=λe=>by rw[e,f]at h;cases h
theorem Kb{H:Hp}{a b:Nat}{f:List (Nat×V)}{l:List V}(h:H a=some (.attrs f))(c:H b=some (.list l)):a≠b:=λe=>by rw[e,c]at h;cases h
end Mine.Internal
namespace Mine.Internal
@[elab_as_elim]theorem Ko{P:Nat->Prop}{k:Nat}(h:k<=1)(a:P 0)(b:P 1):P k:=by cases k with|zero=>exact a|succ k=>cases k with|zero=>exact b|succ k=>exact absurd (Nat.le_of_succ_le_succ h) (Nat.not_succ_le_zero k)
theorem aB{ρ:aR}:∀{l:List (Nat×V)},(l.map λp=>ρ p.1)=(l.map λp=>some p.2)->qq ρ l|[],_=>aJ|_::_,h=>⟨(List.cons.inj h).1,aB (List.cons.inj h).2⟩
theorem o8(a:Nat):a+(8-a%8)=8*(a/8+1):=by have h:=dG a (by decide:8>0);have e:=jc a 8;generalize a/8=q at*;generalize a%8=r at*;rw[<-e,dM,mH (bT h)];rfl
theorem Qa(a:Nat):(a+(8-a%8))/8=a/8+1:=by rw[o8,Nat.mul_div_cancel_left _ (by decide)]
theorem Qf(a:Nat):(a+(8-a%8))%8=0:=by rw[o8,Nat.mul_mod_right]
theorem PX:∀r,r<8->r+(8-r)%8=8*((r+7)/8):=by decide
theorem c8(a:Nat):a+(8-a%8)%8=8*((a+7)/8):=by have h:=PX _ (dG a (by decide:8>0));have e:=jc a 8;generalize a/8=q at*;generalize a%8=r at*;rw[<-e,dM,h,dM,sF (by decide),Nat.mul_add]
theorem z8(a:Nat):(-(a:Int))%8=(((8-a%8)%8:Nat):Int):=by
 have h:=dG a (by decide:8>0);have e:=jc a 8;generalize a/8=q at*;generalize a%8=r at*;have k:-(a:Int)=((8-r:Nat):Int)+8*(-(q:Int)-1):=by rw[<-e,jC (bT h)];lia
 rw[k,Int.add_mul_emod_self_left];rfl
theorem Pu{a j k:Nat}(h:a=8*j+k)(b:k<8):a/8=j:=by rw[h,sF (by decide),q9 b];rfl
theorem Qd{a j k:Nat}(h:a=8*j+k)(b:k<8):a%8=k:=by rw[h,Nat.mul_add_mod,te b]
theorem Qi(a c:Nat):a%8+c=a+c-8*(a/8):=Nat.eq_sub_of_add_eq (by rw[jL,wT])
theorem OH:∀r,r<8->0<r->(r+7)/8=1:=by decide
theorem Px{a:Nat}(h:0<a%8):(a+7)/8=a/8+1:=by have k:=OH _ (dG a (by decide:8>0)) h;have e:=jc a 8;generalize a/8=q at*;generalize a%8=r at*;rw[<-e,dM,sF (by decide),k]
theorem PH{a:Nat}(h:¬0<a%8):(a+7)/8=a/8:=by have e:=jc a 8;rw[xU h]at e;generalize a/8=q at*;rw[<-e,dM,sF (by decide)];rfl
noncomputable def n8(L:List Nat)(k:Nat):List Nat:=(List.range (k+1)).map λj=>L.count j
theorem du(L:List Nat)(k:Nat):(n8 L k).length=k+1:=by skip;rw[aP,bf]
theorem gR{L:List Nat}{k j:Nat}(h:j<=k):(n8 L k)[j]?=some (L.count j):=by skip;rw[f_,oY (sD h)];rfl
theorem EG(k:Nat):n8 [] k=List.replicate (k+1) 0:=by skip;exact(List.map_const' ..).trans (by rw[bf])
theorem CS{L:List Nat}{k x:Nat}(h:x<=k):(n8 L k).set x (L.count x+1)=n8 (L++[x]) k:=by
 refine ut λj=>?_;by_cases hj:j<=k
 ·rw[gR hj,List.count_append];by_cases e:x=j;·rw[e,List.getElem?_set_self (by rw[du];exact sD hj),List.count_singleton_self]
  ·rw[List.getElem?_set_ne e,gR hj,List.count_eq_zero.mpr (λm=>e (cO m).symm)];rfl
 ·rw[iJ (by rw[xP];rw[du];lia),iJ (by rw[du];lia)]
variable{n:Nat}{hd:Bool}{H:Hp}{Q:QV}{X:QX}
theorem EC{n:Nat}(h:n<=500):n<=1000:=aa h (by decide)
theorem Ps{n:Nat}(h:n<=500):n+1<=1000:=aa (gb h) (by decide)
theorem M0{L:List Nat}{k:Nat}(h:k<=500):(n8 L k).length<=1000:=by rw[du];exact Ps h
theorem m7{a:Nat}{L:List Nat}{k:Nat}(c:H a=some (.list (nl L)))(d:∀x∈L,x<=k)(hs:L.length<=500)(e:k<=500)(q:∀r Z,H r=none->bt H Z->Z r=some (.list (nl (n8 L k)))->Q (.ref r) Z):aj aq aI (n+1) false 0 [.ref a,.int k] Q X H:=by
 refine ac fG (vs:=[.ref a,.int k]) rfl rfl ?_;intro Y f g j;refine ai λr0 H0 m e0 o=>vz (x:=0) (i:=k+1) o (Ps e) λr J hr e1 p=>?_;have s:=e0.none hr;have t:=e0.trans e1;refine n7 (t _ _ c) (EC hs) ?_;refine qB (λi=>[(0,.ref a),(1,.int k),(2,.ref r)]) (λi Z=>Z r=some (.list (nl (n8 (L.take i) k)))/\bt H Z) (aB rfl) ⟨by rw[List.take_zero,EG];exact p,t⟩ (λi Z h=>(h.2 _ _ c).trans (t _ _ c).symm) (λi v ρ Z hv h u w=>?_) λρ Z h=>?_
 ·(refine am (Kg hv) ?_;rintro x hx y;rw[y]);refine bn ?_;intro z;have A:x<=k:=d x (cy hx);refine qP (cf x) (qP (gL A) (dp h.1 (M0 e) (gR A) (v6 h.1 (x:=(L.take i).count x+1) (M0 e) (by rw[du];exact sD A) λB e2 C=>w _ _ (aB rfl) ⟨?_,h.2.b e2 s⟩)));rw[C,mI,hx];exact ak (λl=>some (AO.list (nl l))) (CS A)
 ·exact q r Z s h.2 (h.1.trans (by rw[aP,qe]))
noncomputable def xp(C:List Nat):Int:=(C.drop 1).foldl (λ(l:Int)(c:Nat)=>l*2-(c:Int)) 1
theorem K4{a:Nat}{C:List Nat}(b:H a=some (.list (nl C)))(hs:C.length<=1000)(q:∀Z,bt H Z->Q (.int (xp C)) Z):aj aq aI (n+1) false 1 [.ref a] Q X H:=by refine ac uS (vs:=[.ref a]) rfl rfl ?_;intro Y d f i;refine Jz (.int 1) .none b hs λr J hr e1 j=>?_;rw[show eg (some (1:Int)) none C=C.drop 1 from JO]at j;refine n7 j (by rw[zl];exact aa (i' ..) hs) ?_;exact ku (g:=nv) (λv=>[(0,.ref a),(1,.int v)]) (λk Z=>Z=J) (λ(l:Int)(c:Nat)=>l*2-(c:Int)) (λs H h=>h▸rfl) (aB rfl) rfl (λs x ρ Z hx e m o=>gY (.inr (.inr ⟨by decide,by decide⟩)) (o _ _ (aB rfl) e)) (λρ Z e=>e▸q _ e1)
noncomputable def Ek(L:List Nat)(k:Nat):Prop:=(L.length:Int)-(L.count 0:Nat)=0\/xp (n8 L k)=0\/(0<=xp (n8 L k)/\(L.length:Int)-(L.count 0:Nat)=1/\L.count 1=1)
theorem HH{a:Nat}{L:List Nat}{k:Nat}(b:H a=some (.list (nl L)))(c:∀x∈L,x<=k)(hs:L.length<=500)(d:k<=500)(r_:1<=k)(ok:Ek L k)(q:∀Z,bt H Z->Q .none Z):aj aq aI (n+2) false 2 [.ref a,.int k,.bool true] Q X H:=by
 refine ac iZ (vs:=[.ref a,.int k,.bool true]) rfl rfl ?_;intro Y e f g;refine m7 b c hs d λr J hr e1 j=>?_;refine iT (e1 _ _ b) (EC hs) (dp (i:=0) j (M0 d) (gR (cR _)) ?_);refine tF (λl=>q _ e1) (λm=>K4 j (M0 d) λo e2=>?_);refine bn ?_;intro p;have s:=e1.trans e2;have ok:=ok.resolve_left m;refine jv (λh=>?_) (λl=>iB (λt=>?_) λl=>q _ s)
 ·rcases ok with z|z;·rw[z]at h;exact absurd h (by decide)
  ·exact absurd h (zm z.1)
 ·have ok:=ok.resolve_left (Int.ne_of_gt t);exact tF (λl=>dp (i:=1) (e2 _ _ j) (M0 d) ((gR r_).trans (ak some ok.2.2)) (tF (λl=>q _ s) λh=>absurd rfl h)) λh=>absurd ok.2.1 h
noncomputable def tD(m x:Nat):Nat:=if m<x then x else m
noncomputable def aF(L:List Nat):Nat:=L.foldl tD 0
theorem yx{a:Nat}{L:List Nat}(b:H a=some (.list (nl L)))(hs:L.length<=1000)(q:Q (.int (aF L)) H):aj aq aI (n+1) false 3 [.ref a] Q X H:=by refine ac gp (vs:=[.ref a]) rfl rfl ?_;intro Y c d f;refine n7 b hs ?_;exact ku (g:=nv) (λm=>[(0,.ref a),(1,nv m)]) (λi Z=>Z=H) tD (λs H h=>h▸rfl) (aB rfl) rfl (λs x ρ Z hx e j k=>iB (λh=>k _ _ (bz rfl (ak (λv=>some (nv v)) (aE (eY h)).symm) aJ) e) (λh=>k _ _ (bz rfl (ak (λv=>some (nv v)) (aA (λz=>h (dP z))).symm) aJ) e)) (λρ Z e=>e▸q)
end Mine.Internal
namespace Mine.Internal
variable{n:Nat}{H:Hp}{Q:QV}{X:QX}
noncomputable def xB(C:List Nat):Nat->Nat|0=>0|1=>0|i+2=>2*(xB C (i+1)+(C[i+1]?).getD 0)
noncomputable def z3(C:List Nat):List Nat:=(List.range C.length).map (xB C)
theorem Hy{a:Nat}{C:List Nat}(c:H a=some (.list (nl C)))(hs:C.length<=500)(d:∀j,j<=C.length->xB C j<=1152921504606846976)(q:∀r Z,H r=none->bt H Z->Z r=some (.list (nl (z3 C)))->Q (.ref r) Z):aj aq aI (n+1) false 4 [.ref a] Q X H:=by
 have hs:=EC hs;refine ac ly (vs:=[.ref a]) rfl rfl ?_;intro Y f g m;refine ai λr0 H0 p e0 s=>iT (e0 _ _ c) hs (vz (x:=0) s hs λr J hr e1 t=>?_);have u:=e0.trans e1;have w:=e0.none hr;refine iT (u _ _ c) hs (vH (i:=1) (by decide) hs (gV (a:=1) hs ?_));refine be (λi=>[(0,.ref a),(1,.ref r),(2,nv (xB C i))]) (λi Z=>Z r=some (.list (nl ((List.range C.length).map λj=>if j<=i then xB C j else 0)))/\bt H Z) (aB rfl) ⟨?_,u⟩ (λi H h=>aJ) (λi ρ Z hi h y A=>?_) (λρ Z h=>?_)
 ·refine t.trans (ak (λl=>some (AO.list (nl l))) ((xY _).trans (f9 λj hj=>?_)));by_cases q:j<=0;·rw[aE q,Nat.le_zero.mp q];rfl
  ·rw[aA q]
 ·have B:i+1<C.length:=B5 hi;have D:i<C.length:=Nat.lt_of_succ_lt B;refine wb (λv E=>E=Z/\∃F,v=nv F/\xB C (i+1)=2*(xB C i+F)) (λQ X k=>?_) λv E G=>?_
  ·cases i with|zero=>exact iB (λh=>absurd h (by decide)) λI=>k _ _ (eA rfl 0 rfl rfl)|succ i=>exact iB (λI=>iE (h.2 _ _ c) (Int.sub_nonneg_of_le (gL (gh 1 (i+1)))) (wr hs) (v:=nv C[i+1]) (by rw[AB,show(((1+(i+1):Nat):Int)-1).toNat=i+1 by lia,fz D];rfl) (k _ _ (eA rfl _ rfl (ak (λo=>2*(xB C (i+1)+Option.getD o 0)) (fz D))))) λz=>absurd (by lia) z
  ·(refine lW (G) ?_;try clear G;rintro K;rw[K];rintro F L;rw[L];rintro e);have M:=d (i+1) (bT B);refine A8 (k:=1) (by decide) (ka (by lia) (by lia)) ?_;rw[show(((xB C i:Int)+F)*2^1)=((xB C (i+1):Nat):Int)by rw[e];rw[fB];rfl,dQ];refine bn ?_;intro N;refine v6 h.1 (by rw[aP,bf];exact hs) (by rw[aP,bf];exact B) λE e2 G=>A _ _ (aB rfl) ⟨?_,h.2.b e2 w⟩;refine G.trans (ak (λl=>some (AO.list (nl l))) (fP B (aE (bF _)) λj hj O=>?_));by_cases P:j<=i;·rw[aE P,aE (tY P)]
   ·rw[aA P,aA λz=>(Nat.le_or_eq_of_le_succ z).elim P O]
 ·refine q r Z w h.2 (h.1.trans (ak (λl=>some (AO.list (nl l))) (f9 λj hj=>aE (ur (gi hj)))))
noncomputable def aH(c:Nat):Nat->Nat|0=>0|i+1=>2*aH c i+(c/2^i)%2
theorem eP(c:Nat):∀i,aH c i<2^i:=by intro i;induction i with|zero=>exact Nat.one_pos|succ i a=>have:=a;have b:(c/2^i)%2<2:=dG _ (by decide);refine(?_:2*aH c i+(c/2^i)%2<2^(i+1));rw[ry];exact cN (Nat.add_lt_add_left b _) (aa (kW 2 this) (jP (fB ..)))
theorem FP{a b:Nat}(h:b<2):(a*2|||b)=2*a+b:=by have:=Nat.two_pow_add_eq_or_of_lt (i:=1) (b:=b) h a;rw[fB];exact this.symm
theorem E1{c i:Nat}{P:QV}(hi:i<60)(q:P (nv (aH c (i+1))) H):mQ .shl (nv (aH c i)) (.int 1) (λx J=>mQ .shr (nv c) (nv i) (λy a=>mQ .and y (.int 1) (λz b=>mQ .or x z P b) a) J) H:=by have h:=eP c i;have d:2^i<=2^60:=kQ (by decide) (bT hi);refine A8 (k:=1) (by decide) (ka (jZ (by decide) (cf _)) (jZ (gL (aa (bT h) d)) (by decide))) (jm (uG (k:=1) (IB (m:=aH c i*2) ?_)));rw[Nat.and_one_is_mod,FP (dG _ (by decide))];exact q
theorem Mv{c k:Nat}(a:k<=60)(q:Q (.int (aH c k)) H):aj aq aI (n+1) false 6 [.int c,.int k] Q X H:=by have r_:k<=1000:=aa a (by decide);refine ac wH (vs:=[.int c,.int k]) rfl rfl ?_;intro Y b d e;refine eW r_ (bD r_ ?_);exact be (λi=>[(0,.int c),(1,.int k),(2,nv (aH c i))]) (λi Z=>Z=H) (aB rfl) rfl (λi H h=>aJ) (λi ρ Z hi h f g=>h▸E1 (cN hi a) (g _ _ (aB rfl) rfl)) (λρ Z h=>h▸q)
theorem A_(m x:Nat):m<=tD m x/\x<=tD m x:=by
 unfold tD;split;·exact⟨bT ‹_›,bF _⟩
 ·exact⟨bF _,fS ‹_›⟩
theorem dW(L:List Nat):∀x∈L,x<=aF L:=by
 have gen:∀(l:List Nat)(b:Nat),b<=l.foldl tD b/\∀x∈l,x<=l.foldl tD b:=by
  intro l;induction l with
  |nil=>exactλb=>⟨bF _,λx h=>nomatch h⟩|cons y l a=>
   intro b;refine dA (a (tD b y)) λc d=>?_;refine⟨aa (A_ b y).1 c,λx hx=>?_⟩;rcases bB hx with rfl|hx;·exact aa (A_ b x).2 c
   ·exact d x hx
 exact(gen L 0).2
noncomputable def dY(L:List Nat):List Nat:=n8 L (aF L)
noncomputable def aw(L:List Nat)(i:Nat):Nat:=(L[i]?).getD 0
noncomputable def qf(L:List Nat)(i l:Nat):Nat:=if l=0 then 0 else xB (dY L) l+(L.take i).count l
noncomputable def bJ(L:List Nat)(i:Nat):Nat:=qf L i (aw L i)
noncomputable def Mt(L:List Nat):List Nat:=(List.range L.length).map (bJ L)
theorem fQ{L:List Nat}{i x l:Nat}(h:L[i]?=some x):(L.take (i+1)).count l=(L.take i).count l+(if l=x then 1 else 0):=by
 rw[mI,h,List.count_append];by_cases q:l=x;·rw[aE q,q];exact ak _ List.count_singleton_self
 ·rw[aA q];exact ak _ (List.count_eq_zero.mpr λm=>q (cO m))
theorem Id{L:List Nat}{i x:Nat}(h:L[i]?=some x)(hx:x≠0):qf L (i+1) x=qf L i x+1:=by unfold qf;rw[aA hx,aA hx,fQ h,aE rfl];rfl
theorem AT{L:List Nat}{i x l:Nat}(h:L[i]?=some x)(a:l≠x\/x=0):qf L (i+1) l=qf L i l:=by
 unfold qf;by_cases q:l=0;·rw[aE q,aE q]
 ·rw[aA q,aA q,fQ h,aA λz=>a.elim (λy=>y z) (λy=>q (z.trans y))];rfl
theorem o9{L:List Nat}{i x:Nat}(h:L[i]?=some x):aw L i=x:=ak (Option.getD · 0) h
theorem HP{b:Nat}{f:Nat->Nat}(h:b<=1000):((List.range b).map f).length<=1000:=by rw[aP,bf];exact h
theorem Ot{b i:Nat}{f:Nat->Nat}(h:i<b):i<((List.range b).map f).length:=by rw[aP,bf];exact h
theorem gm{b i:Nat}{f:Nat->Nat}(h:i<b):((List.range b).map f)[i]?=some (f i):=by rw[f_,oY h];rfl
theorem oB{i:Nat}{f:Nat->Nat}:(List.range i).map f++[f i]=(List.range (i+1)).map f:=by rw[pH,eR];rfl
theorem BT{a:Nat}{L:List Nat}(c:H a=some (.list (nl L)))(hs:L.length<=400)(d:aF L<=400)(e:∀j,j<=aF L+1->xB (dY L) j<=1152921504606846976)(q:∀r Z,H r=none->bt H Z->Z r=some (.list (nl (Mt L)))->Q (.ref r) Z):aj aq aI (n+2) false 5 [.ref a] Q X H:=by
 have g:L.length<=500:=aa hs (by decide);have k:aF L+1<=500:=aa (gb d) (by decide);refine ac pE (vs:=[.ref a]) rfl rfl ?_;intro Y m o ab;refine yx c (EC g) (m7 c (dW L) g (mT k) λr0 H0 ag e0 p=>?_);refine Hy p (by rw[du];exact k) (λj hj=>e j (by rw[du]at hj;exact hj)) λr1 J s e1 t=>?_;refine ai λu al w e2 y=>?_;refine bn ?_;intro A;have B:=(e0.trans e1).trans e2;have C:=e0.none s;have D:=(e0.trans e1).none w;have ne:r1≠u:=af w t;have E:z3 (dY L)=(List.range (aF L+1)).map (qf L 0):=by
  unfold z3;rw[show(dY L).length=aF L+1 from du _ _];refine f9 λl F=>?_;unfold qf;by_cases q:l=0;·rw[aE q,q];rfl
  ·rw[aA q];rfl
 refine n7 (B _ _ c) (EC g) ?_;refine qB (λi=>[(0,.ref a),(1,.ref r1),(2,.ref u)]) (λi Z=>Z r1=some (.list (nl ((List.range (aF L+1)).map (qf L i))))/\Z u=some (.list (nl ((List.range i).map (bJ L))))/\bt H Z) (aB rfl) (bz (by rw[<-E];exact e2 _ _ t) y B) (λi Z h=>(h.2.2 _ _ c).trans (B _ _ c).symm) (λi v ρ Z hv h ao G=>?_) (λρ Z h=>?_)
 ·refine lz h λI K M=>?_;try clear h
  (refine am (Kg hv) ?_;rintro x hx N;rw[N]);refine bn ?_;intro A;have hi:i<1000:=cN (jB hx).1 (EC g);have O:x<aF L+1:=sD (dW L x (cy hx));have P:=EC k;refine tF (λp=>?_) λp=>?_
  ·obtain rfl:x=0:=Int.ofNat_eq_zero.mp p;refine And.intro (cK K) (uK (x:=0) K (by rw[aP,bf];exact hi) λR e3 S=>G _ _ (aB rfl) (bz ?_ ?_ (M.b e3 D)));·exact(e3 _ _ ne I).trans (ak (λl=>some (AO.list (nl l))) (f9 λl F=>(AT hx (.inr rfl)).symm))
   ·exact S.trans (ak (λl=>some (AO.list (nl l))) (oB (f:=bJ L)▸by rw[show bJ L i=0 by unfold bJ;rw[o9 hx];rfl]))
  ·have T:x≠0:=λz=>p (z▸rfl);refine And.intro (cK K) (dp I (HP P) (gm O) (uK K (by rw[aP,bf];exact hi) λR e3 S=>?_));have U:=e3 _ _ ne I;refine dp U (HP P) (gm O) (v6 (x:=qf L i x+1) U (HP P) (Ot O) λap V h4=>G _ _ (aB rfl) (bz ?_ ?_ ((M.b e3 D).b V C)));·exact h4.trans (ak (λl=>some (AO.list (nl l))) (fP O (Id hx T) λj hj W=>AT hx (.inl W)))
   ·exact(V _ _ (eE ne) S).trans (ak (λl=>some (AO.list (nl l))) (oB (f:=bJ L)▸by rw[show bJ L i=qf L i x by unfold bJ;rw[o9 hx]]))
 ·exact q u Z D h.2.2 (h.2.1.trans (by rw[aP];rfl))
noncomputable def oP(C:List Nat):Nat->Nat|0=>0|1=>0|i+2=>oP C (i+1)+(C[i+1]?).getD 0
theorem wY(C:List Nat)(i:Nat):oP C (i+1)=oP C i+(if i=0 then 0 else(C[i]?).getD 0):=by cases i with|zero=>rfl|succ i=>rfl
theorem GI(C:List Nat){i j:Nat}(h:i<=j):oP C i<=oP C j:=by induction h with|refl=>exact bF _|step _ a=>rw[wY];exact Nat.le_add_right_of_le a
noncomputable def Cd(L:List Nat)(i l:Nat):Nat:=if l=0 then 0 else oP (dY L) l+(L.take i).count l
noncomputable def z_(L:List Nat)(i:Nat)(f:List Nat):List Nat:=if aw L i=0 then f else f.set (Cd L i (aw L i)) i
noncomputable def JV(L:List Nat):Nat->List Nat|0=>List.replicate (oP (dY L) (aF L+1)) 0|i+1=>z_ L i (JV L i)
noncomputable def bX(L:List Nat):List Nat:=JV L L.length
theorem qF(L:List Nat):∀i,(JV L i).length=oP (dY L) (aF L+1):=by
 intro i;induction i with
 |zero=>exact rO|succ i a=>
  have:=a;refine(?_:(z_ L i (JV L i)).length=_);unfold z_;split;·exact this
  ·rw[xP];exact this
theorem IO{L:List Nat}{x:Nat}(h:x<=aF L):(dY L)[x]?=some (L.count x):=gR h
theorem I8{L:List Nat}{i x:Nat}(hx:L[i]?=some x)(a:x≠0):Cd L i x<oP (dY L) (aF L+1):=by
 have b:=dW L x (cy hx);have c:oP (dY L) (x+1)=oP (dY L) x+L.count x:=by rw[wY,aA a,IO b];rfl
 have d:=GI (dY L) (gb b);have e:=fQ (l:=x) hx;rw[aE rfl]at e;have h4:(L.take (i+1)).count x<=L.count x:=(List.take_sublist _ _).count_le _;unfold Cd;rw[aA a];rw[c]at d;rw[e]at h4;exact cN (cN (Nat.add_lt_add_left (iY _) _) (uz h4 _)) d
theorem Mc{L:List Nat}{i x:Nat}(h:L[i]?=some x)(hx:x≠0):Cd L (i+1) x=Cd L i x+1:=by unfold Cd;rw[aA hx,aA hx,fQ h,aE rfl];rfl
theorem Gq{L:List Nat}{i x l:Nat}(h:L[i]?=some x)(a:l≠x\/x=0):Cd L (i+1) l=Cd L i l:=by
 unfold Cd;by_cases q:l=0;·rw[aE q,aE q]
 ·rw[aA q,aA q,fQ h,aA λz=>a.elim (λy=>y z) (λy=>q (z.trans y))];rfl
theorem B2:∀(l:List Nat)(k:Nat),bA k (nl l)=(List.range l.length).map λi=>V.tup [nv (k+i),nv ((l[i]?).getD 0)]:=by intro l;induction l with|nil=>intro _;exact rfl|cons x l a=>intro k;refine(?_:V.tup [.int k,nv x]::bA (k+1) (nl l)=_);rw[a (k+1),mo,List.range_succ_eq_map,gT,bO];refine ak (V.tup [.int k,nv x]::·) (f9 λi b=>?_);skip;rw[jL,dM];rfl
theorem jF{K:(Hp->Prop)->List V->Hp->Prop}{a:Nat}{l:List Nat}(h:H a=some (.list (nl l)))(b:l.length<=1000)(k:K (λZ=>Z a=H a) ((List.range l.length).map λi=>V.tup [nv (0+i),nv (aw l i)]) H):gc .enum (.ref a) K H:=dk (.inl (aL a (nl l) rfl h ((B2 l 0).symm))) (by rw[aP,bf];exact cI b) k
theorem IN{a:Nat}{L:List Nat}(c:H a=some (.list (nl L)))(hs:L.length<=400)(a0:aF L<=400)(a1:oP (dY L) (aF L+1)<=400)(q:∀r Z,H r=none->bt H Z->Z r=some (.list (nl (bX L)))->Q (.ref r) Z):aj aq aI (n+2) false 7 [.ref a] Q X H:=by
 have d:L.length<=500:=aa hs (by decide);have e:aF L+1<=500:=aa (gb a0) (by decide);have f:oP (dY L) (aF L+1)<=1000:=aa a1 (by decide);have g:(dY L).length=aF L+1:=du _ _;have k:(dY L).length<=1000:=g▸EC e;have m:=EC e;refine ac pz (vs:=[.ref a]) rfl rfl ?_;intro Y a' ba bb;refine yx c (EC d) (m7 c (dW L) d (mT e) λrc H0 bd e0 o=>?_);have o:H0 rc=some (.list (nl (dY L))):=o;refine ai λr0 J bi e1 a2=>iT (e1 _ _ o) k (vz (x:=0) a2 k λp bl s e2 a3=>?_);have t:=(e1.trans e2) _ _ o;have u:=(e0.trans e1).none s;have a4:=(e0.trans e1).trans e2;have w:rc≠p:=af s (e1 _ _ o);refine iT t k (vH (i:=1) (by decide) k (gV (a:=1) k ?_));refine be (λi=>[(0,.ref a),(1,.ref rc),(2,.ref p),(3,nv (oP (dY L) (i+1)))]) (λi Z=>Z p=some (.list (nl ((List.range (dY L).length).map λj=>if j<=i then oP (dY L) j else 0)))/\Z rc=some (.list (nl (dY L)))/\bt H Z) (aB rfl) (bz ?_ t a4) (λi H h=>aJ) (λi ρ Z hi h a5 y=>?_) (λρ Z h=>?_)
 ·refine a3.trans (ak (λl=>some (AO.list (nl l))) ((xY _).trans (f9 λj hj=>?_)));by_cases q:j<=0;·rw[aE q,Nat.le_zero.mp q];rfl
  ·rw[aA q]
 ·refine lz h λA B C=>?_;try clear h
  have D:i+1<(dY L).length:=B5 hi;rw[dQ 1 i];refine bn ?_;intro E;refine v6 (x:=oP (dY L) (i+1)) A (HP k) (Ot D) λa6 e3 F=>dp (e3 _ _ w B) k (fz D) ?_;refine y _ _ (jN rfl rfl rfl (ak (λv=>some (nv v)) ?_) aJ) (bz ?_ (e3 _ _ w B) (C.b e3 u));·refine(?_:_=oP (dY L) (i+1)+((dY L)[i+1]?).getD 0);rw[fz D];rfl
  ·refine F.trans (ak (λl=>some (AO.list (nl l))) (fP D (aE (bF _)) λj hj G=>?_));by_cases I:j<=i;·rw[aE I,aE (tY I)]
   ·rw[aA I,aA λz=>(Nat.le_or_eq_of_le_succ z).elim I G]
 ·refine lz h λA B C=>?_;try clear h
  have K:Z p=some (.list (nl ((List.range (aF L+1)).map (Cd L 0)))):=by
   refine A.trans (ak (λl=>some (AO.list (nl l))) ?_);rw[g];refine f9 λj hj=>?_;rw[aE (ur (gi hj))];unfold Cd;by_cases M:j=0;·rw[aE M,M];rfl
   ·rw[aA M];rfl
  have F:(dY L).length-1+1=aF L+1:=by rw[g];rfl
  refine(?_:l5 aq (aj aq aI (n+1)) false _ _ _ _ _ (jE ρ [(0,.ref a),(1,.ref rc),(2,.ref p),(3,nv (oP (dY L) ((dY L).length-1+1)))]) _);rw[F];refine bn ?_;intro E;refine ai λr1 a6 bo e3 g3=>vz (x:=0) g3 f λN bs O P g4=>?_;have R:=(C.trans e3).trans P;have S:=(C.trans e3).none O;have ab:p≠N:=af O (e3 _ _ K);refine jF (R _ _ c) (EC d) ?_;refine be (λi=>[(0,.ref a),(2,.ref p),(5,.ref N)]) (λi Z=>Z p=some (.list (nl ((List.range (aF L+1)).map (Cd L i))))/\Z N=some (.list (nl (JV L i)))/\bt H Z) (aB rfl) (bz ((e3.trans P) _ _ K) g4 R) (λi Z h=>(h.2.2 _ _ c).trans (R _ _ c).symm) (λi ρ ag hi h=>?_) (λρ ag h=>q N ag S h.2.2 h.2.1);refine lz h λT al ao=>?_;try clear h
  have hx:L[i]?=some (aw L i):=by rw[o9 (fz hi)];exact fz hi
  have U:JV L (i+1)=if aw L i=0 then JV L i else(JV L i).set (Cd L i (aw L i)) i:=rfl;rw[aU];generalize aw L i=x at hx U;have V:x<aF L+1:=sD (dW L x (cy hx));refineλa5 y=>?_;refine bn ?_;intro E;refine iB (λo=>?_) λo=>?_
  ·have W:x≠0:=λz=>by rw[z]at o;exact absurd o (by decide)
   rw[aA W]at U;refine dp T (HP m) (gm V) (v6 (x:=i) al (by rw[qF];exact f) (by rw[qF];exact I8 hx W) λbv ap a7=>?_);refine N7 ?_;intro E;have ar:=ap _ _ ab T;refine dp ar (HP m) (gm V) (v6 (x:=Cd L i x+1) ar (HP m) (Ot V) λb1 av a8=>y _ _ (aB rfl) (bz ?_ ?_ ((ao.b ap S).b av u)));·exact a8.trans (ak (λl=>some (AO.list (nl l))) (fP V (Mc hx W) λj hj G=>Gq hx (.inl G)))
   ·rw[U];exact av _ _ (eE ab) a7
  ·have W:x=0:=xU λz=>o (dP z);rw[aE W]at U;refine y _ _ (aB rfl) (bz ?_ (by rw[U];exact al) ao);exact T.trans (ak (λl=>some (AO.list (nl l))) (f9 λl b2=>(Gq hx (.inr W)).symm))
variable{hd:Bool}
theorem si{k:Nat}(q:Q .none H):aj aq aI (n+1) false 25 [nv k] Q X H:=by refine ac mK (vs:=[nv k]) rfl rfl ?_;intro Y a b c;exact dR.k (an k rfl (dR.k (an k rfl (jv (λh=>absurd h (zm (cf k))) λd=>q))))
theorem yK{v k:Nat}(h:v<2^k)(q:Q .none H):aj aq aI (n+2) false 26 [nv v,nv k] Q X H:=by refine ac mP (vs:=[nv v,nv k]) rfl rfl ?_;intro Y a b c;refine si ?_;refine dR.k (an v rfl (jv (λh=>absurd h (zm (cf v))) λd=>?_));refine jm ?_;rw[q9 h];exact Gy (λd=>q) λz=>absurd rfl z
noncomputable def qa(W k:Nat):List Nat:=(List.range k).map λi=>W/256^i%256
theorem mW(W k:Nat):(qa W k).length=k:=by skip;rw[aP,bf]
theorem xD(W k:Nat):qa W k++[W/256^k%256]=qa W (k+1):=oB (f:=λi=>W/256^i%256)
noncomputable def Dh(H:Hp)(o dx m W a:Nat):Prop:=H o=some (.inst 5 dx)/\H dx=some (.attrs [(12,.ref m),(13,nv (W/256^(a/8))),(14,nv (a%8))])/\H m=some (.ba (qa W (a/8)))/\W<2^a
theorem FJ{x i v:Nat}(h:x<2^i):(x|||v*2^i)=x+v*2^i:=by rw[Nat.or_comm,fB v,<-Nat.two_pow_add_eq_or_of_lt h v,dQ]
theorem FF(a:Nat):2^a=2^(a%8)*256^(a/8):=by
 have:2^(a%8+8*(a/8))=2^(a%8)*256^(a/8):=by rw[gM,Nat.pow_mul]
 rwa[wT]at this
theorem A6{W a:Nat}(h:W<2^a):W/256^(a/8)<2^(a%8):=by rw[FF]at h;exact Nat.div_lt_of_lt_mul (by rw[fB];exact h)
theorem Fp(W a v:Nat):(W+v*2^a)/256^(a/8)=W/256^(a/8)+v*2^(a%8):=by rw[FF a,<-nu,Nat.add_mul_div_right _ _ (Nat.pow_pos (by decide))]
theorem Jt(W a v:Nat):qa (W+v*2^a) (a/8)=qa W (a/8):=by
 refine f9 λi hi=>?_;rw[List.mem_range]at hi;have e:2^a=2^(a-8*(i+1))*256*256^i:=by
  have:2^(a-8*(i+1)+8*(i+1))=2^(a-8*(i+1))*256*256^i:=by rewrite[gM,Nat.mul_add,gM 2 (8*i),Nat.pow_mul];rw[nu,fB 256]
  rwa[rY (aa (kW 8 hi) (Nat.mul_div_le a 8))]at this
 rw[e,<-nu,Nat.add_mul_div_right _ _ (Nat.pow_pos (by decide)),<-nu,Nat.add_mul_mod_self_right]
theorem O2{W a v c:Nat}(h:W<2^a)(hv:v<2^c):W+v*2^a<2^(a+c):=by have:(v+1)*2^a<=2^c*2^a:=Nat.mul_le_mul_right _ hv;rw[gM,fB (2^a)];rw[Nat.add_mul,Nat.one_mul,dQ]at this;exact cN (Ci h _) this
theorem vR{x k:Nat}(h:x<2^k)(a:k<=60):Sm x:=ka (jZ (by decide) (cf x)) (gL (aa (bT h) (aa (kQ (by decide) a) (by decide))))
theorem EO{o dx m W a v c:Nat}(b:Dh H o dx m W a)(d:dx≠m)(ho:o≠dx)(e:o≠m)(hv:v<2^c)(f:c<=30)(g:a<=100000)(q:∀Z,d_ dx m H Z->Dh Z o dx m (W+v*2^a) (a+c)->Q .none Z):hZ aq aI (n+3) 37 [.ref o,nv v,nv c] Q H:=by
 refine tE b λi l p h4=>?_;try clear b
 refine jH gZ (vs:=[.ref o,nv v,nv c]) rfl rfl ?_;intro Y Ψ r s;refine fD (yK hv ?_);have t:a%8<8:=dG _ (by decide);refine ae i l rfl (ae i l rfl (rH (k:=a%8) (aa (bT t) (by decide)) (vR hv (aa f (by decide))) ?_));refine IB ?_;rw[FJ (A6 h4),<-Fp];refine aV i l rfl λJ e1 g1=>?_;have u:=e1 _ _ ho i;refine ae u g1 rfl (aV u g1 rfl λw e2 g2=>?_);have x:=e2 _ _ ho u;have y:=e2 _ _ (eE d) (e1 _ _ (eE d) p);have A:=O2 h4 hv;rw[<-Jt W a v]at y;generalize W+v*2^a=C at*;refine qw (λk=>k) (λD=>[(0,.ref o)]) (λk Z=>∃j,k=a+c-8*j/\8*j<=a+c/\Z o=some (.inst 5 dx)/\Z dx=some (.attrs [(12,.ref m),(13,nv (C/256^j)),(14,nv k)])/\Z m=some (.ba (qa C j))/\d_ dx m H Z) (λk ρ Z B h E=>?_) (z:=a%8+c) (aB rfl) (Cb (a/8) (Qi a c) (aa (Nat.mul_div_le a 8) (gh ..)) x g2 y ((d_.of1 e1).trans (d_.of1 e2)));refine jO ?_;intro F;refine v0 h λj G hj I g3 K e3=>?_;try clear h
 refine ae I g3 rfl (NF (λL=>?_) λL=>?_)
 ·have L:8<=k:=ux L;refine ae I g3 rfl (And.intro (aY m _ rfl K) (ae I g3 rfl (uG (k:=255) ?_)));rw[show(C/256^j&&&255)=C/256^j%256 from Bt _ 8];refine LU K (dG _ (by decide)) (by rw[mW];exact fm (aa (Nat.le_mul_of_pos_left j (by decide:0<8)) (aa hj (um g f))) (by decide)) λM N O=>?_;rw[xD]at O;have P:=N _ _ e I;have g4:=N _ _ d g3;refine ae P g4 rfl (jm (k:=8) ?_);rw[vE,show 256^j*2^8=256^(j+1)from rfl];refine aV P g4 rfl λR S g5=>?_;refine lM ?_;intro F;have T:=S _ _ ho P;refine ae T g5 rfl (aV T g5 rfl λab U V=>E (k-8) _ _ (Nat.sub_lt (cN (by decide) L) (by decide)) (aB rfl) (Cb (j+1) (by rw[G,Nat.sub_sub]) (by rw[Nat.mul_add,dQ];exact Nat.add_le_of_le_sub hj (G▸L)) (U _ _ ho T) ?_ (U _ _ (eE d) (S _ _ (eE d) O)) (((e3.trans (.of2 N)).trans (.of1 S)).trans (.of1 U))));exact V.trans (ak (λv=>some (AO.attrs [(12,.ref m),(13,nv (C/256^(j+1))),(14,.int v)])) (jC L).symm)
 ·have L:k<8:=eY (Int.not_le.mp L);have X:a+c=8*j+k:=by rw[G,Nat.add_sub_of_le hj]
  rw[<-Pu X L]at g3;rw[<-Pu X L]at K;rw[<-Qd X L]at g3;exact q _ e3 (et I g3 K A)
theorem JB{o dx:Nat}(a:H o=some (.inst 5 dx))(b:H dx=some (.attrs []))(c:o≠dx)(q:∀m Z,H m=none->aG dx H Z->Dh Z o dx m 0 0->Q .none Z):hZ aq aI (n+1) 36 [.ref o] Q H:=by refine jH h_ (vs:=[.ref o]) rfl rfl ?_;intro Y Ψ d e;refine ai λm J f e1 g1=>?_;have g:=e1 _ _ a;have nm:m≠dx:=(af f b).symm;refine aV g (e1 _ _ b) rfl λh e2 g2=>?_;have i:=e2 _ _ c g;refine aV i g2 rfl λj e3 g3=>?_;have k:=e3 _ _ c i;refine aV k g3 rfl λl p g4=>?_;exact q m l f ((((aG.of e1).trans e2).trans e3).trans p) (et (p _ _ c k) g4 (p _ _ nm (e3 _ _ nm (e2 _ _ nm g1))) (by decide))
theorem zx{o dx m W a:Nat}(b:Dh H o dx m W a)(c:a<=100000)(q:Q (nv a) H):aj aq aI (n+1) hd 39 [.ref o] Q X H:=by
 refine tE b λd e f h4=>?_;try clear b
 refine ac ik (vs:=[.ref o]) rfl rfl ?_;intro Y g h i;refine GZ.l (ae d e rfl (dR.k (.inr (.inl (bW m _ rfl f (by rw[mW];exact aa (yI ..) (aa c (by decide))) (gY (.inr (.inl ⟨by decide,by decide⟩)) (ae d e rfl ?_)))))));rw[mW];refine(?_:Q (nv (8*(a/8)+a%8)) H);rw[jc];exact q
theorem ES(xs:List Nat):(xs.map λ(n:Nat)=>(n:Int)).map Int.toNat=xs:=by rw[bO];exact List.map_id xs
theorem KR{o dx m W a:Nat}(b:Dh H o dx m W a)(c:a<=100000)(q:∀Z,bt H Z->Q (.bytes (qa W ((a+7)/8))) Z):aj aq aI (n+1) false 40 [.ref o] Q X H:=by
 refine tE b λd e f h4=>?_;try clear b
 have g:=A6 h4;have i:a%8<8:=dG _ (by decide);have hz:a/8<=100000:=aa (yI ..) c;refine ac iu (vs:=[.ref o]) rfl rfl ?_;intro Y j l p;refine wb (λv J=>bt H J/\∃r xs,v=.ref r/\J r=some (.list (nl xs))/\xs.length<=1/\(∀x∈xs,x<256)/\qa W (a/8)++xs=qa W ((a+7)/8)) (λQ X k=>ae d e rfl (iB (λh=>?_) λh=>?_)) λv J h=>?_
 ·have h:=eY h;refine ae d e rfl ((ai λr J hr e1 g1=>k _ _ (yC e1 r [W/256^(a/8)] rfl g1 (bF 1) (λx hx=>?_) ?_)));·rw[cO hx];exact cN g (kQ (by decide) (bT i))
  ·rw[Px h,<-xD,te (cN g (kQ (by decide) (bT i):2^(a%8)<=2^8))]
 ·have h:=λz=>h (dP z);refine ai λr J hr e1 g1=>k _ _ (yC e1 r [] rfl g1 (cR 1) (λx hx=>nomatch hx) ?_);rw[PH h,jQ]
 ·(refine EE (h) ?_;try clear h;rintro e1 r xs s;rw[s];rintro hr t u w);refine ae (e1 _ _ d) (e1 _ _ e) rfl (dR.k (.inr (.inr (bW m _ rfl (e1 _ _ f) (by rw[mW];exact aa hz (by decide)) (dR.k (.inr (.inl (fx r (xs.map λ(n:Nat)=>(n:Int)) rfl (hr.trans (ak some (i0 xs))) (λx hx=>?_) (by rw[aP];exact aa t (by decide)) ?_))))))))
  ·(refine am (dm hx) ?_;rintro y A B;rw[<-B]);exact⟨cf y,dP (u y A)⟩
  ·rw[ES];refine bK.k (bz rfl ?_ (by rw[w];exact q J e1));rw[mW];exact aa (um hz t) (by decide)
theorem Mi{o dx m W a c k:Nat}(b:Dh H o dx m W a)(d:dx≠m)(ho:o≠dx)(e:o≠m)(hv:c<2^k)(f:k<=30)(g:a<=100000)(q:∀Z,d_ dx m H Z->Dh Z o dx m (W+aH c k*2^a) (a+k)->Q .none Z):hZ aq aI (n+4) 38 [.ref o,nv c,nv k] Q H:=by have r_:k<=1000:=aa f (by decide);refine jH gU (vs:=[.ref o,nv c,nv k]) rfl rfl ?_;intro Y Ψ j l;refine fD (yK hv (eW r_ (bD r_ ?_)));refine be (λi=>[(0,.ref o),(1,nv c),(2,nv k),(3,nv (aH c i))]) (λi Z=>Z=H) (aB rfl) rfl (λi H h=>aJ) (λi ρ Z hi h p g=>h▸E1 (cN hi (aa f (by decide))) (g _ _ (aB rfl) rfl)) λρ Z h=>?_;refine lM ?_;intro r;cases h;exact d9 b.1 b.2.1 (EO b d ho e (eP c k) f g q)
noncomputable def B'(H:Hp)(o dx l c:Nat)(L:List Nat):Prop:=H o=some (.inst 3 dx)/\H dx=some (.attrs [(0,.ref l),(1,.ref c)])/\H l=some (.list (nl L))/\H c=some (.list (nl (Mt L)))
theorem B'.ext{H Z:Hp}{o dx l c:Nat}{L:List Nat}(h:B' H o dx l c L)(e:bt H Z):B' Z o dx l c L:=et (e _ _ h.1) (e _ _ h.2.1) (e _ _ h.2.2.1) (e _ _ h.2.2.2)
theorem G6{a:Nat}{l:List Nat}(h:H a=some (.list (nl l)))(b:l.length<=1000)(k:∀r Z,H r=none->bt H Z->Z r=some (.list (nl l))->Q (.ref r) Z):dR .list [.ref a] Q H:=dR.k (bW a _ rfl h (wr b) (ai k))
theorem aG.none{H Z:Hp}{dx c:Nat}{o:AO}(e:aG dx H Z)(hx:Z dx=some o)(h:Z c=none):H c=none:=by cases z:H c with|none=>rfl|some a=>rw[e c a (λq=>by rw[q]at h;rw[hx]at h;cases h) z]at h;cases h
theorem yN{o dx a:Nat}{L:List Nat}(b:H o=some (.inst 3 dx))(d:H dx=some (.attrs []))(f:o≠dx)(g:H a=some (.list (nl L)))(hs:L.length<=400)(h:aF L<=400)(i:∀j,j<=aF L+1->xB (dY L) j<=1152921504606846976)(q:∀l c Z,H l=none->H c=none->aG dx H Z->B' Z o dx l c L->Q .none Z):aj aq aI (n+3) false 15 [.ref o,.ref a] Q X H:=by
 refine ac fh (vs:=[.ref o,.ref a]) rfl rfl ?_;intro Y k m p;refine G6 g (aa hs (by decide)) λl J r e1 g1=>?_;have s:l≠dx:=(af r d).symm;have t:a≠dx:=λe=>by rw[e,d]at g;cases g
 refine aV (e1 _ _ b) (e1 _ _ d) rfl λu e2 g2=>?_;have v:=e2 _ _ f (e1 _ _ b);refine BT (e2 _ _ t (e1 _ _ g)) hs h i λc w x e3 g3=>?_;have y:c≠dx:=(af x g2).symm;refine aV (e3 _ _ v) (e3 _ _ g2) rfl λz A g4=>?_;exact q l c z r (e1.none (e2.none g2 x)) ((((aG.of e1).trans e2).trans (.of e3)).trans A) (et (A _ _ f (e3 _ _ v)) g4 (A _ _ s (e3 _ _ (e2 _ _ s g1))) (A _ _ y g3))
noncomputable def uZ(L:List Nat)(s:Nat):V:=if aw L s=0 then .none else nv (aw L s)
theorem wd{o dx l c s:Nat}{L:List Nat}(h:B' H o dx l c L)(hs:L.length<=400)(q:Q (uZ L s) H):aj aq aI (n+1) hd 16 [.ref o,nv s] Q X H:=by
 have hs:L.length<=1000:=aa hs (by decide);refine tE h λa b d h4=>?_;try clear h
 unfold uZ at q;refine ac fb (vs:=[.ref o,nv s]) rfl rfl ?_;intro Y e f g;refine qP (cf s) (GZ.l (ae a b rfl (iT d hs (jv (λi=>?_) λi=>?_))))
 ·have j:L[s]?=some (aw L s):=by rw[o9 (fz (eY i))];exact fz _
  refine ae a b rfl (dp d hs j (tF (λk=>?_) λk=>ae a b rfl (dp d hs j ?_)));·rw[aE (Int.ofNat_eq_zero.mp k)]at q;exact q
  ·rw[aA (λz=>k (Int.ofNat_eq_zero.mpr z))]at q;exact q
 ·rw[aE (by unfold aw;rw[iJ (fS λz=>i (dP z))];rfl)]at q;exact q
theorem Mz{o dx l c w s:Nat}{L:List Nat}(h:B' H o dx l c L)(hs:L.length<=400)(a:s<=1000)(b:aw L s=0)(x:X 1 H):aj aq aI (n+2) false 17 [.ref o,.ref w,nv s] Q X H:=by refine ac cU (vs:=[.ref o,.ref w,nv s]) rfl rfl ?_;intro Y d e f;refine d9 h.1 h.2.1 (wd h hs ?_);unfold uZ;rw[aE b];exact And.intro (cf s) (And.intro (dP (fm a (by decide))) λg=>x)
theorem Ip{o dx l c w a m s W b:Nat}{L:List Nat}(h:B' H o dx l c L)(hs:L.length<=400)(d:aw L s≠0)(e:Dh H w a m W b)(f:a≠m)(ho:w≠a)(g:w≠m)(i:bJ L s<2^aw L s)(j:aw L s<=30)(k:b<=100000)(q:∀Z,d_ a m H Z->Dh Z w a m (W+aH (bJ L s) (aw L s)*2^b) (b+aw L s)->Q .none Z):hZ aq aI (n+5) 17 [.ref o,.ref w,nv s] Q H:=by
 have p:L.length<=1000:=aa hs (by decide);have r:s<L.length:=mi λz=>d (by unfold aw;rw[iJ z];rfl);have t:L[s]?=some (aw L s):=by rw[o9 (fz r)];exact fz _
 refine jH cU (vs:=[.ref o,.ref w,nv s]) rfl rfl ?_;intro Y Ψ u v;refine d9 h.1 h.2.1 (wd h hs ?_);unfold uZ;rw[aA d];exact d9 e.1 e.2.1 (ae h.1 h.2.1 rfl (dp h.2.2.2 (HP p) (gm r) (ae h.1 h.2.1 rfl (dp h.2.2.1 p t (Mi e f ho g i j k q)))))
theorem Nk{D:List Nat}{st stop:Nat}{e:V}(a:(e=.none/\stop=D.length)\/e=nv stop)(b:st<=stop)(c:stop<=D.length)(d:D.length<=1000)(q:Q (nv stop) H):aj aq aI (n+1) false 27 [.bytes D,nv st,e] Q X H:=by
 refine ac zh (vs:=[.bytes D,nv st,e]) rfl rfl ?_;intro Y f g i;refine wb (λv Z=>v=nv stop/\Z=H) (λQ X k=>?_) λv Z h=>?_
 ·rcases a with⟨rfl,rfl⟩|rfl;·exact mN d (k _ _ ⟨rfl,rfl⟩)
  ·exact k _ _ ⟨rfl,rfl⟩
 ·(refine dA (h) ?_;try clear h;rintro rfl j;rw[j]);exact qP (cf st) (qP (gL b) (mN d (qP (gL c) q)))
theorem OW(c:Nat):(1:Int)*2^c-1=((2^c-1:Nat):Int):=by rw[jC Nat.one_le_two_pow,Int.natCast_pow,Int.one_mul];rfl
theorem Fs(x g m:Nat):x%2^g+x/2^g%2^m*2^g=x%2^(g+m):=by rw[gM,Nat.mod_mul,fB]
theorem Gu{T pl i:Nat}(hi:i<=8):T/256^pl%256/2^i=T/2^(8*pl+i)%2^(8-i):=by
 have e:256=2^i*2^(8-i):=by rw[<-gM,mH hi]
 rw[gM,Nat.pow_mul,<-vE];conv=>lhs;lhs;rhs;rw[e]
 exact Bq ..
theorem Fy{D:List Nat}{T a c stop:Nat}(b:∀i,i<stop->D[i]?=some (T/256^i%256))(d:T<2^(8*stop))(f:D.length<=1000)(j:c<=30)(hs:stop<=1000)(q:Q (nv (T/2^a%2^c)) H):aj aq aI (n+1) false 28 [.bytes D,nv a,nv c,nv stop] Q X H:=by
 refine ac rB (vs:=[.bytes D,nv a,nv c,nv stop]) rfl rfl ?_;intro Y l m o;refine ?_;refine jO ?_;intro p;refine jm (k:=3) (uG (k:=7) ?_);refine ?_;rw[show(a&&&7)=a%8 from Bt a 3];refine qw (λg=>8*stop-g) (λg=>[(0,.bytes D),(2,nv c),(3,nv stop),(4,nv (T/2^a%2^g)),(5,nv g),(6,nv ((a+g)/8)),(7,nv ((a+g)%8))]) (λg Z=>Z=H) (λg ρ Z B h r=>?_) (z:=0) (fL rfl rfl rfl (ak (λv=>some (nv v)) (by rw[t4,Nat.mod_one])) rfl rfl rfl aJ) rfl;cases(h);have s:(c<=g\/stop<=(a+g)/8)->T/2^a%2^g%2^c=T/2^a%2^c:=λz=>by
  rcases z with z|z;·exact Nat.mod_mod_of_dvd _ (Nat.pow_dvd_pow 2 z)
  ·rw[te (Nat.div_lt_of_lt_mul (by rw[<-gM];exact cN d (kQ (by decide) (aa (kW 8 z) (Nat.mul_div_le _ _)))))]
 refine jO ?_;intro p;have out:T/2^a%2^g%2^c=T/2^a%2^c->bK .shl (.int 1) (nv c) (λx J=>mQ .sub x (.int 1) (λy t=>mQ .and (nv (T/2^a%2^g)) y Q t) J) H:=λe=>by refine A8 (k:=c) (aa j (by decide)) (ka (by decide) (by decide)) ?_;refine(?_:bK .and (nv (T/2^a%2^g)) (.int (1*2^c-1)) Q H);rw[OW];refine uG ?_;rw[Bt,e];exact q
 refine jv (λu=>?_) λu=>out (s (.inl (fS λz=>u (dP z))));refine jv (λw=>?_) λw=>out (s (.inr (fS λz=>w (dP z))));have u:=eY u;have w:=eY w;have hi:(a+g)%8<8:=dG _ (by decide);refine Iv f (b _ w) (jm ?_);rw[Gu (bT hi),jc];have hv:T/2^(a+g)%2^(8-(a+g)%8)<2^8:=cN (dG _ (jD _)) (kQ (by decide) (i' ..));refine rH (aa (bT u) (aa j (by decide))) (vR hv (by decide)) (IB ?_);rw[FJ (dG _ (jD _)),gM,<-vE,Fs];refine r (g+(8-(a+g)%8)) _ _ (AZ (fm (uF g a) (by rw[fB];exact(zd (by decide)).mp w)) (Nat.lt_add_of_pos_right (xG hi))) (fL rfl rfl rfl rfl ?_ ?_ ?_ aJ) rfl;·exact ak (λv=>some (V.int v)) (by rw[Int.natCast_add g,jC (bT hi)];rfl)
 ·exact ak (λv=>some (V.int v)) (by rw[<-dM,Qa];rfl)
 ·exact ak (λv=>some (V.int v)) (by rw[<-dM,Qf];rfl)
noncomputable def kq(H:Hp)(o dx:Nat)(D:List Nat)(T stop p:Nat):Prop:=H o=some (.inst 4 dx)/\H dx=some (.attrs [(9,.bytes D),(10,nv stop),(11,nv p)])/\(∀i,i<stop->D[i]?=some (T/256^i%256))/\T<2^(8*stop)/\D.length<=1000/\stop<=D.length/\p<=8*stop
theorem FS{o dx st stop T:Nat}{D:List Nat}{e:V}(a:H o=some (.inst 4 dx))(b:H dx=some (.attrs []))(c:o≠dx)(d:(e=.none/\stop=D.length)\/e=nv stop)(f:st<=stop)(hs:stop<=D.length)(g:D.length<=1000)(h:∀i,i<stop->D[i]?=some (T/256^i%256))(j:T<2^(8*stop))(q:∀Z,aG dx H Z->kq Z o dx D T stop (8*st)->Q .none Z):aj aq aI (n+2) false 29 [.ref o,.bytes D,nv st,e] Q X H:=by refine ac a9 (vs:=[.ref o,.bytes D,nv st,e]) rfl rfl ?_;intro Y k l m;refine dR.k (.inl (an D rfl (aV a b rfl λp e2 g2=>?_)));have r:=e2 _ _ c a;refine ae r g2 rfl (Nk d f hs g (aV r g2 rfl λs e3 g3=>?_));have t:=e3 _ _ c r;refine gY (.inr (.inl ⟨by decide,by decide⟩)) (aV t g3 rfl λu v g4=>?_);exact q u ((e2.trans e3).trans v) (mj (v _ _ c t) g4 h j g hs (kW 8 f))
section
variable{o dx T stop p c:Nat}{D:List Nat}
theorem Lo(h:kq H o dx D T stop p)(q:Q (nv (8*stop-p)) H):aj aq aI (n+1) hd 30 [.ref o] Q X H:=by refine ac hG (vs:=[.ref o]) rfl rfl ?_;intro Y a b c;refine ae h.1 h.2.1 rfl (gY (.inr (.inl ⟨by decide,by decide⟩)) (ae h.1 h.2.1 rfl ?_));rw[nv,jC h.2.2.2.2.2.2]at q;exact q
theorem zt(h:kq H o dx D T stop p)(a:c<=30)(q:Q (nv (T/2^p%2^c)) H):aj aq aI (n+2) false 31 [.ref o,nv c] Q X H:=by refine ac ip (vs:=[.ref o,nv c]) rfl rfl ?_;intro Y b d e;refine si ?_;exact ae h.1 h.2.1 rfl (ae h.1 h.2.1 rfl (ae h.1 h.2.1 rfl (Fy h.2.2.1 h.2.2.2.1 h.2.2.2.2.1 a (aa h.2.2.2.2.2.1 h.2.2.2.2.1) q)))
theorem ET(h:kq H o dx D T stop p)(a:o≠dx)(x:8*stop-p<c->X 0 H)(q:c<=8*stop-p->∀Z,aG dx H Z->kq Z o dx D T stop (p+c)->Q .none Z):aj aq aI (n+2) false 32 [.ref o,nv c] Q X H:=by refine ac hM (vs:=[.ref o,nv c]) rfl rfl ?_;intro Y b d e;refine si ?_;refine d9 h.1 h.2.1 (Lo h (iB (λz=>x (eY z)) λz=>?_));have z:c<=8*stop-p:=fS λy=>z (dP y);exact ae h.1 h.2.1 rfl (aV h.1 h.2.1 rfl λf e2 g2=>q z f e2 (mj (e2 _ _ a h.1) g2 h.2.2.1 h.2.2.2.1 h.2.2.2.2.1 h.2.2.2.2.2.1 (aa (uz z p) (jP (mH h.2.2.2.2.2.2)))))
theorem Ee(h:kq H o dx D T stop p)(a:o≠dx)(b:c<=30)(x:8*stop-p<c->X 0 H)(q:c<=8*stop-p->∀Z,aG dx H Z->kq Z o dx D T stop (p+c)->Q (nv (T/2^p%2^c)) Z):aj aq aI (n+3) false 33 [.ref o,nv c] Q X H:=by refine ac ib (vs:=[.ref o,nv c]) rfl rfl ?_;intro Y d e f;refine d9 h.1 h.2.1 (zt h b ?_);exact d9 h.1 h.2.1 (ET h a x q)
theorem N4(h:kq H o dx D T stop p)(a:o≠dx)(x:8*stop-p<1->X 0 H)(q:1<=8*stop-p->∀Z,aG dx H Z->kq Z o dx D T stop (p+1)->Q (nv (T/2^p%2)) Z):aj aq aI (n+4) false 34 [.ref o] Q X H:=by refine ac jn (vs:=[.ref o]) rfl rfl ?_;intro Y b d e;exact d9 h.1 h.2.1 (Ee (c:=1) h a (by decide) x q)
theorem HN(h:kq H o dx D T stop p)(q:Q (nv ((p+7)/8)) H):aj aq aI (n+1) hd 35 [.ref o] Q X H:=by refine ac gw (vs:=[.ref o]) rfl rfl ?_;intro Y a b c;exact ae h.1 h.2.1 rfl (jm (m:=p+7) (k:=3) q)
end
structure GL(L:List Nat):Prop where
 s:L.length<=6
 m:aF L<=4
 ok:Ek L 15
 fc:∀j,j<=5->xB (dY L) j<=1000
 room:oP (dY L) (aF L+1)<=6
theorem GL.s4{L:List Nat}(g:GL L):L.length<=400:=aa g.s (by decide)
theorem GL.s5{L:List Nat}(g:GL L):L.length<=500:=aa g.s (by decide)
theorem GL.s10{L:List Nat}(g:GL L):L.length<=1000:=aa g.s (by decide)
theorem GL.m4{L:List Nat}(g:GL L):aF L<=400:=aa g.m (by decide)
theorem GL.m5{L:List Nat}(g:GL L):aF L<=500:=aa g.m (by decide)
theorem GL.le{L:List Nat}(g:GL L){k:Nat}(a:4<=k):∀x∈L,x<=k:=λx hx=>aa (dW L x hx) (aa g.m a)
theorem GL.fcl{L:List Nat}(g:GL L):∀j,j<=aF L+1->xB (dY L) j<=1152921504606846976:=λj hj=>aa (g.fc j (aa hj (gb g.m))) (by decide)
theorem EM{a:Nat}{L:List Nat}(g:GL L)(b:H a=some (.list (nl L)))(q:∀r Z,H r=none->bt H Z->Z r=some (.list (nl (Mt L)))->Q (.ref r) Z):aj aq aI (n+2) false 5 [.ref a] Q X H:=BT b g.s4 g.m4 g.fcl q
theorem yt{a:Nat}{L:List Nat}(g:GL L)(b:H a=some (.list (nl L)))(q:∀r Z,H r=none->bt H Z->Z r=some (.list (nl (bX L)))->Q (.ref r) Z):aj aq aI (n+2) false 7 [.ref a] Q X H:=IN b g.s4 g.m4 (aa g.room (by decide)) q
theorem zk{a:Nat}{L:List Nat}(g:GL L)(b:H a=some (.list (nl L)))(q:∀Z,bt H Z->Q .none Z):aj aq aI (n+2) false 2 [.ref a,nv 15,.bool true] Q X H:=HH b (g.le (by decide)) g.s5 (by decide) (by decide) g.ok q
noncomputable def JR(H:Hp)(o dx rc rs:Nat)(L:List Nat):Prop:=H o=some (.inst 0 dx)/\H dx=some (.attrs [(2,nv (aF L)),(3,.ref rc),(4,.ref rs)])/\H rc=some (.list (nl (dY L)))/\H rs=some (.list (nl (bX L)))
theorem Gz{o dx a:Nat}{L:List Nat}(g:GL L)(b:H o=some (.inst 0 dx))(c:H dx=some (.attrs []))(d:o≠dx)(f:H a=some (.list (nl L)))(q:∀rc rs Z,aG dx H Z->JR Z o dx rc rs L->Q .none Z):aj aq aI (n+3) false 8 [.ref o,.ref a,nv 15,.bool true] Q X H:=by
 have h:a≠dx:=λe=>by rw[e,c]at f;cases f
 refine ac fe (vs:=[.ref o,.ref a,nv 15,.bool true]) rfl rfl ?_;intro Y i j k;refine zk g f λJ e1=>?_;refine yx (e1 _ _ f) g.s10 (aV (e1 _ _ b) (e1 _ _ c) rfl λl e2 g2=>?_);have m:=e2 _ _ d (e1 _ _ b);have p:=e2 _ _ h (e1 _ _ f);refine ae m g2 rfl (m7 p (dW L) g.s5 g.m5 λrc r s e3 g3=>?_);have t:=e3 _ _ g2;have u:rc≠dx:=(af s g2).symm;refine aV (e3 _ _ m) t rfl λv w g4=>?_;have x:=w _ _ d (e3 _ _ m);refine yt g (w _ _ h (e3 _ _ p)) λrs y z A g5=>?_;have B:rs≠dx:=(af z g4).symm;refine aV (A _ _ x) (A _ _ g4) rfl λC D E=>?_;exact q rc rs C (((((aG.of e1).trans e2).trans (.of e3)).trans w).trans ((aG.of A).trans D)) (et (D _ _ d (A _ _ x)) E (D _ _ u (A _ _ (w _ _ u g3))) (D _ _ B g5))
inductive Rd where|cut|bad|err|sym (s k:Nat)
noncomputable def yG(C:List Nat):Nat->Nat|0=>0|i+1=>2*(yG C i+aw C (i+1))
noncomputable def yY(L C B:List Nat)(R r:Nat):Nat->Nat->Rd|0,_=>.bad|k+1,i=>if r<=i then .cut else if yG C i<=aH R (i+1)then(if aH R (i+1)<yG C i+aw C (i+1)then match B[oP C (i+1)+aH R (i+1)-yG C i]? with|some s=>.sym s (i+1)|none=>.err else yY L C B R r k (i+1))else .err
theorem pK{L C B:List Nat}{R r k i:Nat}:yY L C B R r (k+1) i=(if r<=i then .cut else if yG C i<=aH R (i+1)then(if aH R (i+1)<yG C i+aw C (i+1)then match B[oP C (i+1)+aH R (i+1)-yG C i]? with|some s=>.sym s (i+1)|none=>.err else yY L C B R r k (i+1))else .err):=rfl
theorem I'{o dx rc rs st sdx T stop p:Nat}{L D:List Nat}{res:Rd}(g:GL L)(h:JR H o dx rc rs L)(hs:kq H st sdx D T stop p)(c:st≠sdx)(d:o≠sdx)(f:dx≠sdx)(j:rc≠sdx)(l:rs≠sdx)(hr:yY L (dY L) (bX L) (T/2^p) (8*stop-p) (aF L) 0=res)(m:res=.cut->∀Z,aG sdx H Z->X 0 Z)(r:res=.bad->∀Z,aG sdx H Z->X 1 Z)(t:res≠.err)(q:∀s k,res=.sym s k->∀Z,aG sdx H Z->kq Z st sdx D T stop (p+k)->Q (nv s) Z):aj aq aI (n+5) false 9 [.ref o,.ref st] Q X H:=by
 have u:aF L+1<=1000:=aa (gb g.m) (by decide);have w:(dY L).length=aF L+1:=du _ _;have A:(bX L).length<=1000:=by skip;rw[qF];exact aa g.room (by decide)
 refine ac fi (vs:=[.ref o,.ref st]) rfl rfl ?_;intro Y B C E;refine ae h.1 h.2.1 rfl ?_;refine vH (i:=1) (k:=aF L+1) (by decide) u (gV (a:=1) (b:=aF L+1) u ?_);refine be (λi=>[(0,.ref o),(1,.ref st),(2,nv (aH (T/2^p) i)),(3,nv (yG (dY L) i)),(4,nv (oP (dY L) (i+1)))]) (λi Z=>aG sdx H Z/\kq Z st sdx D T stop (p+i)/\yY L (dY L) (bX L) (T/2^p) (8*stop-p) (aF L-i) i=res) (aB rfl) (bz (λb o F e=>e) hs hr) (λi H h=>aJ) (λi ρ Z hi hj G I=>?_) (λρ Z hj=>?_)
 ·refine bn ?_;intro J;refine lz hj λe1 K M=>?_;try clear hj
  have hi:i<aF L:=hi;have N:i+1<(dY L).length:=by rw[w];exact Nat.succ_lt_succ hi
  have ct:(dY L)[1+i]?=some (aw (dY L) (i+1)):=by rw[dQ];unfold aw;rw[fz N];rfl
  have hh:JR Z o dx rc rs L:=et (e1 _ _ d h.1) (e1 _ _ f h.2.1) (e1 _ _ j h.2.2.1) (e1 _ _ l h.2.2.2);rw[show aF L-i=aF L-(i+1)+1 by rw[<-Nat.sub_sub];rw[rY (xG hi)]]at M;have O:=eP (T/2^p) i;have P:2^i<=2^4:=kQ (by decide) (aa (bT hi) g.m);have R:aH (T/2^p) i<16:=cN O P;refine rH (k:=1) (by decide) (vR (k:=4) R (by decide)) ?_;refine jO ?_;intro J;refine d9 K.1 K.2.1 (N4 K c (λz=>?_) λz S e2 l2=>?_);·rw[pK,aE (Nat.le_of_sub_eq_zero ((Nat.sub_sub ..).trans (qU z)))]at M;exact m M.symm Z e1
  ·have U:=e1.trans e2;have hh:JR S o dx rc rs L:=et (e2 _ _ d hh.1) (e2 _ _ f hh.2.1) (e2 _ _ j hh.2.2.1) (e2 _ _ l hh.2.2.2);rw[pK,aA λy=>absurd (aa z (jP ((Nat.sub_sub ..).symm.trans (Nat.sub_eq_zero_of_le y)))) (by decide)]at M;refine IB ?_;rw[FP (dG _ (by decide)),gM,<-vE,show 2*aH (T/2^p) i+T/2^p/2^i%2=aH (T/2^p) (i+1)from rfl];refine bn ?_;intro J;refine ae hh.1 hh.2.1 rfl (dp hh.2.2.1 (w▸u) ct ?_);refine bn ?_;intro J;by_cases V:yG (dY L) i<=aH (T/2^p) (i+1)
   ·rw[aE V]at M;refine jv (λz=>?_) λz=>?_
    ·rw[aE (by lia)]at M;cases W:(bX L)[oP (dY L) (i+1)+aH (T/2^p) (i+1)-yG (dY L) i]? with|none=>rw[W]at M;exact absurd M.symm t|some s=>rw[W]at M;refine ae hh.1 hh.2.1 rfl ?_;refine(?_:dZ (.ref rs) (.int ((oP (dY L) (i+1):Int)+(aH (T/2^p) (i+1):Nat)-(yG (dY L) i:Nat))) Q S);rw[<-Int.natCast_add,<-jC (aa V (uF ..))];exact dp hh.2.2.2 A W (q s (i+1) M.symm S U l2)
    ·have ab:aH (T/2^p) (i+1)<16:=cN (eP (T/2^p) (i+1)) (kQ (by decide) (aa hi g.m):2^(i+1)<=2^4);rw[aA (by lia)]at M;refine rH (x:=yG (dY L) i+aw (dY L) (i+1)) (k:=1) (by decide) (vR (k:=4) (by lia) (by decide)) (I _ _ (s8 rfl rfl rfl (ak (λv=>some (nv v)) (fB ..)) rfl aJ) (bz U l2 M))
   ·rw[aA V]at M;exact absurd M.symm t
 ·refine bn ?_;intro J;refine r ?_ Z hj.1;rw[<-hj.2.2,show aF L-(aF L+1-1)=0 from Nat.sub_self _];rfl
noncomputable abbrev aM:=Nat×Nat×Nat
noncomputable def F3(r:aM):V:=.tup [nv r.1,nv r.2.1,nv r.2.2]
noncomputable def th{α:Type}(l c:Nat)(v:α)(f:Nat->α)(p:Nat):α:=if p%2^l=c then v else f p
noncomputable def tS(S:List aM):Nat->Int:=S.foldl (λf r=>th r.2.2 r.2.1 (r.1:Int) f) λa=>-1
noncomputable def tZ(k:Nat)(S:List aM):Nat->Nat:=S.foldl (λf r=>th r.2.2 r.2.1 (r.2.2+k) f) λa=>0
noncomputable def sL(m:Nat)(f:Nat->Int):AO:=.list ((List.range m).map λp=>.int (f p))
noncomputable def zL(m:Nat)(f:Nat->Nat):AO:=.list (nl ((List.range m).map f))
noncomputable def Tb(H:Hp)(o cl dx:Nat)(fs:List (Nat×V))(rs rz m:Nat)(f:Nat->Int)(z:Nat->Nat):Prop:=H o=some (.inst cl dx)/\H dx=some (.attrs fs)/\fs.lookup 4=some (.ref rs)/\fs.lookup 6=some (.ref rz)/\H rs=some (sL m f)/\H rz=some (zL m z)/\rs≠rz/\m<=16
noncomputable def ie{α:Type}(l c:Nat)(v:α)(f:Nat->α)(i p:Nat):α:=if p%2^l=c/\p/2^l<i then v else f p
theorem Bp{α:Type}{l c i:Nat}{v:α}{f:Nat->α}(a:c<2^l):ie l c v f (i+1) (c+2^l*i)=v:=by unfold ie;rw[B1,ui _ _ (jD l),te a,q9 a,aU];exact aE ⟨rfl,iY i⟩
theorem BF{α:Type}{l c i p:Nat}{v:α}{f:Nat->α}(h:p≠c+2^l*i):ie l c v f (i+1) p=ie l c v f i p:=by
 unfold ie;by_cases q:p%2^l=c/\p/2^l<i;·rw[aE q,aE ⟨q.1,qg q.2⟩]
 ·rw[aA q,aA λz=>(AR (qh z.2)).elim (λy=>q ⟨z.1,y⟩) λy=>h (by rw[<-z.1];rw[<-y];rw[wT])]
theorem D2{α:Type}{l c:Nat}{v:α}{f:Nat->α}:ie l c v f 0=f:=funext λp=>aA λz=>pF _ z.2
theorem xu{α:Type}{l c m p:Nat}{v:α}{f:Nat->α}(a:c<2^l)(b:p<m):ie l c v f ((m+(2^l-1-c))/2^l) p=th l c v f p:=by
 unfold ie th;by_cases q:p%2^l=c
 ·rw[aE q,aE];refine⟨q,(Nat.lt_div_iff_mul_lt (jD l)).mpr ?_⟩;have:=wT p (2^l);rw[q]at this;rw[fB];have e:2^l-1=c+(2^l-1-c):=(mH (ur a)).symm;rw[(ak (λz=>m+(2^l-1-c)-z) e).trans (Nat.add_sub_add_right m _ c)];exact Nat.lt_sub_of_add_lt (by rw[dQ,this];exact b)
 ·rw[aA q,aA λz=>q z.1]
theorem place_lt{l c m i:Nat}(a:c<2^l)(hi:i<(m+(2^l-1-c))/2^l):c+2^l*i<m:=by have:=(Nat.lt_div_iff_mul_lt (jD l)).mp hi;rw[fB]at this;have e:2^l-1=c+(2^l-1-c):=(mH (ur a)).symm;rw[(ak (λz=>m+(2^l-1-c)-z) e).trans (Nat.add_sub_add_right m _ c)]at this;rw[dQ];exact B5 this
section
variable{o cl dx rs rz m l c s z i:Nat}{fs:List (Nat×V)}{f:Nat->Int}{g:Nat->Nat}
theorem xI{P:Hp->Prop}(h:Tb H o cl dx fs rs rz m (ie l c (s:Int) f i) (ie l c z g i))(a:c<2^l)(hi:i<(m+(2^l-1-c))/2^l)(q:∀Z,d_ rs rz H Z->Tb Z o cl dx fs rs rz m (ie l c (s:Int) f (i+1)) (ie l c z g (i+1))->P Z):fa (.ref o) 4 (λu J=>a_ u (nv (c+2^l*i)) (nv s) (λb=>fa (.ref o) 6 (λw d=>a_ w (nv (c+2^l*i)) (nv z) P d) b) J) H:=by
 refine fO h λe k n p hs hz ne r=>?_;try clear h
 have t:m<=1000:=aa r (by decide);have v:=place_lt a hi;have e1:=JS e hs;have e2:=Kb k hs;refine ae e k n (vT hs (cf _) (by rw[aP,bf];exact cI t) (by rw[aP,bf];exact v) λb y g2=>?_);refine ae (y _ _ e1 e) (y _ _ e2 k) p (v6 (x:=z) (y _ _ (eE ne) hz) (HP t) (Ot v) λd A g3=>q d ((d_.of1 y).trans (.of2 A)) (fL (A _ _ (JS e hz) (y _ _ e1 e)) (A _ _ (Kb k hz) (y _ _ e2 k)) n p ?_ ?_ ne r));·exact(A _ _ ne g2).trans (ak (λl=>some (AO.list l)) (fP v (ak V.int (Bp a)) λj B C=>ak V.int (BF C)))
 ·exact g3.trans (ak (λl=>some (AO.list (nl l))) (fP v (Bp a) λj B C=>BF C))
theorem Tb.start(h:Tb H o cl dx fs rs rz m f g):Tb H o cl dx fs rs rz m (ie l c (s:Int) f 0) (ie l c z g 0):=by rw[D2,D2];exact h
theorem Tb.done(a:c<2^l)(h:Tb H o cl dx fs rs rz m (ie l c (s:Int) f ((m+(2^l-1-c))/2^l)) (ie l c z g ((m+(2^l-1-c))/2^l))):Tb H o cl dx fs rs rz m (th l c (s:Int) f) (th l c z g):=(mj h.1 h.2.1 h.2.2.1 h.2.2.2.1 (h.2.2.2.2.1.trans (ak (λl=>some (AO.list l)) (f9 λp b=>ak V.int (xu a (gi b))))) (h.2.2.2.2.2.1.trans (ak (λl=>some (AO.list (nl l))) (f9 λp b=>xu a (gi b)))) h.2.2.2.2.2.2)
end
noncomputable def tA(m k rs rz rd:Nat):List (Nat×V):=[(2,nv m),(5,nv k),(4,.ref rs),(6,.ref rz),(7,.ref rd)]
noncomputable def TR(H:Hp)(o dx m k rs rz rd:Nat)(S:List aM):Prop:=Tb H o 1 dx (tA m k rs rz rd) rs rz (2^k) (tS S) (tZ 0 S)
theorem Fh(S:List aM)(r:aM):tS (S++[r])=th r.2.2 r.2.1 (r.1:Int) (tS S):=by unfold tS;rw[yu];rfl
theorem Fj(k:Nat)(S:List aM)(r:aM):tZ k (S++[r])=th r.2.2 r.2.1 (r.2.2+k) (tZ k S):=by unfold tZ;rw[yu];rfl
theorem Pl{l k:Nat}(h:l<=k)(a:2^k<=16):2^l<=16:=aa (kQ (by decide) h) a
theorem Gk{o dx m k rs rz rd s c l:Nat}{S:List aM}(h:TR H o dx m k rs rz rd S)(a:l<=k)(b:k<=4)(d:c<2^l)(q:∀Z,d_ rs rz H Z->TR Z o dx m k rs rz rd (S++[(s,c,l)])->Q .none Z):aj aq aI (n+1) false 11 [.ref o,nv s,nv c,nv l] Q X H:=by
 have e:=h;refine fO e λf g j p hs hz ne r=>?_;try clear e
 have t:=Pl a r;refine ac dh (vs:=[.ref o,nv s,nv c,nv l]) rfl rfl ?_;intro Y u v w;refine ae f g rfl (iB (λz=>absurd a (Nat.not_le_of_lt (eY z))) λx=>?_);refine ae f g rfl (eN (aa b (by decide)) (eN (aa a (aa b (by decide))) ?_));refine AH (aa (bT d) (aa t (by decide))) (aa r (by decide)) (jD l) (aa t (by decide)) (lT d (aa r (by decide)) (aa t (by decide)) ?_);refine be (λi=>[(0,.ref o),(1,nv s),(3,nv l)]) (λi Z=>Tb Z o 1 dx (tA m k rs rz rd) rs rz (2^k) (ie l c (s:Int) (tS S) i) (ie l c l (tZ 0 S) i)/\d_ rs rz H Z) (aB rfl) ⟨Tb.start h,.refl⟩ (λi H h=>aJ) (λi ρ Z hi h y A=>xI h.1 d hi λB e2 t2=>A _ _ (aB rfl) ⟨t2,h.2.trans e2⟩) λρ Z h=>q Z h.2 ?_;unfold TR;rw[Fh,Fj];exact Tb.done d h.1
section
variable{α β:Type}[BEq α][LawfulBEq α]{k k':α}{v:β}
theorem my:∀{c:List (α×β)},(oj k v c).lookup k'=if k'==k then some v else c.lookup k':=by
 intro r;induction r with
 |nil=>refine(?_:(match k'==k with|true=>some v|false=>none)=_);cases k'==k<;>rfl
 |cons d r e=>
  obtain⟨a,b⟩:=d;rw[pj];by_cases q:(a==k)=true
  ·rw[aE q,kN,kN,eq_of_beq q];cases k'==k<;>rfl
  ·rw[aA q,kN,kN,e];cases z:k'==a with|false=>rfl|true=>refine(aA λy=>?_).symm;rw[<-eq_of_beq z,eq_of_beq y]at q;exact q (rm k)
theorem kD:∀{c:List (α×β)},c.lookup k=none->k∉c.map (·.1):=by intro r;induction r with|nil=>intro _;exact List.not_mem_nil|cons d r f=>obtain⟨a,b⟩:=d;intro h;rw[kN]at h;cases z:k==a with|true=>rw[z]at h;cases h|false=>rw[z]at h;exactλm=>(bB m).elim (λe=>by rw[e,rm]at z;cases z) (f h)
theorem qG:∀{c:List (α×β)},c.lookup k=none->oj k v c=c++[(k,v)]:=by intro r;induction r with|nil=>intro _;exact rfl|cons d r e=>obtain⟨a,b⟩:=d;intro h;rw[kN]at h;cases z:k==a with|true=>rw[z]at h;cases h|false=>rw[z]at h;rw[pj,aA (λy=>by rw[eq_of_beq y]at z;rw[rm]at z;cases z),e h];rfl
theorem Ij:∀{c:List (α×β)}{w:β},c.lookup k=some w->(oj k v c).map (·.1)=c.map (·.1):=by
 intro r;induction r with|nil=>intro _ h;exact nomatch h|cons d r e=>
  obtain⟨a,b⟩:=d;intro w h;rw[pj];by_cases q:(a==k)=true;·rw[aE q];rfl
  ·rw[aA q];rw[kN]at h;cases z:k==a with|true=>rw[eq_of_beq z,rm]at q;exact absurd rfl q|false=>rw[z]at h;exact ak (a::·) (e h)
end
theorem in_dict{K:Bool->Prop}{x:Int}{a ep:Nat}{b:List (Int×V)}(h:H a=some (.dictI b ep))(c:∀v,b.lookup x=some v->K true)(d:b.lookup x=none->K false):GX (.int x) (.ref a) H K:=GX.k (dB x a b ep rfl rfl h (λz=>by cases q:b.lookup x with|none=>rw[q]at z;cases z|some v=>exact c v q) (λz=>by cases q:b.lookup x with|none=>exact d q|some v=>rw[q]at z;cases z))
theorem L_{T:cA}{Y:kC}{s:S}{r:SL}{ρ:aR}{nx ct:QR}{rt:QV}{ex:QE}(P:aR->Hp->Prop)(a:∀(b:QR),(∀O Z,P O Z->b O Z)->WS T Y hd s b ct rt ex ρ H)(c:∀O Z,P O Z->l5 T Y hd r nx ct rt ex O Z):l5 T Y hd (.cons s r) nx ct rt ex ρ H:=a _ c
theorem Nz(c:Nat):((2^c:Nat):Int)-1=((2^c-1:Nat):Int):=(jC Nat.one_le_two_pow).symm
structure DL(J H:Hp)(rd:Nat)(a:Nat->List aM)(pr:Nat->Prop)(b:List (Int×V))(ad:Nat->Nat):Prop where
 hd:∃ep,H rd=some (.dictI b ep)
 at_:∀st,pr st->b.lookup (st:Int)=some (.ref (ad st))/\H (ad st)=some (.list ((a st).map F3))/\J (ad st)=none
 no:∀st:Nat,¬pr st->b.lookup (st:Int)=none
 inj:∀st c,pr st->pr c->ad st=ad c->st=c
 nn:∀p:Int,p∈b.map (·.1)->∃st:Nat,p=(st:Int)/\pr st
 nd:(b.map (·.1)).Nodup
noncomputable def LB(f:Nat->Nat)(a b:Nat):Nat->Nat:=λx=>if x=a then b else f x
theorem DL.new{J H c d:Hp}{rd a st ep:Nat}{f:Nat->List aM}{pr:Nat->Prop}{g:List (Int×V)}{ad:Nat->Nat}(h:DL J H rd f pr g ad)(i:¬pr st)(hr:f st=[])(j:J a=none)(k:H a=none)(e:bt H c)(l:c a=some (.list []))(e3:aG rd c d)(m:d rd=some (.dictI (oj (st:Int) (.ref a) g) ep)):DL J d rd f (λx=>pr x\/x=st) (oj (st:Int) (.ref a) g) (LB ad st a):=by
 refine dE (h.hd) λn r=>?_;have s:=h.no st i;have ne:∀x,pr x->x≠st:=λx t e=>i (e▸t);have u:∀b o,H b=some o->b≠a:=λb o z q=>by rw[q,k]at z;cases z
 have v:∀x,pr x->ad x≠rd:=λx t q=>by have:=(h.at_ x t).2.1;rw[q,r]at this;cases this
 have w:a≠rd:=(u _ _ r).symm;refine⟨⟨ep,m⟩,λx t=>?_,λx t=>?_,λx A t B q=>?_,λp C=>?_,?_⟩
 ·rw[my];unfold LB;by_cases q:x=st
  ·rw[q,aE (rm _),aE rfl];exact bz rfl ((e3 _ _ w l).trans (by rw[hr];rfl)) j
  ·have t:=t.resolve_right q;have z:=h.at_ x t;rw[aA (λy=>q (nI (eq_of_beq y))),aA q];exact bz z.1 (e3 _ _ (v x t) (e _ _ z.2.1)) z.2.2
 ·rw[my,aA (λy=>t (.inr (nI (eq_of_beq y))))];exact h.no x λz=>t (.inl z)
 ·unfold LB at q;by_cases D:x=st
  ·by_cases E:A=st;·rw[D,E]
   ·rw[aE D,aA E]at q;exact absurd q.symm (u _ _ (h.at_ A (B.resolve_right E)).2.1)
  ·by_cases E:A=st;·rw[aA D,aE E]at q;exact absurd q (u _ _ (h.at_ x (t.resolve_right D)).2.1)
   ·rw[aA D,aA E]at q;exact h.inj x A (t.resolve_right D) (B.resolve_right E) q
 ·rw[qG s,eR]at C;rcases sA C with z|z;·refine am (h.nn p z) λx y t=>?_;exact an x y (.inl t)
  ·exact an st (cO z) (.inr rfl)
 ·rw[qG s,eR];exact List.nodup_append.mpr (bz h.nd (List.nodup_cons.mpr ⟨List.not_mem_nil,List.nodup_nil⟩) (λx hx y F q=>kD s (by rw[cO F]at q;have q:x=(st:Int):=q;exact q▸hx)))
theorem DL.app{J H a:Hp}{rd st:Nat}{b rw':Nat->List aM}{pr:Nat->Prop}{c:List (Int×V)}{ad:Nat->Nat}{r:aM}(h:DL J H rd b pr c ad)(d:pr st)(e:aG (ad st) H a)(f:a (ad st)=some (.list ((b st).map F3++[F3 r])))(hr:rw' st=b st++[r])(g:∀x,x≠st->rw' x=b x):DL J a rd rw' pr c ad:=by
 refine dE (h.hd) λep i=>?_;refine⟨⟨ep,e _ _ (λq=>by rw[q,(h.at_ st d).2.1]at i;cases i) i⟩,λx j=>?_,h.no,h.inj,h.nn,h.nd⟩;have z:=h.at_ x j;by_cases q:x=st
 ·subst q;exact bz z.1 (by rw[f,hr,eR];rfl) z.2.2
 ·exact bz z.1 (by rw[g x q];exact e _ _ (λy=>q (h.inj x st j d y)) z.2.1) z.2.2
theorem DL.pr{J H:Hp}{rd:Nat}{c:Nat->List aM}{pr d:Nat->Prop}{f:List (Int×V)}{ad:Nat->Nat}(h:DL J H rd c pr f ad)(e:∀x,d x↔pr x):DL J H rd c d f ad:=⟨h.hd,λx g=>h.at_ x ((e x).mp g),λx g=>h.no x λz=>g ((e x).mpr z),λx i a b=>h.inj x i ((e x).mp a) ((e i).mp b),λp j=>by refine am (h.nn p j) λx y z=>?_;exact an x y ((e x).mpr z),h.nd⟩
noncomputable def bp(k:Nat)(L:List aM)(st:Nat):List aM:=L.filter λr=>r.2.1%2^k==st
noncomputable def di(k:Nat)(L:List aM):List aM:=L.filter λr=>decide (r.2.2<=k)
noncomputable def bQ(k:Nat)(L:List aM):List aM:=L.filter λr=>decide (k<r.2.2)
noncomputable def KL(x y z:Nat)(H Z:Hp):Prop:=∀b o,b≠x->b≠y->b≠z->H b=some o->Z b=some o
structure TI(J H:Hp)(o dx m k rs rz rd:Nat)(L:List aM):Prop where
 t:TR H o dx m k rs rz rd (di k L)
 d:∃b ad,DL J H rd (bp k (bQ k L)) (λst=>bp k (bQ k L) st≠[]) b ad/\b.length<=L.length
 e:KL rs rz rd J H
 hs:∃a,J rs=some a
 hz:∃a,J rz=some a
 ho:J o=some (.inst 1 dx)
 hx:J dx=some (.attrs (tA m k rs rz rd))
theorem cV{α:Type}(p:α->Bool)(l:List α)(x:α):(l++[x]).filter p=if p x=true then l.filter p++[x]else l.filter p:=by
 rw[List.filter_append];by_cases q:p x=true;·rw[aE q,kO q];rfl
 ·rw[aA q,gj q];exact jQ _
theorem Ia{J:Hp}{o dx m k rs rz rd s c l:Nat}{L:List aM}(h:TI J H o dx m k rs rz rd L)(d:k<=4)(a2:c<2^l)(e:L.length<=20)(bv:l<=4)(q:∀Z,TI J Z o dx m k rs rz rd (L++[(s,c,l)])->Q .none Z):aj aq aI (n+1) false 11 [.ref o,nv s,nv c,nv l] Q X H:=by
 obtain⟨f,⟨g,ad,hd,i⟩,j,⟨b1,t⟩,⟨b2,u⟩,ho,hx⟩:=h;refine dE (hd.hd) λep A=>?_;have B:=f;refine fO B λC D E ab hs hz ne ag=>?_;try clear B
 have ns:rd≠rs:=λq=>by rw[q,hs]at A;cases A
 have al:rd≠rz:=λq=>by rw[q,hz]at A;cases A
 by_cases F:l<=k
 ·refine Gk f F d a2 λZ G a3=>q Z ⟨?_,?_,λb o I K M z=>G _ _ I K (j b o I K M z),⟨_,t⟩,⟨_,u⟩,ho,hx⟩;·unfold di;rw[cV,aE (bC F)];exact a3
  ·unfold bQ;rw[cV,aA (by rw[mC];exact io F),lg];refine aY g ad ⟨⟨ep,G _ _ ns al A⟩,λst p=>?_,hd.no,hd.inj,hd.nn,hd.nd⟩ (aa i (gh _ _));have z:=hd.at_ st p;exact bz z.1 (G _ _ (λy=>by rw[y,t]at z;cases z.2.2) (λy=>by rw[y,u]at z;cases z.2.2) z.2.1) z.2.2
 ·have ao:=mi F;have a4:di k (L++[(s,c,l)])=di k L:=by unfold di;rw[cV,aA (by rw[mC];exact F)]
  have a5:bQ k (L++[(s,c,l)])=bQ k L++[(s,c,l)]:=by unfold bQ;rw[cV,aE (bC ao)]
  have N:∀st,bp k (bQ k L++[(s,c,l)]) st=if c%2^k=st then bp k (bQ k L) st++[(s,c,l)]else bp k (bQ k L) st:=λst=>by
   unfold bp;rw[cV];by_cases q:c%2^k=st;·rw[aE q,aE (kX q)]
   ·rw[aA q,aA (λz=>q (ci z))]
  refine ac dh (vs:=[.ref o,nv s,nv c,nv l]) rfl rfl ?_;intro Y b3 b4 b7;refine ae C D rfl (iB (λP=>?_) λz=>absurd (dP ao) z);refine ae C D rfl (eN (aa d (by decide)) ?_);refine(?_:bK .and (nv c) (.int (((2^k:Nat):Int)-1)) _ H);rw[Nz];refine uG ?_;refine N7 ?_;intro R;rw[Bt];generalize b':c%2^k=st at*;refine Do ?_;intro R a6;refine L_ (λO Z=>O=bM (fr [some (.ref o),some (nv s),some (nv c),some (nv l)]) 4 (nv st)/\TR Z o dx m k rs rz rd (di k L)/\KL rs rz rd J Z/\∃g ad,DL J Z rd (bp k (bQ k L)) (λx=>bp k (bQ k L) x≠[]\/x=st) g ad/\g.length<=L.length+1) (λcc ap=>?_) λO Z S=>?_
  ·by_cases S:bp k (bQ k L) st=[]
   ·refine ae C D rfl (in_dict A (λv z=>by rw[hd.no st (λy=>y S)]at z;cases z) λz=>?_);refine ai λr cd hr e2 g2=>?_;refine jO ?_;intro R;refine ae (e2 _ _ C) (e2 _ _ D) rfl (vm (e2 _ _ A) (aa i (aa e (by decide))) λa7 T e3 g3=>?_);refine bn ?_;intro R;have a8:J r=none:=by
     cases z:J r with
     |none=>rfl|some a'=>
      by_cases ar:r=rs;·rw[ar,hs]at hr;cases hr
      ·by_cases av:r=rz;·rw[av,hz]at hr;cases hr
       ·by_cases a0:r=rd;·rw[a0,A]at hr;cases hr
        ·rw[j r a' ar av a0 z]at hr;cases hr
    refine ap _ T (BD rfl (fL (e3 _ _ (λy=>by rw[y,A]at C;cases C) (e2 _ _ C)) (e3 _ _ (λy=>by rw[y,A]at D;cases D) (e2 _ _ D)) E ab (e3 _ _ (eE ns) (e2 _ _ hs)) (e3 _ _ (eE al) (e2 _ _ hz)) ne ag) (λb o I K M z=>e3 _ _ M (e2 _ _ (j b o I K M z))) _ _ (hd.new (λy=>y S) S a8 hr e2 g2 e3 g3) ?_);rw[qG z,lg];exact gb i
   ·refine ae C D rfl (in_dict A (λv z=>?_) λz=>by rw[(hd.at_ st S).1]at z;cases z);exact ap _ _ (BD rfl f j g ad (hd.pr λx=>⟨λy=>y.elim id λy=>y▸S,.inl⟩) (tY i))
  ·refine Ju S ?_;try clear S;rintro rfl U ba bb a1 V bd
   refine bn ?_;intro R;refine Do ?_;intro R a6;refine dE (V.hd) λa7 bi=>?_;have z:=V.at_ st (.inr rfl);refine ae U.1 U.2.1 rfl (gH bi z.1 (And.intro (cK z.2.1) ?_));refine eI z.2.1 ?_ λT e3 g3=>q T ⟨?_,(aY bb a1 ?_ (by rw[lg];exact bd)),λb o I K M y=>e3 _ _ (λw=>by rw[w,z.2.2]at y;cases y) (ba b o I K M y),⟨_,t⟩,⟨_,u⟩,ho,hx⟩
   ·rw[aP];exact fm (aa (qk ..) (qk ..)) (fm e (by decide))
   ·rw[a4];have W:∀b o,J b=some o->b≠a1 st:=λb o y w=>by rw[w,z.2.2]at y;cases y
    refine fO U λbl t2 P P bo bs P P=>?_;try clear U
    exact fL (e3 _ _ (W _ _ ho) bl) (e3 _ _ (W _ _ hx) t2) E ab (e3 _ _ (W _ _ t) bo) (e3 _ _ (W _ _ u) bs) ne ag
   ·rw[a5];refine(V.app (r:=(s,c,l)) (.inr rfl) e3 g3 (rw':=bp k (bQ k L++[(s,c,l)])) (by rw[N,aE rfl]) λx y=>by rw[N,aA (eE y)]).pr λx=>?_;rw[N];by_cases y:st=x
    ·rw[aE y];exact⟨λP=>.inr y.symm,λP w=>by cases List.append_eq_nil_iff.mp w with|intro a b=>cases b⟩
    ·rw[aA y];exact⟨.inl,λw=>w.resolve_right (eE y)⟩
theorem gk{α:Type}{t:iw}{same:Hp->Prop}{cond a:GY}{ρ:aR}{H:Hp}{Q:QV}{g f:α->V}(p:α->Bool)(hs:same H):∀{xs:List α}{acc:List V},acc.length+xs.length<=cu->(∀x∈xs,dC t (g x) ρ λO=>(∀Q':QV,Q' (.bool (p x)) H->cond O Q' H)/\(p x=true->∀Q':QV,Q' (f x) H->a O Q' H))->(∀r Z,H r=none->bt H Z->Z r=some (.list (acc++(xs.filter p).map f))->Q (.ref r) Z)->jT t same cond a ρ (xs.map g) acc Q H:=by intro xs;induction xs with|nil=>intro acc c _ q;exact bz hs c (ai λr Z hr e h=>q r Z hr e (h.trans (by rw[List.filter_nil,List.map_nil,jQ])))|cons x xs d=>intro acc c i q;exact⟨hs,ez (λO b=>b.1 _ (by have j:=λy k=>i y (dn _ k);cases z:p x with|true=>rw[kO z]at q;exact b.2 z _ (d (by rw[lg,dM,dQ [f x].length];exact c) j (by rw[pf];exact q))|false=>rw[gj (by rw[z];exact bI)]at q;exact d (aa (Nat.le_succ _) c) j q)) (i x (cS ..))⟩
theorem dK{α:Type}{t:iw}{same:Hp->Prop}{a:GY}{ρ:aR}{H:Hp}{Q:QV}{g f:α->V}{xs:List α}(hs:same H)(c:xs.length<=cu)(d:∀x∈xs,dC t (g x) ρ λO=>∀Q':QV,Q' (f x) H->a O Q' H)(q:∀r Z,H r=none->bt H Z->Z r=some (.list (xs.map f))->Q (.ref r) Z):jT t same (λi Q'=>Q' (.bool true)) a ρ (xs.map g) [] Q H:=gk (λi=>true) hs (by rw[mv,aU];exact c) (λx hx=>ez (λi b=>⟨λi q=>q,λi=>b⟩) (d x hx)) λr Z hr e h=>q r Z hr e (h.trans (by rw[List.filter_eq_self.mpr λi i=>rfl];rfl))
theorem Ao{α β:Type}(f:α->β):∀(xs:List α)(S:List β),xs.foldl (λS x=>S++[f x]) S=S++xs.map f:=by intro xs;induction xs with|nil=>intro S;exact(jQ S).symm|cons x xs a=>intro S;exact(a (S++[f x])).trans (by rw[pf];rfl)
noncomputable def Da(k:Nat)(r:aM):aM:=(r.1,r.2.1/2^k,r.2.2-k)
noncomputable def eL(k:Nat)(S:List aM):Nat:=aF (S.map λr=>r.2.2)-k
noncomputable def lA(k m rs rz:Nat):List (Nat×V):=[(5,nv k),(8,nv m),(4,.ref rs),(6,.ref rz)]
noncomputable def LT(H:Hp)(o dx k rs rz:Nat)(S:List aM):Prop:=Tb H o 2 dx (lA k (eL k S) rs rz) rs rz (2^eL k S) (tS (S.map (Da k))) (tZ k (S.map (Da k)))
structure My(k:Nat)(S:List aM):Prop where
 ne:S≠[]
 len:S.length<=20
 l:∀r∈S,k<r.2.2/\r.2.2<=4/\r.2.1<2^r.2.2
theorem Bu{b:Nat}:∀{L:List Nat}{m:Nat},(∀x∈L,x<=b)->m<=b->L.foldl tD m<=b:=by
 intro L;induction L with
 |nil=>intro _ _ h;exact h|cons x L a=>intro m hx h;exact a (λy c=>hx y (dn _ c)) (by
  unfold tD;by_cases q:m<x;·rw[aE q];exact hx x (cS ..)
  ·rw[aA q];exact h)
theorem EP{o dx a k:Nat}{S:List aM}(ok:My k S)(ab:H o=some (.inst 2 dx))(ag:H dx=some (.attrs []))(d:o≠dx)(g:H a=some (.list (S.map F3)))(q:∀rs rz Z,aG dx H Z->H rs=none->H rz=none->LT Z o dx k rs rz S->Q .none Z):aj aq aI (n+2) false 13 [.ref o,.ref a,nv k] Q X H:=by
 have m:=ok.len;have cd:k<=4:=by
  cases S with
  |nil=>exact absurd rfl ok.ne|cons r _=>have:=ok.l r (cS ..);exact bT (cN this.1 this.2.1)
 have al:∀r∈S,r.2.2<=aF (S.map λr=>r.2.2):=λr hr=>dW _ _ (cY (an r hr rfl));have p:eL k S<=4:=aa (i' ..) (Bu (b:=4) (λx hx=>by(refine am (dm hx) ?_;rintro r hr a6;rw[<-a6]);exact(ok.l r hr).2.1) (by decide));have a7:k<=aF (S.map λr=>r.2.2):=by cases S with|nil=>exact absurd rfl ok.ne|cons r _=>exact aa (bT (ok.l r (cS ..)).1) (al r (cS ..))
 have t:2^eL k S<=16:=(kQ (by decide) p:2^eL k S<=2^4);have u:a≠dx:=λe=>by rw[e,ag]at g;cases g
 refine ac fR (vs:=[.ref o,.ref a,nv k]) rfl rfl ?_;intro Y ce ck cl;refine aV ab ag rfl λJ e1 g1=>?_;have a8:=e1 _ _ d ab;have ao:=e1 _ _ u g;refine bH ao (by rw[aP];exact aa m (by decide)) (dK (f:=λr:aM=>nv r.2.2) rfl (aa m (by decide)) (λr a'=>λQ' ba=>ba) λr0 v co e2 g2=>?_);rw[show S.map (λr:aM=>nv r.2.2)=nl (S.map λr=>r.2.2)by unfold nl;rw[bO];rfl]at g2;refine yx g2 (by rw[aP];exact aa m (by decide)) ?_;have ap:=e2 _ _ a8;have bb:=e2 _ _ g1;refine(?_:cb (.ref o) 8 (.int ((aF (S.map λr=>r.2.2):Int)-(k:Nat))) _ v);rw[<-jC a7];refine aV ap bb rfl λar e3 g3=>?_;have av:=e3 _ _ d ap;have w:aG dx H ar:=(e1.trans (.of e2)).trans e3;have cs:=e3 _ _ u (e2 _ _ ao);refine ai λr1 ct cv y g4=>ae (y _ _ av) (y _ _ g3) rfl (eN (aa p (by decide)) (JP g4 (aa t (by decide)) λrs cx A B g5=>?_));have a0:=B _ _ (y _ _ av);have bd:=B _ _ (y _ _ g3);refine aV a0 bd rfl λcD C D=>?_;have E:rs≠dx:=(af A (y _ _ g3)).symm;have F:=C _ _ d a0;refine ai λcL cM c0 G bi=>ae (G _ _ F) (G _ _ D) rfl (eN (aa p (by decide)) (vz (x:=0) bi (aa t (by decide)) λrz c1 I K a1=>?_));rw[xY]at a1;have bl:=K _ _ (G _ _ D);refine aV (K _ _ (G _ _ F)) bl rfl λL M bo=>?_;have N:rz≠dx:=(af I (G _ _ D)).symm;have a2:=C _ _ E g5;have bs:rs≠rz:=af I (G _ _ a2);have O:aG dx H L:=(((w.trans (.of (y.trans B))).trans C).trans (.of (G.trans K))).trans M;have R:H rs=none:=by
  cases z:H rs with
  |none=>rfl|some T=>rw[y _ _ (w _ _ E z)]at A;cases A
 have U:H rz=none:=by
  cases z:H rz with
  |none=>rfl|some T=>rw[G _ _ (C _ _ N (B _ _ (y _ _ (w _ _ N z))))]at I;cases I
 have bv:Tb L o 2 dx (lA k (eL k S) rs rz) rs rz (2^eL k S) (tS []) (tZ k []):=(fL (M _ _ d (K _ _ (G _ _ F))) bo rfl rfl (M _ _ E (K _ _ (G _ _ a2))) (M _ _ N a1) bs t);have a3:∀r,H r=none->a≠r:=λr e z=>by rw[z,e]at g;cases g
 refine bH (O _ _ u g) (by rw[aP];exact aa m (by decide)) ?_;refine ku (λa'=>[(0,.ref o),(1,.ref a),(2,nv k)]) (λP Z=>Tb Z o 2 dx (lA k (eL k S) rs rz) rs rz (2^eL k S) (tS P) (tZ k P)/\d_ rs rz L Z) (λP r=>P++[Da k r]) (λP Z j=>(j.2 a _ (a3 rs R) (a3 rz U) (O _ _ u g)).trans (O _ _ u g).symm) (aB rfl) ⟨bv,.refl⟩ (λP r ρ Z hr j=>λc2 a4=>?_) λρ Z j=>?_
 ·refine bn ?_;intro c3;obtain⟨s,c,l⟩:=r;(refine lz (ok.l _ hr) ?_;intro b1 c4 b2);have b3:l<=aF (S.map λr=>r.2.2):=al _ hr;obtain⟨l',rfl⟩:∃l',l=l'+k:=⟨l-k,(rY (bT b1)).symm⟩;have b4:Da k (s,c,l'+k)=(s,c/2^k,l'):=by unfold Da;rw[Nat.add_sub_cancel]
  have a5:l'<=eL k S:=Nat.le_sub_of_add_le b3;have V:c/2^k<2^l':=(zd (jD k)).mpr (by rw[<-gM];exact b2);have W:=Pl a5 t;rw[b4]at a4;refine jm (ae j.1.1 j.1.2.1 rfl (eN (aa p (by decide)) ?_));refine(?_:bK .shl (.int 1) (.int (((l'+k:Nat):Int)-(k:Nat))) _ Z);rw[<-jC (uF ..),Nat.add_sub_cancel];refine eN (aa a5 (aa p (by decide))) ?_;refine AH (aa (bT V) (aa W (by decide))) (aa t (by decide)) (jD l') (aa W (by decide)) (lT V (aa t (by decide)) (aa W (by decide)) ?_);refine be (λi=>[(0,.ref o),(1,.ref a),(2,nv k),(3,nv s),(5,nv (l'+k))]) (λi v=>Tb v o 2 dx (lA k (eL k S) rs rz) rs rz (2^eL k S) (ie l' (c/2^k) (s:Int) (tS P) i) (ie l' (c/2^k) (l'+k) (tZ k P) i)/\d_ rs rz L v) (aB rfl) ⟨Tb.start j.1,j.2⟩ (λi H h=>aJ) (λi ρ v hi h c5 b7=>xI h.1 V hi λar e3 b'=>b7 _ _ (aB rfl) ⟨b',h.2.trans e3⟩) λρ v h=>a4 _ v (aB rfl) ⟨?_,h.2⟩;rw[Fh,Fj];exact Tb.done V h.1
 ·rw[Ao,lF]at j;refine q rs rz Z (λb T cc e=>j.2 b T (λz=>?_) (λz=>?_) (O b T cc e)) R U j.1;·rw[z,R]at e;cases e
  ·rw[z,U]at e;cases e
noncomputable def Os:AO->Bool|.dictI _ _=>false|.dictS _=>false|.attrs ((9,_)::_)=>false|_=>true
noncomputable def fj(H Z:Hp):Prop:=∀b a,H b=some a->Os a=true->Z b=some a
theorem Tb.mono{Z:Hp}{o cl dx rs rz m:Nat}{fs:List (Nat×V)}{f:Nat->Int}{z:Nat->Nat}(h:Tb H o cl dx fs rs rz m f z)(a:Os (.attrs fs)=true)(e:fj H Z):Tb Z o cl dx fs rs rz m f z:=(mj (e _ _ h.1 rfl) (e _ _ h.2.1 a) h.2.2.1 h.2.2.2.1 (e _ _ h.2.2.2.2.1 rfl) (e _ _ h.2.2.2.2.2.1 rfl) h.2.2.2.2.2.2)
theorem Cg{Z:Hp}{sdx:Nat}{v:V}{r:List (Nat×V)}(h:H sdx=some (.attrs ((9,v)::r)))(e:aG sdx H Z):fj H Z:=λb a c ok=>e b a (λz=>by rw[z,h]at c;cases c;cases ok) c
theorem Fa{Z:Hp}{rd ep:Nat}{a:List (Int×V)}(h:H rd=some (.dictI a ep))(e:aG rd H Z):fj H Z:=λb c d ok=>e b c (λz=>by rw[z,h]at d;cases d;cases ok) d
theorem fj.of{H Z:Hp}(e:bt H Z):fj H Z:=λb a c d=>e b a c
theorem fj.trans{H J d:Hp}(a:fj H J)(b:fj J d):fj H d:=λc e f ok=>b c e (a c e f ok) ok
theorem LT.mono{Z:Hp}{o dx k rs rz:Nat}{S:List aM}(h:LT H o dx k rs rz S)(e:fj H Z):LT Z o dx k rs rz S:=Tb.mono h rfl e
noncomputable def Dd(i:Int)(z r:Nat):Rd:=if r<z then .cut else if 0<=i then .sym i.toNat z else .err
noncomputable def MA(k:Nat)(S:List aM)(R:Nat):Nat:=R%2^(k+eL k S)/2^k
noncomputable def Pd(k:Nat)(S:List aM)(R r:Nat):Rd:=Dd (tS (S.map (Da k)) (MA k S R)) (tZ k (S.map (Da k)) (MA k S R)) r
noncomputable def ER(k:Nat)(L:List aM)(R r:Nat):Rd:=if 0<tZ 0 (di k L) (R%2^k)then Dd (tS (di k L) (R%2^k)) (tZ 0 (di k L) (R%2^k)) r else if(bp k (bQ k L) (R%2^k)).isEmpty then .bad else Pd k (bp k (bQ k L) (R%2^k)) R r
theorem rg{b i:Nat}{f:Nat->Nat}(h:i<b):((List.range b).map f)[i]?=some (f i):=by rw[f_,oY h];rfl
theorem PT{b i:Nat}{f:Nat->Int}(h:i<b):((List.range b).map λp=>V.int (f p))[((i:Nat):Int).toNat]?=some (.int (f i)):=by rw[DZ,f_,oY h];rfl
section
variable{o dx k rs rz rd st sdx T stop p m cl z:Nat}{S L:List aM}{D:List Nat}{res:Rd}{fs:List (Nat×V)}{f:Nat->Int}{g:Nat->Nat}
theorem Kc{i:Nat}(h:Tb H o cl dx fs rs rz m f g)(a:Os (.attrs fs)=true)(hs:kq H st sdx D T stop p)(b:st≠sdx)(hi:i<m)(hr:Dd (f i) (g i) (8*stop-p)=res)(d:res=.cut->X 0 H)(j:res≠.err)(q:∀s c,res=.sym s c->∀Z,aG sdx H Z->kq Z st sdx D T stop (p+c)->Q (nv s) Z):aj aq aI (n+2) false 32 [.ref st,nv (g i)] (λv=>Fo v (fa (.ref o) 4 λx=>dZ x (nv i) Q)) X H:=by
 have k:m<=1000:=aa h.2.2.2.2.2.2.2 (by decide);refine ET hs b (λy=>d (by rw[<-hr];exact aE y)) λy Z e l=>?_;have h':=h.mono a (Cg hs.2.1 e);refine ae h'.1 h'.2.1 h.2.2.1 (iE h'.2.2.2.2.1 (cf _) (by rw[aP,bf];exact cI k) (PT hi) ?_);rw[Dd,aA (io y)]at hr;by_cases w:0<=f i
 ·rw[aE w]at hr;have:=q (f i).toNat (g i) hr.symm Z e l;rw[nv,Int.toNat_of_nonneg w]at this;exact this
 ·rw[aA w]at hr;exact absurd hr.symm j
theorem IW(h:LT H o dx k rs rz S)(a:k<=4)(hs:kq H st sdx D T stop p)(b:st≠sdx)(hr:Pd k S (T/2^p) (8*stop-p)=res)(d:res=.cut->X 0 H)(e:res≠.err)(q:∀s c,res=.sym s c->∀Z,aG sdx H Z->kq Z st sdx D T stop (p+c)->Q (nv s) Z):aj aq aI (n+3) false 14 [.ref o,.ref st] Q X H:=by
 have f:=h;refine fO f λg i j l m r ne t=>?_;try clear f
 have u:eL k S<=4:=(Nat.pow_le_pow_iff_right (by decide)).mp (t:2^eL k S<=2^4);have v:MA k S (T/2^p)<2^eL k S:=(zd (jD k)).mpr (by rw[<-gM,dQ];exact dG _ (jD _));refine ac fT (vs:=[.ref o,.ref st]) rfl rfl ?_;intro Y w x y;refine d9 hs.1 hs.2.1 (ae g i rfl (ae g i rfl (zt (c:=k+eL k S) hs (aa (um a u) (by decide)) (ae g i rfl (jm ?_)))));refine bn ?_;intro z;refine d9 hs.1 hs.2.1 (ae g i rfl (dp r (by rw[aP,bf];exact aa t (by decide)) (rg v) ?_));exact Kc h rfl hs b v hr d e q
structure TB(H:Hp)(o dx k rd:Nat)(L:List aM):Prop where
 t:∃m rs rz,TR H o dx m k rs rz rd (di k L)
 d:∃a ep,H rd=some (.dictI a ep)/\∀s:Nat,(bp k (bQ k L) s=[]->a.lookup (s:Int)=none)/\(bp k (bQ k L) s≠[]->∃o dx rs rz,a.lookup (s:Int)=some (.ref o)/\LT H o dx k rs rz (bp k (bQ k L) s))
theorem TB.mono{Z:Hp}(h:TB H o dx k rd L)(hs:kq H st sdx D T stop p)(e:aG sdx H Z):TB Z o dx k rd L:=by have a:=Cg hs.2.1 e;refine⟨h.t.elim λm y=>y.elim λrs y=>y.elim λrz y=>(NY m rs rz (Tb.mono y rfl a)),?_⟩;refine aZ (h.d) λb ep c hd=>?_;exact aY b ep (e _ _ (λy=>by rw[y,hs.2.1]at c;cases c) c) (λs=>⟨(hd s).1,λy=>((hd s).2 y).imp λd y=>y.imp λd y=>y.imp λd y=>y.imp λd y=>⟨y.1,y.2.mono a⟩⟩)
theorem HL(h:TB H o dx k rd L)(a:k<=4)(hs:kq H st sdx D T stop p)(b:st≠sdx)(hr:ER k L (T/2^p) (8*stop-p)=res)(d:res=.cut->X 0 H)(e:res=.bad->X 1 H)(f:res≠.err)(q:∀s c,res=.sym s c->∀Z,aG sdx H Z->kq Z st sdx D T stop (p+c)->Q (nv s) Z):aj aq aI (n+4) false 12 [.ref o,.ref st] Q X H:=by
 refine Ob (h.t) λm rs rz g=>?_;refine aZ (h.d) λi ep j hd=>?_;have l:=g;refine fO l λr t u x A B ne C=>?_;try clear l
 have E:T/2^p%2^k<2^k:=dG _ (jD _);refine ac fM (vs:=[.ref o,.ref st]) rfl rfl ?_;intro Y F G I;refine d9 hs.1 hs.2.1 (ae r t rfl (zt (c:=k) hs (aa a (by decide)) ?_));refine ae r t rfl (dp B (by rw[aP,bf];exact aa C (by decide)) (rg E) ?_);refine iB (λz=>?_) λz=>?_;·rw[ER,aE (eY z)]at hr;exact d9 hs.1 hs.2.1 (Kc g rfl hs b E hr d f q)
 ·rw[ER,aA λy=>z (dP y)]at hr;by_cases y:bp k (bQ k L) (T/2^p%2^k)=[]
  ·rw[y]at hr;exact ae r t rfl (in_dict j (λv w=>by rw[(hd _).1 y]at w;cases w) λJ=>e hr.symm)
  ·refine DT ((hd _).2 y) λK M N O P lt=>?_;rw[aA (λw=>y (ow w))]at hr;refine ae r t rfl (in_dict j (λv J=>?_) λw=>by rw[P]at w;exact nomatch w);exact ae r t rfl (gH j P (d9 lt.1 lt.2.1 (IW lt a hs b hr d f q)))
end
theorem gx{α:Type}{t:iw}{same:Hp->Prop}{body:G3}{nx:QR}{rt:QV}{ex:QE}{xs:List α}{g:α->V}(l:List (Nat×V))(a:Nat->Hp->Prop){ρ:aR}{H:Hp}(h:qq ρ l)(b:a 0 H)(hs:∀i H,a i H->same H)(step:∀i x ρ H,xs[i]?=some x->a i H->dC t (g x) (jE ρ l) λO=>∀c:QR,(∀d e,qq d l->a (i+1) e->c d e)->body c c rt ex O H)(done:∀ρ H,a xs.length H->nx (jE ρ l) H):ju t same body (xs.map g) nx rt ex ρ H:=qB (λf=>l) a h b hs (λi v ρ H hv j=>by rw[f_]at hv;(refine am (rV hv) ?_;rintro x hx k;rw[<-k]);exact step i x ρ H hx j) λρ H j=>done ρ H (by rw[aP]at j;exact j)
noncomputable def MX(L:List Nat)(s:Nat):aM:=(s,aH (bJ L s) (aw L s),aw L s)
noncomputable def gn(L:List Nat):List aM:=(bX L).map (MX L)
noncomputable def fW(a:Nat)(L:List Nat):Nat:=if 1<(if aF L<a then aF L else a)then(if aF L<a then aF L else a)else 1
theorem Pt{x y:Nat}{a b:Nat}:(if(x:Int)<y then(a:Int)else b)=((if x<y then a else b:Nat):Int):=by
 by_cases h:x<y;·rw[aE h,aE (dP h)]
 ·rw[aA h,aA λz=>h (eY z)]
theorem OQ{x y:Nat}(q:Q (nv (if y<x then y else x)) H):dR .min [nv x,nv y] Q H:=dR.k (.inl (aY x y rfl (by rw[Pt];exact q)))
theorem NE{x y:Nat}(q:Q (nv (if x<y then y else x)) H):dR .max [nv x,nv y] Q H:=dR.k (.inl (aY x y rfl (by rw[Pt];exact q)))
theorem J'{c:Prop}[Decidable c]{a b m:Nat}(d:a<=m)(e:b<=m):(if c then a else b)<=m:=by
 by_cases h:c;·rw[aE h];exact d
 ·rw[aA h];exact e
theorem yE{a:Nat}{L:List Nat}(h:a<=4)(b:aF L<=4):fW a L<=4:=J' (J' b h) (by decide)
theorem sY{α:Type}{l:List α}{i:Nat}{x:α}(nd:l.Nodup)(h:l[i]?=some x):l.take (i+1)=l.take i++[x]/\x∉l.take i:=by
 have e:l.take (i+1)=l.take i++[x]:=by rw[mI,h];rfl
 have a:=nd.sublist (List.take_sublist (i+1) l);rw[e]at a;exact⟨e,λm=>(List.nodup_append.mp a).2.2 x m x (pd x) rfl⟩
structure TJ(a H:Hp)(o dx m k rs rz rd:Nat)(L:List aM)(b:List Int)(ad:Nat->Nat)(P:List Int):Prop where
 t:TR H o dx m k rs rz rd (di k L)
 d:∃c ep,H rd=some (.dictI c ep)/\c.map (·.1)=b/\∀s:Nat,(bp k (bQ k L) s=[]->c.lookup (s:Int)=none)/\(bp k (bQ k L) s≠[]->((s:Int)∈P->∃o dx rs rz,c.lookup (s:Int)=some (.ref o)/\LT H o dx k rs rz (bp k (bQ k L) s))/\((s:Int)∉P->c.lookup (s:Int)=some (.ref (ad s))/\H (ad s)=some (.list ((bp k (bQ k L) s).map F3))))
 e:aG rd a H
theorem qR{k s:Nat}{L:List aM}{r:aM}(h:r∈bp k (bQ k L) s):r∈L/\k<r.2.2:=by have a:=(jI h).1;exact⟨(jI a).1,bY (jI a).2⟩
theorem xT{a:List (Int×V)}{x:Int}{v:V}(h:a.lookup x=some v):x∈a.map (·.1):=by
 cases Decidable.em (x∈a.map (·.1))with
 |inl y=>exact y|inr y=>
  have:a.lookup x=none:=by
   clear h;induction a with
   |nil=>rfl|cons p r b=>rw[gT,List.mem_cons,not_or]at y;rw[kN,show(x==p.1)=false from eD y.1];exact b y.2
  rw[this]at h;cases h
theorem TJ.step{c H:Hp}{o dx m k rs rz rd s:Nat}{L:List aM}{e:List Int}{ad:Nat->Nat}{P:List Int}{Q:Hp->Prop}(j:TJ c H o dx m k rs rz rd L e ad P)(g:bp k (bQ k L) s≠[])(i:(s:Int)∉P)(l:e.length<=20)(p:L.length<=20)(hr:∀r∈L,r.2.2<=4/\r.2.1<2^r.2.2)(q:∀Z,TJ c Z o dx m k rs rz rd L e ad (P++[(s:Int)])->Q Z):dZ (.ref rd) (nv s) (λv=>fa (.ref o) 5 λt=>JT (aq.init 2) λf=>pR 2 (λa=>aj aq aI (n+2) false f [.ref a,v,t] (λw=>Fo w (fa (.ref o) 7 λd=>a_ d (nv s) (.ref a) Q)) X)) H:=by
 refine aW (j.d) λu ep A B hd=>?_;have C:=((hd s).2 g).2 i;refine gH A C.1 (ae j.t.1 j.t.2.1 rfl (ix λa D E F hx ne e2 g2 G=>?_));refine EP ⟨g,aa (aa (qk ..) (qk ..)) p,λr y=>⟨(qR y).2,hr r (qR y).1⟩⟩ g2 G ne (e2 _ _ C.2) λI J K e3 M M lt=>?_;have N:bt H K:=e2.b e3 hx;have O:=Tb.mono j.t rfl (.of N);have R:u.length<=20:=by rw[<-B,aP]at l;exact l
 refine ae O.1 O.2.1 rfl (vm (N _ _ A) (aa R (by decide)) λS T U g4=>?_);have k3:fj K T:=Fa (N _ _ A) U;refine q T ⟨Tb.mono O rfl k3,(aL _ S g4 (by rw[Ij C.1];exact B) (λx=>?_)),λb V W h=>U _ _ W (N _ _ (j.e b V W h))⟩;rw[my];by_cases y:x=s;·rw[y,aE (rm _)];exact⟨λw=>absurd w g,λM=>⟨λM=>(Mp a D I J rfl (lt.mono k3)),λw=>absurd (uP (.inr (pd _))) w⟩⟩
 ·rw[aA (λw=>y (nI (eq_of_beq w)))];refine⟨(hd x).1,λw=>⟨λm=>?_,λm=>?_⟩⟩
  ·have m':(x:Int)∈P:=(sA m).resolve_right λz=>y (nI (cO z));exact(((hd x).2 w).1 m').imp λM z=>z.imp λM z=>z.imp λM z=>z.imp λM z=>⟨z.1,(z.2.mono (.of N)).mono k3⟩
  ·have z:=((hd x).2 w).2 λm'=>m (uP (.inl m'));exact⟨z.1,k3 _ _ (N _ _ z.2) rfl⟩
theorem y_{a ep:Nat}{b:List (Int×V)}(h:H a=some (.dictI b ep))(c:b.length<64)(q:∀r Z,H r=none->bt H Z->Z r=some (.list ((dz (λx y=>decide (x<=y)) (b.map (·.1))).map .int))->Q (.ref r) Z):dR .sorted [.ref a] Q H:=dR.k (.inr (fA a b ep rfl h c (ai q)))
theorem jJ{H Z:Hp}{x r:Nat}(e:aG x H Z)(n:r≠x)(h:Z r=none):H r=none:=by cases z:H r with|none=>rfl|some a=>rw[e _ _ n z]at h;cases h
theorem Jn{o dx a d:Nat}{L:List Nat}(g:GL L)(gs:∀s∈bX L,s<L.length)(bs:1<=d)(c4:d<=4)(bv:H o=some (.inst 1 dx))(b1:H dx=some (.attrs []))(t:o≠dx)(u:H a=some (.list (nl L)))(q:∀rd Z,H rd=none->aG dx H Z->TB Z o dx (fW d L) rd (gn L)->Q .none Z):aj aq aI (n+4) false 10 [.ref o,.ref a,nv d,nv 15,.bool true] Q X H:=by
 have b2:a≠dx:=λe=>by rw[e,b1]at u;cases u
 have v:=yE (L:=L) c4 g.m;have w:2^fW d L<=16:=(kQ (by decide) v:2^fW d L<=2^4);have ab:(bX L).length<=6:=by skip;rw[qF];exact g.room
 refine ac fV (vs:=[.ref o,.ref a,nv d,nv 15,.bool true]) rfl rfl ?_;intro Y el em en;refine zk g u λJ e1=>?_;refine jv (λz=>absurd bs (Nat.not_le_of_lt (eY z))) λA=>?_;refine yx (e1 _ _ u) g.s10 (aV (e1 _ _ bv) (e1 _ _ b1) rfl λB e2 g2=>?_);have ag:=e2 _ _ t (e1 _ _ bv);refine ae ag g2 rfl (OQ (x:=d) (y:=aF L) (NE (x:=1) ?_));refine aV ag g2 rfl λc5 e3 g3=>?_;have al:=e3 _ _ t ag;have b3:aG dx H c5:=((aG.of e1).trans e2).trans e3;refine ai λr1 eo bs C g4=>ae (C _ _ al) (C _ _ g3) rfl (eN (k:=fW d L) (aa v (by decide)) (JP g4 (aa w (by decide)) λrs es b4 D g5=>?_));have c6:=D _ _ (C _ _ g3);refine aV (D _ _ (C _ _ al)) c6 rfl λc' ao ap=>?_;have E:rs≠dx:=(af b4 (C _ _ g3)).symm;have ar:=ao _ _ t (D _ _ (C _ _ al));have b7:aG dx H c':=(b3.trans (.of (C.trans D))).trans ao;refine ai λev ex ey F da=>ae (F _ _ ar) (F _ _ ap) rfl (eN (k:=fW d L) (aa v (by decide)) (vz (x:=0) da (aa w (by decide)) λrz eB av G a0=>?_));rw[xY]at a0;refine aV (G _ _ (F _ _ ar)) (G _ _ (F _ _ ap)) rfl λdb I b'=>?_;have K:rz≠dx:=(af av (F _ _ ap)).symm;have a1:=ao _ _ E g5;have dc:rs≠rz:=af av (F _ _ a1);have cc:=I _ _ t (G _ _ (F _ _ ar));have cd:aG dx H db:=(b7.trans (.of (F.trans G))).trans I;have dd:H rs=none:=jJ b3 E (C.none b4);have de:H rz=none:=jJ b7 K (F.none av);refineλep=>ai λrd eF ce M ck=>aV (M _ _ cc) (M _ _ b') rfl λcl N ds=>?_;have a2:rd≠dx:=(af ce b').symm;have co:aG dx H cl:=(cd.trans (.of M)).trans N;have cs:H rd=none:=jJ cd a2 ce;have dt:=N _ _ t (M _ _ cc);have ct:=co _ _ b2 u;refine EM g ct λrc eH dv O dI=>yt g (O _ _ ct) λdV a3 d0 P a4=>n7 a4 (aa ab (by decide)) ?_;refine Lz ?_;intro R;have cv:aG dx H a3:=co.trans (.of (O.trans P));have a5:TR a3 o dx (aF L) (fW d L) rs rz rd []:=fL (P _ _ (O _ _ dt)) (P _ _ (O _ _ ds)) rfl rfl (P _ _ (O _ _ (N _ _ E (M _ _ (I _ _ E (G _ _ (F _ _ a1))))))) (P _ _ (O _ _ (N _ _ K (M _ _ (I _ _ K a0))))) dc w;have d1:=P _ _ (O _ _ (N _ _ a2 ck));have d2:=P _ _ dI;have d3:=cv _ _ b2 u;have a6:(gn L).length=(bX L).length:=aP _;have hrow:∀r∈gn L,r.2.2<=4/\r.2.1<2^r.2.2:=λr hr=>by(refine am (dm hr) ?_;rintro s hs d4;rw[<-d4]);refine⟨?_,eP _ _⟩;refine(?_:aw L s<=4);unfold aw;rw[fz (gs s hs)];exact g.le (bF 4) _ (List.getElem_mem _)
 have out:∀{b S},H b=some S->b≠rs/\b≠rz/\b≠rd:=λh=>bz (λe=>(by rw[e,dd]at h;cases h)) (λe=>(by rw[e,de]at h;cases h)) (λe=>(by rw[e,cs]at h;cases h));have cx:=N _ _ E (M _ _ (I _ _ E (G _ _ (F _ _ a1))));have cD:=N _ _ K (M _ _ (I _ _ K a0));have d5:=N _ _ a2 ck;have cL:∀{b:Nat},cl b=none->b≠rs/\b≠rz/\b≠rd:=λh=>bz ((af h cx).symm) ((af h cD).symm) ((af h d5).symm);have a7:=cL dv;have S:=cL (O.none d0);refine gx (xs:=bX L) (g:=nv) [(0,.ref o),(1,.ref a),(5,.ref rc)] (λi Z=>TI a3 Z o dx (aF L) (fW d L) rs rz rd ((gn L).take i)) (aB rfl) ⟨a5,(aY [] (λA=>0) ⟨⟨ep,d1⟩,λst p=>absurd rfl p,λA A=>rfl,λA A p=>absurd rfl p,λp d6=>(List.not_mem_nil d6).elim,List.nodup_nil⟩ (bF _)),λA A A A A h=>h,⟨_,P _ _ (O _ _ cx)⟩,⟨_,P _ _ (O _ _ cD)⟩,a5.1,a5.2.1⟩ (λi Z j=>(j.e dV _ S.1 S.2.1 S.2.2 a4).trans a4.symm) (λi s ρ Z hi j d7 a8=>?_) λρ Z j=>?_
 ·refine bn ?_;intro R;have hs:=gs s (cy hi);have a':=out u;have ba:L[s]?=some (aw L s):=by unfold aw;rw[fz hs];rfl
  have cM:=j.e a _ a'.1 a'.2.1 a'.2.2 d3;have c0:aw L s<=4:=g.le (bF 4) _ (cy ba);refine d9 j.t.1 j.t.2.1 ?_;refine dp (j.e rc _ a7.1 a7.2.1 a7.2.2 d2) (by skip;rw[aP,bf];exact g.s10) (rg (f:=bJ L) hs) (dp cM g.s10 ba (Mv (aa c0 (by decide)) (dp cM g.s10 ba ?_)));refine Ia (s:=s) (c:=aH (bJ L s) (aw L s)) (l:=aw L s) j v (eP _ _) (aa (rA ..) (by rw[a6];exact aa ab (by decide))) c0 λB t2=>a8 _ B (aB rfl) ?_;rw[mI,show(gn L)[i]?=some (MX L s)by skip;rw[f_];rw[hi];rfl];exact t2
 ·refine bn ?_;intro R;rw[yT (jP a6)]at j;obtain⟨bb,⟨T,ad,U,d8⟩,d',_,_,_,_⟩:=j;refine dE (U.hd) λea bd=>?_;have c1:(gn L).length<=20:=by rw[a6];exact aa ab (by decide)
  have bi:=aa d8 c1;refine ae bb.1 bb.2.1 rfl (y_ bd (fm bi (by decide)) λc2 eb ec W bl=>bH bl (by rw[aP,cm.length_eq,aP];exact aa bi (by decide)) ?_);refine Oj ?_;intro R;have ed:c2≠rd:=(af ec bd).symm;have bo:=cm (le:=λx y:Int=>decide (x<=y)) (l:=T.map (·.1));have ee:(T.map (·.1)).length<=20:=by rw[aP];exact bi
  refine gx (g:=V.int) [(0,.ref o)] (λi Z=>TJ eb Z o dx (aF L) (fW d L) rs rz rd (gn L) (T.map (·.1)) ad ((dz (λx y=>decide (x<=y)) (T.map (·.1))).take i)) (aB rfl) ⟨Tb.mono bb rfl (.of W),(aL T ea (W _ _ bd) rfl (λs=>⟨λy=>U.no s λz=>z y,λy=>⟨λm=>(List.not_mem_nil m).elim,λA=>⟨(U.at_ s y).1,W _ _ (U.at_ s y).2.1⟩⟩⟩)),λA A A h=>h⟩ (λi Z j=>(j.e c2 _ ed bl).trans bl.symm) (λi x ρ Z hi j d7 a8=>?_) λρ Z j=>?_
  ·refine bn ?_;intro R;refine am (U.nn x (bo.mem_iff.mp (cy hi))) ?_;rintro s rfl hs;have nd:=sY (bo.nodup_iff.mpr U.nd) hi;refine ae j.t.1 j.t.2.1 rfl (j.step hs nd.2 ee c1 hrow λB t2=>a8 _ B (aB rfl) ?_);rw[nd.1];exact t2
  ·rw[qe]at j;refine q rd Z cs (λb eO ef h=>j.e _ _ (out h).2.2 (W _ _ (d' _ _ (out h).1 (out h).2.1 (out h).2.2 (cv _ _ ef h)))) ⟨(NY _ rs rz j.t),?_⟩;refine aW (j.d) λeh ek h' A c3=>?_;exact aY eh ek h' (λs=>⟨(c3 s).1,λy=>((c3 s).2 y).1 (bo.mem_iff.mpr (xT (U.at_ s y).1))⟩)
noncomputable def Jp(p:Nat×Nat):V:=.tup [nv p.1,nv p.2]
noncomputable def Kq(p:Nat×Nat):Int×Int:=(p.1,p.2)
noncomputable def Op(a b:Nat×Nat):Bool:=decide (a.1<b.1)||(a.1==b.1&&decide (a.2<=b.2))
theorem sE(a b:Nat×Nat):bV (Kq a) (Kq b)=Op a b:=by unfold bV Op Kq;have c:decide ((a.1:Int)<b.1)=decide (a.1<b.1):=uX Int.ofNat_lt;have d:decide ((a.2:Int)<=b.2)=decide (a.2<=b.2):=uX Int.ofNat_le;have e:((a.1:Int)==b.1)=(a.1==b.1):=BQ ⟨λz=>kX (nI (eq_of_beq z)),λz=>kX (Int.ofNat_inj.mpr (eq_of_beq z))⟩;rw[<-c,<-d,<-e]
theorem CF{α β:Type}{f:α->β}{le:α->α->Bool}{c:β->β->Bool}(h:∀a b,c (f a) (f b)=le a b)(x:α):∀l:List α,li c (f x) (l.map f)=(li le x l).map f:=by intro l;induction l with|nil=>exact rfl|cons y l d=>rw[qC,qC];refine(?_:(if c (f x) (f y)=true then _ else _)=_);rw[h];cases le x y with|true=>rfl|false=>exact ak (f y::·) (d)
theorem tX{α β:Type}{f:α->β}{le:α->α->Bool}{c:β->β->Bool}(h:∀a b,c (f a) (f b)=le a b):∀l:List α,dz c (l.map f)=(dz le l).map f:=by intro l;induction l with|nil=>exact rfl|cons x l d=>refine(?_:li c (f x) (dz c (l.map f))=_);rw[d,CF h];rfl
noncomputable def AL(C:List Nat)(i:Nat):List (Nat×Nat):=((List.range i).filter λj=>decide (0<aw C j)).map λj=>(aw C j,j)
noncomputable def cj(C:List Nat):List (Nat×Nat):=dz Op (AL C C.length)
theorem iF(C:List Nat)(i:Nat):(AL C i).length<=i:=by skip;rw[aP];exact aa (qk ..) (jP bf)
theorem wQ(C:List Nat)(i:Nat):AL C (i+1)=if 0<aw C i then AL C i++[(aw C i,i)]else AL C i:=by
 unfold AL;rw[pH,cV];by_cases q:0<aw C i;·rw[aE q,aE (bC q),eR];rfl
 ·rw[aA q,aA (by rw[mC];exact q)]
theorem uJ(C:List Nat)(i:Nat):((AL C i).map Kq).Nodup:=by skip;rw[bO];exact List.pairwise_map.mpr ((List.nodup_range.filter _).imp λh e=>h (nI (ak Prod.snd e)))
theorem MK{a:Nat}{C:List Nat}(c:H a=some (.list (nl C)))(d:C.length<=6)(q:∀r Z,H r=none->bt H Z->Z r=some (.list ((cj C).map Jp))->Q (.ref r) Z):aj aq aI (n+1) false 18 [.ref a] Q X H:=by
 refine ac j7 (vs:=[.ref a]) rfl rfl ?_;intro Y e f g;refine ai λr J hr e1 g1=>jF (e1 _ _ c) (aa d (by decide)) ?_;refine be (λi=>[(0,.ref a),(1,.ref r)]) (λi Z=>Z r=some (.list ((AL C i).map Jp))/\bt H Z) (aB rfl) ⟨g1,e1⟩ (λi Z h=>(h.2 _ _ c).trans (e1 _ _ c).symm) (λi ρ j hi h=>λk l=>?_) λρ j h=>?_
 ·rw[aU];refine bn ?_;intro m;refine jv (λz=>absurd (cf _) (Int.not_le.mpr z)) λo=>iB (λz=>?_) λz=>?_;·refine And.intro (cK h.1) (eI h.1 (by rw[aP];exact fm (iF C i) (jk hi (fm d (by decide)))) λp e3 g3=>l _ _ (aB rfl) ⟨g3.trans ?_,h.2.b e3 hr⟩);rw[wQ,aE (eY z),eR];rfl
  ·exact l _ _ (aB rfl) ⟨h.1.trans (by rw[wQ,aA λy=>z (dP y)]),h.2⟩
 ·refine dR.k (.inl (fx r ((AL C C.length).map Kq) rfl (h.1.trans (by rewrite[bO];rfl)) (by rw[aP];exact aa (iF C _) d) (uJ C _) (ai λs p t e3 g3=>q s p (h.2.none t) (h.2.trans e3) (g3.trans ?_))));rw[tX sE,bO];rfl
noncomputable def Aj(C L:List Nat):Nat->Nat|0=>0|i+1=>Aj C L i+if 0<aw C i then aw C i*aw L i else 0
theorem Bl{C L:List Nat}{i:Nat}:Aj C L (i+1)=Aj C L i+if 0<aw C i then aw C i*aw L i else 0:=rfl
theorem bx{L:List Nat}{i:Nat}(h:i<L.length):L[i]?=some (aw L i):=by unfold aw;rw[fz h];rfl
theorem G9{a b:Nat}{C L:List Nat}(c:H a=some (.list (nl C)))(d:H b=some (.list (nl L)))(e:C.length<=1000)(f:L.length<=1000)(g:∀i,aw C i<=1000)(j:∀i,i<C.length->0<aw C i->i<L.length/\aw L i≠0)(q:Q (nv (Aj C L C.length)) H):aj aq aI (n+1) false 19 [.ref a,.ref b] Q X H:=by refine ac mY (vs:=[.ref a,.ref b]) rfl rfl ?_;intro Y k l m;refine jF c e ?_;refine be (λi=>[(0,.ref a),(1,.ref b),(2,nv (Aj C L i))]) (λi Z=>Z=H) (aB rfl) rfl (λi Z h=>h▸rfl) (λi ρ o hi h=>λp r=>?_) λρ o h=>h▸q;rw[aU];refine bn ?_;intro s;rw[h];refine iB (λz=>?_) λz=>r _ _ (et rfl rfl (ak (λv=>some (nv v)) (by rw[Bl,aA λy=>z (dP y)];rfl)) aJ) rfl;have t:=eY z;have u:=j i hi t;refine iT d f (NF (λy=>absurd u.1 (io (ux y))) λw=>dp d f (bx u.1) (tF (λy=>absurd (nI y) u.2) λw=>?_));refine dp d f (bx u.1) (gY (.inr (.inl ⟨y8 (by decide) (cf _),pw (gL (g i)) (by decide)⟩)) (r _ _ (et rfl rfl (ak (λv=>some (nv v)) ?_) aJ) rfl));rw[Bl,aE t]
noncomputable def zJ(R:List (Nat×Nat))(D:List Nat)(m:Nat):Nat->List Nat|0=>List.replicate m 0|i+1=>(zJ R D m i).set ((R[i]?).getD (0,0)).2 (aw D i)
theorem qv(R:List (Nat×Nat))(D:List Nat)(m:Nat):∀i,(zJ R D m i).length=m:=by intro i;induction i with|zero=>exact rO|succ i a=>exact(xP ..).trans (a)
theorem wM{m b c:Nat}{R:List (Nat×Nat)}{D:List Nat}(a:H b=some (.list (R.map Jp)))(d:H c=some (.list (nl D)))(f:m<=1000)(g:D.length<=1000)(hR:R.length<=1000)(j:D.length<=R.length)(hr:∀r∈R,r.2<m)(q:∀r Z,H r=none->bt H Z->Z r=some (.list (nl (zJ R D m D.length)))->Q (.ref r) Z):aj aq aI (n+1) false 20 [nv m,.ref b,.ref c] Q X H:=by
 refine ac yi (vs:=[nv m,.ref b,.ref c]) rfl rfl ?_;intro Y k l o;refine ai λr0 H0 p e0 s=>vz (x:=0) (i:=m) s f λr J t e1 u=>?_;have v:=e0.trans e1;have w:=e0.none t;refine jF (v _ _ d) g ?_;refine be (λi=>[(1,.ref b),(3,.ref r)]) (λi Z=>Z r=some (.list (nl (zJ R D m i)))/\bt H Z) (aB rfl) ⟨u,v⟩ (λi Z h=>(h.2 _ _ d).trans (v _ _ d).symm) (λi ρ y hi h=>λz A=>?_) λρ y h=>q r y w h.2 h.1;rw[aU];refine bn ?_;intro B;have C:=cN hi j;have e:R[i]?=some ((R[i]?).getD (0,0)):=by rw[fz C];rfl
 have hs:=hr _ (cy e);refine iE (h.2 _ _ a) (cf i) (by rw[aP];exact cI hR) (by rw[DZ,f_,e];rfl) (FZ (by decide) (by refine(?_:2<=1048576);decide) rfl (v6 (i:=((R[i]?).getD (0,0)).2) h.1 (by rw[qv];exact f) (by rw[qv];exact hs) λE e3 g3=>A _ _ (aB rfl) ⟨g3,h.2.b e3 w⟩))
theorem yf{m k:Nat}(h:m<=2^k)(a:1<=k)(b:k<=60)(q:Q .none H):aj aq aI (n+1) false 21 [nv m,nv k] Q X H:=by refine ac mG (vs:=[nv m,nv k]) rfl rfl ?_;intro Y c d f;have e:(if 0<k then k else 0)=k:=aE a;have t:∀(Q:QV)(X:QX),Q (.bool false) H->WE aq (aj aq aI n) false (.cmp .gt (.var 0) (.bin .shl (.cint 1) (.bi .max (.cons (.cint 0) (.cons (.var 1) .nil))))) (fr [some (nv m),some (nv k)]) Q X H:=λQ X q=>(NE (x:=0) (by rw[e];exact eN (aa b (by decide)) (iB (λy=>absurd h (xQ (eY y))) λg=>q)));exact iB (λg=>jv (λy=>absurd a (xQ (eY y))) λg=>t _ X q) λg=>t _ X q
section
variable{T:cA}{Y:kC}{ρ:aR}{a b:E}{x y:Bool}
theorem Oh(c:∀Q':QV,Q' (.bool x) H->WE T Y hd a ρ Q' X H)(d:x=false->∀Q':QV,Q' (.bool y) H->WE T Y hd b ρ Q' X H)(q:Q (.bool (x||y)) H):WE T Y hd (.or a (.cons b .nil)) ρ Q X H:=by refine c _ ?_;cases x with|true=>exact q|false=>exact d rfl _ (by cases y<;>exact q)
theorem JN(c:∀Q':QV,Q' (.bool x) H->WE T Y hd a ρ Q' X H)(d:x=true->∀Q':QV,Q' (.bool y) H->WE T Y hd b ρ Q' X H)(q:Q (.bool (x&&y)) H):WE T Y hd (.and a (.cons b .nil)) ρ Q X H:=by refine c _ ?_;cases x with|false=>exact q|true=>exact d rfl _ (by cases y<;>exact q)
end
theorem GA{x y:Nat}(q:Q (.bool (decide (x<y))) H):bP .lt (nv x) (nv y) Q H:=jv (λz=>by rw[bC (eY z)]at q;exact q) λz=>by rw[b5 λy=>z (dP y)]at q;exact q
theorem NP{x y:Nat}(q:Q (.bool (decide (x<=y))) H):bP .le (nv x) (nv y) Q H:=Le (λz=>by rw[bC (ux z)]at q;exact q) λz=>by rw[b5 λy=>z (gL y)]at q;exact q
theorem E7{x y:Nat}(q:Q (.bool (decide (x=y))) H):bP .eq (nv x) (nv y) Q H:=tF (λz=>by rw[bC (nI z)]at q;exact q) λz=>by rw[b5 λy=>z (Int.ofNat_inj.mpr y)]at q;exact q
noncomputable def Go(w p:List Nat)(i j:Nat):Bool:=decide (j=p.length)||(decide (i<w.length)&&decide (aw w i<=aw p j))
noncomputable def DN(w p:List Nat):Nat->Nat->Nat->List (Nat×Bool)|0,_,_=>[]|k+1,i,j=>if(decide (i<w.length)||decide (j<p.length))=true then(if Go w p i j=true then(aw w i,true)::DN w p k (i+1) j else(aw p j,false)::DN w p k i (j+1))else[]
theorem y9{w p:List Nat}{k i j:Nat}:DN w p (k+1) i j=if(decide (i<w.length)||decide (j<p.length))=true then(if Go w p i j=true then(aw w i,true)::DN w p k (i+1) j else(aw p j,false)::DN w p k i (j+1))else[]:=rfl
noncomputable def MV(w p:List Nat):List (Nat×Bool):=DN w p (w.length+p.length) 0 0
theorem Kl(w p:List Nat):∀k i j,(DN w p k i j).length<=k:=by
 intro k;induction k with|zero=>intro _ _;exact bF 0|succ k a=>
  intro i j;rw[y9];by_cases h:(decide (i<w.length)||decide (j<p.length))=true
  ·rw[aE h];by_cases b:Go w p i j=true;·rw[aE b];exact gb (a _ _)
   ·rw[aA b];exact gb (a _ _)
  ·rw[aA h];exact cR _
structure MI(H0 H:Hp)(r v:Nat)(w p:List Nat)(i j:Nat)(acc:List (Nat×Bool)):Prop where
 hi:i<=w.length
 hj:j<=p.length
 hr:H r=some (.list (nl (acc.map (·.1))))
 hv:H v=some (.list (acc.map λx=>.bool x.2))
 e:bt H0 H
 l:acc.length=i+j
 g:acc++DN w p (w.length-i+(p.length-j)) i j=MV w p
theorem ND{a i:Nat}(h:i<a):a-i=a-(i+1)+1:=(Nat.succ_pred_eq_of_pos (xG h)).symm
theorem Ii{w p:List Nat}{i j:Nat}(hj:j<=p.length)(e:(decide (i<w.length)||decide (j<p.length))=true)(l:Go w p i j=true):i<w.length:=by
 unfold Go at l;rcases vw l with l|l
 ·rcases vw e with e|e;·exact bY e
  ·exact absurd (bY l) (g_ (bY e))
 ·exact bY (b8 l).1
theorem Hw{w p:List Nat}{i j:Nat}(hj:j<=p.length)(l:Go w p i j=false):j<p.length:=t8 hj λz=>by unfold Go at l;rw[bC z]at l;cases l
theorem Fk{a b:Nat}{w p:List Nat}(c:H a=some (.list (nl w)))(d:H b=some (.list (nl p)))(hw:w.length<=400)(f:p.length<=400)(q:∀r v Z,H r=none->H v=none->r≠v->bt H Z->Z r=some (.list (nl ((MV w p).map (·.1))))->Z v=some (.list ((MV w p).map λx=>.bool x.2))->Q (.tup [.ref r,.ref v]) Z):aj aq aI (n+1) false 22 [.ref a,.ref b] Q X H:=by
 have h:w.length<=1000:=aa hw (by decide);have m:p.length<=1000:=aa f (by decide);refine ac yZ (vs:=[.ref a,.ref b]) rfl rfl ?_;intro Y o ab ag;refine ai λr J hr e1 g1=>(ai λv s hv e2 g2=>?_);have t:r≠v:=af hv g1;refine qw (σ:=Nat×Nat×List (Nat×Bool)) (λz=>w.length-z.1+(p.length-z.2.1)) (λz=>[(0,.ref a),(1,.ref b),(2,.ref r),(3,.ref v),(4,nv z.1),(5,nv z.2.1)]) (λz Z=>MI H Z r v w p z.1 z.2.1 z.2.2) (λz ρ Z B I A=>?_) (z:=(0,0,[])) (aB rfl) ⟨cR _,cR _,e2 _ _ g1,g2,e1.trans e2,rfl,rfl⟩;obtain⟨i,j,acc⟩:=z;refine jO ?_;intro al;have C:=I.e _ _ c;have D:=I.e _ _ d;have E:acc.length<1000:=by rw[I.l];exact fm (um (aa I.hi hw) (aa I.hj f)) (by decide)
 refine Oh (x:=decide (i<w.length)) (y:=decide (j<p.length)) (λQ' F=>iT C h (GA F)) (λao Q' F=>iT D m (GA F)) ?_;cases e:(decide (i<w.length)||decide (j<p.length))with
 |false=>
  have g:acc++DN w p (w.length-i+(p.length-j)) i j=MV w p:=I.g;have G:DN w p (w.length-i+(p.length-j)) i j=[]:=by
   cases w.length-i+(p.length-j)with
   |zero=>rfl|succ k=>rw[y9,e];rfl
  rw[G,jQ]at g;have K:=I.hr;have L:=I.hv;rw[g]at K;rw[g]at L;exact q r v Z hr (e1.none hv) t I.e K L|true=>
  refine wb (λu s=>u=.bool (Go w p i j)/\s=Z) (λQ X M=>?_) λu s N=>?_
  ·refine Oh (x:=decide (j=p.length)) (y:=decide (i<w.length)&&decide (aw w i<=aw p j)) (λQ' F=>iT D m (E7 F)) (λhx Q' F=>?_) (M _ _ ⟨rfl,rfl⟩);have hj:j<p.length:=t8 I.hj (of_decide_eq_false hx);exact JN (x:=decide (i<w.length)) (y:=decide (aw w i<=aw p j)) (λQ' F=>iT C h (GA F)) (λO Q' F=>dp C h (bx (bY O)) (dp D m (bx hj) (NP F))) F
  ·(refine dA (N) ?_;rintro P;rw[P];rintro P;rw[P]);have R:acc++DN w p (w.length-i+(p.length-j)) i j=MV w p:=I.g;cases l:Go w p i j with
   |true=>
    have hi:=Ii I.hj e l;refine And.intro (cK I.hv) (eI I.hv (by rw[aP];exact jk E (by decide)) λS e3 g3=>?_);have T:=e3 _ _ t I.hr;have U:bt H S:=I.e.b e3 (e1.none hv);refine And.intro (cK T) (dp (U _ _ c) h (bx hi) (uK T (by rw[aP];exact E) λV W g4=>A (i+1,j,acc++[(aw w i,true)]) _ V ?_ (aB rfl) ⟨hi,I.hj,?_,?_,U.b W hr,?_,?_⟩));·exact Ci (Nat.sub_succ_lt_self _ _ hi) _
    ·rw[eR];exact g4
    ·rw[eR];exact W _ _ t.symm g3
    ·rw[lg,I.l];exact jL ..
    ·rw[<-R,pf];refine ak (acc++·) ?_;rw[show w.length-i+(p.length-j)=w.length-(i+1)+(p.length-j)+1 from(ak (·+(p.length-j)) (ND hi)).trans (jL ..)];conv=>rhs;rw[y9]
     rw[aE e,aE l];rfl|false=>
    have hj:=Hw I.hj l;refine And.intro (cK I.hv) (eI I.hv (by rw[aP];exact jk E (by decide)) λS e3 g3=>?_);have T:=e3 _ _ t I.hr;have U:bt H S:=I.e.b e3 (e1.none hv);refine And.intro (cK T) (dp (U _ _ d) m (bx hj) (uK T (by rw[aP];exact E) λV W g4=>A (i,j+1,acc++[(aw p j,false)]) _ V ?_ (aB rfl) ⟨I.hi,hj,?_,?_,U.b W hr,?_,?_⟩));·exact Nat.add_lt_add_left (Nat.sub_succ_lt_self _ _ hj) _
    ·rw[eR];exact g4
    ·rw[eR];exact W _ _ t.symm g3
    ·rw[lg,I.l];exact dM ..
    ·rw[<-R,pf];refine ak (acc++·) ?_;rw[show w.length-i+(p.length-j)=w.length-i+(p.length-(j+1))+1 from ak (w.length-i+·) (ND hj)];conv=>rhs;rw[y9]
     rw[aE e,l];rfl
theorem gq{σ α:Type}{t:iw}{same:Hp->Prop}{body:G3}{nx:QR}{rt:QV}{ex:QE}{g:α->V}(l:σ->List (Nat×V))(a:Nat->σ->Hp->Prop)(hs:∀i s H,a i s H->same H):∀{xs:List α}{i:Nat}{s0:σ}{ρ:aR}{H:Hp},qq ρ (l s0)->a i s0 H->(∀j s x ρ H,xs[j]?=some x->a (i+j) s H->dC t (g x) (jE ρ (l s)) λO=>∀c:QR,(∀s' d e,qq d (l s')->a (i+j+1) s' e->c d e)->body c c rt ex O H)->(∀s ρ H,a (i+xs.length) s H->nx (jE ρ (l s)) H)->ju t same body (xs.map g) nx rt ex ρ H:=by intro xs;induction xs with|nil=>intro i s0 ρ H h f _ done;exact⟨hs _ _ _ f,fy h▸done s0 ρ H f⟩|cons x xs k=>intro i s0 ρ H h f step done;exact⟨hs _ _ _ f,ez (λr b=>b _ λs' d e n o=>k n o (λj s y ρ H m z=>by have:=step (j+1) s y ρ H m;rw[show i+(j+1)=i+1+j from(dM ..).symm.trans (jL ..)]at this;exact this z) λs ρ H z=>done s ρ H (by rw[show i+(x::xs).length=i+1+xs.length from(dM ..).symm.trans (jL ..)];exact z)) (fy h▸step 0 s0 x ρ H rfl f)⟩
noncomputable def Oi(a:List Nat):List Nat:=(List.range (a.length/2)).map λi=>aw a (2*i)+aw a (2*i+1)
noncomputable def pT(w:List Nat):Nat->List (Nat×Bool)|0=>[]|i+1=>MV w (Oi ((pT w i).map (·.1)))
noncomputable def Gg(l:List (Nat×Bool))(m:Nat):Nat:=((l.map (·.2)).take m).foldl (λt b=>if b=true then t+1 else t) 0
noncomputable def wX(w:List Nat)(k:Nat):Nat->Nat×(Nat->Nat)|0=>(2*w.length-2,λa=>0)|i+1=>(2*((wX w k i).1-Gg (pT w (k-i)) (wX w k i).1),λx=>if x<Gg (pT w (k-i)) (wX w k i).1 then(wX w k i).2 x+1 else(wX w k i).2 x)
noncomputable def E2(w:List Nat)(k:Nat):List Nat:=(List.range w.length).map (wX w k k).2
theorem zE(w:List Nat):∀i,(pT w i).length<=2*w.length:=by intro i;induction i with|zero=>exact cR _|succ i a=>refine aa (Kl _ _ _ _ _) ?_;rw[Nat.two_mul];refine uz ?_ _;unfold Oi;rw[aP,bf,aP];exact Nat.div_le_of_le_mul (a)
theorem zo:∀(l:List Bool)(t:Nat),l.foldl (λt b=>if b=true then t+1 else t) t=t+(l.filter id).length:=by intro l;induction l with|nil=>intro t;exact rfl|cons b l a=>intro t;rw[oZ,a];cases b with|false=>rfl|true=>exact jL ..
theorem Og(l:List (Nat×Bool))(m:Nat):Gg l m<=m:=by unfold Gg;rw[zo,aU];exact aa (qk ..) (List.length_take_le ..)
theorem LN(w p:List Nat):∀k i j,i<=w.length->(((DN w p k i j).map (·.2)).filter id).length+i<=w.length:=by
 intro k;induction k with|zero=>intro _ _ h;refine(?_:0+_<=_);rw[aU];exact h|succ k a=>
  intro i j h;rw[y9];by_cases e:(decide (i<w.length)||decide (j<p.length))=true
  ·rw[aE e];by_cases l:Go w p i j=true
   ·rw[aE l];have hi:i<w.length:=by
     unfold Go at l;rcases vw e with e|e;·exact bY e
     ·rcases vw l with l|l;·exact absurd (bY l) (g_ (bY e))
      ·exact bY (b8 l).1
    have:=a (i+1) j hi;rw[<-dM,jL]at this;exact this
   ·rw[aA l];exact a i (j+1) h
  ·rw[aA e];show 0+_<=_;rw[aU];exact h
theorem Pa(w:List Nat)(i m:Nat):Gg (pT w i) m<=w.length:=by unfold Gg;rw[zo,aU];refine aa ((List.take_sublist m _).filter id).length_le ?_;cases i with|zero=>exact cR _|succ i=>exact LN w _ _ 0 0 (cR _)
theorem Bk(m:Nat):cJ 0 ((m:Int)-1) 2=(List.range (m/2)).map λ(i:Nat)=>((2*i:Nat):Int):=by unfold cJ;rw[aE (by decide),show((m:Int)-1-0+2-1)=m by lia];exact f9 λi a=>Int.zero_add _
theorem xL{m:Nat}(h:m<=1000)(q:Q (.rng 0 ((m:Int)-1) 2) H):dR .range [.int 0,.int ((m:Int)-1),.int 2] Q H:=dR.k (.inr (.inr (pC 0 _ 2 rfl (by decide) (by decide) (by lia) (by lia) (by decide) (by decide) q)))
structure PI(H0 H:Hp)(a:Nat)(w:List Nat)(i:Nat)(c:Nat)(d:List Nat):Prop where
 hrow:H c=some (.list (nl ((pT w i).map (·.1))))
 hrr:H a=some (.list (d.map V.ref))
 len:d.length=i
 ad:∀j b,d[j]?=some b->b≠a/\H b=some (.list ((pT w (j+1)).map λx=>.bool x.2))
 e:bt H0 H
 n:c≠a
theorem Ay{a k:Nat}{w:List Nat}(ar:H a=some (.list (nl w)))(hw:w.length<=100)(a6:1<=w.length)(c:k<=100)(q:∀r Z,H r=none->bt H Z->Z r=some (.list (nl (E2 w k)))->Q (.ref r) Z):aj aq aI (n+2) false 23 [.ref a,nv k] Q X H:=by
 have o:w.length<=1000:=aa hw (by decide);refine ac gQ (vs:=[.ref a,nv k]) rfl rfl ?_;intro Y cd ce ck;refine ai λp J hrr e1 g1=>(ai λro u a7 e2 g2=>?_);refine eW (aa c (by decide)) (bD (aa c (by decide)) ?_);refine gq (σ:=Nat) (λA=>[(0,.ref a),(1,nv k),(2,.ref p),(3,.ref A)]) (λi A Z=>∃B,PI H Z p w i A B) (λi s Z C=>aJ) (s0:=ro) (i:=0) (aB rfl) ⟨[],g2,e2 _ _ g1,rfl,λj b h=>(by cases h),e1.trans e2,(af a7 g1).symm⟩ (λj A x ρ Z hx D a8 E=>?_) λA ρ Z D=>?_
 ·(refine dE (D) ?_;intro B I);rw[aU]at I;rw[aU]at E;have ln:(pT w j).length<=1000:=aa (zE w j) (aa (kW 2 hw) (by decide));have F:((pT w j).map (·.1)).length<=1000:=by rw[aP];exact ln
  refine iT I.hrow F ?_;refine xL F (dk rfl ?_ ?_);·rw[Bk,aP,aP,bf];exact aa (yI ..) (cI F)
  ·rw[Bk,bO];refine dK (g:=λi:Nat=>nv (2*i)) (f:=λi:Nat=>nv (aw ((pT w j).map (·.1)) (2*i)+aw ((pT w j).map (·.1)) (2*i+1))) aJ (by rw[bf];exact aa (yI ..) (cI F)) (λi hi Q' a'=>?_) λcl av co e3 g3=>?_
   ·have a0:2*i+1<((pT w j).map (·.1)).length:=by have:=(Nat.lt_div_iff_mul_lt (by decide)).mp (gi hi);exact B5 (by rw[fB];exact this)
    exact dp I.hrow F (bx (Nat.lt_of_succ_lt a0)) (dp (i:=2*i+1) I.hrow F (bx a0) a')
   ·refine bn ?_;intro G;rw[show(List.range (((pT w j).map (·.1)).length/2)).map (λi:Nat=>nv (aw ((pT w j).map (·.1)) (2*i)+aw ((pT w j).map (·.1)) (2*i+1)))=nl (Oi ((pT w j).map (·.1)))by unfold nl Oi;rw[bO];rfl]at g3;have a1:bt H av:=I.e.trans e3;refine Fk (a1 _ _ ar) g3 (aa hw (by decide)) (by unfold Oi;rw[aP,bf,aP];exact aa (Nat.div_le_of_le_mul (zE w j)) (aa hw (by decide))) λr v ab hr hv cs K ba bb=>?_;have L:=K _ _ (e3 _ _ I.hrr);have bd:B.length<1000:=by rw[I.len];exact cN (jB hx).1 (by rw[bf];exact aa c (by decide))
    refine And.intro (cK L) (eI L (by rw[aP];exact jk bd (by decide)) λag M g5=>E r _ ag (aB rfl) ⟨B++[v],?_,?_,?_,?_,(a1.trans K).b M hrr,?_⟩);·exact M _ _ (af hr (e3 _ _ I.hrr)).symm ba
    ·rw[eR];exact g5
    ·rw[lg,I.len];rfl
    ·intro al b N;rw[List.getElem?_append]at N;by_cases y:al<B.length
     ·rw[aE y]at N;have z:=I.ad al b N;exact⟨z.1,M _ _ z.1 (K _ _ (e3 _ _ z.2))⟩
     ·rw[aA y]at N;(refine dE (jB N) ?_;intro bi O);have bl:al=j:=by rw[<-I.len];exact ze (Nat.le_of_sub_eq_zero (qU bi)) (fS y)
      rw[List.getElem_singleton]at O;rw[<-O,bl];have a2:=(af hv (e3 _ _ I.hrr)).symm;exact⟨a2,M _ _ a2 bb⟩
    ·exact(af hr (e3 _ _ I.hrr)).symm
 ·refine bn ?_;intro G;(refine dE (D) ?_;intro B I);have P:B.length=k:=by rw[I.len,bf,aU]
  have a3:=I.e _ _ ar;refine ai λr0 av ct e3 g3=>iT (e3 _ _ a3) o (vz (x:=0) g3 o λd ab hd K g4=>?_);have R:=e3.trans K;refine iT (R _ _ a3) o (gY (.inr (.inl ⟨by decide,by decide⟩)) (?_));have L:=R _ _ I.hrr;have S:Z d=none:=e3.none hd;have bo:p≠d:=af S I.hrr;refine dk (l:=(B.map V.ref).reverse) (aL p _ rfl L rfl) (by rw[oJ,aP,P];exact aa c (by decide)) ?_;rw[<-List.map_reverse];rw[xY]at g4;refine gq (σ:=Nat) (λm=>[(7,.ref d),(8,nv m)]) (λi m u=>m=(wX w k i).1/\u d=some (.list (nl ((List.range w.length).map (wX w k i).2)))/\aG d ab u) (λi m u D=>(D.2.2 _ _ bo L).trans L.symm) (s0:=2*w.length-2) (i:=0) (bz rfl (ak (λz=>some (V.int z)) (by rw[jC (kW 2 a6)];rfl)) aJ) (bz rfl g4 (λC C C h=>h)) (λj m x ρ u hx D a8 E=>?_) λm ρ u D=>?_
  ·rw[aU]at D;rw[aU]at E;(refine lz (D) ?_;intro bs T U);have hj:j<k:=by rw[<-P,<-oJ];exact(jB hx).1
   rw[BX (by rw[P];exact hj),P]at hx;(refine dA (I.ad _ _ hx) ?_;intro _ N);have O:=U _ _ (λz=>by rw[z,S]at N;cases N) (R _ _ N);have bv:k-1-j+1=k-j:=by rw[Nat.sub_right_comm];exact rY (xG hj)
   rw[bv]at O;have a4:(pT w (k-j)).length<=1000:=aa (zE w _) (aa (kW 2 hw) (by decide));have b1:=Og (pT w (k-j)) m;have ao:=Pa w (k-j) m;have a5:wX w k (j+1)=(2*(m-Gg (pT w (k-j)) m),λx=>if x<Gg (pT w (k-j)) m then(wX w k j).2 x+1 else(wX w k j).2 x):=by rw[bs];rfl
   refine uv .none (.int m) O (by rw[aP];exact cI a4) λrs ag b2 M g5=>?_;rw[A3,List.map_take.symm,show((pT w (k-j)).take m).map (λx=>V.bool x.2)=(((pT w (k-j)).map (·.2)).take m).map V.bool by rw[<-uj];rw[bO];rfl]at g5;refine bH g5 (by rw[aP];exact aa (rA ..) (by rw[aP];exact cI a4)) ?_;refine ku (g:=V.bool) (λt=>[(7,.ref d),(8,nv m),(9,nv t)]) (λC Z=>Z=ag) (λt b=>if b=true then t+1 else t) (λs H h=>h▸rfl) (aB rfl) rfl (λt b ρ b3 hx e cv b4=>?_) λρ b3 e=>?_;·refine bn ?_;intro G;subst e;exact dR.k (an b rfl (b4 _ _ (et rfl rfl (by cases b<;>rfl) aJ) rfl))
   ·refine bn ?_;intro G;subst e;refine eW (k:=Gg (pT w (k-j)) m) (aa ao o) (bD (aa ao o) ?_);have nd:=af b2 T;refine be (λi=>[(7,.ref d),(8,nv m),(9,nv (Gg (pT w (k-j)) m))]) (λi W=>W d=some (.list (nl ((List.range w.length).map λx=>if x<i then(wX w k j).2 x+1 else(wX w k j).2 x)))/\aG d ab W) (aB rfl) ⟨(M _ _ T).trans (ak (λl=>some (AO.list (nl l))) (f9 λx C=>(aA (pF x)).symm)),U.trans (.of M)⟩ (λi W h=>aJ) (λi ρ W hi h cx b7=>?_) λρ W h=>?_
    ·refine bn ?_;intro G;have ap:=cN hi ao;have ll:((List.range w.length).map λx=>if x<i then(wX w k j).2 x+1 else(wX w k j).2 x).length=w.length:=by rw[aP,bf]
     refine dp h.1 (aa (jP ll) o) (rg ap) (v6 (x:=(if i<i then(wX w k j).2 i+1 else(wX w k j).2 i)+1) h.1 (aa (jP ll) o) (Nat.lt_of_lt_of_eq ap ll.symm) λcD b' cc=>b7 _ _ (aB rfl) ⟨cc.trans (ak (λl=>some (AO.list (nl l))) (fP ap ?_ λx hx ne=>?_)),h.2.trans b'⟩);·rw[aE (iY i),aA (gW i)]
     ·by_cases y:x<i;·rw[aE y,aE (qg y)]
      ·rw[aA y,aA λz=>y (t8 (qh z) ne)]
    ·refine bn ?_;intro G;refine gY (.inr (.inl ⟨by decide,by decide⟩)) (E (2*(m-Gg (pT w (k-j)) m)) _ _ (bz rfl (ak (λz=>some (V.int z)) (by rw[Int.natCast_mul,jC b1];rfl)) aJ) (bz (by rw[a5]) ?_ h.2));rw[a5];exact h.1
  ·(refine lz (D) ?_;intro _ T U);rw[oJ,P,aU]at T;exact q d u (I.e.none S) ((I.e.trans R).b U (I.e.none S)) T
noncomputable def tH(C:List Nat)(k:Nat):List Nat:=if(cj C).length<2 then List.replicate (cj C).length 1 else E2 ((cj C).map (·.1)) k
noncomputable def eU(C:List Nat)(k:Nat):List Nat:=zJ (cj C) (tH C k) C.length (tH C k).length
theorem qn(C:List Nat):(cj C).length=(AL C C.length).length:=cm.length_eq
theorem dS{C:List Nat}{r:Nat×Nat}(h:r∈cj C):r.2<C.length/\r.1=aw C r.2/\0<r.1:=by have a:=cm.mem_iff.mp h;(refine am (dm a) ?_;rintro j hj b;rw[<-b]);have:=jI hj;exact bz (gi this.1) rfl (bY this.2)
theorem IG{a k:Nat}{C:List Nat}(b:H a=some (.list (nl C)))(c:C.length<=6)(d:k<=60)(r_:1<=k)(hr:(cj C).length<=2^k)(q:∀r Z,H r=none->bt H Z->Z r=some (.list (nl (eU C k)))->Q (.ref r) Z):aj aq aI (n+3) false 24 [.ref a,nv k] Q X H:=by
 have g:C.length<=1000:=aa c (by decide);have i:(cj C).length<=6:=by rw[qn];exact aa (iF C _) c
 have j:(cj C).length<=1000:=aa i (by decide);refine ac ja (vs:=[.ref a,nv k]) rfl rfl ?_;intro Y l m o;refine MK b c λp J s e1 g1=>?_;have t:∀{Z:Hp}{Q:QV},bt J Z->Q (nv (cj C).length) Z->dR .len [.ref p] Q Z:=λe q=>len_list (e _ _ g1) (by rw[aP];exact cI j) (by rw[aP];exact q);refine t .refl (yf hr r_ d ?_);refine t .refl (jv (λz=>?_) λz=>?_)
 ·have u:tH C k=List.replicate (cj C).length 1:=aE (eY z);refine iT (e1 _ _ b) g ((ai λr0 v w e2 g2=>t e2 (vz (x:=1) g2 j λrd A B e3 g3=>?_)));refine wM (R:=cj C) ((e2.trans e3) _ _ g1) g3 g (by rw[rO];exact j) j (jP rO) (λr h=>(dS h).1) λr D E F g4=>q r D ((e1.trans (e2.trans e3)).none E) ((e1.trans (e2.trans e3)).trans F) (g4.trans ?_);unfold eU;rw[u]
 ·have G:¬(cj C).length<2:=λy=>z (dP y);have u:tH C k=E2 ((cj C).map (·.1)) k:=aA G;have hw:((cj C).map (·.1)).length<=6:=by rw[aP];exact i
  refine iT (e1 _ _ b) g (bH g1 (by rw[aP];exact cI j) (dK (f:=λr:Nat×Nat=>nv r.1) rfl (cI j) (λr I=>λQ' K=>K) λrw' v L e2 g2=>?_));rw[show(cj C).map (λr:Nat×Nat=>nv r.1)=nl ((cj C).map (·.1))by unfold nl;rw[bO];rfl]at g2;refine Ay g2 (aa hw (by decide)) (by rw[aP];exact aa (by decide) (fS G)) (aa d (by decide)) λrd A B e3 g3=>?_;have M:(E2 ((cj C).map (·.1)) k).length=(cj C).length:=by skip;rw[aP,bf,aP]
  refine wM (R:=cj C) ((e2.trans e3) _ _ g1) g3 g (by rw[M];exact j) j (jP M) (λr h=>(dS h).1) λr D E F g4=>q r D ((e1.trans (e2.trans e3)).none E) ((e1.trans (e2.trans e3)).trans F) (g4.trans ?_);unfold eU;rw[u]
theorem N3{x y:Int}(q:Q (.bool (decide (x<y))) H):bP .lt (.int x) (.int y) Q H:=jv (λz=>by rw[bC z]at q;exact q) λz=>by rw[b5 z]at q;exact q
noncomputable def eV(H:Hp)(r:Nat):Prop:=∃x y:Nat,H r=some (.list [nv x,nv y])
theorem Eg{k:Nat}(h:k<=1000000):FA k:=⟨y8 (by decide) (cf k),pw (gL h) (by decide)⟩
theorem Nc{k:Nat}(h:k<=1000000):Sm k:=⟨y8 (by decide) (cf k),pw (gL h) (by decide)⟩
theorem KI{a:Nat}{cells:List Int}(h:H a=some (.ro (cells.map V.int)))(b:cells.length<=1000)(q:∀r Z,H r=none->bt H Z->eV Z r->Q (.ref r) Z):aj aq aI (n+1) false 41 [.ref a] Q X H:=by
 refine ac qO (vs:=[.ref a]) rfl rfl ?_;intro Y c d e;refine uT.k (yP none (some 24) (.none) (.int 24) _ (.inr h) (by rw[aP];exact cI b) (ai λr1 J f e1 g1=>?_));rw[show eg none (some (24:Int)) (cells.map V.int)=(cells.take 24).map V.int by rw[uj];exact A3 (j:=24)]at g1;refine bH g1 (by rw[aP];exact aa (rA ..) (cI b)) ?_;refine gq (σ:=Nat) (g:=V.int) (λw=>[(1,nv w)]) (λi w Z=>Z=J) (λi w Z k=>k▸rfl) (i:=0) (s0:=0) (aB rfl) rfl (λj w x ρ Z hx k l m=>?_) λw ρ Z k=>?_
 ·refine bn ?_;intro o;rw[k];refine gY (y:=1009) (.inr (.inr ⟨by decide,by decide⟩)) (dR.k (an x rfl (gY (x:=2) (.inr (.inl ⟨by decide,by decide⟩)) ?_)));refine N3 (dR.k (an _ rfl (bK.k (jN (by decide) (by decide) (by decide) (by decide) (xS (by decide) ?_)))));refine m (Int.toNat _) _ _ ⟨ak (λz=>some (V.int z)) (Int.toNat_of_nonneg (Int.emod_nonneg _ (by decide))).symm,aJ⟩ rfl
 ·rw[k];exact ai λr p hr e2 g2=>q r p (e1.none hr) (e1.trans e2) (tC w 0 g2)
theorem fH{po many:Nat}(h:eV H po)(a:0<many)(hs:many<=1000000)(q:∀d Z,d<many->aG po H Z->eV Z po->Q (nv d) Z):aj aq aI (n+1) false 42 [.ref po,nv many] Q X H:=by
 refine qD h λx y h=>?_;have b:(0:Int)<many:=dP a;refine ac sH (vs:=[.ref po,nv many]) rfl rfl ?_;intro Y c e f;refine iE h (by decide) (by refine(?_:2<=1048576);decide) rfl (iB (λz=>?_) λz=>?_)
 ·refine iE h (by decide) (by refine(?_:2<=1048576);decide) rfl (xS b ?_);refine Do ?_;intro g i;refine iE h (by decide) (by refine(?_:2<=1048576);decide) rfl (J5 b (Nc hs) (vT h (by decide) (by refine(?_:2<=1048576);decide) (by refine(?_:0<2);decide) λj e2 g2=>?_));exact q (x%many) j (dG _ a) e2 (tC (x/many) y g2)
 ·refine iE h (by decide) (by refine(?_:2<=1048576);decide) rfl (vT h (by decide) (by refine(?_:2<=1048576);decide) (by refine(?_:1<2);decide) λj e2 g2=>?_);refine iE g2 (by decide) (by refine(?_:2<=1048576);decide) rfl (gY (x:=7) (.inr (.inl ⟨by decide,by decide⟩)) (xS b ?_));exact q ((7*(y+1)+3)%many) j (dG _ a) e2 (tC x (y+1) g2)
noncomputable def kS:Nat->List Nat|0=>[111,110,101]|1=>[116,119,111]|_=>[114,97,119]
noncomputable def wF(i:aM):V:=.tup [.str (kS i.1),nv i.2.1,nv i.2.2]
noncomputable def HV(a:Nat)(i:aM):Prop:=(i.1=0/\i.2.1<a/\i.2.2=0)\/(i.1=1/\i.2.1<3/\i.2.2=0)\/(i.1=2/\i.2.1<2^i.2.2/\i.2.2<=13)
structure O6(wide:Bool)(its:List aM)(a:Nat):Prop where
 l1:2<=its.length
 l2:its.length<=12
 l3:wide=false->its.length<=5
 s1:1<=a
 s2:a<=6
 ok:∀i∈its,HV a i
 first:∃v r,its=(0,v,0)::r
structure MJ(H0 H:Hp)(po r a:Nat)(i:Nat)(its:List aM):Prop where
 p:eV H po
 r:H r=some (.list (its.map wF))
 l:its.length=i+1
 ok:∀i∈its,HV a i
 first:∃v r,its=(0,v,0)::r
 e:aG po H0 H
theorem MJ.add{H0 H J a:Hp}{po r c i:Nat}{its:List aM}(j:MJ H0 H po r c i its)(hr:H0 r=none)(n:r≠po)(it:aM)(ok:HV c it)(e1:aG po H J)(d:eV J po)(e2:aG r J a)(g2:a r=some (.list (its.map wF++[wF it]))):MJ H0 a po r c (i+1) (its++[it]):=by
 (refine qD (d) ?_;intro x y e);(refine qD (j.first) ?_;intro v f g);refine⟨(tC x y (e2 _ _ n.symm e)),by rw[eR];exact g2,by rw[lg,j.l];rfl,λk l=>?_,(tC v (f++[it]) (by rw[g];rfl)),λb m o h=>e2 _ _ (af hr h) (e1 _ _ o (j.e _ _ o h))⟩;rcases sA l with h|h;·exact j.ok k h
 ·rw[cO h];exact ok
theorem Cq{po:Nat}{wide:Bool}(h:eV H po)(q:∀its a r Z,O6 wide its a->H r=none->aG po H Z->eV Z po->Z r=some (.list (its.map wF))->Q (.tup [.ref r,nv a]) Z):aj aq aI (n+2) false 43 [.ref po,.bool wide] Q X H:=by
 refine ac lp (vs:=[.ref po,.bool wide]) rfl rfl ?_;intro Y a' ba bb;have b:∀(Q':QV)(e:QX),Q' (nv (if wide=true then 11 else 4)) H->WE aq (aj aq aI (n+1)) false (.ite (.var 1) (.cint 11) (.cint 4)) (fr [some (.ref po),some (.bool wide)]) Q' e H:=λQ' e ab=>by cases wide<;>exact ab
 refine b _ _ ?_;have f:0<(if wide=true then 11 else 4)/\(if wide=true then 11 else 4)<=11:=by cases wide<;>decide
 refine fH h f.1 (aa f.2 (by decide)) λd J hd e1 ag=>fH (many:=6) ag (by decide) (by decide) λs bd hs e2 al=>?_;have m:1+s<=6:=by rw[dQ];exact hs
 refine fH (many:=1+s) al (Nat.lt_add_right s Nat.one_pos) (aa m (by decide)) λv bi hv e3 o=>ai λr p hr t g4=>?_;refine bn ?_;intro u;have y:=(e1.trans e2).trans e3;have A:d+1<=11:=aa hd f.2;have B:r≠po:=(af hr o.choose_spec.choose_spec).symm;have C:H r=none:=jJ y B hr;have ao:eV p po:=o.imp λD z=>z.imp λD z=>t _ _ z;refine ?_;refine(?_:dR .range [.int (2+(d:Int)-1)] _ p);rw[show(2+(d:Int)-1)=((d+1:Nat):Int)by lia];refine eW (k:=d+1) (aa A (by decide)) (bD (aa A (by decide)) ?_);refine gx (g:=nv) [(0,.ref po),(3,nv (1+s)),(4,.ref r)] (λi Z=>∃its,MJ H Z po r (1+s) i its) (aB rfl) ⟨[(0,v,0)],ao,g4,rfl,λk ap=>by rw[cO ap];exact .inl (bz rfl hv rfl),(tC v [] rfl),y.trans (.of t)⟩ (λi Z D=>aJ) (λi x ρ Z hx E bl F=>?_) λρ Z E=>?_
 ·refine bn ?_;intro u;(refine dE (E) ?_;intro its j);have hi:i<d+1:=by have:=(jB hx).1;rw[bf]at this;exact this
  have G:(its.map wF).length<cu:=by rw[aP,j.l];exact fm (gb (aa (qh hi) (Nat.le_of_succ_le_succ A))) (by decide)
  refine fH (many:=4) j.p (by decide) (by decide) λw bo hw I K=>?_;refine bn ?_;intro u;have L:=I _ _ B j.r;refine jv (λz=>?_) λz=>tF (λar=>?_) λar=>?_;·refine And.intro (cK L) (fH (many:=1+s) K (Nat.lt_add_right s Nat.one_pos) (aa m (by decide)) λv M hv N O=>eI (N _ _ B L) G λP R S=>F _ P (aB rfl) ⟨_,j.add C B (0,v,0) (.inl (bz rfl hv rfl)) (I.trans N) O R S⟩)
  ·refine And.intro (cK L) (fH (many:=3) K (by decide) (by decide) λv M hv N O=>eI (N _ _ B L) G λP R S=>F _ P (aB rfl) ⟨_,j.add C B (1,v,0) (.inr (.inl (bz rfl hv rfl))) (I.trans N) O R S⟩)
  ·refine ai λrc M av N a0=>?_;have O:eV M po:=K.imp λD z=>z.imp λD z=>N _ _ z;have a1:rc≠po:=(af av K.choose_spec.choose_spec).symm;refine fH (many:=5) O (by decide) (by decide) λc P T R a2=>dp (l:=[0,1,3,7,13]) (R _ _ a1 a0) (by decide) (bx T) ?_;refine Do ?_;intro u bs;have U:=R _ _ B (N _ _ L);have a3:∀c,c<5->aw [0,1,3,7,13] c<=13:=by decide+kernel
   have V:=a3 c T;have a4:2^aw [0,1,3,7,13] c<=2^13:=kQ (by decide) V;refine And.intro (cK U) (eN (aa V (by decide)) (fH a2 (jD _) (aa a4 (by decide)) λv bv hv W a5=>eI (W _ _ B U) G λa6 a7 a8=>F _ a6 (aB rfl) ⟨_,j.add C B (2,v,aw [0,1,3,7,13] c) (.inr (.inr (bz rfl hv V))) (((I.trans (.of N)).trans R).trans W) a5 a7 a8⟩))
 ·(refine dE (E) ?_;intro its j);have G:its.length=d+2:=by rw[j.l,bf]
  refine q its (1+s) r Z ⟨by rw[G];exact uF ..,by rw[G];exact gb A,λz=>by rw[G];rw[z]at hd;exact gb hd,gh ..,m,j.ok,j.first⟩ C j.e j.p j.r
noncomputable abbrev NN:=List (Nat×Nat)
noncomputable def DP(l:NN):List (Int×V):=l.map λp=>((p.1:Int),nv p.2)
noncomputable def zB(room s t:Nat)(l:NN):NN:=if s<=room/\∀a∈l.lookup s,t<a then oj s t l else l
noncomputable def yr(K c s t:Nat):Nat->NN->NN|0,l=>l|i+1,l=>zB (2^K) (s+2^(K-(1+i))) (t+c*(1+i)) (yr K c s t i l)
noncomputable def xR(K c:Nat)(a:NN)(l:NN)(s:Nat):NN:=yr K c s ((a.lookup s).getD 0) K l
noncomputable def Nf(K:Nat)(a:NN)(c:Nat):NN:=(a.map (·.1)).foldl (xR K c a) []
noncomputable def Cn(K:Nat)(u:List Nat):NN:=u.foldl (Nf K) [(0,0)]
theorem qN{s:Nat}:∀{l:NN},(DP l).lookup (s:Int)=(l.lookup s).map nv:=by intro l;induction l with|nil=>exact rfl|cons c l d=>obtain⟨a,b⟩:=c;refine(?_:(match(s:Int)==a with|true=>some (nv b)|false=>(DP l).lookup (s:Int))=Option.map nv (match s==a with|true=>some b|false=>l.lookup s));rw[show((s:Int)==a)=(s==a)from BQ ⟨λz=>kX (nI (eq_of_beq z)),λz=>kX (Int.ofNat_inj.mpr (eq_of_beq z))⟩,d];cases s==a<;>rfl
theorem Jv{s t:Nat}:∀{l:NN},oj (s:Int) (nv t) (DP l)=DP (oj s t l):=by intro l;induction l with|nil=>exact rfl|cons c l d=>obtain⟨a,b⟩:=c;refine(?_:(if((a:Int)==s)=true then _ else _::oj (s:Int) (nv t) (DP l))=DP (if(a==s)=true then _ else _));rw[show((a:Int)==s)=(a==s)from BQ ⟨λz=>kX (nI (eq_of_beq z)),λz=>kX (Int.ofNat_inj.mpr (eq_of_beq z))⟩,d];cases a==s<;>rfl
theorem Cj{α β:Type}[BEq α]{k:α}{v:β}:∀{l:List (α×β)},(oj k v l).length<=l.length+1:=by
 intro l;induction l with
 |nil=>exact bF _|cons c l d=>
  obtain⟨a,b⟩:=c;rw[pj];by_cases h:(a==k)=true;·rw[aE h];exact Nat.le_succ _
  ·rw[aA h];exact gb d
theorem vI(K c s t:Nat)(l:NN):∀i,(yr K c s t i l).length<=l.length+i:=by
 intro i;induction i with
 |zero=>exact bF _|succ i a=>
  have b:=a;show(if _ then _ else _:NN).length<=_;split;·exact aa Cj (gb b)
  ·exact tY b
theorem yl{α:Type}{f:NN->α->NN}{K:Nat}(h:∀l x,(f l x).length<=l.length+K):∀(xs:List α)(l:NN),(xs.foldl f l).length<=l.length+xs.length*K:=by intro xs;induction xs with|nil=>intro l;exact gh ..|cons x xs a=>intro l;exact aa (a (f l x)) (by rw[mo,Nat.succ_mul,dQ (xs.length*K),<-dM];exact rF (h l x) _)
theorem HR(K:Nat):∀(u:List Nat)(l:NN),(u.foldl (Nf K) l).length<=l.length*K^u.length:=by intro u;induction u with|nil=>intro l;rw[mv,t4,ph];exact bF _|cons c u a=>intro l;exact aa (a _) (by rw[mo,ry,fB (K^u.length),<-nu];refine Nat.mul_le_mul_right _ ?_;have:=yl (f:=xR K c l) (K:=K) (λl' x=>vI K c x _ l' K) (l.map (·.1)) [];rw[aP,mv,aU]at this;exact this)
noncomputable def xh(K:Nat)(u:List Nat):List Nat:=((Cn K u).map (·.1)).map λs=>((Cn K u).lookup s).getD 0
theorem qm:∀(u:List Nat),(u.map λ(n:Nat)=>(n:Int)).sum=((u.sum:Nat):Int):=by intro u;induction u with|nil=>exact rfl|cons x u a=>rw[gT,i8,i8,a];rfl
theorem zT{a K:Nat}{u:List Nat}(d:H a=some (.list (nl u)))(ap:u.length<=6)(cL:1<=K)(o:K<=4)(bs:∀c∈u,c<=1000)(q:∀m Z,bt H Z->(u.length<2->m=u.sum)->(2<=u.length->m∈xh K u/\∀x∈xh K u,m<=x)->Q (nv m) Z)(p:2<=u.length->Cn K u≠[]):aj aq aI (n+1) false 44 [.ref a,nv K] Q X H:=by
 have w:u.length<=1000:=aa ap (by decide);refine ac o_ (vs:=[.ref a,nv K]) rfl rfl ?_;intro Y cM c0 c1;refine iT d w (jv (λz=>?_) λz=>?_)
 ·have z:=eY z;refine dR.k (bW a _ rfl (d.trans (ak some (i0 u))) (by rw[aP];exact cI w) ?_);rw[qm];exact q u.sum H .refl (λA=>rfl) λy=>absurd z (io y)
 have ar:2<=u.length:=fS λy=>z (dP y);have av:∀i,(Cn K (u.take i)).length<=4096:=λi=>by have a0:=HR K (u.take i) [(0,0)];rw[List.length_singleton,Nat.one_mul]at a0;exact aa a0 (aa (Nat.pow_le_pow_left o _) (kQ (by decide:0<4) (aa (rA ..) ap):4^_<=4^6))
 refine eN (aa o (by decide)) λep=>ai λr0 J c2 e1 g1=>n7 (e1 _ _ d) w ?_;refine gq (σ:=Nat) (g:=nv) (λC=>[(0,.ref a),(1,nv K),(2,nv (2^K)),(3,.ref C)]) (λi C Z=>(∃ep,Z C=some (.dictI (DP (Cn K (u.take i))) ep))/\bt H Z) (λi C Z D=>(D.2 _ _ d).trans (e1 _ _ d).symm) (i:=0) (s0:=r0) (aB rfl) ⟨⟨ep,g1⟩,e1⟩ (λj C c ρ Z hx D c3 a1=>?_) λC ρ Z D=>?_
 ·refine bn ?_;intro E;rw[aU]at D;rw[aU]at a1;obtain⟨⟨bv,F⟩,G⟩:=D;have b1:=bs c (cy hx);refineλb2=>ai λI a2 a3 a4 g5=>?_;have M:=a4 _ _ F;have a5:C≠I:=af a3 F;have N:=av j;have a6:Cn K (u.take (j+1))=Nf K (Cn K (u.take j)) c:=by unfold Cn;rw[mI,hx,yu];rfl
  generalize Cn K (u.take j)=B at F M N a6;refine dk (.inr (aY _ _ M rfl)) (by skip;rw[aP,aP];exact aa N (by decide)) ?_;rw[show(DP B).map (λe=>V.int e.1)=(B.map (·.1)).map nv by skip;rw[bO];rw[bO];rfl];have b3:∀i,(((B.map (·.1)).take i).foldl (xR K c B) []).length<=4096*4:=λi=>by have:=yl (f:=xR K c B) (K:=K) (λl' x=>vI K c x _ l' K) ((B.map (·.1)).take i) [];rw[mv,aU]at this;exact aa this (Nat.mul_le_mul (aa (rA ..) (by rw[aP];exact N)) o)
  refine gx (g:=nv) [(0,.ref a),(1,nv K),(2,nv (2^K)),(3,.ref C),(4,nv c),(5,.ref I)] (λi P=>(∃ep,P I=some (.dictI (DP (((B.map (·.1)).take i).foldl (xR K c B) [])) ep))/\aG I a2 P) (aB rfl) ⟨⟨b2,g5⟩,λA A A h=>h⟩ (λi P D=>(D.2 _ _ a5 M).trans M.symm) (λi s ρ P hs D c4 b4=>?_) λρ P D=>?_
  ·refine bn ?_;intro E;obtain⟨⟨ab,R⟩,ag⟩:=D;have a7:=b3 i;have b7:((B.map (·.1)).take (i+1)).foldl (xR K c B) []=xR K c B (((B.map (·.1)).take i).foldl (xR K c B) []) s:=by rw[mI,hs,yu];rfl
   have b':∃t,B.lookup s=some t:=by
    cases S:B.lookup s with|some t=>exact⟨t,rfl⟩|none=>exact absurd (cy hs) (kD S)
   (refine dE (b') ?_;intro t a8);have a':((B.map (·.1)).take (i+1)).foldl (xR K c B) []=yr K c s t K (((B.map (·.1)).take i).foldl (xR K c B) []):=by rw[b7,xR,a8];rfl
   generalize ((B.map (·.1)).take i).foldl (xR K c B) []=L at R a7 a';refine vH (i:=1) (k:=K+1) (by decide) (aa (gb o) (by decide)) (gV (a:=1) (b:=K+1) (aa (gb o) (by decide)) ?_);rw[Nat.add_sub_cancel];refine be (λA=>[(0,.ref a),(1,nv K),(2,nv (2^K)),(3,.ref C),(4,nv c),(5,.ref I),(6,nv s)]) (λk T=>(∃ep,T I=some (.dictI (DP (yr K c s t k L)) ep))/\aG I a2 T) (aB rfl) ⟨⟨ab,R⟩,ag⟩ (λA A A=>aJ) (λk ρ T ba D bb bd=>?_) λρ T D=>?_
   ·refine bn ?_;intro E;obtain⟨⟨al,U⟩,W⟩:=D;refine ?_;refine jO ?_;intro E;show bK .shl (.int 1) (.int ((K:Int)-((1+k:Nat):Int))) _ T;rw[<-jC (by rw[dQ];exact ba)];have cc:=W _ _ a5 M;refine eN (aa (i' ..) (aa o (by decide))) (gH (v:=nv t) cc (by rw[qN,a8];rfl) (gY (.inr (.inl (Eg (aa b1 (by decide))))) (?_)));have cd:(yr K c s t k L).length<=20000:=aa (vI K c s t L k) (aa (um a7 (bT (cN ba o))) (by decide));have ce:(DP (yr K c s t k L)).length<=cu:=by skip;rw[aP];exact aa cd (by decide)
    have st:yr K c s t (k+1) L=yr K c s t k L->∀O,qq O [(0,.ref a),(1,nv K),(2,nv (2^K)),(3,.ref C),(4,nv c),(5,.ref I),(6,nv s)]->bb O T:=λe O ao=>bd _ _ ao ⟨⟨al,e▸U⟩,W⟩;have bi:yr K c s t (k+1) L=oj (s+2^(K-(1+k))) (t+c*(1+k)) (yr K c s t k L)->∀O,qq O [(0,.ref a),(1,nv K),(2,nv (2^K)),(3,.ref C),(4,nv c),(5,.ref I),(6,nv s)]->a_ (.ref I) (nv (s+2^(K-(1+k)))) (nv (t+c*(1+k))) (bb O) T:=λe O ao=>vm U ce λck cl co cs=>bd _ cl ao ⟨⟨ck,by rw[e,<-Jv];exact cs⟩,W.trans co⟩;have S:=qN (s:=s+2^(K-(1+k))) (l:=yr K c s t k L);by_cases f:s+2^(K-(1+k))<=2^K
    ·refine qP (gL f) ?_;cases qs:(yr K c s t k L).lookup (s+2^(K-(1+k)))with
     |none=>rw[qs]at S;exact in_dict U (λv z=>nomatch S.symm.trans z) λA=>bi (aE ⟨f,λbl h=>by rw[qs]at h;cases h⟩) _ (aB rfl)
     |some bl=>
      rw[qs]at S;refine in_dict U (λA A=>gH U S (jv (λz=>?_) λz=>?_)) λz=>nomatch S.symm.trans z;·exact bi (aE ⟨f,λt2 h=>by rw[qs]at h;rw[<-dH h];exact eY z⟩) _ (aB rfl)
      ·exact st (aA λy=>z (dP (y.2 bl (by rw[qs];rfl)))) _ (aB rfl)
    ·exact Le (λz=>absurd (ux z) f) λA=>st (aA λy=>f y.1) _ (aB rfl)
   ·refine bn ?_;intro E;obtain⟨⟨al,U⟩,W⟩:=D;exact b4 _ T (aB rfl) ⟨⟨al,by rw[a'];exact U⟩,W⟩
  ·obtain⟨⟨ab,R⟩,ag⟩:=D;rw[qe]at R;refine a1 I _ P (aB rfl) ⟨⟨ab,by rw[a6];exact R⟩,(G.trans a4).b ag (G.none a3)⟩
 ·refine bn ?_;intro E;obtain⟨⟨bv,F⟩,G⟩:=D;rw[aU,qe]at F;have N:=av u.length;rw[qe]at N;have p:=p ar;have q:=λm Z e=>q m Z e (λy=>absurd ar (xQ y));unfold xh at q;generalize Cn K u=B at F N p q;refine dk (.inr (aY _ _ F rfl)) (by skip;rw[aP,aP];exact aa N (by decide)) ?_;rw[show(DP B).map (λe=>V.int e.1)=(B.map (·.1)).map nv by skip;rw[bO];rw[bO];rfl];refine dK (g:=nv) (f:=λs=>nv ((B.lookup s).getD 0)) rfl (by rw[aP];exact aa N (by decide)) (λs hs Q' bo=>?_) λr ct hr e2 g2=>?_
  ·cases S:B.lookup s with|none=>exact absurd hs (kD S)|some t=>rw[S]at bo;exact gH F (by rw[qN,S];rfl) bo
  ·rw[show(B.map (·.1)).map (λs=>nv ((B.lookup s).getD 0))=nl ((B.map (·.1)).map λs=>(B.lookup s).getD 0)by unfold nl;rw[bO];rw[bO];rw[bO];rfl]at g2;refine dR.k (.inr (fx r _ rfl (g2.trans (ak some (i0 _))) ?_ (by rw[aP,aP,aP];exact aa N (by decide)) (λm cv cx=>?_)))
   ·intro z;rw[List.map_eq_nil_iff,List.map_eq_nil_iff,List.map_eq_nil_iff]at z;exact p z
   ·refine am (dm cv) ?_;rintro m' cD rfl;exact q m' ct (G.trans e2) λA=>⟨cD,λx hx=>ux (cx _ (cY (an x hx rfl)))⟩
theorem Kh{α β:Type}(f:α->β):∀l:List α,(l.map λx=>[f x]).flatten=l.map f:=by intro l;induction l with|nil=>exact rfl|cons x l a=>exact ak (f x::·) (a)
theorem og{T:cA}{Y:kC}{ρ:aR}{i b:Nat}{e a:E}{f:Nat->Nat}(c:b<=1000)(d:∀j,j<b->f j<2)(h:∀(Q':QV)(k:QX),Q' (nv b) H->WE T Y false a ρ Q' k H)(l:∀j,j<b->∀(Q':QV)(k:QX),Q' (nv (f j)) H->WE T Y false e (bM ρ i (nv j)) Q' k H)(q:∀Z,bt H Z->Q (.str ((List.range b).map λj=>48+f j)) Z):WE T Y false (.join (.cstr []) (.comp (.bi .str (.cons e .nil)) (.v i) .val (.bi .range (.cons a .nil)))) ρ Q X H:=by
 refine h _ _ (eW c (bD c (dK (f:=λj=>V.str [48+f j]) aJ (by rw[bf];exact cI c) (λj hj Q' m=>?_) λr Z hr e g=>?_)))
 ·have hj:=gi hj;exact l j hj _ _ (dR.k (yq _ rfl (cf _) (y8 (dP (d j hj)) (by decide)) m))
 ·refine lm.k (sZ r ((List.range b).map λj=>[48+f j]) rfl rfl (g.trans (by rw[bO];rfl)) (by rw[aP,bf];exact cI c) (by rw[Kh,aP,bf];exact cI c) ?_);rw[Kh];exact q Z e
theorem Ln{x:Nat}{Q:QV}(q:Q (nv (x%2)) H):bK .and (nv x) (.int 1) Q H:=uG (k:=1) (by rw[Nat.and_one_is_mod];exact q)
noncomputable def Oq(p l:Nat):List Nat:=(List.range l).map λj=>48+p/2^(l-1-j)%2
noncomputable def mz(L:List Nat)(i:Nat):Nat×Nat:=((cj L)[i]?).getD (0,0)
noncomputable def O1(L:List Nat)(m:Nat):Nat->Nat|0=>0|i+1=>O1 L m i+2^(m-(mz L i).1)
noncomputable def Od(L:List Nat)(m i:Nat):Nat:=O1 L m i/2^(m-(mz L i).1)
noncomputable def G5(L:List Nat)(m:Nat):Nat->List (Int×V)|0=>[]|i+1=>oj ((mz L i).2:Int) (.str (Oq (Od L m i) (mz L i).1)) (G5 L m i)
theorem Nu{L:List Nat}{m i:Nat}:G5 L m (i+1)=oj ((mz L i).2:Int) (.str (Oq (Od L m i) (mz L i).1)) (G5 L m i):=rfl
theorem Jk(L:List Nat)(m:Nat):∀i,(G5 L m i).length<=i:=by intro i;induction i with|zero=>exact bF _|succ i a=>exact aa Cj (gb (a))
theorem Jx{a:Nat}{L:List Nat}(c:H a=some (.list (nl L)))(d:L.length<=6)(h4:∀x∈L,x<=4)(q:∀m r Z,m∈L++[1]->(∀x∈L++[1],x<=m)->H r=none->bt H Z->(∃ep,Z r=some (.dictI (G5 L m (cj L).length) ep))->Q (.ref r) Z):aj aq aI (n+1) false 45 [.ref a] Q X H:=by
 have e:L.length<=1000:=aa d (by decide);refine ac pJ (vs:=[.ref a]) rfl rfl ?_;intro Y a' ba bb;refine ai λr1 J bd e1 g1=>?_;refine MM (l2:=nl [1]) (e1 _ _ c) g1 (by rw[sw];exact aa (rF d _) (by decide)) λal bi bl e2 g2=>?_;rw[<-F5]at g2;refine dR.k (.inr (fx al _ rfl (g2.trans (ak some (i0 _))) (by rw[eR];exactλz=>absurd (List.append_eq_nil_iff.mp z).2 (by decide)) (by rw[aP,lg];exact aa (rF d _) (by decide)) (λm' ao l=>?_)));refine am (dm ao) ?_;rintro m o rfl;refine bn ?_;intro p;have l:∀x∈L++[1],x<=m:=λx hx=>ux (l _ (cY (an x hx rfl)));have s:m<=4:=by
  rcases sA o with h|h;·exact h4 m h
  ·rw[cO h];decide
 have t:=e1.trans e2;refineλep=>ai λrd bo ap e3 g3=>?_;have u:=t.trans e3;refine jF (u _ _ c) e ?_;refine gk (λi=>decide (0<aw L i)) (g:=λi=>V.tup [nv (0+i),nv (aw L i)]) (f:=λi=>Jp (aw L i,i)) ?_ (by rw[mv,bf,aU];exact cI e) (λi hi=>?_) λar bs bv v g4=>?_;·rfl
 ·rw[aU];refine⟨λQ' w=>?_,λA Q' w=>w⟩;exact iB (λz=>by rw[bC (eY z)]at w;exact w) λz=>by rw[b5 λy=>z (dP y)]at w;exact w
 ·rw[lF,show((List.range L.length).filter λi=>decide (0<aw L i)).map (λi=>Jp (aw L i,i))=(AL L L.length).map Jp by skip;rw[bO];rfl]at g4;refine dR.k (.inl (fx ar ((AL L L.length).map Kq) rfl (g4.trans (by rewrite[bO];rfl)) (by rw[aP];exact aa (iF L _) d) (uJ L _) (ai λB C av a0 g5=>?_)));rw[tX sE,bO,show((jU∘Kq):Nat×Nat->V)=Jp from rfl]at g5;have g5:C B=some (.list ((cj L).map Jp)):=g5;have D:(cj L).length<=6:=by rw[qn];exact aa (iF L _) d
  have E:=v.trans a0;have a1:=E _ _ g3;have a2:B≠rd:=(af av (v _ _ g3)).symm;refine bH g5 (by rw[aP];exact aa D (by decide)) ?_;refine gq (σ:=Nat) (g:=Jp) (λF=>[(1,nv m),(2,.ref rd),(3,nv F)]) (λi F Z=>F=O1 L m i/\(∃ep,Z rd=some (.dictI (G5 L m i) ep))/\aG rd C Z) (λi F Z G=>(G.2.2 _ _ a2 g5).trans g5.symm) (i:=0) (s0:=0) (aB rfl) (bz rfl ⟨ep,a1⟩ (λA A A h=>h)) (λj F x ρ I hx G=>λb1 K=>?_) λF ρ I G=>?_
  ·refine bn ?_;intro p;rw[aU]at G;rw[aU]at K;obtain⟨M,⟨b2,N⟩,O⟩:=G;have hj:j<(cj L).length:=(jB hx).1;have P:x=mz L j:=by unfold mz;rw[hx];rfl
   have R:=dS (cy hx);have S:x.1<=m:=l _ (uP (.inl (by rw[R.2.1];exact cy (bx R.1))));have a3:=aa S s;have T:(((m:Int)-(x.1:Nat)):Int)=((m-x.1:Nat):Int):=(jC S).symm;refine(?_:bK .shr (nv F) (.int ((m:Int)-(x.1:Nat))) _ I);rw[T];refine jm ?_;refine bn ?_;intro p;refine og (b:=x.1) (f:=λj=>F/2^(m-x.1)/2^(x.1-1-j)%2) (aa a3 (by decide)) (λA A=>dG _ (by decide)) (λQ' a4 w=>w) (λk U Q' a4 w=>?_) λb3 W=>?_;·refine(?_:bK .shr (nv (F/2^(m-x.1))) (.int ((x.1:Int)-1-(k:Nat))) _ I);rw[show((x.1:Int)-1-(k:Nat))=((x.1-1-k:Nat):Int)by rw[jC (ur U)];rw[jC (fm (cR _) U)];rfl];exact jm (Ln w)
   ·have a5:=W _ _ N;refine vm a5 (aa (Jk L m j) (aa (bT hj) (aa D (by decide)))) λa6 ab a7 a8=>?_;refine(?_:bK .shl (.int 1) (.int ((m:Int)-(x.1:Nat))) _ ab);rw[T];refine eN (aa (i' ..) (aa s (by decide))) (K (F+2^(m-x.1)) _ ab (aB rfl) (bz ?_ ⟨a6,a8.trans ?_⟩ (O.trans ((aG.of W).trans a7))));·rw[M,P];rfl
    ·rw[M,P];rfl
  ·obtain⟨M,N,O⟩:=G;rw[aU]at N;have ag:=t.none ap;exact q m rd I o l ag ((u.trans E).b O ag) N
noncomputable def bk(x k:Nat):List Nat:=(List.range k).map λj=>48+x/2^j%2
theorem az(x k:Nat):(bk x k).length=k:=by skip;rw[aP,bf]
theorem uE(x k:Nat):bk x (k+1)=bk x k++[48+x/2^k%2]:=by unfold bk;rw[pH,eR];rfl
theorem fN{x k j:Nat}(h:j<k):(bk x k)[j]?=some (48+x/2^j%2):=by skip;rw[f_,oY h];rfl
theorem C6{x k j:Nat}(h:k<=j):(bk x k)[j]?=none:=iJ (by rw[az];exact h)
theorem mZ{l:List Nat}{x k:Nat}(a:l.length=k)(h:∀j,j<k->l[j]?=some (48+x/2^j%2)):l=bk x k:=ut λj=>by
 by_cases q:j<k;·rw[h j q,fN q]
 ·rw[C6 (fS q),iJ (by rw[a];exact fS q)]
theorem Bd(x i j:Nat):x/2^i/2^j=x/2^(i+j):=by rw[vE,<-gM]
theorem uL(x k i:Nat):(bk x k).drop i=bk (x/2^i) (k-i):=mZ (by rw[zl,az]) λj h=>by rw[List.getElem?_drop,fN (Nat.add_lt_of_lt_sub' h),Bd]
theorem oV(x k i:Nat):(bk x k).take i=bk x (min i k):=mZ (by rw[List.length_take,az]) λj h=>by rw[List.getElem?_take_of_lt (cN h (Nat.min_le_left ..)),fN (cN h (Nat.min_le_right ..))]
theorem mw{a b m n:Nat}(h:a<2^m):bk a m++bk b n=bk (a+2^m*b) (m+n):=mZ (by rw[lg,az,az]) λj c=>by
 by_cases q:j<m;·rw[List.getElem?_append_left (by rw[az];exact q),fN q,show m=j+1+(m-(j+1))from(mH q).symm,gM,ry,nu,nu,ui _ _ (jD j),B1]
 ·have q:=fS q;rw[List.getElem?_append_right (by rw[az];exact q),az,fN (Nat.sub_lt_left_of_lt_add q c)];conv=>rhs;rw[<-mH q,gM,<-vE,ui _ _ (jD m),q9 h,aU]
theorem Ct(k:Nat):AF k [48]=bk 0 k:=by induction k with|zero=>rfl|succ k a=>rw[uE,<-a,Nat.zero_div];show(List.replicate (k+1) [48]).flatten=(List.replicate k [48]).flatten++[48];rw[List.replicate_succ',List.flatten_append];rfl
theorem xK{α:Type}{t:iw}{same:Hp->Prop}{a:GY}{ρ:aR}{H0:Hp}{Q:QV}{g f:α->V}(hs:∀Z,bt H0 Z->same Z):∀{xs:List α}{acc:List V}{H:Hp},bt H0 H->acc.length+xs.length<=cu->(∀x∈xs,∀J,bt H0 J->dC t (g x) ρ λO=>∀Q':QV,(∀c,bt J c->Q' (f x) c)->a O Q' J)->(∀r Z,H0 r=none->bt H0 Z->Z r=some (.list (acc++xs.map f))->Q (.ref r) Z)->jT t same (λd Q'=>Q' (.bool true)) a ρ (xs.map g) acc Q H:=by intro xs;induction xs with|nil=>intro acc H e i _ q;exact bz (hs H e) i (ai λr Z hr j h=>q r Z (e.none hr) (e.trans j) (h.trans (by rw[List.map_nil,jQ])))|cons x xs k=>intro acc H e i l q;exact⟨hs H e,ez (λO b=>b _ λc e2=>k (e.trans e2) (by rw[lg,dM,dQ [f x].length];exact i) (λy m=>l y (dn _ m)) (by rw[pf];exact q)) (l x (cS ..) H e)⟩
theorem j3{x y:List Nat}(h:x=y->Q (.bool true) H)(a:x≠y->Q (.bool false) H):bP .eq (.str x) (.str y) Q H:=bP.k ⟨h,a⟩
theorem bR{a:Nat}{k:List Nat}{v:V}{b:List (List Nat×V)}(h:H a=some (.dictS b))(hv:b.lookup k=some v)(q:Q v H):dZ (.ref a) (.str k) Q H:=dZ.k (aL b v h hv q)
theorem t7{a:Nat}{p:List (List Nat)}(h:H a=some (.list (p.map V.str)))(b:p.length<=1000)(c:p.flatten.length<=1000)(q:Q (.str p.flatten) H):lm (.str []) (.ref a) Q H:=lm.k (sZ a p rfl rfl h (cI b) (cI c) q)
noncomputable def two(a b:Nat):AO:=.dictS [(kS 0,.ref a),(kS 1,.ref b)]
noncomputable def I4(ct:Nat->Nat->List Nat)(it:aM):List Nat:=if it.1=2 then bk it.2.1 it.2.2 else ct it.1 it.2.1
structure CD(H:Hp)(rc:Nat)(ct:Nat->Nat->List Nat)(its:List aM):Prop where d:∃a b,H rc=some (two a b)/\∀it∈its,(it.1=2/\it.2.2<=13)\/(it.1=0/\∃c ep,H a=some (.dictI c ep)/\c.lookup (it.2.1:Int)=some (.str (ct 0 it.2.1)))\/(it.1=1/\∃c ep,H b=some (.dictI c ep)/\c.lookup (it.2.1:Int)=some (.str (ct 1 it.2.1)))
theorem w_text{ri rc:Nat}{its:List aM}{ct:Nat->Nat->List Nat}(hi:H ri=some (.list (its.map wF)))(a:CD H rc ct its)(d:its.length<=12)(e:((its.map (I4 ct)).flatten).length<=1000)(q:∀Z,bt H Z->Q (.str (its.map (I4 ct)).flatten) Z):aj aq aI (n+1) false 46 [.ref ri,.ref rc] Q X H:=by
 obtain⟨h,l,m,o⟩:=a.d;refine ac sG (vs:=[.ref ri,.ref rc]) rfl rfl ?_;intro Y p r t;refine ai λu J w e1 g1=>bH (e1 _ _ hi) (by rw[aP];exact aa d (by decide)) ?_;refine gx (g:=wF) [(1,.ref rc),(2,.ref u)] (λi Z=>Z u=some (.list (((its.take i).map (I4 ct)).map V.str))/\bt H Z) (aB rfl) ⟨g1,e1⟩ (λi Z x=>(x.2 _ _ hi).trans (e1 _ _ hi).symm) (λi it ρ Z hx x=>λy A=>?_) λρ Z x=>?_
 ·refine bn ?_;intro B;(refine dA (x) ?_;intro C D);have E:=cy hx;have F:its.take (i+1)=its.take i++[it]:=by rw[mI,hx];rfl
  have G:(((its.take i).map (I4 ct)).map V.str).length<cu:=by rw[aP,aP];exact fm (aa (rA ..) d) (by decide)
  have I:∀{K:Hp}{s:List Nat}{O:aR},bt Z K->s=I4 ct it->qq O [(1,.ref rc),(2,.ref u)]->oU (.ref u) (.str s) (λv=>Fo v (y O)) K:=λe2 hs L=>eI (e2 _ _ C) G λM e3 g3=>A _ M L ⟨by rw[F,eR,eR];exact g3.trans (by rw[hs];rfl),(D.trans e2).b e3 w⟩;obtain⟨k,v,c⟩:=it;rcases o _ E with⟨N,P⟩|⟨N,R,ep,hd,S⟩|⟨N,R,ep,hd,S⟩
  ·cases N;refine j3 (λT=>And.intro (cK C) ?_) λz=>absurd rfl z;refine og (b:=c) (f:=λj=>v/2^j%2) (aa P (by decide)) (λT T=>dG _ (by decide)) (λQ' U W=>W) (λj hj Q' U W=>jm (Ln W)) λK e2=>I e2 rfl (aB rfl)
  ·cases N;exact j3 (λz=>absurd z (show¬kS 0=kS 2 by decide)) λT=>And.intro (cK C) (bR (D _ _ m) rfl (gH (D _ _ hd) S (I .refl rfl (aB rfl))))
  ·cases N;exact j3 (λz=>absurd z (show¬kS 1=kS 2 by decide)) λT=>And.intro (cK C) (bR (D _ _ m) rfl (gH (D _ _ hd) S (I .refl rfl (aB rfl))))
 ·(refine dA (x) ?_;intro C D);rw[qe]at C;exact t7 C (by rw[aP];exact aa d (by decide)) e (q Z D)
theorem HG{D:List Nat}(a:D.length<=100)(q:∀Z,bt H Z->Q (.str (D.map λo=>bk o 8).flatten) Z):aj aq aI (n+1) false 48 [.bytes D] Q X H:=by
 refine ac o6 (vs:=[.bytes D]) rfl rfl ?_;intro Y c d h;refine dk (l:=D.map nv) rfl (by rw[aP];exact aa a (by decide)) ?_;refine xK (g:=nv) (f:=λo=>.str (bk o 8)) (H0:=H) (λi i=>aJ) .refl (by rw[mv,aU];exact aa a (by decide)) (λo ho J e1 Q' k=>?_) λr Z hr e g=>?_;·exact og (b:=8) (f:=λj=>o/2^j%2) (by decide) (λi i=>dG _ (by decide)) (λQ' m k=>k) (λj hj Q' m k=>jm (Ln k)) k
 ·have s:∀D:List Nat,((D.map λo=>bk o 8).flatten).length=8*D.length:=λD=>by
   induction D with
   |nil=>rfl|cons o D t=>rw[gT,List.flatten_cons,lg,t,az,mo,uY,dQ]
  exact t7 (p:=D.map λo=>bk o 8) (g.trans (by rw[bO];rfl)) (by rw[aP];exact aa a (by decide)) (by rw[s];exact aa (kW 8 a) (by decide)) (q Z e)
theorem len_str{x:List Nat}(h:x.length<=1000)(q:Q (nv x.length) H):dR .len [.str x] Q H:=dR.k (.inr (.inr (cW x (.inl rfl) (cI h) q)))
theorem DR(V:Nat):∀(k a:Nat),(bk V k).reverse.foldl (λ(o:Option Nat)c=>o.bind λn=>if c=48 then some (2*n)else if c=49 then some (2*n+1)else none) (some a)=some (a*2^k+V%2^k):=by
 intro k;induction k with
 |zero=>intro a;rw[t4,ph,Nat.mod_one];rfl|succ k b=>
  intro a;rw[uE,List.reverse_append];refine(?_:List.foldl _ ((some a).bind λn=>if 48+V/2^k%2=48 then some (2*n)else if 48+V/2^k%2=49 then some (2*n+1)else none) (bk V k).reverse=_);have e:((some a).bind λn=>if 48+V/2^k%2=48 then some (2*n)else if 48+V/2^k%2=49 then some (2*n+1)else none)=some (2*a+V/2^k%2):=by rcases AN (V/2^k)with h|h<;>rw[h]<;>rfl
  rw[e,b,Nat.mod_pow_succ,ry,Nat.add_mul];refine ak some ?_;rw[fB 2 a,nu,fB 2,dM,dQ (V/2^k%2*2^k),fB (V/2^k%2)]
theorem zv(V k:Nat):hF (bk V k).reverse=some (V%2^k):=by have:=DR V k 0;rw[Nat.zero_mul,aU]at this;exact this
theorem rU{a:Nat}{l:List Nat}(h:H a=some (.list (nl l)))(b:∀x∈l,x<256)(c:l.length<=1000)(q:Q (.bytes l) H):dR .bytes [.ref a] Q H:=dR.k (.inr (.inl (fx a _ rfl (h.trans (ak some (i0 l))) (λx hx=>by(refine am (dm hx) ?_;rintro y d e;rw[<-e]);exact⟨cf y,dP (b y d)⟩) (by rw[aP];exact cI c) (by rw[bO,show(Int.toNat∘λn:Nat=>(n:Int))=id from rfl,List.map_id];exact q))))
theorem Fm{W d:Nat}(h:W<2^d)(j:d<=400)(q:∀Z,bt H Z->Q (.bytes (qa W ((d+7)/8))) Z):aj aq aI (n+1) false 47 [.str (bk W d)] Q X H:=by
 have m:(bk W d).length<=1000:=by rw[az];exact aa j (by decide)
 refine ac mE (vs:=[.str (bk W d)]) rfl rfl ?_;intro Y o p s;refine len_str m (xS (by decide) ?_);skip;have hz:(-(((bk W d).length:Nat):Int))%8=(((8-d%8)%8:Nat):Int):=by rw[az];exact z8 d
 rw[hz];have t:(8-d%8)%8<8:=dG _ (by decide);refine bK.k (jN rfl (cf _) ?_ (Ec (aa (bT t) (by decide))) ?_)
 ·refine(?_:(8-d%8)%8*1<=cu);rw[ph];exact cI (aa (bT t) (by decide))
 refine(?_:bK .add (.str (bk W d)) (.str (AF ((8-d%8)%8) [48])) _ H);have u:=c8 d;have v:(d+7)/8<=60:=by lia
 rw[Ct];have w:8*((d+7)/8)<=500:=aa (kW 8 v) (by decide);refine bK.k (bz rfl (by rw[<-lg,mw h,az,u];exact aa w (by decide)) ?_);rw[mw h,u,ug,Nat.add_zero];generalize (d+7)/8=k at v w q⊢;refine bn ?_;intro A;have B:(bk W (8*k)).length=8*k:=az _ _;have C:(bk W (8*k)).length<=1000:=by rw[B];exact aa w (by decide)
 refine len_str C ?_;rw[B];refine AH (a:=0) (b:=8*k) (c:=8) (by decide) (aa w (by decide)) (by decide) (by decide) (lT (a:=0) (b:=8*k) (c:=8) (by decide) w (by decide) ?_);rw[show(8*k+(8-1-0))/8=k from sF (by decide) k 7];refine dK (f:=λi:Nat=>nv (W/256^i%256)) aJ (by rw[bf];exact cI (aa v (by decide))) (λi hi Q' D=>?_) λr Z hr e g=>?_
 ·have hi:=gi hi;refine uT.k (bW _ _ (.int _) (.int _) (cI C) ?_);rw[show eg (some ((0+8*i:Nat):Int)) (some (((0+8*i:Nat):Int)+8)) (bk W (8*k))=bk (W/2^(8*i)) 8 by rw[show(((0+8*i:Nat):Int)+8)=((8*i+8:Nat):Int)by rw[aU];rfl];rw[zZ];rw[oV];rw[ot (show 8*i+8<=8*k from kW 8 hi)];rw[uL];rw[aU];rw[Nat.add_sub_cancel_left]];refine xy.k (cW _ rfl (by rw[az];decide) (dR.k (fx _ _ rfl (λz=>(by have:=ak List.length z;rw[oJ,az]at this;cases this)) (by rw[oJ,az];decide) (zv _ _) ?_)));rw[show(256:Nat)^i=2^(8*i)from(Nat.pow_mul 2 8 i).symm]at D;exact D
 ·refine rU (l:=qa W k) (g.trans (by unfold qa nl;rw[bO];rfl)) (λx hx=>?_) (by skip;rw[aP,bf];exact aa v (by decide)) (q Z e);(refine am (dm hx) ?_;rintro y _ E;rw[<-E]);exact dG _ (by decide)
theorem B0{a b m k:Nat}:bk a m=bk b k↔m=k/\a%2^m=b%2^k:=by
 constructor
 ·intro h;have c:m=k:=by rw[<-az a m,h,az]
  subst c;exact⟨rfl,dH ((zv a m).symm.trans ((ak (λl=>hF l.reverse) h).trans (zv b m)))⟩
 ·rintro⟨rfl,h⟩;refine mZ (az a m) λj hj=>?_;rw[fN hj];have t:∀x:Nat,x/2^j%2=x%2^m/2^j%2:=λx=>by rw[show m=j+(m-j-1+1)by rw[rY (xG hj)];rw[Nat.add_sub_of_le (bT hj)],gM,Bq,ry,fB _ 2,Nat.mod_mul_right_mod]
  rw[t a,t b,h]
theorem zO{x y:List Nat}(q:Q (.bool (decide (x=y))) H):bP .eq (.str x) (.str y) Q H:=j3 (λz=>by rw[bC z]at q;exact q) λz=>by rw[b5 z]at q;exact q
theorem J6{a b:Nat}{l l':List Nat}(h:H a=some (.list (nl l)))(h':H b=some (.list (nl l')))(q:Q (.bool (decide (l=l'))) H):bP .eq (.ref a) (.ref b) Q H:=by
 have inj:l.map (λn:Nat=>(n:Int))=l'.map (λn:Nat=>(n:Int))->l=l':=λz=>List.map_inj_right (λc c e=>nI e)|>.mp z;refine bP.k (bW _ _ (h.trans (ak some (i0 l))) (h'.trans (ak some (i0 l'))) (λz=>?_) (λz=>?_));·rw[bC (inj z)]at q;exact q
 ·rw[b5 λy=>z (ak _ y)]at q;exact q
theorem J_{a b:Nat}{l l':List Nat}(h:H a=some (.list (nl l)))(h':H b=some (.list (nl l')))(q:Q (.bool (!decide (l=l'))) H):bP .ne (.ref a) (.ref b) Q H:=by
 have inj:l.map (λn:Nat=>(n:Int))=l'.map (λn:Nat=>(n:Int))->l=l':=λz=>List.map_inj_right (λc c e=>nI e)|>.mp z;refine bP.k (bW _ _ (h.trans (ak some (i0 l))) (h'.trans (ak some (i0 l'))) (λz=>?_) (λz=>?_));·rw[bC (inj z)]at q;exact q
 ·rw[b5 λy=>z (ak _ y)]at q;exact q
theorem Nl{s:List Nat}{i x:Nat}(a:s.length<=1000)(hv:s[i]?=some x)(q:Q (.str [x]) H):dZ (.str s) (nv i) Q H:=dZ.k (yq x (cf i) (cI a) hv q)
theorem Kd{s:List Nat}{j:Nat}(a:s.length<=1000)(q:Q (.str (s.take j)) H):uT (.str s) .none (nv j) Q H:=uT.k (bW none (some j) (.none) (.int j) (cI a) (by rw[A3];exact q))
theorem Hg{s:List Nat}{i:Nat}(a:s.length<=1000)(q:Q (.str (s.drop i)) H):uT (.str s) (nv i) .none Q H:=uT.k (bW (some i) none (.int i) (.none) (cI a) (by rw[JO];exact q))
theorem EY(R:Nat):∀c,(((List.range c).filter λj=>decide (R/2^j%2=1)).map λj=>2^j).sum=R%2^c:=by
 intro c;induction c with
 |zero=>exact(Nat.mod_one R).symm|succ c a=>
  rw[pH,cV,Nat.mod_pow_succ];rcases AN (R/2^c)with h|h;·rw[aA (by rw[h];decide),a,h,ug];rfl
  ·rw[aE (by rw[h];rfl),eR,uA,a,h,ph];rfl
noncomputable def pB(R r:Nat)(x:aM):Bool:=decide (x.2.2<=r/\R%2^x.2.2=x.2.1)
noncomputable def pA(R r:Nat)(x:aM):Bool:=decide (r<=x.2.2/\x.2.1%2^r=R%2^r)
noncomputable def gJ(cl:List aM)(R r:Nat):Rd:=match cl.filter (pB R r)with|x::_=>.sym x.1 x.2.2|[]=>match cl.filter (pA R r)with|[]=>.bad|_::_=>.cut
noncomputable def kT(dec:Nat->Nat->Nat->Rd)(T N:Nat):List aM->Nat->List Nat×Nat×Nat|[],p=>([],0,p)|it::its,p=>if it.1=2 then(if N-p<it.2.2 then([],1,p)else(T/2^p%2^it.2.2::(kT dec T N its (p+it.2.2)).1,(kT dec T N its (p+it.2.2)).2))else match dec it.1 (T/2^p) (N-p)with|.cut=>([],1,p)|.bad=>([],2,p)|.err=>([],3,p)|.sym s k=>(s::(kT dec T N its (p+k)).1,(kT dec T N its (p+k)).2)
theorem pN{dec:Nat->Nat->Nat->Rd}{T N p:Nat}{it:aM}{its:List aM}:kT dec T N (it::its) p=if it.1=2 then(if N-p<it.2.2 then([],1,p)else(T/2^p%2^it.2.2::(kT dec T N its (p+it.2.2)).1,(kT dec T N its (p+it.2.2)).2))else match dec it.1 (T/2^p) (N-p)with|.cut=>([],1,p)|.bad=>([],2,p)|.err=>([],3,p)|.sym s k=>(s::(kT dec T N its (p+k)).1,(kT dec T N its (p+k)).2):=rfl
noncomputable def LY:Nat->List Nat|0=>[111,110]|1=>[99,117,116]|_=>[98,97,100]
noncomputable def cE(x:aM):Int×V:=(x.1,.str (bk x.2.1 x.2.2))
structure CT(H:Hp)(rc:Nat)(cl:Nat->List aM):Prop where
 d:∃a b e f,H rc=some (two a b)/\H a=some (.dictI ((cl 0).map cE) e)/\H b=some (.dictI ((cl 1).map cE) f)
 nd:∀k,((cl k).map (·.1)).Nodup
 c:∀k,∀x∈cl k,x.2.1<2^x.2.2/\x.2.2<=4
 l:∀k,(cl k).length<=6
theorem CT.ext{Z:Hp}{rc:Nat}{cl:Nat->List aM}(h:CT H rc cl)(e:bt H Z):CT Z rc cl:=⟨h.d.imp λa h=>h.imp λa h=>h.imp λa h=>h.imp λa h=>(bz (e _ _ h.1) (e _ _ h.2.1) (e _ _ h.2.2)),h.nd,h.c,h.l⟩
theorem nq:∀{l:List aM}{x:aM},(l.map (·.1)).Nodup->x∈l->(l.map cE).lookup (x.1:Int)=some (.str (bk x.2.1 x.2.2))
 |y::l,x,nd,hx=>by
  rw[gT,List.nodup_cons]at nd;refine(?_:(match(x.1:Int)==(y.1:Int)with|true=>some (V.str (bk y.2.1 y.2.2))|false=>(l.map cE).lookup (x.1:Int))=_);rcases bB hx with rfl|hx;·rw[rm]
  ·rw[show((x.1:Int)==(y.1:Int))=false from eD λz=>nd.1 (nI z▸cY (an x hx rfl))];exact nq nd.2 hx
theorem Ok{a b:Nat}{l l':List Nat}(e:l=l')(h:H a=some (.list (nl l)))(h':H b=some (.list (nl l')))(q:Q (.bool true) H):bP .eq (.ref a) (.ref b) Q H:=J6 h h' (by rw[bC e];exact q)
theorem N9{a b:Nat}{l l':List Nat}(e:l≠l')(h:H a=some (.list (nl l)))(h':H b=some (.list (nl l')))(q:Q (.bool false) H):bP .eq (.ref a) (.ref b) Q H:=J6 h h' (by rw[b5 e];exact q)
theorem J3{a b:Nat}{l l':List Nat}(e:l=l')(h:H a=some (.list (nl l)))(h':H b=some (.list (nl l')))(q:Q (.bool false) H):bP .ne (.ref a) (.ref b) Q H:=J_ h h' (by rw[bC e];exact q)
theorem M5{a b:Nat}{l l':List Nat}(e:l≠l')(h:H a=some (.list (nl l)))(h':H b=some (.list (nl l')))(q:Q (.bool true) H):bP .ne (.ref a) (.ref b) Q H:=J_ h h' (by rw[b5 e];exact q)
theorem E9{a:Nat}{l:List Nat}(h:H a=some (.list (nl l)))(b:l.length<=1000)(q:Q (nv l.sum) H):dR .sum [.ref a] Q H:=dR.k (bW a _ rfl (h.trans (ak some (i0 l))) (by rw[aP];exact cI b) (by rw[qm];exact q))
theorem CT.kind{rc:Nat}{cl:Nat->List aM}(h:CT H rc cl){k:Nat}(a:k<=1):∃d c ep,H rc=some (.dictS d)/\d.lookup (kS k)=some (.ref c)/\H c=some (.dictI ((cl k).map cE) ep)/\kS k≠[114,97,119]:=by refine iV (h.d) λb e f g i j l=>?_;exact Ko a ((fA _ b f i rfl j (by decide))) ((fA _ e g i rfl l (by decide)))
theorem M3{R r:Nat}{x:aM}(hx:x.2.1<2^x.2.2):decide ((bk R r).take x.2.2=bk x.2.1 x.2.2)=pB R r x:=by
 rw[oV];refine uX (B0.trans ?_);rw[te hx];refine⟨λh=>?_,λh=>⟨ot h.1,by rw[ot h.1];exact h.2⟩⟩;have a:x.2.2<=r:=by rw[<-h.1];exact Nat.min_le_right ..
 rw[ot a]at h;exact⟨a,h.2⟩
theorem NR{R r:Nat}{x:aM}:decide ((bk x.2.1 x.2.2).take r=bk R r)=pA R r x:=by
 rw[oV];refine uX (B0.trans ?_);refine⟨λh=>?_,λh=>⟨ot h.1,by rw[ot h.1];exact h.2⟩⟩;have a:r<=x.2.2:=by rw[<-h.1];exact Nat.min_le_right ..
 rw[ot a]at h;exact⟨a,h.2⟩
theorem ul{α:Type}{l:List α}{i:Nat}{x:α}(h:l[i]?=some x):l.drop i=x::l.drop (i+1):=by refine dE (jB h) ?_;rintro hi rfl;exact List.drop_eq_getElem_cons hi
noncomputable def Ow(it:aM):Prop:=it.1<=1\/(it.1=2/\it.2.2<=13)
structure PJ(H0 H:Hp)(a:Nat)(b:List Nat×Nat×Nat)(rest:List Nat×Nat×Nat)(i:Nat):Prop where
 x:∃acc,H a=some (.list (nl acc))/\acc.length<=i/\acc++rest.1=b.1
 s:rest.2=b.2
 e:bt H0 H
theorem PJ.done{H0 H:Hp}{a i:Nat}{b rest:List Nat×Nat×Nat}(j:PJ H0 H a b rest i)(h:rest.1=[]):H a=some (.list (nl b.1)):=by(refine aT (j.x) ?_;intro acc c _ d);rw[h,jQ]at d;exact d▸c
theorem PJ.push{H0 H J:Hp}{a i x:Nat}{c rest rest':List Nat×Nat×Nat}{P:Hp->Prop}(j:PJ H0 H a c rest i)(hi:i<900)(hr:H0 a=none)(e1:bt H J)(h:rest=(x::rest'.1,rest'.2))(q:∀d,aG a J d->PJ H0 d a c rest' (i+1)->P d):oU (.ref a) (nv x) (λv=>Fo v P) J:=by(refine aT (j.x) ?_;intro acc e f g);rw[h]at g;refine uK (e1 _ _ e) (fm f (jk hi (by decide))) λd e2 g2=>q d e2 ⟨(cW _ g2 (by rw[lg];exact gb f) (by rw[pf];exact g)),by rw[<-j.s,h],(j.e.trans e1).b e2 hr⟩
theorem Il{ri rc T N:Nat}{its:List aM}{cl:Nat->List aM}(hi:H ri=some (.list (its.map wF)))(a:CT H rc cl)(a2:its.length<=12)(bd:∀it∈its,Ow it)(a3:N<=500)(q:∀b Z,H b=none->bt H Z->Z b=some (.list (nl (kT (λk=>gJ (cl k)) T N its 0).1))->Q (.tup [.ref b,.str (LY (kT (λk=>gJ (cl k)) T N its 0).2.1)]) Z):aj aq aI (n+1) false 49 [.ref ri,.ref rc,.str (bk T N)] Q X H:=by
 have bi:(bk T N).length<=1000:=by rw[az];exact aa a3 (by decide)
 refine ac pO (vs:=[.ref ri,.ref rc,.str (bk T N)]) rfl rfl ?_;intro Y cc cd ce;generalize a4:kT (λk=>gJ (cl k)) T N its 0=ao at q;refine ai λb J h e1 g1=>?_;refine bH (e1 _ _ hi) (by rw[aP];exact aa a2 (by decide)) ?_;refine gq (σ:=Nat) (g:=wF) (λp=>[(1,.ref rc),(2,.str (bk T N)),(3,.ref b),(4,nv p)]) (λi p Z=>PJ H Z b ao (kT (λk=>gJ (cl k)) T N (its.drop i) p) i) (λi p Z m=>(m.e _ _ hi).trans (e1 _ _ hi).symm) (i:=0) (s0:=0) (aB rfl) ⟨(cW [] g1 (bF _) (by rw[<-a4];rfl)),by rw[<-a4];rfl,e1⟩ (λi p it ρ Z hx m=>λco ap=>?_) λp ρ Z m=>?_
 ·refine bn ?_;intro o;rw[aU]at m;rw[aU]at ap;have a5:i<900:=cN (cN (jB hx).1 a2) (by decide);have bl:=bd it (cy hx);rw[ul hx]at m;obtain⟨k,v,c⟩:=it;refine bn ?_;intro o;refine Hg bi ?_;rw[uL];generalize hR:T/2^p=R;generalize hr:N-p=r;have bo:r<=500:=hr▸aa (i' ..) a3;have t:(bk R r).length<=1000:=by rw[az];exact aa bo (by decide)
  have ret:∀(rest:List Nat×Nat×Nat){w:Hp}(s:List Nat),PJ H w b ao rest i->rest.1=[]->LY rest.2.1=s->Q (.tup [.ref b,.str s]) w:=λrest w s j bs bv=>by have:=q b w h j.e (j.done bs);rw[<-j.s,bv]at this;exact this
  rcases bl with A|⟨A,B⟩
  ·refine bn ?_;intro o;refine c_ (a.kind A) λd ck ep C D E b1=>?_;have A:k<=1:=A;have qs:¬k=2:=λz=>BB 1 (aa (jP z.symm) A);rw[pN,aA qs,hR,hr]at m;refine j3 (λz=>absurd z b1) λF=>?_;have nd:=a.nd k;have a6:=a.c k;have G:=a.l k;have ar:∀{w:Hp}{x:aM}{Q':QV},bt H w->x∈cl k->Q' (.str (bk x.2.1 x.2.2)) w->dZ (.ref rc) (.str (kS k)) (λu a7=>dZ u (nv x.1) Q' a7) w:=λe hx I=>bR (e _ _ C) D (gH (e _ _ E) (nq nd hx) I);have items:((cl k).map cE).map (λe=>V.int e.1)=(cl k).map λx=>nv x.1:=by rw[bO];rfl
   have av:∀{x:aM},x∈cl k->(bk x.2.1 x.2.2).length<=1000:=λhx=>by rw[az];exact aa (a6 _ hx).2 (by decide)
   have a8:∀(P:aM->Bool),((cl k).filter P).map (λx=>nv x.1)=nl (((cl k).filter P).map (·.1)):=λP=>by unfold nl;rw[bO];rfl
   refine bR (m.e _ _ C) D (dk (.inr (aY _ _ (m.e _ _ E) rfl)) (by rw[aP,aP];exact aa G (by decide)) ?_);rw[items];refine gk (pB R r) (g:=λx:aM=>nv x.1) (f:=λx:aM=>nv x.1) ?_ (by rw[mv,aU];exact aa G (by decide)) (λx hx=>?_) λb2 w b3 e2 g2=>?_;·rfl
   ·exact⟨λQ' I=>ar m.e hx (len_str (av hx) (by rw[az];exact Kd t (ar m.e hx (zO (by rw[M3 (a6 x hx).1];exact I))))),λF Q' I=>I⟩
   ·rw[lF,a8]at g2;refine ai λcs a7 ct e3 g3=>?_;have K:=e2.trans e3;rw[gJ]at m;cases L:(cl k).filter (pB R r)with
    |nil=>
     rw[L]at g2;rw[L]at m;refine Ok (l:=[]) (l':=[]) rfl (e3 _ _ g2) g3 ?_;have a0:=m.e.trans K;refine bR (a0 _ _ C) D (dk (.inr (aY _ _ (a0 _ _ E) rfl)) (by rw[aP,aP];exact aa G (by decide)) ?_);rw[items];refine gk (pA R r) (g:=λx:aM=>nv x.1) (f:=λx:aM=>nv x.1) ?_ (by rw[mv,aU];exact aa G (by decide)) (λx hx=>?_) λcv M cx O g4=>?_;·rfl
     ·exact⟨λQ' I=>ar a0 hx (len_str t (by rw[az];exact Kd (av hx) (zO (by rw[NR];exact I)))),λF Q' I=>I⟩
     ·refine bn ?_;intro o;rw[lF,a8]at g4;have ab:∀{a1:Hp},bt M a1->PJ H a1 b ao _ i:=λS=>⟨m.x.imp λF z=>⟨(K.trans (O.trans S)) _ _ z.1,z.2⟩,m.s,m.e.trans (K.trans (O.trans S))⟩;refine ai λrg a1 cD S g5=>?_;cases ag:(cl k).filter (pA R r)with|nil=>rw[ag]at g4;rw[ag]at ab;exact J3 (l:=[]) (l':=[]) rfl (S _ _ g4) g5 (ret ([],2,p) _ (ab S) rfl rfl)|cons y U=>rw[ag]at g4;rw[ag]at ab;exact M5 (l:=y.1::U.map (·.1)) (l':=[]) (λz=>nomatch z) (S _ _ g4) g5 (ret ([],1,p) _ (ab S) rfl rfl)
    |cons y U=>
     rw[L]at g2;rw[L]at m;have a':y∈cl k:=(jI (L▸cS ..:y∈(cl k).filter (pB R r))).1;refine N9 (l:=y.1::U.map (·.1)) (l':=[]) (λz=>nomatch z) (e3 _ _ g2) g3 ?_;have ba:(y.1::U.map (·.1)).length<=1000:=by have:=qk (pB R r) (cl k);rw[L]at this;refine(?_:(U.map (·.1)).length+1<=1000);rw[aP];exact aa this (aa G (by decide))
     (refine aT (m.x) ?_;intro acc al b4 b7);refine And.intro (cK (K _ _ al)) (dp (i:=0) (e3 _ _ g2) ba rfl (m.push a5 h K (rest':=kT (λk=>gJ (cl k)) T N (its.drop (i+1)) (p+y.2.2)) rfl λM O W=>?_));refine bn ?_;intro o;have b':b2≠b:=(af b3 al).symm;refine bR (W.e _ _ C) D (dp (i:=0) (O _ _ b' (e3 _ _ g2)) ba rfl (gH (W.e _ _ E) (nq nd a') (len_str (av a') ?_)));rw[az];exact ap (p+y.2.2) _ M (aB rfl) W
  ·refine bn ?_;intro o;subst A;rw[pN,aE rfl,hR,hr]at m;refine j3 (λF=>?_) λz=>absurd rfl z;refine len_str t ?_;rw[az];refine jv (λz=>?_) λz=>?_;·rw[aE (eY z)]at m;exact ret ([],1,p) _ m rfl rfl
   ·have bb:c<=r:=fS λy=>z (dP y);rw[aA (io bb)]at m;(refine aT (m.x) ?_;intro acc al b4 b7);refine And.intro (cK al) (eW (aa B (by decide)) (bD (aa B (by decide)) ?_));refine gk (λj=>decide (R/2^j%2=1)) (g:=nv) (f:=λj=>nv (2^j)) ?_ (by rw[mv,bf,aU];exact aa B (by decide)) (λj hj=>?_) λrs w cL e2 g2=>?_;·trivial
    ·have hj:=gi hj;refine⟨λQ' I=>Nl t (fN (cN hj bb)) (j3 (λz=>?_) λz=>?_),λF Q' I=>eN (aa (bT (cN hj B)) (by decide)) I⟩;·rw[bC (show R/2^j%2=1 from Nat.add_left_cancel (List.cons.inj z).1)]at I;exact I
     ·rw[b5 λy=>z (by rw[y])]at I;exact I
    ·rw[lF,show((List.range c).filter λj=>decide (R/2^j%2=1)).map (λj=>nv (2^j))=nl (((List.range c).filter λj=>decide (R/2^j%2=1)).map λj=>2^j)by unfold nl;rw[bO];rfl]at g2;refine E9 g2 (by rw[aP];exact aa (qk ..) (by rw[bf];exact aa B (by decide))) ?_;rw[EY];exact m.push a5 h e2 rfl λM O W=>ap (p+c) _ M (aB rfl) W
 ·rw[aU,List.drop_length]at m;have:=q b Z h m.e (m.done rfl);rw[<-m.s]at this;exact this
theorem NT{A B:Prop}(a:A):if(0:Nat)=0 then A else B:=by rw[aE rfl];exact a
theorem OX{A B C:Prop}(b:B):if(1:Nat)=0 then A else if(1:Nat)=1 then B else C:=by rw[aA (by decide),aE rfl];exact b
theorem Nj{B C:Prop}(b:B):if(1:Nat)=1 then B else C:=by rw[aE rfl];exact b
noncomputable def uy(H:Hp)(o:Nat)(dec:Nat->Nat->Rd):Prop:=(∃dx rc rs L,JR H o dx rc rs L/\GL L/\∀R r,R<2^r->yY L (dY L) (bX L) R r (aF L) 0=dec R r)\/∃dx k rd L,TB H o dx k rd L/\k<=4/\∀R r,R<2^r->ER k L R r=dec R r
section
variable{o dx rc rs st sdx T stop p:Nat}{L D:List Nat}{dec:Nat->Nat->Rd}
theorem gD{a:Nat}{b:AO}(hs:kq H st sdx D T stop p)(h:H a=some b)(c:Os b=true):a≠sdx:=λz=>by rw[z,hs.2.1]at h;cases h;cases c
theorem JR.mono{Z:Hp}(h:JR H o dx rc rs L)(hs:kq H st sdx D T stop p)(e:aG sdx H Z):JR Z o dx rc rs L:=(et (e _ _ (gD hs h.1 rfl) h.1) (e _ _ (gD hs h.2.1 rfl) h.2.1) (e _ _ (gD hs h.2.2.1 rfl) h.2.2.1) (e _ _ (gD hs h.2.2.2 rfl) h.2.2.2))
theorem uy.mono{Z:Hp}(h:uy H o dec)(hs:kq H st sdx D T stop p)(e:aG sdx H Z):uy Z o dec:=h.imp (λh=>h.imp λa h=>h.imp λa h=>h.imp λa h=>h.imp λa h=>⟨h.1.mono hs e,h.2⟩) λh=>h.imp λa h=>h.imp λa h=>h.imp λa h=>h.imp λa h=>⟨h.1.mono hs e,h.2⟩
theorem uy.read{res:Rd}(h:uy H o dec)(hs:kq H st sdx D T stop p)(a:st≠sdx)(hr:dec (T/2^p) (8*stop-p)=res)(b:res=.cut->∀Z,aG sdx H Z->X 0 Z)(d:res=.bad->∀Z,aG sdx H Z->X 1 Z)(e:res≠.err)(q:∀s k,res=.sym s k->∀Z,aG sdx H Z->kq Z st sdx D T stop (p+k)->Q (nv s) Z):tN (.ref o) (λc=>JT (aq.meth c 0) λf=>aj aq aI (n+5) false f [.ref o,.ref st] Q X) H:=by
 have i:T/2^p<2^(8*stop-p):=(zd (jD p)).mpr (by rw[<-gM,rY hs.2.2.2.2.2.2];exact hs.2.2.2.1);rcases h with⟨dx,rc,rs,L,j,g,hd⟩|⟨dx,k,rd,L,l,r,hd⟩;·exact d9 j.1 j.2.1 (I' g j hs a (gD hs j.1 rfl) (gD hs j.2.1 rfl) (gD hs j.2.2.1 rfl) (gD hs j.2.2.2 rfl) ((hd _ _ i).trans hr) b d e q)
 ·refine Ob (l.t) λm rs rz t=>?_;exact d9 t.1 t.2.1 (HL l r hs a ((hd _ _ i).trans hr) (λz=>b z H λu u u h=>h) (λz=>d z H λu u u h=>h) e q)
end
structure PD(H0 H:Hp)(a st sdx T stop:Nat)(D:List Nat)(b c:Nat)(d f:Nat->Nat->Rd)(g rest:List Nat×Nat×Nat)(i p:Nat):Prop where
 x:∃acc,H a=some (.list (nl acc))/\acc.length<=i/\acc++rest.1=g.1
 s:rest.2=g.2
 e:aG sdx H0 H
 l:kq H st sdx D T stop p
 r0:uy H b d
 r1:uy H c f
theorem uy.ext{o:Nat}{dec:Nat->Nat->Rd}{Z:Hp}(h:uy H o dec)(e:fj H Z)(e2:∀b a ep,H b=some (.dictI a ep)->Z b=some (.dictI a ep)):uy Z o dec:=h.imp (λh=>h.imp λc h=>h.imp λc h=>h.imp λc h=>h.imp λc h=>⟨(et (e _ _ h.1.1 rfl) (e _ _ h.1.2.1 rfl) (e _ _ h.1.2.2.1 rfl) (e _ _ h.1.2.2.2 rfl)),h.2⟩) λh=>h.imp λc h=>h.imp λc h=>h.imp λc h=>h.imp λc h=>⟨⟨h.1.t.imp λc y=>y.imp λc y=>y.imp λc y=>Tb.mono y rfl e,h.1.d.imp λc y=>y.imp λc y=>⟨e2 _ _ _ y.1,λs=>⟨(y.2 s).1,λz=>((y.2 s).2 z).imp λc y=>y.imp λc y=>y.imp λc y=>y.imp λc y=>⟨y.1,y.2.mono e⟩⟩⟩⟩,h.2⟩
theorem kq.ext{o dx T stop p:Nat}{D:List Nat}{Z:Hp}(h:kq H o dx D T stop p)(e1:∀a,H o=some a->Z o=some a)(e2:∀a,H dx=some a->Z dx=some a):kq Z o dx D T stop p:=bz (e1 _ h.1) (e2 _ h.2.1) h.2.2
theorem E0{ri a st sdx T stop e f j:Nat}{D:List Nat}{its:List aM}{dec:Nat->Nat->Nat->Rd}(hi:H ri=some (.list (its.map wF)))(hrr:H a=some (two e f))(l:uy H e (dec 0))(m:uy H f (dec 1))(hs:kq H st sdx D T stop j)(t:st≠sdx)(u:its.length<=12)(a0:∀it∈its,Ow it)(a1:∀k R r,dec k R r≠.err)(q:∀y Z,H y=none->aG sdx H Z->Z y=some (.list (nl (kT dec T (8*stop) its j).1))->((kT dec T (8*stop) its j).2.1=0->kq Z st sdx D T stop (kT dec T (8*stop) its j).2.2)->Q (.tup [.ref y,.str (LY (kT dec T (8*stop) its j).2.1)]) Z):aj aq aI (n+6) false 50 [.ref ri,.ref a,.ref st] Q X H:=by
 refine ac s_ (vs:=[.ref ri,.ref a,.ref st]) rfl rfl ?_;intro Y bo bs bv;generalize A:kT dec T (8*stop) its j=ab at q;have a2:ri≠sdx:=gD hs hi rfl;have a3:a≠sdx:=λz=>by rw[z,hs.2.1]at hrr;cases hrr
 refine ai λy J B e1 g1=>bH (e1 _ _ hi) (by rw[aP];exact aa u (by decide)) ?_;have C:y≠sdx:=(af B hs.2.1).symm;refine gq (σ:=Nat) (g:=wF) (λp=>[(1,.ref a),(2,.ref st),(3,.ref y)]) (λi p Z=>PD H Z y st sdx T stop D e f (dec 0) (dec 1) ab (kT dec T (8*stop) (its.drop i) p) i p) (λi p Z E=>(E.e _ _ a2 hi).trans (e1 _ _ hi).symm) (i:=0) (s0:=j) (aB rfl) ⟨(cW [] g1 (bF _) (by rw[<-A];rfl)),by rw[<-A];rfl,.of e1,hs.ext (λF=>e1 _ _) (λF=>e1 _ _),l.ext (.of e1) (λF F F=>e1 _ _),m.ext (.of e1) (λF F F=>e1 _ _)⟩ (λi p it ρ Z hx E=>λa4 ag=>?_) λp ρ Z E=>?_
 ·refine bn ?_;intro al;rw[aU]at E;rw[aU]at ag;have a5:i<900:=cN (cN (jB hx).1 u) (by decide);have a6:=a0 it (cy hx);rw[ul hx]at E;obtain⟨k,v,c⟩:=it;(refine aT (E.x) ?_;intro acc G ao I)
  have ret:∀(s:List Nat)(K:Nat),kT dec T (8*stop) ((k,v,c)::its.drop (i+1)) p=([],K,p)->K≠0->LY K=s->∀L,aG sdx Z L->Q (.tup [.ref y,.str s]) L:=λs K h a7 a8 L e2=>by rw[h,jQ]at I;have M:=E.s;rw[h]at M;have:=q y L B (E.e.trans e2) (e2 _ _ C (I▸G));rw[<-M,a8]at this;exact this λz=>absurd z a7
  have ap:∀(x w:Nat)(O:aR),kT dec T (8*stop) ((k,v,c)::its.drop (i+1)) p=(x::(kT dec T (8*stop) (its.drop (i+1)) (p+w)).1,(kT dec T (8*stop) (its.drop (i+1)) (p+w)).2)->qq O [(1,.ref a),(2,.ref st),(3,.ref y)]->∀L,aG sdx Z L->kq L st sdx D T stop (p+w)->oU (.ref y) (nv x) (λv=>Fo v (a4 O)) L:=λx w O h a' L e2 l2=>by
   rw[h]at I;have M:=E.s;rw[h]at M;refine uK (e2 _ _ C G) (fm ao (jk a5 (by decide))) λN e3 g3=>ag (p+w) _ N a' ?_;have k3:∀b P,H b=some P->b≠sdx->N b=some P:=λb P S U=>e3 _ _ (af B S) (e2 _ _ U (E.e _ _ U S));have ar:fj H N:=λb P S ok=>k3 b P S (gD hs S ok);have av:∀b V ep,H b=some (.dictI V ep)->N b=some (.dictI V ep):=λb V ep S=>k3 b _ S λz=>by rw[z,hs.2.1]at S;cases S
   have ba:st≠y:=af B hs.1;exact⟨(cW _ g3 (by rw[lg];exact gb ao) (by rw[pf];exact I)),M,λb P U S=>k3 b P S U,l2.ext (λF=>e3 _ _ ba) (λF=>e3 _ _ C.symm),l.ext ar av,m.ext ar av⟩
  refine And.intro (cK G) ?_;refine jO ?_;intro al;rcases a6 with W|⟨W,bb⟩
  ·have W:k<=1:=W;have qs:¬k=2:=λz=>BB 1 (aa (jP z.symm) W);have bd:∃d o,H a=some (.dictS d)/\d.lookup (kS k)=some (.ref o)/\uy Z o (dec k)/\kS k≠[114,97,119]:=by exact Ko W ((bW _ e hrr rfl E.r0 (by decide))) ((bW _ f hrr rfl E.r1 (by decide)))
   refine jV bd λd o hd bi ho bl=>?_;refine j3 (λz=>absurd z bl) λF=>bR (E.e _ _ a3 hd) bi (ho.read E.l t rfl (λz L e2=>NT (ret _ 1 ?_ (by decide) rfl L e2)) (λz L e2=>OX (ret _ 2 ?_ (by decide) rfl L e2)) (a1 _ _ _) λs w z L e2 l2=>ap s w _ ?_ (aB rfl) L e2 l2);·rw[pN,aA qs,z]
   ·rw[pN,aA qs,z]
   ·rw[pN,aA qs,z]
  ·refine jO ?_;intro al;subst W;refine j3 (λF=>d9 E.l.1 E.l.2.1 (Ee E.l t (aa bb (by decide)) (λz=>NT (ret _ 1 ?_ (by decide) rfl Z λF F F h=>h)) λz L e2 l2=>ap _ c _ ?_ (aB rfl) L e2 l2)) λz=>absurd rfl z;·rw[pN,aE rfl,aE z]
   ·rw[pN,aE rfl,aA (io z)]
 ·rw[aU,List.drop_length]at E;(refine aT (E.x) ?_;intro acc G _ I);rw[show(kT dec T (8*stop) [] p).1=[]from rfl,jQ]at I;have M:(0,p)=ab.2:=E.s;have:=q y Z B E.e (I▸G);rw[<-M]at this;exact this λF=>E.l
theorem w8{o dx l c w a m s W b:Nat}{L:List Nat}(h:B' H o dx l c L)(hs:L.length<=400)(d:s<=1000)(e:aw L s=0)(f:Dh H w a m W b)(g:b<=100000)(q:Q (.bool true) H):aj aq aI (n+3) false 51 [.ref o,.ref w,nv s] Q X H:=by refine ac ji (vs:=[.ref o,.ref w,nv s]) rfl rfl ?_;intro Y i j k;refine d9 f.1 f.2.1 (zx f g ?_);refine d9 h.1 h.2.1 (Mz h hs d e (Nj ?_));refine d9 f.1 f.2.1 (zx f g (tF (λp=>?_) λz=>absurd rfl z));refine d9 h.1 h.2.1 (wd h hs ?_);unfold uZ;rw[aE e];exact q
noncomputable def gP(Ls:Nat->List Nat)(it:aM):Nat×Nat:=if it.1=2 then(it.2.1,it.2.2)else(aH (bJ (Ls it.1) it.2.1) (aw (Ls it.1) it.2.1),aw (Ls it.1) it.2.1)
noncomputable def nP(Ls:Nat->List Nat)(its:List aM):Nat×Nat:=its.foldl (λs it=>(s.1+(gP Ls it).1*2^s.2,s.2+(gP Ls it).2)) (0,0)
theorem Np{H0 H Z:Hp}{x y:Nat}(e:bt H0 H)(d:d_ x y H Z)(hx:H0 x=none)(a:H0 y=none):bt H0 Z:=λb o h=>d b o (af hx h) (af a h) (e b o h)
noncomputable def LE(Ls:Nat->List Nat)(it:aM):Prop:=(it.1<=1/\aw (Ls it.1) it.2.1≠0/\aw (Ls it.1) it.2.1<=4/\bJ (Ls it.1) it.2.1<2^aw (Ls it.1) it.2.1)\/(it.1=2/\it.2.1<2^it.2.2/\it.2.2<=13)
theorem GJ{Ls:Nat->List Nat}:∀{its:List aM}{s:Nat×Nat},(∀it∈its,LE Ls it)->(its.foldl (λs it=>(s.1+(gP Ls it).1*2^s.2,s.2+(gP Ls it).2)) s).2<=s.2+13*its.length:=by
 intro its;induction its with|nil=>intro s _;exact gh ..|cons it its a=>
  intro s h;refine aa (a λy b=>h y (dn _ b)) ?_;have:(gP Ls it).2<=13:=by
   unfold gP;rcases h it (cS ..)with⟨c,_,d,_⟩|⟨c,_,d⟩;·rw[aA λz=>BB 1 (aa (jP z.symm) c)];exact aa d (by decide)
   ·rw[aE c];exact d
  refine(?_:s.2+(gP Ls it).2+13*its.length<=s.2+13*(its.length+1));rw[uY,dM,dQ (gP Ls it).2];exact uz (uz this _) _
noncomputable def Po(ρ:aR)(l:List (Nat×V))(it:aM)(x:Nat):aR:=bM (List.foldl (λr (p:Nat×V)=>bM r p.1 p.2) (jE ρ l) ([6,7,8].zip [V.str (kS it.1),nv it.2.1,nv it.2.2])) 4 (nv x)
theorem Cl{ri a rc ab l1:Nat}{its:List aM}{Ls:Nat->List Nat}{cl:Nat->List aM}(hi:H ri=some (.list (its.map wF)))(av:H a=some (two ab l1))(b7:H ab=some (.list (nl (Ls 0))))(b':H l1=some (.list (nl (Ls 1))))(cc:CT H rc cl)(f:GL (Ls 0))(g1:GL (Ls 1))(hz:∀k,k<=1->∀s,s∉(cl k).map (·.1)->aw (Ls k) s=0)(cd:its.length<=12)(ce:∀it∈its,LE Ls it)(q:∀Z,bt H Z->Q (.bytes (qa (nP Ls its).1 (((nP Ls its).2+7)/8))) Z):hZ aq aI (n+6) 52 [.ref ri,.ref a,.ref rc] Q H:=by
 refine jH ls (vs:=[.ref ri,.ref a,.ref rc]) rfl rfl ?_;intro Y Ψ ev ex;refine ix λw j J hw co ne e1 w1 db=>JB w1 db ne λm r a0 e2 ag=>?_;have a1:bt H r:=e1.b e2 co;have dc:H m=none:=e1.none a0;refine And.intro (by decide) (bR (a1 _ _ av) rfl (ix λt a2 u ey dd de e3 ds dt=>?_));refine yN ds dt de (e3 _ _ (a1 _ _ b7)) f.s4 f.m4 f.fcl λa3 a4 cs y y dv dI=>?_;have A:bt r cs:=e3.b dv dd;have a5:=a1.trans A;refine bR (a5 _ _ av) rfl (ix λB a6 eB eF dV d0 ct d1 d2=>?_);refine yN d1 d2 d0 (ct _ _ (a5 _ _ b')) g1.s4 g1.m4 g1.fcl λa7 a8 cv y y d3 d4=>?_;have C:bt cs cv:=ct.b d3 dV;refine ai λro D eH d5 a'=>?_;have E:bt cv D:=d5;have bb:bt H D:=a5.trans (C.trans E);have F:Dh D w j m 0 0:=et ((A.trans (C.trans E)) _ _ ag.1) ((A.trans (C.trans E)) _ _ ag.2.1) ((A.trans (C.trans E)) _ _ ag.2.2.1) ag.2.2.2;have cx:B' D t a2 a3 a4 (Ls 0):=dI.ext (C.trans E);have cD:B' D B a6 a7 a8 (Ls 1):=d4.ext E;have eO:∀{b:Nat}{G},r b=some G->D b=some G:=λh=>(A.trans (C.trans E)) _ _ h;have cL:w≠m:=λz=>by have:=F.1;rw[z,F.2.2.1]at this;cases this
 have cM:j≠m:=λz=>by have:=F.2.1;rw[z,F.2.2.1]at this;cases this
 have nd:∀{b:Nat}{G},D b=some G->(∀fs,G≠.attrs ((12,.ref m)::fs))->(∀xs,G≠.ba xs)->b≠j/\b≠m:=λh d6 d7=>⟨λz=>by rw[z,F.2.1]at h;cases h;exact d6 _ rfl,λz=>by rw[z,F.2.2.1]at h;cases h;exact d7 _ rfl⟩;have keep:∀{Z:Hp}{o dx l c:Nat}{L:List Nat},d_ j m D Z->B' D o dx l c L->B' Z o dx l c L:=λe h=>by have c0:=nd h.1 (λy z=>nomatch z) (λy z=>nomatch z);have c1:=nd h.2.1 (λy z=>nomatch z) (λy z=>nomatch z);have c2:=nd h.2.2.1 (λy z=>nomatch z) (λy z=>nomatch z);have c3:=nd h.2.2.2 (λy z=>nomatch z) (λy z=>nomatch z);exact et (e _ _ c0.1 c0.2 h.1) (e _ _ c1.1 c1.2 h.2.1) (e _ _ c2.1 c2.2 h.2.2.1) (e _ _ c3.1 c3.2 h.2.2.2)
 have bd:∀{Z:Hp},d_ j m D Z->Z ro=some (two t B):=λe=>e _ _ (nd a' (λy z=>nomatch z) (λy z=>nomatch z)).1 (nd a' (λy z=>nomatch z) (λy z=>nomatch z)).2 a';have bi:∀{Z:Hp},d_ j m D Z->bt H Z:=λe=>Np bb e co dc;have bl:∀i,(nP Ls (its.take i)).2<=156:=λi=>by have:=GJ (Ls:=Ls) (its:=its.take i) (s:=(0,0)) λit h=>ce it (uO h);refine aa this ?_;refine(?_:0+13*(its.take i).length<=156);rw[aU];exact kW 13 (aa (rA ..) cd)
 refine bH (bb _ _ hi) (by rw[aP];exact aa cd (by decide)) ?_;refine gq (σ:=Nat) (g:=wF) (λI=>[(1,.ref a),(2,.ref rc),(3,.ref w),(4,nv I),(5,.ref ro)]) (λi I Z=>I=(nP Ls (its.take i)).2/\Dh Z w j m (nP Ls (its.take i)).1 I/\d_ j m D Z) (λi I Z K=>(bi K.2.2 _ _ hi).trans (bb _ _ hi).symm) (i:=0) (s0:=0) (aB rfl) (bz rfl F (.refl)) (λi I it ρ Z hx K=>λbo al=>?_) λI ρ Z K=>?_
 ·refine lM ?_;intro M;rw[aU]at K;rw[aU]at al;refine lz K λN P R=>?_;have S:I<=100000:=by rw[N];exact aa (bl i) (by decide)
  have bs:nP Ls (its.take (i+1))=((nP Ls (its.take i)).1+(gP Ls it).1*2^I,I+(gP Ls it).2):=by unfold nP;rw[mI,hx,yu];show(_,_)=(_,_);rw[N];rfl
  have c4:=bl (i+1);rw[bs]at c4;have bv:∀r (O:aR),d_ j m Z r->Dh r w j m ((nP Ls (its.take i)).1+(gP Ls it).1*2^I) (I+(gP Ls it).2)->qq O [(1,.ref a),(2,.ref rc),(3,.ref w),(4,nv (I+(gP Ls it).2)),(5,.ref ro)]->sy aq (aj aq aI (n+5)) (hZ aq aI (n+5)) (.cons (.ite (.cmp .ne (.meth (.var 3) 11 .nil) (.var 4)) (.cons (.ret .cnone) .nil) .nil) .nil) bo bo Q O r:=λr O e2 l2 b1=>by
   have d8:=b1.2.2.1;have h4:=b1.2.2.2.1;have d':∀Q':QV,Q' (.bool false) r->WE aq (aj aq aI (n+5)) false (.cmp .ne (.meth (.var 3) 11 .nil) (.var 4)) O Q' uw r:=λQ' ea=>by refine v_is d8 ?_;refine d9 l2.1 l2.2.1 (zx l2 (aa c4 (by decide)) ?_);refine v_is h4 ?_;exact Gy (λy=>ea) λz=>absurd rfl z
   exact d' _ (al _ _ r b1 (bz (by rw[bs]) (by rw[bs];exact l2) (R.trans e2)))
  have eb:=ce it (cy hx);obtain⟨k,v,c⟩:=it;rcases eb with⟨T,c5,ec,ed⟩|⟨T,hv,ee⟩
  ·have T:k<=1:=T;have ef:gP Ls (k,v,c)=(aH (bJ (Ls k) v) (aw (Ls k) v),aw (Ls k) v):=aA λz=>BB 1 (aa (jP z.symm) T);have b2:∃p U pl W,(two t B=.dictS [(kS 0,.ref t),(kS 1,.ref B)])/\([(kS 0,V.ref t),(kS 1,V.ref B)]).lookup (kS k)=some (.ref p)/\B' D p U pl W (Ls k)/\(Ls k).length<=400/\kS k≠[114,97,119]:=by exact Ko T ((dB t a2 a3 a4 rfl rfl cx f.s4 (by decide))) ((dB B a6 a7 a8 rfl rfl cD g1.s4 (by decide)))
   refine dD b2 λp U pl W y ao ap c6 eh=>?_;rw[ef]at bv;refine j3 (λz=>absurd z eh) λy=>?_;have X:=keep R ap;refine bR (bd R) ao (d9 X.1 X.2.1 (Ip X c6 c5 P cM ne cL ed (aa ec (by decide)) S λr e2 l2=>?_));have c':=R.trans e2;have b3:=keep c' ap;refine bR (bd c') ao (d9 b3.1 b3.2.1 (wd b3 c6 ?_));unfold uZ;rw[aA c5];exact bv r (Po ρ [(1,.ref a),(2,.ref rc),(3,.ref w),(4,nv I),(5,.ref ro)] (k,v,c) (I+aw (Ls k) v)) e2 l2 (aB rfl)
  ·refine lM ?_;intro M;replace T:=(T).symm;subst T;refine j3 (λy=>d9 P.1 P.2.1 (EO P cM ne cL hv (aa ee (by decide)) S λr e2 l2=>?_)) λz=>absurd rfl z;exact bv r (Po ρ [(1,.ref a),(2,.ref rc),(3,.ref w),(4,nv I),(5,.ref ro)] (2,v,c) (I+c)) e2 l2 (aB rfl)
 ·rw[aU,qe]at K;refine lz K λN P R=>?_;have S:I<=100000:=by have:=bl its.length;rw[qe,<-N]at this;exact aa this (by decide)
  refine dk rfl (by refine(?_:2<=1048576);decide) ?_;refine gx (xs:=[0,1]) (g:=λk=>.str (kS k)) [(1,.ref a),(2,.ref rc),(3,.ref w),(5,.ref ro)] (λy r=>r=Z) (aB rfl) rfl (λy y y=>aJ) (λi k ρ r hx K bo al=>?_) λρ r K=>?_
  ·refine lM ?_;intro M;subst K;have T:k<=1:=by
    rcases bB (cy hx)with rfl|h;·decide
    ·rw[cO h];decide
   have b2:∃p U pl W ll,([(kS 0,V.ref t),(kS 1,V.ref B)]).lookup (kS k)=some (.ref p)/\B' D p U pl W (Ls k)/\GL (Ls k)/\([(kS 0,V.ref ab),(kS 1,V.ref l1)]).lookup (kS k)=some (.ref ll)/\H ll=some (.list (nl (Ls k))):=by exact Ko T ((lI t a2 a3 a4 ab rfl cx f rfl b7)) ((lI B a6 a7 a8 l1 rfl cD g1 rfl b'))
   refine lM ?_;intro M;refine iO b2 λp U pl W ll ao ap g ek el=>?_;have X:=keep R ap;have ar:=bi R;refine c_ (cc.kind T) λd ck ep em en eo y=>?_;have b4:(Ls k).length+1<=1000:=aa (gb g.s) (by decide);refine bR (ar _ _ av) ek (iT (ar _ _ el) g.s10 ?_);refine eW (k:=(Ls k).length+1) b4 (bD b4 ?_);refine be (λy=>[(1,.ref a),(2,.ref rc),(3,.ref w),(5,.ref ro),(6,.str (kS k))]) (λy u=>u=r) (aB rfl) rfl (λy y y=>aJ) (λs ρ u hs K e0 da=>?_) λρ u K=>al _ _ (aB rfl) K;refine lM ?_;intro M;replace K:=(K).symm;subst K;refine bR (ar _ _ em) en (in_dict (ar _ _ eo) (λv z=>da _ _ (aB rfl) rfl) λz=>?_);have es:aw (Ls k) s=0:=hz k T s λa0=>by refine am (dm a0) ?_;rintro x hx rfl;rw[nq (cc.nd k) hx]at z;cases z
   refine bR (bd R) ao (w8 X g.s4 (aa (bT hs) b4) es P S ?_);exact da _ _ (aB rfl) rfl
  ·refine lM ?_;intro M;replace K:=(K).symm;subst K;refine d9 P.1 P.2.1 (KR P S λu e3=>?_);rw[N];exact q u ((bi R).trans e3)
noncomputable def zp:List Nat->Nat|[]=>0|b::D=>b+256*zp D
theorem L2:∀{D:List Nat},(∀b∈D,b<256)->zp D<2^(8*D.length):=by intro D;induction D with|nil=>intro _;exact Nat.one_pos|cons b D a=>intro h;have c:=h b (cS ..);have d:=a λx hx=>h x (dn _ hx);rw[mo,uY,gM,fB (2^_)];skip;refine cN (Ci c _) ?_;rw[dQ,<-uY];exact kW 256 d
theorem A1:∀{D:List Nat}{i:Nat},(∀b∈D,b<256)->i<D.length->D[i]?=some (zp D/256^i%256)|b::D,0,h,_=>by rw[t4,Nat.div_one];refine(?_:some b=some ((b+256*zp D)%256));rw[B1,te (h b (cS ..))]|b::D,i+1,h,hi=>by rw[List.getElem?_cons_succ,A1 (D:=D) (λx hx=>h x (dn _ hx)) (Nat.lt_of_succ_lt_succ hi),ry,fB,<-vE];refine(?_:_=some ((b+256*zp D)/256/256^i%256));rw[ui _ _ (by decide),q9 (h b (cS ..)),aU]
theorem Gs:∀{D:List Nat},(∀b∈D,b<256)->(D.map λo=>bk o 8).flatten=bk (zp D) (8*D.length):=by intro D;induction D with|nil=>intro _;exact rfl|cons b D a=>intro h;rw[gT,List.flatten_cons,a λx hx=>h x (dn _ hx),mw (m:=8) (h b (cS ..)),mo,uY,dQ 8];rfl
theorem Iq:∀(k W:Nat),W<256^k->zp (qa W k)=W:=by
 intro k;induction k with
 |zero=>intro W h;exact(qU h).symm|succ k a=>
  intro W h;have e:qa W (k+1)=W%256::qa (W/256) k:=by unfold qa;rw[List.range_succ_eq_map,gT,bO,t4,Nat.div_one];refine ak (W%256::·) (f9 λi b=>?_);refine(?_:W/256^(i+1)%256=W/256/256^i%256);rw[ry,fB,vE]
  rw[e];refine(?_:W%256+256*zp (qa (W/256) k)=W);rw[a (W/256) ((zd (by decide)).mpr h),wT]
theorem sK(W k:Nat):(qa W k).length=k:=by skip;rw[aP,bf]
theorem KP{W k:Nat}:∀b∈qa W k,b<256:=λb a=>by(refine am (dm a) ?_;rintro i _ c;rw[<-c]);exact dG _ (by decide)
theorem nW:∀s,f7 (LY s)=true|0=>rfl|1=>rfl|_+2=>rfl
theorem neT{a b:Nat}{l:List Nat}{s:List Nat}(h:H a=some (.list (nl l)))(h':H b=some (.list (nl l)))(hs:f7 s=true)(q:Q (.bool false) H):bP .ne (.tup [.ref a,.str s]) (.tup [.ref b,.str s]) Q H:=bP.k (lh a s b s _ _ rfl rfl (h.trans (ak some (i0 l))) (h'.trans (ak some (i0 l))) hs hs ⟨λc=>q,λz=>absurd ⟨rfl,rfl⟩ z⟩)
theorem HU{args a:List V}(h:cp a9 args=cp a9 a)(k:aj aq aI (n+1) hd 29 a Q X H):aj aq aI (n+1) hd 29 args Q X H:=by rw[jX]at*;have k':match cp a9 a with|none=>False|some vs=>l5 aq (ei aq aI n) hd a9.body (λb=>Q .none) (λb b=>False) Q (λb=>X) (λi=>vs[i]?) H:=k;rw[<-h]at k';exact k'
theorem zY{c:Nat->Hp->Prop}{D:List Nat}{vs:List V}{st stop:Nat}{e:V}(d:∀a:Nat,cp a9 (.ref a::vs)=cp a9 [.ref a,.bytes D,nv st,e])(g:∀b∈D,b<256)(j:D.length<=100)(k:(e=.none/\stop=D.length)\/e=nv stop)(l:st<=stop)(hs:stop<=D.length)(q:∀a sdx Z,H a=none->H sdx=none->a≠sdx->bt H Z->kq Z a sdx D (zp (D.take stop)) stop (8*st)->c a Z):JT (aq.init 4) (λf=>pR 4 λa=>aj aq aI (n+3) false f (.ref a::vs) (λv=>Fo v (c a)) X) H:=by
 have m:∀b∈D.take stop,b<256:=λb h=>g b (uO h);have o:(D.take stop).length=stop:=by rw[List.length_take,ot hs]
 refine ix λa sdx p r s ne e2 g2 t=>HU (d a) ?_;refine FS g2 t ne k l hs (aa j (by decide)) (λi hi=>?_) (by have:=L2 m;rw[o]at this;exact this) λu e3 l3=>q a sdx u r s ne (e2.b e3 s) l3;rw[<-A1 m (o.symm▸hi),List.getElem?_take_of_lt hi]
section
variable{L:List Nat}{ll k bits:Nat}{ρ:aR}{dec:Nat->Nat->Rd}
theorem t_(a:ρ 10=some (nv k))(c:ρ 13=some (.ref ll))(d:ρ 6=some (nv bits))(e:H ll=some (.list (nl L)))(g:GL L)(gs:∀s∈bX L,s<L.length)(f:1<=bits)(h:bits<=4)(fp:∀R r,R<2^r->yY L (dY L) (bX L) R r (aF L) 0=dec R r)(ft:∀R r,R<2^r->ER (fW bits L) (gn L) R r=dec R r)(q:∀o Z,H o=none->bt H Z->(∀i,fj Z i->(∀b j ep,H b=none->Z b=some (.dictI j ep)->i b=some (.dictI j ep))->uy i o dec)->Q (.ref o) Z):WE aq (aj aq aI (n+4)) false (.ite (.cmp .eq (.var 10) (.cint 0)) (.new 0 (.cons (.var 13) (.cons (.cint 15) (.cons (.cbool true) .nil)))) (.new 1 (.cons (.var 13) (.cons (.var 6) (.cons (.cint 15) (.cons (.cbool true) .nil)))))) ρ Q X H:=by
 refine v_is a ?_;refine tF (λl=>?_) λl=>?_
 ·refine v_is c ?_;refine ix λo dx m p t ne e2 g2 u=>Gz g g2 u ne (e2 _ _ e) λrc rs v e3 pr=>?_;exact q o v p (e2.b e3 t) λw x l=>.inl (nj dx rc rs L (et (x _ _ pr.1 rfl) (x _ _ pr.2.1 rfl) (x _ _ pr.2.2.1 rfl) (x _ _ pr.2.2.2 rfl)) g fp)
 ·refine v_is c ?_;refine v_is d ?_;refine ix λo dx m p t ne e2 g2 u=>Jn g gs f h g2 u ne (e2 _ _ e) λrd v A e3 B=>?_;exact q o v p (e2.b e3 t) λw x C=>.inr (nj dx (fW bits L) rd (gn L) ⟨B.t.imp λl y=>y.imp λl y=>y.imp λl y=>Tb.mono y rfl x,B.d.imp λl y=>y.imp λl y=>⟨C _ _ _ (e2.none A) y.1,λs=>⟨(y.2 s).1,λz=>((y.2 s).2 z).imp λl y=>y.imp λl y=>y.imp λl y=>y.imp λl y=>⟨y.1,y.2.mono x⟩⟩⟩⟩ (yE h g.m) ft)
end
structure Ox(L:List Nat)(cl:List aM):Prop where
 g:GL L
 gs:∀s∈bX L,s<L.length
 fp:∀R r,R<2^r->yY L (dY L) (bX L) R r (aF L) 0=gJ cl R r
 ft:∀a,1<=a->a<=4->∀R r,R<2^r->ER (fW a L) (gn L) R r=gJ cl R r
theorem Ca(cl:List aM)(R r:Nat):gJ cl R r≠.err:=by unfold gJ;cases cl.filter (pB R r)with|cons x _=>exactλz=>nomatch z|nil=>cases cl.filter (pA R r)with|nil=>exactλz=>nomatch z|cons _ _=>exactλz=>nomatch z
theorem ED{D:List Nat}{wide:Bool}{ρ:aR}{nx:QR}{rt:QV}{ex:QE}{B:G3}(h4:ρ 4=some (.bytes D))(a:ρ 5=some (.bool wide))(b:D.length<=100)(c:1<=D.length)(k:∀(xs:List Nat)(d:Hp)(same:Hp->Prop),(∀e∈xs,e<D.length)->bt H d->(∀Z,bt d Z->same Z)->ju (.v 15) same B (xs.map nv) nx rt ex ρ d):WE aq (aj aq aI n) false (.ite (.var 5) (.bi .range (.cons (.bi .len (.cons (.var 4) .nil)) .nil)) (.list (.cons (.bin .sub (.bi .len (.cons (.var 4) .nil)) (.cint 1)) .nil))) ρ (λv=>gc .val v λsame l=>ju (.v 15) same B l nx rt ex ρ) X H:=by
 refine jO ?_;intro f;have g:D.length<=1000:=aa b (by decide);refine v_is a ?_;have len:∀{Q':QV}{h:QX},Q' (nv D.length) H->WE aq (aj aq aI n) false (.bi .len (.cons (.var 4) .nil)) ρ Q' h H:=λi=>by refine v_is h4 ?_;exact mN g i
 cases wide with|true=>exact len (eW g (bD g (k (List.range D.length) H _ (λe j=>gi j) .refl λm m=>aJ)))|false=>refine len (?_);refine(?_:dL (.list [.int ((D.length:Int)-((1:Nat):Int))]) _ H);rw[<-jC c];exact ai λr J hr e1 g1=>bH g1 (by refine(?_:1<=1048576);decide) (k [D.length-1] J _ (λe j=>by rw[cO j];exact Nat.sub_lt c Nat.one_pos) e1 λZ o=>(o _ _ g1).trans g1.symm)
noncomputable def JK(D:List Nat)(a i:Nat):Nat:=aw D i^^^(2^(a%8)*if i=a/8 then 1 else 0)
noncomputable def i_(D:List Nat)(a:Nat):List Nat:=(List.range D.length).map (JK D a)
theorem v7{D:List Nat}{a:Nat}(c:∀b∈D,b<256):∀b∈i_ D a,b<256:=λb d=>by
 (refine am (dm d) ?_;rintro i hi e;rw[<-e]);have f:aw D i<2^8:=c _ (cy (bx (gi hi)));refine Nat.xor_lt_two_pow (n:=8) f ?_;have g:2^(a%8)<2^8:=Nat.pow_lt_pow_right (by decide) (dG _ (by decide));by_cases q:i=a/8;·rw[aE q,ph];exact g
 ·rw[aA q];exact jD 8
theorem MC{D:List Nat}{a:Nat}{ρ:aR}(h4:ρ 4=some (.bytes D))(c:ρ 8=some (nv a))(d:∀b∈D,b<256)(h:D.length<=100)(q:∀Z,bt H Z->Q (.bytes (i_ D a)) Z):WE aq (aj aq aI n) false (.bi .bytes (.cons (.comp (.bin .xor (.var 18) (.bin .mul (.bin .shl (.cint 1) (.bin .mod (.var 8) (.cint 8))) (.bi .int (.cons (.cmp .eq (.var 17) (.bin .fdiv (.var 8) (.cint 8))) .nil)))) (.t [17,18]) .enum (.var 4)) .nil)) ρ Q X H:=by
 refine ?_;refine jO ?_;intro j;refine jO ?_;intro j;refine v_is h4 ?_;refine dk (.inr (an D rfl ((B2 D 0).symm))) (by rw[aP,bf];exact aa h (by decide)) ?_;refine dK (f:=λi=>nv (JK D a i)) aJ (by rw[bf];exact aa h (by decide)) (λi hi=>λQ' m=>?_) λr Z hr e g=>rU (l:=i_ D a) (g.trans (by unfold i_ nl;rw[bO];rfl)) (v7 d) (by skip;rw[aP,bf];exact aa h (by decide)) (q Z e);refine v_is c ?_;refine xS (by decide) (eN (k:=a%8) (aa (bT (dG _ (by decide))) (by decide)) (?_));refine jO ?_;intro j;refine v_is c ?_;refine J5 (by decide) (by exact Nc (k:=8) (by decide)) (E7 (x:=0+i) (y:=a/8) (dR.k (an _ rfl (gY (.inr (.inl (Eg (aa (kQ (by decide) (bT (dG a (by decide:0<8))):2^(a%8)<=2^8) (by decide))))) ?_))));have e:(((2^(a%8):Nat):Int)*(if decide (0+i=a/8)=true then 1 else 0))=((2^(a%8)*(if i=a/8 then 1 else 0):Nat):Int):=by
  rw[aU];by_cases z:i=a/8;·rw[aE z,aE (bC z)];rfl
  ·rw[aA z,aA (by rw[b5 z];exact bI)];rfl
 skip;rw[e];exact Nw m
theorem CT.mono{Z:Hp}{po rc:Nat}{cl:Nat->List aM}{l:List V}(h:CT H rc cl)(a:H po=some (.list l))(e:aG po H Z):CT Z rc cl:=by have nd:∀{b:Nat}{c},H b=some c->(∀l,c≠.list l)->Z b=some c:=λh n=>e _ _ (λz=>by rw[z,a]at h;cases h;exact n _ rfl) h;exact⟨h.d.imp λd h=>h.imp λd h=>h.imp λd h=>h.imp λd h=>(bz (nd h.1 (λd z=>nomatch z)) (nd h.2.1 (λd z=>nomatch z)) (nd h.2.2 (λd z=>nomatch z))),h.nd,h.c,h.l⟩
theorem Gm{T:cA}{Y:kC}{ρ:aR}{nx ct:QR}{rt:QV}{ex:QE}{o i e:E}{r:SL}(h:WE T Y hd e ρ (λv J=>WE T Y hd o ρ (λx a=>WE T Y hd i ρ (λk b=>a_ x k v (λc=>l5 T Y hd r nx ct rt ex ρ c) b) (ex ρ) a) (ex ρ) J) (ex ρ) H):l5 T Y hd (.cons (.asgI o i e) r) nx ct rt ex ρ H:=h
noncomputable def lV(cl:Nat->List aM)(k:Nat):Nat->Nat->Rd:=gJ (cl k)
theorem yW{po ri d rc j l1:Nat}{its:List aM}{Ls:Nat->List Nat}{cl:Nat->List aM}{D:List Nat}{wide:Bool}(dv:eV H po)(hi:H ri=some (.list (its.map wF)))(cL:ri≠po)(a7:H d=some (two j l1))(dx:H j=some (.list (nl (Ls 0))))(dI:H l1=some (.list (nl (Ls 1))))(dV:j≠po)(d0:l1≠po)(d1:CT H rc cl)(m:Ox (Ls 0) (cl 0))(p:Ox (Ls 1) (cl 1))(s:its.length<=12)(a8:∀it∈its,Ow it)(t:∀b∈D,b<256)(cM:1<=D.length)(u:D.length<=50)(d2:∃w,kT (lV cl) (zp (255::D)) (8*(D.length+1)) its 8=(its.map (·.2.1),0,w)/\(w+7)/8=1+D.length)(q:∀Z,Q (.bool true) Z):aj aq aI (n+7) false 53 [.ref po,.ref ri,.ref d,.ref rc,.bytes D,.bool wide] Q X H:=by
 have a':D.length<=1000:=aa u (by decide);have y:D.length<=100:=aa u (by decide);refine qD dv λd3 d4 ba=>?_;refine ac ij (vs:=[.ref po,.ref ri,.ref d,.ref rc,.bytes D,.bool wide]) rfl rfl ?_;intro Y ft fv fI;refine fH (many:=4) (tC d3 d4 ba) (by decide) (by decide) λb f0 A bb d5=>?_;have d6:d≠po:=λz=>by rw[z,ba]at a7;cases a7
 have d7:=bb _ _ cL hi;refine bH d7 (by rw[aP];exact aa s (by decide)) (dK (f:=λit:aM=>nv it.2.1) rfl (aa s (by decide)) (λit B=>λQ' C=>C) λbd f1 d8 E c0=>?_);refine bn ?_;intro F;rw[show its.map (λit:aM=>nv it.2.1)=nl (its.map (·.2.1))by unfold nl;rw[bO];rfl]at c0;refine qD d5 λd' ea bi=>?_;refine mN a' (gY (.inr (.inl ⟨by decide,by decide⟩)) (fH (many:=8*D.length) (tC d' ea (E _ _ bi)) (Nat.mul_pos (by decide) cM) (aa (kW 8 u) (by decide)) λa f2 f3 bl f4=>?_));have eb:bd≠po:=(af d8 bi).symm;refine(?_:WE _ _ _ _ _ _ _ _);refine MC (a:=a) rfl rfl t y λG bo=>?_;refine bn ?_;intro F;have I:∀{b:Nat}{K},b≠po->H b=some K->G b=some K:=λab h=>bo _ _ (bl _ _ ab (E _ _ (bb _ _ ab h)));have bs:=I cL hi;have c1:=I d6 a7;have ec:=I dV dx;have ed:=I d0 dI;have ee:=bo _ _ (bl _ _ eb c0);have ef:CT G rc cl:=(((d1.mono ba bb).ext E).mono (E _ _ bi) bl).ext bo;refine eW (k:=2) (by decide) (bD (by decide) ?_);refine gx (g:=nv) [(0,.ref po),(1,.ref ri),(2,.ref d),(3,.ref rc),(4,.bytes D),(5,.bool wide),(6,nv (1+b)),(7,.ref bd),(8,nv a),(9,.bytes (i_ D a))] (λi Z=>bt G Z) (aB rfl) .refl (λB B B=>aJ) (λi c2 ρ Z hx ag f5 eh=>?_) λρ Z ag=>q Z;refine bn ?_;intro F;refineλep=>ai λbv J hrr e1 g1=>dk rfl (by refine(?_:2<=1048576);decide) ?_;refine Lz ?_;intro F;refine Oj ?_;intro F;have b1:=ag.trans e1;have al:1+b<=4:=by rw[dQ];exact A
 refine And.intro aJ (bR (b1 _ _ c1) rfl (Gm (t_ (n:=n+2) (k:=c2) (ll:=j) (bits:=1+b) rfl rfl rfl (b1 _ _ ec) m.g m.gs (gh ..) al m.fp (m.ft _ (gh ..) al) λb2 L f6 e2 r0=>BO (e2 _ _ g1) λao e3 g3=>?_)));refine NV ?_;intro F;refine Do ?_;intro F ek;have k3:fj L ao:=Fa (e2 _ _ g1) e3;have b3:∀{b:Nat}{K},G b=some K->ao b=some K:=λh=>e3 _ _ (af hrr (ag _ _ h)) (e2 _ _ (b1 _ _ h));refine And.intro aJ (bR (b3 c1) rfl (Gm (t_ (n:=n+2) (k:=c2) (ll:=l1) (bits:=1+b) rfl rfl rfl (b3 ed) p.g p.gs (gh ..) al p.fp (p.ft _ (gh ..) al) λb4 el f' M r1=>Ba (M _ _ g3) (by refine(?_:1<=1048576);decide) λN ap g5=>?_)));refine NV ?_;intro F;refine Do ?_;intro F ek;have g5:N bv=some (two b2 b4):=g5;have b7:bt G N:=λb K h=>ap _ _ (af hrr (ag _ _ h)) (M _ _ (b3 h));have k5:fj el N:=λb K h ok=>ap _ _ (λz=>by rw[z,M _ _ g3]at h;cases h;cases ok) h;have c3:uy N b2 (lV cl 0):=r0 N ((k3.trans (.of M)).trans k5) λb O ep A h=>ap _ _ (λz=>by rw[z,g1]at A;cases A) (M _ _ (e3 _ _ (λz=>by rw[z,g1]at A;cases A) h));have c4:uy N b4 (lV cl 1):=r1 N k5 λb O ep A h=>ap _ _ (λz=>by rw[z,g3]at A;cases A) h;have ar:∀{Z:Hp}{o:Nat}{dec:Nat->Nat->Rd},bt N Z->uy N o dec->uy Z o dec:=λe r=>r.ext (.of e) λB B B=>e _ _;have em:∀b∈255::D,b<256:=λb A=>by
  rcases bB A with rfl|h;·decide
  ·exact t b h
 have en:(D.length+1)<=100:=aa (gb u) (by decide);refine And.intro aJ (ai λga gd ge b' eo=>rU (l:=[255]) eo (λx hx=>by rw[cO hx];decide) (by decide) (bK.k (bz rfl (by refine(?_:1+D.length<=1048576);exact aa (uz u 1) (by decide)) ?_)));refine zY (n:=n+3) (D:=255::D) (vs:=[.bytes ([255]++D),.int 1]) (st:=1) (e:=.none) (stop:=D.length+1) (λa=>rfl) em en (.inl ⟨rfl,rfl⟩) (uF ..) (bF _) λst sdx es gf c5 ev ex cc=>?_;have P:bt N es:=b'.trans ex;have ey:∃w,kT (lV cl) (zp ((255::D).take (D.length+1))) (8*(D.length+1)) its (8*1)=(its.map (·.2.1),0,w)/\(w+7)/8=1+D.length:=by rw[show(255::D).take (D.length+1)=255::D from yT (bF (255::D).length)];exact d2
 (refine am (ey) ?_;intro w cd eB);refine E0 (n:=n) (dec:=lV cl) (P _ _ (b7 _ _ bs)) (P _ _ g5) (ar P c3) (ar P c4) cc ev s a8 (λk R r=>Ca _ _ _) λS eF T av a0 c6=>?_;rw[cd]at a0;rw[cd]at c6;rw[cd];refine jO ?_;intro F;have ce:=c6 rfl;have c':bt G eF:=λb K h=>av _ _ (af c5 (b' _ _ (b7 _ _ h))) (P _ _ (b7 _ _ h));have eH:=av _ _ (af c5 (b' _ _ g5)) (P _ _ g5);have eO:=(ar P c3).mono cc av;have e0:=(ar P c4).mono cc av;refine neT a0 (c' _ _ ee) (nW 0) ?_;refine d9 ce.1 ce.2.1 (HN ce (mN a' (Gy (λB=>?_) λz=>absurd (by rw[eB];rfl) z)));refine(?_:WE _ _ _ _ _ _ _ _);refine ED rfl rfl y cM λxs U same e4 O e5=>?_;have a1:=c'.trans O;have e6:=O _ _ eH;have e7:uy U b2 (lV cl 0):=eO.ext (.of O) λB B B=>O _ _;have e8:uy U b4 (lV cl 1):=e0.ext (.of O) λB B B=>O _ _
 have da:∀{Z:Hp}{Q':QV}{ck a2 co cs:Nat}{D':List Nat},bt U Z->kq Z ck a2 D' co cs 0->ck≠a2->U a2=none->(∀S L,Z S=none->bt U L->L S=some (.list (nl (kT (lV cl) co (8*cs) its 0).1))->(∀b K,Z b=some K->b≠a2->L b=some K)->Q' (.tup [.ref S,.str (LY (kT (lV cl) co (8*cs) its 0).2.1)]) L)->aj aq aI (n+6) false 50 [.ref ri,.ref bv,.ref ck] Q' (λc Z=>X c Z) Z:=λe l ne h C=>E0 (n:=n) (dec:=lV cl) (e _ _ (a1 _ _ bs)) (e _ _ e6) (e7.ext (.of e) λB B B=>e _ _) (e8.ext (.of e) λB B B=>e _ _) l ne s a8 (λk R r=>Ca _ _ _) λS L T e2 a0 B=>C S L T (e.b e2 h) a0 λb K A ab=>e2 _ _ ab A
 have plain:∀{Z:Hp}{Q':QV}{D':List Nat},bt U Z->(∀b∈D',b<256)->D'.length<=50->(∀S L,Z S=none->bt Z L->L S=some (.list (nl (kT (lV cl) (zp D') (8*D'.length) its 0).1))->Q' (.tup [.ref S,.str (LY (kT (lV cl) (zp D') (8*D'.length) its 0).2.1)]) L)->aj aq aI (n+6) false 48 [.bytes D'] (λv L=>aj aq aI (n+6) false 49 [.ref ri,.ref rc,v] Q' (λc Z=>X c Z) L) (λc Z=>X c Z) Z:=λ{Z Q' D'}e A db C=>HG (n:=n+5) (aa db (by decide)) λL e2=>by rw[Gs A];exact Il (n:=n+5) ((e.trans e2) _ _ (a1 _ _ bs)) ((ef.ext a1).ext (e.trans e2)) s a8 (aa (kW 8 db) (by decide)) λS ao T e3 g3=>C S ao (e2.none T) (e2.trans e3) g3
 refine gx (g:=nv) [(0,.ref po),(1,.ref ri),(2,.ref d),(3,.ref rc),(4,.bytes D),(5,.bool wide),(6,nv (1+b)),(7,.ref bd),(8,nv a),(9,.bytes (i_ D a)),(11,.ref bv)] (λi Z=>bt U Z) (aB rfl) .refl (λi Z e=>e5 Z e) (λi e ρ e9 hx V gg e'=>?_) λρ e9 V=>?_
 ·refine bn ?_;intro F;have W:=e4 e (cy hx);have ct:(D.take e).length=e:=by rw[List.length_take,ot (bT W)]
  refine uT.k (fx none (some e) (.none) (.int e) (cI a') (by rw[rC,ot (bT W)];exact W) ?_);rw[A3];refine plain (D':=D.take e) V (λb h=>t b (uO h)) (by rw[ct];exact aa (bT W) u) λS gl T dc cv=>?_;rw[ct]at cv;rw[ct];refine bn ?_;intro F;refine zY (n:=n+3) (D:=D) (vs:=[.bytes D,.int 0,nv e]) (st:=0) (e:=nv e) (stop:=e) (λa=>rfl) t y (.inr rfl) (cR _) (bT W) λfc fd fk fl a3 cx a4 a5=>?_;refine da ((V.trans dc).trans a4) a5 cx ((V.trans dc).none a3) λfn dd fo a6 cD de=>neT cD (de _ _ (a4 _ _ cv) (af a3 cv)) (nW _) ?_;exact e' _ dd (aB rfl) a6
 ·refine bn ?_;intro F;have ds:(i_ D a).length=D.length:=by unfold i_;rw[aP,bf]
  refine zY (n:=n+3) (D:=i_ D a) (vs:=[.bytes (i_ D a)]) (st:=0) (e:=.none) (stop:=(i_ D a).length) (λa=>rfl) (v7 t) (by rw[ds];exact y) (.inl ⟨rfl,rfl⟩) (cR _) (bF _) λfc fd fk fl a3 cx a4 a5=>?_;rw[qe]at a5;refine da (V.trans a4) a5 cx (V.none a3) λfn dd fo a6 cD de=>?_;refine plain (D':=i_ D a) a6 (v7 t) (by rw[ds];exact u) λgr fp gs dt fs=>neT (dt _ _ cD) fs (nW _) ?_;exact eh _ fp (aB rfl) (a1.trans (a6.trans dt))
noncomputable def dJ(L:List Nat):List aM:=(cj L).map λp=>(p.2,aH (bJ L p.2) (aw L p.2),aw L p.2)
noncomputable def pos(C:List Nat):List Nat:=C.filter λc=>decide (0<c)
structure KF(C:List Nat)(K:Nat):Prop where
 c6:C.length<=6
 c12:∀i,aw C i<=1000
 k1:1<=K
 k4:K<=4
 room:(cj C).length<=2^K
 l4:∀x∈eU C K,x<=4
 ne:2<=(pos C).length->Cn K (pos C)≠[]
 least:∀t,((pos C).length<2->t=(pos C).sum)->(2<=(pos C).length->t∈xh K (pos C)/\∀x∈xh K (pos C),t<=x)->t=Aj C (eU C K) C.length
 use:∀i,i<C.length->0<aw C i->i<(eU C K).length/\aw (eU C K) i≠0
 r:Ox (eU C K) (dJ (eU C K))
 codes:∀m,m∈eU C K++[1]->(∀x∈eU C K++[1],x<=m)->G5 (eU C K) m (cj (eU C K)).length=(dJ (eU C K)).map cE
 keys:dz (λx y:Int=>decide (x<=y)) (((dJ (eU C K)).map cE).map (·.1))=((List.range C.length).filter λi=>decide (0<aw C i)).map λ(i:Nat)=>(i:Int)
 nd:((dJ (eU C K)).map (·.1)).Nodup
 lt:∀x∈dJ (eU C K),x.2.1<2^x.2.2/\x.2.2<=4
 can:∀s,aw (eU C K) s≠0->bJ (eU C K) s<2^aw (eU C K) s
 pre:∀x∈dJ (eU C K),∀R r,x.2.2<=r->R%2^x.2.2=x.2.1->gJ (dJ (eU C K)) R r=.sym x.1 x.2.2
noncomputable def cC(its:List aM)(k m:Nat):List Nat:=(List.range m).map λs=>(its.filter λit=>decide (kS it.1=kS k)&&decide (it.2.1=s)).length
theorem vn(C:List Nat):(pos C).length<=C.length:=qk ..
section
variable{ρ:aR}{ri k m:Nat}{its:List aM}
theorem NU(a:ρ 3=some (.ref ri))(b:ρ 8=some (.str (kS k)))(c:ρ 9=some (nv m))(hi:H ri=some (.list (its.map wF)))(d:its.length<=12)(h:m<=6)(q:∀r Z,H r=none->bt H Z->Z r=some (.list (nl (cC its k m)))->Q (.ref r) Z):WE aq (aj aq aI n) false (.comp (.bi .len (.cons (.compIf (.var 19) (.v 19) .val (.var 3) (.and (.cmp .eq (.idx (.var 19) (.cint 0)) (.var 8)) (.cons (.cmp .eq (.idx (.var 19) (.cint 1)) (.var 18)) .nil))) .nil)) (.v 18) .val (.bi .range (.cons (.var 9) .nil))) ρ Q X H:=by
 refine ?_;refine v_is c ?_;refine eW (aa h (by decide)) (bD (aa h (by decide)) ?_);refine xK (H0:=H) (f:=λs=>nv (its.filter λit=>decide (kS it.1=kS k)&&decide (it.2.1=s)).length) (λi i=>aJ) .refl (by rw[mv,bf,aU];exact aa h (by decide)) (λs hs J e1 Q' j=>?_) λr Z hr e g=>q r Z hr e (g.trans (by unfold cC nl;rw[bO];rfl));refine jO ?_;intro o;refine jO ?_;intro o;refine v_is a ?_;refine bH (e1 _ _ hi) (by rw[aP];exact aa d (by decide)) ?_;refine gk (λit:aM=>decide (kS it.1=kS k)&&decide (it.2.1=s)) (g:=wF) (f:=wF) ?_ (by rw[mv,aU];exact aa d (by decide)) (λit p=>?_) λt u w e2 g2=>?_;·rfl
 ·refine⟨λz A=>?_,λi z A=>A⟩;refine JN (x:=decide (kS it.1=kS k)) (y:=decide (it.2.1=s)) (λB C=>FZ (l:=[.str (kS it.1),nv it.2.1,nv it.2.2]) (by decide) (by refine(?_:3<=1048576);decide) rfl ?_) (λi B C=>FZ (l:=[.str (kS it.1),nv it.2.1,nv it.2.2]) (by decide) (by refine(?_:3<=1048576);decide) rfl (E7 C)) A;refine v_is b ?_;exact zO C
 ·rw[lF]at g2;exact len_list g2 (by rw[aP];exact aa (qk ..) (aa d (by decide))) (by rw[aP];exact j u e2)
end
theorem lX(its:List aM)(k m:Nat):(cC its k m).length=m:=by skip;rw[aP,bf]
theorem NI{its:List aM}{k m:Nat}(a:its.length<=12):∀c∈cC its k m,c<=12:=λc b=>by(refine am (dm b) ?_;rintro s _ d;rw[<-d]);exact aa (qk ..) a
theorem HK{a:Nat}{l:List Nat}(h:H a=some (.list (nl l)))(b:l.length<=1000)(q:∀r Z,H r=none->bt H Z->Z r=some (.list (nl l))->Q (.ref r) Z):dR .list [.ref a] Q H:=dR.k (bW a _ rfl h (wr b) (ai q))
theorem vj(C:List Nat)(K:Nat):(eU C K).length=C.length:=qv _ _ _ _
noncomputable def DD(H:Hp)(r:Nat):Nat->Nat->Prop|0,_=>∃ep,H r=some (.dictI [] ep)|_+1,x=>H r=some (.dictS [(kS 0,.ref x)])
noncomputable def Oc(k x v:Nat):AO:=match k with|0=>.dictS [(kS 0,.ref v)]|_+1=>two x v
theorem DD.set{r k x v:Nat}{P:Hp->Prop}(a:k<=1)(h:DD H r k x)(q:∀Z,aG r H Z->Z r=some (Oc k x v)->P Z):a_ (.ref r) (.str (kS k)) (.ref v) P H:=by revert h q;exact Ko a (λh q=>h.elim λep h=>BO h q) (λh q=>Ba h (by refine(?_:1<=1048576);decide) q)
theorem Ae{r k x v:Nat}(a:k<=1)(h:H r=some (Oc k x v))(q:Q (.ref v) H):dZ (.ref r) (.str (kS k)) Q H:=by revert h;exact Ko a (λh=>bR h rfl q) (λh=>bR h rfl q)
theorem DD.ext{Z:Hp}{r k x:Nat}(h:DD H r k x)(e:∀a,H r=some a->Z r=some a):DD Z r k x:=by cases k with|zero=>exact h.imp λb=>e _|succ k=>exact e _ h
theorem DD.s{r k x:Nat}(h:DD H r k x):∃a,H r=some a:=by cases k with|zero=>exact h.elim λep h=>⟨_,h⟩|succ k=>exact⟨_,h⟩
noncomputable def Na:SL:=(.cons (.asg 10 (.comp (.bi .len (.cons (.compIf (.var 19) (.v 19) .val (.var 3) (.and (.cmp .eq (.idx (.var 19) (.cint 0)) (.var 8)) (.cons (.cmp .eq (.idx (.var 19) (.cint 1)) (.var 18)) .nil))) .nil)) (.v 18) .val (.bi .range (.cons (.var 9) .nil)))) (.cons (.asg 11 (.compIf (.var 17) (.v 17) .val (.var 10) (.cmp .gt (.var 17) (.cint 0)))) (.cons (.asg 12 (.bin .add (.cint 1) (.call 42 (.cons (.var 1) (.cons (.cint 4) .nil))))) (.cons (.whl (.cmp .lt (.bin .shl (.cint 1) (.var 12)) (.bi .len (.cons (.var 11) .nil))) (.cons (.augV 12 .add (.cint 1)) .nil)) (.cons (.asgI (.var 5) (.var 8) (.bi .list (.cons (.call 24 (.cons (.var 10) (.cons (.var 12) .nil))) .nil))) (.cons (.asgI (.var 6) (.var 8) (.call 45 (.cons (.idx (.var 5) (.var 8)) .nil))) (.cons (.asg 13 (.call 44 (.cons (.var 11) (.cons (.var 12) .nil)))) (.cons (.ite (.or (.cmp .ne (.call 19 (.cons (.var 10) (.cons (.idx (.var 5) (.var 8)) .nil))) (.var 13)) (.cons (.cmp .ne (.bi .sorted (.cons (.idx (.var 6) (.var 8)) .nil)) (.compIf (.var 16) (.v 16) .val (.bi .range (.cons (.var 9) .nil)) (.cmp .gt (.idx (.var 10) (.var 16)) (.cint 0)))) .nil)) (.cons (.ret (.cbool false)) .nil) .nil) (.cons (.augV 7 .add (.var 13)) .nil)))))))))
theorem uU{T:cA}{Y:kC}{Ψ:DK}{ρ:aR}{x:Nat}{e:E}{r:SL}{nx ct:QR}{rt:QV}(a:iU e=true)(h:WE T Y false e ρ (λv J=>sy T Y Ψ r nx ct rt (bM ρ x v) J) (GW ρ) H):sy T Y Ψ (.cons (.asg x e) r) nx ct rt ρ H:=by refine(?_:if iU e=true then _ else _);rw[aE a];exact h
theorem Me{C:List Nat}:(C.filter λc=>decide (0<c)).map nv=nl (pos C):=rfl
theorem E3{wide:Bool}{ρ:aR}{po ri a rc k m due xl xc:Nat}{its:List aM}{nx ct:QR}{rt:QV}(cx:qq ρ [(1,.ref po),(2,.bool wide),(3,.ref ri),(5,.ref a),(6,.ref rc),(7,nv due),(8,.str (kS k)),(9,nv m)])(e:k<=1)(j:m<=6)(a2:eV H po)(hi:H ri=some (.list (its.map wF)))(cD:its.length<=12)(dl:DD H a k xl)(o:DD H rc k xc)(d5:ri≠po)(d6:ri≠a)(d7:ri≠rc)(a3:a≠po)(a4:rc≠po)(a5:a≠rc)(cL:∀K,1<=K->K<=4->(pos (cC its k m)).length<=2^K->KF (cC its k m) K)(q:∀K l c O Z,1<=K->K<=4->(pos (cC its k m)).length<=2^K->qq O [(1,.ref po),(2,.bool wide),(3,.ref ri),(5,.ref a),(6,.ref rc),(7,nv (due+Aj (cC its k m) (eU (cC its k m) K) (cC its k m).length))]->KL po a rc H Z->eV Z po->H l=none->H c=none->Z a=some (Oc k xl l)->Z rc=some (Oc k xc c)->Z l=some (.list (nl (eU (cC its k m) K)))->(∃ep,Z c=some (.dictI ((dJ (eU (cC its k m) K)).map cE) ep))->nx O Z):sy aq (aj aq aI (n+7)) (hZ aq aI (n+7)) Na nx ct rt ρ H:=by
 rw[<-fy cx];refine uU rfl (NU rfl rfl rfl hi cD j λp J ab e1 g1=>?_);generalize a6:cC its k m=C at*;have r:C.length<=6:=by rw[<-a6,lX];exact j
 have u:C.length<=1000:=aa r (by decide);have ag:=aa (vn C) r;have cM:(pos C).length<=1000:=aa ag (by decide);refine uU rfl (bH g1 (wr u) ?_);refine gk (λc:Nat=>decide (0<c)) (g:=nv) (f:=nv) ?_ (by rw[mv,aU];exact cI u) (λc w=>?_) λx d8 al e2 g2=>?_;·rfl
 ·exact⟨λQ' A=>iB (λz=>by rw[bC (eY z)]at A;exact A) λz=>by rw[b5 λy=>z (dP y)]at A;exact A,λD Q' A=>A⟩
 rw[lF,Me]at g2;have E:=e1.trans e2;refine fH (many:=4) (a2.imp λD z=>z.imp λD z=>E _ _ z) (by decide) (by decide) λd c0 c1 e3 G=>?_;refine qD a2 λd' ea a7=>?_;have c2:p≠po:=(af ab a7).symm;have c3:x≠po:=(af al (e1 _ _ a7)).symm;have a8:=e3 _ _ c2 (e2 _ _ g1);have a':=e3 _ _ c3 g2;refine qw (σ:=Nat) (λk=>6-k) (λK=>[(1,.ref po),(2,.bool wide),(3,.ref ri),(5,.ref a),(6,.ref rc),(7,nv due),(8,.str (kS k)),(9,nv m),(10,.ref p),(11,.ref x),(12,nv K)]) (λK Z=>1<=K/\K<=4/\Z=c0) (λK ρ Z B I c4=>?_) (z:=1+d) (aB rfl) (bz (gh ..) (by rw[dQ];exact c1) rfl);refine lz I ?_;rintro L M rfl;refine eN (aa M (by decide)) (iT a' cM (jv (λz=>?_) λz=>?_))
 ·have z:=eY z;have ba:K<3:=mi λy=>absurd z (io (aa ag (aa (by decide) (kQ (by decide) y:2^3<=2^K))));exact c4 (K+1) _ _ (AZ (jk ba (by decide)) (iY K)) (aB rfl) (bz (uF ..) (aa ba (by decide)) rfl)
 have bb:(pos C).length<=2^K:=fS λy=>z (dP y);have F:=cL K L M bb;have ao:(eU C K).length<=6:=by rw[vj];exact r
 have bd:(eU C K).length<=1000:=aa ao (by decide);have bi:DD Z a k xl:=dl.ext λD h=>e3 _ _ a3 (E _ _ h);have bl:DD Z rc k xc:=o.ext λD h=>e3 _ _ a4 (E _ _ h);refine IG (n:=n+4) a8 r (aa M (by decide)) L F.room λeb ec h4 N g4=>HK g4 bd λl c5 P c6 g5=>?_;have Q:=N.trans c6;refine DD.set e (bi.ext λD=>Q _ _) λed R ap=>?_;refine lM ?_;intro bo;have c':H l=none:=by
  cases z:H l with|none=>rfl|some S=>exact absurd rfl (af (N.none P) (e3 _ _ (λy=>by rw[y]at P;exact af (N.none P) G.choose_spec.choose_spec rfl) (E _ _ z)))
 have ee:l≠po:=λy=>af (N.none P) G.choose_spec.choose_spec y.symm;have bs:∃S,Z a=some S:=by exact bi.s
 have bv:∃S,Z rc=some S:=by exact bl.s
 have da:l≠a:=bs.elim λD h=>(af (N.none P) h).symm;have db:l≠rc:=bv.elim λD h=>(af (N.none P) h).symm;have b1:=R _ _ da g5;refine Ae e ap (Jx (n:=n+6) b1 ao F.l4 λdc c ef dd de b2 T b3=>?_);rw[F.codes dc dd de]at b3;have U:c5 c=none:=jJ R (λy=>by have:=ap;rw[<-y,b2]at this;cases this) b2;refine DD.set e ((bl.ext λD=>Q _ _).ext λD h=>T _ _ (R _ _ a5.symm h)) λb4 V b7=>?_;have ds:c≠rc:=bv.elim λD h=>(af (Q.none U) h).symm;have eh:c≠a:=bs.elim λD h=>(af (Q.none U) h).symm;have dt:c≠po:=λy=>af (Q.none U) G.choose_spec.choose_spec y.symm;have dv:H c=none:=by
  cases z:H c with
  |none=>rfl|some S=>exact absurd rfl (af (Q.none U) (e3 _ _ dt (E _ _ z)))
 have W:∀b S,b≠a->b≠rc->Z b=some S->b4 b=some S:=λb S ar av h=>V _ _ av (T _ _ (R _ _ ar (Q _ _ h)));have b':p≠a/\p≠rc:=by exact⟨λy=>dl.s.elim λD h=>af ab h y.symm,λy=>o.s.elim λD h=>af ab h y.symm⟩
 have cc:x≠a/\x≠rc:=by exact⟨λy=>dl.s.elim λD h=>af al (e1 _ _ h) y.symm,λy=>o.s.elim λD h=>af al (e1 _ _ h) y.symm⟩
 have c8:=W _ _ b'.1 b'.2 a8;have dx:=W _ _ cc.1 cc.2 a';have dI:∀c∈C,c<=1000:=λc w=>by(refine dE (List.mem_iff_getElem?.mp w) ?_;intro i hi);have:=F.c12 i;rw[o9 hi]at this;exact this
 refine fD (zT (n:=n+6) dx ag L M (λc w=>dI c (jI w).1) (λt dV X d0 t2=>?_) F.ne);refine lM ?_;intro bo;have cd:=F.least t d0 t2;have ce:=V _ _ db (T _ _ b1);have ck:b4 a=some (Oc k xl l):=V _ _ a5 (T _ _ ap);have cl:∃ep,dV c=some (.dictI ((dJ (eU C K)).map cE) ep):=b3.imp λD h=>X _ _ (V _ _ ds h);have d1:((dJ (eU C K)).map cE).length<=6:=by unfold dJ;rw[aP,aP,qn];exact aa (iF _ _) ao
 refine Ae e (X _ _ ck) (G9 (n:=n+6) (X _ _ c8) (X _ _ ce) u bd F.c12 F.use (Gy (λD=>?_) λz=>absurd (by rw[cd]) z));(refine dE (cl) ?_;intro ek d2);refine Ae e (X _ _ b7) (y_ d2 (fm d1 (by decide)) λrs el em a0 co=>?_);refine jO ?_;intro bo;refine eW (k:=m) (aa j (by decide)) (bD (aa j (by decide)) ?_);have cs:C.length=m:=by rw[<-a6,lX]
 refine gk (λs=>decide (0<aw C s)) (g:=nv) (f:=nv) ?_ (by rw[mv,bf,aU];exact aa j (by decide)) (λs hs=>?_) λen d3 eo a1 cv=>?_;·trivial
 ·exact⟨λQ' A=>dp (a0 _ _ (X _ _ c8)) u (bx (by rw[cs];exact gi hs)) (iB (λz=>by rw[bC (eY z)]at A;exact A) λz=>by rw[b5 λy=>z (dP y)]at A;exact A),λD Q' A=>A⟩
 rw[F.keys,bO]at co;rw[lF,<-cs]at cv;refine J3 (l:=(List.range C.length).filter λi=>decide (0<aw C i)) (l':=(List.range C.length).filter λi=>decide (0<aw C i)) rfl (a1 _ _ co) cv ?_;have Y:=(X.trans a0).trans a1;refine q K l c _ d3 L M bb (mj rfl rfl rfl rfl rfl (ak (λv=>some (nv v)) (by rw[cd])) aJ) (λb S ar av d4 h=>Y _ _ (W _ _ av d4 (e3 _ _ ar (E _ _ h)))) (G.imp λD z=>z.imp λD z=>Y _ _ (W _ _ a3.symm a4.symm z)) c' dv (Y _ _ ck) (Y _ _ b7) (Y _ _ ce) (cl.imp λD h=>(a0.trans a1) _ _ h)
theorem NS{x y:Int}(q:Q (.bool (decide (y<x))) H):bP .gt (.int x) (.int y) Q H:=iB (λz=>by rw[bC z]at q;exact q) λz=>by rw[b5 z]at q;exact q
theorem PM{x:List Nat}(q:Q (.bool false) H):bP .ne (.bytes x) (.bytes x) Q H:=bP.k ⟨λa=>q,λz=>absurd rfl z⟩
noncomputable def DO(its:List aM)(a b c:Nat)(k:Nat):List Nat:=match k with|0=>eU (cC its 0 a) b|_+1=>eU (cC its 1 3) c
noncomputable def JU(Ls:Nat->List Nat)(k:Nat):List aM:=dJ (Ls k)
noncomputable def Oy(Ls:Nat->List Nat)(k s:Nat):List Nat:=bk (aH (bJ (Ls k) s) (aw (Ls k) s)) (aw (Ls k) s)
structure Nr(its:List aM)(a b:List Nat)(Ls:Nat->List Nat):Prop where
 itw:∀it∈its,LE Ls it
 mem:∀it∈its,it.1<=1->(it.2.1,aH (bJ (Ls it.1) it.2.1) (aw (Ls it.1) it.2.1),aw (Ls it.1) it.2.1)∈dJ (Ls it.1)
 zero:∀k,k<=1->∀s,s∉(dJ (Ls k)).map (·.1)->aw (Ls k) s=0
 due:(its.map (·.2.2)).sum+Aj a (Ls 0) a.length+Aj b (Ls 1) b.length=(nP Ls its).2
 nb1:1<=(nP Ls its).2
 lt:(nP Ls its).1<2^(nP Ls its).2
 txt:(its.map (I4 (Oy Ls))).flatten=bk (nP Ls its).1 (nP Ls its).2
 on:∃c,kT (lV (JU Ls)) (zp (255::qa (nP Ls its).1 (((nP Ls its).2+7)/8))) (8*((((nP Ls its).2+7)/8)+1)) its 8=(its.map (·.2.1),0,c)/\(c+7)/8=1+((nP Ls its).2+7)/8
theorem NW{a:Nat}{cells:List Int}(a8:H a=some (.ro (cells.map V.int)))(a':cells.length<=1000)(F:∀wide its d,O6 wide its d->(∀K,1<=K->K<=4->(pos (cC its 0 d)).length<=2^K->KF (cC its 0 d) K)/\(∀K,1<=K->K<=4->(pos (cC its 1 3)).length<=2^K->KF (cC its 1 3) K)/\∀e g,KF (cC its 0 d) e->KF (cC its 1 3) g->Nr its (cC its 0 d) (cC its 1 3) (DO its d e g))(q:∀Z,Q (.bool true) Z):sy aq (aj aq aI (n+7)) (hZ aq aI (n+7)) B8.body (λi Z=>Q .none Z) (λi i=>False) Q (fr [some (.ref a)]) H:=by
 refine lM ?_;intro j;refine fD (KI (n:=n+6) a8 a' λpo J d4 e1 ba=>dR.k (.inl (bW a _ rfl (.inr (e1 _ _ a8)) (by rw[aP];exact cI a') (NS (?_)))));generalize decide ((1:Int)<((cells.map V.int).length:Nat))=wide;refine lM ?_;intro j;refine fD (Cq (n:=n+5) ba λits d ri d5 M cx e2 cD g2=>?_);refine lz (F wide its d M) λag al cL=>?_;have l:=M.l2;refineλep=>ai λo d6 bb e3 g3=>λcM=>ai λrc d7 ao p g4=>dk (.inl (p _ _ (e3 _ _ g2))) (by rw[aP];exact aa l (by decide)) (dK (f:=λit:aM=>nv it.2.2) rfl (aa l (by decide)) (λit i=>λQ' c0=>c0) λrs c1 d8 r g5=>?_);rw[show its.map (λit:aM=>nv it.2.2)=nl (its.map (·.2.2))by unfold nl;rw[bO];rfl]at g5;refine E9 g5 (by rw[aP];exact aa l (by decide)) (?_);have t:=e3.trans (p.trans r);refine qD ba λd' ea c2=>?_;refine qD cD λc3 c4 u=>?_;have w:ri≠po:=(af cx c2).symm;have bd:o≠po:=(af bb u).symm;have bi:rc≠po:=(af ao (e3 _ _ u)).symm;have nil:ri≠o:=af bb g2;have y:ri≠rc:=af ao (e3 _ _ g2);have bo:o≠rc:=af ao g3;refine dk rfl (by refine(?_:2<=1048576);decide) ?_;refine Lz ?_;intro j;refine And.intro aJ ?_;refine(?_:sy _ _ _ _ _ _ _ _ _);refine E3 (n:=n) (k:=0) (m:=d) (due:=(its.map (·.2.2)).sum) (xl:=0) (xc:=0) (aB rfl) (by decide) M.s2 (tC c3 c4 (t _ _ u)) (t _ _ g2) l ⟨ep,r _ _ (p _ _ g3)⟩ ⟨cM,r _ _ g4⟩ w nil y bd bi bo ag λe A B eb c5 bs bv b1 E c6 b2 ap ar c' da db av=>?_;have b3:∀{b:Nat}{b4},b≠po->b≠o->b≠rc->c1 b=some b4->c5 b=some b4:=λdc dd de h=>c6 _ _ dc dd de h;refine And.intro aJ ?_;refine(?_:sy _ _ _ _ _ _ _ _ _);refine E3 (n:=n) (k:=1) (m:=3) (xl:=A) (xc:=B) (Cu E.1 E.2.1 E.2.2.1 E.2.2.2.1 E.2.2.2.2.1 E.2.2.2.2.2.1 rfl rfl aJ) (by decide) (by decide) b2 (b3 w nil y (t _ _ g2)) l c' da w nil y bd bi bo al λg l1 a0 ec I b7 b' cc ds a1 dt dv ed cd ce ck L=>?_;refine And.intro aJ ?_;rw[<-fy ds];refine lM ?_;intro j;have G:=cL e g (ag e bs bv b1) (al g b7 b' cc);have N:=ag e bs bv b1;have O:=al g b7 b' cc;have a2:=a1 _ _ w nil y (b3 w nil y (t _ _ g2));have P:A≠po/\A≠o/\A≠rc:=bz ((af ap (t _ _ u)).symm) ((af ap (r _ _ (p _ _ g3))).symm) ((af ap (r _ _ g4)).symm);have a3:B≠po/\B≠o/\B≠rc:=bz ((af ar (t _ _ u)).symm) ((af ar (r _ _ (p _ _ g3))).symm) ((af ar (r _ _ g4)).symm);refine qD b2 λee ef dx=>?_;have dI:l1≠po:=(af dv dx).symm;have co:=a1 _ _ P.1 P.2.1 P.2.2 db;refine dE av λcs av=>?_;refine dE L λct L=>?_;have a4:=a1 _ _ a3.1 a3.2.1 a3.2.2 av;generalize a5:DO its d e g=Ls at G;have R:Ls 0=eU (cC its 0 d) e:=by rw[<-a5];rfl
 have S:Ls 1=eU (cC its 1 3) g:=by rw[<-a5];rfl
 have a6:∀k,(Ls k=eU (cC its 0 d) e)\/(Ls k=eU (cC its 1 3) g):=λk=>by
  rw[<-a5];cases k with
  |zero=>exact .inl rfl|succ k=>exact .inr rfl
 have cv:∀(C:List Nat)K,C.length<=6->(dJ (eU C K)).length<=6:=λC K h=>by unfold dJ;rw[aP,qn];exact aa (iF _ _) (by rw[vj];exact h)
 have a7:CT I rc (JU Ls):=by
  refine⟨(nj B a0 cs ct ce ?_ ?_),λk=>?_,λk=>?_,λk=>?_⟩
  ·refine(?_:I B=some (.dictI ((dJ (Ls 0)).map cE) cs));rw[R];exact a4
  ·refine(?_:I a0=some (.dictI ((dJ (Ls 1)).map cE) ct));rw[S];exact L
  ·refine(?_:((dJ (Ls k)).map (·.1)).Nodup);rcases a6 k with h|h<;>rw[h];·exact N.nd
   ·exact O.nd
  ·refine(?_:∀x∈dJ (Ls k),_);rcases a6 k with h|h<;>rw[h];·exact N.lt
   ·exact O.lt
  ·refine(?_:(dJ (Ls k)).length<=6);rcases a6 k with h|h<;>rw[h];·exact cv _ _ N.c6
   ·exact cv _ _ O.c6
 have dV:CD I rc (Oy Ls) its:=⟨B,a0,ce,λit T=>by
  rcases G.itw it T with⟨U,_,_,_⟩|⟨U,_,d0⟩
  ·have W:=nq (a7.nd it.1) (G.mem it T U);obtain⟨k,v,c⟩:=it;revert W;exact Ko U (λW=>.inr (.inl (fg rfl _ _ (by rw[<-R]at a4;exact a4) W))) (λW=>.inr (.inr (fg rfl _ _ (by rw[<-S]at L;exact L) W)))
  ·exact .inl ⟨U,d0⟩⟩;have ab:(nP Ls its).2<=156:=by have:=GJ (Ls:=Ls) (its:=its) (s:=(0,0)) G.itw;refine aa this ?_;refine(?_:0+13*its.length<=156);rw[aU];exact kW 13 l
 have d1:∀it∈its,Ow it:=λit T=>(G.itw it T).imp (λh=>h.1) λh=>⟨h.1,h.2.2⟩;refine fD (w_text (n:=n+6) a2 dV l (by rw[G.txt,az];exact aa ab (by decide)) λeh X=>?_);rw[G.txt];refine lM ?_;intro j;have bl:(bk (nP Ls its).1 (nP Ls its).2).length<=1000:=by rw[az];exact aa ab (by decide)
 refine Cl (n:=n+1) (Ls:=Ls) (cl:=JU Ls) (X _ _ a2) (X _ _ cd) (by rw[R];exact X _ _ co) (by rw[S];exact X _ _ ck) (a7.ext X) (by rw[R];exact N.r.g) (by rw[S];exact O.r.g) G.zero l G.itw λek d2=>?_;refine lM ?_;intro j;refine len_str bl (Gy (λi=>?_) λz=>absurd (by rw[az,<-G.due,R,S]) z);refine Fm (n:=n+6) G.lt (aa ab (by decide)) λel d3=>PM ?_;have Y:=X.trans (d2.trans d3);have r_:1<=((nP Ls its).2+7)/8:=(Nat.le_div_iff_mul_le (by decide)).mpr (rF G.nb1 7);have qs:((nP Ls its).2+7)/8<=50:=aa (Nat.div_le_div_right (rF ab 7)) (by decide);refine yW (n:=n) (Ls:=Ls) (cl:=JU Ls) (D:=qa (nP Ls its).1 (((nP Ls its).2+7)/8)) (dt.imp λi z=>z.imp λi z=>Y _ _ z) (Y _ _ a2) w (Y _ _ cd) (by rw[R];exact Y _ _ co) (by rw[S];exact Y _ _ ck) P.1 dI (a7.ext Y) (by unfold JU;rw[R];exact N.r) (by unfold JU;rw[S];exact O.r) l d1 KP (by rw[sK];exact r_) (by rw[sK];exact qs) ?_ q;rw[sK];exact G.on
end Mine.Internal
namespace Mine.Internal
theorem O7{α β:Type}{a b:α}{c d:β}(h:a=b)(h':c=d):(a,c)=(b,d):=by rw[h,h']
theorem zI{L:List Nat}{s:Nat}(h:aw L s≠0):(aw L s,s)∈cj L:=by have a:s<L.length:=mi λz=>h (by unfold aw;rw[iJ z];rfl);exact cm.mem_iff.mpr (cY (an s (pG ⟨eM a,bC (A9 h)⟩) rfl))
theorem An{L:List Nat}{s:Nat}(h:aw L s≠0):(s,aH (bJ L s) (aw L s),aw L s)∈dJ L:=cY (an (aw L s,s) (zI h) rfl)
theorem EI{L:List Nat}{s:Nat}(h:s∉(dJ L).map (·.1)):aw L s=0:=Decidable.byContradiction λz=>h (cY (an _ (An z) rfl))
theorem JL{its:List aM}{k m s:Nat}(h:s<m):aw (cC its k m) s=(its.filter λit=>decide (kS it.1=kS k)&&decide (it.2.1=s)).length:=o9 (rg h)
theorem Fb{its:List aM}{k m:Nat}{it:aM}(hi:it∈its)(a:it.1=k)(b:it.2.1<m):0<aw (cC its k m) it.2.1:=by rw[JL b];exact List.length_pos_of_mem (pG ⟨hi,by rw[a,bC rfl,bC rfl];rfl⟩)
noncomputable def oG(Ls:Nat->List Nat):List aM->Nat×Nat|[]=>(0,0)|it::its=>((gP Ls it).1+2^(gP Ls it).2*(oG Ls its).1,(gP Ls it).2+(oG Ls its).2)
theorem EW{Ls:Nat->List Nat}{it:aM}(h:LE Ls it):(gP Ls it).1<2^(gP Ls it).2:=by
 unfold gP;by_cases q:it.1=2
 ·rw[aE q];rcases h with⟨a,_⟩|⟨_,b,_⟩;·rw[q]at a;exact absurd a (by decide)
  ·exact b
 ·rw[aA q];exact eP _ _
theorem Nd{Ls:Nat->List Nat}:∀(its:List aM)(s:Nat×Nat),its.foldl (λs it=>(s.1+(gP Ls it).1*2^s.2,s.2+(gP Ls it).2)) s=(s.1+2^s.2*(oG Ls its).1,s.2+(oG Ls its).2):=by intro its;induction its with|nil=>intro s;refine(?_:s=(s.1+2^s.2*0,s.2+0));rw[ug];rfl|cons it its a=>intro s;rw[oZ,a];refine(?_:(_,_)=(_,_));refine O7 ?_ (dM ..);refine(?_:s.1+(gP Ls it).1*2^s.2+2^(s.2+(gP Ls it).2)*(oG Ls its).1=s.1+2^s.2*((gP Ls it).1+2^(gP Ls it).2*(oG Ls its).1));rw[Nat.mul_add,gM,nu,fB (gP Ls it).1,dM]
theorem NQ{Ls:Nat->List Nat}(its:List aM):nP Ls its=oG Ls its:=by unfold nP;rw[Nd];refine(?_:(0+1*(oG Ls its).1,0+(oG Ls its).2)=_);rw[aU,Nat.one_mul,aU]
theorem Ly{Ls:Nat->List Nat}(it:aM):I4 (Oy Ls) it=bk (gP Ls it).1 (gP Ls it).2:=by
 unfold I4 gP;by_cases q:it.1=2;·rw[aE q,aE q]
 ·rw[aA q,aA q];rfl
theorem L7{Ls:Nat->List Nat}:∀{its:List aM},(∀it∈its,LE Ls it)->(its.map (I4 (Oy Ls))).flatten=bk (oG Ls its).1 (oG Ls its).2/\(oG Ls its).1<2^(oG Ls its).2:=by
 intro its;induction its with
 |nil=>intro _;exact⟨rfl,Nat.one_pos⟩|cons it its a=>
  intro h;have b:=a λy c=>h y (dn _ c);have hx:=EW (h it (cS ..));refine⟨?_,?_⟩;·rw[gT,List.flatten_cons,b.1,Ly,mw hx];rfl
  ·skip;rw[gM];refine cN (Ci hx _) ?_;rw[dQ,<-uY];exact kW _ b.2
theorem Nt{Ls:Nat->List Nat}{T N:Nat}(a:∀k s,k<=1->aw (Ls k) s≠0->∀R r,aw (Ls k) s<=r->R%2^aw (Ls k) s=aH (bJ (Ls k) s) (aw (Ls k) s)->gJ (dJ (Ls k)) R r=.sym s (aw (Ls k) s)):∀{its:List aM}{p:Nat},(∀it∈its,LE Ls it)->T/2^p=(oG Ls its).1->p+(oG Ls its).2<=N->kT (lV (JU Ls)) T N its p=(its.map (·.2.1),0,p+(oG Ls its).2):=by
 intro its;induction its with
 |nil=>intro p _ _ _;exact rfl|cons it its b=>
  intro p h c d;have hw:=h it (cS ..);have hx:=EW hw;have c:T/2^p=(gP Ls it).1+2^(gP Ls it).2*(oG Ls its).1:=c;have d:p+((gP Ls it).2+(oG Ls its).2)<=N:=d;have e:T/2^p%2^(gP Ls it).2=(gP Ls it).1:=by rw[c,B1,te hx]
  have hd:T/2^(p+(gP Ls it).2)=(oG Ls its).1:=by rw[<-Bd,c,ui _ _ (jD _),q9 hx,aU]
  have hr:(gP Ls it).2<=N-p:=Nat.le_sub_of_add_le (aa (by rw[dQ,<-dM];exact gh ..) d);have f:=b (λy g=>h y (dn _ g)) hd (by rw[dM];exact d);rw[dM]at f;rw[pN];by_cases q:it.1=2
  ·have i:gP Ls it=(it.2.1,it.2.2):=aE q;rw[i]at e;rw[i]at hr;rw[i]at f;rw[aE q,aA (io hr),e,f];refine(?_:(_,_)=(_,_));rw[gT];refine O7 rfl ?_;refine(?_:(0,p+(it.2.2+(oG Ls its).2))=(0,p+((gP Ls it).2+(oG Ls its).2)));rw[i]
  ·have i:gP Ls it=(aH (bJ (Ls it.1) it.2.1) (aw (Ls it.1) it.2.1),aw (Ls it.1) it.2.1):=aA q;rw[i]at e;rw[i]at hr;rw[i]at f;have j:it.1<=1/\aw (Ls it.1) it.2.1≠0:=hw.elim (λz=>⟨z.1,z.2.1⟩) λz=>absurd z.1 q;have l:lV (JU Ls) it.1 (T/2^p) (N-p)=.sym it.2.1 (aw (Ls it.1) it.2.1):=a _ _ j.1 j.2 _ _ hr e;rw[aA q,l];refine(?_:(_,_)=(_,_));rw[f,gT];refine O7 rfl ?_;refine(?_:(0,p+(aw (Ls it.1) it.2.1+(oG Ls its).2))=(0,p+((gP Ls it).2+(oG Ls its).2)));rw[i]
noncomputable def kB(k:Nat)(it:aM):Bool:=decide (kS it.1=kS k)
noncomputable def Gb(k:Nat)(L:List Nat)(its:List aM):Nat:=((its.filter (kB k)).map λit=>aw L it.2.1).sum
theorem CL(k i:Nat)(L:List Nat):∀its:List aM,((its.filter λit=>kB k it&&decide (it.2.1<i+1)).map λit=>aw L it.2.1).sum=((its.filter λit=>kB k it&&decide (it.2.1<i)).map λit=>aw L it.2.1).sum+(its.filter λit=>kB k it&&decide (it.2.1=i)).length*aw L i:=by
 intro its;induction its with
 |nil=>refine(?_:0=0+0*aw L i);rw[Nat.zero_mul]|cons it its b=>
  have c:=b;by_cases a:kB k it=true
  ·by_cases d:it.2.1<i;·rw[kO (by rw[a];rw[bC (qg d)];rfl),kO (by rw[a];rw[bC d];rfl),gj (by rw[a];rw[b5 (g_ d)];exact bI),gT,gT,i8,i8,c,dM]
   ·by_cases e:it.2.1=i;·rw[kO (by rw[a];rw[bC (e▸iY _)];rfl),gj (by rw[a];rw[b5 d];exact bI),kO (by rw[a];rw[bC e];rfl),gT,i8,c,mo,Nat.succ_mul,e,dQ,dM]
    ·rw[gj (by rw[a];rw[b5 λz=>(AR (qh z)).elim d e];exact bI),gj (by rw[a];rw[b5 d];exact bI),gj (by rw[a];rw[b5 e];exact bI),c]
  ·have a:kB k it=false:=Bool.eq_false_iff.mpr a;rw[gj (by rw[a];exact bI),gj (by rw[a];exact bI),gj (by rw[a];exact bI),c]
theorem Kk{its:List aM}{k m:Nat}{L:List Nat}:∀i,i<=m->Aj (cC its k m) L i=((its.filter λit=>kB k it&&decide (it.2.1<i)).map λit=>aw L it.2.1).sum:=by
 intro i;induction i with
 |zero=>intro _;rw[show(its.filter λit=>kB k it&&decide (it.2.1<0))=[]from uu λit a=>by rw[b5 (pF _)];rw[xn];exact bI];rfl
 |succ i b=>
  intro h;have e:=JL (its:=its) (k:=k) (m:=m) (s:=i) h;rw[Bl,b (mT h),CL];refine ak _ ?_;rw[e];by_cases z:0<(its.filter λit=>decide (kS it.1=kS k)&&decide (it.2.1=i)).length;·rw[aE z];rfl
  ·rw[aA z];have:(its.filter λit=>kB k it&&decide (it.2.1=i)).length=0:=xU z;rw[this,Nat.zero_mul]
theorem Gf{its:List aM}{k m:Nat}{L:List Nat}(h:∀it∈its,kB k it=true->it.2.1<m):Aj (cC its k m) L (cC its k m).length=Gb k L its:=by rw[lX,Kk m (bF m)];refine ak (λl=>(List.map (λit:aM=>aw L it.2.1) l).sum) (pI λit hi=>?_);cases a:kB k it with|false=>rfl|true=>rw[bC (h it hi a)];rfl
theorem KD{Ls:Nat->List Nat}{a:Nat}:∀{its:List aM},(∀it∈its,HV a it)->(its.map (·.2.2)).sum+Gb 0 (Ls 0) its+Gb 1 (Ls 1) its=(oG Ls its).2:=by
 intro its;induction its with|nil=>intro _;exact rfl|cons it its b=>
  intro h;have d:=b λy e=>h y (dn _ e);refine(?_:_=(gP Ls it).2+(oG Ls its).2);rw[<-d,gT,i8];obtain⟨k,v,c⟩:=it;rcases h _ (cS ..)with⟨f,_,g⟩|⟨f,_,g⟩|⟨f,_,_⟩
  ·cases f;cases g;refine(?_:0+(its.map (·.2.2)).sum+(aw (Ls 0) v+Gb 0 (Ls 0) its)+Gb 1 (Ls 1) its=aw (Ls 0) v+_);rw[aU,Nat.add_left_comm,dM]
  ·cases f;cases g;refine(?_:0+(its.map (·.2.2)).sum+Gb 0 (Ls 0) its+(aw (Ls 1) v+Gb 1 (Ls 1) its)=aw (Ls 1) v+_);rw[aU,Nat.add_left_comm]
  ·cases f;refine(?_:c+(its.map (·.2.2)).sum+Gb 0 (Ls 0) its+Gb 1 (Ls 1) its=c+_);rw[dM c,dM c]
theorem Jo{W a:Nat}(h:W<2^a):zp (255::qa W ((a+7)/8))=255+2^8*W:=by refine(?_:255+256*zp (qa W ((a+7)/8))=_);rw[Iq _ _ (cN h (by rw[show(256:Nat)=2^8 from rfl];rw[<-Nat.pow_mul];exact kQ (by decide) (by have:=c8 a;exact aa (gh ..) (jP this))))]
theorem Qp(a:Nat):8+a<=8*((a+7)/8+1)/\(8+a+7)/8=1+(a+7)/8:=⟨by rw[Nat.mul_add,<-c8,dQ];exact rF (gh ..) 8,by rw[dM];exact sF (m:=8) (by decide) 1 (a+7)⟩
theorem KF.pre'{C:List Nat}{K:Nat}{L:List Nat}(k:KF C K)(e:L=eU C K){s:Nat}(hs:aw L s≠0){R r:Nat}(a:aw L s<=r)(b:R%2^aw L s=aH (bJ L s) (aw L s)):gJ (dJ L) R r=.sym s (aw L s):=by subst e;exact k.pre (s,aH (bJ (eU C K) s) (aw (eU C K) s),aw (eU C K) s) (An hs) R r a b
theorem OV{wide:Bool}{its:List aM}{b d f:Nat}(M:O6 wide its b)(k0:KF (cC its 0 b) d)(k1:KF (cC its 1 3) f):Nr its (cC its 0 b) (cC its 1 3) (DO its b d f):=by
 have itw:∀it∈its,LE (DO its b d f) it:=λit hi=>by
  obtain⟨k,v,c⟩:=it;rcases M.ok _ hi with⟨g,i,j⟩|⟨g,i,j⟩|⟨g,i,j⟩;·cases g;have hv:v<b:=i;have u:=k0.use v (by rw[lX];exact hv) (Fb hi rfl hv);exact .inl (et (cR _) u.2 (k0.l4 _ (cy (bx u.1))) (k0.can v u.2))
  ·cases g;have hv:v<3:=i;have u:=k1.use v (by rw[lX];exact hv) (Fb hi rfl hv);exact .inl (et (bF _) u.2 (k1.l4 _ (cy (bx u.1))) (k1.can v u.2))
  ·exact .inr (bz g i j)
 have ne:∀it∈its,it.1<=1->aw (DO its b d f it.1) it.2.1≠0:=λit hi h=>by
  rcases itw it hi with z|z;·exact z.2.1
  ·rw[z.1]at h;exact absurd h (by decide)
 have l:=L7 itw;have m:Aj (cC its 0 b) (DO its b d f 0) (cC its 0 b).length=Gb 0 (DO its b d f 0) its:=Gf λit hi a=>by
  rcases M.ok it hi with⟨_,h,_⟩|⟨h,_,_⟩|⟨h,_,_⟩;·exact h
  ·unfold kB at a;rw[h]at a;exact absurd a (by decide)
  ·unfold kB at a;rw[h]at a;exact absurd a (by decide)
 have n:Aj (cC its 1 3) (DO its b d f 1) (cC its 1 3).length=Gb 1 (DO its b d f 1) its:=Gf λit hi a=>by
  rcases M.ok it hi with⟨h,_,_⟩|⟨_,h,_⟩|⟨h,_,_⟩;·unfold kB at a;rw[h]at a;exact absurd a (by decide)
  ·exact h
  ·unfold kB at a;rw[h]at a;exact absurd a (by decide)
 have hw:=NQ (Ls:=DO its b d f) its;refine⟨itw,λit hi h=>An (ne it hi h),λk o s h=>EI h,?_,?_,?_,?_,?_⟩;·rw[m,n,hw,KD M.ok]
 ·rw[hw];refine qD (M.first) λv r e=>?_;have p:(0,v,0)∈its:=e▸cS ..;have q:=ne _ p (cR 1);generalize DO its b d f=Ls at q;rw[e];exact aa (A9 q) (gh (aw (Ls 0) v) (oG Ls r).2)
 ·rw[hw];exact l.2
 ·rw[hw];exact l.1
 ·rw[hw];have t:=Jo l.2;have w:=Qp (oG (DO its b d f) its).2;refine an _ (Nt (λk s x hs R r g i=>?_) itw ?_ w.1) w.2
  ·cases k with
   |zero=>exact k0.pre' rfl hs g i|succ k=>exact k1.pre' rfl hs g i
  ·rw[t,ui _ _ (jD 8)];exact aU _
noncomputable def M1(s l:Nat):Rd->Bool|.sym a b=>Nat.beq a s&&Nat.beq b l|_=>false
noncomputable def M6:Rd->Bool|.bad=>true|_=>false
theorem IA{s l:Nat}:∀{r:Rd},M1 s l r=true->r=.sym s l|.sym a b,h=>by have:=b8 h;rw[ml this.1,ml this.2]
theorem G_:∀{r:Rd},M6 r=true->r=.bad|.bad,_=>rfl
noncomputable def cH(R:Nat)(x:aM):Bool:=Nat.beq (R%2^x.2.2) x.2.1
noncomputable def PV(L:List Nat)(R:Nat):List aM->Bool|[x]=>M1 x.1 x.2.2 (yY L (dY L) (bX L) R 5 (aF L) 0)|[]=>(Nat.ble (aF L) 1&&Nat.ble (aF L) (dJ L).length)&&(dJ L).all (λy=>Nat.beq y.2.1 0&&Nat.beq y.2.2 1)&&M6 (yY L (dY L) (bX L) R 5 (aF L) 0)|_=>false
noncomputable def cF(L:List Nat):Bool:=(List.range 16).all λR=>PV L R ((dJ L).filter (cH R))
theorem Jw{R j:Nat}(h:j<4):R%16/2^j%2=R/2^j%2:=by
 have:∀j,j<4->16=2^j*(2*2^(3-j)):=by decide
 rw[this j h,Bq,Nat.mod_mul_right_mod]
theorem Gl(R:Nat):∀i,i<=4->aH (R%16) i=aH R i:=by intro i;induction i with|zero=>intro _;exact rfl|succ i a=>intro h;refine(?_:2*aH (R%16) i+_=2*aH R i+_);rw[a (mT h),Jw h]
theorem Mo{L C B:List Nat}{R r:Nat}:∀k i,i+k<=4->yY L C B (R%16) r k i=yY L C B R r k i:=by
 intro k;induction k with
 |zero=>intro _ _;exact rfl|succ k a=>
  intro i h;have h':i+1+k<=4:=by rw[jL];exact h
  rw[pK,pK,Gl R (i+1) (aa (gh ..) h'),a (i+1) h']
theorem MP{L C B:List Nat}{R r s l:Nat}:∀k i,i+k<=4->yY L C B R 5 k i=.sym s l->i<l/\yY L C B R r k i=if r<l then .cut else .sym s l:=by
 intro k;induction k with|zero=>intro _ _ h;exact nomatch h|succ k a=>
  intro i b h;have h':i+1+k<=4:=by rw[jL];exact b
  have hi:¬5<=i:=λz=>absurd (aa z (aa (gh ..) b)) (by decide);rw[pK,aA hi]at h;have c:=a (i+1) h';rw[pK];by_cases f:yG C i<=aH R (i+1)
  ·rw[aE f]at h;rw[aE f];by_cases g:aH R (i+1)<yG C i+aw C (i+1)
   ·rw[aE g]at h;rw[aE g];cases d:B[oP C (i+1)+aH R (i+1)-yG C i]? with
    |none=>rw[d]at h;cases h|some s'=>
     rw[d]at h;cases h;refine⟨iY i,?_⟩;by_cases q:r<=i;·rw[aE q,aE (sD q)]
     ·rw[aA q,aA λz=>q (qh z)]
   ·rw[aA g]at h;rw[aA g];have:=c h;refine⟨Nat.lt_of_succ_lt this.1,?_⟩;by_cases q:r<=i;·rw[aE q,aE (fm q (Nat.lt_of_succ_lt this.1))]
    ·rw[aA q];exact this.2
  ·rw[aA f]at h;cases h
theorem ML{L C B:List Nat}{R r:Nat}:∀k i,i+k<=4->yY L C B R 5 k i=.bad->i+k<=r->yY L C B R r k i=.bad:=by
 intro k;induction k with
 |zero=>intro _ _ _ _;exact rfl|succ k a=>
  intro i b h hr;have h':i+1+k<=4:=by rw[jL];exact b
  have hi:¬5<=i:=λz=>absurd (aa z (aa (gh ..) b)) (by decide);have c:¬r<=i:=λz=>absurd (aa hr z) (Nat.not_le_of_lt (Nat.lt_add_of_pos_right (Nat.succ_pos k)));rw[pK,aA hi]at h;rw[pK,aA c];by_cases f:yG C i<=aH R (i+1)
  ·rw[aE f]at h;rw[aE f];by_cases g:aH R (i+1)<yG C i+aw C (i+1);·rw[aE g]at h;rw[aE g];exact h
   ·rw[aA g]at h;rw[aA g];exact a (i+1) h' h (by rw[jL];exact hr)
  ·rw[aA f]at h;exact nomatch h
theorem uk{l r:Nat}(h:l<=r):(2:Nat)^r=2^l*2^(r-l):=by rw[<-gM,mH h]
theorem kA{a l r:Nat}(h:l<=r):a%2^r%2^l=a%2^l:=by rw[uk h,Nat.mod_mul_right_mod]
theorem wg{R:Nat}{x:aM}(h:x.2.2<=4):cH (R%16) x=cH R x:=by unfold cH;rw[show(16:Nat)=2^4 from rfl,kA h]
theorem eu{R:Nat}{x:aM}:cH R x=true↔R%2^x.2.2=x.2.1:=⟨ml,λh=>by unfold cH;rw[h];exact Nat.beq_refl _⟩
theorem Lk{R r:Nat}:pB R r=λx=>decide (x.2.2<=r)&&cH R x:=funext λx=>by
 skip;by_cases h:cH R x=true;·rw[h,Bool.and_true];exact uX ⟨λz=>z.1,λz=>⟨z,eu.mp h⟩⟩
 ·rw[Bool.eq_false_iff.mpr h,xn];exact b5 λz=>h (eu.mpr z.2)
theorem vG{S:List aM}{R r:Nat}{x:aM}(h:S.filter (cH R)=[x]):gJ S R r=if r<x.2.2 then .cut else .sym x.1 x.2.2:=by
 have hx:x∈S/\cH R x=true:=jI (h▸pd x);have a:S.filter (pB R r)=[x].filter λx=>decide (x.2.2<=r):=by rw[Lk,<-h,List.filter_filter]
 rw[gJ,a];by_cases q:r<x.2.2
 ·rw[aE q,gj (by rw[mC];exact xQ q)];have b:x∈S.filter (pA R r):=pG ⟨hx.1,bC ⟨bT q,by rw[<-eu.mp hx.2,kA (bT q)]⟩⟩;cases e:S.filter (pA R r)with
  |nil=>rw[e]at b;cases b|cons y c=>rfl
 ·rw[aA q,kO (p:=λx:aM=>decide (x.2.2<=r)) (bC (fS q))]
theorem Bs{S:List aM}{R r:Nat}(h:S.filter (cH R)=[])(b:∀y∈S,y.2.1=0/\y.2.2=1)(hR:R<2^r):gJ S R r=.bad:=by
 have c:∀y∈S,¬R%2=0:=λy d z=>by have:=List.filter_eq_nil_iff.mp h y d;exact this (eu.mpr (by rw[(b y d).1,(b y d).2];exact z))
 have e1:S.filter (pB R r)=[]:=uu λy d z=>c y d (by have:=(bY z).2;rw[(b y d).1,(b y d).2]at this;exact this);have e2:S.filter (pA R r)=[]:=uu λy d z=>by
  have:=bY z;rw[(b y d).1,(b y d).2,Nat.zero_mod]at this;rcases AR this.1 with a|a
  ·have:r=0:=qU a;subst this;exact c y d (by rw[qU hR])
  ·rw[a]at this;exact c y d this.2.symm
 rw[gJ,e1,e2]
theorem Lm{L:List Nat}(h:cF L=true)(a:aF L<=4)(h4:∀x∈dJ L,x.2.2<=4){R r:Nat}(hR:R<2^r):yY L (dY L) (bX L) R r (aF L) 0=gJ (dJ L) R r:=by
 have h:=dN h (R%16) (eM (dG _ (by decide)));have b:(dJ L).filter (cH (R%16))=(dJ L).filter (cH R):=pI λx hx=>wg (h4 x hx);have c:0+aF L<=4:=by rw[aU];exact a
 rw[b]at h;rw[<-Mo (aF L) 0 c];cases e:(dJ L).filter (cH R)with
 |nil=>
  rw[e]at h;have h:=b8 h;have d:=b8 h.1;have f:∀y∈dJ L,y.2.1=0/\y.2.2=1:=λy g=>by have:=b8 (dN d.2 y g);exact⟨ml this.1,ml this.2⟩
  rw[Bs e f hR];have i:=G_ h.2;by_cases q:0+aF L<=r;·exact ML _ _ c i q
  ·have j:=b8 d.1;have q:=mi q;rw[aU]at q;have k:r=0:=qU (cN q (oE j.1));subst k;have g:=cN q (oE j.2);have l:(dJ L)[0]∈dJ L:=List.getElem_mem g;refine absurd (eu.mpr ?_) (List.filter_eq_nil_iff.mp e _ l);rw[(f _ l).1,(f _ l).2,qU hR]|cons x xs=>cases xs with|cons y m=>rw[e]at h;cases h|nil=>rw[e]at h;rw[vG e];exact(MP _ _ c (IA h)).2
section
variable{α:Type}{g:aM->α}{p:Nat}
theorem sv:∀(S:List aM)(f:Nat->α),S.filter (cH p)=[]->(S.foldl (λf r=>th r.2.2 r.2.1 (g r) f) f) p=f p:=by intro S;induction S with|nil=>intro _ _;exact rfl|cons y S a=>intro f h;have b:=List.filter_eq_nil_iff.mp h;rw[oZ,a _ (uu λz hz=>b z (dn _ hz))];exact aA λz=>b y (cS ..) (eu.mpr z)
theorem mn:∀(S:List aM)(f:Nat->α){x:aM},S.filter (cH p)=[x]->(S.foldl (λf r=>th r.2.2 r.2.1 (g r) f) f) p=g x
 |y::S,f,x,h=>by
  rw[oZ];by_cases q:cH p y=true
  ·rw[kO q]at h;(refine dA (List.cons.inj h) ?_;rintro a;rw[<-a];rintro e);rw[sv S _ e];exact aE (eu.mp q)
  ·rw[gj q]at h;exact mn S _ h
end
theorem j8{α:Type}(p q:α->Bool)(l:List α):(l.filter p).filter q=(l.filter q).filter p:=by rw[List.filter_filter,List.filter_filter];exact pI λx a=>Bool.and_comm ..
theorem rS{k R:Nat}(S:List aM):(di k S).filter (cH (R%2^k))=(S.filter (cH R)).filter λr=>decide (r.2.2<=k):=by rewrite[j8];refine pI λx hx=>?_;have:x.2.2<=k:=bY (jI hx).2;unfold cH;rw[kA this]
theorem Gn(s z r:Nat):Dd (s:Int) z r=if r<z then .cut else .sym s z:=by unfold Dd;rw[aE (cf s),DZ]
theorem yH{a k l:Nat}(h:k<=l):a/2^k%2^(l-k)=a%2^l/2^k:=by rw[uk h,Bq]
theorem Ml{k m R:Nat}{y:aM}(a:k<y.2.2)(b:y.2.2<=k+m)(c:y.2.1%2^k=R%2^k):cH (R%2^(k+m)/2^k) (Da k y)=cH R y:=by
 have e:R%2^(k+m)/2^k%2^(y.2.2-k)=R%2^y.2.2/2^k:=by rw[yH (bT a),kA b]
 refine BQ ⟨λh=>eu.mpr ?_,λh=>eu.mpr ?_⟩
 ·have h:R%2^(k+m)/2^k%2^(y.2.2-k)=y.2.1/2^k:=eu.mp h;rw[e]at h;rw[<-jc (R%2^y.2.2) (2^k),h,kA (bT a),<-c,jc]
 ·refine(?_:R%2^(k+m)/2^k%2^(y.2.2-k)=y.2.1/2^k);rw[e,eu.mp h]
theorem MN{k R r:Nat}{S:List aM}{x:aM}(h:S.filter (cH R)=[x])(hx:1<=x.2.2):ER k S R r=if r<x.2.2 then .cut else .sym x.1 x.2.2:=by
 have a:x∈S/\cH R x=true:=jI (h▸pd x);have hs:=rS (k:=k) (R:=R) S;rw[h]at hs;unfold ER;by_cases q:x.2.2<=k
 ·rw[kO (p:=λr:aM=>decide (r.2.2<=k)) (bC q)]at hs;have e1:tZ 0 (di k S) (R%2^k)=x.2.2:=mn (g:=λr=>r.2.2+0) _ _ hs;have e2:tS (di k S) (R%2^k)=(x.1:Int):=mn (g:=λr=>(r.1:Int)) _ _ hs;rw[e1,e2,aE (show 0<x.2.2 from hx),Gn]
 ·have q:=mi q;rw[gj (p:=λr:aM=>decide (r.2.2<=k)) (by rw[mC];exact xQ q)]at hs;have e1:tZ 0 (di k S) (R%2^k)=0:=sv (g:=λr=>r.2.2+0) _ _ hs;rw[e1,aA (gW 0)];have b:x.2.1%2^k==R%2^k:=kX (by rw[<-eu.mp a.2,kA (bT q)]);have c:(bp k (bQ k S) (R%2^k)).filter (cH R)=[x]:=by skip;rw[j8,j8 (λr:aM=>decide (k<r.2.2)),h,kO (p:=λr:aM=>decide (k<r.2.2)) (bC q),kO (p:=λr:aM=>r.2.1%2^k==R%2^k) b];rfl
  have d:x∈bp k (bQ k S) (R%2^k):=(jI (c▸pd x:x∈(bp k (bQ k S) (R%2^k)).filter (cH R))).1;have e:∀y∈bp k (bQ k S) (R%2^k),k<y.2.2/\y.2.1%2^k=R%2^k:=λy f=>by have:=jI f;exact⟨bY (jI this.1).2,eq_of_beq this.2⟩
  generalize bp k (bQ k S) (R%2^k)=i at c d e;rw[aA (by intro z;rw[ow z]at d;cases d)];have j:(i.map (Da k)).filter (cH (MA k i R))=[Da k x]:=by
   rewrite[List.filter_map,show i.filter (cH (MA k i R)∘Da k)=i.filter (cH R)from pI λy f=>Ml (e y f).1 ?_ (e y f).2,c];·rfl
   ·have:y.2.2<=aF (i.map λr=>r.2.2):=dW _ _ (cY (an y f rfl));skip;rw[mH (aa (bT (e y f).1) this)];exact this
  unfold Pd;have e1:tZ k (i.map (Da k)) (MA k i R)=x.2.2:=(mn (g:=λr=>r.2.2+k) _ _ j).trans (rY (bT q));have e2:tS (i.map (Da k)) (MA k i R)=(x.1:Int):=(mn (g:=λr=>(r.1:Int)) _ _ j).trans rfl;rw[e1,e2,Gn]
theorem Kv{k R r:Nat}{S:List aM}(h:S.filter (cH R)=[])(a:∀y∈S,y.2.1=0/\y.2.2=1)(b:1<=k):ER k S R r=.bad:=by have hs:=rS (k:=k) (R:=R) S;rw[h]at hs;have e1:tZ 0 (di k S) (R%2^k)=0:=sv (g:=λr=>r.2.2+0) _ _ hs;unfold ER;rw[e1,aA (gW 0),show bQ k S=[]from uu λy c z=>absurd (bY z) (by rw[(a y c).2];exact io b)];rfl
theorem CZ{a:Nat}{L:List Nat}:1<=fW a L:=by
 unfold fW;by_cases h:1<(if aF L<a then aF L else a);·rw[aE h];exact bT h
 ·rw[aA h];exact bF 1
theorem MO{L:List Nat}{a:Nat}(h:cF L=true)(b:gn L=dJ L)(h4:∀x∈dJ L,x.2.2<=4)(c:∀x∈dJ L,1<=x.2.2){R r:Nat}(hR:R<2^r):ER (fW a L) (gn L) R r=gJ (dJ L) R r:=by
 have h:=dN h (R%16) (eM (dG _ (by decide)));have d:(dJ L).filter (cH (R%16))=(dJ L).filter (cH R):=pI λx hx=>wg (h4 x hx);rw[d]at h;rw[b];cases e:(dJ L).filter (cH R)with
 |nil=>
  rw[e]at h;have c:=b8 (b8 h).1;have f:∀y∈dJ L,y.2.1=0/\y.2.2=1:=λy g=>by have:=b8 (dN c.2 y g);exact⟨ml this.1,ml this.2⟩
  rw[Bs e f hR,Kv e f CZ]|cons x xs=>cases xs with|cons y i=>rw[e]at h;cases h|nil=>rw[vG e,MN e (c x (jI (e▸pd x:x∈(dJ L).filter (cH R))).1)]
noncomputable def OE:List Nat->List Nat->Bool|[],[]=>true|a::l,b::r=>Nat.beq a b&&OE l r|_,_=>false
theorem D6:∀{l r:List Nat},OE l r=true->l=r|[],[],_=>rfl|a::l,b::r,h=>by have:=b8 h;rw[ml this.1,D6 this.2]
noncomputable def OJ(L:List Nat):Bool:=decide ((L.length:Int)-(L.count 0:Nat)=0)||decide (xp (n8 L 15)=0)||(decide (0<=xp (n8 L 15))&&decide ((L.length:Int)-(L.count 0:Nat)=1)&&Nat.beq (L.count 1) 1)
noncomputable def cG(L:List Nat):Bool:=(Nat.ble (aF L) 4&&OJ L)&&((List.range 6).all (λj=>Nat.ble (xB (dY L) j) 1000)&&Nat.ble (oP (dY L) (aF L+1)) 6)&& (OE (bX L) ((cj L).map (·.2))&&((List.range (cj L).length).all (λi=>Nat.beq (Od L (aF L) i) (bJ L (mz L i).2))&&(cj L).all λp=>Nat.ble (bJ L p.2+1) (2^p.1)))
structure LF(L:List Nat):Prop where
 s:L.length<=6
 l4:∀x∈L,x<=4
 f:cF L=true
 g:cG L=true
section
variable{L:List Nat}
theorem qo{x:aM}(h:x∈dJ L):x.1<L.length/\x=(x.1,aH (bJ L x.1) (aw L x.1),aw L x.1)/\1<=aw L x.1/\(aw L x.1,x.1)∈cj L:=by(refine am (dm h) ?_;rintro p a b;rw[<-b]);have:=dS a;exact et this.1 rfl (by rw[<-this.2.1];exact this.2.2) (by rw[<-this.2.1];exact a)
theorem Al(h4:∀x∈L,x<=4)(s:Nat):aw L s<=4:=by unfold aw;cases e:L[s]? with|none=>exact cR _|some x=>exact h4 x (cy e)
theorem zg(p:Nat):∀l j,j<l->aH p l/2^j%2=p/2^(l-1-j)%2|l+1,0,_=>by refine(?_:(2*aH p l+p/2^l%2)/2^0%2=_);rw[t4,Nat.div_one,Nat.mul_add_mod,Nat.mod_mod];rfl|l+1,j+1,h=>by skip;rw[Nat.pow_succ',<-vE,sF (by decide),q9 (dG _ (by decide)),Nat.add_zero,zg p l j (Nat.lt_of_succ_lt_succ h),show l+1-1-(j+1)=l-1-j by lia]
theorem MB(p l:Nat):Oq p l=bk (aH p l) l:=f9 λj hj=>by rw[zg p l j (gi hj)]
theorem GR:((cj L).map (·.2)).Nodup:=by refine(cm.map _).nodup_iff.mpr ?_;skip;rw[bO];exact List.pairwise_map.mpr ((List.nodup_range.filter _).imp λh=>h)
theorem Bh:(dJ L).map (·.1)=(cj L).map (·.2):=by skip;rw[bO];rfl
theorem LF.parts(h:LF L):(aF L<=4/\OJ L=true)/\((∀j,j<=5->xB (dY L) j<=1000)/\oP (dY L) (aF L+1)<=6)/\bX L=(cj L).map (·.2)/\(∀i,i<(cj L).length->Od L (aF L) i=bJ L (mz L i).2)/\∀p∈cj L,bJ L p.2<2^p.1:=by have e:=b8 h.g;have f:=b8 e.1;have a:=b8 f.1;have b:=b8 f.2;have c:=b8 e.2;have d:=b8 c.2;exact(jN ⟨oE a.1,a.2⟩ ⟨λj hj=>oE (dN b.1 j (eM (sD hj))),oE b.2⟩ (D6 c.1) (λi hi=>ml (dN d.1 i (eM hi))) (λp g=>oE (dN d.2 p g)))
theorem LF.gl(h:LF L):GL L:=by
 have p:=h.parts;refine⟨h.s,p.1.1,?_,p.2.1.1,p.2.1.2⟩;have ok:=p.1.2;unfold OJ at ok;rcases vw ok with z|z
 ·rcases vw z with z|z;·exact .inl (bY z)
  ·exact .inr (.inl (bY z))
 ·have z:=b8 z;have y:=b8 z.1;exact .inr (.inr (bz (bY y.1) (bY y.2) (ml z.2)))
theorem LF.rows(h:LF L):gn L=dJ L:=by unfold gn dJ;rw[h.parts.2.2.1,bO];rfl
theorem LF.rd(h:LF L):Ox L (dJ L):=by
 have h4:∀x∈dJ L,x.2.2<=4:=λx hx=>by rw[(qo hx).2.1];exact Al h.l4 _
 have a:∀x∈dJ L,1<=x.2.2:=λx hx=>by have:=qo hx;rw[this.2.1];exact this.2.2.1
 refine⟨h.gl,λs hs=>?_,λR r hR=>Lm h.f h.parts.1.1 h4 hR,λb c c R r hR=>MO h.f h.rows h4 a hR⟩;rw[h.parts.2.2.1]at hs;(refine am (dm hs) ?_;rintro p d e;rw[<-e]);exact(dS d).1
theorem LF.pre(h:LF L){x:aM}(hx:x∈dJ L){R r:Nat}(a:x.2.2<=r)(b:R%2^x.2.2=x.2.1):gJ (dJ L) R r=.sym x.1 x.2.2:=by
 have h4:∀x∈dJ L,x.2.2<=4:=λx hx=>by rw[(qo hx).2.1];exact Al h.l4 _
 have k:=dN h.f (R%16) (eM (dG _ (by decide)));have c:(dJ L).filter (cH (R%16))=(dJ L).filter (cH R):=pI λx hx=>wg (h4 x hx);rw[c]at k;have d:x∈(dJ L).filter (cH R):=pG ⟨hx,eu.mpr b⟩;cases e:(dJ L).filter (cH R)with
 |nil=>rw[e]at d;cases d|cons y f=>cases f with|cons z g=>rw[e]at k;cases k|nil=>rw[e]at d;cases cO d;rw[vG e,aA (io a)]
theorem Lr(h:LF L){m:Nat}(a:(cj L).length=0\/m=aF L):∀i,i<=(cj L).length->G5 L m i=(((cj L).take i).map λp=>(p.2,aH (bJ L p.2) (aw L p.2),aw L p.2)).map cE:=by
 intro i;induction i with
 |zero=>intro _;exact rfl|succ i b=>
  intro hi;have e:(cj L)[i]?=some (mz L i):=by unfold mz;rw[fz hi];rfl
  have c:=dS (cy e);have d:m=aF L:=a.resolve_left λz=>by rw[z]at hi;exact absurd hi (Nat.not_succ_le_zero i)
  have f:=b (mT hi);have nd:=GR (L:=L);have g:(G5 L m i).lookup ((mz L i).2:Int)=none:=by
   rw[f];cases j:((((cj L).take i).map λp=>((p.2,aH (bJ L p.2) (aw L p.2),aw L p.2):aM)).map cE).lookup ((mz L i).2:Int)with
   |none=>rfl|some v=>have:=xT j;rw[bO,bO]at this;(refine am (dm this) ?_;intro p k l);have l:p.2=(mz L i).2:=nI l;have t:=sY nd (i:=i) (x:=(mz L i).2) (by rw[f_,e];rfl);exact absurd (by rw[<-uj];exact cY (an p k l)) t.2
  rw[Nu,qG g,f,mI,e,Option.toList_some,eR,eR];refine ak _ ?_;refine(?_:[(((mz L i).2:Int),V.str (Oq (Od L m i) (mz L i).1))]=[(((mz L i).2:Int),V.str (bk (aH (bJ L (mz L i).2) (aw L (mz L i).2)) (aw L (mz L i).2)))]);rw[MB,d,h.parts.2.2.2.1 i hi,c.2.1]
theorem LF.codes(h:LF L){m:Nat}(a:m∈L++[1])(b:∀x∈L++[1],x<=m):G5 L m (cj L).length=(dJ L).map cE:=by
 rewrite[Lr h ?_ _ (bF _),qe];·rfl
 ·cases e:cj L with
  |nil=>exact .inl rfl|cons p c=>
   refine .inr ?_;have d:=dS (C:=L) (r:=p) (e▸cS ..);have f:aw L p.2∈L:=cy (bx d.1);have g:1<=aF L:=aa (by rw[<-d.2.1];exact d.2.2) (dW L _ f);refine ze ?_ (Bu (λx hx=>b x (uP (.inl hx))) (cR _));rcases sA a with z|z;·exact dW L m z
   ·rw[cO z];exact g
end
noncomputable def js:Nat->Nat->List (List Nat)|0,r=>if r=0 then[[]]else[]|n+1,r=>(js n r).map (0::·)++[1,2,3,4].flatMap λx=>if 2^(4-x)<=r then(js n (r-2^(4-x))).map (x::·)else[]
noncomputable def kr(x:Nat):Nat:=if x=0 then 0 else 2^(4-x)
noncomputable def CA(L:List Nat):Nat:=(L.map kr).sum
theorem HT:∀{L:List Nat},(∀x∈L,x<=4)->L∈js L.length (CA L):=by
 intro L;induction L with
 |nil=>intro _;exact pd _|cons x L a=>
  intro h;have b:=a λy c=>h y (dn _ c);have hx:=h x (cS ..);refine(?_:x::L∈(js L.length (kr x+CA L)).map (0::·)++[1,2,3,4].flatMap λy=>if 2^(4-y)<=kr x+CA L then(js L.length (kr x+CA L-2^(4-y))).map (y::·)else[]);by_cases q:x=0
  ·subst q;refine uP (.inl (cY (an L ?_ rfl)));rw[show kr 0+CA L=CA L from aU _];exact b
  ·have e:kr x=2^(4-x):=aA q;refine uP (.inr (List.mem_flatMap.mpr (an x ?_ ?_)))
   ·have:∀x,x<=4->x≠0->x∈[1,2,3,4]:=by decide
    exact this x hx q
   ·rw[e,aE (gh ..),Nat.add_sub_cancel_left];exact cY (an L b rfl)
noncomputable def B3(L:List Nat):Bool:=cF L&&cG L
theorem g1:(js 1 16).all B3=true:=by decide+kernel
theorem g2:(js 2 16).all B3=true:=by decide+kernel
theorem g3:(js 3 16).all B3=true:=by decide+kernel
theorem g4:(js 4 16).all B3=true:=by decide+kernel
theorem g5:(js 5 16).all B3=true:=by decide+kernel
theorem z6:(List.range 7).all (λm=>B3 (List.replicate m 0)&&(List.range m).all λs=>B3 ((List.replicate m 0).set s 1))=true:=by decide+kernel
theorem PS:((js 5 16).map (0::·)).all B3=true:=by decide+kernel
theorem PY:((js 5 8).map (1::·)).all B3=true:=by decide+kernel
theorem Qn:((js 5 12).map (2::·)).all B3=true:=by decide+kernel
theorem PG:((js 5 14).map (3::·)).all B3=true:=by decide+kernel
theorem PQ:((js 5 15).map (4::·)).all B3=true:=by decide+kernel
theorem Ll{n:Nat}(a:1<=n)(b:n<=6){L:List Nat}(h:L∈js n 16):B3 L=true:=by
 rcases n with _|_|_|_|_|_|_|n;·exact absurd a (by decide)
 ·exact dN g1 L h
 ·exact dN g2 L h
 ·exact dN g3 L h
 ·exact dN g4 L h
 ·exact dN g5 L h
 ·have h:L∈(js 5 16).map (0::·)++[1,2,3,4].flatMap λy=>if 2^(4-y)<=16 then(js 5 (16-2^(4-y))).map (y::·)else[]:=h;rcases sA h with h|h;·exact dN PS L h
  ·(refine am (List.mem_flatMap.mp h) ?_;intro y c d);rcases bB c with rfl|c;·exact dN PY L d
   rcases bB c with rfl|c;·exact dN Qn L d
   rcases bB c with rfl|c;·exact dN PG L d
   cases cO c;exact dN PQ L d
 ·exact absurd b (by simp)
theorem No{L:List Nat}(a:L.length<=6)(h4:∀x∈L,x<=4)(h:(1<=L.length/\CA L=16)\/(∃m,L=List.replicate m 0)\/∃m s,s<m/\L=(List.replicate m 0).set s 1):LF L:=by
 have c:B3 L=true:=by
  rcases h with⟨b,h⟩|⟨m,h⟩|⟨m,s,hs,h⟩;·exact Ll b a (h▸HT h4)
  ·have d:m<7:=by rw[h,rO]at a;exact sD a
   have:=b8 (dN z6 m (eM d));rw[h];exact this.1
  ·have d:m<7:=by rw[h,xP,rO]at a;exact sD a
   have:=b8 (dN z6 m (eM d));rw[h];exact dN this.2 s (eM hs)
 have c:=b8 c;exact⟨a,h4,c.1,c.2⟩
noncomputable def JX(K:Nat):List Nat->Nat->Nat->Prop|[],s,t=>s=0/\t=0|c::u,s,t=>∃l s' a,1<=l/\l<=K/\JX K u s' a/\s=s'+2^(K-l)/\t=a+c*l
theorem JX.perm{K:Nat}{u v:List Nat}(h:u.Perm v):∀{s t},JX K u s t->JX K v s t:=by induction h with|nil=>exactλh=>h|cons c _ d=>exactλh=>h.imp λl h=>h.imp λs' h=>h.imp λe h=>et h.1 h.2.1 (d h.2.2.1) h.2.2.2|swap a b u=>rintro s t ⟨l,s1,f,g,i,⟨l',s2,t2,j,h4,k,m,n⟩,o,p⟩;exact jY l' _ _ j h4 (jY l s2 t2 g i k rfl rfl) (by rw[o,m,jL]) (by rw[p,n,jL])|trans _ _ q r=>exactλh=>r (q h)
structure DI(K:Nat)(u:List Nat)(B:NN):Prop where
 snd:∀s t,B.lookup s=some t->s<=2^K/\JX K u s t
 cpl:∀s t,JX K u s t->s<=2^K->∃a,B.lookup s=some a/\a<=t
theorem rQ{room s t x:Nat}{L:NN}:(zB room s t L).lookup x=if(s<=room/\∀a∈L.lookup s,t<a)/\x=s then some t else L.lookup x:=by
 unfold zB;by_cases h:s<=room/\∀a∈L.lookup s,t<a
 ·rw[aE h,my];by_cases q:x=s;·rw[aE (kX q),aE ⟨h,q⟩]
  ·rw[aA λz=>q (eq_of_beq z),aA λz=>q z.2]
 ·rw[aA h,aA λz=>h z.1]
theorem xw{room s t x y:Nat}{L:NN}(h:L.lookup x=some y):∃y',(zB room s t L).lookup x=some y'/\y'<=y:=by
 rw[rQ];by_cases q:(s<=room/\∀a∈L.lookup s,t<a)/\x=s
 ·rw[aE q];exact an t rfl (bT (q.1.2 y (by rw[<-q.2,h];rfl)))
 ·rw[aA q];exact an y h (bF y)
theorem HX{room s t:Nat}{L:NN}(h:s<=room):∃y',(zB room s t L).lookup s=some y'/\y'<=t:=by
 rw[rQ];by_cases q:∀a∈L.lookup s,t<a;·rw[aE ⟨⟨h,q⟩,rfl⟩];exact an t rfl (bF t)
 ·rw[aA λz=>q z.1.2];cases e:L.lookup s with|none=>exact absurd (λa b=>by rw[e]at b;cases b) q|some y=>refine an y rfl (fS λz=>q λa b=>?_);rw[e]at b;cases b;exact z
theorem JG{room s t x y:Nat}{L:NN}(h:(zB room s t L).lookup x=some y):L.lookup x=some y\/(x=s/\y=t/\s<=room):=by
 rw[rQ]at h;by_cases q:(s<=room/\∀a∈L.lookup s,t<a)/\x=s;·rw[aE q]at h;cases h;exact .inr (bz q.2 rfl q.1.1)
 ·rw[aA q]at h;exact .inl h
section
variable{K c s t:Nat}{L:NN}
theorem D4{x y:Nat}(h:L.lookup x=some y):∀i,∃y',(yr K c s t i L).lookup x=some y'/\y'<=y:=by intro i;induction i with|zero=>exact an y h (bF y)|succ i a=>exact(a).elim λb d=>(xw d.1).elim λe f=>an e f.1 (aa f.2 d.2)
theorem Iy{l:Nat}(hr:s+2^(K-l)<=2^K)(a:1<=l):∀i,l<=i->∃y',(yr K c s t i L).lookup (s+2^(K-l))=some y'/\y'<=t+c*l:=by
 intro i;induction i with|zero=>intro h;exact absurd (aa a h) (by decide)|succ i b=>
  intro h;by_cases q:l=i+1
  ·have e:1+i=l:=by rw[q,dQ]
   refine(?_:∃y',(zB (2^K) (s+2^(K-(1+i))) (t+c*(1+i)) (yr K c s t i L)).lookup (s+2^(K-l))=some y'/\y'<=t+c*l);rw[e];exact HX hr
  ·exact(b (qh (t8 h q))).elim λd a=>(xw a.1).elim λf g=>an f g.1 (aa g.2 a.2)
theorem IF{x y:Nat}:∀i,(yr K c s t i L).lookup x=some y->L.lookup x=some y\/∃l,1<=l/\l<=i/\x=s+2^(K-l)/\y=t+c*l/\x<=2^K:=by
 intro i;induction i with|zero=>intro h;exact .inl h|succ i d=>
  intro h;rcases JG h with h|⟨f,g,j⟩
  ·rcases d h with h|⟨l,a,b,e⟩;·exact .inl h
   ·exact .inr (cW l a (tY b) e)
  ·exact .inr (AA (1+i) (gh ..) (by rw[dQ];exact bF _) f g (f▸j))
end
section
variable{K c:Nat}{B:NN}
theorem yc{x y:Nat}:∀(a:List Nat){L:NN},L.lookup x=some y->∃y',(a.foldl (xR K c B) L).lookup x=some y'/\y'<=y|[],_,h=>an y h (bF y)|k::a,L,h=>(D4 (K:=K) (c:=c) (s:=k) (t:=(B.lookup k).getD 0) h K).elim λb d=>(yc a d.1).elim λe f=>an e f.1 (aa f.2 d.2)
theorem Bv{s t l:Nat}(hs:B.lookup s=some t)(hr:s+2^(K-l)<=2^K)(a:1<=l)(b:l<=K):∀(d:List Nat){L:NN},s∈d->∃y',(d.foldl (xR K c B) L).lookup (s+2^(K-l))=some y'/\y'<=t+c*l
 |k::d,L,h=>by
  by_cases q:s=k
  ·subst q;have:=Iy (K:=K) (c:=c) (s:=s) (t:=(B.lookup s).getD 0) (L:=L) hr a K b;rw[hs]at this;exact this.elim λe a=>(yc d (L:=xR K c B L s) (by unfold xR;rw[hs];exact a.1)).elim λf g=>an f g.1 (aa g.2 a.2)
  ·exact Bv hs hr a b d ((bB h).resolve_left q)
theorem Jb{x y:Nat}:∀(a:List Nat){L:NN},(a.foldl (xR K c B) L).lookup x=some y->L.lookup x=some y\/∃s∈a,∃l,1<=l/\l<=K/\x=s+2^(K-l)/\y=(B.lookup s).getD 0+c*l/\x<=2^K:=by
 intro a;induction a with|nil=>intro _ h;exact .inl h|cons k a b=>
  intro L h;rcases b h with h|⟨s,hs,e⟩
  ·rcases IF K h with h|⟨l,e⟩;·exact .inl h
   ·exact .inr (O4 k (cS ..) l e)
  ·exact .inr (an s (dn _ hs) e)
end
theorem yz{s:Nat}{B:NN}(h:s∈B.map (·.1)):∃t,B.lookup s=some t:=by cases e:B.lookup s with|none=>exact absurd h (kD e)|some t=>exact⟨t,rfl⟩
theorem yQ{s t:Nat}{B:NN}(h:B.lookup s=some t):s∈B.map (·.1):=by induction B with|nil=>cases h|cons p r a=>rw[kN]at h;cases z:s==p.1 with|true=>exact List.mem_cons.mpr (.inl (eq_of_beq z))|false=>rw[z]at h;exact dn _ (a h)
theorem DI.step{K c:Nat}{u:List Nat}{B:NN}(h:DI K u B):DI K (c::u) (Nf K B c):=by
 refine⟨λx y hx=>?_,λx y hx hr=>?_⟩
 ·rcases Jb _ hx with z|⟨s,hs,l,a,b,d,h4,e⟩;·cases z
  ·(refine dE (yz hs) ?_;intro t f);rw[f]at h4;exact Dm e l s t a b ((h.snd s t f).2) d h4
 ·refine nK hx λl s t a b d h4 e=>?_;(refine am (h.cpl s t d (aa (by rw[h4];exact gh ..) hr)) ?_;intro g i j);have:=Bv (c:=c) i (h4▸hr) a b (B.map (·.1)) (L:=[]) (yQ i);rw[<-h4]at this;exact this.imp λy' z=>⟨z.1,aa z.2 (by rw[e];exact rF j _)⟩
theorem DI.fold{K:Nat}:∀(u:List Nat){a:List Nat}{B:NN},DI K a B->DI K (u.reverse++a) (u.foldl (Nf K) B):=by intro u;induction u with|nil=>intro _ _ h;exact h|cons c u b=>intro a B h;rw[wR,pf];exact b h.step
theorem FI(K:Nat)(u:List Nat):DI K u (Cn K u):=by
 have a:DI K [] [(0,0)]:=⟨λs t h=>(by
  by_cases q:s=0;·subst q;cases h;exact bz (cR _) rfl rfl
  ·rw[kN,show(s==0)=false from eD q]at h;cases h),λs t h b=>an 0 (by rw[h.1];rfl) (cR _)⟩;have h:=DI.fold u a;rw[jQ]at h;exact⟨λs t e=>⟨(h.snd s t e).1,(h.snd s t e).2.perm (List.reverse_perm u)⟩,λs t e=>h.cpl s t (e.perm (List.reverse_perm u).symm)⟩
theorem wm{K t:Nat}{u:List Nat}:t∈xh K u->∃s,s<=2^K/\JX K u s t:=λh=>by(refine am (dm h) ?_;intro s hs e);(refine dE (yz hs) ?_;intro a b);rw[b]at e;cases e;have:=(FI K u).snd s _ b;exact an s this.1 this.2
theorem At{K s t:Nat}{u:List Nat}(h:JX K u s t)(hs:s<=2^K):∃x∈xh K u,x<=t:=by(refine am ((FI K u).cpl s t h hs) ?_;intro a b c);exact an a (cY (an s (yQ b) (by rw[b];rfl))) c
theorem zV{K t a:Nat}{u v:List Nat}(p:u.Perm v)(b:t∈xh K u)(c:∀x∈xh K u,t<=x)(d:a∈xh K v)(h4:∀x∈xh K v,a<=x):t=a:=by
 refine ze ?_ ?_;·refine am (wm d) λs hs e=>?_;refine am (At (e.perm p.symm) hs) λx hx f=>?_;exact aa (c x hx) f
 ·refine am (wm b) λs hs e=>?_;refine am (At (e.perm p) hs) λx hx f=>?_;exact aa (h4 x hx) f
theorem Lf{K t:Nat}{u v:List Nat}(p:u.Perm v)(h:t∈xh K v):Cn K u≠[]:=by refine am (wm h) λs hs a=>?_;refine am (At (a.perm p.symm) hs) λx hx b=>?_;intro z;unfold xh at hx;rw[z]at hx;cases hx
noncomputable def yy:Nat->Nat->Nat->List (List Nat)|0,_,_=>[[]]|n+1,lo,b=>(List.range (b+1)).flatMap λa=>if lo<=a then(yy n a (b-a)).map (a::·)else[]
noncomputable def wn:List Nat->List Nat->Nat|a::w,d::D=>a*d+wn w D|_,_=>0
noncomputable def CC(w:List Nat)(K:Nat):Bool:=((E2 w K).all (λd=>Nat.ble 1 d&&Nat.ble d K)&&Nat.beq (CA (E2 w K)) 16)&&((xh K w).any (λx=>Nat.beq x (wn w (E2 w K)))&&(xh K w).all λx=>Nat.ble (wn w (E2 w K)) x)
theorem Qm:(yy 2 1 12).all (λw=>[1,2,3,4].all (CC w))=true:=by decide+kernel
theorem PZ:(yy 3 1 12).all (λw=>[2,3,4].all (CC w))=true:=by decide+kernel
theorem Pz:(yy 4 1 12).all (λw=>[2,3,4].all (CC w))=true:=by decide+kernel
theorem Qc:(yy 5 1 12).all (λw=>[3,4].all (CC w))=true:=by decide+kernel
theorem P_:(yy 6 1 12).all (λw=>[3,4].all (CC w))=true:=by decide+kernel
theorem GD:∀{w:List Nat}{lo b:Nat},(∀x∈w,lo<=x)->w.Pairwise (·<=·)->w.sum<=b->w∈yy w.length lo b:=by intro w;induction w with|nil=>intro _ _ _ _ _;exact pd _|cons a w c=>intro lo b h p hs;rw[i8]at hs;have d:=List.pairwise_cons.mp p;refine List.mem_flatMap.mpr (an a (eM (sD (aa (gh ..) hs))) ?_);rw[aE (h a (cS ..))];exact cY (an w (c d.1 d.2 (Nat.le_sub_of_add_le (by rw[dQ];exact hs))) rfl)
theorem wK{w:List Nat}{K:Nat}(a:2<=w.length)(r_:1<=K)(Ho:K<=4)(hr:w.length<=2^K)(b:w.length<=6)(h:w∈yy w.length 1 12):CC w K=true:=by
 have c:K∈[1,2,3,4]:=by
  have:∀K,K<=4->1<=K->K∈[1,2,3,4]:=by decide
  exact this K Ho r_
 have d:3<=w.length->K∈[2,3,4]:=λz=>(bB c).resolve_left λe=>absurd (aa z (e▸hr)) (by decide);have f:5<=w.length->K∈[3,4]:=λz=>(bB (d (aa (by decide) z))).resolve_left λe=>absurd (aa z (e▸hr)) (by decide);generalize g:w.length=n at*;rcases n with _|_|_|_|_|_|_|n;·exact absurd a (by decide)
 ·exact absurd a (by decide)
 ·exact dN (dN Qm w h) K c
 ·exact dN (dN PZ w h) K (d (bF _))
 ·exact dN (dN Pz w h) K (d (by decide))
 ·exact dN (dN Qc w h) K (f (by decide))
 ·exact dN (dN P_ w h) K (f (by decide))
 ·exact absurd b (by simp)
theorem EV(C:List Nat):(List.range C.length).map (aw C)=C:=ut λi=>by
 by_cases h:i<C.length;·rw[rg h,bx h]
 ·rw[iJ (fS h),iJ (by rw[aP];rw[bf];exact fS h)]
theorem G8(C:List Nat):(AL C C.length).map (·.1)=pos C:=by
 unfold AL pos;conv=>rhs;rw[<-EV C]
 rw[bO,List.filter_map];rfl
theorem ng(C:List Nat):((cj C).map (·.1)).Perm (pos C):=G8 C▸cm.map _
theorem wh(C:List Nat):(cj C).length=(pos C).length:=by rw[<-(ng C).length_eq,aP]
theorem CP(C:List Nat):((cj C).map (·.1)).Pairwise (·<=·):=by
 refine List.pairwise_map.mpr ((iy (le:=Op) (λa b=>?_) (λa b c d e=>?_)).imp λ{a b}h=>?_);·rw[<-sE,<-sE];exact mc _ _
 ·rw[<-sE]at*;exact oh _ _ _ d e
 ·rcases vw h with z|z;·exact bT (bY z)
  ·exact jP (eq_of_beq (b8 z).1)
theorem MF(C:List Nat):∀x∈(cj C).map (·.1),1<=x:=λx hx=>by refine am (dm hx) ?_;rintro p a rfl;exact(dS a).2.2
theorem JD:∀C:List Nat,(pos C).sum=C.sum:=by
 intro C;induction C with|nil=>exact rfl|cons x C a=>
  unfold pos;by_cases h:0<x
  ·rw[kO (by rw[bC h]),i8,i8];exact ak _ (a)
  ·rw[gj (by rw[mC];exact h),i8,xU h,aU];exact a
theorem Dc(k i:Nat):∀its:List aM,(its.filter λit=>kB k it&&decide (it.2.1<i+1)).length=(its.filter λit=>kB k it&&decide (it.2.1<i)).length+(its.filter λit=>kB k it&&decide (it.2.1=i)).length:=by
 intro its;induction its with
 |nil=>exact rfl|cons it its b=>
  have c:=b;by_cases a:kB k it=true
  ·by_cases d:it.2.1<i;·rw[kO (by rw[a];rw[bC (qg d)];rfl),kO (by rw[a];rw[bC d];rfl),gj (by rw[a];rw[b5 (g_ d)];exact bI),mo,mo,c,jL]
   ·by_cases e:it.2.1=i;·rw[kO (by rw[a];rw[bC (e▸iY _)];rfl),gj (by rw[a];rw[b5 d];exact bI),kO (by rw[a];rw[bC e];rfl),mo,c,mo,dM]
    ·rw[gj (by rw[a];rw[b5 λz=>(AR (qh z)).elim d e];exact bI),gj (by rw[a];rw[b5 d];exact bI),gj (by rw[a];rw[b5 e];exact bI),c]
  ·have a:kB k it=false:=Bool.eq_false_iff.mpr a;rw[gj (by rw[a];exact bI),gj (by rw[a];exact bI),gj (by rw[a];exact bI),c]
theorem Lj(its:List aM)(k:Nat):∀m,(cC its k m).sum=(its.filter λit=>kB k it&&decide (it.2.1<m)).length:=by
 intro m;induction m with
 |zero=>rw[show(its.filter λit=>kB k it&&decide (it.2.1<0))=[]from uu λit a=>by rw[b5 (pF _)];rw[xn];exact bI];rfl
 |succ m b=>
  have e:cC its k (m+1)=cC its k m++[(its.filter λit=>decide (kS it.1=kS k)&&decide (it.2.1=m)).length]:=by unfold cC;rw[pH,eR];rfl
  rw[e,uA,b,Dc];rfl
theorem JW{its:List aM}{k m:Nat}(h:its.length<=12):((cj (cC its k m)).map (·.1)).sum<=12:=by rw[(ng _).sum_nat,JD,Lj];exact aa (qk ..) h
theorem Bn{f a:Nat->Nat}{p:Nat}:∀m,p<m->f p=0->(∀s,s<m->s≠p->a s=f s)->((List.range m).map a).sum=((List.range m).map f).sum+a p
 |m+1,b,c,h=>by
  rw[pH,eR,eR,uA,uA];refine(?_:_+(a m+0)=_+(f m+0)+a p);by_cases q:p=m
  ·subst q;rw[show(List.range p).map a=(List.range p).map f from f9 λs hs=>h s (qg (gi hs)) (g_ (gi hs)),c];rfl
  ·rw[Bn m (t8 (qh b) q) c λs hs n=>h s (qg hs) n,h m (iY m) (eE q),jL]
section
variable{R:List (Nat×Nat)}{D:List Nat}{m:Nat}
noncomputable def BK(R:List (Nat×Nat))(j:Nat):Nat:=((R[j]?).getD (0,0)).2
theorem vN{i s:Nat}(h:BK R i<m):aw (zJ R D m (i+1)) s=if s=BK R i then aw D i else aw (zJ R D m i) s:=by
 refine(?_:aw ((zJ R D m i).set (BK R i) (aw D i)) s=_);by_cases q:s=BK R i
 ·rw[aE q,q];unfold aw;rw[List.getElem?_set_self (by rw[qv];exact h)];rfl
 ·rw[aA q];unfold aw;rw[List.getElem?_set_ne (eE q)]
theorem Ap(hr:∀r∈R,r.2<m){j:Nat}(hj:j<R.length):BK R j<m:=by unfold BK;rw[fz hj];exact hr _ (List.getElem_mem hj)
theorem Eu(nd:(R.map (·.2)).Nodup){i j:Nat}(hi:i<R.length)(h:j<i):BK R j≠BK R i:=by
 have hj:=jk h hi;have e:∀k (a:k<R.length),BK R k=(R.map (·.2))[k]'(by rw[aP];exact a):=λk a=>by unfold BK;rw[fz a,List.getElem_map];rfl
 rw[e j hj,e i hi];exactλz=>absurd ((List.getElem_inj nd).mp z) (g_ h)
theorem s9(hr:∀r∈R,r.2<m):∀i,i<=R.length->∀s,(∀j,j<i->BK R j≠s)->aw (zJ R D m i) s=0:=by intro i;induction i with|zero=>intro _ s _;refine(?_:aw (List.replicate m 0) s=0);unfold aw;rw[List.getElem?_replicate];split<;>rfl|succ i a=>intro hi s h;rw[vN (Ap hr hi),aA λz=>h i (iY i) z.symm];exact a (mT hi) s λj hj=>h j (qg hj)
theorem BL(hr:∀r∈R,r.2<m)(nd:(R.map (·.2)).Nodup):∀i,i<=R.length->∀j,j<i->aw (zJ R D m i) (BK R j)=aw D j
 |i+1,hi,j,h=>by
  rw[vN (Ap hr hi)];by_cases q:j=i;·rw[q,aE rfl]
  ·have hj:=t8 (qh h) q;rw[aA (Eu nd hi hj)];exact BL hr nd i (mT hi) j hj
theorem Bg{g:Nat->Nat->Nat}(a:∀s,g s 0=0)(hr:∀r∈R,r.2<m)(nd:(R.map (·.2)).Nodup):∀i,i<=R.length->((List.range m).map λs=>g s (aw (zJ R D m i) s)).sum=((List.range i).map λj=>g (BK R j) (aw D j)).sum:=by intro i;induction i with|zero=>intro _;rw[show((List.range m).map λs=>g s (aw (zJ R D m 0) s))=(List.range m).map λb=>0 from f9 λs b=>by rw[s9 hr 0 (cR _) s (λj hj=>absurd hj (pF j))];rw[a],List.map_const',List.sum_replicate_nat,ug];rfl|succ i c=>intro hi;have d:=Ap hr hi;have z:=s9 (D:=D) hr i (mT hi) (BK R i) λj hj=>Eu nd hi hj;rw[Bn (f:=λs=>g s (aw (zJ R D m i) s)) m d (by rw[z];rw[a]) (λs b n=>by rw[vN d];rw[aA n]),c (mT hi),pH,eR,uA,vN d,aE rfl];rfl
theorem Mr{b:Nat}(h:∀x∈D,x<=b):∀i,∀x∈zJ R D m i,x<=b:=by
 intro i;induction i with|zero=>intro x hx;rw[(BJ hx).2];exact cR _|succ i a=>
  intro x hx;rcases List.mem_or_eq_of_mem_set hx with z|z;·exact a x z
  ·rw[z];unfold aw;cases e:D[i]? with|none=>exact cR _|some y=>exact h y (cy e)
end
theorem GE(L:List Nat):CA L=((List.range L.length).map λs=>kr (aw L s)).sum:=by
 unfold CA;conv=>lhs;rw[<-EV L,bO]
 rfl
theorem Ni(C L:List Nat):∀i,Aj C L i=((List.range i).map λs=>aw C s*aw L s).sum:=by
 intro i;induction i with
 |zero=>exact rfl|succ i a=>
  rw[Bl,a,pH,eR,uA];refine ak _ ?_;by_cases h:0<aw C i;·rw[aE h];rfl
  ·rw[aA h];refine(?_:0=aw C i*aw L i+0);rw[xU h,Nat.zero_mul]
theorem EA:∀{w D:List Nat},w.length=D.length->wn w D=((List.range D.length).map λj=>aw w j*aw D j).sum|[],[],_=>rfl|a::w,d::D,h=>by rw[mo,List.range_succ_eq_map,gT,i8,bO];exact ak (a*d+·) (EA (Nat.succ.inj h))
theorem F8:∀w:List Nat,wn w (List.replicate w.length 1)=w.sum:=by intro w;induction w with|nil=>exact rfl|cons a w b=>refine(?_:a*1+wn w (List.replicate w.length 1)=_);rw[b,ph,i8]
structure DF(C:List Nat)(K:Nat):Prop where
 len:(tH C K).length=(cj C).length
 le:∀d∈tH C K,1<=d/\d<=4
 kr:2<=(cj C).length->CA (tH C K)=16
 min:2<=(cj C).length->wn ((cj C).map (·.1)) (tH C K)∈xh K ((cj C).map (·.1))/\∀x∈xh K ((cj C).map (·.1)),wn ((cj C).map (·.1)) (tH C K)<=x
theorem HI(w:List Nat)(k:Nat):(E2 w k).length=w.length:=by unfold E2;rw[aP,bf]
theorem dF{C:List Nat}{K:Nat}(f:C.length<=6)(r_:1<=K)(Ho:K<=4)(hr:(pos C).length<=2^K)(hs:((cj C).map (·.1)).sum<=12):DF C K:=by
 by_cases h:(cj C).length<2;·have e:tH C K=List.replicate (cj C).length 1:=aE h;exact⟨by rw[e,rO],λd hd=>by rw[e]at hd;rw[(BJ hd).2];decide,λz=>absurd h (io z),λz=>absurd h (io z)⟩
 ·have g:=fS h;have e:tH C K=E2 ((cj C).map (·.1)) K:=aA h;have i:((cj C).map (·.1)).length=(cj C).length:=aP _;have j:(cj C).length<=6:=by rw[wh];exact aa (vn C) f
  have c:=wK (w:=(cj C).map (·.1)) (K:=K) (by rw[i];exact g) r_ Ho (by rw[i,wh];exact hr) (by rw[i];exact j) (GD (MF C) (CP C) hs);have c:=b8 c;have a:=b8 c.1;have b:=b8 c.2;refine⟨by rw[e,HI,i],λd hd=>?_,λk=>by rw[e];exact ml a.2,λk=>?_⟩
  ·rw[e]at hd;have:=b8 (dN a.1 d hd);exact⟨oE this.1,aa (oE this.2) Ho⟩
  ·rw[e];(refine am (List.any_eq_true.mp b.1) ?_;intro x hx l);rw[ml l]at hx;exact⟨hx,λy m=>oE (dN b.2 y m)⟩
theorem kF{C:List Nat}{K:Nat}(f:C.length<=6)(k:∀i,aw C i<=1000)(r_:1<=K)(Ho:K<=4)(hr:(pos C).length<=2^K)(hs:((cj C).map (·.1)).sum<=12):KF C K:=by
 have d:=dF f r_ Ho hr hs;have l:∀r∈cj C,r.2<C.length:=λr h=>(dS h).1;have nd:=GR (L:=C);have n:eU C K=zJ (cj C) (tH C K) C.length (cj C).length:=by unfold eU;rw[d.len]
 have ll:=vj C K;have o:=bF (cj C).length;have h4:∀x∈eU C K,x<=4:=by rw[n];exact Mr (λx hx=>(d.le x hx).2) _
 have p:∀j,j<(cj C).length->(cj C)[j]?=some (mz C j):=λj hj=>by unfold mz;rw[fz hj];rfl
 have q:∀j,j<(cj C).length->aw (eU C K) (mz C j).2=aw (tH C K) j:=λj hj=>by rw[n];exact BL l nd _ o j hj
 have u:∀j,j<(cj C).length->1<=aw (tH C K) j:=λj hj=>(d.le _ (cy (bx (by rw[d.len];exact hj)))).1;have v:∀s,aw (eU C K) s≠0->0<aw C s:=λs h=>Decidable.byContradiction λz=>h (by rw[n];refine s9 l _ o s λj hj e=>z ?_;have e:(mz C j).2=s:=e;have:=dS (cy (p j hj));rw[<-e,<-this.2.1];exact this.2.2);have w:∀s,0<aw C s->aw (eU C K) s≠0:=λs h=>by(refine dE (List.mem_iff_getElem?.mp (zI (Nat.pos_iff_ne_zero.mp h))) ?_;intro j hj);have y:=(jB hj).1;have e:mz C j=(aw C s,s):=dH ((p j y).symm.trans hj);have:=q j y;rw[e]at this;rw[show aw (eU C K) s=aw (tH C K) j from this];exact Nat.pos_iff_ne_zero.mp (u j y)
 have A:CA (eU C K)=CA (tH C K):=by rw[GE,GE,ll,d.len,n];exact Bg (g:=λB x=>kr x) (λB=>rfl) l nd _ o
 have D:Aj C (eU C K) C.length=wn ((cj C).map (·.1)) (tH C K):=by rw[Ni,EA (by rw[aP];rw[d.len]),d.len,n,Bg (g:=λs x=>aw C s*x) (λB=>ug _) l nd _ o];refine ak List.sum (f9 λj hj=>ak (·*aw (tH C K) j) ?_);have hj:=gi hj;refine(?_:aw C (mz C j).2=aw ((cj C).map (·.1)) j);rw[<-(dS (cy (p j hj))).2.1];exact(o9 (by rw[f_,p j hj];rfl)).symm
 have E:LF (eU C K):=by
  refine No (by rw[ll];exact f) h4 ?_;by_cases F:2<=(cj C).length;·refine .inl ⟨?_,by rw[A];exact d.kr F⟩;rw[ll];exact aa (by decide) (aa F (by rw[wh];exact vn C))
  ·by_cases G:(cj C).length=1
   ·refine .inr (.inr (aY C.length ((mz C 0).2) (l _ (cy (p 0 (by rw[G];decide)))) ?_));have e:tH C K=[1]:=by unfold tH;rw[G];rfl
    rw[n,G,e];rfl
   ·have H:(cj C).length=0:=by lia
    exact .inr (.inl ⟨C.length,by rw[n,H];rfl⟩)
 have pl:=wh C;refine⟨f,k,r_,Ho,by rw[pl];exact hr,h4,λh=>Lf (ng C).symm (d.min (by rw[pl];exact h)).1,λt I t2=>?_,λi B h=>⟨?_,w i h⟩,E.rd,λm G F=>E.codes G F,?_,?_,λx hx=>?_,λs hs=>?_,λx hx R r G F=>E.pre hx G F⟩
 ·rw[D];by_cases F:2<=(cj C).length
  ·have a:=t2 (by rw[<-pl];exact F);have b:=d.min F;exact zV (ng C).symm a.1 a.2 b.1 b.2
  ·have F:=mi F;rw[I (by rw[<-pl];exact F),<-(ng C).sum_nat,show tH C K=List.replicate (cj C).length 1 from aE F,<-F8,aP]
 ·exact mi λz=>w i h (by unfold aw;rw[iJ z];rfl)
 ·refine(iC (λa b=>?_) (λa b c G F=>?_) (λa b G F=>?_) ?_ ?_).symm;·exact(Int.le_total a b).imp bC bC
  ·exact bC (jZ (bY G) (bY F))
  ·exact Int.le_antisymm (bY G) (bY F)
  ·rewrite[bO,show((λe:Int×V=>e.1)∘cE)=(λ(i:Nat)=>(i:Int))∘(λx:aM=>x.1)from rfl,<-bO];rw[Bh];refine List.Perm.map _ ?_;refine List.Perm.symm ((cm.map _).trans (.of_eq ?_));unfold AL;rw[bO,ll];refine(?_:((List.range C.length).filter λj=>decide (0<aw (eU C K) j)).map (λj=>j)=_);rw[List.map_id'];exact pI λs B=>uX ⟨λz=>v s (Nat.pos_iff_ne_zero.mp z),λz=>A9 (w s z)⟩
  ·exact List.pairwise_map.mpr ((List.pairwise_lt_range.filter _).imp λh=>bC (gL (bT h)))
 ·rw[Bh];exact GR
 ·have:=qo hx;rw[this.2.1];exact⟨eP _ _,Al h4 _⟩
 ·exact E.parts.2.2.2.2 _ (zI hs)
theorem GS{n:Nat}{H:Hp}{Q:QV}{a:Nat}{cells:List Int}(b:H a=some (.ro (cells.map V.int)))(c:cells.length<=1000)(q:∀Z,Q (.bool true) Z):sy aq (aj aq aI (n+7)) (hZ aq aI (n+7)) B8.body (λd Z=>Q .none Z) (λd d=>False) Q (fr [some (.ref a)]) H:=by
 refine NW b c (λwide its f M=>?_) q;have g:∀k m i,aw (cC its k m) i<=1000:=λk m i=>by
  unfold aw;cases e:(cC its k m)[i]? with
  |none=>exact cR _|some x=>exact aa (NI M.l2 x (cy e)) (by decide)
 exact bz (λK h h4 hr=>kF (by rw[lX];exact M.s2) (g 0 f) h h4 hr (JW M.l2)) (λK h h4 hr=>kF (by rw[lX];decide) (g 1 3) h h4 hr (JW M.l2)) (λj l k0 k1=>OV M k0 k1)
open PySem PySem.W PyProof.Rows PySem.Calls
noncomputable def Jd:List Addr:=[153,194,220,255,413,483]
noncomputable def zw(c:Nat):Addr:=Jd.getD c 483
noncomputable def yd(c:Nat):Addr:=if c=0 then 45 else 57
noncomputable def Qg:List Addr:=[78,85,93,100,107,114,121,128,143,150,172,179,186,210,217,238,245,252,266,273,280,287,294,299,304,311,318,325,332,347,354,361,368,375,382,410,431,438,452,473,480,494,501,508,513,518,523,528,533,538,545,552,559,564,569]
noncomputable def qr(f:Nat):Addr:=Qg.getD f 569
noncomputable def iq(i:Nat):Str:=(fE[i]?).getD ⟨(List.replicate i 63).toArray⟩
noncomputable def tu:Nm where fn f:=if(Nat.ble 8 f&&Nat.ble f 17)||(Nat.ble 29 f&&Nat.ble f 40)then none else v5[f]?;cls c:=mM[c]?;exc c:=mu[c]?;meth c:=df[c]?;attr:=iq;nA:=15
noncomputable def WW(M:Program)(w:World)(s:Shared)(K:Frag):Wd where prog:=M;w:=w;B:=s.heap;K:=K;s0:=s;cls:=zw;exc:=yd;fn:=qr;attr:=iq
theorem yp(c:Nat):zw c∈Jd:=by unfold zw;rw[A4];cases e:Jd[c]? with|none=>exact cy (i:=5) rfl|some a=>exact cy e
noncomputable def Gj(K:Frag):Bool:=Jd.all λa=>((plainGet K a ""&&hasDictIn K a)&&(findIn K (.ref a) "__setattr__"==some (some (.builtin "object.__setattr__"))&&plainOver K a))&&(makesIn K a&&fE.all λx=>findIn K (.ref a) x==some none&&takerIn K a x==some none)
theorem Cv{i j:Nat}(h:iq i=iq j):i=j:=by
 have lt:∀i,i<15\/iq i=⟨(List.replicate i 63).toArray⟩:=λi=>by
  by_cases q:i<15;·exact .inl q
  ·exact .inr (by unfold iq;rw[iJ (show fE.length<=i from fS q)];rfl)
 have d:∀i,i<15->(iq i).cps.toList.all (λc=>c==63)=false:=by decide+kernel
 have e:∀i,(⟨(List.replicate i 63).toArray⟩:Str).cps.toList.all (λc=>c==63)=true:=λi=>by refine(?_:(List.replicate i 63).all (λc=>c==63)=true);rw[uW];exactλx hx=>by rw[(BJ hx).2];rfl
 rcases lt i with a|a
 ·rcases lt j with b|b
  ·have:∀i,i<15->∀j,j<15->iq i=iq j->i=j:=by decide+kernel
   exact this i a j b h
  ·have:=d i a;rw[h,b,e]at this;cases this
 ·rcases lt j with b|b;·have:=d j b;rw[<-h,a,e]at this;cases this
  ·rw[a,b]at h;have h:=ak (λs:Str=>s.cps.toList.length) h;simpa using h
section
variable{M:Program}{w:World}{s:Shared}{K:Frag}
theorem ON(X:K.In s.heap)(b:Gj K=true):NJ (WW M w s K) 15:=by have c:=λa d=>dN b a d;have e:=λf=>b8 (c _ (yp f));have g:=λf=>b8 (e f).1;refine⟨X,λi j h=>Cv h,λc=>(b8 (g c).1).1,λc=>(b8 (g c).1).2,λc=>eq_of_beq (b8 (g c).2).1,λc=>(b8 (g c).2).2,λc i hi=>?_⟩;have h:=dN (b8 (e c).2).2 (iq i) (by unfold iq;rw[fz (show i<fE.length from hi)];exact List.getElem_mem _);have h:=b8 h;exact⟨eq_of_beq h.1,eq_of_beq h.2⟩
noncomputable def OY(K:Frag):Bool:= ((List.range 55).all λf=>keepIn K (.ref (qr f)))&&(((List.range 7).all λc=>(List.range 14).all λm=>match aq.meth c m with|none=>true|some f=>(match df[m]? with|none=>true|some x=>findIn K (.ref (zw c)) x==some (some (.ref (qr f)))&&(isFn K (.ref (qr f))&&keepIn K (.ref (qr f)))))&& (((List.range 6).all λc=>keepIn K (.ref (zw c)))&&(List.range 6).all λc=>match aq.init c with|none=>true|some f=>findIn K (.ref (zw c)) "__init__"==some (some (.ref (qr f)))&&typeIn K (.ref (qr f))==some (.type "function")))
theorem J2{f:Nat}{x:Str}(h:tu.fn f=some x):f<55:=mi λz=>by
 have:tu.fn f=none:=by show(if _ then none else v5[f]?)=none;rw[iJ (show v5.length<=f from z)];split<;>rfl
 rw[this]at h;cases h
theorem E6{c:Nat}{x:Str}(h:tu.cls c=some x):c<6:=mi λz=>by have:mM[c]?=none:=iJ (show mM.length<=c from z);rw[show tu.cls c=mM[c]? from rfl,this]at h;cases h
theorem vX{c:Nat}{x:Str}(h:tu.exc c=some x):c<2:=mi λz=>by have:mu[c]?=none:=iJ (show mu.length<=c from z);rw[show tu.exc c=mu[c]? from rfl,this]at h;cases h
theorem Of(b:Gj K=true)(d:OY K=true):eT (WW M w s K) tu aq:=by
 have c:=b8 d;have g:=b8 c.2;have j:=b8 g.2;have a:=λa l=>b8 (dN b a l);refine⟨λf x h=>dN c.1 f (eM (J2 h)),λn m f x h hx=>?_,λm x i h=>?_,λn x h=>dN j.1 n (eM (E6 h)),λn=>(b8 (a _ (yp n)).2).1,λn f h=>?_⟩
 ·have d:n<7:=mi λz=>by refine dE (Nat.exists_eq_add_of_le' z) ?_;rintro k rfl;cases h
  have o:m<14:=mi λz=>by have:df[m]?=none:=iJ (aa (show df.length<=14 by decide) z);rw[show tu.meth m=df[m]? from rfl,this]at hx;cases hx
  have k:=dN (dN g.1 n (eM d)) m (eM o);rw[h]at k;rw[show tu.meth m=df[m]? from rfl]at hx;rw[hx]at k;have k:=b8 k;have k2:=b8 k.2;exact bz (eq_of_beq k.1) k2.1 k2.2
 ·intro e;have h:df[m]?=some x:=h;have hx:x∈df:=cy h;have k1:∀y∈df,y∉fE/\(y.cps.toList.all λc=>c==63)=false:=by decide+kernel
  have k:=k1 x hx;have e:iq i=x:=e;unfold iq at e;cases q:fE[i]? with
  |some y=>rw[q]at e;exact k.1 (e▸cy q)|none=>
   rw[q]at e;have:(x.cps.toList.all λc=>c==63)=true:=by rw[<-e];refine(?_:(List.replicate i 63).all (λc=>c==63)=true);rw[uW];exactλx hx=>by rw[(BJ hx).2];rfl
   rw[this]at k;cases k.2
 ·have d:n<6:=mi λz=>by refine dE (Nat.exists_eq_add_of_le' z) ?_;rintro k rfl;cases h
  have k:=dN j.2 n (eM d);rw[h]at k;have k:=b8 k;exact⟨eq_of_beq k.1,eq_of_beq k.2⟩
noncomputable def Om(K:Frag):Bool:=((List.range 55).all λf=>match tu.fn f with|none=>true|some x=>nsIn K mainGlobals x==some (some (.ref (qr f))))&&(((List.range 6).all λc=>match tu.cls c with|none=>true|some x=>nsIn K mainGlobals x==some (some (.ref (zw c))))&& (((List.range 2).all λc=>match tu.exc c with|none=>true|some x=>nsIn K mainGlobals x==some (some (.ref (yd c))))&&((iP.all λp=>nsIn K mainGlobals p.1==some none)&&nsIn K mainGlobals "ValueError"==some none)))
theorem OP:(iP.all λp=>!(p.1==("__name__":Str))&&bootBuiltins p.1==some p.2)=true:=by kernel_rfl
theorem OK{a d:Str->Option Value}(X:K.In s.heap)(e:Gj K=true)(i:Om K=true)(g:s.heap.Ns mainGlobals a)(b:s.heap.Ns builtinsNs d)(nl:s.heap.NoLimit)(j:∀x:Str,x≠"__name__"->d x=bootBuiltins x):dX (WW M w s K) tu:=by
 have c:=b8 i;have l:=b8 c.2;have m:=b8 l.2;have n:=b8 m.2;refine⟨ON X e,rfl,nl,(AA a g (λf x h=>?_) (λo x h=>?_) (λo x h=>?_) (λp q=>ns_none_of X g (eq_of_beq (dN n.1 p q)))),(an d b (λp q=>?_))⟩
 ·have k:=dN c.1 f (eM (J2 h));rw[h]at k;exact mg_of X g (eq_of_beq k)
 ·have k:=dN l.1 o (eM (E6 h));rw[h]at k;exact mg_of X g (eq_of_beq k)
 ·have k:=dN m.1 o (eM (vX h));rw[h]at k;exact mg_of X g (eq_of_beq k)
 ·have k:=b8 (dN OP p q);rw[j p.1 (bne_iff_ne.mp k.1)];exact eq_of_beq k.2
end
noncomputable def Gh(K:Frag)(a:Addr):Obj:=(K.lookup a).getD default
noncomputable def fY(K:Frag)(a:Addr):FuncData:=match(Gh K a).data with|.func f=>f|_=>default
noncomputable def N8(K:Frag)(a:Addr):Bool:=match K.lookup a with|some o=>(match o.data with|.func _=>true|_=>false)|none=>false
noncomputable def Pk(q:Str)(v:Option Value):Bool:=match v with|some x=>(match x with|.str p _=>p==q|_=>false)|none=>false
noncomputable def O8(q:Str)(d:Data):Bool:=match d with|.fields vs=>Pk q vs[1]?|_=>false
noncomputable def Pn(q:Str)(o:Option Obj):Bool:=match o with|some o=>O8 q o.data|none=>false
noncomputable def OT(K:Frag)(a:FuncData):Bool:=match a.code with|.ref c=>Pn a.qualname (K.lookup c)|_=>false
theorem Mh{q:Str}{v:Option Value}(h:Pk q v=true):∃t,v=some (.str q t):=by cases v with|none=>exact ff h|some x=>cases x with|str p t=>exact⟨t,ak (λp=>some (Value.str p t)) (eq_of_beq (show(p==q)=true from h))⟩|_=>exact ff h
theorem Ks{q:Str}{d:Data}(h:O8 q d=true):∃vs:Array Value,∃t,d=.fields vs/\vs[1]?=some (.str q t):=by cases d with|fields vs=>exact(Mh h).elim λt e=>(aY vs t rfl e)|_=>exact ff h
theorem Lb{q:Str}{o:Option Obj}(h:Pn q o=true):∃x,o=some x/\O8 q x.data=true:=by cases o with|some x=>exact(an x rfl h)|none=>exact ff h
theorem LX{f:Addr->Bool}{v:Value}(h:(match v with|.ref c=>f c|_=>false)=true):∃c,v=.ref c/\f c=true:=by cases v with|ref c=>exact(an c rfl h)|_=>exact ff h
theorem Kt{K:Frag}{a:Addr}(h:N8 K a=true):∃o,K.lookup a=some o/\o.data=.func (fY K a):=by unfold N8 at h;unfold fY Gh;cases e:K.lookup a with|none=>rw[e]at h;exact ff h|some o=>rw[e]at h;refine an o rfl ?_;obtain⟨c,d,b,sl⟩:=o;cases b with|func f=>rfl|_=>exact ff h
noncomputable def OI(np:Nat)(vs:List (Str×Nat))(a:FuncData):Bool:=(((a.scope.kind==.function&&gB (vs.map (·.2)))&&(gB (vs.map (·.1))&&gB (a.scope.names.map (·.1))))&&((vs.all λp=>a.scope.names.lookup p.1==some .local||a.scope.names.lookup p.1==some .cell)&&(!a.scope.isCoroutine&&!a.scope.isGenerator)))&& ((a.closure.isEmpty&&(a.globals==mainGlobals&&a.builtins==builtinsNs))&&((vs.take np).map (·.2)==List.range np&&a.scope.names.all λp=>!(p.2==.free)))
section
variable{M:Program}{w:World}{s:Shared}{K:Frag}
theorem EU(X:K.In s.heap)(nl:s.heap.NoLimit){a:Addr}{np:Nat}{vs:List (Str×Nat)}{body:List Stmt}(b:N8 K a=true)(d:OT K (fY K a)=true)(f:OI np vs (fY K a)=true)(g:(fY K a).body=.stmts body):MT (WW M w s K) np vs a (fY K a) body:=by
 have c:=b8 f;have h:=b8 c.1;have i:=b8 c.2;have j:=b8 h.1;have l:=b8 h.2;have e1:=b8 j.1;have e2:=b8 j.2;have e3:=b8 l.2;have m:=b8 i.1;have f2:=b8 m.2;have f3:=b8 i.2;refine⟨?_,g,?_,nl,eq_of_beq e1.1,ej e1.2,ej e2.1,ej e2.2,λp n=>?_,(AV _).mp e3.1,(AV _).mp e3.2,ow m.1,eq_of_beq f2.1,eq_of_beq f2.2,eq_of_beq f3.1,λp n z=>?_⟩;·refine am (Kt b) λo e k=>an o (X _ _ e) k
 ·refine am (LX d) λc e k=>am (Lb k) λo e2 k=>aZ (Ks k) λvs t e3 q=>j1 c o vs t e (X _ _ e2) e3 q
 ·rcases vw (dN l.1 p n)with z|z;·exact .inl (eq_of_beq z)
  ·exact .inr (eq_of_beq z)
 ·have:=dN f3.2 p n;rw[z]at this;cases this
end
noncomputable def Df(K:Frag)(a:Addr):List Value:=match(fY K a).defaults with|.ref T=>(match(Gh K T).data with|.seq items _=>items.toList|_=>[])|_=>[]
noncomputable def Pq(v:V)(x:Value):Bool:=match v with|.int i=>(match x with|.int j _=>i==j|_=>false)|.bool b=>(match x with|.bool c=>b==c|_=>false)|.none=>(match x with|.none=>true|_=>false)|_=>false
noncomputable def O_:List V->List Value->Bool|[],r=>r.isEmpty|v::l,r=>match r with|[]=>false|x::r=>Pq v x&&O_ l r
theorem Mu{h:Heap}{v:V}{x:Value}(e:Pq v x=true):VR h v x:=by
 cases v with
 |int i=>cases x with|int j t=>exact eq_of_beq (show(i==j)=true from e)▸.int|_=>exact ff e
 |bool b=>cases x with|bool c=>exact eq_of_beq (show(b==c)=true from e)▸.bool|_=>exact ff e
 |none=>cases x with|none=>exact .none|_=>exact ff e
 |_=>exact ff e
theorem LA{h:Heap}{l:List V}:∀{r:List Value},O_ l r=true->bj h l r:=by
 induction l with
 |nil=>intro r e;cases r with|nil=>exact .nil|cons=>exact ff e
 |cons v l a=>intro r e;cases r with|nil=>exact ff e|cons x r=>exact .cons (Mu (b8 e).1) (a (b8 e).2)
noncomputable def Oo(K:Frag)(f:Nat):Bool:=match aI f with|none=>true|some d=>((N8 K (qr f)&&OT K (fY K (qr f)))&&OI d.params (zG f) (fY K (qr f)))&&(((match(fY K (qr f)).body with|.stmts b=>f8 tu d.body ⟨(fY K (qr f)).scope,zG f,(zG f).map (·.1)⟩ b|_=>false)&&Nat.ble d.params (zG f).length)&&O_ d.dflts (Df K (qr f)))
noncomputable def K7:List (Nat×Nat):=(List.range 55).flatMap λf=>match aI f with|none=>[]|some d=>(List.range (d.dflts.length+1)).map λj=>(f,d.params-j)
noncomputable def M_(f:Nat):Nat:=match aI f with|some d=>d.params|none=>0
noncomputable def GQ(K:Frag)(S:Setting)(u:Nat->Value)(e:Nat×Nat):Option (List (Str×Value)):=peek K S (bindArgs (fY K (qr e.1)) ⟨(List.range e.2).map u,[]⟩)
noncomputable def JJ(K:Frag)(u:Nat->Value)(e:Nat×Nat):Option (List (Str×Value)):=some ((((zG e.1).take (M_ e.1)).map (·.1)).zip (if Nat.beq e.2 (M_ e.1)=true then(List.range e.2).map u else(List.range e.2).map u++(Df K (qr e.1)).drop (e.2+(Df K (qr e.1)).length-M_ e.1)))
noncomputable def zR(K:Frag):Prop:=∀S u,K7.map (GQ K S u)=K7.map (JJ K u)
section
variable{M:Program}{w:World}{s:Shared}{K:Frag}
theorem JC{f:Nat}(h:55<=f):aI f=none:=by refine dE (Nat.exists_eq_add_of_le' h) ?_;rintro k rfl;rfl
theorem Hx(a:List Value):a=(List.range a.length).map λi=>a.getD i .none:=ut λi=>by
 by_cases h:i<a.length;·rw[f_,oY h,B6,A4,fz h];rfl
 ·rw[iJ (fS h),iJ (by rw[aP];rw[bf];exact fS h)]
theorem Ny(X:K.In s.heap)(nl:s.heap.NoLimit)(b:((List.range 55).all (Oo K))=true)(g:zR K):Az (WW M w s K) tu aI:=λf d j=>by
 have m:f<55:=mi λz=>by rw[JC z]at j;cases j
 have k:=dN b f (eM m);unfold Oo at k;rw[j]at k;have c:=b8 k;have n:=b8 c.1;have p:=b8 n.1;have r:=b8 c.2;have t:=b8 r.1;have u:∀h,bj h d.dflts (Df K (qr f)):=λh=>LA r.2;have v:d.dflts.length=(Df K (qr f)).length:=(u s.heap).length;have x:M_ f=d.params:=by unfold M_;rw[j]
 cases e:(fY K (qr f)).body with
 |stmts body=>
  refine dB (zG f) (fY K (qr f)) body (Df K (qr f)) (EU X nl p.1 p.2 n.2 e) (by have:=t.1;rw[e]at this;exact this) (oE t.2) u (λA B s' keep=>?_);have C:(f,A.length)∈K7:=by
   refine List.mem_flatMap.mpr (an f (eM m) ?_);rw[j];refine cY (an (d.params-A.length) (eM (sD ?_)) ?_)
   ·rcases B with z|z;·rw[z,Nat.sub_self];exact cR _
    ·exact Nat.sub_le_of_le_add (by rw[dQ];exact z.2)
   ·rcases B with z|z;·rw[z,Nat.sub_self,Nat.sub_zero]
    ·rw[Nat.sub_sub_self (bT z.1)]
  refine kp_binds (K:=K) (λa o h=>keep a o (X a o h)) λS=>?_;have q:=List.map_inj_left.mp (g S λi=>A.getD i .none) _ C;unfold GQ JJ at q;rw[<-Hx A,x]at q;refine q.trans (ak (λl=>some ((((zG f).take d.params).map (·.1)).zip l)) ?_);unfold Be;by_cases z:A.length=d.params;·rw[aE z,aE (by rw[z];exact Nat.beq_refl _)]
  ·rw[aA z,aA λy=>z (ml y)]|_=>have:=t.1;rw[e]at this;cases this
noncomputable def JI(o:Obj):ClassData:=match o.data with|.cls c=>c|_=>default
noncomputable def Pv(o:Obj):EX where nm:=(JI o).name;q:=(JI o).qualname;N:=(JI o).ns;bs:=(JI o).bases;sn:=(JI o).slotNames;sub:=(JI o).subclasses;ab:=(JI o).abstract;col:=(JI o).collection;dd:=o.dict;k0:=(o.slots[0]?).join;k1:=(o.slots[1]?).join;k2:=(o.slots[2]?).join;k3:=(o.slots[3]?).join;k5:=(o.slots[5]?).join
noncomputable def PA(K:Frag):Bool:=([45,57].all λa=>(findIn K (.ref a) "__init__"==some (some (.ref 29))&&findIn K (.ref a) "__setattr__"==some (some (.builtin "object.__setattr__")))&&(findIn K (.ref a) "reason"==some none&&keepIn K (.ref a)))&& ((typeIn K (.ref 29)==some (.type "function")&&(N8 K 29&&OT K (fY K 29)))&&(OI 2 Oz (fY K 29)&&((fY K 29).scope.names.lookup ("ValueError":Str)==some NameKind.globalImplicit&&((fY K 29).scope.names.lookup ("self":Str)==some NameKind.local&&(fY K 29).scope.names.lookup ("reason":Str)==some NameKind.local))))
noncomputable def gF:Expr->Expr|.Call f _ _ _=>f|e=>e
noncomputable def gA:Expr->List Expr|.Call _ a _ _=>a|_=>[]
noncomputable def gO:Expr->Expr|.Attribute o _ _=>o|e=>e
noncomputable def gS:Stmt->List Expr|.Expr e _=>[e]|.Assign t v _=>v::t|_=>[]
noncomputable def Qk(b:List Stmt):List Pos:=let d:=(b.map gS).flatten;let c:=d.take 1;let a:=d.drop 2;c.map (λx=>(gO (gF x)).pos)++c.map (λx=>(gF x).pos)++(c.map gA).flatten.map (·.pos)++c.map (·.pos)++(b.take 1).map (·.pos)++a.map (λx=>(gO x).pos)++a.map (·.pos)++((d.drop 1).take 1).map (·.pos)++(b.drop 1).map (·.pos)
noncomputable def Dn(K:Frag)(i:Nat):Pos:=(match(fY K 29).body with|.stmts b=>(Qk b)[i]?|_=>none).getD default
noncomputable def Lx(p:Nat->Pos):List Stmt:=[.Expr (.Call (.Attribute (.Name "ValueError" (p 0)) "__init__" (p 1)) [.Name "self" (p 2),.Name "reason" (p 3)] [] (p 4)) (p 5),.Assign [.Attribute (.Name "self" (p 6)) "reason" (p 7)] (.Name "reason" (p 8)) (p 9)]
structure OF(K:Frag):Prop where
 e0:K.lookup 45=some ((Pv (Gh K 45)).obj true 45 32)
 e1:K.lookup 57=some ((Pv (Gh K 57)).obj true 57 32)
 b:PA K=true
 body:(fY K 29).body=.stmts (Lx (Dn K))
 line:(Dn K 1).endLine=(Dn K 4).line
 bd:∀S a b,peek K S (bindArgs (fY K 29) ⟨[a,b],[]⟩)=some [(("self":Str),a),(("reason":Str),b)]
theorem O9{d f:Str->Option Value}(X:K.In s.heap)(nl:s.heap.NoLimit)(i:Om K=true)(g:s.heap.Ns mainGlobals d)(b:s.heap.Ns builtinsNs f)(j:∀x:Str,x≠"__name__"->f x=bootBuiltins x)(l:bootBuiltins "ValueError"=some (.type "ValueError"))(E:OF K):Ce (WW M w s K) tu 29:=by
 have c:=b8 E.b;have m:=b8 c.2;have n:=b8 m.1;have p:=b8 n.2;have q:=b8 m.2;have r:=b8 q.2;have c6:=b8 r.2;have g4:=b8 (b8 (b8 (b8 i).2).2).2;have ne:∀t,(32:Nat)≠yd t:=λt=>by
  unfold yd;by_cases z:t=0;·rw[aE z];decide
  ·rw[aA z];decide
 have hex:∀t,t<2->yd t∈[45,57]/\∃(y:EX)(P:Addr),K.lookup (yd t)=some (y.obj true (yd t) P)/\∀n u,tu.exc n=some u->P≠yd n:=λt h=>by
  rcases t with _|_|t;·exact fg (cS ..) _ 32 E.e0 (λn v v=>ne n)
  ·exact fg (dn _ (cS ..)) _ 32 E.e1 (λn v v=>ne n)
  ·exact absurd h (by lia)
 refine⟨λt x h=>?_,λm n x u h h' e=>?_,eq_of_beq n.1,(tG (fY K 29) (Dn K 0) (Dn K 1) (Dn K 2) (Dn K 3) (Dn K 4) (Dn K 5) (Dn K 6) (Dn K 7) (Dn K 8) (Dn K 9) E.line ⟨EU X nl p.1 p.2 q.1 E.body,eq_of_beq r.1,eq_of_beq c6.1,eq_of_beq c6.2,λa b s' keep=>kp_binds (K:=K) (λa o h=>keep a o (X a o h)) λS=>E.bd S a b⟩),(bW d f g b (ns_none_of X g (eq_of_beq g4.2)) (by rw[j _ (by decide)];exact l))⟩
 ·have z:=hex t (vX h);have k:=b8 (dN c.1 _ z.1);have k1:=b8 k.1;have k2:=b8 k.2;exact jN z.2 (eq_of_beq k1.1) (eq_of_beq k1.2) (eq_of_beq k2.1) k2.2
 ·have A:=vX h;have B:=vX h';rcases m with _|_|m
  ·rcases n with _|_|n;·rfl
   ·exact absurd (show(45:Nat)=57 from e) (by decide)
   ·exact absurd B (by lia)
  ·rcases n with _|_|n;·exact absurd (show(57:Nat)=45 from e) (by decide)
   ·rfl
   ·exact absurd B (by lia)
  ·exact absurd A (by lia)
end
theorem GN:∀{xs:List WData},WShape.hasItems [] xs .int=true->∃cells:List Int,xs=cells.map .int:=by intro r;induction r with|nil=>intro _;exact⟨[],rfl⟩|cons x r a=>intro h;have h:(WShape.has [] x .int&&WShape.hasItems [] r .int)=true:=h;refine dE (hasW_int (b8 h).1) λi e=>?_;refine dE (a (b8 h).2) λc b=>?_;exact⟨i::c,by rw[e,b];rfl⟩
theorem Ac{R:WRecords}{cl:Str->Option Addr}{h:Heap}:∀{cells:List Int}{vs:List Value}{a:List Addr},ReadsAllW R cl h vs (cells.map .int) a->bj h (cells.map V.int) vs:=by intro b;induction b with|nil=>intro vs a r;exact(readsAllW_nil_inv r).1▸.nil|cons c b d=>intro vs a r;refine cr (readsAllW_cons_inv r) λv vs f g e i r1 j=>?_;refine am (readsW_int_inv r1) λt e1 i=>?_;rw[e,e1];exact .cons .int (d j)
theorem Eh{l:OpenLaw}{k:Nat}(b:l.most=some k)(c:l.bound=none){args:List WData}{f:List Value}{g:List Addr}{cl:Str->Option Addr}{h:Heap}(i:l.row.toRowW.claim.pre args=true)(r:ReadsAllW l.row.records cl h f args g):∃(a:Addr)(cells:List Int)(xs:List Value),f=[.ref a]/\cells.length<=k/\h.IsList a xs.toArray/\bj h (cells.map V.int) xs:=by refine aW (hasAllW_cons (pre_splitW i).1) λd j e m n=>?_;obtain rfl:=hasAllW_nil n;refine am (hasW_list m) λxs e1 o=>?_;refine dE (GN o) λcells e2=>?_;subst e2;subst e1;subst e;refine cr (readsAllW_cons_inv r) λv vs p q e s r1 t=>?_;refine c_ (readsW_list_inv r1) λa u w e1 x y s=>?_;obtain rfl:=(readsAllW_nil_inv t).1;refine fA a cells u.toList (by rw[e,e1]) ?_ x (Ac y);have z:=(pre_splitW i).2;have z:(OpenLaw.pre l).holds [] {args:=[.list (cells.map .int)]}=true:=z;unfold OpenLaw.pre at z;rw[b,c]at z;have:=condW_of (X:=!decide (((k:Nat):Int)<((cells.map WData.int).length:Nat))) (holds_andW z).1 rfl;have:=of_decide_eq_false (AV _▸this);rw[aP]at this;lia
theorem Hq{l:OpenLaw}{w:World}{c g:Shared}{K:Frag}{i:Addr}(j:dX (WW l.row.prog w g K) tu)(k:Ce (WW l.row.prog w g K) tu i)(C:eT (WW l.row.prog w g K) tu aq)(F:Az (WW l.row.prog w g K) tu aI)(m:l.most=some 63)(o:l.bound=none){s:Str->Option Value}{a:Addr}(u:s l.row.name=some (.ref a))(x:s l.row.name=some (.ref (qr 54)))(y:g.gens=#[]){args:List WData}{A:List Value}{B:List Addr}(D:l.row.toRowW.claim.pre args=true)(E:ReadsAllW l.row.records (classAt c.heap) g.heap A args B):bm (model l.row.prog w) callerA (call (.ref a) A) (λv s'=>GoodWG l.row.claim (classAt c.heap) (ExcName.means c.heap) args g (.ok (.ret v)) s') g:=by
 have G:a=qr 54:=by have e:=uq u x;injection e
 subst G;refine c_ (Eh m o D E) λp cells xs I J L M=>?_;subst I;have S:MW (WW l.row.prog w g K) callerA (fU (λN=>none) p (.ro (cells.map V.int))) g:=by
  refine⟨(tC _ _ rfl),λN N e=>e,λb ao e=>?_,λb ao e n=>?_,λl J e O=>?_,⟨_,rfl⟩⟩
  ·by_cases q:b=p;·subst q;rw[bG]at e;cases e;exact an xs L M
   ·rw[ch q]at e;cases e
  ·by_cases q:b=p;·subst q;rw[bG]at e;cases e;exact absurd rfl (n _)
   ·rw[ch q]at e;cases e
  ·cases J;cases O
 refine JA (W:=WW l.row.prog w g K) (n:=7) (f:=54) (d:=B8) (avs:=[.ref p]) (pv:=[.ref p]) (Q:=λv N=>v=.bool true) j k C F rfl rfl S (by unfold Ey;exact bz (by decide) (by decide) rfl) (.cons .ref .nil) rfl ?_ λP v Z s' q r rest keep=>?_
 ·have h:=GS (n:=0) (H:=fU (λN=>none) p (.ro (cells.map V.int))) (Q:=λv N=>v=.bool true) bG (aa J (by decide)) λN=>rfl;rw[jX,q_]at h;have:=qE [.ref p];rw[this];exact h
 ·subst q;cases r;refine qD rest λh t e=>?_;exact et (.inl (jY _ (.bool true) [] rfl (raisesW_false (λN z=>nomatch z)) (.bool true) (postW_of (X:=same (.bool true) (.bool true)) rfl rfl (same_self _)) (λN=>⟨.nil,λN z=>nomatch z⟩))) (.of_keep keep) (by rw[e];rfl) (.of_eq (by rw[e];exact y))
end Mine.Internal
end Macros
namespace MineHead.mainT
def tw6273764237583651920:=0
def tw795666519260043752:=0
def tw6766804084700181814:=0
def tw16793836403043517314:=0
def tw9724554141293648849:=0
def tw4750537830751140342:=0
def tw17755166795150769985:=0
def tw15062022249577801154:=0
def tw15251084196288084245:=0
def tw732335160953000640:=0
def tw10283017287013311843:=0
def tw3025571692857510103:=0
def tw4054473340652307502:=0
def tw5770744593551284337:=0
def tw2442456450311170321:=0
def tw7046758226116382685:=0
def tw1566632484260780133:=0
def tw3724930340261888227:=0
def tw15669274662625729755:=0
def tw639798637500241070:=0
def tw17737674055979423965:=0
def tw7288064222934506515:=0
def tw14765485245412199288:=0
def tw12628906768659421165:=0
def tw10601870930829076253:=0
def tw6385224065421193295:=0
def tw554502866182870414:=0
def tw2337717914279037620:=0
def tw17847684942252956053:=0
def tw15296220261983073592:=0
def tw1575362404360162652:=0
def tw11544773857780102919:=0
def tw12909988010216057253:=0
def tw18233183883103930979:=0
def tw2135674401149728835:=0
def tw10190932889446942542:=0
def tw9885476319694539515:=0
def tw10754191017155450743:=0
def tw12019151604052905569:=0
def tw17969203331746781339:=0
def tw6573318999916402224:=0
def tw5257048577400445213:=0
def tw12092823202402289782:=0
def tw4297427441656091298:=0
def tw551692541017271228:=0
def tw18225099896653253541:=0
def tw3009119168290354790:=0
def tw12003338799363149687:=0
def tw3679247042092954185:=0
def tw197459402815979693:=0
def tw14179472469751466402:=0
def tw13141338409298504750:=0
def tw14797618020756148256:=0
def tw3956797255824657072:=0
def tw8611874317498606812:=0
def tw1609499027986787454:=0
def tw8625726829068797162:=0
def tw15622212188558942646:=0
def tw17887399891710835515:=0
def tw220440751981324122:=0
def tw18053232133573965552:=0
def tw5316816623463604068:=0
def tw16726660568711710562:=0
def tw5807493208804450705:=0
def tw5454084427168764410:=0
def tw2883912880197669342:=0
def tw873713104647817303:=0
def tw15981718201682389536:=0
def tw2243041875466560347:=0
def tw2143758044679177230:=0
def tw17379578658574739363:=0
def tw9873061229794361805:=0
def tw4540033189093468741:=0
def tw16071531516519951784:=0
def tw527167279045813388:=0
def tw8649425967515804406:=0
def tw6457079061267127293:=0
def tw9939139814529034510:=0
def tw18061657439481156377:=0
def tw15385565573307784583:=0
def tw4318839836602210259:=0
def tw9169674785836303699:=0
def tw17787974560007010481:=0
def tw10085894703901794530:=0
def tw12364111018131594313:=0
def tw12884951322487377596:=0
def tw13618110743197268522:=0
def tw6892099560724533224:=0
def tw11576516238488680773:=0
def tw3434692085919006330:=0
def tw12406967918890621731:=0
def tw10329939413576218491:=0
def tw7358515428577194164:=0
def tw7313500823492287668:=0
def tw11882194721779677810:=0
def tw18024532402869938310:=0
def tw9298676248863178706:=0
def tw3011527695025415067:=0
def tw17214045773029477108:=0
def tw10018172744168979721:=0
def tw15040757557789234395:=0
def tw16100423679185468107:=0
def tw12767601563951679623:=0
def tw15360881601752494102:=0
def tw3538445654566070650:=0
def tw2557340516508247394:=0
def tw9268163007636972626:=0
def tw17949307978297976689:=0
def tw8757458819748270037:=0
def tw17946719955104604398:=0
def tw5650718247131679302:=0
def tw10738479215086524153:=0
def tw6988458308786001135:=0
def tw9425056875816700340:=0
def tw2682361957299819672:=0
def tw12227085044561806176:=0
def tw7593452729793580104:=0
def tw17952545897622426642:=0
def tw1866794175057483598:=0
def tw5009237426795051018:=0
def tw9231206367502601334:=0
def tw2280972377848058332:=0
def tw2044392095809393881:=0
def tw4335835210202669486:=0
def tw8543321319703873692:=0
def tw13637842728736211961:=0
def tw7722563145367983374:=0
def tw6419816577383510721:=0
def tw4381190512119437955:=0
def tw15828474071342078408:=0
def tw7382963564028013865:=0
def tw11814384369287263761:=0
def tw8395908885565914701:=0
def tw1779448954784487354:=0
def tw5934233800073541406:=0
def tw6796095645954183110:=0
def tw3949939799296661921:=0
def tw10773427137031728087:=0
def tw2070322221590538343:=0
def tw17856853724593665991:=0
def tw1100292723977623968:=0
def tw9395688287889683324:=0
def tw1124979967373012626:=0
def tw6194482679189198021:=0
def tw10196295375663073262:=0
def tw5647182056212212607:=0
def tw1438253513600277980:=0
def tw11487001582992837766:=0
def tw9465013855747719662:=0
def tw13901255864585709705:=0
def tw17013692954982756638:=0
def tw12194863794225978784:=0
def tw6100070437742787867:=0
def tw11945110083042463999:=0
def tw1147624503381358032:=0
def tw6859300916268090931:=0
def tw9199652000218868990:=0
def tw4809230298241082179:=0
def tw13962571026293319060:=0
def tw13075313851309522882:=0
def tw10883704252108292440:=0
def tw11043795557616741487:=0
def tw4633979233483288352:=0
def tw9355750623765589596:=0
def tw5331304213915172862:=0
def tw13142096497037243258:=0
def tw18285530795535164014:=0
def tw17149897545195993999:=0
def tw6085356838875098265:=0
def tw3364391592200663994:=0
def tw344726178688860910:=0
def tw13465815820706084169:=0
def tw11626583391667448953:=0
def tw8312706039177402609:=0
def tw11440052691348709873:=0
def tw5044010064612808540:=0
def tw2978510216216936958:=0
def tw15436983337101580794:=0
def tw15385748453940809386:=0
def tw13011339782282585735:=0
def tw6470278921365197149:=0
def tw4442431946145356625:=0
def tw16362591481353441086:=0
def tw6580428606627642439:=0
def tw13436331017983616790:=0
def tw901414805840835329:=0
def tw1979843119522769115:=0
def tw14879427775305447997:=0
def tw11520947189143749718:=0
def tw15718070516627564159:=0
def tw1800018455183355397:=0
def tw3888435748766484674:=0
def tw13364478326294624308:=0
def tw16173416537996912733:=0
def tw11199496098833215732:=0
def tw15892789809138208275:=0
def tw7165643120648850360:=0
def tw5047081940570281854:=0
def tw17944832668438486214:=0
def tw16103328833504104994:=0
def tw16307731888035636479:=0
def tw12786039798070061533:=0
def tw7342351033093084647:=0
def tw11783082535030393752:=0
def tw17483772181398296319:=0
def tw12020146919389868908:=0
def tw822753020191333488:=0
def tw2022025885313719071:=0
def tw12566739393726022703:=0
def tw13801844380300098259:=0
def tw12920570996235562999:=0
def tw9826555276100818480:=0
def tw15566129056056708616:=0
def tw9966054167109721382:=0
def tw9665615968778245537:=0
def tw2155062424348002462:=0
def tw711435093210299809:=0
def tw9374418636157714254:=0
def tw17228766776897973356:=0
def tw5481785536493001670:=0
end MineHead.mainT
open PySem PySem.W PyProof.Rows PySem.Calls
namespace MineHead
open Mine.Internal
theorem r_{F:Frag}{h:Heap}(_:F.In h)(e:Gj F=true):Gj F=true:=e
theorem qs{F:Frag}{h:Heap}(_:F.In h)(e:OY F=true):OY F=true:=e
theorem Qj{F:Frag}{h:Heap}(_:F.In h)(e:Om F=true):Om F=true:=e
theorem Ho{F:Frag}{h:Heap}(_:F.In h)(e:((List.range 55).all (Oo F))=true):((List.range 55).all (Oo F))=true:=e
theorem Py{F:Frag}{h:Heap}(_:F.In h)(e:zR F):zR F:=e
theorem Qo{F:Frag}{h:Heap}(_:F.In h)(e:OF F):OF F:=e
set_option Elab.async true in
set_option maxHeartbeats 8000000 in
theorem mainT:PySem.Challenge.rw_nz0424_01.Holds:=by
 w_on;o_law;k_head;case hw=>w_witness2
 intro w c d e f G g a h i args j k l m n;have o:=kIn_of g;have k1:=r_ o (by kernel_rfl);have k2:=qs o (by kernel_rfl);have k3:=Qj o (by kernel_rfl);have k4:=Ho o (by kernel_rfl);have k5:=Py o (λS u=>by kernel_rfl);have p:=Qo o (⟨by kernel_rfl,by kernel_rfl,by kernel_rfl,by kernel_rfl,by kernel_rfl,λS a b=>by kernel_rfl⟩);have q:bootBuiltins "ValueError"=some (.type "ValueError"):=by kernel_rfl
 have r:=OK (M:=PySem.Challenge.rw_nz0424_01.row.prog) (w:=w) o k1 k3 G.T.g G.T.b G.T.nolimit G.T.builtins;have C:=Of (M:=PySem.Challenge.rw_nz0424_01.row.prog) (w:=w) (s:=d) k1 k2;have F:=Ny (M:=PySem.Challenge.rw_nz0424_01.row.prog) (w:=w) o G.T.nolimit k4 k5;have t:=O9 (M:=PySem.Challenge.rw_nz0424_01.row.prog) (w:=w) o G.T.nolimit k3 G.T.g G.T.b G.T.builtins q p;exact Hq r t C F rfl rfl h (mg_of o G.T.g (by kernel_rfl)) i l n
end MineHead
theorem PySem.Challenge.cw_nz0424_01_holds : PySem.Challenge.rw_nz0424_01.Holds :=
 MineHead.mainT
