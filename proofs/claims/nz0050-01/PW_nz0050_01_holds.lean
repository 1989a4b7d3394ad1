import PyProof.Rows.All
import Open.Line
import Open.Boot
import Open.Tree
import Wide.All
import OpenK.AllK
import KE.KTryMore
import Open.FastT9
import Wide.FinOn
import PyProof.ExcInit
import PyProof.ExcBaseAll.ValueError
import PyProof.ExcArgsOwn
import PyProof.ExcAttrAll.ValueError
import KE.KSortKey
import KE.KLam
import Lean
import PySem.Challenge.RW_nz0050_01
set_option Elab.async false
set_option bootstrap.genMatcherCode false
set_option genSizeOf false
set_option genSizeOfSpec false
set_option genInjectivity false
set_option tactic.hygienic false
set_option linter.all false
set_option maxRecDepth 100000
set_option maxHeartbeats 0
set_option backward.match.sparseCases false
open PySem PySem.W PySem.Calls PyProof.Rows
namespace Mine
noncomputable section
def EN:=@List.length_map
def Xcc:=@List.mem_singleton
def Xcd:=@wpAny_bind
def Xce:=@List.all_eq_true
def Xcf:=@Heap.get?_push_of_some
def Xcg:=@Nat.le_of_eq
def Xch:=@Nat.le_of_ble_eq_true
def Xci:=@List.length_append
def Xcj:=@of_decide_eq_true
def Xck:=@if_pos
def Xcl:=@Option.some.inj
def Xcm:=@if_neg
def Xcn:=@Heap.get?_push_size
def Xco:=@List.map_append
def Xcp:=@wpAny_pure
def Xcq:=@Nat.le_trans
def Xcr:=@List.mem_append_left
def Xcs:=@List.mem_cons
def Xct:=@wpAny_execs_cons
def Xcu:=@List.not_mem_nil
def Xcv:=@wpAny_mono
def Xcw:=@List.contains_iff_mem
def Xcx:=@List.size_toArray
def Xcy:=@decide_eq_true
def Xcz:=@List.append_nil
def Xc0:=@List.mem_of_getElem?
def Xc1:=@decide_eq_false
def Xc2:=@List.mem_append
def Xc3:=@List.mem_map_of_mem
def Xc4:=@Nat.le_refl
def Xc5:=@args_cons
def Xc6:=@List.nodup_cons
def Xc7:=@List.append_assoc
def Xc8:=@List.getElem?_eq_some_iff
def Xc9:=@sizeLine_eq
def Xda:=@plainObj_wpAny_Assign_Attribute
def Xdb:=@Nat.ne_of_lt
def Xdc:=@List.mem_map
def Xdd:=@Nat.zero_le
def Xde:=@List.map_cons
def Xdf:=@List.mem_append_right
def Xdg:=@Nat.lt_of_lt_of_le
def Xdh:=@Nat.le_of_not_lt
def Xdi:=@List.take_succ_eq_append_getElem
def Xdj:=@wpAny_holding
def Xdk:=@List.length_take
def Xdl:=@Nat.le_antisymm
def Xdm:=@wpAny_execs_nil
def Xdn:=@Bool.and_eq_true_iff
def Xdo:=@Nat.le_one_iff_eq_zero_or_eq_one
def Xdp:=@List.length_singleton
def Xdq:=@wpAny_Constant_none
def Xdr:=@List.getD_eq_getElem?_getD
def Xds:=@List.lookup_cons
def Xdt:=@Heap.lt_size
def Xdu:=@Bool.false_eq_true
def Xdv:=@Heap.get?_update_other
def Xdw:=@List.getElem?_eq_getElem
def Xdx:=@List.take_length
def Xdy:=@List.getElem?_map
def Xdz:=@List.map_map
def Xd0:=@Heap.size_push
def Xd1:=@List.mem_of_mem_drop
def Xd2:=@Nat.lt_irrefl
def Xd3:=@Nat.zero_add
def Xd4:=@List.length_cons
def Xd5:=@Bool.and_eq_true
def Xd6:=@List.getElem_mem
def Xd7:=@Nat.le_add_right
def Xd8:=@beq_eq_false_iff_ne
def Xd9:=@Nat.le_succ
def Xea:=@Int.toNat_natCast
def Xeb:=@List.getElem?_eq_none
def Xec:=@Heap.get?_update_self
def Xed:=@List.take_append_drop
def Xee:=@Int.natCast_nonneg
def Xef:=@wpAny_Constant_str
def Xeg:=@arm_eval_Attribute
def Xeh:=@Bool.false_ne_true
def Xei:=@List.getElem_map
def Xej:=@beq_iff_eq
def Xek:=@wpAny_assign_Name
def Xel:=@List.foldl_cons
def Xem:=@List.length_set
def Xen:=@List.drop_eq_getElem_cons
def Xeo:=@List.length_drop
def Xep:=@PyProof.Rows.unpackItems_tuple
def Xeq:=@Option.isSome_iff_exists
def Xer:=@Nat.mul_le_mul_right
def Xes:=@wpAny_Expr_any
def Xet:=@List.mem_of_mem_take
def Xeu:=@List.mem_cons_of_mem
def Xev:=@Nat.lt_succ_of_lt
def Xew:=@wpAny_Assign_Name
def Xex:=@List.filter_cons_of_pos
def Xey:=@List.mem_singleton_self
def Xez:=@bne_iff_ne
def Xe0:=@Nat.min_le_left
def Xe1:=@List.replicate_succ
def Xe2:=@or_false
def Xe3:=@List.flatMap_append
def Xe4:=@PySem.wpAny_isTrue_Compare1
def Xe5:=@MethodCall_
def Xe6:=@Nat.lt_succ_self
def Xe7:=@List.mem_range
def Xe8:=@Attribute_any_
def Xe9:=@Option.isNone_iff_eq_none
def Xfa:=@Bool.or_eq_true
def Xfb:=@List.nil_append
def Xfc:=@Bool.eq_false_iff
def Xfd:=@Name_function_global
def Xfe:=@wpAny_call
def Xff:=@Nat.add_le_add_left
def Xfg:=@Array.length_toList
def Xfh:=@List.map_congr_left
def Xfi:=@Heap.SameBut.update
def Xfj:=@Int.eq_ofNat_of_zero_le
def Xfk:=@List.getElem?_replicate
def Xfl:=@List.mem_filterMap
def Xfm:=@Nat.lt_or_eq_of_le
def Xfn:=@List.pairwise_cons
def Xfo:=@List.mem_cons_self
def Xfp:=@wpAny_storeName_local
def Xfq:=@List.perm_append_comm
def Xfr:=@loadGlobal_global
def Xfs:=@wpAny_Return_some
def Xft:=@List.flatMap_cons
def Xfu:=@Nat.le_of_lt_succ
def Xfv:=@Bool.not_eq_true'
def Xfw:=@wpAny_newFunctionEnv
def Xfx:=@Assign_Tuple_swapped
def Xfy:=@List.getElem?_append_right
def Xfz:=@PySem.F.excBase_ValueError
def Xf0:=@Nat.lt_trans
def Xf1:=@Nat.min_le_right
def Xf2:=@if_true
def Xf3:=@beq_self_eq_true
def Xf4:=@Nat.ne_of_gt
def Xf5:=@callWith_method1
def Xf6:=@List.mem_flatMap
def Xf7:=@List.isEmpty_iff
def Xf8:=@List.mem_of_find?_eq_some
def Xf9:=@List.getElem?_append_left
def Xga:=@wpAny_comprehension_free
def Xgb:=@List.of_mem_zip
def Xgc:=@Nat.le_max_left
def Xgd:=@strKind_is
def Xge:=@loadGlobal_builtin
def Xgf:=@wpAny_Constant_int
def Xgg:=@of_decide_eq_false
def Xgh:=@List.filter_cons_of_neg
def Xgi:=@Option.map_eq_some_iff
def Xgj:=@Int.ofNat_lt
def Xgk:=@List.flatten_cons
def Xgl:=@Nat.lt_succ_of_le
def Xgm:=@Nat.le_succ_of_le
def Xgn:=@List.nodup_append
def Xgo:=@List.map_inj_left
def Xgp:=@wpAny_loadPart_at
def Xgq:=@List.getElem?_toArray
def Xgr:=@codeAny_call_function
def Xgs:=@PySem.F.slot_dict_get
def Xgt:=@Nat.sub_le
def Xgu:=@wpAny_Dict_empty
def Xgv:=@Array.toList_inj
def Xgw:=@Heap.size_update
def Xgx:=@Nat.not_succ_le_zero
def Xgy:=@wpAny_loadName_local
def Xgz:=@List.forall_mem_cons
def Xg0:=@codeAny_call_builtin
def Xg1:=@Bool.or_eq_false_iff
def Xg2:=@get?_update_seq
def Xg3:=@List.mem_zipIdx_iff_getElem?
def Xg4:=@List.length_nil
def Xg5:=@List.length_zip
def Xg6:=@List.filterMap_cons
def Xg7:=@wpAny_loadName_cell
def Xg8:=@wpAny_Constant_bool
def Xg9:=@wpAny_evalPart_none
def Xha:=@wpAny_evalPart_some
def Xhb:=@Bool.or_eq_true_iff
def Xhc:=@PyProof.Rows.callWith_type1
def Xhd:=@List.set_set
def Xhe:=@Nat.le_of_lt
def Xhf:=@looks_findIn
def Xhg:=@List.map_nil
def Xhh:=@PySem.F.slot_tuple_getitem
def Xhi:=@PyProof.Rows.getItem_tuple
def Xhj:=@Array.find?_toList
def Xhk:=@callWith_K
def Xhl:=@Subscript_
def Xhm:=@wpAny_newFunctionEnv_cells
def Xhn:=@wpAny_loadPart
def Xho:=@Obj.putName_eq
def Xhp:=@Obj.data_mapFields
def Xhq:=@Array.getElem?_eq_some_iff
def Xhr:=@List.getElem?_set
def Xhs:=@decide_eq_true_eq
def Xht:=@wpAny_Tuple
def Xhu:=@wpAny_newObj_type
def Xhv:=@Nat.lt_of_succ_lt
def Xhw:=@wpAny_field
def Xhx:=@Function.comp_def
def Xhy:=@PySem.F.slot_list_extend
def Xhz:=@List.cons.inj
def Xh0:=@List.filterMap_cons_none
def Xh1:=@listUpdate_at
def Xh2:=@List.cons_append
def Xh3:=@Nat.succ_le_succ
def Xh4:=@Option.bind_some
def Xh5:=@wpAny_lookBehind
def Xh6:=@pastItsLine_dict
def Xh7:=@Nat.le_max_right
def Xh8:=@List.nil_sublist
def Xh9:=@Nat.max_le
def Xia:=@wpAny_Name
def Xib:=@Bool.or_true
def Xic:=@Option.map_some
def Xid:=@List.find?_some
def Xie:=@ne_of_beq_false
def Xif:=@Int.natCast_add
def Xig:=@Nat.add_mul
def Xih:=@List.nodup_nil
def Xii:=@List.map_id
def Xij:=@wpAny_BinOp
def Xik:=@Bool.and_false
def Xil:=@looks_clsIn
def Xim:=@wpAny_setField
def Xin:=@looks_mroIn
def Xio:=@List.not_lt
def Xip:=@mg_none_of
set_option backward.match.sparseCases true
theorem AB{p:Prop}(h:¬p->False):p:=Classical.byContradiction h
theorem nS{m:Type}{a:m}{P:Prop}(h:none=some a):P:=by cases h
theorem sN{m:Type}{a:m}{P:Prop}(h:some a=none):P:=by cases h
theorem tF{P:Prop}(h:true=false):P:=by cases h
theorem fT{P:Prop}(h:false=true):P:=by cases h
theorem sS{m:Type}{a b:m}(h:some a=some b):a=b:=Xcl h
theorem sP{m i:Type}{a c:m}{b d:i}(h:some (a,b)=some (c,d)):a=c/\b=d:=by cases h;exact⟨rfl,rfl⟩
theorem nG{i:Type}{x:Option i}{o:i}{P:Prop}(n:x=none)(e:x=some o):P:=nS (n.symm.trans e)
theorem nH{m i:Type}{f:m->Option i}{a b:m}{o:i}{P:Prop}(q:a=b)(n:f b=none)(e:f a=some o):P:=nG n (q▸ e)
theorem Aq(h:(!a)=true):a=false:=by
 cases a with
 |true=>exact fT h
 |false=>rfl
theorem al(h:(a&&b)=true):a=true:=by
 cases a with
 |true=>rfl
 |false=>exact fT h
theorem ar(h:(a&&b)=true):b=true:=by
 cases a with
 |true=>exact h
 |false=>exact fT h
theorem IS{m:Type}{x:Option m}{f:m->Bool}{G:Prop}(h:x.any f=true)(k:∀a,x=some a->f a=true->G):G:=by
 cases x with
 |none=>exact fT h
 |some a=>exact k a rfl h
theorem Uy{m i:Type}{x:Option m}{f:m->Option i}{b:i}{G:Prop}(h:x.bind f=some b)(k:∀a,x=some a->f a=some b->G):G:=by
 cases x with
 |none=>exact nS h
 |some a=>exact k a rfl h
theorem Ku{m i:Type}{x:Option m}{f:m->i}{b:i}{G:Prop}(h:x.map f=some b)(k:∀a,x=some a->f a=b->G):G:=by
 cases x with
 |none=>exact nS h
 |some a=>exact k a rfl (Xcl h)
theorem rm{a b c d e f:Nat}(h:a+b+c<d)(k:e+d<=f+c):a+e<f:=by omega
theorem rt{a b c d e g f:Nat}(h:a+b+c<d)(k:e+g+d<=f+c):a+e+g<f:=by omega
theorem rn{a c d e f:Nat}(h:a+c<d)(k:e+d<=f+c):a+e<f:=by omega
theorem rq{a b c d e g f:Nat}(h:a+b+c<d)(k:e+g+d<=f+c):a+e+b+g<f:=by omega
theorem rp{a c d e g f:Nat}(h:a+c<d)(k:e+g+d<=f+c):a+e+g<f:=by omega
theorem rs(h:a+b*(n+1)+c<d)(k:e+g+d<=f+b+c):a+e+b*n+g<f:=by rw[Nat.mul_succ]at h;omega
@[elab_as_elim]theorem rL{m:Sort u}{a b:m}{p:m->Prop}(h:a=b)(x:p b):p a:=by subst h;exact x
@[elab_as_elim]theorem rR{m:Sort u}{a b:m}{p:m->Prop}(h:a=b)(x:p a):p b:=by subst h;exact x
theorem Ax{p q:Prop}{G:Prop}(h:p/\q)(k:p->q->G):G:=k h.1 h.2
theorem AH{p q:Prop}(Y:p)(T:q):p/\q:=⟨Y,T⟩
theorem Bf{p q r:Prop}{G:Prop}(h:p/\q/\r)(k:p->q->r->G):G:=k h.1 h.2.1 h.2.2
theorem AX{p q r:Prop}(Y:p)(T:q)(H:r):p/\q/\r:=⟨Y,T,H⟩
theorem FE{p q r s:Prop}{G:Prop}(h:p/\q/\r/\s)(k:p->q->r->s->G):G:=k h.1 h.2.1 h.2.2.1 h.2.2.2
theorem DR{p q r s:Prop}(Y:p)(T:q)(H:r)(M:s):p/\q/\r/\s:=⟨Y,T,H,M⟩
theorem Ny{p q r s t:Prop}{G:Prop}(h:p/\q/\r/\s/\t)(k:p->q->r->s->t->G):G:=k h.1 h.2.1 h.2.2.1 h.2.2.2.1 h.2.2.2.2
theorem eq_1{p q r s t:Prop}(Y:p)(T:q)(H:r)(M:s)(D:t):p/\q/\r/\s/\t:=⟨Y,T,H,M,D⟩
theorem R0{p q r s t u:Prop}{G:Prop}(h:p/\q/\r/\s/\t/\u)(k:p->q->r->s->t->u->G):G:=k h.1 h.2.1 h.2.2.1 h.2.2.2.1 h.2.2.2.2.1 h.2.2.2.2.2
theorem eq_2{p q r s t u:Prop}(Y:p)(T:q)(H:r)(M:s)(D:t)(m:u):p/\q/\r/\s/\t/\u:=⟨Y,T,H,M,D,m⟩
theorem AK{m:Type}{p:m->Prop}{G:Prop}(h:∃a,p a)(k:∀a,p a->G):G:=h.elim λa h=>k a h
theorem AN{m:Type}{p:m->Prop}(a:m)(Y:p a):∃a,p a:=⟨a,Y⟩
theorem AJ{m:Type}{p q:m->Prop}{G:Prop}(h:∃a,p a/\q a)(k:∀a,p a->q a->G):G:=AK h λa h=>Ax h (k a)
theorem AG{m:Type}{p q:m->Prop}(a:m)(Y:p a)(T:q a):∃a,p a/\q a:=⟨a,Y,T⟩
theorem Bh{m:Type}{p q r:m->Prop}{G:Prop}(h:∃a,p a/\q a/\r a)(k:∀a,p a->q a->r a->G):G:=AK h λa h=>Bf h (k a)
theorem BS{m:Type}{p q r:m->Prop}(a:m)(Y:p a)(T:q a)(H:r a):∃a,p a/\q a/\r a:=⟨a,Y,T,H⟩
theorem Nz{m:Type}{p q r s:m->Prop}{G:Prop}(h:∃a,p a/\q a/\r a/\s a)(k:∀a,p a->q a->r a->s a->G):G:=AK h λa h=>FE h (k a)
theorem LQ{m:Type}{p q r s:m->Prop}(a:m)(Y:p a)(T:q a)(H:r a)(M:s a):∃a,p a/\q a/\r a/\s a:=⟨a,Y,T,H,M⟩
theorem fo{m:Type}{p q r s t:m->Prop}{G:Prop}(h:∃a,p a/\q a/\r a/\s a/\t a)(k:∀a,p a->q a->r a->s a->t a->G):G:=AK h λa h=>Ny h (k a)
theorem fq{m:Type}{p q r s t:m->Prop}(a:m)(Y:p a)(T:q a)(H:r a)(M:s a)(D:t a):∃a,p a/\q a/\r a/\s a/\t a:=⟨a,Y,T,H,M,D⟩
theorem eq_3{m:Type}{p q r s t u:m->Prop}{G:Prop}(h:∃a,p a/\q a/\r a/\s a/\t a/\u a)(k:∀a,p a->q a->r a->s a->t a->u a->G):G:=AK h λa h=>R0 h (k a)
theorem eq_4{m:Type}{p q r s t u:m->Prop}(a:m)(Y:p a)(T:q a)(H:r a)(M:s a)(D:t a)(b:u a):∃a,p a/\q a/\r a/\s a/\t a/\u a:=⟨a,Y,T,H,M,D,b⟩
theorem B8{m i:Type}{p:m->i->Prop}{G:Prop}(h:∃a b,p a b)(k:∀a b,p a b->G):G:=h.elim λa h=>AK h (k a)
theorem BM{m i:Type}{p:m->i->Prop}(a:m)(b:i)(Y:p a b):∃a b,p a b:=⟨a,b,Y⟩
theorem Ce{m i:Type}{p q:m->i->Prop}{G:Prop}(h:∃a b,p a b/\q a b)(k:∀a b,p a b->q a b->G):G:=B8 h λa b h=>Ax h (k a b)
theorem Di{m i:Type}{p q:m->i->Prop}(a:m)(b:i)(Y:p a b)(T:q a b):∃a b,p a b/\q a b:=⟨a,b,Y,T⟩
theorem GN{m i:Type}{p q r:m->i->Prop}{G:Prop}(h:∃a b,p a b/\q a b/\r a b)(k:∀a b,p a b->q a b->r a b->G):G:=B8 h λa b h=>Bf h (k a b)
theorem CN{m i:Type}{p q r:m->i->Prop}(a:m)(b:i)(Y:p a b)(T:q a b)(H:r a b):∃a b,p a b/\q a b/\r a b:=⟨a,b,Y,T,H⟩
theorem eq_5{m i:Type}{p q r s:m->i->Prop}{G:Prop}(h:∃a b,p a b/\q a b/\r a b/\s a b)(k:∀a b,p a b->q a b->r a b->s a b->G):G:=B8 h λa b h=>FE h (k a b)
theorem Xa4{m i:Type}{p q r s:m->i->Prop}(a:m)(b:i)(Y:p a b)(T:q a b)(H:r a b)(M:s a b):∃a b,p a b/\q a b/\r a b/\s a b:=⟨a,b,Y,T,H,M⟩
theorem O0{m i:Type}{p q r s t:m->i->Prop}{G:Prop}(h:∃a b,p a b/\q a b/\r a b/\s a b/\t a b)(k:∀a b,p a b->q a b->r a b->s a b->t a b->G):G:=B8 h λa b h=>Ny h (k a b)
theorem Xa5{m i:Type}{p q r s t:m->i->Prop}(a:m)(b:i)(Y:p a b)(T:q a b)(H:r a b)(M:s a b)(D:t a b):∃a b,p a b/\q a b/\r a b/\s a b/\t a b:=⟨a,b,Y,T,H,M,D⟩
theorem O1{m i:Type}{p q r s t u:m->i->Prop}{G:Prop}(h:∃a b,p a b/\q a b/\r a b/\s a b/\t a b/\u a b)(k:∀a b,p a b->q a b->r a b->s a b->t a b->u a b->G):G:=B8 h λa b h=>R0 h (k a b)
theorem W9{m i:Type}{p q r s t u:m->i->Prop}(a:m)(b:i)(Y:p a b)(T:q a b)(H:r a b)(M:s a b)(D:t a b)(c:u a b):∃a b,p a b/\q a b/\r a b/\s a b/\t a b/\u a b:=⟨a,b,Y,T,H,M,D,c⟩
theorem Ay{m i e:Type}{p:m->i->e->Prop}{G:Prop}(h:∃a b c,p a b c)(k:∀a b c,p a b c->G):G:=h.elim λa h=>B8 h (k a)
theorem Cf{m i e:Type}{p:m->i->e->Prop}(a:m)(b:i)(c:e)(Y:p a b c):∃a b c,p a b c:=⟨a,b,c,Y⟩
theorem Aj{m i e:Type}{p q:m->i->e->Prop}{G:Prop}(h:∃a b c,p a b c/\q a b c)(k:∀a b c,p a b c->q a b c->G):G:=Ay h λa b c h=>Ax h (k a b c)
theorem DS{m i e:Type}{p q:m->i->e->Prop}(a:m)(b:i)(c:e)(Y:p a b c)(T:q a b c):∃a b c,p a b c/\q a b c:=⟨a,b,c,Y,T⟩
theorem GO{m i e:Type}{p q r:m->i->e->Prop}{G:Prop}(h:∃a b c,p a b c/\q a b c/\r a b c)(k:∀a b c,p a b c->q a b c->r a b c->G):G:=Ay h λa b c h=>Bf h (k a b c)
theorem GP{m i e:Type}{p q r:m->i->e->Prop}(a:m)(b:i)(c:e)(Y:p a b c)(T:q a b c)(H:r a b c):∃a b c,p a b c/\q a b c/\r a b c:=⟨a,b,c,Y,T,H⟩
theorem R4{m i e:Type}{p q r s:m->i->e->Prop}{G:Prop}(h:∃a b c,p a b c/\q a b c/\r a b c/\s a b c)(k:∀a b c,p a b c->q a b c->r a b c->s a b c->G):G:=Ay h λa b c h=>FE h (k a b c)
theorem WB{m i e:Type}{p q r s:m->i->e->Prop}(a:m)(b:i)(c:e)(Y:p a b c)(T:q a b c)(H:r a b c)(M:s a b c):∃a b c,p a b c/\q a b c/\r a b c/\s a b c:=⟨a,b,c,Y,T,H,M⟩
theorem eq_6{m i e:Type}{p q r s t:m->i->e->Prop}{G:Prop}(h:∃a b c,p a b c/\q a b c/\r a b c/\s a b c/\t a b c)(k:∀a b c,p a b c->q a b c->r a b c->s a b c->t a b c->G):G:=Ay h λa b c h=>Ny h (k a b c)
theorem eq_7{m i e:Type}{p q r s t:m->i->e->Prop}(a:m)(b:i)(c:e)(Y:p a b c)(T:q a b c)(H:r a b c)(M:s a b c)(D:t a b c):∃a b c,p a b c/\q a b c/\r a b c/\s a b c/\t a b c:=⟨a,b,c,Y,T,H,M,D⟩
theorem W8{m i e:Type}{p q r s t u:m->i->e->Prop}{G:Prop}(h:∃a b c,p a b c/\q a b c/\r a b c/\s a b c/\t a b c/\u a b c)(k:∀a b c,p a b c->q a b c->r a b c->s a b c->t a b c->u a b c->G):G:=Ay h λa b c h=>R0 h (k a b c)
theorem eq_8{m i e:Type}{p q r s t u:m->i->e->Prop}(a:m)(b:i)(c:e)(Y:p a b c)(T:q a b c)(H:r a b c)(M:s a b c)(D:t a b c)(d:u a b c):∃a b c,p a b c/\q a b c/\r a b c/\s a b c/\t a b c/\u a b c:=⟨a,b,c,Y,T,H,M,D,d⟩
theorem Dw{m i e f:Type}{p:m->i->e->f->Prop}{G:Prop}(h:∃a b c d,p a b c d)(k:∀a b c d,p a b c d->G):G:=h.elim λa h=>Ay h (k a)
theorem DA{m i e f:Type}{p:m->i->e->f->Prop}(a:m)(b:i)(c:e)(d:f)(Y:p a b c d):∃a b c d,p a b c d:=⟨a,b,c,d,Y⟩
theorem eq_9{m i e f:Type}{p q:m->i->e->f->Prop}{G:Prop}(h:∃a b c d,p a b c d/\q a b c d)(k:∀a b c d,p a b c d->q a b c d->G):G:=Dw h λa b c d h=>Ax h (k a b c d)
theorem eq_10{m i e f:Type}{p q:m->i->e->f->Prop}(a:m)(b:i)(c:e)(d:f)(Y:p a b c d)(T:q a b c d):∃a b c d,p a b c d/\q a b c d:=⟨a,b,c,d,Y,T⟩
theorem Xa3{m i e f:Type}{p q r:m->i->e->f->Prop}{G:Prop}(h:∃a b c d,p a b c d/\q a b c d/\r a b c d)(k:∀a b c d,p a b c d->q a b c d->r a b c d->G):G:=Dw h λa b c d h=>Bf h (k a b c d)
theorem RC{m i e f:Type}{p q r:m->i->e->f->Prop}(a:m)(b:i)(c:e)(d:f)(Y:p a b c d)(T:q a b c d)(H:r a b c d):∃a b c d,p a b c d/\q a b c d/\r a b c d:=⟨a,b,c,d,Y,T,H⟩
theorem Hm{m i e f:Type}{p q r s:m->i->e->f->Prop}{G:Prop}(h:∃a b c d,p a b c d/\q a b c d/\r a b c d/\s a b c d)(k:∀a b c d,p a b c d->q a b c d->r a b c d->s a b c d->G):G:=Dw h λa b c d h=>FE h (k a b c d)
theorem Xa6{m i e f:Type}{p q r s:m->i->e->f->Prop}(a:m)(b:i)(c:e)(d:f)(Y:p a b c d)(T:q a b c d)(H:r a b c d)(M:s a b c d):∃a b c d,p a b c d/\q a b c d/\r a b c d/\s a b c d:=⟨a,b,c,d,Y,T,H,M⟩
theorem eq_11{m i e f:Type}{p q r s t:m->i->e->f->Prop}{G:Prop}(h:∃a b c d,p a b c d/\q a b c d/\r a b c d/\s a b c d/\t a b c d)(k:∀a b c d,p a b c d->q a b c d->r a b c d->s a b c d->t a b c d->G):G:=Dw h λa b c d h=>Ny h (k a b c d)
theorem eq_12{m i e f:Type}{p q r s t:m->i->e->f->Prop}(a:m)(b:i)(c:e)(d:f)(Y:p a b c d)(T:q a b c d)(H:r a b c d)(M:s a b c d)(D:t a b c d):∃a b c d,p a b c d/\q a b c d/\r a b c d/\s a b c d/\t a b c d:=⟨a,b,c,d,Y,T,H,M,D⟩
theorem RB{m i e f:Type}{p q r s t u:m->i->e->f->Prop}{G:Prop}(h:∃a b c d,p a b c d/\q a b c d/\r a b c d/\s a b c d/\t a b c d/\u a b c d)(k:∀a b c d,p a b c d->q a b c d->r a b c d->s a b c d->t a b c d->u a b c d->G):G:=Dw h λa b c d h=>R0 h (k a b c d)
theorem GQ{m i e f:Type}{p q r s t u:m->i->e->f->Prop}(a:m)(b:i)(c:e)(d:f)(Y:p a b c d)(T:q a b c d)(H:r a b c d)(M:s a b c d)(D:t a b c d)(g:u a b c d):∃a b c d,p a b c d/\q a b c d/\r a b c d/\s a b c d/\t a b c d/\u a b c d:=⟨a,b,c,d,Y,T,H,M,D,g⟩
set_option backward.match.sparseCases false
set_option backward.match.sparseCases true
noncomputable def QC:List Nat->Nat->Nat
 | [],_=>0
 |a::_,0=>a
 |_::l,n+1=>QC l n
noncomputable def CF:List Nat->List Nat->Nat
 | [],_=>0
 |_,[]=>0
 |a::p,b::x=>a*b+CF p x
noncomputable def Nt:Nat->List Nat
 |0=>[1]
 |n+1=>0::Nt n
noncomputable def GH:List Nat->List Nat->List Nat
 | [],q=>q
 |p,[]=>p
 |a::p,b::q=>(a+b)::GH p q
noncomputable def GI(n:Nat):List Nat->List Nat
 | []=>[]
 |a::p=>n*a::GI n p
noncomputable def QO:List Nat->List Nat->Bool
 | [],_=>true
 |a::p,[]=>Nat.beq a 0&&QO p []
 |a::p,b::q=>Nat.ble a b&&QO p q
theorem Xf:∀x i,CF (Nt i) x=QC x i
 | [],0=>rfl
 | [],_+1=>rfl
 |a::x,0=>by show 1*a+CF [] x=a;rw[Nat.one_mul];rfl
 |a::x,i+1=>by show 0*a+CF (Nt i) x=_;rw[Nat.zero_mul,Xd3,Xf x i];rfl
theorem Xe(p:List Nat):CF p []=0:=by cases p<;>rfl
theorem KH:∀p q x,CF (GH p q) x=CF p x+CF q x
 | [],q,x=>(Xd3 _).symm
 |_::_,[],x=>rfl
 |a::p,b::q,[]=>rfl
 |a::p,b::q,c::x=>by show(a+b)*c+CF (GH p q) x=a*c+CF p x+(b*c+CF q x);rw[KH p q x,Xig,Nat.add_add_add_comm]
theorem J3(n:Nat):∀p x,CF (GI n p) x=n*CF p x
 | [],x=>rfl
 |_::_,[]=>rfl
 |a::p,c::x=>by show n*a*c+CF (GI n p) x=n*(a*c+CF p x);rw[J3 n p x,Nat.mul_add,Nat.mul_assoc]
theorem Sk:∀p q x,QO p q=true->CF p x<=CF q x
 | [],q,x,_=>Xdd _
 |_::_,_,[],_=>by rw[Xe,Xe];exact Xc4 _
 |a::p,[],c::x,h=>by have Y:=Nat.eq_of_beq_eq_true (al h);have T:=Sk p [] x (ar h);rw[Y];show 0*c+CF p x<=0;rw[Nat.zero_mul,Xd3];exact T
 |a::p,b::q,c::x,h=>Nat.add_le_add (Xer c (Xch (al h))) (Sk p q x (ar h))
structure Rd where
 f:List Nat->Nat
 p:List Nat
 r:Nat
def Sg(d:Nat->Rd)(c:Nat):Nat->Rd
 |0=>⟨λx=>QC x (c / 6 % 16),0::Nt (c / 6 % 16),c / 96⟩
 |1=>⟨λ_=>c / 6 % 2048,[c / 6 % 2048],c / 12288⟩
 |2=>⟨λx=>(d (c / 6)).f x+(d (d (c / 6)).r).f x,GH (d (c / 6)).p (d (d (c / 6)).r).p,(d (d (c / 6)).r).r⟩
 |3=>⟨λx=>c / 6 % 64*(d (c / 384)).f x,GI (c / 6 % 64) (d (c / 384)).p,(d (c / 384)).r⟩
 |4=>⟨λx=>(d (c / 384)).f x*(c / 6 % 64),GI (c / 6 % 64) (d (c / 384)).p,(d (c / 384)).r⟩
 |_=>⟨λ_=>c / 6 % 0x10000000000000000,[c / 6 % 0x10000000000000000],c / 0x60000000000000000⟩
noncomputable def I1:Nat->Nat->Rd
 |0,c=>⟨λ_=>0,[],c⟩
 |n+1,c=>Sg (I1 n) c (c % 6)
def val(p x:List Nat):Nat:=CF p (1::x)
theorem J2(x:List Nat):∀n c,(I1 n c).f x=val (I1 n c).p x
 |0,c=>rfl
 |n+1,c=>by
  have Y:=J2 x n (c / 6);have T:=J2 x n (I1 n (c / 6)).r;have H:=J2 x n (c / 384);show(Sg (I1 n) c (c % 6)).f x=val (Sg (I1 n) c (c % 6)).p x;generalize c % 6=k
  match k with
  |0=>show QC x _=0*1+CF (Nt _) x;rw[Nat.zero_mul,Xd3,Xf]
  |1=>show _=_*1+CF [] x;rw[Nat.mul_one];rfl
  |2=>show _+_=CF (GH _ _) _;rw[KH,Y,T];rfl
  |3=>show _*_=CF (GI _ _) _;rw[J3,H];rfl
  |4=>show _*_=CF (GI _ _) _;rw[J3,H,Nat.mul_comm];rfl
  |k+5=>show _=_*1+CF [] x;rw[Nat.mul_one];rfl
def lhs(c:Nat):Rd:=I1 30 c
def rhs(c:Nat):Rd:=I1 30 (lhs c).r
def bA(c:Nat)(x:List Nat):Prop:=(lhs c).f x<=(rhs c).f x
noncomputable def UA:Nat->Nat->List Nat->Prop->Prop
 |0,_,_,G=>G
 |n+1,c,x,G=>match c with
  |0=>G
  |d+1=>bA ((d+1) / 64) x->UA n (rhs ((d+1) / 64)).r x G
noncomputable def L9:Nat->Nat->List Nat×List Nat
 |0,_=>([],[])
 |n+1,c=>match c with
  |0=>([],[])
  |d+1=>(GH (GI ((d+1) % 64) (lhs ((d+1) / 64)).p) (L9 n (rhs ((d+1) / 64)).r).1,GH (GI ((d+1) % 64) (rhs ((d+1) / 64)).p) (L9 n (rhs ((d+1) / 64)).r).2)
theorem Zv{G:Prop}:∀n c,(val (L9 n c).1 x<=val (L9 n c).2 x->G)->UA n c x G
 |0,c,h=>h (Xc4 _)
 |n+1,0,h=>h (Xc4 _)
 |n+1,d+1,h=>λY=>Zv n _ λT=>h (by show CF (GH _ _) _<=CF (GH _ _) _;rw[KH,KH,J3,J3];have Y:(lhs ((d+1) / 64)).f x<=(rhs ((d+1) / 64)).f x:=Y;rw[show(lhs ((d+1) / 64)).f x=val _ x from J2 x 30 _,show(rhs ((d+1) / 64)).f x=val _ x from J2 x 30 _]at Y;exact Nat.add_le_add (Nat.mul_le_mul_left _ Y) T)
def jy(c:Nat):Bool:=Nat.blt 0 (c % 64)&&QO (GH (GI (c % 64) (lhs (c / 64)).p) (L9 12 (rhs (c / 64)).r).2) (GH (GI (c % 64) (rhs (c / 64)).p) (L9 12 (rhs (c / 64)).r).1)
theorem lin(x:List Nat)(c:Nat)(e:jy c=true):UA 12 (rhs (c / 64)).r x (bA (c / 64) x):=Zv _ _ λh=>by have Y:=Sk _ _ (1::x) (ar e);rw[KH,KH,J3,J3]at Y;have T:=Xch (al e);show(lhs (c / 64)).f x<=(rhs (c / 64)).f x;rw[show(lhs (c / 64)).f x=val _ x from J2 x 30 _,show(rhs (c / 64)).f x=val _ x from J2 x 30 _];refine Nat.le_of_mul_le_mul_left (Nat.le_of_add_le_add_right (Xcq Y (Xff h _))) T
theorem Hb{P:Prop}(h:1<=0):P:=absurd h (Xgx 0)
theorem sA(a b:Nat):a<=a - b+b:=Nat.le_add_of_sub_le (Xc4 _)
theorem sB{a b:Nat}(h:b<=a):a - b+b<=a:=Xcg (Nat.sub_add_cancel h)
theorem sC(h:a<=b):a - b<=0:=Xcg (Nat.sub_eq_zero_of_le h)
theorem mA{a b:Nat}(h:a<=b):a<=min a b:=Nat.le_min.mpr ⟨Xc4 a,h⟩
theorem mB{a b:Nat}(h:b<=a):b<=min a b:=Nat.le_min.mpr ⟨h,Xc4 b⟩
theorem xA{a b:Nat}(h:b<=a):max a b<=a:=Xh9.mpr ⟨Xc4 a,h⟩
theorem xB{a b:Nat}(h:a<=b):max a b<=b:=Xh9.mpr ⟨h,Xc4 b⟩
set_option backward.match.sparseCases false
theorem kn:∀t,(∃f,endAt 0 t=some f)\/(endAt 0 t=none/\through t=false):=by
 rintro⟨c,h,b,s⟩;cases s with
 |cons a l=>exact .inr ⟨rfl,rfl⟩
 |nil=>
  cases c with
  |pure x=>cases x with
   |done f=>exact .inl ⟨f,rfl⟩
   |_=>exact .inr ⟨rfl,rfl⟩
  |_=>exact .inr ⟨rfl,rfl⟩
theorem kl(t:Thread)(f:Flow)(h:endAt 0 t=some f):through t=true:=by
 obtain⟨c,b,d,s⟩:=t;cases s with
 |cons a l=>exact nS h
 |nil=>
  cases c with
  |pure x=>cases x with
   |done f=>rfl
   |_=>exact nS h
  |_=>exact nS h
theorem fB:
  ∀{n:Nat}{s l:Shared}{t:Thread}{f:Flow}{c:Code}{q:Pos},segRun tb p w a b 0 n s t=some (f,l,c,q)->topRun tb p w a b n s t=some l
 |0,_,_,_,_,_,_,h=>nS h
 |n+1,s,l,t,f,c,q,h=>by
  unfold segRun at h;unfold topRun;rcases kn t with⟨g,U⟩|⟨U,i⟩
  ·refine rL (kl t g U) ?_;replace h:=U▸ h;cases h;rfl
  ·replace h:=U▸ h;refine rL i ?_;dsimp only at h ⊢;cases L:stepOk a b t with
   |false=>replace h:=L▸ h;exact nS h
   |true=>
    replace h:=L▸ h;dsimp only at h ⊢;cases I:step (denote tb) p w s t with
    |halt o d=>replace h:=I▸ h;exact nS h
    |go d e=>replace h:=I▸ h;exact fB h
def jM(P:Params):BT:=
 ((((((((((BT.nil.ins 0 (boot_o_0 P)).ins 1 (boot_o_1 P)).ins 2 (boot_o_2 P)).ins 3 (boot_o_3 P)).ins 4 (boot_o_4 P)).ins 5 (boot_o_5 P)).ins 6 (boot_o_6 P)).ins 7 (boot_o_7 P)).ins 8 (boot_o_8 P)).ins 9 (boot_o_9 P)).ins 10 (boot_o_10 P)
def S0(w:World)(n:OsState):Shared:=⟨boot_heap w.params,#[],boot_drawn,boot_toks,n⟩
def T0(w:World)(n:OsState):SharedT:=⟨jM w.params,11,(boot_heap w.params).life,#[],boot_drawn,boot_toks,n⟩
theorem iH(w:World)(n:OsState):(T0 w n).abs=S0 w n:=rfl
theorem uJ{p q:Program}{i:List Str}{j:Shared->Bool}{m:Type}{Y:Shared->m}{l:World->m}{N M a:Nat}{g:Option Value}{o:Bool}
  (u:∀w:World,(fencedOpening treeTable p w N).map (λs=>(s.heap,s.gens,s.drawn,s.toks))=some (boot_heap w.params,Array.mk [],boot_drawn,boot_toks))
  (v:∀w:World,((boot_heap w.params).isNs mainGlobals,(boot_heap w.params).objs.size,(boot_heap w.params).nsMap mainGlobals "__annotations__")=(true,a,g)) (le:Nat.ble M N=true)
  (y:∀w n,(segRunT treeTable p w a g 0 M (T0 w n) (topStub p)).map (λx=>
   (staticsOk (importedModules p.main.body) (S0 w n).heap x.2.1.abs.heap&&namesBound p x.2.1.abs.heap&&gensDone x.2.1.abs&&laidKept (S0 w n).heap x.2.1.abs.heap,
    openSeen q i (importedModules p.main.body) j o x.2.1.abs,Y x.2.1.abs))=some (true,openGood q i,l w)):LeftO p q i j Y l N o:=λw=>by
 refine AB λJ=>AJ (Xgi.mp (u w)) λb e E=>?_;obtain⟨h,I,d,k,n⟩:=b;obtain⟨rfl,rfl,rfl,rfl⟩:h=boot_heap w.params/\I=Array.mk []/\d=boot_drawn/\k=boot_toks:=by simpa using E
 obtain⟨H,L,O⟩:_/\_/\_:=by simpa only[Prod.mk.injEq]using v w
 refine AJ (Xgi.mp (y w n)) λb A z=>?_;obtain⟨f,G,c,Q⟩:=b;obtain⟨B,C,D⟩:_/\_/\_:=by simpa only[Prod.mk.injEq]using z
 have r:=fB (segRun_of A);rw[iH]at r;have r:=topRun_mono (N - M) _ _ _ _ r;rw[show M+(N - M)=N by have:=Xch le;omega]at r;have t:topFrom treeTable p w N (S0 w n)=some G.abs:=by
  unfold topFrom;show(match (boot_heap w.params).isNs mainGlobals&&true with|true=>_|false=>_)=_;refine rL H ?_;show(topRun treeTable p w (boot_heap w.params).objs.size ((boot_heap w.params).nsMap mainGlobals "__annotations__") N (S0 w n) (topStub p)).bind _=_;refine rL L (rL O (rL r ?_));show(match _ with|true=>_|false=>_)=_;exact rL B rfl
 refine J ?_;unfold openEnds;refine rL e ?_;show(topFrom treeTable p w N (S0 w n)).map _=_;exact rL t (congrArg some (Prod.ext C D))
noncomputable def PC(as:List Addr)(h:Heap):Frag:=as.filterMap λa=>(h.get? a).map λo=>(a,o)
theorem nP:(PC as h).In h:=by
 intro a o e;induction as with
 |nil=>exact nS e
 |cons b r Q=>
  unfold PC at e;rw[Xg6]at e;cases q:h.get? b with
  |none=>rw[q]at e;exact Q e
  |some s=>
   rw[q]at e;have e:(match a==b with|true=>some s|false=>(PC r h).lookup a)=some o:=e;cases z:a==b with
   |true=>rw[z]at e;exact rL (Xej.mp z) (q.trans e)
   |false=>rw[z]at e;exact Q e
noncomputable def Vb(name:Str):List Stmt->Option (Arguments×List Stmt×Scope)
 | []=>none
 | .FunctionDef n a b _ _ _ M _ _ _::r=>if n==name then some (a,b,M)else Vb name r
 |_::r=>Vb name r
noncomputable def Va(name:Str):List Stmt->List Stmt
 | []=>[]
 | .ClassDef n _ _ b _ _ _ _ _ _ _::r=>if n==name then b else Va name r
 |_::r=>Va name r
def CT(p:Program)(cls name:Str):Option (Arguments×List Stmt×Scope):=Vb name (if cls=="" then p.main.body else Va cls p.main.body)
structure RJ where
 name:Str
 qual:Str
 params:Arguments
 body:FuncBody
 scope:Scope
 globals:Addr
 closure:List (Str×Addr)
 defaults:Value
 kwdefaults:Value
 builtins:Addr
noncomputable def Se:Data->Option (Array Value)| .fields vs=>some vs|_=>none
noncomputable def Sf:Data->Option FuncData| .func f=>some f|_=>none
noncomputable def XO:Data->Option ClassData| .cls c=>some c|_=>none
noncomputable def XQ:Data->Option (Array DictEntry×Nat)| .dict a n=>some (a,n)|_=>none
theorem XR(h:Se d=some x):d= .fields x:=by cases d<;>first|exact nS h|exact congrArg Data.fields (Xcl h)
theorem kQ(h:Sf d=some x):d= .func x:=by cases d<;>first|exact nS h|exact congrArg Data.func (Xcl h)
theorem kO(h:XO d=some x):d= .cls x:=by cases d<;>first|exact nS h|exact congrArg Data.cls (Xcl h)
theorem kP(h:XQ d=some x):d= .dict x.1 x.2:=by cases d<;>first|exact nS h|exact congrArg (λq=>Data.dict q.1 q.2) (Xcl h)
def yq(o:Obj):Option (RJ×Value):=(Sf o.data).map λD=>(⟨D.name,D.qualname,D.params,D.body,D.scope,D.globals,D.closure,D.defaults,D.kwdefaults,D.builtins⟩,o.cls)
structure Dk where
 a:Addr
 cls:Str
 name:Str
 dV:Option Addr
noncomputable def Dk.qual(f:Dk):Str:=if f.cls=="" then f.name else f.cls++"."++f.name
def Dk.wants(p:Program)(f:Dk):Option (RJ×Value):=(CT p f.cls f.name).map λr=>
 (⟨f.name,f.qual,r.1,.stmts r.2.1,r.2.2,mainGlobals,[],(match f.dV with|some a=>Value.ref a|none=>Value.none),.none,builtinsNs⟩,.type "function")
noncomputable def FU:List Dk:=[
 ⟨370,"","least_of",none⟩,⟨377,"","most_of",none⟩,⟨384,"","places_of",none⟩,⟨391,"","bounds_text",none⟩,⟨398,"","expected",none⟩,⟨405,"","check_count",none⟩,⟨412,"","arity",none⟩,⟨419,"","group_names",none⟩,
 ⟨424,"","names_in",none⟩,⟨431,"","fitted",none⟩,⟨438,"","items_of",none⟩,⟨445,"","put_place",none⟩,⟨452,"","put_all",none⟩,⟨459,"","bind",none⟩,⟨466,"","proc_lambda",none⟩,⟨473,"","proc_arity",none⟩,⟨478,"","proc_parameters",none⟩,
 ⟨811,"","_law_box",none⟩,⟨818,"","_law_take",none⟩,⟨825,"","_law_name",none⟩,⟨832,"","_law_place",none⟩,⟨837,"","_law_shape",none⟩,⟨844,"","_law_counts",none⟩,⟨851,"","_law_fit",none⟩,⟨856,"","_law_put",none⟩,⟨861,"","_law_names",none⟩,
 ⟨866,"","_law_plain",none⟩,⟨871,"","_law_thing",none⟩,⟨876,"","_law_bound",none⟩,⟨881,"","_law_due",none⟩,⟨886,"","_law_told_right",none⟩,⟨891,"","_law_shape_right",none⟩,⟨898,"","law",none⟩,
 ⟨39,"Params","__init__",some 32⟩,⟨69,"Thing","__init__",none⟩,⟨91,"Text","__init__",some 84⟩,⟨111,"ListThing","__init__",some 104⟩,⟨190,"ProcThing","__init__",some 183⟩,⟨210,"ErrorThing","__init__",some 203⟩,⟨250,"ModuleThing","__init__",some 243⟩,
 ⟨493,"GemError","__init__",some 486⟩,⟨513,"Raised","__init__",none⟩,⟨560,"World","__init__",some 553⟩,⟨581,"World","number",none⟩,⟨602,"World","builtin",none⟩,⟨607,"World","make_builtin",none⟩,⟨614,"World","give_own",none⟩,
 ⟨664,"World","text",none⟩,⟨671,"World","list_of",none⟩,⟨699,"World","proc",none⟩,⟨727,"World","error",none⟩,⟨734,"World","fail",none⟩]
def J0(K:Frag)(a:Addr):Value:=(((K.lookup a).bind λo=>Sf o.data).map (·.code)).getD .none
structure Ju where
 C:Addr
 f:Addr
 fs:List Str
noncomputable def DQ:List Str:=["number","owner","fields","own","frozen","ident"]
noncomputable def Hy:List Ju:=[
 ⟨49,39,["required","optional","rest","post","block"]⟩,⟨72,69,DQ⟩,⟨94,91,DQ++(["text"]:List Str)⟩,⟨114,111,DQ++(["items"]:List Str)⟩,
 ⟨193,190,DQ++(["params","body","env","self_value","nesting","home","site","is_lambda","definer"]:List Str)⟩,⟨213,210,DQ++(["message","cause"]:List Str)⟩,
 ⟨260,250,DQ++(["name","is_class","parent","outer","methods","constants","mixed","ahead","attached","native","kept"]:List Str)⟩,
 ⟨800,560,["natives","prelude","read","most","taken","last_number","last_ident","symbol_idents","made","version","const_version","globals","out","is_ready","main"]⟩]
noncomputable def SN(K:Frag)(c:Ju):Bool:=
 makesIn K c.C&&findIn K (.ref c.C) "__init__"==some (some (.ref c.f))&&isFn K (.ref c.f)&&plainGet K c.C "__class__"&&hasDictIn K c.C&&plainOver K c.C&&
 findIn K (.ref c.C) "__getattribute__"==some (some (.builtin "object.__getattribute__"))&&findIn K (.ref c.C) "__setattr__"==some (some (.builtin "object.__setattr__"))&&
 findIn K (.ref c.C) "__class__"==some (some (.builtin "object.__class__"))&&mroIn K c.C (.type "object")==some true&&
 kitOne K (.ref c.C) (.ref 49)==some (c.C==49)&&kitOne K (.ref c.C) (.ref 114)==some (c.C==114)&&kitOne K (.ref c.C) (.type "str")==some false&&kitOne K (.ref c.C) (.type "list")==some false&&
 c.fs.all λx=>findIn K (.ref c.C) x==some none&&takerIn K c.C x==some none
noncomputable def meths:List (Str×Addr):=[("number",581),("builtin",602),("make_builtin",607),("give_own",614),("text",664),("list_of",671),("proc",699),("error",727),("fail",734)]
noncomputable def SO(K:Frag)(m:Str×Addr):Bool:=findIn K (.ref 800) m.1==some (some (.ref m.2))&&isFn K (.ref m.2)&&keepIn K (.ref m.2)
noncomputable def oH:List (Str×Value):=[("Params",.ref 49),("Thing",.ref 72),("Text",.ref 94),("ListThing",.ref 114),("ProcThing",.ref 193),("ErrorThing",.ref 213),("ModuleThing",.ref 260),("GemError",.ref 496),("Raised",.ref 516),("World",.ref 800)]
def MU:List (Str×Value):=oH++(FU.filter λf=>f.cls==Str.ofString "").map λf=>(f.name,.ref f.a)
noncomputable def HO:List (Str×Value):=[("len",.builtin "len"),("int",.type "int"),("str",.type "str"),("abs",.builtin "abs"),("list",.type "list"),("min",.builtin "min"),("isinstance",.builtin "isinstance"),("range",.type "range"),("sorted",.builtin "sorted"),("ValueError",.type "ValueError")]
noncomputable def ju(K:Frag)(x:Str×Value):Bool:=nsIn K mainGlobals x.1==some none&&bootBuiltins x.1==some x.2&&x.1 !=("__name__")
noncomputable def Sz:List String:=["int","str","NoneType","list","tuple"]
def X7(K:Frag):Bool:=
 Hy.all (SN K)&&meths.all (SO K)&&MU.all (λx=>nsIn K mainGlobals x.1==some (some x.2)&&keepIn K x.2)&&HO.all (ju K)&&
 FU.all (λf=>codeIn K (J0 K f.a) f.qual)&&
 specialIn K (.builtin "object.__class__") "__get__"==some (some (.builtin "getset_descriptor.__get__"))&&takesIn K (.builtin "object.__class__")==some true&&
 Sz.all λT=>kitOne K (.type T) (.ref 49)==some false&&kitOne K (.type T) (.ref 114)==some false&&kitOne K (.type T) (.type "str")==some (T=="str")&&kitOne K (.type T) (.type "list")==some (T=="list")
noncomputable def G3(K:Frag):Frag:=K.filter λp=>p.1 !=878&&p.1 !=873
noncomputable def aR:Value->Bool
 | .str _ _=>true
 |_=>false
noncomputable def UD:Value->Bool
 | .int _ _=>true
 |_=>false
noncomputable def aJ:Value->Bool
 | .bool _=>true
 |_=>false
def Oe(K:Frag)(c P:Addr):Bool:=(K.lookup c).any λo=>o.cls== .type "code"&&(Se o.data).any λp=>
 p[11]? ==some (.ref P)&&aR (p.getD 18 .none)&&UD (p.getD 7 .none)&&aJ (p.getD 9 .none)&&UD (p.getD 10 .none)&&c !=P
def ej(K:Frag)(P:Addr):Bool:=(K.lookup P).any λo=>o.cls== .none&&o.dict.isNone&&o.slots.isEmpty&&(Se o.data).any (·.isEmpty)
noncomputable def X6:CFound->Option Value| .val u=>some u|_=>none
theorem js(h:X6 d=some x):d= .val x:=by cases d<;>first|exact nS h|exact congrArg CFound.val (Xcl h)
def SV(K:Frag)(c:Value)(v:Value):Bool:=(findCls K c (.type "type") "__init__").any λu=>(X6 u).any (·==v)
theorem SW{K:Frag}(h:SV K a v=true):findCls K a (.type "type") "__init__"=some (.val v):=
 IS h λU e q=>IS q λU E q=>e.trans (congrArg some ((js E).trans (congrArg CFound.val (eq_of_beq q))))
def SQ(K:Frag):Bool:=([878,873]).all (λa=>ej K a)&&Oe K 880 878&&Oe K 875 873&&J0 K 881== .ref 880&&J0 K 876== .ref 875&&(K.lookup sysModules).isSome
def X8(K:Frag):Bool:=
 ([(72,69),(496,493)]).all (λx=>specialIn K (.ref x.1) "__getattribute__"==some (some (.builtin "type.__getattribute__"))&&readsIn K x.1 (.type "type")&&SV K (.ref x.1) (.ref x.2)&&keepIn K (.ref x.2))&&
 SV K (.type "ValueError") (.builtin "ValueError.__init__")&&findIn K (.ref 800) "__getattr__"==some none
def MC(K:Frag):Bool:=X7 (G3 K)&&X8 (G3 K)&&SQ K
noncomputable def CY(l:List Value):Obj:=⟨.type "tuple",none,.seq l.toArray 0,#[]⟩
def Hi:List (Addr×Obj):=[(29,CY []),(30,CY []),(31,CY []),(32,CY [.ref 29,.ref 30,.none,.ref 31,.none]),(84,CY [.str "" 353]),(104,CY [.none]),(182,CY []),(183,CY [.none,.none,.none,.none,.ref 182,.none,.none,.bool false,.none]),(203,CY [.none]),
 (243,CY [.none,.bool false,.none,.none]),(486,CY [.str "" 912]),(553,CY [.none,.none,.int 20000 1135]),(533,CY [.str "Kernel" 973,.str "Comparable" 974,.str "Enumerable" 975]),(538,CY [.str "Kernel" 1095]),(540,CY [.str "Comparable" 1099]),(542,CY [.str "Enumerable" 1103])]
noncomputable def KV:List (Str×Value):=[("MODULES",.ref 533),("BUILTINS",.ref 534),("MIXED",.ref 537)]
noncomputable def UK:Value->Option Str| .str x _=>some x|_=>none
def Oh(K:Frag)(a:Addr):Option (Value×Option Addr×Array (Option Value)×Nat×List (Option Str×Int×Value)):=(K.lookup a).bind λo=>(XQ o.data).map λq=>
 (o.cls,o.dict,o.slots,q.2,q.1.toList.map λe=>(UK e.key,e.hash,e.val))
noncomputable def Oi(P:Params)(n:Nat)(l:List (Str×Value)):Option (Value×Option Addr×Array (Option Value)×Nat×List (Option Str×Int×Value)):=
 some (.type "dict",none,#[],n,l.map λx=>(some x.1,PyData.keyHash P x.1,x.2))
noncomputable def b0(x:Str):Str×Value:=(x,.none)
noncomputable def bs(x y:Str)(t:Nat):Str×Value:=(x,.str y t)
def ET:List (Str×Value):=[b0 "BasicObject",bs "Object" "BasicObject" 980,bs "Module" "Object" 983,bs "Class" "Module" 986,b0 "Kernel",b0 "Comparable",b0 "Enumerable",bs "NilClass" "Object" 995,bs "TrueClass" "Object" 998,bs "FalseClass" "Object" 1001,bs "Numeric" "Object" 1004,bs "Integer" "Numeric" 1007,bs "String" "Object" 1010,bs "Symbol" "Object" 1013,bs "Array" "Object" 1016,bs "Hash" "Object" 1019,bs "Range" "Object" 1022,bs "Proc" "Object" 1025,bs "Fiber" "Object" 1028,bs "Exception" "Object" 1031,bs "ScriptError" "Exception" 1034,bs "NotImplementedError" "ScriptError" 1037,bs "SystemStackError" "Exception" 1040,bs "StandardError" "Exception" 1043,bs "ArgumentError" "StandardError" 1046,bs "UncaughtThrowError" "ArgumentError" 1049,bs "FiberError" "StandardError" 1052,bs "IndexError" "StandardError" 1055,bs "KeyError" "IndexError" 1058,bs "StopIteration" "IndexError" 1061,bs "LocalJumpError" "StandardError" 1064,bs "NameError" "StandardError" 1067,bs "NoMethodError" "NameError" 1070,bs "NoMatchingPatternError" "StandardError" 1073,bs "NoMatchingPatternKeyError" "NoMatchingPatternError" 1076,bs "RangeError" "StandardError" 1078,bs "RuntimeError" "StandardError" 1080,bs "FrozenError" "RuntimeError" 1082,bs "TypeError" "StandardError" 1084,bs "ZeroDivisionError" "StandardError" 1086]
noncomputable def IM:List (Str×Value):=[("Object",.ref 538),("Numeric",.ref 539),("String",.ref 540),("Symbol",.ref 541),("Array",.ref 542),("Hash",.ref 543),("Range",.ref 544)]
def ik:List Addr:=[sysModules,cStatics,878,873,3,533,534,537]++Hi.map (·.1)++FU.flatMap (λf=>[f.a,f.a - 1])++[48,49,71,72,93,94,113,114,192,193,212,213,259,260,495,496,515,516,799,800]
noncomputable def Xa7:List Value:=[.ref 496,.type "ValueError",.type "Exception",.type "BaseException",.type "object"]
def jx(K:Frag):Bool:=(K.lookup 516).any λo=>o.cls== .type "type"&&o.slots.size==6&&(o.slots.toList[4]?).join==some (.builtin "ValueError.__new__")&&(XO o.data).any λL=>
 L.mro== .ref 516::Xa7&&L.hasDict&& !L.hasDel
def Oc(K:Frag):Bool:=
 jx K&&findIn K (.ref 516) "__init__"==some (some (.ref 513))&&isFn K (.ref 513)&&findIn K (.ref 516) "__setattr__"==some (some (.builtin "object.__setattr__"))&&
 findIn K (.ref 516) "__getattribute__"==some (some (.builtin "BaseException.__getattribute__"))&&findIn K (.ref 516) "__getattr__"==some none&&
 (["reason","thing"]:List Str).all (λx=>findIn K (.ref 516) x==some none&&takerIn K 516 x==some none)&&
 mroIn K 516 (.type "object")==some true&&mroIn K 516 (.type "BaseException")==some true&&typeIn K (.ref 516)==some (.type "type")&&mroIn K 516 (.type "ValueError")==some true&&
 exmOne K (.ref 516) (.ref 516)==some true
noncomputable def Fg:Program:=view PySem.Challenge.pw_nz0050_01 [78]
noncomputable def IQ:List Str:=["_wall","Params","SIMPLE_ESCAPES","OPERATORS","DEEPEST_KEY","Thing","Text","ListThing","TableThing","RangeThing","ProcThing","ErrorThing","FiberThing","ModuleThing","sort_of","same","code_of","is_word","is_label","is_plain_symbol","full_name","show_letter","show_text","show_symbol","show_pair","show_range","show_thing","show_error","show","least_of","most_of","places_of","bounds_text","expected","check_count","arity","group_names","names_in","fitted","items_of","put_place","put_all","bind","proc_lambda","proc_arity","proc_parameters","GemError","Raised","raise_version","own_module","MODULES","BUILTINS","MIXED","UNMADE","World","_law_box","_law_take","_law_name","_law_place","_law_shape","_law_counts","_law_fit","_law_put","_law_names","_law_plain","_law_thing","_law_bound","_law_due","_law_told_right","_law_shape_right"].map Str.ofString
abbrev OC:=Bool×List (Option (RJ×Value))×List (Option Obj)×List (Option (Option Value))×Option (Value×Option Addr×Array (Option Value)×Nat×List (Option Str×Int×Value))×Option (Value×Option Addr×Array (Option Value)×Nat×List (Option Str×Int×Value))
def Uz(K:Frag):OC:=(MC K&&Oc (G3 K),FU.map λf=>(K.lookup f.a).bind yq,Hi.map λx=>K.lookup x.1,KV.map λx=>nsIn K mainGlobals x.1,Oh K 534,Oh K 537)
def LM(w:World):OC:=(true,FU.map λf=>f.wants PySem.Challenge.pw_nz0050_01,Hi.map λx=>some x.2,KV.map λx=>some (some x.2),Oi w.params 40 ET,Oi w.params 7 IM)
def WQ(w:World)(h:Heap):Prop:=∃K:Frag,K.In h/\Uz K=LM w
def QH(s:Shared):OC:=Uz (PC ik s.heap)
def QD:Hook:=⟨OC,QH,LM,WQ,λu0 u0 e=>⟨_,nP,e⟩,λu0 u0 u0⟨K,a,b⟩k=>⟨K,a.keeps k,b⟩⟩
noncomputable def LB{α:Type}(f:Shared->α)(p q:Program)(loose:List Str)(h0:Heap)(wo:Nat)(ann:Option Value)(t:SharedT)(n:Nat)(w:World):=
 (segRunT treeTable p w wo ann 0 n t (topStub p)).map λx=>
  (staticsOk (importedModules p.main.body) h0 x.2.1.abs.heap&&namesBound p x.2.1.abs.heap&&gensDone x.2.1.abs&&laidKept h0 x.2.1.abs.heap,
    openSeen q loose (importedModules p.main.body) (λs=>xlAt q [] s&&recOk [] s) true x.2.1.abs,f x.2.1.abs)
theorem LB_self: @LB= @LB:=rfl
lay_quick Mine.LB
name_quick nzLB for Mine.LB by Mine.LB_self
theorem yg(w:World)(os:OsState):LB QH PySem.Challenge.pw_nz0050_01 Fg IQ (boot_heap w.params) 11 (some (.ref 6)) (T0 w os) 7300 (w.withFollow "special-get-raises" false)=some (true,openGood Fg IQ,LM (w.withFollow "special-get-raises" false)):=by
 rw[PySem.W.Fast.nzLB_eq]
 kernel_rfl
theorem yh(w:World)(os:OsState):LB QH PySem.Challenge.pw_nz0050_01 Fg IQ (boot_heap w.params) 11 (some (.ref 6)) (T0 w os) 7300 (w.withFollow "special-get-raises" true)=some (true,openGood Fg IQ,LM (w.withFollow "special-get-raises" true)):=by
 rw[PySem.W.Fast.nzLB_eq]
 kernel_rfl
theorem yi(w:World)(os:OsState):LB QH PySem.Challenge.pw_nz0050_01 Fg IQ (boot_heap w.params) 11 (some (.ref 6)) (T0 w os) 7300 w=some (true,openGood Fg IQ,LM w):=by
 have e:=World.withFollow_self w "special-get-raises";cases h:w.params.followText "special-get-raises"<;>rw[h]at e
 ·have r:=yg w os;rwa [e]at r
 ·have r:=yh w os;rwa [e]at r
theorem we:∀w:World,(fencedOpening treeTable PySem.Challenge.pw_nz0050_01 w 7300).map (λs=>(s.heap,s.gens,s.drawn,s.toks))=some (boot_heap w.params,Array.mk [],boot_drawn,boot_toks):=
 boot_open (by rfl) (by rfl) λs=>by rfl
theorem wY:LeftO PySem.Challenge.pw_nz0050_01 Fg IQ (λs=>xlAt Fg [] s&&recOk [] s) QD.obs QD.val 7300:=
 uJ we (λw=>by kernel_rfl) (by rfl) λw os=>yi w os
noncomputable def SB(p:Program):Bool:=looksOpen p
theorem SB_self:SB=SB:=rfl
lay_quick Mine.SB
name_quick nzSB for Mine.SB by Mine.SB_self
theorem wZ:SB PySem.Challenge.pw_nz0050_01=true:=by
 rw[PySem.W.Fast.nzSB_eq]
 kernel_rfl
theorem wg:PySem.Challenge.rw_nz0050_01.wellSaid=true:=by
 unfold OpenLaw.wellSaid OpenRow.wellSaid OpenRow.partSaid;rw[show looksOpen (OpenLaw.row PySem.Challenge.rw_nz0050_01).prog=true from wZ]
 kernel_rfl
def UP:DefRec:=((defOf Fg (Str.ofString "law")).map (·.1)).getD ⟨Str.ofString "",default,[],default,default⟩
theorem u1:defOf Fg (Str.ofString "law")=some (UP,[]):=by kernel_rfl
abbrev QF:RowW:=OpenRow.toRowW (OpenLaw.row PySem.Challenge.rw_nz0050_01)
theorem wX(call:WalkO Fg IQ (XL Fg []) WQ QF UP [] λf vs=>PySem.call f vs):PySem.Challenge.rw_nz0050_01.Holds:=by
 refine holds_law wg λym=>?_;refine PySem.W.holds_open wY QD.of QD.keeps (λs e=>xl_of s (Xdn.mp e).1) XL.keeps u1 (by kernel_rfl) (by kernel_rfl) (λs e=>recFacts_of (Xdn.mp e).2) (by rfl) ym (by decide+kernel) ⟨rfl,rfl,rfl,rfl,rfl,by decide+kernel⟩ ?hw call
 w_witness2
section
theorem Ai{m:Type}{l:List m}{a:m}(i:Nat)(h:l[i]? =some a:=by kernel_rfl):a∈l:=Xc0 h
inductive Val where
 |none
 |bool (b:Bool)
 |int (i:Int)
 |str (s:Str)
 |list (xs:List Val)
 |T (xs:List Val)
 |dict (ks:List Str)(xs:List Val)
 |I (c:Nat)(xs:List Val)
 |any
 deriving Inhabited
inductive OA(h:Heap)(M:Addr->Prop)(l:Nat)(R:List Value->Prop)(v:Value):Prop
 |mk (a)(vs:List Value)(n:Nat)(e:v= .ref a)(m:¬M a)(g:h.get? a=some (listOf (List.toArray vs) n))(k:l<=1000000)(r:R vs)
inductive Rl(h:Heap)(M:Addr->Prop)(l:Nat)(R:List Value->Prop)(v:Value):Prop
 |mk (a)(vs:List Value)(n:Nat)(e:v= .ref a)(m:¬M a)(g:h.get? a=some {cls:= .type "tuple",data:= .seq (List.toArray vs) n})(k:l<=1000000)(r:R vs)
inductive RG{P:Program}{w:World}(q:PySem.KeyKind P w Str)(h:Heap)(M:Addr->Prop)(ks:List Str)(R:List Value->Prop)(v:Value):Prop
 |mk (a)(CS:List (Str×Value))(e:v= .ref a)(m:¬M a)(g:h.DictOf q a CS)(k:CS.map (·.1)=ks)(s:a≠sysModules)(r:R (CS.map (·.2)))
inductive RN(h:Heap)(M:Addr->Prop)(c:Nat)(fs:List Str)(R:List Value->Prop)(v:Value):Prop
 |mk (a d)(m:Str->Option Value)(vs:List Value)(e:v= .ref a)(ma:¬M a)(md:¬M d)(g:h.get? a=some (instObj c d))(n:h.Ns d m)(f:fs.map m=vs.map some)(r:R vs)
inductive Ij(Q:Value->Prop)(R:List Value->Prop)(vs:List Value):Prop
 |mk (v:Value)(r:List Value)(e:vs=v::r)(q:Q v)(t:R r)
inductive gr(h:Heap)(a:Addr)(m:Str->Option Value):Prop
 |mk (o:Obj)(es:Array DictEntry)(ep:Nat)(e:h.get? a=some o)(d:o.data= .dict es ep)(k:StrKeys es)(f:∀name,nsFind es name=m name)
theorem F7{h b:Heap}{a:Addr}{m:Str->Option Value}(x:h.Ns a m)(k:∀o,h.get? a=some o->b.get? a=some o):b.Ns a m:=let⟨o,c,f,e,r⟩:=x;⟨o,c,f,k o e,r⟩
theorem XZ{h b:Heap}{a:Addr}{j:List (Str×Value)}(x:h.DictOf q a j)(k:∀o,h.get? a=some o->b.get? a=some o):b.DictOf q a j:=let⟨o,c,f,e,r⟩:=x;(DS o c f (k o e) r)
theorem Xb{h:Heap}{j:List (Str×Value)}(x:h.DictOf q a j):∃o,h.get? a=some o:=let⟨o,_,_,e,_⟩:=x;⟨o,e⟩
theorem Dn{h a:Heap}(k:∀o,h.get? b=some o->a.get? b=some o)(f:a.get? b=none):h.get? b=none:=by
 cases e:h.get? b with
 |none=>rfl
 |some o=>exact nG f (k o e)
theorem Dd(n:h.Ns a m):gr h a m:=let⟨o,c,b,e,d,k,f⟩:=n;⟨o,c,b,e,d,k,f⟩
section
variable (P:Program×World)(fl:Nat->List Str)(M:Addr->Prop)(h:Heap)
mutual
noncomputable def AZ:Val->Value->Prop
 | .none,v=>v= .none
 | .bool b,v=>v= .bool b
 | .int i,v=>∃t,v= .int i t
 | .str s,v=>(∃t,v= .str s t)/\s.cps.size<=1000000
 | .list a,v=>OA h M a.length (AO a) v
 | .T a,v=>Rl h M a.length (AO a) v
 | .dict d a,v=>RG (strKind P.1 P.2) h M d (AO a) v
 | .I c a,v=>RN h M c (fl c) (AO a) v
 | .any,v=>handedIn v=true
noncomputable def AO:List Val->List Value->Prop
 | [],p=>p=[]
 |x::a,p=>Ij (AZ x) (AO a) p
end
end
theorem Gh{m:Type}{M:Model}{A:Around}{t:Sem m}{Q:m->Shared->Prop}{E:Value->Shared->Prop}{s:Shared}(h:∀Q' o,(∀v s,Q v s->Q' v s)->wpAny M A t Q' o s):wpAny M A t Q E s:=h Q E λU U=>id
theorem ql{M:Model}{A:Around}{t:Code}{R:Result->Shared->Prop}{s:Shared}(h:∀c:Result->Shared->Prop,(∀r s,R r s->c r s)->codeAny M A t c s):codeAny M A t R s:=h R λU U=>id
theorem JH{m:Type}{M:Model}{A:Around}{t:Sem m}{Q:m->Shared->Prop}{E:Value->Shared->Prop}{s:Shared}(h:∀Q':m->Shared->Prop,(∀v s,Q v s->Q' v s)->wpAny M A t Q' E s):wpAny M A t Q E s:=h Q λU U=>id
section
variable {P:Program×World}{fl:Nat->List Str}{M:Addr->Prop}{h:Heap}{v:Value}{Q:Value->Prop}
@[elab_as_elim]theorem uN(e:AZ P fl M h .none v)(k:Q .none):Q v:=Eq.rec (motive:=λv U=>Q v) k (show Value.none=v from(show v= .none from e).symm)
@[elab_as_elim]theorem uB(e:AZ P fl M h (.bool b) v)(k:Q (.bool b)):Q v:=Eq.rec (motive:=λv U=>Q v) k (show Value.bool b=v from(show v= .bool b from e).symm)
@[elab_as_elim]theorem uI(e:AZ P fl M h (.int i) v)(k:∀t,Q (.int i t)):Q v:=by obtain⟨t,rfl⟩:=e;exact k t
@[elab_as_elim]theorem uS(e:AZ P fl M h (.str i) v)(k:∀t,i.cps.size<=1000000->Q (.str i t)):Q v:=by obtain⟨⟨t,rfl⟩,e⟩:=e;exact k t e
@[elab_as_elim]theorem uL(e:AZ P fl M h (.list xs) v)(k:∀a vs n,¬M a->h.get? a=some (listOf (List.toArray vs) n)->xs.length<=1000000->AO P fl M h xs vs->Q (.ref a)):Q v:=by obtain⟨a,vs,n,rfl,N,A,z,u⟩:=e;exact k a vs n N A z u
@[elab_as_elim]theorem uT(e:AZ P fl M h (.T xs) v)(k:∀a vs n,¬M a->h.get? a=some {cls:= .type "tuple",data:= .seq (List.toArray vs) n}->xs.length<=1000000->AO P fl M h xs vs->Q (.ref a)):Q v:=by obtain⟨a,vs,n,rfl,N,A,z,u⟩:=e;exact k a vs n N A z u
@[elab_as_elim]theorem uD(e:AZ P fl M h (.dict d xs) v)(k:∀a j,¬M a->h.DictOf (strKind P.1 P.2) a j->j.map (·.1)=d->a≠sysModules->AO P fl M h xs (j.map (·.2))->Q (.ref a)):Q v:=by obtain⟨a,j,rfl,N,A,z,u,L⟩:=e;exact k a j N A z u L
@[elab_as_elim]theorem uO(e:AZ P fl M h (.I c xs) v)(k:∀a d m vs,¬M a->¬M d->h.get? a=some (instObj c d)->h.Ns d m->(fl c).map m=vs.map some->AO P fl M h xs vs->Q (.ref a)):Q v:=by obtain⟨a,d,m,vs,rfl,N,A,z,u,L,q⟩:=e;exact k a d m vs N A z u L q
@[elab_as_elim]theorem Xae{Q:List Value->Prop}(e:AO P fl M h [] vs)(k:Q []):Q vs:=Eq.rec (motive:=λv U=>Q v) k (show[]=vs from(show vs=[]from e).symm)
@[elab_as_elim]theorem fN{Q:List Value->Prop}(e:AO P fl M h (x::xs) vs)(k:∀v r,AZ P fl M h x v->AO P fl M h xs r->Q (v::r)):Q vs:=by obtain⟨v,r,rfl,N,A⟩:=e;exact k v r N A
end
section
variable {P:Program×World}{fl:Nat->List Str}
mutual
theorem AZ.mono{M M':Addr->Prop}{h h':Heap}(k:∀b o,¬M b->h.get? b=some o->h'.get? b=some o/\¬M' b):∀x{v:Value},AZ P fl M h x v->AZ P fl M' h' x v
 | .none,_,e=>e
 | .bool b,_,e=>e
 | .int i,_,e=>e
 | .str s,_,e=>e
 | .list xs,v,e=>by refine AB λl=>?_;obtain⟨a,r,n,j,f,z,g,u⟩:=e;exact l (OA.mk a r n j (k _ _ f z).2 (k _ _ f z).1 g (AO.mono k xs u))
 | .T xs,v,e=>by refine AB λl=>?_;obtain⟨a,r,n,j,f,z,g,u⟩:=e;exact l (Rl.mk a r n j (k _ _ f z).2 (k _ _ f z).1 g (AO.mono k xs u))
 | .dict ks xs,v,e=>by refine AB λl=>?_;obtain⟨a,y,j,f,z,u,t,w⟩:=e;obtain⟨o,q⟩:=Xb z;exact l (RG.mk a y j (k _ _ f q).2 (XZ z λu0 q=>(k _ _ f q).1) u t (AO.mono k xs w))
 | .I c xs,v,e=>by refine AB λl=>?_;obtain⟨a,d,m,r,j,f,p,z,g,u,w⟩:=e;obtain⟨o,es,ep,q⟩:=Dd g;exact l (RN.mk a d m r j (k _ _ f z).2 (k _ _ p q).2 (k _ _ f z).1 (F7 g λu0 q=>(k _ _ p q).1) u (AO.mono k xs w))
 | .any,_,e=>e
theorem AO.mono(k:∀b o,¬M b->h.get? b=some o->h'.get? b=some o/\¬M' b):∀xs{vs:List Value},AO P fl M h xs vs->AO P fl M' h' xs vs
 | [],_,e=>e
 |x::xs,vs,e=>by refine AB λd=>?_;obtain⟨v,r,a,c,z⟩:=e;exact d (Ij.mk v r a (AZ.mono k x c) (AO.mono k xs z))
end
theorem AO.length:∀{xs:List Val}{vs:List Value},AO P fl M h xs vs->vs.length=xs.length
 | [],_,e=>by obtain rfl:=e;rfl
 |x::xs,vs,e=>by refine AB λa=>?_;obtain⟨v,r,rfl,_,z⟩:=e;exact a (rL Xd4 (rL Xd4 (rL (AO.length z) rfl)))
theorem AO.get:∀{xs:List Val}{vs:List Value},AO P fl M h xs vs->∀{i:Nat}{x:Val},xs[i]? =some x->∃v,vs[i]? =some v/\AZ P fl M h x v
 | [],_,_,i,x,q=>nS q
 |y::xs,vs,e,i,x,q=>by
  obtain⟨v,r,rfl,a,z⟩:=e;cases i with
  |zero=>obtain rfl:=sS q;exact(AG v rfl a)
  |succ i=>exact AO.get z (i:=i) (x:=x) q
theorem AO.append:∀{xs:List Val}{vs:List Value}{ys:List Val}{w:List Value},AO P fl M h xs vs->AO P fl M h ys w->AO P fl M h (xs++ys) (vs++w)
 | [],_,_,_,e,f=>by obtain rfl:=e;exact f
 |x::xs,vs,ys,w,e,f=>by refine AB λb=>?_;obtain⟨v,r,rfl,a,z⟩:=e;exact b (Ij.mk v _ rfl a (AO.append z f))
theorem AO.nil:AO P fl M h [] []:=rfl
theorem AO.cons(e:AZ P fl M h x v)(f:AO P fl M h xs vs):AO P fl M h (x::xs) (v::vs):=⟨v,vs,rfl,e,f⟩
theorem vL(m:¬M a)(g:h.get? a=some (listOf (List.toArray vs) n))(l:xs.length<=1000000)(r:AO P fl M h xs vs):AZ P fl M h (.list xs) (.ref a):=⟨a,vs,n,rfl,m,g,l,r⟩
theorem AO.one(e:AZ P fl M h x v):AO P fl M h [x] [v]:= .cons e .nil
theorem AO.take:∀{xs:List Val}{vs:List Value}k,AO P fl M h xs vs->AO P fl M h (xs.take k) (vs.take k)
 | [],_,k,e=>by obtain rfl:=e;refine rL List.take_nil (rL List.take_nil ?_);rfl
 |x::xs,vs,k,e=>by
  obtain⟨v,r,rfl,a,z⟩:=e;cases k with
  |zero=>exact rfl
  |succ k=>exact Ij.mk v _ rfl a (AO.take k z)
theorem AO.drop:∀{xs:List Val}{vs:List Value}k,AO P fl M h xs vs->AO P fl M h (xs.drop k) (vs.drop k)
 | [],_,k,e=>by obtain rfl:=e;refine rL List.drop_nil (rL List.drop_nil ?_);rfl
 |x::xs,vs,k,e=>by
  obtain⟨v,r,rfl,a,z⟩:=e;cases k with
  |zero=>exact Ij.mk v _ rfl a z
  |succ k=>exact AO.drop k z
theorem AZ.handed:∀{x:Val}{v:Value},AZ P fl M h x v->handedIn v=true
 | .none,_,e=>by obtain rfl:=e;rfl
 | .bool b,_,e=>by obtain rfl:=e;rfl
 | .int i,_,e=>by obtain⟨_,rfl⟩:=e;rfl
 | .str i,_,e=>by obtain⟨⟨_,rfl⟩,_⟩:=e;rfl
 | .list xs,_,e=>by obtain⟨_,_,_,rfl,_⟩:=e;rfl
 | .T xs,_,e=>by obtain⟨_,_,_,rfl,_⟩:=e;rfl
 | .dict ks xs,_,e=>by obtain⟨_,_,rfl,_⟩:=e;rfl
 | .I c xs,_,e=>by obtain⟨_,_,_,_,rfl,_⟩:=e;rfl
 | .any,_,e=>e
end
end
inductive OV where
 |list (xs:List Val)
 |dict (ks:List Str)(xs:List Val)
 |Z (k:Nat)
inductive LV where
 |O
 |U
 |V (x:Val)
 |N (c:OV)
 |P (c:OV)
 deriving Inhabited
inductive Slot where
 |d (D:Addr)(x:Str)
 |c (a:Addr)
noncomputable def Slot.at:Slot->Addr
 | .d D _=>D
 | .c a=>a
def Slot.apart:Slot->Slot->Prop
 | .d D x,.d E y=>D≠E\/x≠y
 |s,t=>s.at≠t.at
def Slot.Dx(h:Heap):Slot->Value->Prop
 | .d D x,v=>∃m,h.Ns D m/\m x=some v
 | .c a,v=>h.IsCell a (some v)
def Slot.Af(h:Heap):Slot->Prop
 | .d D _=>∃m,h.Ns D m
 | .c a=>∃v,h.IsCell a v
abbrev St:=List LV
noncomputable def St.at(σ:St)(i:Nat):LV:=σ.getD i .O
structure Cx where
 prog:Program
 w:World
 K:Frag
 mg:Str->Option Value
 mb:Str->Option Value
 base:Heap
 fl:Nat->List Str
 wa:(Addr->Prop)->Heap->List Addr->Nat->Prop
 tb:Addr->Prop
 gi:(Addr->Prop)->Heap->Prop
@[reducible]noncomputable def Mo(c:Cx):Model:=model c.prog c.w
def Ch(F X:Addr->Prop)(h a:Heap):Prop:=
 ∀b o,¬X b->h.get? b=some o->(¬F b->a.get? b=some o)/\(∃s,a.get? b=some s/\((∀p,o.data≠.fields p)->∀p,s.data≠.fields p))/\∀m,h.Ns b m->a.Ns b m
theorem Ch.of(k:∀b o,¬X b->h.get? b=some o->h'.get? b=some o):Ch F X h h':=
 λb o a e=>(AX (λc=>k b o a e) ⟨o,k b o a e,λq=>q⟩ λc g=>let⟨s,es,ep,ho,r⟩:=g;⟨s,es,ep,k b s a ho,r⟩)
theorem Ch.refl:Ch F X h h:= .of λa a a e=>e
theorem Ch.trans{h a i:Heap}(x:Ch F X h a)(y:Ch F Y a i)(k:∀b,¬X b->(∃o,h.get? b=some o)->¬Y b):Ch F X h i:=by intro b o f e;haveI g:=k b f ⟨o,e⟩;refine AB λr=>Bf (x b o f e) λs c u=>?_;obtain⟨z,t,d⟩:=c;refine Bf (y b _ g t) λ_ c w=>?_;obtain⟨j,v,n⟩:=c;exact r (AX (λl=>(y b o g (s l)).1 l) ⟨j,v,λq=>n (d q)⟩ λm p=>w m (u m p))
theorem Ch.weaken(x:Ch F X h h')(d:∀b,X b->c b)(t:∀b,¬c b->F b->y b):Ch y c h h':=
 λb o a e=>⟨λl=>(x b o (λq=>a (d b q)) e).1 λq=>l (t b a q),(x b o (λq=>a (d b q)) e).2⟩
theorem Ch.ns(x:Ch F X h h')(nx:¬X D)(g:h.Ns D m):h'.Ns D m:=by refine AB λb=>?_;obtain⟨o,c,f,a⟩:=Dd g;exact b ((x D o nx a).2.2 m g)
theorem Ch.cell(x:Ch F X h h')(nx:¬X a)(l:¬F a)(g:h.IsCell a v):h'.IsCell a v:=AB λc=>AJ g λo b u=>c (AG o ((x a o nx b).1 l) u)
theorem Ch.has(x:Ch F X h h'){s:Slot}(nx:¬X s.at)(l:(∃a,s= .c a)->¬F s.at)(e:s.Dx h v):s.Dx h' v:=by
 cases s with
 |d D y=>exact AJ e λm a b=>(AG m (x.ns nx a) b)
 |c a=>exact x.cell nx (l (AN a rfl)) e
theorem Ch.free(x:Ch F X h h'){s:Slot}(nx:¬X s.at)(l:(∃a,s= .c a)->¬F s.at)(e:s.Af h):s.Af h':=by
 cases s with
 |d D y=>exact AK e λm a=>(AN m (x.ns nx a))
 |c a=>exact AK e λv b=>(AN v (x.cell nx (l ⟨a,rfl⟩) b))
theorem Ch.push(o:Obj):Ch F X h (h.push o):= .of λa a a e=>Xcf _ e
theorem Ch.sameBut(s:Heap.SameBut a h h')(ha:X a):Ch F X h h':= .of λb d c e=>(s.2 b λq=>c (q▸ ha)).trans e
theorem Ch.keeps(s:∀b o,h.get? b=some o->h'.get? b=some o):Ch F X h h':= .of λb o a e=>s b o e
theorem Ch.some(x:Ch F X h h')(nx:¬X b)(e:h.get? b=some o):∃s,h'.get? b=some s:=
 let⟨_,⟨s,q,_⟩,_⟩:=x b o nx e;⟨s,q⟩
inductive i4(h:Heap)(fp:List Addr)(l:Nat)(R:List Value->Prop):Prop
 |mk (a)(vs:List Value)(n:Nat)(e:fp=[a])(g:h.get? a=some (listOf (List.toArray vs) n))(k:l<=1000000)(r:R vs)
inductive i0{P:Program}{w:World}(q:PySem.KeyKind P w Str)(h:Heap)(fp:List Addr)(ks:List Str)(R:List Value->Prop):Prop
 |mk (a)(CS:List (Str×Value))(e:fp=[a])(g:h.DictOf q a CS)(k:CS.map (·.1)=ks)(s:a≠sysModules)(r:R (CS.map (·.2)))
def Bu(c:Cx)(M:Addr->Prop)(h:Heap)(t:List Addr):OV->Prop
 | .list a=>i4 h t a.length (AO (c.prog,c.w) c.fl M h a)
 | .dict d a=>i0 (strKind c.prog c.w) h t d (AO (c.prog,c.w) c.fl M h a)
 | .Z k=>c.wa M h t k
structure WI(K:Frag)(C:Addr)(names:List Str):Prop where
 ga:findIn K (.ref C) "__getattribute__"=some (some (.builtin "object.__getattribute__"))
 pg:plainGet K C "__class__"=true
 hd:hasDictIn K C=true
 no:∀x∈names,findIn K (.ref C) x=some none
 ca:findIn K (.ref C) "__class__"=some (some (.builtin "object.__class__"))
 mo:mroIn K C (.type "object")=some true
 aV:∀d,d=49\/d=114->kitOne K (.ref C) (.ref d)=some (C==d)
 sY:kitOne K (.ref C) (.type "str")=some false
 sX:kitOne K (.ref C) (.type "list")=some false
 nd:names.Nodup
structure WO(K:Frag)(fl:Nat->List Str):Prop where
 cls:∀C,C=49\/C=114\/C=193->WI K C (fl C)
 cg:specialIn K (.builtin "object.__class__") "__get__"=some (some (.builtin "getset_descriptor.__get__"))
 ct:takesIn K (.builtin "object.__class__")=some true
 ti:∀T,T="int"\/T="str"\/T="NoneType"\/T="list"\/T="tuple"->∀d,d=49\/d=114->kitOne K (.type T) (.ref d)=some false
 ts:∀T,T="int"\/T="str"\/T="NoneType"\/T="list"\/T="tuple"->kitOne K (.type T) (.type "str")=some (T=="str")
 tl:∀T,T="int"\/T="str"\/T="NoneType"\/T="list"\/T="tuple"->kitOne K (.type T) (.type "list")=some (T=="list")
structure Cx.Ok(c:Cx):Prop where
 BE:c.K.In c.base
 HY:WO c.K c.fl
 tg:c.base.Ns mainGlobals c.mg
 Np:c.base.Ns builtinsNs c.mb
 nolimit:c.base.NoLimit
 blt:∀x:Str,x≠"__name__"->c.mb x=bootBuiltins x
 fb:∀{M M':Addr->Prop}{h h':Heap}{fp:List Addr}{k:Nat},c.wa M h fp k->(∀b o,(¬M b\/b∈fp)->h.get? b=some o->h'.get? b=some o/\(¬M b->¬M' b))->c.wa M' h' fp k
 fe:∀{M:Addr->Prop}{h:Heap}{fp:List Addr}{k:Nat},c.wa M h fp k->∀b∈fp,∃o,h.get? b=some o
 fZ:∀{M:Addr->Prop}{h:Heap}{fp:List Addr}{k:Nat},c.wa M h fp k->∃a r,fp=a::r
 KS:∀{M M':Addr->Prop}{h h':Heap},c.gi M h->(∀b o,(¬M b\/c.tb b)->h.get? b=some o->h'.get? b=some o/\(¬M b->¬M' b))->c.gi M' h'
 I8:∀{M:Addr->Prop}{h:Heap},c.gi M h->∀a,c.tb a->∃o,h.get? a=some o
 Ib:∀a,c.tb a->c.base.get? a=none
 et:∀a,c.tb a→@LT.lt Nat _ a c.base.objs.size
theorem Bu.mono(C:c.Ok){h d:Heap}{t:List Addr}{x:OV}(q:Bu c M h t x)(k:∀b o,(¬M b\/b∈t)->h.get? b=some o->d.get? b=some o/\(¬M b->¬M' b)):
  Bu c M' d t x:=by
 have l:∀b o,¬M b->h.get? b=some o->d.get? b=some o/\¬M' b:=λb o g e=>⟨(k b o (.inl g) e).1,(k b o (.inl g) e).2 g⟩;cases x with
 |list i=>
  refine AB λf=>?_;obtain⟨a,v,n,rfl,e,m,r⟩:=q;exact f ⟨a,v,n,rfl,(k a _ (.inr (.head _)) e).1,m,AO.mono l i r⟩
 |dict w i=>
  refine AB λf=>?_;obtain⟨a,j,rfl,e,p,s,u⟩:=q;exact f ⟨a,j,rfl,XZ e λo e=>(k a o (.inr (.head _)) e).1,p,s,AO.mono l i u⟩
 |Z n=>exact C.fb q k
theorem Bu.cons(C:c.Ok)(q:Bu c M h fp x):∃a r,fp=a::r:=by
 cases x with
 |list b=>obtain⟨a,p,n,rfl,e,r⟩:=q;exact(BM a [] rfl)
 |dict f b=>obtain⟨a,j,rfl,e,d,r⟩:=q;exact(BM a [] rfl)
 |Z n=>exact C.fZ q
theorem Bu.there(C:c.Ok)(q:Bu c M h t x):∀b∈t,∃o,h.get? b=some o:=by
 cases x with
 |list f=>obtain⟨a,p,n,rfl,e,r⟩:=q;intro b d;exact rL (Xcc.mp d) ⟨_,e⟩
 |dict g f=>obtain⟨a,j,rfl,e⟩:=q;intro b d;exact rL (Xcc.mp d) (Xb e)
 |Z n=>exact C.fe q
structure Fm where
 env:Env
 Cm:Env
 outer:List Env
 L:Addr
 slots:Nat->Slot
 np:Nat
 A:Around
 CZ:Addr->Prop
def Fm.F(a:Fm)(b:Addr):Prop:=∃e∈a.outer,e.frame=some b
structure AU(φ:Fm)(n:Nat):Prop where
 hand:φ.A.handled=none
 depth:φ.A.depth+6*n+120<=990
 units:φ.A.units+60*n+400<=9900
 frames:φ.A.frames=some (φ.Cm::φ.outer)
 fL:φ.Cm.frame=some φ.L
 fk:φ.Cm.scope.kind= .function
 eL:φ.env.frame=some φ.L
 ek:φ.env.scope.kind= .function
 eg:φ.env.globals=mainGlobals
 eb:φ.env.builtins=builtinsNs
 FM:∀b,φ.F b->φ.CZ b
def LV.Az:LV->Prop
 | .N _| .P _=>True
 |_=>False
def LV.on:LV->Prop
 | .U| .V _| .N _=>True
 |_=>False
def Ho(c:Cx)(M W:Addr->Prop)(h:Heap)(s:Slot)(t:List Addr):LV->Prop
 | .O=>True
 | .U=>s.Af h
 | .V x=>∃v,s.Dx h v/\AZ (c.prog,c.w) c.fl M h x v
 | .N o=>s.Dx h (.ref (t.headD 0))/\(∀b∈t,W b)/\Bu c M h t o
 | .P o=>(∀b∈t,W b)/\Bu c M h t o
def Ex(A:Fm)(W:Addr->Prop)(b:Addr):Prop:=A.CZ b\/W b
@[reducible]def Iv(c:Cx)(A:Fm)(W:Addr->Prop):Heap->Val->Value->Prop:=AZ (c.prog,c.w) c.fl (Ex A W)
@[reducible]def Dl(c:Cx)(A:Fm)(W:Addr->Prop):Heap->List Val->List Value->Prop:=AO (c.prog,c.w) c.fl (Ex A W)
structure AF(c:Cx)(φ:Fm)(W:Addr->Prop)(σ:St)(AE:Nat->List Addr)(h:Heap):Prop where
 lv:∀i,Ho c (Ex φ W) W h (φ.slots i) (AE i) (σ.at i)
 sw:∀i,W (φ.slots i).at
 al:∀i,∃o,h.get? (φ.slots i).at=some o
 sa:∀i j,i≠j->(σ.at i).on->(σ.at j).on->(φ.slots i).apart (φ.slots j)
 so:∀i j,(σ.at j).Az->(φ.slots i).at∉AE j
 oo:∀i j,i≠j->(σ.at i).Az->(σ.at j).Az->∀b,b∈AE i->b∉AE j
 LW:W φ.L
 LN:∃m,h.Ns φ.L m
 La:c.base.objs.size<=φ.L
 Lo:∀j,(σ.at j).Az->φ.L∉AE j
 tW:∀a,c.tb a->W a
 ts:∀i,¬c.tb (φ.slots i).at
 EO:∀j,(σ.at j).Az->∀b∈AE j,¬c.tb b
 tL:¬c.tb φ.L
 base:c.base.StaysIn h
 off:∀a,W a->c.base.get? a=none
 ff:h.FunFrames c.base (φ.Cm::φ.outer)
 MW:∀b,φ.CZ b->¬W b
 MA:∀b,φ.CZ b->∃o,h.get? b=some o
 gi:c.gi (Ex φ W) h
theorem Slot.Dx.free{s:Slot}(x:s.Dx h v):s.Af h:=by
 cases s with
 |d D y=>exact AJ x λm a _=>(AN m a)
 |c a=>exact(AN _ x)
theorem Ho.free{s:Slot}{l:LV}(x:Ho c M W h s fp l)(b:l.on):s.Af h:=by
 cases l with
 |O=>exact b.elim
 |P o=>exact b.elim
 |U=>exact x
 |V y=>exact AJ x λv a _=>a.free
 |N o=>exact x.1.free
theorem O6(x:Ch F X h d):∀{l:List Env},h.FunFrames c l->(∀e∈l,∀b,e.frame=some b->¬X b)->d.FunFrames c l
 | [],_,_=>trivial
 |y::_,q,B=>by refine AB λJ=>Bf q λf a j=>?_;obtain⟨L,o,t,g,i,u⟩:=a;refine Bf (x L o (B _ (.head _) L t) i) λ_ a _=>?_;obtain⟨s,e,E⟩:=a;exact J (AX f ⟨L,_,t,g,e,E u⟩ (O6 x j λe Y=>B e (.tail _ Y)))
theorem RK{c h:Heap}{l:List Env}:h.FunFrames c l->∀e∈l,∀b,e.frame=some b->c.get? b=none/\∃o,h.get? b=some o:=by
 induction l with
 |nil=>intro _ e Y;cases Y
 |cons d r Q=>
  rintro⟨_,⟨L,o,t,g,a,_⟩,f⟩ e Y b V;rcases Xcs.mp Y with q|q
  ·subst q;rw[t]at V;obtain rfl:=sS V;exact⟨g,o,a⟩
  ·exact Q f e q b V
theorem AF.change{c:Cx}(C:c.Ok){f:Fm}(O:AU f n)(S:AF c f W σ k h)(x:Ch (λb=>f.F b\/b=f.L) X h h')
  (s:∀b,X b->W b\/h.get? b=none) (t:∀i,¬X (f.slots i).at) (q8:∀j,(σ.at j).Az->∀b∈k j,¬X b) (Z7:¬X f.L) (q9:∀a,c.tb a->¬X a)
  (hW:∀a,W' a->W a\/h.get? a=none) (q6:∀i,W' (f.slots i).at) (Z5:∀j,(σ.at j).Az->∀b∈k j,W' b) (pz:W' f.L) (q7:∀a,c.tb a->W' a):
  AF c f W' σ k h':=by
 have iy:∀b o,c.base.get? b=some o->¬X b:=λb o e q=>by
  rcases s b q with r|r
  ·exact nG (S.off b r) e
  ·rw[S.base b o e]at r;exact sN r
 haveI fresh:∀b o,h.get? b=some o->¬W b->¬W' b:=λb o e u q=>by
  rcases hW b q with r|r
  ·exact u r
  ·exact nG r e
 have d:∀b o,¬Ex f W b->h.get? b=some o->h'.get? b=some o/\¬Ex f W' b:=by
  intro b o u e;have nm:=λq=>u (.inl q);haveI nw:=λq=>u (.inr q);haveI nX:¬X b:=λq=>by
   rcases s b q with r|r
   ·exact nw r
   ·exact nG r e
  refine⟨(x b o nX e).1 λq=>q.elim (λq=>nm (O.FM b q)) λq=>nw (q▸ S.LW),λq=>q.elim nm (fresh b o e nw)⟩
 have Gz:∀i,(σ.at i).on->(∃a,f.slots i= .c a)->¬(f.F (f.slots i).at\/(f.slots i).at=f.L):=by
  rintro i l ⟨a,ha⟩ (q|q)
  ·exact S.MW _ (O.FM _ q) (S.sw i)
  ·haveI fr:=(S.lv i).free l;refine AB λkk=>AK S.LN λm w=>GO w λo es ep g hd _=>?_;rw[ha]at fr q;refine AK fr λv w=>AJ w λo' HS Gg=>kk ?_;haveI q:a=f.L:=q;rw[q,g]at HS;obtain rfl:=Xcl HS;rw[hd]at Gg;cases Gg
 haveI z:∀i o,(∀b∈k i,W b)->(σ.at i).Az->Bu c (Ex f W) h (k i) o->Bu c (Ex f W') h' (k i) o:=λi o e3 g e4=>e4.mono C λb o' hb e=>by
  rcases hb with hb|hb
  ·exact⟨(d b o' hb e).1,λu0=>(d b o' hb e).2⟩
  ·refine⟨(x b o' (q8 i g b hb) e).1 λq=>?_,λq=>absurd (.inr (e3 b hb)) q⟩;rcases q with q|q
   ·exact S.MW b (O.FM b q) (e3 b hb)
   ·exact S.Lo i g (q▸ hb)
 refine⟨λi=>?_,q6,λi=>(let⟨o,q⟩:=S.al i;x.some (t i) q),S.sa,S.so,S.oo,pz,let⟨m,q⟩:=S.LN;(AN m (x.ns Z7 q)),S.La,S.Lo,q7,S.ts,S.EO,S.tL,λb o e=>?_,λa ha=>?_,?_,λb hb q=>?_,λb hb=>?_,?_⟩
 ·haveI p:=S.lv i;cases l:σ.at i with
  |O=>exact trivial
  |U=>
   rw[l]at p;have on:(σ.at i).on:=rL l trivial;exact x.free (t i) (Gz i on) p
  |V y=>
   rw[l]at p;haveI on:(σ.at i).on:=rL l trivial;exact AB λkk=>AJ p λv a b=>kk (AG v (x.has (t i) (Gz i on) a) (AZ.mono d y b))
  |N o=>
   rw[l]at p;haveI on:(σ.at i).on:=rL l trivial;haveI g:(σ.at i).Az:=rL l trivial;exact(AX (x.has (t i) (Gz i on) p.1) (Z5 i g) (z i o p.2.1 g p.2.2))
  |P o=>
   rw[l]at p;haveI g:(σ.at i).Az:=rL l trivial;exact(AH (Z5 i g) (z i o p.1 g p.2))
 ·by_cases q:f.F b\/b=f.L
  ·exfalso;rcases q with⟨en,he,hf⟩|q
   ·exact nG ((RK S.ff en (.tail _ he) b hf).1) e
   ·exact nH q (S.off _ S.LW) e
  ·exact(x b o (iy b o e) (S.base b o e)).1 q
 ·rcases hW a ha with r|r
  ·exact S.off a r
  ·exact Dn (λo e=>S.base a o e) r
 ·refine O6 x S.ff λe he b hf q=>?_;cases he with
  |head=>rw[O.fL]at hf;obtain rfl:=sS hf;exact Z7 q
  |tail _ he=>
   rcases s b q with r|r
   ·exact S.MW b (O.FM b (AG e he hf)) r
   ·refine Ax (RK S.ff e (.tail _ he) b hf) λ_ w=>AK w λo g=>?_;rw[g]at r;exact sN r
 ·rcases hW b q with r|r
  ·exact S.MW b hb r
  ·refine AK (S.MA b hb) λo g=>?_;rw[g]at r;exact sN r
 ·refine AK (S.MA b hb) λo g=>x.some (λq=>?_) g;rcases s b q with r|r
  ·exact S.MW b hb r
  ·rw[g]at r;exact sN r
 ·refine C.KS S.gi λa o hb e=>hb.elim (λu=>(AH ((d a o u e).1) λu0=>(d a o u e).2)) λha=>(AH ((x a o (q9 a ha) e).1 λq=>?_) λu=>absurd (.inr (S.tW a ha)) u);rcases q with q|q
  ·exact S.MW a (O.FM a q) (S.tW a ha)
  ·exact S.tL (q▸ ha)
inductive RV where
 |V (x:Val)
 |M (o:OV)
noncomputable def OV.fz:OV->Val
 | .list a=> .list a
 | .dict d a=> .dict d a
 | .Z _=> .any
def RV.fz:RV->Val
 | .V x=>x
 | .M o=>o.fz
def B4(s l:Shared):Prop:=l.gens=s.gens/\l.drawn=s.drawn/\l.os=s.os
theorem B4.refl:B4 s s:=(AX rfl rfl rfl)
theorem B4.trans(x:B4 s BL)(y:B4 BL a):B4 s a:=(AX (y.1.trans x.1) (y.2.1.trans x.2.1) (y.2.2.trans x.2.2))
theorem B4.cast{s l:Shared}{h:Heap}{tk:Nat}{P:Shared->Prop}(q:B4 s l)(k:P {s with heap:=h,toks:=tk}):P {l with heap:=h,toks:=tk}:=by obtain⟨a,g,d,t,o⟩:=l;obtain⟨rfl,rfl,rfl⟩:=q;exact k
theorem B4.of:B4 s {s with heap:=h,toks:=tk}:=(AX rfl rfl rfl)
def Nx(F W:Addr->Prop)(h:Heap)(I:Addr->Prop)(b:Heap):Prop:=Ch F W h b/\∀a,I a->W a\/h.get? a=none
theorem Nx.refl:Nx F W h W h:=⟨.refl,λa q=> .inl q⟩
theorem Nx.trans(x:Nx F W h DC d)(y:Nx F DC d c i):Nx F W h c i:=by
 refine⟨x.1.trans y.1 λb g⟨o,e⟩q=>?_,λa ha=>?_⟩
 ·rcases x.2 b q with r|r
  ·exact g r
  ·exact nG r e
 ·by_cases q:W a
  ·exact .inl q
  ·right
   cases e:h.get? a with
   |none=>rfl
   |some o=>
    rcases y.2 a ha with r|r
    ·rcases x.2 a r with r|r
     ·exact absurd r q
     ·exact nG r e
    ·obtain⟨s,f⟩:=x.1.some q e;exact nG r f
inductive gj(c:Cx)(φ:Fm)(W:Addr->Prop)(σ:St)(AE:Nat->List Addr)(h:Heap)(o:OV)(v:Value):Prop
 |mk (a)(e:v= .ref a)(w:W a)(q:Bu c (Ex φ W) h [a] o)(f:∀j,(σ.at j).Az->a∉AE j)(s:∀i,(φ.slots i).at≠a)(L: @LT.lt Nat _ φ.L a)(t:¬c.tb a)(k:∀k,o≠.Z k)
def DW(c:Cx)(A:Fm)(W:Addr->Prop)(σ:St)(M:Nat->List Addr)(h:Heap):RV->Value->Prop
 | .V x,v=>Iv c A W h x v
 | .M o,v=>gj c A W σ M h o v
structure BJ(c:Cx)(φ:Fm)(W:Addr->Prop)(AE:Nat->List Addr)(s:Shared)(A0:St)(W':Addr->Prop)(s':Shared):Prop where
 sm:B4 s s'
 nx:Nx φ.F W s.heap W' s'.heap
 S:AF c φ W' A0 AE s'.heap
theorem BJ.refl(S:AF c φ W σ AE s.heap):BJ c φ W AE s σ W s:=⟨.refl,.refl,S⟩
theorem BJ.trans(x:BJ c φ W AE s AA DC BL)(y:BJ c φ DC AE BL a b d):BJ c φ W AE s a b d:=
 ⟨x.sm.trans y.sm,x.nx.trans y.nx,y.S⟩
def Aa(c:Cx)(A:Fm)(W:Addr->Prop)(M:Nat->List Addr)(s:Shared)(A0:St)(r:RV)(v:Value)(l:Shared):Prop:=
 ∃I,BJ c A W M s A0 I l/\DW c A I A0 M l.heap r v
def Jr(c:Cx)(A:Fm)(W:Addr->Prop)(M:Nat->List Addr)(s:Shared)(A0:St)(b:Bool)(v:Bool)(l:Shared):Prop:=
 v=b/\∃I,BJ c A W M s A0 I l
def Ac(c:Cx)(A:Fm)(t:Sem Value)(σ:St)(r:RV)(A0:St):Prop:=
 ∀W M s E,AF c A W σ M s.heap->wpAny (Mo c) A.A t (Aa c A W M s A0 r) E s
def ES(c:Cx)(A:Fm)(t:Sem Bool)(σ:St)(b:Bool)(A0:St):Prop:=
 ∀W M s E,AF c A W σ M s.heap->wpAny (Mo c) A.A t (Jr c A W M s A0 b) E s
theorem AZ.nx{c:Cx}(O:AU φ n)(x:Nx φ.F W h W' h')(q:Iv c φ W h y v):Iv c φ W' h' y v:=
 AZ.mono (λb o a e=>by
  refine⟨(x.1 b o (λq=>a (.inr q)) e).1 λq=>a (.inl (O.FM b q)),λq=>?_⟩;rcases q with q|q
  ·exact a (.inl q)
  ·rcases x.2 b q with r|r
   ·exact a (.inr r)
   ·exact nG r e) y q
theorem AO.nx{c:Cx}(O:AU φ n)(x:Nx φ.F W h W' h')(q:Dl c φ W h y v):Dl c φ W' h' y v:=
 AO.mono (λb o a e=>by
  refine⟨(x.1 b o (λq=>a (.inr q)) e).1 λq=>a (.inl (O.FM b q)),λq=>?_⟩;rcases q with q|q
  ·exact a (.inl q)
  ·rcases x.2 b q with r|r
   ·exact a (.inr r)
   ·exact nG r e) y q
theorem Aa.step(P:BJ c φ W AE s AA DC BL)
  (p:Aa c φ DC AE BL A0 r v s'):Aa c φ W AE s A0 r v s':=
 let⟨b,a,R⟩:=p;(AG b (P.trans a) R)
theorem Jr.step(P:BJ c φ W AE s AA DC BL)
  (p:Jr c φ DC AE BL A0 r v s'):Jr c φ W AE s A0 r v s':=
 let⟨b,W',a⟩:=p;⟨b,W',P.trans a⟩
theorem AF.same(C:c.Ok)(O:AU φ n)(S:AF c φ W σ e h)(x:Ch (λb=>φ.F b\/b=φ.L) (λd=>False) h h')
  (m:∀a,W' a->W a\/h.get? a=none) (k:∀i,W' (φ.slots i).at) (g:∀j,(σ.at j).Az->∀b∈e j,W' b) (f:W' φ.L) (l:∀a,c.tb a->W' a):AF c φ W' σ e h':=
 S.change C O x (λd q=>q.elim) (λd q=>q) (λd d d d q=>q) (λq=>q) (λd d q=>q) m k g f l
theorem AF.Bc(S:AF c φ W σ a h):∀j,(σ.at j).Az->∀b∈a j,W b:=by
 intro j f b e;haveI:=S.lv j;cases d:σ.at j with
 |N o=>rw[d]at this;exact this.2.1 b e
 |P o=>rw[d]at this;exact this.1 b e
 |_=>rw[d]at f;exact f.elim
theorem AF.kept(C:c.Ok)(O:AU φ n)(S:AF c φ W σ AE h)(x:Ch (λb=>φ.F b\/b=φ.L) (λa=>False) h h'):AF c φ W σ AE h':=
 S.same C O x (λa q=> .inl q) S.sw S.Bc S.LW S.tW
theorem AF.DM(C:c.Ok)(S:AF c φ W σ a h):∀j,(σ.at j).Az->∀b∈a j,∃o,h.get? b=some o:=by
 intro j f b e;haveI:=S.lv j;cases d:σ.at j with
 |N o=>rw[d]at this;exact this.2.2.there C b e
 |P o=>rw[d]at this;exact this.2.there C b e
 |_=>rw[d]at f;exact f.elim
theorem Ch.toF(x:Ch (λb=>F b\/b=L) (λc=>False) h h')(l:W L):Ch F W h h':=
 x.weaken (λc q=>q.elim) λb a q=>q.elim id λq=>absurd l (q▸ a)
theorem J5(C:c.Ok)(O:AU A n)(S:AF c A W σ M s.heap)(e:B4 s l)
  (x:Ch (λb=>A.F b\/b=A.L) (λU=>False) s.heap l.heap) (ha:s.heap.get? a=none) (d: @LT.lt Nat _ A.L a) (hw:∀k,o≠.Z k)
  (R:(∀b o,¬Ex A W b->s.heap.get? b=some o->l.heap.get? b=some o/\¬Ex A (λb=>W b\/b=a) b)->Bu c (Ex A λb=>W b\/b=a) l.heap [a] o) (tb:¬c.tb a):Aa c A W M s σ (.M o) (.ref a) l:=by
 haveI p:∀b,(W b\/b=a)->W b\/s.heap.get? b=none:=λb q=>q.elim .inl λq=> .inr (rL q (rL ha rfl));refine(AG (λb=>W b\/b=a) ⟨e,⟨x.toF S.LW,p⟩,S.same C O x p (λi=> .inl (S.sw i)) (λj G b V=> .inl (S.Bc j G b V)) (.inl S.LW) λb V=> .inl (S.tW b V)⟩ ⟨a,rfl,.inr rfl,R λb o N E=>?_,λj G D=>?_,λi q=>?_,d,tb,hw⟩)
 ·exact(AH ((x b o (λq=>q) E).1 λq=>q.elim (λq=>N (.inl (O.FM b q))) λq=>N (.inr (q▸ S.LW))) λq=>q.elim (λq=>N (.inl q)) λq=>q.elim (λq=>N (.inr q)) λq=>(nH q ha E))
 ·exact AK (S.DM C j G a D) λo q=>nG ha q
 ·exact AK (S.al i) λo r=>nH q ha r
theorem Ez(C:c.Ok)(O:AU A n)(S:AF c A W σ M s.heap)(e:B4 s l)
  (k:Ch (λb=>A.F b\/b=A.L) (λU=>False) s.heap l.heap) (R:Iv c A W l.heap x v):Aa c A W M s σ (.V x) v l:=
 (AG W ⟨e,⟨k.toF S.LW,λU q=> .inl q⟩,S.kept C O k⟩ R)
theorem kt(C:c.Ok)(O:AU A n)(S:AF c A W σ M s.heap)(e:B4 s l)
  (x:Ch (λb=>A.F b\/b=A.L) (λU=>False) s.heap l.heap) (Z:Addr->Prop) (f:∀b,Z b->s.heap.get? b=none∧@LT.lt Nat _ A.L b)
  (R:(∀b o,¬Ex A W b->s.heap.get? b=some o->l.heap.get? b=some o/\¬Ex A (λb=>W b/\¬Z b) b)->(∀b,Z b->¬Ex A (λb=>W b/\¬Z b) b)->AZ (c.prog,c.w) c.fl (Ex A λb=>W b/\¬Z b) l.heap y v):
  Aa c A W M s σ (.V y) v l:=by
 have D:∀{b:Addr}{o:Obj},s.heap.get? b=some o->¬Z b:=λe q=>nG ((f _ q).1) e;refine(AG (λb=>W b/\¬Z b) ⟨e,⟨x.toF S.LW,λb q=> .inl q.1⟩,S.same C O x (λb q=> .inl q.1) (λi=>⟨S.sw i,?_⟩) (λj G b V=>⟨S.Bc j G b V,?_⟩) ⟨S.LW,?_⟩ λb V=>⟨S.tW b V,λq=>?_⟩⟩ (R (λb o N E=>⟨(x b o (λq=>q) E).1 λq=>q.elim (λq=>N (.inl (O.FM b q))) λq=>N (.inr (q▸ S.LW)),λq=>q.elim (λq=>N (.inl q)) λq=>N (.inr q.1)⟩) λb q z=>?_))
 ·exact AK (S.al i) λo r=>D r
 ·exact AK (S.DM C j G b V) λo q=>D q
 ·exact AK S.LN λm w=>Aj w λo _ _ a _=>D a
 ·exact Xd2 _ (Xf0 (Xdg (C.et b V) S.La) (f b q).2)
 ·rcases z with z|z
  ·exact AK (S.MA b z) λo a=>D a q
  ·exact z.2 q
theorem Bu.fz(q:Bu c M h [a] o)(nm:¬M a)(hw:∀k,o≠.Z k):AZ (c.prog,c.w) c.fl M h o.fz (.ref a):=by
 cases o with
 |list l=>
  obtain⟨b,p,n,e,d,f,g⟩:=q;cases e;exact OA.mk a p n rfl nm d f g
 |dict m l=>
  obtain⟨b,j,e,d,f,g,i⟩:=q;cases e;exact RG.mk a j rfl nm d f g i
 |Z k=>exact absurd rfl (hw k)
theorem Aa.fz(C:c.Ok)(O:AU φ n)
  (p:Aa c φ W AE s A0 r v s'):Aa c φ W AE s A0 (.V r.fz) v s':=by
 refine AJ p λe P R=>?_;have S:=P.S;cases r with
 |V y=>exact(AG e P R)
 |M o=>
  obtain⟨a,rfl,w,u,h,k,l,m,t⟩:=R;haveI z:AF c φ (λb=>e b/\b≠a) A0 AE s'.heap:=
   S.same C O .refl (λu0 q=> .inl q.1) (λi=>(AH (S.sw i) (k i))) (λj f b d=>(AH (S.Bc j f b d) λq=>h j f (q▸ d))) (AH S.LW λq=>Xdb l q) λb d=>(AH (S.tW b d) λq=>m (q▸ d))
  refine(AG (λb=>e b/\b≠a) ⟨P.sm,⟨P.nx.1,λb q=>P.nx.2 b q.1⟩,z⟩ ?_);haveI x:=λq=>S.MW a q w;refine Bu.fz (u.mono C λb o d g=>(AH g λnb q=>nb (q.imp id λq=>q.1))) (λq=>q.elim x λq=>q.2 rfl) t
noncomputable def Ir(b h:Heap)(L:Addr):List (Addr×Obj):=
 (List.range h.objs.size).filterMap λa=>match h.get? a with
  |some o=>if a=L\/(b.get? a).isSome=true then none else some (a,o)
  |none=>none
theorem iU(e:h.get? a=some o)(l:a≠L)(V:b.get? a=none):(a,o)∈Ir b h L:=by unfold Ir;rw[Xfl];refine(AG a (Xe7.mpr (Xdt e)) (rL e ?_));simp[l,V]
set_option tactic.hygienic true in
theorem Wd:News b L h (Ir b h L):=by
 intro p d;unfold Ir at d;rw[Xfl]at d;obtain⟨a,_,q⟩:=d;cases e:h.get? a with
 |none=>replace q:=e▸ q;exact nS q
 |some o=>
  rw[e]at q;by_cases y:a=L\/(b.get? a).isSome=true
  ·exact nS ((Xck y).symm.trans q)
  ·obtain rfl:=Xcl ((Xcm y).symm.trans q);refine(AX e (λz=>y (.inl z)) ?_);cases e:b.get? a with
   |none=>rfl
   |some f=>exact absurd (.inr (by refine rL e ?_;rfl)) y
theorem AF.fr(S:AF c φ W σ AE h):∃m,Fr c.base φ.L h m:=
 let⟨m,q⟩:=S.LN;(AN m ⟨q,S.base,S.La⟩)
theorem Kt{h:Heap}(x:h.Ns a m)(y:h.Ns a B):m=B:=by
 obtain⟨o,d,f,Y,T,H,M⟩:=Dd x;obtain⟨j,e,b,D,t,g,k⟩:=Dd y;replace D:=Y▸ D;obtain rfl:=sS D;replace t:=T▸ t;cases t;funext x;exact rR (M ..) (rR (k ..) rfl)
theorem Yd{m:Str->Option Value}{F:Addr->Prop}(d:Fr a L h m)(y:Fr a L g m)(N:News a L g f)(I:∀p∈Ir a h L,p∈f):
  Ch (λb=>F b\/b=L) (λU=>False) h g:=by
 have k:∀b o,b≠L->h.get? b=some o->g.get? b=some o:=λb o V e=>by
  cases q:a.get? b with
  |some j=>have:=d.keep b j q;replace this:=e▸ this;obtain rfl:=sS this;exact y.keep b o q
  |none=>exact(N _ (I _ (iU e V q))).1
 intro b o _ e;by_cases V:b=L
 ·refine rL V (AB λr=>?_);obtain⟨j,w,t,J,l⟩:=Dd y.ns;refine r (AX (λq=>absurd (.inr rfl) q) ⟨j,J,λU x q=>by replace q:=l▸ q;cases q⟩ λB i=>?_);exact rL (Kt i d.ns) y.ns
 ·exact(AX (λU=>k b o V e) ⟨o,k b o V e,λq=>q⟩ λB i=>F7 i λo=>k b o V)
theorem all_cons:∀p∈Ir a h L,p∈q::Ir a h L:=λU h=> .tail _ h
theorem Bg{h:Heap}:h.get? h.objs.size=none:=by
 cases e:h.get? h.objs.size with
 |none=>rfl
 |some o=>exact absurd (Xdt e) (Xd2 _)
theorem H0{h:Heap}(q:h.objs.size<=a):h.get? a=none:=by
 cases e:h.get? a with
 |none=>rfl
 |some o=>exact absurd (Xdg (Xdt e) q) (Xd2 _)
theorem Q5(h:n<=1000000):n<=sizeLine:=rL Xc9 (lin [n] 0x4d3f6838090000000009000007801 rfl h)
section
variable {c:Cx}(C:c.Ok){φ:Fm}{n:Nat}(O:AU φ n){W:Addr->Prop}{σ:St}{AE:Nat->List Addr}{s:Shared}(S:AF c φ W σ AE s.heap){E:Value->Shared->Prop}{u v:Value}
include C O S
theorem Cq: @LT.lt Nat _ φ.L s.heap.objs.size:=by obtain⟨m,q⟩:=S.LN;exact q.lt
theorem Fq(q: @LT.lt Nat _ φ.L a):¬c.tb a:=λz=>Xd2 _ (Xf0 (Xdg (C.et a z) S.La) q)
theorem Fs:Aa c φ W AE s σ (.V (.int i)) (.int i t) {s with toks:=k}:=
 Ez C O S (AX rfl rfl rfl) .refl (Exists.intro _ rfl)
theorem Ie:Aa c φ W AE s σ (.V (.bool b)) (.bool b) s:=
 Ez C O S B4.refl .refl rfl
theorem x7:wpAny (Mo c) φ.A (binaryOp .Add (.int i t) (.int j e)) (Aa c φ W AE s σ (.V (.int (i+j)))) E s:=add_int (Fs C O S)
theorem xN:wpAny (Mo c) φ.A (binaryOp .Sub (.int i t) (.int j e)) (Aa c φ W AE s σ (.V (.int (i - j)))) E s:=sub_int (Fs C O S)
theorem xH(D:PySem.IntMulOk i j):wpAny (Mo c) φ.A (binaryOp .Mult (.int i t) (.int j e)) (Aa c φ W AE s σ (.V (.int (i*j)))) E s:=mul_int (Fs C O S) D
theorem xG(G:j≠0):wpAny (Mo c) φ.A (binaryOp .Mod (.int i t) (.int j e)) (Aa c φ W AE s σ (.V (.int (i.fmod j)))) E s:=mod_int G (Fs C O S)
theorem xC(G:j≠0)(a:Builtin.divisionGoesByPylong i j=false):wpAny (Mo c) φ.A (binaryOp .FloorDiv (.int i t) (.int j e)) (Aa c φ W AE s σ (.V (.int (i.fdiv j)))) E s:=floordiv_int G (Fs C O S) (.inl a)
theorem xM(g:0<=j)(x:j<=1000000)(ha:i.natAbs<2 ^ 64):wpAny (Mo c) φ.A (binaryOp .Pow (.int i t) (.int j e)) (Aa c φ W AE s σ (.V (.int (i ^ j.toNat)))) E s:=pow_int_small g x ha (Fs C O S)
theorem xK:wpAny (Mo c) φ.A (unaryOp .USub (.int i t)) (Aa c φ W AE s σ (.V (.int (-i)))) E s:=neg_int (Fs C O S)
theorem xF:wpAny (Mo c) φ.A (compareOp .Lt (.int i t) (.int j e)) (Aa c φ W AE s σ (.V (.bool (decide (i<j))))) E s:=P.lt_int (Ie C O S)
theorem xE:wpAny (Mo c) φ.A (compareOp .Gt (.int i t) (.int j e)) (Aa c φ W AE s σ (.V (.bool (decide (i>j))))) E s:=P.gt_int (Ie C O S)
theorem xD:wpAny (Mo c) φ.A (compareOp .Eq (.bool i) (.bool j)) (Aa c φ W AE s σ (.V (.bool (i==j)))) E s:=eq_bool (Ie C O S)
theorem xJ:wpAny (Mo c) φ.A (compareOp .NotEq (.bool i) (.bool j)) (Aa c φ W AE s σ (.V (.bool (i !=j)))) E s:=ne_bool (Ie C O S)
theorem x9(hsz:x.cps.size+y.cps.size<=1000000):wpAny (Mo c) φ.A (binaryOp .Add (.str x t) (.str y e)) (Aa c φ W AE s σ (.V (.str (x++y)))) E s:=by
 refine add_str (λe a=>?_) (by refine rL Xc9 ?_;show x.cps.size+y.cps.size<=_;exact lin [x.cps.size,y.cps.size] 0x18710ffdfe234400000001440001116081 rfl hsz);refine Ez C O S (AX rfl rfl rfl) .refl (And.intro (AN _ rfl) ?_);haveI:(x++y).cps.size=x.cps.size+y.cps.size:=by show(x.cps++y.cps).size=_;exact rL Array.size_append rfl
 exact lin [(x++y).cps.size,x.cps.size,y.cps.size] 0x1cfdb44b6400000000adceaabb15890000000000895447801 rfl hsz (Xcg this)
theorem x8{xs ys:List Val}(B:Iv c φ W s.heap (.list xs) u)(p:Iv c φ W s.heap (.list ys) v)(hsz:xs.length+ys.length<=1000000):
  wpAny (Mo c) φ.A (binaryOp .Add u v) (Aa c φ W AE s σ (.M (.list (xs++ys)))) E s:=by
 refine AB λJ=>?_;obtain⟨a,e,k,rfl,ha,T,_,V⟩:=B;obtain⟨b,w,G,d,g,A,_,h⟩:=p;obtain⟨m,F⟩:=S.fr;refine J (rL d ?_);haveI I:=V.length;haveI l:=h.length;refine add_arrays F Wd (BS _ T rfl (AN _ rfl)) (BS _ A rfl (AN _ rfl)) (λf y M=>?_) (by refine rL Xc9 ?_;simp[I,l];exact lin [xs.length,ys.length] 0x18710ffdfe234400000001440001116081 rfl hsz);haveI x:=Yd (F:=φ.F) F y M all_cons;refine J5 C O S (AX rfl rfl rfl) x Bg (Cq C O S) (λU q=>by cases q) (λk=>⟨_,e++w,0,rfl,?_,by refine rL Xci ?_;exact hsz,?_⟩) (Fq C O S (Cq C O S))
 ·haveI:=(M _ (.head _)).1;simpa using this
 ·exact AO.append (AO.mono k _ V) (AO.mono k _ h)
end
theorem FN{σ:St}:St.at (σ.set i x) j=if j=i/\i<σ.length then x else σ.at j:=by
 unfold St.at;simp only[Xdr,Xhr];by_cases h:i=j
 ·subst h;by_cases q:i<σ.length
  ·simp[q]
  ·simp[q]
 ·exact rL (Xcm h) (rL (Xcm λq=>h q.1.symm) rfl)
theorem FL{σ:St}(h:σ.at i≠.O):i<σ.length:=by
 by_cases q:i<σ.length
 ·exact q
 ·exfalso;apply h;unfold St.at;refine rL Xdr (rL (Xeb (by exact lin [List.length σ,i] 21743898625 rfl (Xdh q))) ?_);rfl
theorem GU{σ:St}(h:σ.at i≠.O):St.at (σ.set i x) i=x:=rL FN (rL (Xck ⟨rfl,FL h⟩) rfl)
theorem Ca{σ:St}(h:j≠i):St.at (σ.set i x) j=σ.at j:=rL FN (rL (Xcm λq=>h q.1) rfl)
theorem LV.IT{l:LV}(h:l.on):l≠.O:=by rintro rfl;exact h
theorem AF.cf(C:c.Ok)(O:AU φ n)(S:AF c φ W σ AE h)(hi:σ.at i= .N o)
  (x:Ch (λb=>φ.F b\/b=φ.L) (λb=>b∈AE i) h h') (R:(∀b o,¬Ex φ W b->h.get? b=some o->h'.get? b=some o)->Bu c (Ex φ W) h' (AE i) u):AF c φ W (σ.set i (.N u)) AE h':=by
 have own:(σ.at i).Az:=rL hi trivial;have on:(σ.at i).on:=rL hi trivial;have t:=LV.IT on;have hW:=S.Bc i own;have s:AF c φ W (σ.set i .U) AE h:=by
  refine⟨λj=>?_,S.sw,S.al,λj k r d l=>?_,λj k l=>?_,λj k r d l=>?_,S.LW,S.LN,S.La,λj d=>?_,S.tW,S.ts,λj d=>?_,S.tL,S.base,S.off,S.ff,S.MW,S.MA,S.gi⟩
  ·by_cases e:j=i
   ·clear hi x R own hW;subst e;exact rL (GU t) ((S.lv j).free on)
   ·exact rL (Ca e) (S.lv j)
  ·haveI f:∀j,(St.at (σ.set i .U) j).on->(σ.at j).on:=λj d=>by
    by_cases e:j=i
    ·exact rL e on
    ·rw[Ca e]at d;exact d
   exact S.sa j k r (f j d) (f k l)
  ·haveI e:k≠i:=by rintro rfl;rw[GU t]at l;exact l
   rw[Ca e]at l;exact S.so j k l
  ·haveI e:k≠i:=by rintro rfl;rw[GU t]at l;exact l
   have e':j≠i:=by rintro rfl;rw[GU t]at d;exact d
   replace l:=(Ca e)▸ l;rw[Ca e']at d;exact S.oo j k r d l
  ·have e:j≠i:=by rintro rfl;rw[GU t]at d;exact d
   rw[Ca e]at d;exact S.Lo j d
  ·have e:j≠i:=by rintro rfl;rw[GU t]at d;exact d
   rw[Ca e]at d;exact S.EO j d
 have p:AF c φ W (σ.set i .U) AE h':=by
  refine s.change C O x (λb q=> .inl (hW b q)) (λj q=>S.so j i own q) (λj d b hb q=>?_) (S.Lo i own) (λa ha q=>S.EO i own a q ha) (λu0 q=> .inl q) s.sw s.Bc S.LW S.tW
  ·have e:j≠i:=by rintro rfl;rw[GU t]at d;exact d
   rw[Ca e]at d;exact S.oo j i e d own b hb q
 have ne':St.at (σ.set i .U) i≠.O:=by refine rL (GU t) ?_;simp
 have eq:∀j,St.at (σ.set i (.N u)) j=if j=i then .N u else σ.at j:=λj=>by
  by_cases e:j=i
  ·exact rL e (rL (GU t) (rL (Xck rfl) rfl))
  ·exact rL (Ca e) (rL (Xcm e) rfl)
 have f:∀j,(St.at (σ.set i (.N u)) j).on->(σ.at j).on:=λj d=>by
  rw[eq]at d;by_cases e:j=i
  ·exact rL e on
  ·rw[Xcm e]at d;exact d
 have g:∀j,(St.at (σ.set i (.N u)) j).Az->(σ.at j).Az:=λj d=>by
  rw[eq]at d;by_cases e:j=i
  ·exact rL e own
  ·rw[Xcm e]at d;exact d
 refine⟨λj=>?_,p.sw,p.al,λj k r d l=>S.sa j k r (f j d) (f k l),λj k l=>S.so j k (g k l),λj k r d l=>S.oo j k r (g j d) (g k l),
  p.LW,p.LN,p.La,λj d=>S.Lo j (g j d),S.tW,S.ts,λj d=>S.EO j (g j d),S.tL,p.base,p.off,p.ff,p.MW,p.MA,p.gi⟩
 rw[eq];by_cases e:j=i
 ·clear t s p ne' eq f g;subst e;refine rL (Xck rfl) ?_;haveI hl:=S.lv j;rw[hi]at hl;haveI Gz:(∃a,φ.slots j= .c a)->¬(φ.F (φ.slots j).at\/(φ.slots j).at=φ.L):=by
   rintro⟨a,ha⟩ (q|q)
   ·exact S.MW _ (O.FM _ q) (S.sw j)
   ·haveI fr:=(S.lv j).free on;refine AK S.LN λm w=>GO w λo es ep ho hd _=>?_;rw[ha]at fr q;refine AK fr λv w=>AJ w λu z y=>?_;haveI q:a=φ.L:=q;rw[q,ho]at z;obtain rfl:=Xcl z;rw[hd]at y;cases y
  refine(AX (x.has (S.so j j own) Gz hl.1) hW (R λb ob nb eb=>(x b ob (λq=>nb (.inr (hW b q))) eb).1 λq=>?_));rcases q with q|q
  ·exact nb (.inl (O.FM b q))
  ·exact nb (.inr (q▸ S.LW))
 ·refine rL (Xcm e) ?_;haveI:=p.lv j;rw[Ca e]at this;exact this
theorem AF.drop(S:AF c φ W σ AE h)(i:Nat):AF c φ W (σ.set i .O) AE h:=by
 have eq:∀j,St.at (σ.set i .O) j=if j=i then .O else σ.at j:=λj=>by
  refine rL FN ?_;by_cases e:j=i
  ·subst e;refine rL (Xck rfl) ?_;by_cases q:j<σ.length
   ·exact rL (Xck ⟨rfl,q⟩) rfl
   ·refine rL (Xcm λz=>q z.2) ?_;unfold St.at;refine rL Xdr (rL (Xeb (by exact lin [List.length σ,j] 21743898625 rfl (Xdh q))) ?_);rfl
  ·exact rL (Xcm λq=>e q.1) (rL (Xcm e) rfl)
 have f:∀j,(St.at (σ.set i .O) j).on->(σ.at j).on:=λj a=>by
  rw[eq]at a;by_cases e:j=i
  ·rw[Xck e]at a;exact a.elim
  ·rw[Xcm e]at a;exact a
 have g:∀j,(St.at (σ.set i .O) j).Az->(σ.at j).Az:=λj a=>by
  rw[eq]at a;by_cases e:j=i
  ·rw[Xck e]at a;exact a.elim
  ·rw[Xcm e]at a;exact a
 refine⟨λj=>?_,S.sw,S.al,λj k d a b=>S.sa j k d (f j a) (f k b),λj k b=>S.so j k (g k b),λj k d a b=>S.oo j k d (g j a) (g k b),
  S.LW,S.LN,S.La,λj a=>S.Lo j (g j a),S.tW,S.ts,λj a=>S.EO j (g j a),S.tL,S.base,S.off,S.ff,S.MW,S.MA,S.gi⟩
 refine rL (eq ..) ?_;by_cases e:j=i
 ·exact rL (Xck e) trivial
 ·exact rL (Xcm e) (S.lv j)
theorem AF.put(S:AF c φ W σ AE h)(y:i<σ.length)(v:σ.at i= .O)(t:∀j,j≠i->u j=AE j)
  (R:Ho c (Ex φ W) W h (φ.slots i) (u i) l) (w:l.on->∀j,j≠i->(σ.at j).on->(φ.slots i).apart (φ.slots j)/\(φ.slots j).apart (φ.slots i))
  (n:l.Az->(∀j,(φ.slots j).at∉u i)/\(∀j,(σ.at j).Az->∀b,b∈u i->b∉AE j)/\φ.L∉u i/\∀b∈u i,¬c.tb b):
  AF c φ W (σ.set i l) u h:=by
 have eq:∀j,St.at (σ.set i l) j=if j=i then l else σ.at j:=λj=>by
  refine rL FN ?_;by_cases e:j=i
  ·exact rL (Xck ⟨e,y⟩) (rL (Xck e) rfl)
  ·exact rL (Xcm λq=>e q.1) (rL (Xcm e) rfl)
 have p:∀j,(St.at (σ.set i l) j).on->(j=i/\l.on)\/(j≠i/\(σ.at j).on):=λj a=>by
  rw[eq]at a;by_cases e:j=i
  ·rw[Xck e]at a;exact .inl ⟨e,a⟩
  ·rw[Xcm e]at a;exact .inr ⟨e,a⟩
 have own:∀j,(St.at (σ.set i l) j).Az->(j=i/\l.Az)\/(j≠i/\(σ.at j).Az):=λj a=>by
  rw[eq]at a;by_cases e:j=i
  ·rw[Xck e]at a;exact .inl ⟨e,a⟩
  ·rw[Xcm e]at a;exact .inr ⟨e,a⟩
 refine⟨λj=>?_,S.sw,S.al,λj k d a m=>?_,λj k m=>?_,λj k d a m=>?_,S.LW,S.LN,S.La,λj a=>?_,S.tW,S.ts,λj a=>?_,S.tL,S.base,S.off,S.ff,S.MW,S.MA,S.gi⟩
 ·refine rL (eq ..) ?_;by_cases e:j=i
  ·exact rL e (rL (Xck rfl) R)
  ·exact rL (Xcm e) (rL (t j e) (S.lv j))
 ·rcases p j a with⟨e,q⟩|⟨f,q⟩
  ·rcases p k m with⟨g,s⟩|⟨r,s⟩
   ·exact absurd (e.trans g.symm) d
   ·exact rL e ((w q k r s).1)
  ·rcases p k m with⟨g,s⟩|⟨r,s⟩
   ·exact rL g ((w s j f q).2)
   ·exact S.sa j k d q s
 ·rcases own k m with⟨e,s⟩|⟨r,s⟩
  ·exact rL e ((n s).1 j)
  ·exact rL (t k r) (S.so j k s)
 ·rcases own j a with⟨e,q⟩|⟨f,q⟩
  ·rcases own k m with⟨g,s⟩|⟨r,s⟩
   ·exact absurd (e.trans g.symm) d
   ·exact rL e (rL (t k r) ((n q).2.1 k s))
  ·rcases own k m with⟨g,s⟩|⟨r,s⟩
   ·exact rL g (rL (t j f) λb x o=>(n s).2.1 j q b o x)
   ·exact rL (t j f) (rL (t k r) (S.oo j k d q s))
 ·rcases own j a with⟨e,q⟩|⟨f,q⟩
  ·exact rL e ((n q).2.2.1)
  ·exact rL (t j f) (S.Lo j q)
 ·rcases own j a with⟨e,q⟩|⟨f,q⟩
  ·exact rL e ((n q).2.2.2)
  ·exact rL (t j f) (S.EO j q)
theorem AF.NN(S:AF c φ W σ AE h)(y:i<σ.length)(a:σ.at i= .O)(t:List Addr)(R:Ho c (Ex φ W) W h (φ.slots i) t l)(p:l.on->∀j,j≠i->(σ.at j).on->(φ.slots i).apart (φ.slots j)/\(φ.slots j).apart (φ.slots i))
  (n:l.Az->(∀j,(φ.slots j).at∉t)/\(∀j,(σ.at j).Az->∀b,b∈t->b∉AE j)/\φ.L∉t/\∀b∈t,¬c.tb b):AF c φ W (σ.set i l) (λj=>if j=i then t else AE j) h:=
 S.put y a (λj d=>Xcm d) ((Xck rfl)▸ R) p ((Xck rfl)▸ n)
theorem AF.wrote(C:c.Ok)(O:AU φ n)(S:AF c φ W σ AE h)(on:(σ.at i).on)
  (s:Heap.SameBut (φ.slots i).at h h') (nd:∀D y m,φ.slots i= .d D y->h.Ns D m->h'.Ns D λz=>if z=y then some v else m z) (ce:∀a,φ.slots i= .c a->h'.IsCell a (some v)):
  AF c φ W (σ.set i .O) AE h':=by
 haveI f:=S.drop i;haveI ne:=LV.IT on;haveI eq:∀j,St.at (σ.set i .O) j=if j=i then .O else σ.at j:=λj=>by
  refine rL FN ?_;by_cases e:j=i
  ·exact rL (Xck ⟨e,FL ne⟩) (rL (Xck e) rfl)
  ·exact rL (Xcm λq=>e q.1) (rL (Xcm e) rfl)
 have hW:=S.sw i;haveI UJ:∀b o,¬Ex φ W b->h.get? b=some o->h'.get? b=some o/\¬Ex φ W b:=λb o nb e=>⟨(s.2 b λq=>nb (.inr (q▸ hW))).trans e,nb⟩;have IV:∀j o,(σ.at j).Az->Bu c (Ex φ W) h (AE j) o->Bu c (Ex φ W) h' (AE j) o:=λj o p q=>q.mono C λb ob hb e=>by
  refine⟨(s.2 b λz=>?_).trans e,id⟩;rcases hb with hb|hb
  ·exact hb (.inr (z▸ hW))
  ·exact S.so i j p (z▸ hb)
 have Jf:∀j,j≠i->(σ.at j).on->(∀u,(φ.slots j).Dx h u->(φ.slots j).Dx h' u)/\((φ.slots j).Af h->(φ.slots j).Af h'):=by
  intro j p Mj;have r:=S.sa j i p Mj on;cases hs:φ.slots j with
  |c a=>
   replace r:=hs▸ r;have na:a≠(φ.slots i).at:=by
    cases g:φ.slots i with
    |c b=>replace r:=g▸ r;exact r
    |d D y=>replace r:=g▸ r;exact r
   exact⟨λu q=>q.sameBut s na,λ⟨u,q⟩=>⟨u,q.sameBut s na⟩⟩
  |d D x=>
   replace r:=hs▸ r;by_cases hD:D=(φ.slots i).at
   ·cases g:φ.slots i with
    |c b=>replace r:=g▸ r;exact absurd (by replace hD:=g▸ hD;exact hD) r
    |d D' y=>
     rw[g]at r hD;haveI hD:=hD;subst hD;have Uv:=r.elim (λq=>absurd rfl q) id;exact⟨λu⟨m,q1,q2⟩=>⟨_,nd D y m g q1,by exact rL (Xcm Uv) q2⟩,λ⟨m,q1⟩=>⟨_,nd D y m g q1⟩⟩
   ·exact⟨λu⟨m,q1,q2⟩=>⟨m,q1.sameBut s hD,q2⟩,λ⟨m,q1⟩=>⟨m,q1.sameBut s hD⟩⟩
 have Lf:∃m,h'.Ns φ.L m:=by
  refine AK S.LN λm q=>?_;by_cases e:φ.L=(φ.slots i).at
  ·cases g:φ.slots i with
   |c a=>
    exfalso;obtain⟨o,es,ep,ho,hd⟩:=Dd q;haveI fr:=(S.lv i).free on;rw[g]at fr e;refine AK fr λu Ap=>AJ Ap λo' w t=>?_;haveI e:φ.L=a:=e;replace w:=ho▸ e▸ w;obtain rfl:=Xcl w;replace t:=hd▸ t;exact nomatch t
   |d D y=>
    replace e:=g▸ e;haveI e:φ.L=D:=e;exact⟨_,e▸ nd D y m g (e▸ q)⟩
  ·exact(AN m (q.sameBut s e))
 have S5:∀b o,c.base.get? b=some o->b≠(φ.slots i).at:=λb o e q=>nH q (S.off _ hW) e;haveI Rx:∃o,h'.get? (φ.slots i).at=some o:=by
  have fr:=(S.lv i).free on;cases g:φ.slots i with
  |c a=>exact AJ (ce a g) λo q _=>⟨o,q⟩
  |d D y=>
   replace fr:=g▸ fr;exact AK fr λm q=>Aj (nd D y m g q) λo _ _ q _=>⟨o,q⟩
 haveI Rw:∀j,∃o,h'.get? (φ.slots j).at=some o:=λj=>by
  by_cases e:(φ.slots j).at=(φ.slots i).at
  ·exact e▸ Rx
  ·exact AK (S.al j) λo q=>⟨o,(s.2 _ e).trans q⟩
 refine⟨λj=>?_,f.sw,Rw,f.sa,f.so,f.oo,S.LW,Lf,S.La,f.Lo,S.tW,f.ts,f.EO,S.tL,λb o e=>(s.2 b (S5 b o e)).trans (S.base b o e),S.off,?_,S.MW,λb hb=>(let⟨o,ho⟩:=S.MA b hb;⟨o,(s.2 b λq=>S.MW b hb (q▸ hW)).trans ho⟩),C.KS S.gi λa o ha e=>⟨(s.2 a λq=>ha.elim (λz=>z (.inr (q▸ hW))) λz=>S.ts i (q▸ z)).trans e,λz=>z⟩⟩
 ·refine rL (eq ..) ?_;by_cases e:j=i
  ·exact rL (Xck e) trivial
  ·refine rL (Xcm e) ?_;haveI k:=S.lv j;cases p:σ.at j with
   |O=>exact trivial
   |U=>replace k:=p▸ k;exact(Jf j e (rL p trivial)).2 k
   |V y=>
    replace k:=p▸ k;exact AJ k λu a b=>⟨u,(Jf j e (rL p trivial)).1 u a,AZ.mono UJ y b⟩
   |N o=>
    replace k:=p▸ k;exact⟨(Jf j e (rL p trivial)).1 _ k.1,k.2.1,IV j o (rL p trivial) k.2.2⟩
   |P o=>
    replace k:=p▸ k;exact⟨k.1,IV j o (rL p trivial) k.2⟩
 ·
  haveI go:∀{l:List Env},h.FunFrames c.base l->(∀e∈l,∀b,e.frame=some b->b≠(φ.slots i).at\/b=φ.L)->h'.FunFrames c.base l:=by
   intro l;induction l with
   |nil=>intro _ _;trivial
   |cons e l ih=>
    rintro⟨hk,⟨L,o,hf,hn,ho,hd⟩,hr⟩ hx;refine⟨hk,?_,ih hr λe' Me=>hx e' (.tail _ Me)⟩;rcases hx e (.head _) L hf with q|q
    ·exact⟨L,o,hf,hn,(s.2 L q).trans ho,hd⟩
    ·exact AK Lf λm Ap=>GO Ap λo' es ep w t _=>⟨L,o',hf,hn,q▸ w,λvs z=>by replace z:=t▸ z;cases z⟩
  refine go S.ff λe he b hf=>?_;cases he with
  |head=>right;replace hf:=O.fL▸ hf;obtain rfl:=sS hf;rfl
  |tail _ he=>left;exact λq=>S.MW b (O.FM b ⟨e,he,hf⟩) (q▸ hW)
inductive BF where
 |L|toInt|H|abs|toList
set_option genCtorIdx false in
inductive PE where
 |none|bool (b:Bool)|int (i:Int)|str (s:Str)
 |W (i:Nat)
 |A (e:PE)(cl k:Nat)
 |E (e:PE)(neg:Bool)
 |K (op:CmpOp)(a b:PE)
 |B (op:Operator)(a b:PE)
 |neg (a:PE)|not (a:PE)
 |and (a b:PE)|or (a b:PE)
 |D (t a b:PE)
 |list (es:List PE)|T (es:List PE)
 |C (elt:PE)(k:Nat)(it:PE)
 |R (elt:PE)(k:Nat)(n:PE)
 |GZ (elt cond:PE)(k:Nat)(it:PE)
 |CC (elt:PE)(k₁ k₂:Nat)(it:PE)
 |S (e i:PE)|OO (x:Nat) (i:PE)
 |H8 (e hi:PE)|GK (e lo hi:PE)
 |F (f:BF)(a:PE)|min (a b:PE)
 |J (e:PE)(c:Nat)
 |call (f:Nat)(args:List PE)
 |Q (f x:Nat)(args:List PE)
 |Fo (e:PE)
 |Gb
set_option genCtorIdx false in
inductive PS where
 |G (x:Nat)(e:PE)
 |FK (x:Nat)(e:PE)
 |EG (x y:Nat)(MN mR:PE)(Xb1:Bool)
 |K6 (x y t:Nat)(MN mR:PE)
 |Ec (x y:Nat)(e:PE)
 |SS (x:Nat)(i e:PE)
 |PP (x:Nat)(e:PE)|ext (x:Nat) (e:PE)
 |ex (e:PE)
 |X (t:PE)(a b:List PS)
 |FF (k:Nat)(it:PE)(body:List PS)
 |FV (k:Nat)(n:PE)(body:List PS)
 |Gf (k₁ k₂:Nat)(it:PE)(body:List PS)
 |Jp (t:PE)(body:List PS)
 |ret (e:PE)|Kx (e:PE)
mutual
noncomputable def Val.toPy:Val->PyData
 | .none=> .none
 | .bool b=> .bool b
 | .int i=> .int i
 | .str s=> .str s
 | .list xs=> .list (Val.Ic xs)
 | .T xs=> .tuple (Val.Ic xs)
 | .dict _ _| .I _ _| .any=> .none
noncomputable def Val.Ic:List Val->List PyData
 | []=>[]
 |x::xs=>x.toPy::Val.Ic xs
end
mutual
noncomputable def Val.plain:Val->Bool
 | .none| .int _| .str _=>true
 | .list xs| .T xs=>Val.QN xs
 | .bool _| .dict _ _| .I _ _| .any=>false
noncomputable def Val.QN:List Val->Bool
 | []=>true
 |x::xs=>x.plain&&Val.QN xs
end
section
variable {β:Type}
noncomputable def oI(x:Val)(k:Int->Option β):Option β:=match x with| .int i=>k i|_=>none
noncomputable def oB(x:Val)(k:Bool->Option β):Option β:=match x with| .bool i=>k i|_=>none
noncomputable def oS(x:Val)(k:Str->Option β):Option β:=match x with| .str i=>k i|_=>none
noncomputable def oL(x:Val)(k:List Val->Option β):Option β:=match x with| .list i=>k i|_=>none
end
noncomputable def cL{m β:Type}(xs:List m)(k:m->List m->Option β):Option β:=match xs with|x::r=>k x r| []=>none
noncomputable def cN{m β:Type}(xs:List m)(z:Option β):Option β:=match xs with| []=>z|_=>none
noncomputable def oT{β:Type}(x:Val)(k:List Val->Option β):Option β:=match x with| .T i=>k i|_=>none
def W2(f:Bool->Bool)(x y:Val):Option Val:=match x with
 | .bool i=>oB y λj=>some (.bool (f (i==j)))
 |_=>if x.plain&&y.plain&&SeqAt.shaped x.toPy&&SeqAt.shaped y.toPy then some (.bool (f (PyData.eqv x.toPy y.toPy)))else none
def B7(op:CmpOp)(x y:Val):Option Val:=match op with
 | .Lt=>oI x λi=>oI y λj=>some (.bool (decide (i<j)))
 | .Gt=>oI x λi=>oI y λj=>some (.bool (decide (i>j)))
 | .Eq=>W2 (λb=>b) x y
 | .NotEq=>W2 not x y
 |_=>none
noncomputable def Cw(i:Int):Bool:=decide (i.natAbs<2 ^ 60)
def Xai(x y:Val):Option RV:=match x with
 | .int i=>oI y λj=>some (.V (.int (i+j)))
 | .str a=>oS y λb=>if a.cps.size+b.cps.size<=1000000 then some (.V (.str (a++b)))else none
 | .list xs=>oL y λys=>if xs.length+ys.length<=1000000 then some (.M (.list (xs++ys)))else none
 |_=>none
def Xar(x y:Val):Option RV:=match x with
 | .int i=>oI y λj=>if Cw i||Cw j then some (.V (.int (i*j)))else none
 | .list xs=>oI y λj=>if xs.length*j.toNat<=1000000/\Cw j=true then some (.M (.list (List.replicate j.toNat xs).flatten))else none
 |_=>none
def Bq(op:Operator)(x y:Val):Option RV:=match op with
 | .Add=>Xai x y
 | .Sub=>oI x λi=>oI y λj=>some (.V (.int (i - j)))
 | .Mult=>Xar x y
 | .Mod=>oI x λi=>oI y λj=>if j=0 then none else some (.V (.int (i.fmod j)))
 | .FloorDiv=>oI x λi=>oI y λj=>if j=0\/Builtin.divisionGoesByPylong i j=true then none else some (.V (.int (i.fdiv j)))
 | .Pow=>oI x λi=>oI y λj=>if 0<=j/\j<=1000/\Cw i=true then some (.V (.int (i ^ j.toNat)))else none
 |_=>none
noncomputable def I2(k:Str):List Str->List Val->Option Val
 |k'::d,x::xs=>if k'=k then some x else I2 k d xs
 |_,_=>none
def Ee(x y:Val):Option Val:=match x with
 | .list xs=>oI y λi=>if 0<=i then xs[i.toNat]? else none
 | .T xs=>oI y λi=>if 0<=i then xs[i.toNat]? else none
 | .dict d xs=>oS y λk=>I2 k d xs
 |_=>none
noncomputable def Nc:Int->Bool
 | .ofNat n=>Nat.blt n 1000000000
 | .negSucc _=>false
theorem VQ(h:Nc i=true):0<=i/\i<1000000000:=by
 cases i with
 |ofNat n=>
  haveI:=Xch h;exact⟨Xee n,by simpa using Xgj.mpr this⟩
 |negSucc n=>exact fT h
theorem zK{n:Nat}(h:n<1000000000):Nc (n:Int)=true:=Nat.ble_eq_true_of_le h
def FD(f:BF)(x:Val):Option RV:=match f with
 | .L=>(match x with
  | .list xs=>some (.V (.int xs.length))
  | .T xs=>some (.V (.int xs.length))
  |_=>none)
 | .toInt=>oB x λb=>some (.V (.int (if b then 1 else 0)))
 | .H=>(match x with
  | .int i=>if Nc i=true then some (.V (.str (Str.ofString (toString i))))else none
  | .none=>some (.V (.str "None"))
  |_=>none)
 | .abs=>oI x λi=>some (.V (.int (if i<0 then -i else i)))
 | .toList=>oL x λxs=>some (.M (.list xs))
noncomputable def Ih(x:Val)(c:Nat):Option Bool:=match x with
 | .str _=>some (Nat.beq c 0)
 | .list _=>some (Nat.beq c 1)
 | .I a _=>if a=49\/a=114\/a=193 then some (decide (a=c))else none
 | .none| .int _| .T _=>some false
 |_=>none
noncomputable def Ed:Val->Option (List Val)
 | .list xs=>some xs
 | .dict d _=>if d.all (λk=>decide (k.cps.size<=1000000))then some (d.map .str)else none
 |_=>none
noncomputable def L8(a b:Str):Bool:= !(decide (b.cps.toList<a.cps.toList))
noncomputable def CB{m:Type}(k:Str)(x:m):List (Str×m)->List (Str×m)
 | []=>[(k,x)]
 | (G,C)::r=>if L8 k G&&k !=G then(k,x)::(G,C)::r else(G,C)::CB k x r
def Pp(v:Val):Option Str:=oT v λxs=>cL xs λa r=>cL r λU r=>cN r (oS a some)
noncomputable def H5:List Val->Option (List (Str×Val))
 | []=>some []
 |v::r=>(match Pp v with
  |some k=>(match H5 r with|some a=>some ((k,v)::a)|none=>none)
  |none=>none)
def Cy{m:Type}(ps:List (Str×m)):List (Str×m):=ps.foldl (λv p=>CB p.1 p.2 v) []
noncomputable def MI(np i:Nat)(σ:St):Option (RV×St):=match σ.at i with
 | .V x=>some (.V x,σ)
 | .N (.list xs)=>if i<np then none else some (.V (.list xs),σ.set i (.V (.list xs)))
 | .N (.dict d xs)=>if i<np then none else some (.V (.dict d xs),σ.set i (.V (.dict d xs)))
 |_=>none
noncomputable def EB:LV->Bool
 | .U| .V _=>true
 |_=>false
noncomputable def Gp:LV->Bool
 | .O=>true
 |_=>false
noncomputable def DJ(step:Val->St->Option (Option Val×St)):List Val->St->Option (List Val×St)
 | [],σ=>some ([],σ)
 |x::xs,σ=>match step x σ with
  |some (r,AA)=>(match DJ step xs AA with
   |some (ys,Ao)=>some (r.toList++ys,Ao)
   |none=>none)
  |none=>none
noncomputable def J4(x:Option (RV×St)):Option (Option Val×St):=x.map λp=>(some p.1.fz,p.2)
def Ji(f:St->Option (RV×St))(k:Nat)(x:Val)(σ:St):Option (Option Val×St):=
 if EB (σ.at k)=true then J4 (f (σ.set k (.V x)))else none
def Qk(g f:St->Option (RV×St))(k:Nat)(x:Val)(σ:St):Option (Option Val×St):=
 if EB (σ.at k)=true then
  match g (σ.set k (.V x))with
  |some (.V (.bool true),AA)=>J4 (f AA)
  |some (.V (.bool false),AA)=>some (none,AA)
  |_=>none
 else none
def Vd(f:St->Option (RV×St))(k₁ k₂:Nat)(x:Val)(σ:St):Option (Option Val×St):=
 match x with
 | .T [x,y]=>if EB (σ.at k₁)&&EB (σ.at k₂)then J4 (f ((σ.set k₁ (.V x)).set k₂ (.V y)))else none
 |_=>none
def H7(step:Val->St->Option (Option Val×St))(d:List Nat)(xs:List Val)(σ:St):Option (RV×St):=
 if(d.all λk=>Gp (σ.at k)&&decide (k<σ.length))=true/\xs.length<=1000000 then
  match DJ step xs (d.foldl (λσ k=>σ.set k .U) σ)with
  |some (ys,o)=>if(d.all λk=>EB (o.at k))=true then some (.M (.list ys),d.foldl (λσ k=>σ.set k .O) o)else none
  |none=>none
 else none
noncomputable def DO(n:Int):List Val:=(List.range n.toNat).map λ(k:Nat)=>Val.int (k:Int)
inductive AR where
 |V (x:Val)
 |N (x:Nat)
noncomputable def AR.lv(σ:St):AR->LV
 | .V x=> .V x
 | .N x=>σ.at x
noncomputable def AR.ix:AR->List Nat
 | .V _=>[]
 | .N x=>[x]
abbrev BZ:=Nat->List LV->Option (RV×List LV)
noncomputable def Bk:St->List AR->List LV->St
 |σ,.N x::N,l::m=>Bk (σ.set x l) N m
 |σ,.V _::N,_::m=>Bk σ N m
 |σ,_,_=>σ
noncomputable def Cu:LV->Bool
 | .N _=>true
 |_=>false
noncomputable def Mr:LV->Bool
 | .N (.list _)=>true
 |_=>false
noncomputable def DZ:List AR->List LV->Bool
 | .N _::N,l::m=>Cu l&&DZ N m
 | .V _::N,_::m=>DZ N m
 | [],[]=>true
 |_,_=>false
def El(Φ:BZ)(f:Nat)(as:List AR)(σ:St):Option (RV×St):=
 if(as.flatMap AR.ix).Nodup/\(as.flatMap AR.ix).all (λx=>Cu (σ.at x))=true then
  match Φ f (as.map (AR.lv σ))with
  |some (r,i)=>if DZ as i=true then some (r,Bk σ as i)else none
  |none=>none
 else none
mutual
noncomputable def ev(Φ:BZ)(np:Nat):PE->Bool->St->Option (RV×St)
 | .none,_,σ=>some (.V .none,σ)
 | .bool b,_,σ=>some (.V (.bool b),σ)
 | .int i,_,σ=>some (.V (.int i),σ)
 | .str s,_,σ=>some (.V (.str s),σ)
 | .W i,_,σ=>MI np i σ
 | .A e U k,_,σ=>(match ev Φ np e false σ with
  |some (r,AA)=>(match r.fz with
   | .I a xs=>if a=U then(match xs[k]? with|some x=>some (.V x,AA)|none=>none)else none
   |_=>none)
  |none=>none)
 | .E e neg,_,σ=>(match ev Φ np e false σ with
  |some (r,AA)=>(match r.fz with
   | .none=>some (.V (.bool (!neg)),AA)
   | .any=>none
   |_=>some (.V (.bool neg),AA))
  |none=>none)
 | .K C a b,_,σ=>(match ev Φ np a false σ with
  |some (r,AA)=>(match ev Φ np b false AA with
   |some (m,Ao)=>(match B7 C r.fz m.fz with|some x=>some (.V x,Ao)|none=>none)
   |none=>none)
  |none=>none)
 | .B C a b,_,σ=>(match ev Φ np a false σ with
  |some (r,AA)=>(match ev Φ np b false AA with
   |some (m,Ao)=>(match Bq C r.fz m.fz with|some x=>some (x,Ao)|none=>none)
   |none=>none)
  |none=>none)
 | .neg a,_,σ=>(match ev Φ np a false σ with
  |some (r,AA)=>(match r.fz with| .int i=>some (.V (.int (-i)),AA)|_=>none)
  |none=>none)
 | .not a,t,σ=>(match t,ev Φ np a true σ with
  |true,some (.V (.bool b),AA)=>some (.V (.bool (!b)),AA)
  |_,_=>none)
 | .and a b,t,σ=>(match ev Φ np a t σ with
  |some (.V (.bool true),AA)=>ev Φ np b t AA
  |some (.V (.bool false),AA)=>some (.V (.bool false),AA)
  |_=>none)
 | .or a b,t,σ=>(match ev Φ np a t σ with
  |some (.V (.bool true),AA)=>some (.V (.bool true),AA)
  |some (.V (.bool false),AA)=>ev Φ np b t AA
  |_=>none)
 | .D c a b,t,σ=>(match ev Φ np c true σ with
  |some (.V (.bool true),AA)=>ev Φ np a t AA
  |some (.V (.bool false),AA)=>ev Φ np b t AA
  |_=>none)
 | .list g,_,σ=>(match MK Φ np g σ with|some (xs,AA)=>if xs.length<=1000000 then some (.M (.list xs),AA)else none|none=>none)
 | .T g,_,σ=>(match MK Φ np g σ with|some (xs,AA)=>if xs.length<=1000000 then some (.V (.T xs),AA)else none|none=>none)
 | .C A k d,_,σ=>(match ev Φ np d false σ with
  |some (r,AA)=>(match Ed r.fz with
   |some xs=>H7 (Ji (λσ=>ev Φ np A false σ) k) [k] xs AA
   |none=>none)
  |none=>none)
 | .R A k n,_,σ=>(match ev Φ np n false σ with
  |some (r,AA)=>(match r.fz with
   | .int i=>if -100000<=i/\i<=100000 then H7 (Ji (λσ=>ev Φ np A false σ) k) [k] (DO i) AA else none
   |_=>none)
  |none=>none)
 | .GZ A cond k d,_,σ=>(match ev Φ np d false σ with
  |some (r,AA)=>(match Ed r.fz with
   |some xs=>H7 (Qk (λσ=>ev Φ np cond true σ) (λσ=>ev Φ np A false σ) k) [k] xs AA
   |none=>none)
  |none=>none)
 | .CC A L O d,_,σ=>(match ev Φ np d false σ with
  |some (r,AA)=>(match Ed r.fz with
   |some xs=>if L=O then none else H7 (Vd (λσ=>ev Φ np A false σ) L O) [L,O] xs AA
   |none=>none)
  |none=>none)
 | .S e i,_,σ=>(match ev Φ np e false σ with
  |some (r,AA)=>(match ev Φ np i false AA with
   |some (m,Ao)=>(match Ee r.fz m.fz with|some x=>some (.V x,Ao)|none=>none)
   |none=>none)
  |none=>none)
 | .OO x i,_,σ=>(match σ.at x with
  | .N (.list _)=>(match ev Φ np i false σ with
   |some (r,AA)=>(match AA.at x,r.fz with
    | .N (.list xs),.int j=>if 0<=j then(match xs[j.toNat]? with|some y=>some (.V y,AA)|none=>none)else none
    |_,_=>none)
   |none=>none)
  |_=>none)
 | .H8 e h,_,σ=>(match ev Φ np e false σ with
  |some (r,AA)=>(match ev Φ np h false AA with
   |some (m,Ao)=>(match r.fz,m.fz with
    | .list xs,.int j=>if 0<=j then some (.M (.list (xs.take j.toNat)),Ao)else none
    |_,_=>none)
   |none=>none)
  |none=>none)
 | .GK e lo h,_,σ=>(match ev Φ np e false σ with
  |some (r,AA)=>(match ev Φ np lo false AA with
   |some (m,Ao)=>(match ev Φ np h false Ao with
    |some (l,o)=>(match r.fz,m.fz,l.fz with
     | .list xs,.int i,.int j=>if 0<=i/\i<=j/\j<=xs.length then some (.M (.list ((xs.drop i.toNat).take (j.toNat - i.toNat))),o)else none
     |_,_,_=>none)
    |none=>none)
   |none=>none)
  |none=>none)
 | .F f a,_,σ=>(match ev Φ np a false σ with
  |some (r,AA)=>(match FD f r.fz with|some x=>some (x,AA)|none=>none)
  |none=>none)
 | .min a b,_,σ=>(match ev Φ np a false σ with
  |some (r,AA)=>(match ev Φ np b false AA with
   |some (m,Ao)=>(match r.fz,m.fz with
    | .int i,.int j=>some (.V (.int (if j<i then j else i)),Ao)
    |_,_=>none)
   |none=>none)
  |none=>none)
 | .J e c,_,σ=>(match ev Φ np e false σ with
  |some (r,AA)=>(match Ih r.fz c with|some b=>some (.V (.bool b),AA)|none=>none)
  |none=>none)
 | .call f J,_,σ=>(match By Φ np J σ with|some (N,AA)=>El Φ f N AA|none=>none)
 | .Q f x J,_,σ=>(match σ.at x with
  | .N (.Z _)=>(match By Φ np J σ with|some (N,AA)=>El Φ f (.N x::N) AA|none=>none)
  |_=>none)
 | .Fo e,_,σ=>(match ev Φ np e false σ with
  |some (r,AA)=>(match r.fz with
   | .list xs=>(match H5 xs with|some v=>if v.length<64/\(v.map (·.1)).Nodup then some (.M (.list ((Cy v).map (·.2))),AA)else none|none=>none)
   |_=>none)
  |none=>none)
 | .Gb,_,σ=>some (.M (.dict [] []),σ)
noncomputable def MK(Φ:BZ)(np:Nat):List PE->St->Option (List Val×St)
 | [],σ=>some ([],σ)
 |e::a,σ=>(match ev Φ np e false σ with
  |some (r,AA)=>(match MK Φ np a AA with|some (xs,Ao)=>some (r.fz::xs,Ao)|none=>none)
  |none=>none)
noncomputable def By(Φ:BZ)(np:Nat):List PE->St->Option (List AR×St)
 | [],σ=>some ([],σ)
 | .W x::a,σ=>(match σ.at x with
  | .N _=>(match By Φ np a σ with|some (N,AA)=>some (.N x::N,AA)|none=>none)
  | .V y=>(match By Φ np a σ with|some (N,AA)=>some (.V y::N,AA)|none=>none)
  |_=>none)
 |e::a,σ=>(match ev Φ np e false σ with
  |some (r,AA)=>(match By Φ np a AA with|some (N,Ao)=>some (.V r.fz::N,Ao)|none=>none)
  |none=>none)
end
noncomputable def Bb(np x:Nat):LV->Bool
 | .U| .V _=>true
 | .N _=>decide (np<=x)
 |_=>false
set_option genCtorIdx false in
inductive FR where
 |next
 |ret (r:RV)
noncomputable def FR.aL:FR->Bool
 | .next=>true
 | .ret _=>false
theorem cP{r:RV}{P:Prop}(h:FR.next= .ret r):P:=tF (congrArg FR.aL h)
theorem dK{r:RV}{P:Prop}(h:FR.ret r= .next):P:=fT (congrArg FR.aL h)
noncomputable def Em(step:Val->St->Option (FR×St)):List Val->St->Option (FR×St)
 | [],σ=>some (.next,σ)
 |x::xs,σ=>match step x σ with
  |some (.next,AA)=>Em step xs AA
  |some (.ret r,AA)=>some (.ret r,AA)
  |none=>none
def Jj(np:Nat)(f:St->Option (FR×St))(k:Nat)(x:Val)(σ:St):Option (FR×St):=
 if Bb np k (σ.at k)=true then f (σ.set k (.V x))else none
def Ve(np:Nat)(f:St->Option (FR×St))(k₁ k₂:Nat)(x:Val)(σ:St):Option (FR×St):=
 match x with
 | .T [x,y]=>if Bb np k₁ (σ.at k₁)&&Bb np k₂ (σ.at k₂)then f ((σ.set k₁ (.V x)).set k₂ (.V y))else none
 |_=>none
noncomputable def F0(t:St->Option (RV×St))(f:St->Option (FR×St)):Nat->St->Option (FR×St)
 |0,_=>none
 |n+1,σ=>match t σ with
  |some (.V (.bool true),AA)=>(match f AA with
   |some (.next,Ao)=>F0 t f n Ao
   |some (.ret r,AA)=>some (.ret r,AA)
   |none=>none)
  |some (.V (.bool false),AA)=>some (.next,AA)
  |_=>none
noncomputable def Cr(k:Str)(x:Val):List Str->List Val->List Str×List Val
 |k'::d,y::ys=>if k'=k then(k'::d,x::ys)else((k'::(Cr k x d ys).1),y::(Cr k x d ys).2)
 |_,_=>([k],[x])
mutual
noncomputable def Ae(Φ:BZ)(np fuel:Nat):PS->St->Option (FR×St)
 | .G x e,σ=>(match ev Φ np e false σ with
  |some (r,AA)=>if Bb np x (AA.at x)then some (.next,AA.set x (.V r.fz))else none
  |none=>none)
 | .FK x e,σ=>(match ev Φ np e false σ with
  |some (.M o,AA)=>if Bb np x (AA.at x)&&decide (np<=x)then some (.next,AA.set x (.N o))else none
  |_=>none)
 | .EG x y c d own,σ=>(match ev Φ np c false σ with
  |some (r,AA)=>(match ev Φ np d false AA with
   |some (m,Ao)=>if Bb np x (Ao.at x)&&Bb np y (Ao.at y)&&decide (x≠y)then
     (match own,m with
     |false,m=>some (.next,(Ao.set x (.V r.fz)).set y (.V m.fz))
     |true,.M o=>if np<=y then some (.next,(Ao.set x (.V r.fz)).set y (.N o))else none
     |_,_=>none)else none
   |none=>none)
  |none=>none)
 | .K6 x y t c d,σ=>(match ev Φ np c false σ with
  |some (.M o,AA)=>if Gp (AA.at t)&&decide (t<AA.length)then(match ev Φ np d false (AA.set t (.P o))with
    |some (m,Ao)=>(match Ao.at t with
     | .P (.list xs)=>if Bb np x (Ao.at x)&&Bb np y (Ao.at y)&&decide (x≠y)&&decide (np<=x)&&decide (t≠x)&&decide (t≠y)&&decide (np<=t)then some (.next,((Ao.set t .O).set x (.N (.list xs))).set y (.V m.fz))else none
     |_=>none)
    |none=>none)else none
  |_=>none)
 | .Ec x y e,σ=>(match ev Φ np e false σ with
  |some (r,AA)=>(match r.fz with
   | .T [u,v]=>if Bb np x (AA.at x)&&Bb np y (AA.at y)&&decide (x≠y)then some (.next,(AA.set x (.V u)).set y (.V v))else none
   |_=>none)
  |none=>none)
 | .SS x i e,σ=>(match ev Φ np e false σ with
  |some (r,AA)=>if Cu (AA.at x)then(match ev Φ np i false AA with
   |some (m,Ao)=>(match Ao.at x,m.fz with
    | .N (.list xs),.int j=>if 0<=j/\j<xs.length then some (.next,Ao.set x (.N (.list (xs.set j.toNat r.fz))))else none
    | .N (.dict h xs),.str k=>if h.length<=100000 then some (.next,Ao.set x (.N (.dict (Cr k r.fz h xs).1 (Cr k r.fz h xs).2)))else none
    |_,_=>none)
   |none=>none)else none
  |none=>none)
 | .PP x e,σ=>if Mr (σ.at x)then(match ev Φ np e false σ with
  |some (r,AA)=>(match AA.at x with
   | .N (.list xs)=>if xs.length<=100000 then some (.next,AA.set x (.N (.list (xs++[r.fz]))))else none
   |_=>none)
  |none=>none)else none
 | .ext x e,σ=>if Mr (σ.at x)then(match ev Φ np e false σ with
  |some (r,AA)=>(match AA.at x,r.fz with
   | .N (.list xs),.list ys=>if xs.length+ys.length<=100000 then some (.next,AA.set x (.N (.list (xs++ys))))else none
   |_,_=>none)
  |none=>none)else none
 | .ex e,σ=>(match ev Φ np e false σ with
  |some (_,AA)=>some (.next,AA)
  |none=>none)
 | .X t a b,σ=>(match ev Φ np t true σ with
  |some (.V (.bool true),AA)=>Bv Φ np fuel a AA
  |some (.V (.bool false),AA)=>Bv Φ np fuel b AA
  |_=>none)
 | .FF k g body,σ=>(match ev Φ np g false σ with
  |some (r,AA)=>(match Ed r.fz with
   |some xs=>Em (Jj np (λσ=>Bv Φ np fuel body σ) k) xs AA
   |none=>none)
  |none=>none)
 | .FV k n body,σ=>(match ev Φ np n false σ with
  |some (r,AA)=>(match r.fz with
   | .int i=>if -100000<=i/\i<=100000 then Em (Jj np (λσ=>Bv Φ np fuel body σ) k) (DO i) AA else none
   |_=>none)
  |none=>none)
 | .Gf L O g body,σ=>(match ev Φ np g false σ with
  |some (r,AA)=>(match Ed r.fz with
   |some xs=>if L=O then none else Em (Ve np (λσ=>Bv Φ np fuel body σ) L O) xs AA
   |none=>none)
  |none=>none)
 | .Jp t body,σ=>F0 (λσ=>ev Φ np t true σ) (λσ=>Bv Φ np fuel body σ) fuel σ
 | .ret e,σ=>(match ev Φ np e false σ with
  |some (r,AA)=>some (.ret (.V r.fz),AA)
  |none=>none)
 | .Kx e,σ=>(match ev Φ np e false σ with
  |some (r,AA)=>some (.ret r,AA)
  |none=>none)
noncomputable def Bv(Φ:BZ)(np fuel:Nat):List PS->St->Option (FR×St)
 | [],σ=>some (.next,σ)
 |s::J,σ=>(match Ae Φ np fuel s σ with
  |some (.next,AA)=>Bv Φ np fuel J AA
  |some (.ret r,AA)=>some (.ret r,AA)
  |none=>none)
end
structure Fn where
 np:Nat
 nl:Nat
 nc:Nat
 body:List PS
def G6(Φ:BZ)(fuel:Nat)(fd:Fn)(args:List LV):Option (RV×List LV):=
 if args.length=fd.np then
  match Bv Φ fd.np fuel fd.body (args++List.replicate fd.nl .U++List.replicate fd.nc .O)with
  |some (.next,σ)=>some (.V .none,σ.take fd.np)
  |some (.ret r,σ)=>some (r,σ.take fd.np)
  |none=>none
 else none
section
variable {β:Type}{σ:St}{z:Option β}
theorem fR{g:RV->St->Option β}(h:o=some (r,σ))(k:g r σ=z):(match (generalizing:=false) o with|some (r,σ)=>g r σ|none=>none)=z:=by subst h;exact k
theorem fA{g:List AR->St->Option β}(h:o=some (r,σ))(k:g r σ=z):(match (generalizing:=false) o with|some (r,σ)=>g r σ|none=>none)=z:=by subst h;exact k
theorem fI{g:List Val->Option β}(h:o=some r)(k:g r=z):(match (generalizing:=false) o with|some r=>g r|none=>none)=z:=by subst h;exact k
theorem fV{v:Val}{g:Int->Option β}(h:v= .int i)(k:g i=z):(match (generalizing:=false) v with| .int i=>g i|_=>none)=z:=by subst h;exact k
theorem fX{o:Option (FR×St)}{g:St->Option (FR×St)}{z:Option (FR×St)}(h:o=some (.next,σ))(k:g σ=z):(match (generalizing:=false) o with|some (.next,σ)=>g σ|some (.ret r,σ)=>some (.ret r,σ)|none=>none)=z:=by subst h;exact k
theorem mT{f x:Nat}{σ:St}{o s:OV}(a:σ.at x= .N o)(h:Φ f [.N o]=some (r,[.N s])):El Φ f [.N x] σ=some (r,σ.set x (.N s)):=by
 unfold El;refine rL (Xck (AH (Xc6.mpr ⟨Xcu,Xih⟩) (by show(Cu (σ.at x)&&true)=true;refine rL (a ..) ?_;rfl))) ?_;show(match Φ f [σ.at x]with|some (r,i)=>if DZ [.N x] i=true then some (r,Bk σ [.N x] i)else none|none=>none)=_;refine rL a (rL h ?_);rfl
theorem Xx{f x:Nat}{σ:St}{o s:OV}(a:σ.at x= .N o)(h:Φ f [.N o,.V v]=some (r,[.N s,.V v])):El Φ f [.N x,.V v] σ=some (r,σ.set x (.N s)):=by
 unfold El;refine rL (Xck (AH (Xc6.mpr ⟨Xcu,Xih⟩) (by show(Cu (σ.at x)&&true)=true;refine rL (a ..) ?_;rfl))) ?_;show(match Φ f [σ.at x,.V v]with|some (r,i)=>if DZ [.N x,.V v] i=true then some (r,Bk σ [.N x,.V v] i)else none|none=>none)=_;refine rL a (rL h ?_);rfl
theorem Xy{o:Option (FR×St)}{g:St->Option (FR×St)}{r:RV}(h:o=some (.ret r,σ)):(match (generalizing:=false) o with|some (.next,σ)=>g σ|some (.ret r,σ)=>some (.ret r,σ)|none=>none)=some (.ret r,σ):=by subst h;exact rfl
end
section
variable {β:Type}{z:β}{Q:Prop}
theorem Mu{g:List Val->St->Option β}(h:(match o with|some (r,AA)=>g r AA|none=>none)=some z)(k:∀r AA,o=some (r,AA)->g r AA=some z->Q):Q:=by
 rcases o with _|⟨r,AA⟩
 ·exact nS h
 ·exact k r AA rfl h
theorem jI{p:Prop}[Decidable p](h:(if p then a else none)=some z)(k:p->a=some z->Q):Q:=by
 by_cases q:p
 ·rw[Xck q]at h;exact k q h
 ·rw[Xcm q]at h;exact nS h
set_option tactic.hygienic true in
theorem jT{o:Option (RV×St)}{f g:St->Option β}(h:(match o with|some (.V (.bool true),AA)=>f AA|some (.V (.bool false),AA)=>g AA|_=>none)=some z)
  (k:∀b AA,o=some (.V (.bool b),AA)->(b=true->f AA=some z)->(b=false->g AA=some z)->Q):Q:=by
 rcases o with _|⟨_|_,AA⟩
 ·exact nS h
 ·rename_i x;cases x with
  |bool b=>cases b with
   |true=>exact k true AA rfl (λU=>h) λq=>fT q.symm
   |false=>exact k false AA rfl (λq=>fT q) λU=>h
  |_=>exact nS h
 ·exact nS h
theorem UI{v:Val}{g:Val->Val->Option β}(h:(match v with| .T [u,w]=>g u w|_=>none)=some z)(k:∀u w,v= .T [u,w]->g u w=some z->Q):Q:=by
 cases v with
 |T o=>rcases o with _|⟨u,_|⟨w,_|_⟩⟩<;>first|exact k _ _ rfl h|exact nS h
 |_=>exact nS h
variable {step:Val->St->Option (Option Val×St)}{x:Val}{xs ys:List Val}{σ AA Ao:St}{r:Option Val}
theorem Sm(h:step x σ=some (r,AA))(T:DJ step xs AA=some (ys,Ao)):DJ step (x::xs) σ=some (r.toList++ys,Ao):=by
 show(match step x σ with|some (r,AA)=>(match DJ step xs AA with|some (ys,Ao)=>some (r.toList++ys,Ao)|none=>none)|none=>none)=_;refine rL h ?_;show(match DJ step xs AA with|some (ys,Ao)=>some (r.toList++ys,Ao)|none=>none)=_;exact rL T rfl
theorem ae{z:RV×St}(h:H7 step d xs σ=some z)(k:(d.all λk=>Gp (σ.at k)&&decide (k<σ.length))=true->xs.length<=1000000->∀ys Ao,DJ step xs (d.foldl (λσ k=>σ.set k .U) σ)=some (ys,Ao)->(d.all λk=>EB (Ao.at k))=true->some (.M (.list ys),d.foldl (λσ k=>σ.set k .O) Ao)=some z->Q):Q:=
 jI h λy h=>Mu h λys Ao Y h=>jI h λa h=>k y.1 y.2 ys Ao Y a h
variable {t:St->Option (RV×St)}{f:St->Option (FR×St)}{Nj:Val->St->Option (FR×St)}{n:Nat}
theorem lH(h:Nj x σ=some (.next,AA)):Em Nj (x::xs) σ=Em Nj xs AA:=by
 show(match (generalizing:=false) Nj x σ with|some (.next,AA)=>Em Nj xs AA|some (.ret r,AA)=>some (.ret r,AA)|none=>none)=_;exact rL h rfl
theorem lJ(h:t σ=some (.V (.bool false),AA)):F0 t f (n+1) σ=some (.next,AA):=by
 show(match t σ with|some (.V (.bool true),AA)=>(match f AA with|some (.next,Ao)=>F0 t f n Ao|some (.ret r,AA)=>some (.ret r,AA)|none=>none)|some (.V (.bool false),AA)=>some (.next,AA)|_=>none)=_;exact rL h rfl
theorem lK(h:t σ=some (.V (.bool true),AA))(T:f AA=some (.next,Ao)):F0 t f (n+1) σ=F0 t f n Ao:=by
 show(match t σ with|some (.V (.bool true),AA)=>(match f AA with|some (.next,Ao)=>F0 t f n Ao|some (.ret r,AA)=>some (.ret r,AA)|none=>none)|some (.V (.bool false),AA)=>some (.next,AA)|_=>none)=_;refine rL h ?_;show(match f AA with|some (.next,Ao)=>F0 t f n Ao|some (.ret r,AA)=>some (.ret r,AA)|none=>none)=_;exact rL T rfl
end
theorem cS{σ:St}{AV:List (Str×Nat)}(h:((AV.map (·.2)).all λk=>Gp (σ.at k)&&decide (k<σ.length))=true)(p:Str×Nat)(b:p∈AV):σ.at p.2= .O/\p.2<σ.length:=by
 haveI:=Xce.mp h p.2 (Xc3 b);refine⟨?_,Xcj (ar this)⟩;have:=al this;cases a:σ.at p.2<;>rw[a]at this<;>first|rfl|exact fT this
theorem dJ{σ:St}{AV:List (Str×Nat)}(h:((AV.map (·.2)).all λk=>EB (σ.at k))=true)(p:Str×Nat)(a:p∈AV):EB (σ.at p.2)=true:=Xce.mp h p.2 (Xc3 a)
noncomputable def YR:Fn:=⟨1,0,0,[.ret (.B .Add (.F .L (.A (.W 0) 49 0)) (.F .L (.A (.W 0) 49 3)))]⟩
noncomputable def YT:Fn:=⟨1,0,0,[.ret (.D (.E (.A (.W 0) 49 2) true) .none (.B .Add (.call 0 [(.W 0)]) (.F .L (.A (.W 0) 49 1))))]⟩
noncomputable def YX:Fn:=⟨1,0,0,[.ret (.B .Add (.B .Add (.call 0 [(.W 0)]) (.F .L (.A (.W 0) 49 1))) (.F .toInt (.E (.A (.W 0) 49 2) true)))]⟩
noncomputable def YF:Fn:=⟨2,0,0,[.X (.E (.W 1) false) [.ret (.B .Add (.F .H (.W 0)) (.str "+"))] [],.ret (.D (.K .Eq (.W 0) (.W 1)) (.F .H (.W 0)) (.B .Add (.B .Add (.F .H (.W 0)) (.str "..")) (.F .H (.W 1))))]⟩
noncomputable def YG:Fn:=⟨1,0,0,[.ret (.call 3 [(.call 0 [(.W 0)]),(.call 1 [(.W 0)])])]⟩
noncomputable def I7:Fn:=⟨4,1,0,[.X (.or (.K .Lt (.W 1) (.W 2)) (.and (.E (.W 3) true) (.K .Gt (.W 1) (.W 3)))) [.G 4 (.B .Add (.B .Add (.B .Add (.B .Add (.str "wrong number of arguments (given ") (.F .H (.W 1))) (.str ", expected ")) (.call 3 [(.W 2),(.W 3)])) (.str ")")),.ex (.Q 43 0 [(.str "ArgumentError"),(.W 4)])] []]⟩
noncomputable def YE:Fn:=⟨2,3,0,[.EG 2 3 (.call 0 [(.W 0)]) (.call 1 [(.W 0)]) false,.G 4 (.or (.E (.W 3) false) (.and (.W 1) (.K .Gt (.W 3) (.W 2)))),.ret (.D (.W 4) (.B .Sub (.neg (.W 2)) (.int 1)) (.W 2))]⟩
noncomputable def YI:Fn:=⟨1,0,0,[.ret (.D (.J (.W 0) 49) (.call 8 [(.W 0)]) (.list [(.W 0)]))]⟩
noncomputable def YU:Fn:=⟨1,2,2,[.FK 1 (.list []),.FF 2 (.A (.W 0) 49 0) [.ext 1 (.call 7 [(.W 2)])],.ext 1 (.CC (.W 3) 3 4 (.A (.W 0) 49 1)),.X (.and (.E (.A (.W 0) 49 2) true) (.K .NotEq (.A (.W 0) 49 2) (.str ""))) [.PP 1 (.A (.W 0) 49 2)] [],.FF 2 (.A (.W 0) 49 3) [.ext 1 (.call 7 [(.W 2)])],.X (.E (.A (.W 0) 49 4) true) [.PP 1 (.A (.W 0) 49 4)] [],.ret (.W 1)]⟩
noncomputable def YH:Fn:=⟨2,2,0,[.EG 2 3 (.call 1 [(.W 1)]) (.B .Sub (.call 0 [(.W 1)]) (.F .L (.W 0))) false,.X (.K .Gt (.W 3) (.int 0)) [.ret (.B .Add (.W 0) (.B .Mult (.list [.none]) (.W 3)))] [],.ret (.D (.E (.W 2) false) (.W 0) (.H8 (.W 0) (.W 2)))]⟩
noncomputable def YP:Fn:=⟨1,0,0,[.ret (.D (.J (.W 0) 114) (.F .toList (.A (.W 0) 114 6)) (.list [(.W 0)]))]⟩
noncomputable def Yc:Fn:=⟨4,0,0,[.X (.J (.W 1) 49) [.ex (.call 12 [(.W 0),(.W 1),(.call 9 [(.call 10 [(.W 2)]),(.W 1)]),(.W 3)])] [.SS 3 (.W 1) (.W 2)]]⟩
noncomputable def Yb:Fn:=⟨4,5,0,[.EG 4 5 (.F .L (.A (.W 1) 49 0)) (.F .L (.A (.W 1) 49 3)) false,.G 6 (.min (.F .L (.A (.W 1) 49 1)) (.B .Sub (.B .Sub (.F .L (.W 2)) (.W 4)) (.W 5))),.FV 7 (.W 4) [.ex (.call 11 [(.W 0),(.S (.A (.W 1) 49 0) (.W 7)),(.S (.W 2) (.W 7)),(.W 3)])],.FV 7 (.W 6) [.SS 3 (.S (.S (.A (.W 1) 49 1) (.W 7)) (.int 0)) (.S (.W 2) (.B .Add (.W 4) (.W 7)))],.G 8 (.B .Sub (.F .L (.W 2)) (.W 5)),.X (.and (.E (.A (.W 1) 49 2) true) (.K .NotEq (.A (.W 1) 49 2) (.str ""))) [.SS 3 (.A (.W 1) 49 2) (.Q 41 0 [(.GK (.W 2) (.B .Add (.W 4) (.W 6)) (.W 8))])] [],.FV 7 (.W 5) [.ex (.call 11 [(.W 0),(.S (.A (.W 1) 49 3) (.W 7)),(.S (.W 2) (.B .Add (.W 8) (.W 7))),(.W 3)])],.ret (.W 6)]⟩
noncomputable def I6:Fn:=⟨4,2,0,[.EG 2 4 (.F .toList (.W 2)) .Gb true,.X (.W 3) [.ex (.call 5 [(.W 0),(.F .L (.W 2)),(.call 0 [(.W 1)]),(.call 1 [(.W 1)])])] [.X (.and (.K .Eq (.F .L (.W 2)) (.int 1)) (.and (.J (.S (.W 2) (.int 0)) 114) (.K .Gt (.call 2 [(.W 1)]) (.int 1)))) [.G 2 (.F .toList (.A (.S (.W 2) (.int 0)) 114 6))] [],.G 2 (.call 9 [(.W 2),(.W 1)])],.G 5 (.call 12 [(.W 0),(.W 1),(.W 2),(.W 4)]),.ret (.T [(.W 4),(.W 5)])]⟩
noncomputable def YZ:Fn:=⟨3,0,0,[.ret (.A (.W 1) 193 13)]⟩
noncomputable def YY:Fn:=⟨3,0,0,[.ret (.D (.E (.A (.W 1) 193 6) false) (.int 0) (.call 6 [(.A (.W 1) 193 6),(.A (.W 1) 193 13)]))]⟩
noncomputable def Ya:Fn:=⟨3,6,3,[.EG 3 4 (.A (.W 1) 193 6) (.list []) true,.X (.E (.W 3) true) [.G 5 (.D (.A (.W 1) 193 13) (.str "req") (.str "opt")),.FF 6 (.A (.W 3) 49 0) [.PP 4 (.list [(.W 5),(.W 6)])],.Gf 6 7 (.A (.W 3) 49 1) [.PP 4 (.list [(.str "opt"),(.W 6)])],.X (.E (.A (.W 3) 49 2) true) [.PP 4 (.list [(.str "rest"),(.A (.W 3) 49 2)])] [],.FF 6 (.A (.W 3) 49 3) [.PP 4 (.list [(.W 5),(.W 6)])],.X (.E (.A (.W 3) 49 4) true) [.PP 4 (.list [(.str "block"),(.A (.W 3) 49 4)])] []] [],.G 8 (.C (.GZ (.W 10) (.and (.J (.W 10) 0) (.K .NotEq (.W 10) (.str ""))) 10 (.W 9)) 9 (.W 4)),.ret (.Q 41 0 [(.C (.Q 41 0 [(.W 11)]) 11 (.W 8))])]⟩
noncomputable def Xz:Fn:=⟨1,2,0,[.G 1 (.int 0),.FF 2 (.H8 (.W 0) (.int 24)) [.G 1 (.B .Add (.B .Add (.B .Mult (.W 1) (.int 1000003)) (.B .Mult (.B .Mod (.F .abs (.W 2)) (.B .Pow (.int 10) (.int 30))) (.int 2))) (.F .toInt (.K .Lt (.W 2) (.int 0))))],.Kx (.list [(.W 1),(.int 0),(.int 0),(.int 12)])]⟩
noncomputable def YA:Fn:=⟨2,1,0,[.SS 0 (.int 1) (.B .Add (.OO 0 (.int 1)) (.int 1)),.X (.K .Eq (.OO 0 (.int 0)) (.int 0)) [.ret (.B .Mod (.B .Mod (.B .Add (.B .Add (.B .Mult (.B .Mult (.int 4) (.OO 0 (.int 1))) (.OO 0 (.int 1))) (.B .Mult (.int 3) (.OO 0 (.int 1)))) (.int 9)) (.int 61)) (.W 1))] [],.G 2 (.B .Mod (.OO 0 (.int 0)) (.W 1)),.SS 0 (.int 0) (.B .FloorDiv (.OO 0 (.int 0)) (.W 1)),.ret (.W 2)]⟩
noncomputable def Y3:Fn:=⟨1,0,0,[.SS 0 (.int 2) (.B .Add (.OO 0 (.int 2)) (.int 1)),.ret (.B .Add (.str "v") (.F .H (.OO 0 (.int 2))))]⟩
noncomputable def Y5:Fn:=⟨2,0,0,[.X (.or (.K .Eq (.W 1) (.int 0)) (.or (.K .Gt (.OO 0 (.int 2)) (.OO 0 (.int 3))) (.K .Gt (.call 18 [(.W 0),(.int 3)]) (.int 0)))) [.ret (.call 19 [(.W 0)])] [],.ret (.call 21 [(.W 0),(.B .Sub (.W 1) (.int 1)),(.bool true)])]⟩
noncomputable def Y8:Fn:=⟨3,6,3,[.G 3 (.R (.call 20 [(.W 0),(.W 1)]) 9 (.B .Add (.F .toInt (.W 2)) (.call 18 [(.W 0),(.B .Sub (.int 3) (.F .toInt (.W 2)))]))),.G 4 (.D (.W 2) (.list []) (.R (.T [(.call 19 [(.W 0)]),.none]) 10 (.call 18 [(.W 0),(.int 3)]))),.G 5 (.call 18 [(.W 0),(.int 4)]),.G 6 (.D (.K .Lt (.W 5) (.int 2)) .none (.D (.K .Eq (.W 5) (.int 2)) (.str "") (.call 19 [(.W 0)]))),.G 7 (.D (.K .Gt (.W 5) (.int 1)) (.R (.call 20 [(.W 0),(.W 1)]) 11 (.call 18 [(.W 0),(.int 2)])) (.list [])),.G 8 (.D (.or (.W 2) (.K .Gt (.call 18 [(.W 0),(.int 3)]) (.int 0))) .none (.call 19 [(.W 0)])),.ret (.call 40 [(.W 3),(.W 4),(.W 6),(.W 7),(.W 8)])]⟩
noncomputable def Y0:Fn:=⟨1,1,0,[.G 1 (.B .Add (.F .L (.A (.W 0) 49 0)) (.F .L (.A (.W 0) 49 3))),.ret (.T [(.W 1),(.D (.E (.A (.W 0) 49 2) true) .none (.B .Add (.W 1) (.F .L (.A (.W 0) 49 1))))])]⟩
noncomputable def Y2:Fn:=⟨2,2,0,[.Ec 2 3 (.call 22 [(.W 0)]),.Jp (.K .Lt (.F .L (.W 1)) (.W 2)) [.G 1 (.B .Add (.W 1) (.list [.none]))],.ret (.D (.E (.W 3) false) (.W 1) (.H8 (.W 1) (.W 3)))]⟩
noncomputable def Y7:Fn:=⟨3,6,3,[.EG 3 4 (.F .L (.A (.W 1) 49 0)) (.B .Sub (.F .L (.W 2)) (.F .L (.A (.W 1) 49 3))) false,.G 5 (.min (.F .L (.A (.W 1) 49 1)) (.B .Sub (.W 4) (.W 3))),.G 6 (.R (.T [(.S (.A (.W 1) 49 0) (.W 9)),(.S (.W 2) (.W 9))]) 9 (.W 3)),.G 6 (.B .Add (.W 6) (.R (.T [(.S (.S (.A (.W 1) 49 1) (.W 10)) (.int 0)),(.S (.W 2) (.B .Add (.W 3) (.W 10)))]) 10 (.W 5))),.G 6 (.B .Add (.W 6) (.R (.T [(.S (.A (.W 1) 49 3) (.W 11)),(.S (.W 2) (.B .Add (.W 4) (.W 11)))]) 11 (.F .L (.A (.W 1) 49 3)))),.X (.and (.E (.A (.W 1) 49 2) true) (.K .NotEq (.A (.W 1) 49 2) (.str ""))) [.SS 0 (.A (.W 1) 49 2) (.GK (.W 2) (.B .Add (.W 3) (.W 5)) (.W 4))] [],.Gf 7 8 (.W 6) [.X (.J (.W 7) 0) [.SS 0 (.W 7) (.W 8)] [.ex (.call 24 [(.W 0),(.W 7),(.call 23 [(.W 7),(.D (.J (.W 8) 1) (.W 8) (.list [(.W 8)]))])])]],.ret (.W 5)]⟩
noncomputable def Y4:Fn:=⟨1,2,2,[.G 1 (.list []),.FF 2 (.A (.W 0) 49 0) [.G 1 (.B .Add (.W 1) (.D (.J (.W 2) 0) (.list [(.W 2)]) (.call 25 [(.W 2)])))],.G 1 (.B .Add (.W 1) (.CC (.W 3) 3 4 (.A (.W 0) 49 1))),.G 1 (.B .Add (.W 1) (.D (.and (.E (.A (.W 0) 49 2) true) (.K .NotEq (.A (.W 0) 49 2) (.str ""))) (.list [(.A (.W 0) 49 2)]) (.list []))),.FF 2 (.A (.W 0) 49 3) [.G 1 (.B .Add (.W 1) (.D (.J (.W 2) 0) (.list [(.W 2)]) (.call 25 [(.W 2)])))],.ret (.B .Add (.W 1) (.D (.E (.A (.W 0) 49 4) false) (.list []) (.list [(.A (.W 0) 49 4)])))]⟩
noncomputable def Y6:Fn:=⟨1,0,1,[.ret (.D (.J (.W 0) 114) (.C (.call 26 [(.W 1)]) 1 (.A (.W 0) 114 6)) (.W 0))]⟩
noncomputable def YB:Fn:=⟨2,0,1,[.ret (.D (.J (.W 1) 1) (.Q 41 0 [(.C (.call 27 [(.W 0),(.W 2)]) 2 (.W 1))]) (.W 1))]⟩
noncomputable def EV:Fn:=⟨4,3,2,[.Ec 4 5 (.call 13 [(.W 0),(.W 1),(.C (.call 27 [(.W 0),(.W 7)]) 7 (.W 2)),(.W 3)]),.ret (.T [(.Fo (.C (.T [(.W 8),(.call 26 [(.S (.W 4) (.W 8))])]) 8 (.W 4))),(.W 5)])]⟩
noncomputable def Y1:Fn:=⟨3,6,1,[.Ec 3 4 (.call 22 [(.W 0)]),.X (.and (.W 2) (.or (.K .Lt (.F .L (.W 1)) (.W 3)) (.and (.E (.W 4) true) (.K .Gt (.F .L (.W 1)) (.W 4))))) [.G 5 (.D (.K .Eq (.W 4) (.W 3)) (.F .H (.W 3)) (.B .Add (.B .Add (.F .H (.W 3)) (.str "..")) (.F .H (.W 4)))),.G 5 (.D (.E (.W 4) false) (.B .Add (.F .H (.W 3)) (.str "+")) (.W 5)),.ret (.B .Add (.B .Add (.B .Add (.B .Add (.str "ArgumentError: wrong number of arguments (given ") (.F .H (.F .L (.W 1)))) (.str ", expected ")) (.W 5)) (.str ")"))] [],.G 6 (.B .Add (.B .Add (.B .Add (.F .L (.A (.W 0) 49 0)) (.F .L (.A (.W 0) 49 1))) (.F .L (.A (.W 0) 49 3))) (.F .toInt (.E (.A (.W 0) 49 2) true))),.X (.and (.not (.W 2)) (.and (.K .Eq (.F .L (.W 1)) (.int 1)) (.and (.J (.S (.W 1) (.int 0)) 1) (.K .Gt (.W 6) (.int 1))))) [.G 1 (.S (.W 1) (.int 0))] [],.FK 7 .Gb,.G 8 (.call 24 [(.W 7),(.W 0),(.D (.W 2) (.W 1) (.call 23 [(.W 0),(.W 1)]))]),.ret (.T [(.Fo (.C (.T [(.W 9),(.S (.W 7) (.W 9))]) 9 (.W 7))),(.W 8)])]⟩
noncomputable def YC:Fn:=⟨3,7,4,[.G 3 (.Q 42 0 [(.W 1),.none,.none,.none,(.T []),.none,.none,(.W 2),.none]),.Ec 4 5 (.call 22 [(.W 1)]),.G 6 (.or (.E (.A (.W 1) 49 2) true) (.and (.W 2) (.K .NotEq (.A (.W 1) 49 1) (.list [])))),.K6 7 8 10 (.list []) (.D (.W 2) (.str "req") (.str "opt")),.FF 9 (.A (.W 1) 49 0) [.PP 7 (.D (.J (.W 9) 0) (.list [(.W 8),(.W 9)]) (.list [(.W 8)]))],.FK 7 (.B .Add (.W 7) (.CC (.list [(.str "opt"),(.W 11)]) 11 12 (.A (.W 1) 49 1))),.X (.E (.A (.W 1) 49 2) true) [.PP 7 (.B .Add (.list [(.str "rest")]) (.B .Mult (.list [(.A (.W 1) 49 2)]) (.F .toInt (.K .NotEq (.A (.W 1) 49 2) (.str "")))))] [],.FF 9 (.A (.W 1) 49 3) [.PP 7 (.D (.J (.W 9) 0) (.list [(.W 8),(.W 9)]) (.list [(.W 8)]))],.FK 7 (.B .Add (.W 7) (.D (.E (.A (.W 1) 49 4) false) (.list []) (.list [(.list [(.str "block"),(.A (.W 1) 49 4)])]))),.X (.or (.K .NotEq (.call 14 [(.W 0),(.W 3),(.list [])]) (.W 2)) (.K .NotEq (.call 15 [(.W 0),(.W 3),(.list [])]) (.D (.W 6) (.B .Sub (.B .Sub (.int 0) (.W 4)) (.int 1)) (.W 4)))) [.ret (.bool false)] [],.ret (.K .Eq (.C (.A (.W 13) 114 6) 13 (.A (.call 16 [(.W 0),(.W 3),(.list [])]) 114 6)) (.W 7))]⟩
noncomputable def Y9:Fn:=⟨4,6,2,[.Ec 4 5 (.call 22 [(.W 2)]),.G 6 (.D (.E (.W 5) false) (.B .Add (.F .H (.W 4)) (.str "+")) (.B .Add (.B .Add (.F .H (.W 4)) (.str "..")) (.F .H (.W 5)))),.X (.or (.K .NotEq (.call 4 [(.W 2)]) (.D (.K .Eq (.W 5) (.W 4)) (.F .H (.W 4)) (.W 6))) (.K .NotEq (.call 8 [(.W 2)]) (.call 25 [(.W 2)]))) [.ret (.bool false)] [],.G 7 (.R (.R (.B .Add (.int 10) (.W 11)) 11 (.W 10)) 10 (.min (.int 9) (.B .Add (.B .Add (.W 4) (.F .L (.A (.W 2) 49 1))) (.int 2)))),.G 7 (.B .Add (.B .Add (.W 7) (.list [(.list [(.list [(.int 1),(.int 2),(.int 3)])]),(.list [(.list [(.list [(.int 4),(.int 5)]),(.int 6)])])])) (.D (.K .Eq (.W 3) (.int 1)) (.list [(.list [(.list [(.int 7)]),(.list []),(.list [(.int 8),(.int 9)])]),(.list [.none]),(.list [(.list [])]),(.list [(.int 3),(.list [(.int 4),(.list [(.int 5),(.int 6)])])])]) (.list []))),.FF 8 (.list [(.bool true),(.bool false)]) [.X (.not (.call 30 [(.W 1),(.W 2),(.W 8)])) [.ret (.bool false)] [],.FF 9 (.W 7) [.X (.K .NotEq (.call 28 [(.W 1),(.W 2),(.W 9),(.W 8)]) (.call 29 [(.W 2),(.W 9),(.W 8)])) [.ret (.bool false)] []]],.ret (.bool true)]⟩
noncomputable def Yi:Fn:=⟨2,0,0,[.ret (.call 46 [.Q 44 0 [],.Q 45 0 [.str "Array"],.F .toList (.W 1)])]⟩
noncomputable def Yj:Fn:=⟨10,1,0,[.G 10 (.Q 45 0 [.str "Proc"]),.ret (.call 49 [.Q 44 0 [],.W 10,.W 1,.W 2,.W 3,.W 4,.W 5,.W 6,.W 7,.W 8,.W 9])]⟩
noncomputable def Yk:Fn:=⟨2,0,0,[.ret (.call 47 [.Q 44 0 [],.Q 45 0 [.str "String"],.W 1])]⟩
noncomputable def Yh:Fn:=⟨3,0,0,[.ret (.call 48 [.Q 44 0 [],.Q 45 0 [.W 1],.Q 50 0 [.W 2]])]⟩
def nD:List Fn:=[YR,YT,YX,YF,YG,I7,YE,YI,YU,YH,YP,Yc,Yb,I6,YZ,YY,Ya,
 Xz,YA,Y3,Y5,Y8,Y0,Y2,Y7,Y4,Y6,YB,EV,Y1,YC,Y9]
noncomputable def EK(x:Str):Val:= .I 260 [.any,.any,.any,.any,.any,.any,.str x,.any,.any,.any,.any,.any,.any,.any,.any,.any,.any]
noncomputable def Dv(xs:List Val):Val:= .I 114 [.any,EK "Array",.any,.none,.bool false,.none,.list xs]
noncomputable def Hg(p:Val)(b:Bool):Val:= .I 193 [.any,EK "Proc",.any,.none,.bool false,.none,p,.none,.none,.none,.T [],.none,.none,.bool b,.none]
noncomputable def LH(x:Str):Val:= .I 94 [.any,EK "String",.any,.none,.bool false,.none,.str x]
noncomputable def KL(o m:Val):Val:= .I 213 [.any,o,.any,.none,.bool false,.none,m,.none]
noncomputable def JT:List Str:=["Array","Proc","String","ArgumentError"]
noncomputable def oO{β:Type}(x:Val)(k:Nat->List Val->Option β):Option β:=match x with| .I c a=>k c a|_=>none
noncomputable def gO{β:Type}(x:AR)(k:Nat->Option β):Option β:=match x with| .N i=>k i|_=>none
noncomputable def gV{β:Type}(x:AR)(k:Val->Option β):Option β:=match x with| .V i=>k i|_=>none
section
variable {α β:Type}{z:β}
@[elab_as_elim]theorem GA{Q:List α->Prop}(h:cL xs k=some z)(f:∀x r,k x r=some z->Q (x::r)):Q xs:=by
 cases xs with
 |nil=>exact nS h
 |cons x r=>exact f x r h
@[elab_as_elim]theorem U0{Q:List α->Prop}(h:cN xs y=some z)(f:y=some z->Q []):Q xs:=by
 cases xs with
 |nil=>exact f h
 |cons x r=>exact nS h
@[elab_as_elim]theorem s9{Q:Val->Prop}(h:oO x k=some z)(f:∀c xs,k c xs=some z->Q (.I c xs)):Q x:=by
 cases x<;>first|exact nS h|exact f _ _ h
@[elab_as_elim]theorem Pf{Q:Val->Prop}(h:oL x k=some z)(f:∀xs,k xs=some z->Q (.list xs)):Q x:=by
 cases x<;>first|exact nS h|exact f _ h
@[elab_as_elim]theorem s8{Q:Val->Prop}(h:oB x k=some z)(f:∀b,k b=some z->Q (.bool b)):Q x:=by
 cases x<;>first|exact nS h|exact f _ h
@[elab_as_elim]theorem sE{Q:Val->Prop}(h:oT x k=some z)(f:∀xs,k xs=some z->Q (.T xs)):Q x:=by
 cases x<;>first|exact nS h|exact f _ h
@[elab_as_elim]theorem sD{Q:Val->Prop}(h:oS x k=some z)(f:∀b,k b=some z->Q (.str b)):Q x:=by
 cases x<;>first|exact nS h|exact f _ h
@[elab_as_elim]theorem rz{Q:AR->Prop}(h:gO x k=some z)(f:∀i,k i=some z->Q (.N i)):Q x:=by
 cases x<;>first|exact nS h|exact f _ h
@[elab_as_elim]theorem U5{Q:AR->Prop}(h:gV x k=some z)(f:∀i,k i=some z->Q (.V i)):Q x:=by
 cases x<;>first|exact nS h|exact f _ h
end
noncomputable def vJ(r:Val)(n m:Nat):Option (Nat×Option Nat):=match r with
 | .none=>some (n,some (n+m))
 | .str _=>some (n,none)
 |_=>none
def G0(P:Val):Option (Nat×Option Nat):=oO P λc d=>if c=49 then cL d λa r=>cL r λb r=>cL r λy r=>cL r λp r=>cL r λU r=>cN r (oL a λa=>oL b λb=>oL p λp=>vJ y (a.length+p.length) b.length)else none
noncomputable def Dm(n:Nat)(j:Nat×Option Nat):Bool:=decide (n<j.1)||(match j.2 with|some m=>decide (n>m)|none=>false)
noncomputable def Ak(n:Nat):Str:=Str.ofString (toString (n:Int))
def CA(j:Nat×Option Nat):Str:=match j.2 with
 |none=>Ak j.1++"+"
 |some m=>if j.1=m then Ak j.1 else Ak j.1++".."++Ak m
def Eh(n:Nat)(j:Nat×Option Nat):Str:="ArgumentError: wrong number of arguments (given "++Ak n++", expected "++CA j++")"
noncomputable def bL:LV->Option Val
 | .V x=>some x
 |_=>none
noncomputable def Ug:List LV->Option (List Val)
 | []=>some []
 |l::m=>(bL l).bind λx=>(Ug m).map (x::·)
def d6(xs:List Val):Option Val:=cL xs λa r=>cL r λb r=>cL r λc r=>cL r λp r=>cL r λl r=>cN r (oL a λa=>oL b λb=>oL p λp=>some (.I 49 [.list a,.list b,c,.list p,l]))
def d8(xs:List Val):Option Val:=cL xs λn r=>cL r λo r=>cL r λx r=>cN r (oL x λxs=>some (.I 114 [n,o,.any,.none,.bool false,.none,.list xs]))
def d9(xs:List Val):Option Val:=cL xs λn r=>cL r λo r=>cL r λx r=>cN r (some (.I 94 [n,o,.any,.none,.bool false,.none,x]))
def dC(xs:List Val):Option Val:=cL xs λn r=>cL r λo r=>cL r λm r=>cN r (some (.I 213 [n,o,.any,.none,.bool false,.none,m,.none]))
def dD(xs:List Val):Option Val:=cL xs λn r=>cL r λo r=>cL r λd r=>cL r λf r=>cL r λa r=>cL r λe r=>cL r λi r=>cL r λp r=>cL r λq r=>cL r λt r=>cL r λu r=>cN r (some (.I 193 [n,o,.any,.none,.bool false,.none,d,f,a,e,i,p,q,t,u]))
def Jb(f:Nat):Option (List Val->Option Val):=if f=40 then some d6 else if f=46 then some d8 else if f=47 then some d9 else if f=48 then some dC else if f=49 then some dD else none
noncomputable def lW{β:Type}(x:LV)(k:Nat->Option β):Option β:=match x with| .N (.Z i)=>k i|_=>none
noncomputable def lX{β:Type}(x:LV)(k:Val->Option β):Option β:=match x with| .V v=>k v|_=>none
@[elab_as_elim]theorem Zo{β:Type}{z:β}{Q:LV->Prop}{x:LV}{k:Nat->Option β}(h:lW x k=some z)(f:∀i,k i=some z->Q (.N (.Z i))):Q x:=by
 cases x with
 |N o=>cases o<;>first|exact nS h|exact f _ h
 |_=>exact nS h
def d7(xs:List LV):Option RV:=cL xs λx r=>cN r (lW x λU=>some (.V .any))
def QP(xs:List LV):Option RV:=cL xs λx r=>cL r λy r=>cN r (lW x λU=>lX y λv=>oS v λx=>if JT.contains x=true then some (.V (EK x))else none)
noncomputable def Iu:List PE:=[.W 0,.W 1,.C (.call 27 [.W 0,.W 7]) 7 (.W 2),.W 3]
noncomputable def Fj(n:Nat)(j:Nat×Option Nat):Bool:=decide (n<1000)&&decide (j.1<1000)&&(match j.2 with|some m=>decide (m<1000)|none=>true)
noncomputable def Mt:LV->Bool
 | .N (.Z _)=>true
 |_=>false
noncomputable def Ms:LV->Bool
 | .U=>true
 |_=>false
def QS(l:Nat)(as:List AR)(A0:St):Option (Option (Str×List LV)):=cL as λx r=>cL r λy r=>cL r λu r=>cL r λw r=>cN r (gO x λi=>gV y λP=>gV u λQ=>gV w λt=>oL Q λQ=>oB t λt=>
 if i=0 then(match G0 P with
  |some j=>if(t&&Dm Q.length j)=true then(if(decide (10<=l)&&Fj Q.length j&&Mt (A0.at 0)&&Ms (A0.at 6))=true then some (some (Eh Q.length j,A0.take 4))else none)else some none
  |none=>none)else none)
def Hf(l:Nat)(Φ:BZ)(args:List LV):Option (Option (Str×List LV)):=
 if args.length=4 then(match By Φ 4 Iu (args++List.replicate 3 .U++List.replicate 2 .O)with
  |some (N,o)=>QS l N o
  |none=>none)
 else none
def FT(f:Nat):Option Fn:=if f=41 then some Yi else if f=42 then some Yj else if f=50 then some Yk else if f=51 then some Yh else nD[f]?
def KO(Φ:BZ)(fuel f:Nat)(args:List LV):Option (RV×List LV):=match FT f with
 |some D=>G6 Φ fuel D args
 |none=>none
def I5(l:Nat)(Φ:BZ)(fuel f:Nat)(args:List LV):Option (RV×List LV):=
 match Jb f with
 |some g=>(match Ug args with
  |some a=>(match g a with|some x=>some (.V x,args)|none=>none)
  |none=>none)
 |none=>
  if f=44 then(match d7 args with|some r=>some (r,args)|none=>none)
  else if f=45 then(match QP args with|some r=>some (r,args)|none=>none)
  else if f=28 then(match Hf l Φ args with
   |some (some (x,i))=>some (.V (.str x),i)
   |some none=>KO Φ fuel 28 args
   |none=>none)
  else KO Φ fuel f args
noncomputable def callF:Nat->BZ
 |0,_,_=>none
 |n+1,f,J=>I5 n (callF n) 200 f J
section
section
variable {β:Type}{P:Program×World}{fl:Nat->List Str}{M:Addr->Prop}{hp:Heap}{x:Val}{v:Value}{z:β}{Q:Value->Prop}
@[elab_as_elim]theorem wI(h:oI x k=some z)(e:AZ P fl M hp x v)(f:∀i t,k i=some z->Q (.int i t)):Q v:=by cases x<;>first|exact nS h|exact uI e λt=>f _ t h
@[elab_as_elim]theorem wB(h:oB x k=some z)(e:AZ P fl M hp x v)(f:∀i,k i=some z->Q (.bool i)):Q v:=by cases x<;>first|exact nS h|exact uB e (f _ h)
@[elab_as_elim]theorem wS(h:oS x k=some z)(e:AZ P fl M hp x v)(f:∀i t,k i=some z->Q (.str i t)):Q v:=by cases x<;>first|exact nS h|exact uS e λt U=>f _ t h
theorem wL{Q:Prop}(h:oL x k=some z)(e:AZ P fl M hp x v)(f:∀xs,AZ P fl M hp (.list xs) v->k xs=some z->Q):Q:=by cases x<;>first|exact nS h|exact f _ e h
end
section
variable {c:Cx}(C:c.Ok){φ:Fm}{n:Nat}(O:AU φ n){W:Addr->Prop}{σ:St}{AE:Nat->List Addr}{s:Shared}(S:AF c φ W σ AE s.heap){E:Value->Shared->Prop}{u v:Value}
include C O S
theorem xI(hx:Iv c φ W s.heap (.list xs) u)(hsz:xs.length*j.toNat<=1000000)(hj:j.natAbs<2 ^ 60):
  wpAny (Mo c) φ.A (binaryOp .Mult u (.int j t)) (Aa c φ W AE s σ (.M (.list (List.replicate j.toNat xs).flatten))) E s:=by
 obtain⟨a,vs,k,rfl,ha,ga,_,EI⟩:=hx;obtain⟨m,F⟩:=S.fr;have l1:=EI.length;haveI AM:∀n,(List.foldl (λx1 x2=>x1++x2) #[] (List.replicate n vs.toArray))=(List.replicate n vs).flatten.toArray:=by
  haveI gen:∀n acc,(List.foldl (λx1 x2=>x1++x2) acc (List.replicate n vs.toArray))=acc++(List.replicate n vs).flatten.toArray:=by
   intro n;induction n with
   |zero=>intro acc;simp
   |succ n ih=>intro acc;refine rL (Xe1 ..) (rL (Xel ..) (rL (ih ..) (rL (Xe1 ..) (rL (Xgk ..) ?_))));simp[Array.append_assoc]
  intro n;refine rL (gen ..) ?_;simp
 haveI rH:∀n,Dl c φ W s.heap (List.replicate n xs).flatten (List.replicate n vs).flatten:=by
  intro n;induction n with
  |zero=>exact rfl
  |succ n ih=>exact rL Xe1 (rL Xgk (rL Xe1 (rL Xgk (AO.append EI ih))))
 haveI hlen:∀n,((List.replicate n xs).flatten).length=n*xs.length:=by
  intro n;induction n with
  |zero=>simp
  |succ n ih=>exact rL (Xe1 ..) (rL (Xgk ..) (rL (Xci ..) (rL (ih ..) (rL (Nat.succ_mul ..) (Xdl (lin [xs.length,n*xs.length] 134701185 rfl) (lin [n*xs.length,xs.length] 134701185 rfl))))))
 have ot:vs.toArray.size*j.toNat<=2 ^ 24:=by refine rL Xcx (rL l1 ?_);lia
 refine mul_list F Wd ga (by lia) (by lia) ot λh' F' N'=>?_;haveI x:=Yd (F:=φ.F) F F' N' all_cons;refine J5 C O S (AX rfl rfl rfl) x Bg (Cq C O S) (λu0 q=>by cases q) (λk=>?_) (Fq C O S (Cq C O S));haveI g:=(N' _ (.head _)).1;dsimp only at g;rw[AM]at g;have e:(List.replicate (if vs.toArray.isEmpty=true then 0 else j.toNat) vs).flatten=(List.replicate j.toNat vs).flatten:=by
  by_cases q:vs.toArray.isEmpty=true
  ·refine rL (Xck q) ?_;haveI:vs=[]:=by simpa using q
   refine rL this ?_;simp
  ·exact rL (Xcm q) rfl
 rw[e]at g;exact⟨_,(List.replicate j.toNat vs).flatten,0,rfl,g,by refine rL (hlen ..) (rL (Nat.mul_comm ..) ?_);exact hsz,AO.mono k _ (rH _)⟩
set_option tactic.hygienic true in
theorem Xam(h:Bq op x y=some r)(B:Iv c φ W s.heap x u)(p:Iv c φ W s.heap y v):
  wpAny (Mo c) φ.A (binaryOp op u v) (Aa c φ W AE s σ r) E s:=by
 cases op<;>first|exact nS h|skip
 ·cases x<;>first|exact nS h|skip
  ·exact uI B λt=>wI h p λj e h=>sS h▸ x7 C O S
  ·exact uS B λt U=>wS h p λb e h=>by
    split at h
    ·rename_i q;exact sS h▸ x9 C O S q
    ·exact nS h
  ·exact wL h p λb p h=>by
    split at h
    ·rename_i q;exact sS h▸ x8 C O S B p q
    ·exact nS h
 ·exact wI h B λi t h=>wI h p λj e h=>sS h▸ xN C O S
 ·cases x<;>first|exact nS h|skip
  ·refine wI h p λj e h=>uI B λt=>?_;split at h
   ·rename_i q;refine sS h▸ xH C O S ?_;simp only[Cw,Xfa,Xhs]at q;rcases q with q|q
    ·exact .of_left (intBits_le_64 (by lia) (by lia))
    ·exact .of_right (intBits_le_64 (by lia) (by lia))
   ·exact nS h
  ·refine wI h p λj e h=>?_;split at h
   ·rename_i q;exact sS h▸ xI C O S B q.1 (Xcj q.2)
   ·exact nS h
 ·refine wI h B λi t h=>wI h p λj e h=>?_;split at h
  ·exact nS h
  ·rename_i q;exact sS h▸ xG C O S q
 ·refine wI h B λi t h=>wI h p λj e h=>?_;split at h
  ·rename_i q;haveI a:=Xcj q.2.2;exact sS h▸ xM C O S q.1 (by lia) (by lia)
  ·exact nS h
 ·refine wI h B λi t h=>wI h p λj e h=>?_;split at h
  ·exact nS h
  ·rename_i q;rw[not_or]at q;exact sS h▸ xC C O S q.1 (Xfc.mpr q.2)
end
mutual
theorem VB:∀{x:Val}{v:Value},x.plain=true->AZ P fl M h x v->∃as,Reads h v x.toPy as
 | .none,v,_,e=>by obtain rfl:=e;exact(AN _ .none)
 | .int i,v,_,e=>by obtain⟨t,rfl⟩:=e;exact(AN _ (.int i t))
 | .str i,v,_,e=>by obtain⟨⟨t,rfl⟩,_⟩:=e;exact(AN _ (.str i t))
 | .list f,v,p,e=>by obtain⟨a,d,n,rfl,_,g,_,r⟩:=e;obtain⟨as,q⟩:=VC p r;exact(AN _ (reads_list_at g rfl rfl (by simpa using q)))
 | .T f,v,p,e=>by obtain⟨a,d,n,rfl,_,g,_,r⟩:=e;obtain⟨as,q⟩:=VC p r;exact(AN _ (reads_tuple_at g rfl rfl (by simpa using q)))
 | .bool b,v,p,_=>fT p
 | .dict _ _,v,p,_=>fT p
 | .I _ _,v,p,_=>fT p
 | .any,v,p,_=>fT p
theorem VC:∀{xs:List Val}{vs:List Value},Val.QN xs=true->AO P fl M h xs vs->∃as,ReadsAll h vs (Val.Ic xs) as
 | [],vs,_,e=>by obtain rfl:=e;exact(AN _ .nil)
 |x::xs,vs,p,e=>by refine AB λJ=>?_;obtain⟨v,r,rfl,N,A⟩:=e;obtain⟨as,q⟩:=VB (al p) N;obtain⟨bs,a⟩:=VC (ar p) A;exact J (AN _ (.cons q a))
end
theorem GC{h:Heap}(g:h.get? a=some (listOf (List.toArray vs) n)):h.IsList a vs.toArray:=(BS _ g rfl (AN n rfl))
theorem UE(g:h.get? a=some {cls:= .type "tuple",data:= .seq (List.toArray vs) n}):IsTup h a vs.toArray:=(BS _ g rfl (AN n rfl))
theorem Shared.WZ{s:Shared}(g:s.heap.get? a=some {cls:= .type "tuple",data:= .seq (List.toArray vs) n}):s.TypeIs (.ref a) "tuple":=(AG _ g rfl)
theorem XY:∀{j:List (Str×Value)}{d:List Str}{xs:List Val},j.map (·.1)=d->AO P fl M h xs (j.map (·.2))->I2 k d xs=some y->
  ∃v,valueAt j k=some v/\AZ P fl M h y v
 | [],d,xs,e,_,q=>by subst e;cases xs<;>exact nS q
 | (G,v)::j,d,xs,e,r,q=>by
  subst e;cases xs with
  |nil=>cases r
  |cons x xs=>
   obtain⟨f,m,e,N,A⟩:=r;cases e;haveI q:(if G=k then some x else I2 k (j.map (·.1)) xs)=some y:=q
   by_cases L:G=k
   ·replace q:=(Xck L)▸ q;obtain rfl:=sS q;exact(AG v (by simp[valueAt,L]) N)
   ·rw[Xcm L]at q;refine AB λJ=>AJ (XY rfl A q) λu a b=>J (AG u ?_ b);simp only[valueAt,List.find?_cons,L,decide_false]at a ⊢;exact a
section
variable {c:Cx}(C:c.Ok){φ:Fm}{n:Nat}(O:AU φ n){W:Addr->Prop}{σ:St}{AE:Nat->List Addr}{s:Shared}(S:AF c φ W σ AE s.heap){E:Value->Shared->Prop}{u v:Value}
include C O S
theorem l3(neg:Bool)(hp:x.plain=true)(a:y.plain=true)(Y:SeqAt.shaped x.toPy=true)(T:SeqAt.shaped y.toPy=true)(B:Iv c φ W s.heap x u)(p:Iv c φ W s.heap y v):
  wpAny (Mo c) φ.A (compareOp (if neg then .NotEq else .Eq) u v) (Aa c φ W AE s σ (.V (.bool (if neg then !PyData.eqv x.toPy y.toPy else PyData.eqv x.toPy y.toPy)))) E s:=by
 refine AB λJ=>AK (VB hp B) λN ra=>AK (VB a p) λbs r=>J ?_;haveI I:φ.A.units+64<cLine:=by haveI:=O.units;exact rL cLine_is (lin [φ.A.units,n] 0x3acdeb47039589869640000000001b888ae473136381 rfl this)
 cases neg with
 |false=>exact eq_dataH ra r Y T I (Ie C O S)
 |true=>exact ne_dataH ra r Y T I (Ie C O S)
set_option tactic.hygienic true in
theorem fS(h:B7 op x y=some z)(B:Iv c φ W s.heap x u)(p:Iv c φ W s.heap y v):
  wpAny (Mo c) φ.A (compareOp op u v) (Aa c φ W AE s σ (.V z)) E s:=by
 haveI eq:∀neg:Bool,W2 (λb=>if neg then !b else b) x y=some z->wpAny (Mo c) φ.A (compareOp (if neg then .NotEq else .Eq) u v) (Aa c φ W AE s σ (.V z)) E s:=λneg h=>by
  have l:(if x.plain&&y.plain&&SeqAt.shaped x.toPy&&SeqAt.shaped y.toPy then some (Val.bool (if neg then !PyData.eqv x.toPy y.toPy else PyData.eqv x.toPy y.toPy))else none)=some z->wpAny (Mo c) φ.A (compareOp (if neg then .NotEq else .Eq) u v) (Aa c φ W AE s σ (.V z)) E s:=λh=>by
   split at h
   ·rename_i q;exact sS h▸ l3 C O S neg (al (al (al q))) (ar (al (al q))) (ar (al q)) (ar q) B p
   ·exact nS h
  cases x<;>first|exact l h|skip;exact uB B (wB h p λj h=>sS h▸ by
   cases neg
   ·exact xD C O S
   ·exact xJ C O S)
 cases op<;>first|exact nS h|skip
 ·exact eq false h
 ·exact eq true h
 ·exact wI h B λi t h=>wI h p λj e h=>sS h▸ xF C O S
 ·exact wI h B λi t h=>wI h p λj e h=>sS h▸ xE C O S
set_option tactic.hygienic true in
theorem Xat{d slice:PySem.Expr}{x y z:Val}(h:Ee x y=some z)(B:Iv c φ W s.heap x u)(p:Iv c φ W s.heap y v)
  (I:subscripted slice false u v=operate [u,v] (getItem u v)):wpAny (Mo c) φ.A (subscriptTail d slice u v) (Aa c φ W AE s σ (.V z)) E s:=by
 revert I;cases x<;>first|exact nS h|skip
 ·refine wI h p λi t h=>uL B λa e k U g j r I=>?_;split at h
  ·rename_i f;refine AB λJ=>AJ (r.get h) λw Y T=>J ?_;haveI b:=(Xc8.mp Y).1;haveI:=r.length;exact tail_any (GC g).typeIs slot_list_getitem.lookup (wpAny_getItem_list (GC g) f (by lia) (by simpa using Y) (Ez C O S B4.refl .refl T)) I
  ·exact nS h
 ·refine wI h p λi t h=>uT B λa e k U g j r I=>?_;split at h
  ·rename_i f;refine AB λJ=>AJ (r.get h) λw Y T=>J ?_;haveI b:=(Xc8.mp Y).1;haveI:=r.length;haveI l:seqIndex? i e.toArray.size=some i.toNat:=by
    unfold seqIndex?;simp only[Xcx];haveI Y:¬i<0:=by lia
    haveI T:(0<=i/\i<(e.length)):=by lia
    simp[Y,T]
   exact tail_any (Shared.WZ g) Xhh.lookup (Xhi (UE g) (by lia) (by lia) l (by simpa using Y) (Ez C O S B4.refl .refl T)) I
  ·exact nS h
 ·exact wS h p λk t h=>uD B λa m U g L D r I=>AB λJ=>AJ (XY L r h) λw Y T=>J (tail_any g.mapOf.typeIs PySem.F.slot_dict_getitem.lookup (wpAny_getItem_of (Xgd _ _ _ _) g.mapOf Y (Ez C O S (AX rfl rfl rfl) .refl T)) I)
end
end
theorem Ua(b:o.data= .dict a f)(h:nsFind a x=some v):lookIn x o=some (some v):=by
 unfold lookIn;refine rL b ?_;unfold nsFind findBy at h;dsimp only;cases Y:a.toList.find? (·.key.isStr x)with
 |none=>replace Y:=Xhj▸ Y;simp_all
 |some e=>rw[Xhj]at Y;simp_all
section
variable {c:Cx}(C:c.Ok){φ:Fm}{n:Nat}(O:AU φ n){W:Addr->Prop}{σ:St}{AE:Nat->List Addr}{s:Shared}(S:AF c φ W σ AE s.heap){E:Value->Shared->Prop}{u v:Value}
include C O S
theorem af:c.K.In s.heap:=C.BE.keeps S.base
theorem io{cl k:Nat}(b:cl=49\/cl=114\/cl=193)(B:Iv c φ W s.heap (.I cl xs) u)(L:xs[k]? =some x)(g:(c.fl cl)[k]? =some nm):
  wpAny (Mo c) φ.A (getAttr u nm e) (Aa c φ W AE s σ (.V x)) E s:=by
 refine AB λJ=>?_;obtain⟨a,d,m,H,rfl,A,G,f,j,h,r⟩:=B;obtain⟨o,z,y,i,p,t,D⟩:=Dd j;have Z:=C.HY.cls cl b;refine AJ (r.get L) λw Y T=>J ?_;have hw:m nm=some w:=by have:=congrArg (λl=>l[k]?) h;simp only[Xdy,g,Y,Xic,Option.some.injEq]at this;exact this
 have I:_root_.PySem.W.InstAt s.heap a (instObj cl d) cl (some o):=⟨f,rfl,rfl,i⟩;have q:=Ua p ((D nm).trans hw);exact get_value (af C O S) I Z.ga (findObj_own Z.hd (Z.no nm (Xc0 g)) rfl q) T.handed (Ez C O S (AX rfl rfl rfl) .refl T)
theorem Xap(h:FD .L x=some r)(B:Iv c φ W s.heap x u):wpAny (Mo c) φ.A (call (.builtin "len") [u]) (Aa c φ W AE s σ r) E s:=by
 cases x<;>first|exact nS h|skip
 ·refine uL B λa p k U g b r=>sS h▸ ?_;have:=r.length;refine call_len_list (GC g) (by simp;lia) ?_;simp only[Xcx,this];exact Fs C O S
 ·refine uT B λa p k U g b r=>sS h▸ ?_;have:=r.length;refine len_tuple (UE g) (by simp;lia) ?_;simp only[Xcx,this];exact Fs C O S
theorem Xan(h:FD .toInt x=some r)(B:Iv c φ W s.heap x u):wpAny (Mo c) φ.A (call (.type "int") [u]) (Aa c φ W AE s σ r) E s:=wB h B λb h=>sS h▸ call_int_bool (Fs C O S)
theorem zo{i:Int}(h0:0<=i)(h1:i<1000000000):(Str.ofString (toString i)).cps.size<=1000000:=by refine AB λkk=>?_;obtain⟨m,rfl⟩:=Xfj h0;refine kk (rR (Xfg ..) (rL (show(Str.ofString (toString (m:Int))).cps.toList=_ from KIN.signs_num m) (rL (EN ..) ?_)));have:(Nat.toDigits 10 m).length<=10:=(Nat.length_toDigits_le_iff (by exact lin [] 3536938601217 rfl) (by exact lin [] 3536938598913 rfl)).mpr (by lia);exact lin [(Nat.toDigits 10 m).length] 0x3378090000000000895447801 rfl this
set_option tactic.hygienic true in
theorem Xas(h:FD .H x=some r)(hx:Iv c φ W s.heap x u):wpAny (Mo c) φ.A (call (.type "str") [u]) (Aa c φ W AE s σ r) E s:=by
 cases x<;>first|exact nS h|skip
 ·exact uN hx (sS h▸ P.str_of_none (Ez C O S (AX rfl rfl rfl) .refl (AH ⟨_,rfl⟩ (by decide+kernel))))
 ·rename_i i;have h:(if Nc i=true then some (RV.V (.str (Str.ofString (toString i))))else none)=some r:=h;split at h
  ·rename_i q;refine uI hx λt=>sS h▸ P.str_of_int ?_ (Ez C O S (AX rfl rfl rfl) .refl (AH ⟨_,rfl⟩ (zo C O S (VQ q).1 (VQ q).2)));by_cases z:i.natAbs=0
   ·refine rL z ?_;decide
   ·have w1:=(Nat.log2_lt (k:=30) z).mpr (by have w2:=VQ q;lia);exact lin [i.natAbs.log2] 0x60a483f191cf1b03f081 rfl w1
  ·exact nS h
theorem Xah(h:FD .abs x=some r)(B:Iv c φ W s.heap x u):wpAny (Mo c) φ.A (call (.builtin "abs") [u]) (Aa c φ W AE s σ r) E s:=wI h B λi t h=>sS h▸ call_abs_int λu a=>Fs C O S
theorem Xaq(h:FD .toList x=some r)(B:Iv c φ W s.heap x u):wpAny (Mo c) φ.A (call (.type "list") [u]) (Aa c φ W AE s σ r) E s:=by
 refine wL h B λf B h=>uL B λa p k U g d r=>sS h▸ (AB λJ=>?_);obtain⟨m,F⟩:=S.fr;refine J ?_;have y:=r.length;refine call_list_seq (hsz:=rL Xcx (rL y (Q5 d))) a (.inl rfl) g rfl rfl λe T L M=>?_;have x:Ch (λb=>φ.F b\/b=φ.L) (λU=>False) s.heap e:= .keeps L;exact J5 C O S (AX rfl rfl rfl) x Bg (Cq C O S) (λU q=>by cases q) (λk=>⟨_,p,T,rfl,M,d,AO.mono k _ r⟩) (Fq C O S (Cq C O S))
theorem vB:wpAny (Mo c) φ.A (call (.builtin "min") [.int i t,.int j f]) (Aa c φ W AE s σ (.V (.int (if j<i then j else i)))) E s:=by
 refine min_two_ints O.hand λa d k=>?_;have:∀t x,Aa c φ W AE s σ (.V (.int x)) (.int x t) {s with heap:=a,toks:=d}:=λt x=>Ez C O S (AX rfl rfl rfl) (.keeps λb o e=>k b o e) (Exists.intro _ rfl);by_cases q:j<i
 ·exact rL (Xck q) (rL (Xck q) (this _ _))
 ·exact rL (Xcm q) (rL (Xcm q) (this _ _))
end
inductive SP(c:Cx)(φ:Fm)(W:Addr->Prop)(AE:Nat->List Addr)(s:Shared)(A0:St)(s':Shared)(W':Addr->Prop)(E4:Nat->List Addr):Prop
 |mk (sm:B4 s s')(nx:Nx φ.F W s.heap W' s'.heap)(S:AF c φ W' A0 E4 s'.heap)(k:∀i,i<φ.np->E4 i=AE i)
def HH(c:Cx)(φ:Fm)(W:Addr->Prop)(AE:Nat->List Addr)(s:Shared)(A0:St)(l:Shared):Prop:=∃I a,SP c φ W AE s A0 l I a
theorem Qe(C:c.Ok)(O:AU φ n)(S:AF c φ W σ AE s.heap)(a:σ.at i= .N o)(e:B4 s l)
  (x:Ch (λb=>φ.F b\/b=φ.L) (λb=>b∈AE i) s.heap l.heap) (R:(∀b o,¬Ex φ W b->s.heap.get? b=some o->l.heap.get? b=some o)->Bu c (Ex φ W) l.heap (AE i) d):HH c φ W AE s (σ.set i (.N d)) l:=
 (BM W AE ⟨e,⟨x.weaken (λb q=>S.Bc i (rL a trivial) b q) λb N q=>q.elim id λq=>absurd S.LW (q▸ N),λU q=> .inl q⟩,S.cf C O a x R,λU U=>rfl⟩)
section
variable {c:Cx}(C:c.Ok){φ:Fm}{n:Nat}(O:AU φ n){W:Addr->Prop}{σ:St}{AE:Nat->List Addr}{s:Shared}(S:AF c φ W σ AE s.heap){E:Value->Shared->Prop}{u v:Value}
include C O S
theorem Km{K:Frag}(f:K=c.K)(Z:KitX K u t H)(p:H s.heap)(e:kitOne K t a=some b)(B:u≠.builtin "__main__.__loader__#opaque"):
  wpAny (Mo c) φ.A (call (.builtin "isinstance") [u,a]) (Aa c φ W AE s σ (.V (.bool b))) E s:=by subst f;exact kia_one Z (af C O S) p e B λd=>(Ez C O S (AX rfl rfl rfl) .refl rfl)
noncomputable def Od:Nat->Value
 |0=> .type "str"
 |1=> .type "list"
 |n=> .ref n
set_option tactic.hygienic true in
theorem Xao(h:Ih x k=some b)(hk:k=0\/k=1\/k=49\/k=114)(hx:Iv c φ W s.heap x u):
  wpAny (Mo c) φ.A (call (.builtin "isinstance") [u,Od k]) (Aa c φ W AE s σ (.V (.bool b))) E s:=by
 have tk:∀T(f:Nat->Bool),(T="int"\/T="str"\/T="NoneType"\/T="list"\/T="tuple")->f 0=(T=="str")->f 1=(T=="list")->f 49=false->f 114=false->some (f k)=some b->kitOne c.K (.type T) (Od k)=some b:=by
  intro T f hT e0 e1 e2 e3 h;rcases hk with rfl|rfl|rfl|rfl
  ·exact(C.HY.ts T hT).trans (e0▸ h)
  ·exact(C.HY.tl T hT).trans (e1▸ h)
  ·exact(C.HY.ti T hT 49 (.inl rfl)).trans (e2▸ h)
  ·exact(C.HY.ti T hT 114 (.inr rfl)).trans (e3▸ h)
 cases x with
 |none=>exact uN hx (Km C O S rfl kitx_none trivial (tk "NoneType" (λu0=>false) (.inr (.inr (.inl rfl))) (by decide) (by decide) rfl rfl h) λq=>Value.noConfusion q)
 |int i=>exact uI hx λt=>Km C O S rfl kitx_int trivial (tk "int" (λu0=>false) (.inl rfl) (by decide) (by decide) rfl rfl h) λq=>Value.noConfusion q
 |str i=>exact uS hx λt u0=>Km C O S rfl kitx_str trivial (tk "str" (λk=>Nat.beq k 0) (.inr (.inl rfl)) (by decide) (by decide) rfl rfl h) λq=>Value.noConfusion q
 |list xs=>exact uL hx λa vs m u0 g u0 u0=>Km C O S rfl kitx_list (AG _ g rfl) (tk "list" (λk=>Nat.beq k 1) (.inr (.inr (.inr (.inl rfl)))) (by decide) (by decide) rfl rfl h) λq=>Value.noConfusion q
 |T xs=>exact uT hx λa vs m u0 g u0 u0=>Km C O S rfl kitx_tuple (AG _ g rfl) (tk "tuple" (λu0=>false) (.inr (.inr (.inr (.inr rfl)))) (by decide) (by decide) rfl rfl h) λq=>Value.noConfusion q
 |I a xs=>
  haveI h:(if a=49\/a=114\/a=193 then some (decide (a=k))else none)=some b:=h;split at h
  ·rename_i ha;have h':=h;have Z:=C.HY.cls a ha;refine uO hx λx d m vs u0 u0 g gn u0 u0=>?_;obtain⟨o,es,ep,gd⟩:=Dd gn;haveI I:_root_.PySem.W.InstAt s.heap x (instObj a d) a (some o):=⟨g,rfl,rfl,gd⟩;have big:∀k,k<2->decide (a=k)=false:=λk hk=>Xc1 λe=>by subst e;rcases ha with q|q|q<;>rw[q]at hk<;>exact absurd hk (by decide)
   refine Km C O S rfl (kitx_own Z.pg Z.hd Z.ca C.HY.cg C.HY.ct Z.mo) I (Eq.trans ?_ h') λq=>Value.noConfusion q;clear tk h h';rcases hk with rfl|rfl|rfl|rfl
   ·exact(big 0 (by decide))▸ Z.sY
   ·exact(big 1 (by decide))▸ Z.sX
   ·exact Z.aV 49 (.inl rfl)
   ·exact Z.aV 114 (.inr rfl)
  ·exact nS h
 |_=>exact nS h
theorem eH{l f:Option Int}(B:Iv c φ W s.heap (.list xs) u)(z:IsPart i l)(A:IsPart j f)
  (t:∀vs M h,AO (c.prog,c.w) c.fl M h xs vs->∃w,slicePick vs.toArray l f none=List.toArray w/\AO (c.prog,c.w) c.fl M h ys w) (y:ys.length<=1000000)
  (I:subscripted slice false u (.ref s.heap.objs.size)=operate [.ref s.heap.objs.size,u] (getItem u (.ref s.heap.objs.size))) (p:∀r,letTemporaryGo d u r=pure ()):
  wpAny (Mo c) φ.A (subscriptTail d slice u (.ref s.heap.objs.size)) (Aa c φ W AE s σ (.M (.list ys))) E {s with heap:=s.heap.push {cls:= .type "slice",data:= .fields #[i,j,.none]}}:=by
 obtain⟨a,vs,k,rfl,_,g,m,r⟩:=B;haveI:=r.length;refine slice_listK (GC g) z A ?_ I p (rL Xcx (rL this (Q5 m)));refine AB λJ=>AJ (t vs _ _ r) λw e hw=>J ?_;have x:∀b o,s.heap.get? b=some o->((s.heap.push {cls:= .type "slice",data:= .fields #[i,j,.none]}).push {cls:= .type "list",data:= .seq (slicePick vs.toArray l f none)}).get? b=some o:=
  λb o e=>Xcf _ (Xcf _ e)
 refine J5 C O S (AX rfl rfl rfl) (.keeps x) (H0 (Xd9 _)) (Xev (Cq C O S)) (λU q=>by cases q) (λk=>⟨_,w,0,rfl,rR e ?_,y,AO.mono k _ hw⟩) (Fq C O S (Xev (Cq C O S)));haveI:=Xcn (s.heap.push {cls:= .type "slice",data:= .fields #[i,j,.none]}) (o:={cls:= .type "list",data:= .seq (slicePick vs.toArray l f none)}) rfl;rw[Xd0]at this;exact this
theorem zE(B:Iv c φ W s.heap (.list xs) u)(G:0<=j)
  (I:subscripted slice false u (.ref s.heap.objs.size)=operate [.ref s.heap.objs.size,u] (getItem u (.ref s.heap.objs.size))) (b:∀r,letTemporaryGo d u r=pure ()):
  wpAny (Mo c) φ.A (subscriptTail d slice u (.ref s.heap.objs.size)) (Aa c φ W AE s σ (.M (.list (xs.take j.toNat)))) E {s with heap:=s.heap.push {cls:= .type "slice",data:= .fields #[.none,.int j t,.none]}}:=by
 haveI a:xs.length<=1000000:=by obtain⟨_,_,_,_,_,_,h,_⟩:=B;exact h
 refine eH C O S B .none (.int j t) (λp M h r=>(AG (p.take j.toNat) ?_ (r.take _))) (rL Xdk (lin [min j.toNat xs.length,xs.length] 0x2d90510000000004d3f6845890000000000895447801 rfl a (Xf1 j.toNat xs.length))) I b;refine AB λJ=>?_;obtain⟨k,rfl⟩:=Xfj G;exact J (slicePick_upto' _ _)
theorem zD{i j:Int}(B:Iv c φ W s.heap (.list xs) u)(a:0<=i)(D:i<=j)(G:j<=xs.length)
  (I:subscripted slice false u (.ref s.heap.objs.size)=operate [.ref s.heap.objs.size,u] (getItem u (.ref s.heap.objs.size))) (e:∀r,letTemporaryGo d u r=pure ()):
  wpAny (Mo c) φ.A (subscriptTail d slice u (.ref s.heap.objs.size)) (Aa c φ W AE s σ (.M (.list ((xs.drop i.toNat).take (j.toNat - i.toNat))))) E {s with heap:=s.heap.push {cls:= .type "slice",data:= .fields #[.int i t,.int j f,.none]}}:=by
 haveI b:xs.length<=1000000:=by obtain⟨_,_,_,_,_,_,h,_⟩:=B;exact h
 refine eH C O S B (.int i t) (.int j f) (λp M h r=>(AG ((p.drop i.toNat).take (j.toNat - i.toNat)) ?_ ((r.drop _).take _))) (rL Xdk (rL Xeo (lin [min (j.toNat - i.toNat) (xs.length - i.toNat),xs.length,xs.length - i.toNat] 0x1a29e3420510000000004d3f6845890000000000895447801 rfl b (Xf1 (j.toNat - i.toNat) (xs.length - i.toNat)) (Xgt xs.length i.toNat)))) I e;obtain⟨k,rfl⟩:=Xfj a;obtain⟨l,rfl⟩:=Xfj (Int.le_trans a D);haveI:=r.length;exact slicePick_run _ k l (by refine rL Xcx ?_;lia) (by lia)
theorem kW:wpAny (Mo c) φ.A (eval (.Dict [] [] pos) env) (Aa c φ W AE s σ (.M (.dict [] []))) E s:=by
 refine Xgu (J5 C O S (AX rfl rfl rfl) (.push _) Bg (Cq C O S) (λU q=>by cases q) (λk=>⟨_,[],rfl,Heap.DictOf.new _,rfl,?_,rfl⟩) (Fq C O S (Cq C O S)));haveI Y:=modules_low C.nolimit;haveI T:=S.La;haveI H:=Cq C O S;exact λq=>Xd2 _ (Xdg (Xf0 (Xdg Y T) H) (Xcg q))
end
theorem Dt(S:AF c φ W σ AE h)(a:σ.at i= .N o):(φ.slots i).Dx h (.ref ((AE i).headD 0))/\Bu c (Ex φ W) h (AE i) o:=by haveI:=S.lv i;rw[a]at this;exact⟨this.1,this.2.2⟩
theorem yt{m:Type}(l:List m)(k:Nat)(x:m):l.toArray.setIfInBounds k x=(l.set k x).toArray:=by apply Xgv.mp;simp
theorem AO.set:∀{xs:List Val}{vs:List Value}k,AO P fl M h xs vs->AZ P fl M h y w->AO P fl M h (xs.set k y) (vs.set k w)
 | [],_,k,e,_=>by obtain rfl:=e;exact rfl
 |x::xs,vs,k,e,q=>by
  obtain⟨v,r,rfl,a,z⟩:=e;cases k with
  |zero=>exact AO.cons q z
  |succ k=>exact AO.cons a (AO.set k z q)
theorem Xd(q:AZ P b M h y w):∀{j:List (Str×Value)}{d:List Str}{xs:List Val},(j.map (·.1)).Nodup->j.map (·.1)=d->AO P b M h xs (j.map (·.2))->
  (stored j k w).map (·.1)=(Cr k y d xs).1/\AO P b M h (Cr k y d xs).2 ((stored j k w).map (·.2))
 | [],d,xs,_,e,r=>by
  subst e;cases xs with
  |nil=>exact⟨rfl,AO.one q⟩
  |cons _ _=>obtain⟨_,_,e,_⟩:=r;cases e
 | (G,v)::j,d,xs,g,e,r=>by
  subst e;cases xs with
  |nil=>cases r
  |cons x xs=>
   refine AB λJ=>?_;obtain⟨f,m,e,N,A⟩:=r;cases e;refine J ?_;haveI g:G∉j.map (·.1)/\(j.map (·.1)).Nodup:=Xc6.mp g
   show _=(if G=k then(G::j.map (·.1),y::xs)else(G::(Cr k y (j.map (·.1)) xs).1,x::(Cr k y (j.map (·.1)) xs).2)).1/\AO P b M h (if G=k then(G::j.map (·.1),y::xs)else(G::(Cr k y (j.map (·.1)) xs).1,x::(Cr k y (j.map (·.1)) xs).2)).2 _
   by_cases L:G=k
   ·refine rR L (rL (Xck rfl) ?_);haveI:j.map (λa=>if a.1=G then(a.1,w)else a)=j:=by
     conv=>rhs;rw[<-Xii j]
     apply Xfh;intro a i;haveI:a.1≠G:=λq=>g.1 (q▸ Xc3 i);refine rL (Xcm this) ?_;rfl
    simp only[stored,List.any_cons,decide_true,Bool.true_or,Xf2,Xde,this];exact⟨trivial,AO.cons q A⟩
   ·refine rL (Xcm L) ?_;obtain⟨i1,i2⟩:=Xd q g.2 rfl A;simp only[stored,List.any_cons,L,decide_false,Bool.false_or]at i1 i2 ⊢;by_cases ha:j.any (λa=>decide (a.1=k))=true
    ·rw[Xck ha]at i1 i2 ⊢;simp only[Xde,L,if_false];exact⟨by exact rL i1 rfl,AO.cons N i2⟩
    ·rw[Xcm ha]at i1 i2 ⊢;simp only[Xh2,Xde];exact⟨by exact rL i1 rfl,AO.cons N i2⟩
section
variable {c:Cx}(C:c.Ok){φ:Fm}{n:Nat}(O:AU φ n){W:Addr->Prop}{σ:St}{AE:Nat->List Addr}{s:Shared}(S:AF c φ W σ AE s.heap){E:Value->Shared->Prop}{u v:Value}
include C O S
theorem ze(f:σ.at i= .N (.list xs))(G:0<=j)(p:xs[j.toNat]? =some y)
  (I:subscripted slice false (.ref ((AE i).headD 0)) (.int j t)=operate [.ref ((AE i).headD 0),.int j t] (getItem (.ref ((AE i).headD 0)) (.int j t))):
  wpAny (Mo c) φ.A (subscriptTail d slice (.ref ((AE i).headD 0)) (.int j t)) (Aa c φ W AE s σ (.V y)) E s:=by refine AB λJ=>Ax (Dt S f) λ_ b=>?_;obtain⟨a,l,m,e,g,k,r⟩:=b;refine J ?_;rw[e]at I ⊢;refine AB λJ=>AJ (r.get p) λw Y T=>J ?_;haveI h:=(Xc8.mp Y).1;haveI:=r.length;exact tail_any (GC g).typeIs slot_list_getitem.lookup (wpAny_getItem_list (GC g) G (by lia) (by simpa using Y) (Ez C O S B4.refl .refl T)) I
theorem yu{j:Int}(d:σ.at i= .N (.list xs))(G:0<=j)(h:j<xs.length)(p:Iv c φ W s.heap y v):
  wpAny (Mo c) φ.A (setItem (.ref ((AE i).headD 0)) (.int j t) v) (λU q=>HH c φ W AE s (σ.set i (.N (.list (xs.set j.toNat y)))) q) E s:=by
 refine AB λJ=>?_;obtain⟨_,a,w,m,e,g,l,r⟩:=Dt S d;refine J ?_;haveI f:=r.length;haveI ha:(AE i).headD 0=a:=by refine rL e ?_;rfl
 refine rL ha (ki_setAt g G (by lia) (by refine rL Xcx ?_;lia) ?_);haveI T:Heap.SameBut a s.heap (s.heap.update a (Obj.mapSeq (·.setIfInBounds j.toNat v))):= .update ..
 refine Qe C O S d (AX rfl rfl rfl) (Ch.sameBut T (rL e (.head _))) λk=>⟨a,w.set j.toNat v,m,e,?_,by refine rL Xem ?_;exact l,?_⟩
 ·haveI:=Xec (Obj.mapSeq (·.setIfInBounds j.toNat v)) g rfl
  refine rL this ?_
  congr 1
  show Obj.mk _ _ _ _=Obj.mk _ _ _ _;simp only[yt,Xcx,Xem,Xf3,Xf2]
 ·exact(AO.mono (λb o N e=>(AH (k b o N e) N)) _ r).set _ (AZ.mono (λb o N e=>(AH (k b o N e) N)) _ p)
theorem yr(f:σ.at i= .N (.dict d xs))(hsz:d.length<=100000)(p:Iv c φ W s.heap y v):
  wpAny (Mo c) φ.A (setItem (.ref ((AE i).headD 0)) (.str k t) v) (λU l=>HH c φ W AE s (σ.set i (.N (.dict (Cr k y d xs).1 (Cr k y d xs).2))) l) E s:=by
 refine AB λJ=>?_;obtain⟨_,a,j,e,g,L,D,r⟩:=Dt S f;refine J ?_;haveI ha:(AE i).headD 0=a:=by refine rL e ?_;rfl
 refine rL ha ?_;haveI h:j.length=d.length:=rR (L ..) (rL (EN ..) rfl);haveI I:(j.map (·.1)).Nodup:=W8 g λo w m _ _ _ _ _ q=>q
 refine wpAny_setItem_pairs (Xgd _ _ _ _) g (λx Y T=>?_) (rL Xc9 (lin [j.length,d.length] 0x2d905100000000007b98e45890000000009000007801 rfl hsz (Xcg h)));refine Qe C O S f (AX rfl rfl rfl) (Ch.sameBut T (rL e (.head _))) λJ=>?_;obtain⟨H,z⟩:=Xd p I L r;exact⟨a,stored j k v,e,Y,H,D,AO.mono (λb o N e=>(AH (J b o N e) N)) _ z⟩
theorem ic(f:σ.at i= .N (.list xs))(hsz:xs.length<=100000)(j:Iv c φ W s.heap y v):
  wpAny (Mo c) φ.A (call (.builtin "list.append") [.ref ((AE i).headD 0),v]) (λU l=>HH c φ W AE s (σ.set i (.N (.list (xs++[y])))) l) E s:=by
 refine AB λJ=>?_;obtain⟨_,a,p,m,e,g,h,r⟩:=Dt S f;refine J ?_;have d:=r.length;haveI ha:(AE i).headD 0=a:=by refine rL e ?_;rfl
 refine rL ha (append_at g (λq T Y=>?_) (rL Xcx (rL Xc9 (lin [p.length,xs.length] 0x2d90510000000004d3f6845890000000009000007801 rfl h (Xcg d)))));refine Qe C O S f (AX rfl rfl rfl) (Ch.sameBut T (rL e (.head _))) λk=>⟨a,p++[v],m+1,e,?_,by simp;omega,?_⟩
 ·refine rL Y ?_;simp[PySem.W.listOf]
 ·exact AO.append (AO.mono (λb o N e=>(AH (k b o N e) N)) _ r) (.one (AZ.mono (λb o N e=>(AH (k b o N e) N)) _ j))
theorem mP(f:σ.at i= .N (.list xs))(hsz:xs.length+ys.length<=100000)(z:Iv c φ W s.heap (.list ys) v):
  wpAny (Mo c) φ.A (call (.builtin "list.extend") [.ref ((AE i).headD 0),v]) (λU A=>HH c φ W AE s (σ.set i (.N (.list (xs++ys)))) A) E s:=by
 refine AB λJ=>?_;obtain⟨_,a,p,m,e,g,j,r⟩:=Dt S f;obtain⟨b,w,B,d,N,t,l,V⟩:=z;refine J (rL d ?_);haveI y:=r.length;haveI h:=V.length;haveI ha:(AE i).headD 0=a:=by refine rL e ?_;rfl
 refine rL ha ?_;refine call_meets Xhy (AG _ g rfl) PySem.F.entry_list_extend (PySem.F.args_list_extend_2 _ _)
  (PySem.AutoSeq1.list_extend_list_list_0 a p.toArray m b w.toArray B ?_ (rL Xcx (rL Xc9 (lin [p.length,xs.length] 0x2d90510000000004d3f6845890000000009000007801 rfl j (Xcg y)))) (rL Xcx (rL Xcx (rL Xc9 (lin [p.length,w.length,xs.length,ys.length] 0x1b76b371e00d5200000002bfecce33e8acb52800000007980006c36081 rfl hsz (Xcg y) (Xcg h)))))) (AX g t ?_)
 ·simp only[Builtin.List.listTooLong,Xc9];intro q;simp at q
  omega
 haveI T:Heap.SameBut a s.heap (s.heap.update a (Obj.mapSeq λx=>x++w.toArray)):= .update ..;refine Qe C O S f (AX rfl rfl rfl) (Ch.sameBut T (rL e (.head _))) λk=>⟨a,p++w,if(p.toArray++w.toArray).size==p.toArray.size then m else m+1,e,?_,by simp;exact lin [xs.length,ys.length] 0x271b603fe234400000000134fda116081 rfl hsz,?_⟩
 ·haveI:=Xg2 g λx=>x++w.toArray;refine rL this ?_;simp[PySem.W.listOf]
 ·exact AO.append (AO.mono (λb o N e=>(AH (k b o N e) N)) _ r) (AO.mono (λb o N e=>(AH (k b o N e) N)) _ V)
end
def i8(φ:Fm)(x:Str)(i:Nat):Bool->Prop
 |false=>φ.env.kindOf x=some .local/\φ.slots i= .d φ.env.locals x
 |true=>(φ.env.kindOf x=some .cell\/(φ.env.kindOf x=some .free/\(x=="__classdict__")=false))/\∃a,φ.env.cells.lookup x=some a/\φ.slots i= .c a
abbrev CO:=List (Str×Nat×Bool)
structure Aw(Γ:CO)(N:List (Str×NameKind))(φ:Fm):Prop where
 vars:∀x i b,Γ.lookup x=some (i,b)->i8 φ x i b
 PI:∀x,N.lookup x=some .globalImplicit->φ.env.kindOf x=some .globalImplicit
set_option backward.match.sparseCases true in
noncomputable def Av:PySem.Expr->Bool
 | .Starred _ _=>true
 |_=>false
def Be(a:List PySem.Expr):Bool:=a.all λe=> !Av e
theorem Bn(h:Av e=false):starEach (e::rest) env=(false,eval e env)::starEach rest env:=by
 cases e<;>first|rfl|exact tF h
theorem H9:∀{a:List PySem.Expr},Be a=true->(backTo pos (starEach a env)).any (·.1)=false
 | [],_=>rfl
 |e::a,h=>by
  refine rL (Bn (Aq (al h))) ?_;show(false||(backTo pos (starEach a env)).any (·.1))=false
  refine rL (H9 (ar h)) ?_;rfl
noncomputable def Pm(x:Val)(neg:Bool):Option Bool:=match x with
 | .none=>some (!neg)
 | .any=>none
 |_=>some neg
def DI(K:Frag)(x:Str)(v:Value):Prop:=
 (nsIn K mainGlobals x=some (some v)/\keepIn K v=true)\/(nsIn K mainGlobals x=some none/\bootBuiltins x=some v/\x≠"__name__"/\∃i,v= .builtin i\/v= .type i)
section
variable {c:Cx}(C:c.Ok){φ:Fm}{n:Nat}(O:AU φ n)
include C O
theorem one(h:Ac c φ t σ r A0)(S:AF c φ W σ M s.heap)
  (k:∀I l u,BJ c φ W M s A0 I l->Iv c φ I l.heap r.fz u->Q u l):wpAny (Mo c) φ.A t Q E s:=
 Xcv (h W M s E S) (λu l p=>let⟨I,P,R⟩:=p.fz C O;k I l u P R) λU U x=>x
theorem NK(h:Ac c φ t σ r A0)(S:AF c φ W σ M s.heap)
  (k:∀I l u,BJ c φ W M s A0 I l->DW c φ I A0 M l.heap r u->Q u l):wpAny (Mo c) φ.A t Q E s:=
 Xcv (h W M s E S) (λu l p=>let⟨I,P,R⟩:=p;k I l u P R) λU U x=>x
theorem GF(h:ES c φ t σ b A0)(S:AF c φ W σ M s.heap)
  (k:∀I l,BJ c φ W M s A0 I l->Q b l):wpAny (Mo c) φ.A t Q E s:=
 Xcv (h W M s E S) (λu l p=>let⟨e,I,P⟩:=p;e▸ k I l P) λU U x=>x
theorem Dg(P:BJ c φ W M s AA g d)(h:wpAny (Mo c) φ.A t (Aa c φ g M d A0 r) E z):
  wpAny (Mo c) φ.A t (Aa c φ W M s A0 r) E z:=Xcv h (λU U p=>p.step P) λU U x=>x
theorem Qu(P:BJ c φ W M s AA g d)(h:wpAny (Mo c) φ.A t (Jr c φ g M d A0 r) E d):
  wpAny (Mo c) φ.A t (Jr c φ W M s A0 r) E d:=Xcv h (λU U p=>p.step P) λU U x=>x
theorem Yq(a:Aw Γ N φ)(B:N.lookup x=some .globalImplicit)(U:DI c.K x v)(u:(x=="__debug__")=false)(st:c.base.StaysIn s.heap)
  (h:Q v s):wpAny (Mo c) φ.A (eval (.Name x pos) φ.env) Q E s:=by
 haveI L:=st;refine Xfd O.ek (a.PI x B) ?_ u;rcases U with⟨e,_⟩|⟨e,H,g,_⟩
 ·exact Xfr (O.eg▸ C.tg.keeps L) (mg_of C.BE C.tg e) h
 ·exact Xge (O.eg▸ C.tg.keeps L) (Xip C.BE C.tg e) (O.eb▸ C.Np.keeps L) ((C.blt x g).trans H) h
theorem Hw(L:Aw Γ N φ)(B:N.lookup x=some .globalImplicit)(g:DI c.K x v)(u:(x=="__debug__")=false)(st:c.base.StaysIn s.heap)
  (i:Be (e::rest)=true)
  (h:wpAny (Mo c) φ.A (spliced (backTo pos (starEach (e::rest) φ.env))) (λvs d=>c.base.StaysIn d.heap/\wpAny (Mo c) φ.A (call v vs) Q E d) E s):
  wpAny (Mo c) φ.A (eval (.Call (.Name x np) (e::rest) [] pos) φ.env) Q E s:=by
 haveI a:Av e=false/\Be rest=true:=⟨Aq (al i),ar i⟩;haveI Y:=Bn (rest:=rest) (env:=φ.env) a.1;haveI b:=H9 (pos:=pos) (env:=φ.env) a.2;refine wpAny_Call_NameR (Yq C O L B g u st ?_);rcases g with⟨_,j⟩|⟨_,_,_,k,H⟩
 ·exact Xhk (C.BE.keeps st) j (Xcv h (λvs d p=>⟨C.BE.keeps p.1,p.2⟩) λU U x=>x) Y b
 ·haveI f:=Xcv h (λU U p=>p.2) λU U x=>x;rcases H with rfl|rfl
  ·exact callWith_builtin1 f Y b
  ·exact Xhc f Y b
theorem HZ(L:Aw Γ N φ)(B:Γ.lookup x=some (i,b))(u:(x=="__debug__")=false)(I:(φ.slots i).Dx s.heap v)
  (h:Q v s):wpAny (Mo c) φ.A (eval (.Name x pos) φ.env) Q E s:=by
 haveI r:=L.vars x i b B;refine Xia ?_ u;cases b with
 |false=>
  refine Ax r λY V=>?_;rw[V]at I;exact AJ I λm d T=>Xgy O.ek Y d T h
 |true=>
  refine Ax r λY w=>AJ w λa V e=>?_;replace I:=e▸ I;rcases Y with Y|⟨Y,t⟩
  ·exact Xg7 O.ek Y V I h
  ·exact wpAny_loadName_free O.ek Y V I h t
theorem AF.freeze(S:AF c φ W σ AE h)(u:σ.at i= .N o)(hw:∀k,o≠.Z k):
  AF c φ (λb=>W b/\b∉AE i) (σ.set i (.V o.fz)) AE h/\AZ (c.prog,c.w) c.fl (Ex φ λb=>W b/\b∉AE i) h o.fz (.ref ((AE i).headD 0)):=by
 have own:(σ.at i).Az:=rL u trivial;have v:(σ.at i).on:=rL u trivial;haveI y:=LV.IT v;have eq:∀j,St.at (σ.set i .O) j=if j=i then .O else σ.at j:=λj=>by
  refine rL FN ?_;by_cases e:j=i
  ·exact rL (Xck (AH e (FL y))) (rL (Xck e) rfl)
  ·exact rL (Xcm λq=>e q.1) (rL (Xcm e) rfl)
 have d:=S.drop i;haveI p:AF c φ (λb=>W b/\b∉AE i) (σ.set i .O) AE h:=by
  refine d.same C O .refl (λw q=> .inl q.1) (λj=>(AH (d.sw j) (S.so j i own))) (λj f b t=>(AH (d.Bc j f b t) ?_)) (AH S.LW (S.Lo i own)) λa ha=>(AH (S.tW a ha) λq=>S.EO i own a q ha);rw[eq]at f;by_cases e:j=i
  ·rw[Xck e]at f;exact f.elim
  ·rw[Xcm e]at f;exact S.oo j i e f own b t
 refine Ax (Dt S u) λhs s=>?_;haveI V:AZ (c.prog,c.w) c.fl (Ex φ λb=>W b/\b∉AE i) h o.fz (.ref ((AE i).headD 0)):=by
  refine B8 (s.cons C) λa r e=>?_;have x:AE i=[a]:=by
   cases o with
   |list xs=>obtain⟨b,_,_,q,_⟩:=s;replace e:=q▸ e;cases e;exact q
   |dict ks xs=>obtain⟨b,_,q,_⟩:=s;replace e:=q▸ e;cases e;exact q
   |Z k=>exact absurd rfl (hw k)
  haveI m:=s;rw[x]at m ⊢;refine Bu.fz (m.mono C λb o t z=>(AH z λnb q=>nb (q.imp id λq=>q.1))) (λq=>?_) hw;rcases q with q|q
  ·exact S.MW a q (S.Bc i own a (x▸ .head _))
  ·exact q.2 (.head _)
 refine(AH ?_ V);haveI P:=p.put (l:= .V o.fz) (rL Xem (FL y)) (rL (eq ..) (rL (Xck rfl ..) rfl)) (λw w=>rfl) (AG _ hs V)
  (λw j f g=>?_) λq=>q.elim
 ·rwa [Xhd]at P
 ·rw[eq,Xcm f]at g;exact(AH (S.sa i j (Ne.symm f) v g) (S.sa j i f g v))
set_option tactic.hygienic true in
theorem ly(L:Aw Γ N φ)(B:Γ.lookup x=some (i,b))(d:(x=="__debug__")=false)(h:MI φ.np i σ=some (r,A0)):
  Ac c φ (eval (.Name x pos) φ.env) σ r A0:=by
 intro W M s E S;unfold MI at h;have a:∀o,σ.at i= .N o->(∀k,o≠.Z k)->r= .V o.fz->A0=σ.set i (.V o.fz)->wpAny (Mo c) φ.A (eval (.Name x pos) φ.env) (Aa c φ W M s A0 r) E s:=by rintro o f hw rfl rfl;exact Ax (AF.freeze C O S f hw) λz V=>HZ C O L B d (Dt S f).1 (AG _ ⟨.refl,⟨.refl,λU q=> .inl q.1⟩,z⟩ V)
 cases p:σ.at i with
 |V y=>
  rw[p]at h;refine Ax (sP h) λe u=>?_;obtain rfl:=u;refine rR e ?_;haveI:=S.lv i;rw[p]at this;exact AJ this λv I H=>HZ C O L B d I (AG W (.refl S) H)
 |N o=>
  rw[p]at h;by_cases q:i<φ.np
  ·cases o with
   |Z=>exact nS h
   |_=>exact nS ((Xck q).symm.trans h)
  ·cases o with
   |list g=>haveI h:=(Xcm q).symm.trans h;exact a _ p (λU q=>by cases q) (sP h).1.symm (sP h).2.symm
   |dict j g=>haveI h:=(Xcm q).symm.trans h;exact a _ p (λU q=>by cases q) (sP h).1.symm (sP h).2.symm
   |Z=>exact nS h
 |_=>rw[p]at h;exact nS h
theorem lb:Ac c φ (eval (.Constant .none k pos) φ.env) σ (.V .none) σ:=λW M s E S=>Xdq (AG W (.refl S) rfl)
theorem lO:Ac c φ (eval (.Constant (.bool b) k pos) φ.env) σ (.V (.bool b)) σ:=λW M s E S=>Xg8 (AG W (.refl S) rfl)
theorem lR:Ac c φ (eval (.Constant (.int i) k pos) φ.env) σ (.V (.int i)) σ:=λW M s E S=>Xgf (Fs C O S)
theorem lq(B:x.cps.size<=1000000):Ac c φ (eval (.Constant (.str x) k pos) φ.env) σ (.V (.str x)) σ:=λW M s E S=>
 Xef (Ez C O S (AX rfl rfl rfl) .refl (And.intro (AN _ rfl) B))
theorem lN(Y:Ac c φ (eval a φ.env) σ G AA)(T:Ac c φ (eval b φ.env) AA i f)(x:Bq op G.fz i.fz=some r):
  Ac c φ (eval (.BinOp a op b pos) φ.env) σ r f:=λW M s E S=>Xij (one C O Y S λj k u e g=>one C O T e.S λQ l v d h=>
 Dg C O (e.trans d) (Xam C O d.S x (g.nx O d.nx) h))
theorem lP(Y:Ac c φ (eval a φ.env) σ G AA)(T:Ac c φ (eval b φ.env) AA i f)(x:B7 op G.fz i.fz=some y)(D:behindInMarks op b=false):
  Ac c φ (eval (.Compare a [op] [b] pos) φ.env) σ (.V y) f:=λW M s E S=>wpAny_Compare1 (one C O Y S λj k u e g=>one C O T e.S λQ l v d h=>
 Dg C O (e.trans d) (fS C O d.S x (g.nx O d.nx) h)) D
theorem aN(S:AF c φ W σ M s.heap)(B:Iv c φ W s.heap x u)(neg b:Bool)(h:Pm x neg=some b):
  wpAny (Mo c) φ.A (compareOp (if neg then .IsNot else .Is) u .none) (Aa c φ W M s σ (.V (.bool b))) E s:=by
 haveI a:(if neg then !(u==Value.none)else(u==Value.none))=b:=by
  cases neg<;>cases x with
  |any=>exact nS h
  |none=>exact uN B (sS h)
  |bool _=>exact uB B (sS h)
  |int _=>exact uI B λU=>sS h
  |str _=>exact uS B λU U=>sS h
  |list _=>exact uL B λU U U U U U U=>sS h
  |T _=>exact uT B λU U U U U U U=>sS h
  |dict _ _=>exact uD B λU U U U U U U=>sS h
  |I _ _=>exact uO B λU U U U U U U U U U=>sS h
 cases neg with
 |false=>exact(show(u==Value.none)=b from a)▸ PySem.is_none (Ie C O S)
 |true=>exact(show(!(u==Value.none))=b from a)▸ PySem.isNot_none (Ie C O S)
end
noncomputable def J9:BF->Str×Value
 | .L=>("len",.builtin "len")
 | .toInt=>("int",.type "int")
 | .H=>("str",.type "str")
 | .abs=>("abs",.builtin "abs")
 | .toList=>("list",.type "list")
noncomputable def KD:Nat->Str
 |0=>"str"
 |1=>"list"
 |49=>"Params"
 |_=>"ListThing"
noncomputable def Hv:PySem.Expr->Bool
 | .Call _ a _ _=> !a.isEmpty
 |_=>true
theorem HM(h:Hv o=true):attributeBase o attr env w=w:=by
 cases o with
 |Call f a E p=>cases a<;>first|exact fT h| (cases f<;>rfl)
 |_=>rfl
noncomputable def NF:PySem.Expr->Bool
 | .Slice _ _ _ _=>false
 |_=>true
theorem Vl(h:NF k=true):subscripted k false u v=operate [u,v] (getItem u v):=by
 cases k<;>first|rfl|exact fT h
section
variable {c:Cx}(C:c.Ok){φ:Fm}{n:Nat}(O:AU φ n)
include C O
theorem lU(h:ES c φ (isTrue t φ.env (eval t φ.env)) σ k AA)(Y:k=true->Ac c φ (eval a φ.env) AA r A0)(T:k=false->Ac c φ (eval b φ.env) AA r A0):
  Ac c φ (eval (.IfExp t a b pos) φ.env) σ r A0:=λW M s E S=>IfExp_ (GF C O h S λg e d=>by
 cases k with
 |true=>exact Dg C O d (Y rfl g M e E d.S)
 |false=>exact Dg C O d (T rfl g M e E d.S))
theorem Xaa(h:ES c φ (isTrue t φ.env (eval t φ.env)) σ k AA)(Y:k=true->ES c φ (isTrue a φ.env (eval a φ.env)) AA r A0)(T:k=false->ES c φ (isTrue b φ.env (eval b φ.env)) AA r A0):
  ES c φ (isTrue (.IfExp t a b pos) φ.env i) σ r A0:=λW M s E S=>isTrue_IfExp (GF C O h S λg e d=>by
 cases k with
 |true=>exact Qu C O d (Y rfl g M e E d.S)
 |false=>exact Qu C O d (T rfl g M e E d.S))
theorem Xac(h:Ac c φ (eval e φ.env) σ (.V (.bool b)) A0)(Y:isTrue e φ.env (eval e φ.env)=(do let v <-eval e φ.env;standAt e.pos;holding [v] (truthy v))):
  ES c φ (isTrue e φ.env (eval e φ.env)) σ b A0:=λW M s E S=>isTrue_plain (one C O h S λg d u a f=>by obtain rfl:=f;exact λU U U=>⟨rfl,g,a⟩) Y
theorem fK(h:∀W M s E Q,AF c φ W σ M s.heap->(∀I l u,BJ c φ W M s A0 I l->u= .bool y->Q u l)->
   wpAny (Mo c) φ.A (eval a φ.env) (λu d=>wpAny (Mo c) φ.A (eval b φ.env) (λv f=>wpAny (Mo c) φ.A (compareOp op u v) Q E f) E d) E s) (D:behindInMarks op b=false):
  ES c φ (isTrue (.Compare a [op] [b] pos) φ.env i) σ y A0:=λW M s E S=>Xe4 (h W M s E _ S λI l u P e=>by subst e;exact λU U U=>⟨rfl,I,P⟩) D
theorem Xab(h:ES c φ (isTrue e φ.env (eval e φ.env)) σ b A0):ES c φ (isTrue (.UnaryOp .Not e pos) φ.env i) σ (!b) A0:=
 λW M s E S=>isTrue_not (GF C O h S λg d a=>⟨rfl,g,a⟩)
theorem lZ(h:Ac c φ (eval e φ.env) σ r A0)(b:r.fz= .int i):Ac c φ (eval (.UnaryOp .USub e pos) φ.env) σ (.V (.int (-i))) A0:=
 λW M s E S=>UnaryOp_ (one C O h S λg d u a f=>by rw[b]at f;obtain⟨t,rfl⟩:=f;exact Dg C O a (xK C O a.S))
def K2(c:Cx)(φ:Fm)(b:List PySem.Expr)(σ:St)(xs:List Val)(A0:St):Prop:=
 ∀a W M s E Q,AF c φ W σ M s.heap->(∀I l p,BJ c φ W M s A0 I l->Dl c φ I l.heap xs p->Q p l)->wpAny (Mo c) φ.A (spliced (backTo a (starEach b φ.env))) Q E s
theorem Qd:K2 c φ [] σ [] σ:=λa W M s E Q S k=>args_nil (k W s [] (.refl S) .nil)
theorem L6(Y:Ac c φ (eval e φ.env) σ r AA)(T:K2 c φ m AA xs A0)(I:Av e=false):K2 c φ (e::m) σ (r.fz::xs) A0:=
 λl W M s E Q S k=>Xc5 (one C O Y S λg i u a f=>T l g M i E _ a.S λh j p b d=>k h j (u::p) (a.trans b) (.cons (f.nx O b.nx) d)) (Bn I)
theorem lV(h:K2 c φ e σ xs A0)(b:xs.length<=1000000):Ac c φ (eval (.List e pos) φ.env) σ (.M (.list xs)) A0:=
 λW M s E S=>wpAny_List (h pos W M s E _ S λg d p a f=>⟨by refine rL f.length ?_;exact Q5 b,by
  exact Aa.step a (J5 C O a.S ⟨rfl,rfl,rfl⟩ (.push _) Bg (Cq C O a.S) (λU q=>by cases q) (λk=>⟨_,p,0,rfl,Xcn _ rfl,b,AO.mono k _ f⟩) (Fq C O a.S (Cq C O a.S)))⟩)
theorem Xq(h:K2 c φ i σ xs A0)(e:xs.length<=1000000):Ac c φ (eval (.Tuple i k pos) φ.env) σ (.V (.T xs)) A0:=
 λW M s E S=>Xht (h pos W M s E _ S λg d p a f=>⟨by refine rL f.length ?_;exact Q5 e,by exact Aa.step a (kt C O a.S ⟨rfl,rfl,rfl⟩ (.push _) (λb=>b=d.heap.objs.size) (λb q=>q▸ ⟨Bg,Cq C O a.S⟩) λk D=>Rl.mk _ p 0 rfl (D _ rfl) (Xcn _ rfl) e (AO.mono k _ f))⟩)
theorem lM{cl k:Nat}(h:Ac c φ (eval e φ.env) σ r A0)(i:r.fz= .I cl xs)(v:cl=49\/cl=114\/cl=193)(L:xs[k]? =some x)(b:(c.fl cl)[k]? =some nm)(V:Hv e=true):
  Ac c φ (eval (.Attribute e nm pos) φ.env) σ (.V x) A0:=λW M s E S=>Xe8 (one C O h S λg d u a f=>by replace f:=i▸ f;exact Dg C O a (io C O a.S v f L b)) (rL (Xeg ..) (rL (HM V ..) rfl))
theorem lr(Y:Ac c φ (eval e φ.env) σ G AA)(T:Ac c φ (eval i φ.env) AA h d)(m:Ee G.fz h.fz=some z)(I:NF i=true):
  Ac c φ (eval (.Subscript e i pos) φ.env) σ (.V z) d:=λW M s E S=>Xhl (one C O Y S λj k u b f=>one C O T b.S λQ l v a g=>
 Dg C O (b.trans a) (Xat C O a.S m (f.nx O a.nx) g (Vl I)))
theorem lu(L:Aw Γ N φ)(B:Γ.lookup x=some (i,b))(k:(x=="__debug__")=false)(h:Ac c φ (eval e φ.env) σ r A0)
  (Q:σ.at i= .N (.list ys)) (Y:A0.at i= .N (.list xs)) (l:r.fz= .int j) (G:0<=j) (m:xs[j.toNat]? =some y) (I:NF e=true):Ac c φ (eval (.Subscript (.Name x p) e pos) φ.env) σ (.V y) A0:=
 λW M s E S=>Xhl (HZ C O L B k (Dt S Q).1 (one C O h S λg d u a f=>by rw[l]at f;obtain⟨t,rfl⟩:=f;exact Dg C O a (ze C O a.S Y G m (Vl I))))
theorem lj(Y:Ac c φ (eval (.Name x p) φ.env) σ G AA)(T:Ac c φ (eval l φ.env) AA h e)(N:G.fz= .list xs)(A:h.fz= .int j)(m:0<=j):
  Ac c φ (eval (.Subscript (.Name x p) (.Slice none (some l) none w) pos) φ.env) σ (.M (.list (xs.take j.toNat))) e:=λW M s E S=>Xhl (one C O Y S λg i u b f=>by refine wpAny_Slice (Xg9 (Xha (one C O T b.S λQ k v a d=>Xg9 ?_)));rw[N]at f;rw[A]at d;obtain⟨t,rfl⟩:=d;exact Dg C O (b.trans a) (zE C O a.S (f.nx O a.nx) m rfl λU=>rfl))
theorem lh{w r:PySem.Expr}(Y:Ac c φ (eval (.Name x p) φ.env) σ G AA)(T:Ac c φ (eval w φ.env) AA h g)(U:Ac c φ (eval r φ.env) g q o)(N:G.fz= .list xs)(J:h.fz= .int i)(L:q.fz= .int j)
  (k:0<=i) (D:i<=j) (V:j<=xs.length):Ac c φ (eval (.Subscript (.Name x p) (.Slice (some w) (some r) none z) pos) φ.env) σ (.M (.list ((xs.drop i.toNat).take (j.toNat - i.toNat)))) o:=λW M s E S=>Xhl (one C O Y S λl A u b f=>by refine wpAny_Slice (Xha (one C O T b.S λQ B v a d=>Xha (one C O U a.S λm H I y e=>Xg9 ?_)));replace f:=N▸ f;rw[J]at d;obtain⟨t,rfl⟩:=d;rw[L]at e;obtain⟨t',rfl⟩:=e;exact Dg C O ((b.trans a).trans y) (zD C O y.S ((f.nx O a.nx).nx O y.nx) k D V rfl λu0=>rfl))
theorem lQ(L:Aw Γ N φ)(B:N.lookup (J9 f).1=some .globalImplicit)(U:DI c.K (J9 f).1 (J9 f).2)(h:Ac c φ (eval e φ.env) σ r A0)(t:FD f r.fz=some m)(I:Av e=false):
  Ac c φ (eval (.Call (.Name (J9 f).1 p) [e] [] pos) φ.env) σ m A0:=λW M s E S=>by
 refine Hw C O L B U (by clear B U t;cases f<;>decide) S.base (by simp[Be,I]) (L6 C O h (Qd C O) I pos W M s E _ S λg d i a b=>?_);obtain⟨u,_,rfl,R,rfl⟩:=b;refine⟨a.S.base,Dg C O a ?_⟩;cases f with
 |L=>exact Xap C O a.S t R
 |toInt=>exact Xan C O a.S t R
 |H=>exact Xas C O a.S t R
 |abs=>exact Xah C O a.S t R
 |toList=>exact Xaq C O a.S t R
theorem lY(L:Aw Γ N φ)(B:N.lookup ("min":Str)=some .globalImplicit)(U:DI c.K "min" (.builtin "min"))(Y:Ac c φ (eval a φ.env) σ G AA)(T:Ac c φ (eval b φ.env) AA h e)(m:G.fz= .int i)(A:h.fz= .int j)(I:Av a=false)(l:Av b=false):
  Ac c φ (eval (.Call (.Name "min" p) [a,b] [] pos) φ.env) σ (.V (.int (if j<i then j else i))) e:=λW M s E S=>by refine Hw C O L B U (by decide) S.base (by simp[Be,I,l]) (L6 C O Y (L6 C O T (Qd C O) l) I pos W M s E _ S λg k q d f=>?_);rw[m,A]at f;obtain⟨u,_,rfl,⟨t,rfl⟩,v,_,rfl,⟨o,rfl⟩,rfl⟩:=f;exact⟨d.S.base,Dg C O d (vB C O d.S)⟩
theorem lT(en:Aw Γ N φ)(hx:N.lookup ("isinstance":Str)=some .globalImplicit)(hg:DI c.K "isinstance" (.builtin "isinstance"))(hk:k=0\/k=1\/k=49\/k=114)(JK:N.lookup (KD k)=some .globalImplicit)(ZK:DI c.K (KD k) (Od k))(h:Ac c φ (eval e φ.env) σ r A0)(hv:Ih r.fz k=some b)(hs:Av e=false):
  Ac c φ (eval (.Call (.Name "isinstance" p) [e,.Name (KD k) p'] [] pos) φ.env) σ (.V (.bool b)) A0:=λW AE s E S=>Hw C O en hx hg (by decide) S.base (by simp[Be,hs];rfl) (Xc5 (one C O h S λDC BL u Im K1=>Xc5 (Yq C O en JK ZK (by clear JK ZK hv;rcases hk with rfl|rfl|rfl|rfl<;>decide) Im.S.base (args_nil ⟨Im.S.base,Dg C O Im (Xao C O Im.S hv hk K1)⟩)) rfl) (Bn hs))
theorem lS(h:Ac c φ (eval e φ.env) σ r A0)(V:Pm r.fz neg=some b):
  Ac c φ (eval (.Compare e [if neg then .IsNot else .Is] [.Constant .none k p] pos) φ.env) σ (.V (.bool b)) A0:=λW M s E S=>
 wpAny_Compare1 (one C O h S λg d u a f=>Xdq (Dg C O a (aN C O a.S f neg b V))) (by cases neg<;>rfl)
end
theorem AF.move(C:c.Ok){φ AD:Fm}(O:AU φ n){W t X:Addr->Prop}(S:AF c φ W σ s h)
  (eL:AD.L=φ.L) (ef:AD.Cm=φ.Cm) (eo:AD.outer=φ.outer) (es:∀i,(σ.at i).on->AD.slots i=φ.slots i) (al:∀i,∃o,h'.get? (AD.slots i).at=some o) (so:∀i j,(σ.at j).Az->(AD.slots i).at∉s j) (ts:∀i,¬c.tb (AD.slots i).at)
  (hX:∀b,X b->φ.CZ b/\¬φ.F b/\c.base.get? b=none) (u:∀b o,¬X b->h.get? b=some o->h'.get? b=some o)
  (hM:∀b o,h.get? b=some o->¬Ex φ W b->¬Ex AD t b) (off:∀b,t b->c.base.get? b=none)
  (sw:∀i,t (AD.slots i).at) (ow:∀j,(σ.at j).Az->∀b∈s j,t b) (LW:t φ.L) (tW:∀a,c.tb a->t a)
  (MW:∀b,AD.CZ b->¬t b) (MA:∀b,AD.CZ b->∃o,h'.get? b=some o):AF c AD t σ s h':=by
 have nX:=λb q r=>S.MW b (hX b r).1 q;have f:∀b o,¬Ex φ W b->h.get? b=some o->h'.get? b=some o/\¬Ex AD t b:=λb o nb e=>(AH (u b o (λq=>nb (.inl (hX b q).1)) e) (hM b o e nb));have has:∀i v,(σ.at i).on->(φ.slots i).Dx h v->(φ.slots i).Dx h' v:=λi v w q=>by
  have:=nX _ (S.sw i);cases hs:φ.slots i with
  |d D x=>
   rw[hs]at q this;refine AB λkk=>AJ q λm G9 q2=>?_;obtain⟨o,e1,e2,g,r⟩:=G9;exact kk (AG m ⟨o,e1,e2,u _ _ this g,r⟩ q2)
  |c a=>
   rw[hs]at q this;exact AB λkk=>AJ q λo g r=>kk (AG o (u _ _ this g) r)
 have free:∀i,(σ.at i).on->(φ.slots i).Af h->(φ.slots i).Af h':=λi w q=>by
  have:=nX _ (S.sw i);cases hs:φ.slots i with
  |d D x=>
   rw[hs]at q this;refine AB λkk=>AK q λm G9=>?_;obtain⟨o,e1,e2,g,r⟩:=G9;exact kk (AN m ⟨o,e1,e2,u _ _ this g,r⟩)
  |c a=>
   rw[hs]at q this;exact AB λkk=>AK q λv Ap=>AJ Ap λo g r=>kk (AN v (AG o (u _ _ this g) r))
 haveI IV:∀j o,(σ.at j).Az->Bu c (Ex φ W) h (s j) o->Bu c (Ex AD t) h' (s j) o:=λj o hj q=>q.mono C λb ob hb e=>by
  rcases hb with hb|hb
  ·exact(AH ((f b ob hb e).1) λu0=>(f b ob hb e).2)
  ·exact(AH (u b ob (nX b (S.Bc j hj b hb)) e) λnb=>hM b ob e nb)
 refine⟨λi=>?_,sw,al,λi j Dq p hj=>by refine rL (es i p) (rL (es j hj) ?_);exact S.sa i j Dq p hj,so,S.oo,
  by refine rL eL ?_;exact LW,?_,by refine rL eL ?_;exact S.La,λj hj=>by refine rL eL ?_;exact S.Lo j hj,tW,ts,S.EO,by refine rL eL ?_;exact S.tL,?_,off,?_,MW,MA,
  C.KS S.gi λa o ha e=>ha.elim (λnb=>(AH ((f a o nb e).1) λu0=>(f a o nb e).2)) λz=>(AH (u a o (nX a (S.tW a z)) e) λnb=>hM a o e nb)⟩
 ·haveI k:=S.lv i;cases p:σ.at i with
  |O=>exact trivial
  |U=>
   have w:(σ.at i).on:=rL p trivial;replace k:=p▸ k;exact rL (es i w) (free i w k)
  |V y=>
   haveI w:(σ.at i).on:=rL p trivial;replace k:=p▸ k;exact AB λkk=>AJ k λv a b=>kk ((es i w)▸ (AG v (has i v w a) (AZ.mono f y b)))
  |N o=>
   haveI w:(σ.at i).on:=rL p trivial;haveI ho:(σ.at i).Az:=rL p trivial;replace k:=p▸ k;exact rL (es i w) (AX (has i _ w k.1) (ow i ho) (IV i o ho k.2.2))
  |P o=>
   haveI ho:(σ.at i).Az:=rL p trivial;replace k:=p▸ k;exact(AH (ow i ho) (IV i o ho k.2))
 ·exact AK S.LN λm Ap=>Aj Ap λo e1 e2 g r=>eL▸ (AN m (DS o e1 e2 (u _ _ (nX _ S.LW) g) r))
 ·intro b o e;exact u b o (λq=>nG ((hX b q).2.2) e) (S.base b o e)
 ·refine rL ef (rL eo ?_);haveI go:∀{l:List Env},h.FunFrames c.base l->(∀e∈l,∀b,e.frame=some b->¬X b)->h'.FunFrames c.base l:=by
   intro l;induction l with
   |nil=>intro _ _;trivial
   |cons e l ih=>
    rintro⟨hk,⟨L,o,hf,hn,ho,hd⟩,hr⟩ hx;exact(AX hk ⟨L,o,hf,hn,u L o (hx e (.head _) L hf) ho,hd⟩ (ih hr λe' Me=>hx e' (.tail _ Me)))
  refine go S.ff λe he b hf q=>?_;cases he with
  |head=>replace hf:=O.fL▸ hf;obtain rfl:=sS hf;exact nX _ S.LW q
  |tail _ he=>exact(hX b q).2.1 (AG e he hf)
theorem AF.N8(C:c.Ok)(O:AU φ n){W d X:Addr->Prop}{σ:St}(S:AF c φ W σ f h)
  (r:AD.L=φ.L) (s:AD.Cm=φ.Cm) (x:AD.outer=φ.outer) (e:AD.slots=φ.slots)
  (p:∀b,X b->φ.CZ b/\¬φ.F b/\c.base.get? b=none) (g:∀b o,¬X b->h.get? b=some o->h'.get? b=some o)
  (t:∀b o,h.get? b=some o->¬Ex φ W b->¬Ex AD d b) (off:∀b,d b->c.base.get? b=none)
  (w:∀i,d (φ.slots i).at) (v:∀j,(σ.at j).Az->∀b∈f j,d b) (k:d φ.L) (y:∀a,c.tb a->d a)
  (l:∀b,AD.CZ b->¬d b) (m:∀b,AD.CZ b->∃o,h'.get? b=some o):AF c AD d σ f h':=
 S.move C O r s x (λi u0=>rL e rfl) (λi=>(let⟨o,q⟩:=S.al i;⟨o,by exact rL e (g _ _ (λz=>S.MW _ (p _ z).1 (S.sw i)) q)⟩)) (λi j u=>rL e (S.so i j u)) (λi=>rL e (S.ts i)) p g t off (λi=>rL e (w i)) v k y l m
section
variable {c:Cx}(C:c.Ok){φ:Fm}{n:Nat}(O:AU φ n)
include C O
theorem PA{env:Env}(h:env.scope.kind= .function):(env.scope.kind== .class||(env.scope.kind== .module&&env.locals !=env.globals))=false:=by refine rL h ?_;rfl
theorem Vg(L:Aw Γ N φ)(B:Γ.lookup x=some (i,b))(S:AF c φ W σ M s.heap)(A:(σ.at i).on)
  (k:∀d tk,Heap.SameBut (φ.slots i).at s.heap d->(φ.slots i).Dx d v->AF c φ W (σ.set i .O) M d->Q () {s with heap:=d,toks:=tk}):wpAny (Mo c) φ.A (storeName φ.env x v) Q E s:=by
 haveI r:=L.vars x i b B;have e:=(S.lv i).free A;cases b with
 |false=>
  refine AB λJ=>Ax r λY V=>?_;replace e:=V▸ e;refine AK e λm j=>J (Xfp Y j (λd l T=>?_) (PA C O O.ek));haveI I:(φ.slots i).Dx d v:=rL V (AG _ l (by simp));refine k d _ (rL V T) I (S.wrote C O A (v:=v) (rL V T) (λD y t q u=>?_) λa q=>by replace q:=V▸ q;cases q);replace q:=V▸ q;cases q;exact(Kt u j)▸ l
 |true=>
  refine AB λJ=>Ax r λY w=>AJ w λa V f=>?_;replace e:=f▸ e;refine AK e λo h=>J ?_;have fin:=λd g T=>
   k d s.toks (rL f T) (rL f g) (S.wrote C O A (rL f T) (λD y m q=>by replace q:=f▸ q;cases q) λp q=>by replace q:=f▸ q;cases q;exact g)
  rcases Y with Y|⟨Y,_⟩
  ·exact wpAny_storeName_cell O.ek Y V h fin
  ·exact storeName_free O.ek Y V h fin
theorem Dz(h:Bb np x l=true):l.on:=by
 cases l<;>first|exact trivial|exact fT h
theorem F8{σ:St}(H:σ.at i≠.O):∀j,St.at (σ.set i .O) j=if j=i then .O else σ.at j:=λj=>by
 refine rL FN ?_;by_cases e:j=i
 ·exact rL (Xck ⟨e,FL H⟩) (rL (Xck e) rfl)
 ·exact rL (Xcm λq=>e q.1) (rL (Xcm e) rfl)
theorem FA(L:Aw Γ N φ)(B:Γ.lookup x=some (i,b))(S:AF c φ W σ M s.heap)(A:(σ.at i).on)(h:Iv c φ W s.heap y v)
  (k:∀g,BJ c φ W M s (σ.set i (.V y)) W g->Q () g):wpAny (Mo c) φ.A (storeName φ.env x v) Q E s:=by
 refine Vg C O L B S A λm p T I z=>k _ ⟨(AX rfl rfl rfl),(AH (Ch.sameBut T (S.sw i)) λU q=> .inl q),?_⟩;haveI H:=LV.IT A;haveI a:=AZ.mono (λb o d e=>(AH ((T.2 b λq=>d (.inr (q▸ S.sw i))).trans e) d)) y h;haveI P:=z.put (l:= .V y) (rL Xem (FL H)) (rL (F8 C O H ..) (rL (Xck rfl ..) rfl)) (λU U=>rfl) (AG v I a)
  (λU j G f=>?_) λq=>q.elim
 ·rwa [Xhd]at P
 ·rw[F8 C O H,Xcm G]at f;exact(AH (S.sa i j (Ne.symm G) A f) (S.sa j i G f A))
theorem Vf(L:Aw Γ N φ)(w:Γ.lookup x=some (i,b))(S:AF c φ W σ M s.heap)(A:(σ.at i).on)(m:φ.np<=i)(u:DW c φ W σ M s.heap (.M o) v)
  (k:∀d,HH c φ W M s (σ.set i (.N o)) d->Q () d):wpAny (Mo c) φ.A (storeName φ.env x v) Q E s:=by
 refine AB λJ=>?_;obtain⟨a,rfl,B,t,Y,T,p,r,D⟩:=u;refine J (Vg C O L w S A λy tk g I z=>k _ (BM W (λj=>if j=i then [a]else M j) ⟨⟨rfl,rfl,rfl⟩,⟨Ch.sameBut g (S.sw i),λU q=> .inl q⟩,?_,λj G=>Xcm (Xdb (Xdg G m))⟩));haveI H:=LV.IT A;haveI h:=t.mono C λb V hb e=>by
  refine(AH ((g.2 b λq=>?_).trans e) id);rcases hb with hb|hb
  ·exact hb (.inr (q▸ S.sw i))
  ·rw[Xcc.mp hb]at q;exact T i q.symm
 haveI P:=z.NN (l:= .N o) (rL Xem (FL H)) (rL (F8 C O H ..) (rL (Xck rfl ..) rfl)) [a] (AX I (λb hb=>rL (Xcc.mp hb) B) h)
  (λU j G f=>?_) λU=>?_
 ·rwa [Xhd]at P
 ·rw[F8 C O H,Xcm G]at f;exact(AH (S.sa i j (Ne.symm G) A f) (S.sa j i G f A))
 ·refine(DR (λj q=>T j (Xcc.mp q)) (λj G b hb q=>?_) (λq=>?_) λb hb=>?_)
  ·rw[F8 C O H]at G;by_cases e:j=i
   ·rw[Xck e]at G;exact G.elim
   ·rw[Xcm e]at G;rw[Xcc.mp hb]at q;exact Y j G q
  ·exact Xdb p (Xcc.mp q)
  ·exact(Xcc.mp hb)▸ r
end
structure Lm(c:Cx)(φ:Fm)(W:Addr->Prop)(h:Heap)(I:Addr)(xs:List Val)(fp:List Addr)(P:Nat->Value->Prop)(St:Nat->Heap->Prop):Prop where
 walks:Walks c.prog c.w φ.A I fp [I] xs.length P St
 PB:∀b∈fp,b≠I->¬Ex φ W b/\∃o,h.get? b=some o
 live:∀i h',St i h'->∃o,h'.get? I=some o
 st:St 0 h
 val:∀i x v,xs[i]? =some x->P i v->∀M' h',(∀b o,b≠I->¬Ex φ W b->h.get? b=some o->h'.get? b=some o/\¬M' b)->AZ (c.prog,c.w) c.fl M' h' x v
 go:∀i x v elts k pos s Q E,xs[i]? =some (.T x)->P i v->St (i+1) s.heap->Q () s->wpAny (Mo c) φ.A (letOwnedTupleGo (.Tuple elts k pos) (.ref I) v) Q E s
theorem Lm.to{I:Addr}{t:List Addr}{St:Nat->Heap->Prop}(x:Lm c φ W h I xs t P St)(eA:AD.A=φ.A)
  (j:∀b o,b≠I->h.get? b=some o->¬Ex φ W b->¬Ex AD W' b) (f:∀b o,h.get? b=some o->h'.get? b=some o):Lm c AD W' h' I xs t P St where
 walks:=eA▸ x.walks
 PB:=λb a g=>let⟨q,o,e⟩:=x.PB b a g;⟨j b o g e q,o,f b o e⟩
 live:=x.live
 st:=x.walks.frame _ _ _ x.st λb w o e=>f b o e
 val:=λi y v p l k d m=>x.val i y v p l k d λb o a r e=>m b o a (j b o a e r) (f b o e)
 go:=eA▸ x.go
def OG(c:Cx)(φ:Fm)(W:Addr->Prop)(h:Heap)(I:Addr)(xs:List Val):Prop:=∃t P St,Lm c φ W h I xs t P St
section
variable {c:Cx}(C:c.Ok){φ:Fm}{n:Nat}(O:AU φ n){W:Addr->Prop}{σ:St}{AE:Nat->List Addr}{s:Shared}(S:AF c φ W σ AE s.heap){E:Value->Shared->Prop}{u v:Value}
include C O S
set_option tactic.hygienic true in
theorem sj(H:Ed x=some xs)(B:Iv c φ W s.heap x u)
  (k:∀o:Obj,o.isFreed=false->OG c φ W (s.heap.push o) s.heap.objs.size xs->Q (.ref s.heap.objs.size) {s with heap:=s.heap.push o}):wpAny (Mo c) φ.A (pyIter u) Q E s:=by
 cases x<;>try(exact nS H)
 ·cases H;obtain⟨a,p,m,rfl,I,g,hl,r⟩:=B;have y:=r.length;have l:a≠s.heap.objs.size:=λq=>by replace g:=Bg▸ q▸ g;exact nS g
  refine wpAny_pyIter_list (GC g) (k _ rfl (Cf [s.heap.objs.size,a] (λi v=>p.toArray[i]? =some v) (λi h=>h.IsListIter s.heap.objs.size a i/\h.IsList a p.toArray) ⟨by haveI:=Walks.list (prog:=c.prog) (w:=c.w) O.hand s.heap.objs.size a l p.toArray;rwa [show p.toArray.size=xs.length from by exact rL Xcx (rL y rfl)]at this,?_,?_,⟨⟨_,Xcn _ rfl,rfl,rfl⟩,(GC g).push _⟩,?_,?_⟩))
  ·intro b V U;simp only[Xcs,Xcu,Xe2]at V;rcases V with rfl|rfl
   ·exact absurd rfl U
   ·exact(AH I (AN _ (Xcf _ g)))
  ·rintro i z ⟨⟨o,q,_⟩,_⟩;exact(AN o q)
  ·intro i x v B H M' z J;refine AJ (r.get B) λw Y T=>?_;have:v=w:=by replace H:=Xgq▸ H;replace H:=Y▸ H;exact(Xcl H).symm
   subst this;exact AZ.mono (λb o nb e=>J b o (λq=>nH q Bg e) nb (Xcf _ e)) x T
  ·intro i x v d J M s' Q' E' B H st hQ;refine AJ (r.get B) λw Y T=>?_;haveI:v=w:=by replace H:=Xgq▸ H;replace H:=Y▸ H;exact(Xcl H).symm
   clear H Y;subst this;obtain⟨b,_,_,rfl,_⟩:=T;exact wpAny_letOwnedTupleGo_listiter st.1 hQ
 ·change(if _ then some _ else none)=some xs at H
  split at H
  ·obtain rfl:=Xcl H;rename_i ks ys A;obtain⟨a,j,rfl,I,g,L,hm,r⟩:=B;refine R4 (id g) λo es f N e2 e3 e4=>?_;have D:s.heap.DictAt (PySem.strKind c.prog c.w) a j f:=(Xa4 o es N e2 e3 e4);haveI l:a≠s.heap.objs.size:=λq=>nH q Bg N;refine wpAny_pyIter_dict (by simpa using hm) D (k _ rfl (Cf [s.heap.objs.size,a] (λi v=>∃k x,j[i]? =some (k,x)/\(PySem.strKind c.prog c.w).is k v=true) (λi h=>h.IsKeyIter s.heap.objs.size a i j.length f/\h.DictAt (PySem.strKind c.prog c.w) a j f) ⟨by haveI:=Walks.dictKeys (knd:=PySem.strKind c.prog c.w) O.hand s.heap.objs.size a l j f;rwa [show(ks.map Val.str).length=j.length from by exact rL (EN ..) (rR (L ..) (rL (EN ..) rfl))],?_,?_,⟨⟨_,Xcn _ rfl,rfl,rfl⟩,⟨o,es,Xcf _ N,e2,e3,e4⟩⟩,?_,?_⟩))
   ·intro b V U;simp only[Xcs,Xcu,Xe2]at V;clear g hm D l;rcases V with rfl|rfl
    ·exact absurd rfl U
    ·exact(AH I (AN _ (Xcf _ N)))
   ·rintro i z ⟨⟨o,q,_⟩,_⟩;exact(AN o q)
   ·rintro i x v B ⟨G,x',Y,T⟩ M' z J;haveI:x= .str G:=by replace B:=Y▸ Xdy▸ L▸ Xdy▸ B;exact(Xcl B).symm
    subst this;refine AK (Value.isStrOf_shape T) λt ht=>And.intro (AN t ht) ?_;haveI:G∈ks:=L▸ Xc3 (Xc0 Y);simpa using(Xce.mp A) G this
   ·rintro i x v d J M s' Q' E' B ⟨G,x',Y,T⟩ st hQ;exfalso;replace B:=Y▸ Xdy▸ L▸ Xdy▸ B;simp at B
  ·exact nS H
theorem sq(hi: -100000<=i/\i<=100000)
  (k:∀o o' tk,o.isFreed=false->o'.isFreed=false->OG c φ W ((s.heap.push o).push o') (s.heap.objs.size+1) (DO i)->Q (.ref (s.heap.objs.size+1)) {s with heap:=(s.heap.push o).push o',toks:=tk}):
  wpAny (Mo c) φ.A (call (.type "range") [.int i t]) (λr s'=>wpAny (Mo c) φ.A (pyIter r) Q E s') E s:=by
 refine call_range_1 ?_;haveI hs:Builtin.Range.rangeSize 0 i 1=i.toNat:=by refine rL (rangeSize_one ..) ?_;split<;>lia
 haveI hR:IsRange (s.heap.push {cls:= .type "range",data:= .fields #[.int 0 s.toks,.int i t,.int 1 (s.toks+1)]}) s.heap.objs.size 0 i 1 s.toks t (s.toks+1):=IsRange.new _ _ _ _ _ _ _;by_cases HT:Builtin.Range.small 0 i 1=true
 ·refine wpAny_pyIter_range hR HT (rL (Xd0 ..) ?_);haveI hn:(DO i).length=i.toNat:=by simp[DO]
  haveI KZ:=Xcn (s.heap.push {cls:= .type "range",data:= .fields #[.int 0 s.toks,.int i t,.int 1 (s.toks+1)]}) (o:={cls:= .type "range_iterator",data:= .fields #[rawInt 0,rawInt (Builtin.Range.rangeSize 0 i 1),rawInt 1]}) rfl;rw[Xd0]at KZ;refine k _ _ _ rfl rfl (Cf [s.heap.objs.size+1] _ _ ⟨(by haveI:=Walks.range (prog:=c.prog) (w:=c.w) O.hand (s.heap.objs.size+1) 0 1 i.toNat;rwa [<-hn]at this),?_,?_,?_,?_,?_⟩)
  ·intro b hb HR;exact absurd (Xcc.mp hb) HR
  ·intro j h' q;exact(AN _ q)
  ·show IsRangeIter _ _ _ _ _;rw[hs]at KZ;refine rL hn (rL (show 0+((0:Nat):Int)*1=0 from rfl) (rL (show i.toNat - (0:Nat)=(i.toNat:Int)from by lia) (rL hs ?_)));exact KZ
  ·rintro j x v hx ⟨t',rfl⟩ M' h' kk;unfold DO at hx;replace hx:=Xdy▸ hx;cases hj:(List.range i.toNat)[j]? with
   |none=>replace hx:=hj▸ hx;exact nS hx
   |some m=>
    replace hx:=hj▸ hx;have:m=j:=by haveI:=Xc8.mp hj;obtain⟨q1,q2⟩:=this;simpa using q2.symm
    subst this;cases Xcl hx;exact(AN t' (by simp))
  ·rintro j x v elts kk pos s' Q' E' hx _ _ _;exfalso;unfold DO at hx;replace hx:=Xdy▸ hx;cases hj:(List.range i.toNat)[j]? with
   |none=>replace hx:=hj▸ hx;exact nS hx
   |some m=>replace hx:=hj▸ hx;exact nomatch hx
 ·exfalso;apply HT;unfold Builtin.Range.small Builtin.Range.rangeFitsLong;refine rL hs ?_;simp
  lia
end
abbrev BB(W Z:Addr->Prop):Addr->Prop:=λb=>W b\/Z b
structure LC(c:Cx)(φ AD:Fm)(n:Nat)(Z:Addr->Prop)(I:Addr)(B9:Addr->Prop)(h₀:Heap)(xs:List Val)(fp:List Addr)(P:Nat->Value->Prop)(St:Nat->Heap->Prop):Prop where
 O:AU φ n
 O':AU AD n
 eo:AD.outer=φ.outer
 eL:AD.L=φ.L
 ef:AD.Cm=φ.Cm
 eA:AD.A=φ.A
 mz:∀b,AD.CZ b ↔ φ.CZ b\/Z b
 zI:Z I
 nF:∀b,Z b->¬φ.F b/\c.base.get? b=none
 zM:∀b,Z b->¬φ.CZ b
 src:Lm c AD B9 h₀ I xs fp P St
theorem Nx.plus(x:Nx F W h W' h'):Nx F (BB W Z) h (BB W' Z) h':=
 ⟨x.1.weaken (λb q=> .inl q) λb b q=>q,λa q=>q.elim (λq=>(x.2 a q).imp .inl id) λq=> .inl (.inr q)⟩
theorem Nx.at(k:∀b o,¬Z b->h.get? b=some o->h'.get? b=some o):Nx F (BB W Z) h (BB W Z) h':=
 ⟨.of λb o a e=>k b o (λq=>a (.inr q)) e,λd q=> .inl q⟩
section
variable {c:Cx}(C:c.Ok){φ AD:Fm}{n:Nat}{Z:Addr->Prop}{I:Addr}{B9:Addr->Prop}{h₀:Heap}{xs:List Val}{fp:List Addr}{P:Nat->Value->Prop}{St:Nat->Heap->Prop}
include C
theorem LC.F(L:LC c φ AD n Z I B9 h₀ xs fp P St)(b:Addr):AD.F b ↔ φ.F b:=by unfold Fm.F;rw[L.eo]
theorem LC.frame(L:LC c φ AD n Z I B9 h₀ xs fp P St)(N:Nx AD.F (BB B9 Z) h₀ (BB W Z) h)(S:AF c AD W σ AE h)(x:Nx AD.F W h W' h')(st:St i h):St i h':=by
 refine L.src.walks.frame i h h' st λb g o e=>?_;by_cases q:b=I
 ·subst q;exact(x.1 b o (S.MW b ((L.mz b).mpr (.inr L.zI))) e).1 λf=>(L.nF b L.zI).1 ((L.F C b).mp f)
 ·refine Ax (L.src.PB b g q) λd a=>AK a λs k=>(x.1 b o (λw=>?_) e).1 λf=>d (.inl (L.O'.FM b f));rcases N.2 b (.inl w)with(r|r)|r
  ·exact d (.inr r)
  ·exact d (.inl ((L.mz b).mpr (.inr r)))
  ·rw[k]at r;exact sN r
theorem LC.item(L:LC c φ AD n Z I B9 h₀ xs fp P St)(N:Nx AD.F (BB B9 Z) h₀ (BB W Z) s.heap)(S:AF c AD W σ AE s.heap)(st:St i s.heap)(u:xs[i]? =some x)
  (k:∀v l,B4 s l->Nx AD.F (BB B9 Z) h₀ (BB W Z) l.heap->(∀b o,b≠I->s.heap.get? b=some o->l.heap.get? b=some o)->AF c AD W σ AE l.heap->St (i+1) l.heap->Iv c AD W l.heap x v->P i v->Q (some v) l):
  wpAny (Mo c) AD.A (pyNext (.ref I)) Q E s:=by
 refine L.src.walks.item i s Q E (Xc8.mp u).1 st λv p tk t g y=>?_;have a:∀b o,b≠I->s.heap.get? b=some o->p.get? b=some o:=λb o j e=>y b o (λq=>j (Xcc.mp q)) e;haveI z:AF c AD W σ AE p:=by
  refine S.N8 C L.O' (X:=λb=>b=I) rfl rfl rfl rfl (λb q=>q▸ (AX ((L.mz I).mpr (.inr L.zI)) (λf=>(L.nF I L.zI).1 ((L.F C I).mp f)) ((L.nF I L.zI).2))) a (λm m m q=>q) S.off S.sw S.Bc S.LW S.tW S.MW λb j=>AK (S.MA b j) λo e=>?_;by_cases q:b=I
  ·exact q▸ L.src.live _ _ g
  ·exact(AN o (a b o q e))
 have h:=N.trans (.at λb o nz e=>a b o (λq=>nz (q▸ L.zI)) e);refine k v _ (AX rfl rfl rfl) h a z g (L.src.val i x v u t _ _ λb o m d e=>?_) t;have w:=λq=>d (.inl ((L.mz b).mpr (.inr q)));haveI nF:=λq=>d (.inl (L.O'.FM b q));refine(AH ((h.1 b o (λq=>q.elim (λq=>d (.inr q)) w) e).1 nF) λq=>?_);rcases q with q|q
 ·exact d (.inl q)
 ·rcases h.2 b (.inl q)with(r|r)|r
  ·exact d (.inr r)
  ·exact w r
  ·replace r:=e▸ r;exact sN r
theorem LC.fin(L:LC c φ AD n Z I B9 h₀ xs fp P St)(N:Nx AD.F (BB B9 Z) h₀ (BB W Z) s.heap)(S:AF c AD W σ AE s.heap)(st:St xs.length s.heap)
  (k:∀l,B4 s l->Nx AD.F (BB B9 Z) h₀ (BB W Z) l.heap->(∀b o,b≠I->s.heap.get? b=some o->l.heap.get? b=some o)->Q none l):wpAny (Mo c) AD.A (pyNext (.ref I)) Q E s:=by refine L.src.walks.done s Q E st λd i g=>?_;have a:∀b o,b≠I->s.heap.get? b=some o->d.get? b=some o:=λb o f e=>g b o (λq=>f (Xcc.mp q)) e;exact k _ (AX rfl rfl rfl) (N.trans (.at λb o h e=>a b o (λq=>h (q▸ L.zI)) e)) a
theorem LC.exit(L:LC c φ AD n Z I B9 h₀ xs fp P St)(N:Nx AD.F (BB B9 Z) h₀ (BB W Z) h)(S:AF c AD W σ AE h)(t:∀i,(σ.at i).on->φ.slots i=AD.slots i)(g:∀i,φ.slots i=AD.slots i\/(φ.slots i).at=φ.L)
  (p:∀b o,b≠I->h.get? b=some o->h'.get? b=some o) (l:∀b,V b->Z b):AF c φ (BB W V) σ AE h':=by
 haveI u:∀{b:Addr},W b->b≠I:=λw q=>S.MW I ((L.mz I).mpr (.inr L.zI)) (q▸ w);have s:∀i,W (φ.slots i).at:=λi=>by
  rcases g i with q|q
  ·exact rL q (S.sw i)
  ·exact rL q (rR L.eL S.LW)
 haveI sA:∀i,∃o,h'.get? (φ.slots i).at=some o:=λi=>by
  haveI:∃o,h.get? (φ.slots i).at=some o:=by
   rcases g i with q|q
   ·exact rL q (S.al i)
   ·exact rL q (rR L.eL (AK S.LN λ_ m=>Aj m λo _ _ z _=>⟨o,z⟩))
  exact AK this λo q=>⟨o,p _ o (u (s i)) q⟩
 haveI v:∀i j,(σ.at j).Az->(φ.slots i).at∉AE j:=λi j k=>by
  rcases g i with q|q
  ·exact rL q (S.so i j k)
  ·exact rL q (rR L.eL (S.Lo j k))
 haveI x:∀i,¬c.tb (φ.slots i).at:=λi=>by
  rcases g i with q|q
  ·exact rL q (S.ts i)
  ·exact rL q (rR L.eL S.tL)
 refine S.move C L.O' (X:=λb=>b=I) L.eL.symm L.ef.symm L.eo.symm t sA v x (λb q=>q▸ (AX ((L.mz I).mpr (.inr L.zI)) (λf=>(L.nF I L.zI).1 ((L.F C I).mp f)) ((L.nF I L.zI).2))) p
  (λb o e r q=>?_) (λb q=>q.elim (S.off b) λq=>(L.nF b (l b q)).2) (λi=> .inl (s i)) (λj k b d=> .inl (S.Bc j k b d)) (.inl S.LW) (λa ha=> .inl (S.tW a ha)) (λb d q=>?_) λb d=>?_
 ·rcases q with q|q|q
  ·exact r (.inl ((L.mz b).mpr (.inl q)))
  ·exact r (.inr q)
  ·exact r (.inl ((L.mz b).mpr (.inr (l b q))))
 ·rcases q with q|q
  ·exact S.MW b ((L.mz b).mpr (.inl d)) q
  ·exact L.zM b (l b q) d
 ·exact AK (S.MA b ((L.mz b).mpr (.inl d))) λo e=>⟨o,p b o (λq=>L.zM I L.zI (q▸ d)) e⟩
end
theorem Nx.shrink(x:Nx F W h W' h')(k:∀b,d b->W' b):Nx F W h d h':=⟨x.1,λa q=>x.2 a (k a q)⟩
def WL(c:Cx)(φ:Fm)(W:Addr->Prop)(σ:St)(M:Nat->List Addr)(h:Heap):FR->Flow->Prop
 | .next,f=>f= .next
 | .ret r,f=>∃v,f= .ret v/\DW c φ W σ M h r v
structure XP(c:Cx)(φ:Fm)(W:Addr->Prop)(AE:Nat->List Addr)(s:Shared)(fr:FR)(A0:St)(f:Flow)(s':Shared)(W':Addr->Prop)(E4:Nat->List Addr):Prop where
 sm:B4 s s'
 nx:Nx φ.F W s.heap W' s'.heap
 S:AF c φ W' A0 E4 s'.heap
 k:∀i,i<φ.np->E4 i=AE i
 fl:WL c φ W' A0 E4 s'.heap fr f
def Fx(c:Cx)(φ:Fm)(W:Addr->Prop)(M:Nat->List Addr)(s:Shared)(fr:FR)(A0:St)(f:Flow)(l:Shared):Prop:=
 ∃a u,XP c φ W M s fr A0 f l a u
def BP(c:Cx)(φ:Fm)(t:Sem Flow)(σ:St)(fr:FR)(A0:St):Prop:=
 ∀W M s E,AF c φ W σ M s.heap->wpAny (Mo c) φ.A t (Fx c φ W M s fr A0) E s
theorem DW.out(C:c.Ok)(x:DW c AD W σ AE h r v)(s:∀b,φ.CZ b->AD.CZ b)(f:AD.L=φ.L)(g:φ.slots=AD.slots):DW c φ W σ AE h r v:=by
 cases r with
 |V y=>exact AZ.mono (λb o d e=>⟨e,λq=>d (q.imp (s b) id)⟩) y x
 |M o=>
  obtain⟨a,rfl,u,t,j,k,l,m,p⟩:=x;exact⟨a,rfl,u,t.mono C λb o w e=>⟨e,λd q=>d (q.imp (s b) id)⟩,j,λi=>by refine rL g ?_;exact k i,f▸ l,m,p⟩
inductive LX(c:Cx)(φ:Fm)(Z B9:Addr->Prop)(AE:Nat->List Addr)(s:Shared)(fr:FR)(A0:Mine.St)(f:Flow)(s':Shared)(W:Addr->Prop)(E4:Nat->List Addr):Prop
 |mk (sm:B4 s s')(nx:Nx φ.F (BB B9 Z) s.heap (BB W Z) s'.heap)(S:AF c φ W A0 E4 s'.heap)(k:∀i,i<φ.np->E4 i=AE i)(fl:WL c φ W A0 E4 s'.heap fr f)
inductive LI(c:Cx)(φ AD:Fm)(Z B9:Addr->Prop)(AE:Nat->List Addr)(s:Shared)(xs:List Val)(step:Val->Mine.St->Option (FR×Mine.St))(St:Nat->Heap->Prop)(fr:FR)(A0:Mine.St)(m:Nat)(BL:Shared)(i:Nat)(AA:Mine.St)(W:Addr->Prop)(JB:Nat->List Addr):Prop
 |mk (sm:B4 s BL)(nx:Nx AD.F (BB B9 Z) s.heap (BB W Z) BL.heap)(S:AF c AD W AA JB BL.heap)(k:∀i,i<φ.np->JB i=AE i)(st:St i BL.heap)(e:Em step (xs.drop i) AA=some (fr,A0))(m:m=xs.length+1 - i)(l:i<=xs.length)
theorem lI{step:Val->St->Option (FR×St)}(h:Em step (x::xs) σ=some (fr,A0)):∃a AA,step x σ=some (a,AA)/\(a= .next/\Em step xs AA=some (fr,A0)\/∃r,a= .ret r/\fr= .ret r/\A0=AA):=by
 have h:(match step x σ with|some (.next,AA)=>Em step xs AA|some (.ret r,AA)=>some (.ret r,AA)|none=>none)=some (fr,A0):=h;cases e:step x σ with
 |none=>replace h:=e▸ h;exact nS h
 |some p=>
  replace h:=e▸ h;clear e;obtain⟨a,AA⟩:=p;cases a with
  |next=>exact(Di _ _ rfl (.inl ⟨rfl,h⟩))
  |ret r=>exact(Di _ _ rfl (.inr ⟨r,rfl,(sP h).1.symm,(sP h).2.symm⟩))
theorem vI{m o l:Type}{M:Model}{A:Around}{a:Sem m}{b:Sem o}{d:Sem l}{Q Q':l->Shared->Prop}{E:Value->Shared->Prop}(T:wpAny M A a (λU e=>wpAny M A b (λU g=>wpAny M A d Q E g) E e) E s)(k:∀f s,Q f s->Q' f s):wpAny M A a (λU e=>wpAny M A b (λU g=>wpAny M A d Q' E g) E e) E s:=
 Xcv T (λU w h=>Xcv h (λU j i=>Xcv i k λU U x=>x) λU U x=>x) λU U x=>x
section
variable {c:Cx}(C:c.Ok){φ AD:Fm}{n:Nat}{Z:Addr->Prop}{I:Addr}{B9:Addr->Prop}{xs:List Val}{fp:List Addr}{P:Nat->Value->Prop}{St:Nat->Heap->Prop}
include C
set_option tactic.hygienic true in
theorem nI(L:LC c φ AD n Z I B9 s.heap xs fp P St)(ee:AD.env=φ.env)(en:AD.np=φ.np)(es:AD.slots=φ.slots){step:Val->Mine.St->Option (FR×Mine.St)}
  (turn:∀x σ fr A0,step x σ=some (fr,A0)->∀W M s v E,AF c AD W σ M s.heap->Iv c AD W s.heap x v->(∀y D k pos s' Q E,x= .T y->s'.heap=s.heap->Q () s'->wpAny (Mo c) AD.A (letOwnedTupleGo (.Tuple D k pos) (.ref I) v) Q E s')->
   wpAny (Mo c) AD.A (letOwnedTupleGo w (.ref I) v) (λU l=>wpAny (Mo c) AD.A (assign w AD.env v) (λU u=>wpAny (Mo c) AD.A (execs body AD.env) (Fx c AD W M s fr A0) E u) E l) E s) {fr:FR} (IE:Em step xs σ=some (fr,A0)) (S:AF c AD B9 σ M s.heap)
  (hR:∀f s',(∃W E4,LX c φ Z B9 M s fr A0 f s' W E4)->R (.ok f) s'):
  codeAny (Mo c) φ.A (.forLoop w (.ref I) body [] φ.env) R s:=by
 have eF:AD.F=φ.F:=by funext b;exact propext (L.F C b)
 refine rR L.eA (rR ee ?_);have fO:∀{W:Addr->Prop}{σ:Mine.St}{M:Nat->List Addr}{h h':Heap},Nx AD.F (BB B9 Z) s.heap (BB W Z) h->AF c AD W σ M h->(∀b o,b≠I->h.get? b=some o->h'.get? b=some o)->AF c φ W σ M h':=λN S kk=>by haveI:=L.exit C N S (λi U=>rL es rfl) (λi=> .inl (rL es rfl)) kk (V:=λU=>False) λU q=>q.elim;rename_i W' _ _ _ _;haveI e:BB W' (λU=>False)=W':=funext λb=>propext ⟨λq=>q.elim id False.elim,.inl⟩;rwa [e]at this
 refine codeAny_forLoop_any (λm l=>∃i B W z,LI c φ AD Z B9 M s xs step St fr A0 m l i B W z)
  (λm l hI=>Gh λRb RH hQ=>?_) (xs.length+1) (DA 0 σ B9 M ⟨.refl,.refl,S,λU U=>rfl,L.src.st,IE,rfl,Xdd _⟩)
 refine AB λkk=>Dw hI λi B W z Ap=>?_;obtain⟨sm,N,A,hk,st,a,hm,hi⟩:=Ap;rcases Xfm hi with DK|Mf
 ·haveI hx:=Xdw DK;replace a:=(Xen DK)▸ a;refine Ce (lI a) λnR G Gj he=>kk (L.item C N A st hx λv u t d Xby J Y Lr hP=>hQ _ _ (vI (turn xs[i] B nR G Gj W z u v _ J Lr λy D k pos s' Q E e1 e2 hQ=>L.src.go i y v D k pos s' Q E (e1▸ hx) hP (e2▸ Y) hQ) λf zi p=>AB λkk=>B8 p λT g Ap=>?_));obtain⟨zO,H,O,qp,fl⟩:=Ap;have ZN:=λj hj=>(qp j (en.symm▸ hj)).trans (hk j hj);have Nb:=(sm.trans t).trans zO;have NT:=d.trans H.plus;rcases he with⟨h1,h2⟩|⟨r,h1,h2,h3⟩
  ·replace fl:=h1▸ fl;cases fl;exact kk (AG _ (rL hm (Nat.sub_lt_sub_left (Xgl hi) (Xe6 i))) (DA (i+1) G T g ⟨Nb,NT,O,ZN,L.frame C d J H Y,h2,rfl,DK⟩))
  ·replace fl:=h1▸ fl;refine AJ fl λv' BV hr=>?_;obtain rfl:=BV;exact kk (hR _ _ (BM T g ⟨Nb,eF▸ NT,h3▸ fO NT O λU U U e=>e,ZN,by exact rL h2 (rL h3 ⟨v',rfl,hr.out C (λb q=>(L.mz b).mpr (.inl q)) L.eL es.symm⟩)⟩))
 ·replace a:=List.drop_length▸ Mf▸ a;haveI q:=sP (show some (FR.next,B)=some (fr,A0)from a);exact kk (L.fin C N A (Mf▸ st) λu t d k₂=>hQ _ _ (Xdm (hR _ _ (BM W z ⟨sm.trans t,eF▸ d,q.2▸ fO N A k₂,hk,by refine rR q.1 ?_;rfl⟩))))
end
inductive CJ(c:Cx)(AD:Fm)(Z:Addr->Prop)(B9:Addr->Prop)(B0:Shared)(acc:Addr)(AE:Nat->List Addr)(xs:List Val)(step:Val->St->Option (Option Val×St))(St:Nat->Heap->Prop)(total:List Val)(A0:Mine.St)(m:Nat)(s:Shared)(i:Nat)(σ:Mine.St)(W:Addr->Prop)(ys:List Val)(vs:List Value)(k:Nat):Prop
 |mk (sm:B4 B0 s)(nx:Nx AD.F (BB B9 Z) B0.heap (BB W Z) s.heap)(S:AF c AD W σ AE s.heap)(st:St i s.heap)(g:s.heap.get? acc=some (listOf (List.toArray vs) k))(r:Dl c AD W s.heap ys vs)(e:∃zs,DJ step (xs.drop i) σ=some (zs,A0)/\ys++zs=total)(m:m=xs.length+1 - i)(l:i<=xs.length)(y:ys.length<=i)
def Js(c:Cx)(AD:Fm)(Z:Addr->Prop)(B9:Addr->Prop)(z:Shared)(acc:Addr)(M:Nat->List Addr)(xs:List Val)(step:Val->St->Option (Option Val×St))(St:Nat->Heap->Prop)(Y:List Val)(A0:Mine.St)(m:Nat)(s:Shared):Prop:=
 ∃i a W Q p k,CJ c AD Z B9 z acc M xs step St Y A0 m s i a W Q p k
section
variable {c:Cx}(C:c.Ok){φ AD:Fm}{n:Nat}{Z:Addr->Prop}{I acc:Addr}{B9:Addr->Prop}{xs:List Val}{fp:List Addr}{P:Nat->Value->Prop}{St:Nat->Heap->Prop}
include C
theorem kI{z:Shared}(L:LC c φ AD n Z I B9 z.heap xs fp P St)(v:Z acc)(t:acc≠I)(p:acc∉fp)(x:xs.length<=1000000)
  (N:Nx AD.F (BB B9 Z) z.heap (BB W Z) s.heap) (S:AF c AD W σ M s.heap) (st:St i s.heap) (T:s.heap.get? acc=some (listOf (List.toArray vs) k)) (h:Dl c AD W s.heap ys vs) (A:Iv c AD W s.heap y u) (w:ys.length<=1000000) {Q:Shared->Prop}
  (J:∀l,B4 s l->Nx AD.F (BB B9 Z) z.heap (BB W Z) l.heap->AF c AD W σ M l.heap->St i l.heap->l.heap.get? acc=some (listOf (List.toArray (vs++[u])) (k+1))->Dl c AD W l.heap (ys++[y]) (vs++[u])->Q l):
  wpAny (Mo c) AD.A (call (.builtin "list.append") [.ref acc,u]) (λU l=>Q l) E s:=by
 haveI d:=h.length;refine append_at T (λr B Y=>?_) (rL Xcx (rL Xc9 (lin [vs.length,ys.length] 0x2d90510000000004d3f6845890000000009000007801 rfl w (Xcg d))));have g:∀b o,b≠acc->s.heap.get? b=some o->r.get? b=some o:=λb o V e=>(B.2 b V).trans e;have j:∀b,¬Ex AD W b->b≠acc:=λb a q=>a (.inl ((L.mz b).mpr (.inr (q▸ v))));have m:r.get? acc=some (listOf (List.toArray (vs++[u])) (k+1)):=by refine rL Y ?_;simp[PySem.W.listOf]
 refine J _ (AX rfl rfl rfl) (N.trans (.at λb o D e=>g b o (λq=>D (q▸ v)) e)) ?_ ?_ m ?_
 ·refine S.N8 C L.O' (X:=λb=>b=acc) rfl rfl rfl rfl (λb q=>q▸ (AX ((L.mz acc).mpr (.inr v)) (λf=>(L.nF acc v).1 ((L.F C acc).mp f)) ((L.nF acc v).2))) g (λU U U q=>q) S.off S.sw S.Bc S.LW S.tW S.MW λb V=>?_;by_cases q:b=acc
  ·exact q▸ (AN _ m)
  ·exact AK (S.MA b V) λo e=>(AN o (g b o q e))
 ·exact L.src.walks.frame _ _ _ st λb V o e=>g b o (λq=>p (q▸ V)) e
 ·exact AO.append (AO.mono (λb o a e=>(AH (g b o (j b a) e) a)) _ h) (.one (AZ.mono (λb o a e=>(AH (g b o (j b a) e) a)) _ A))
variable {elt target iter:PySem.Expr}{scope:Scope}{pos:Pos}
def FH(c:Cx)(AD:Fm)(I:Addr)(target:PySem.Expr)(step:Val->Mine.St->Option (Option Val×Mine.St))(f:(Option Value->Shared->Prop)->(Value->Shared->Prop)->Shared->Prop):Prop:=
 ∀x e r o,step x e=some (r,o)->∀W M s v E K,AF c AD W e M s.heap->Iv c AD W s.heap x v->
  (∀y D k pos l Q E,x= .T y->l.heap=s.heap->Q () l->wpAny (Mo c) AD.A (letOwnedTupleGo (.Tuple D k pos) (.ref I) v) Q E l)->
  (∀b l,BJ c AD W M s o b l->match r with|some y=>∀u,Iv c AD b l.heap y u->K (some u) l|none=>K none l)->
  wpAny (Mo c) AD.A (letOwnedTupleGo target (.ref I) v) (λU d=>wpAny (Mo c) AD.A (assign target AD.env v) (λU a=>f K E a) E d) E s
theorem lG{step:Val->Mine.St->Option (Option Val×Mine.St)}{x:Val}{xs T:List Val}{σ A0:Mine.St}(h:DJ step (x::xs) σ=some (T,A0)):∃r a H,step x σ=some (r,a)/\DJ step xs a=some (H,A0)/\T=r.toList++H:=by
 have h:(match step x σ with|some (r,B)=>(match DJ step xs B with|some (Q,a)=>some (r.toList++Q,a)|none=>none)|none=>none)=some (T,A0):=h;cases e:step x σ with
 |none=>replace h:=e▸ h;exact nS h
 |some p=>
  replace h:=e▸ h;have h:(match DJ step xs p.2 with|some (Q,a)=>some (p.1.toList++Q,a)|none=>none)=some (T,A0):=h;cases A:DJ step xs p.2 with
  |none=>replace h:=A▸ h;exact nS h
  |some q=>replace h:=A▸ h;exact(GP p.1 p.2 q.1 rfl (A.trans (rR ((sP h).2) rfl)) ((sP h).1.symm))
theorem XJ(L:LC c φ AD n Z I B9 z.heap xs fp P St)(j:Z acc)(KX:acc≠I)(Tb:acc∉fp)(EI:xs.length<=1000000){step:Val->Mine.St->Option (Option Val×Mine.St)}(turn:FH c AD I target step inner)(hI:Js c AD Z B9 z acc M xs step St Y A0 m BL){Qn:Shared->Prop}
  (fin:∀W H vs k,B4 z H->Nx AD.F (BB B9 Z) z.heap (BB W Z) H.heap->(∃g,AF c AD W A0 M g/\Nx AD.F (BB B9 Z) z.heap (BB W Z) g/\(∀b o,b≠I->g.get? b=some o->H.heap.get? b=some o)/\Dl c AD W g Y vs)->H.heap.get? acc=some (listOf (List.toArray vs) k)->Qn H):
  wpAny (Mo c) AD.A (pyNext (.ref I)) (λr a=>match r with
   |none=>Qn a
   |some v=>wpAny (Mo c) AD.A (letOwnedTupleGo target (.ref I) v) (λu0 LA=>wpAny (Mo c) AD.A (assign target AD.env v) (λu0 LF=>inner (λu J=>match u with
     |some u=>wpAny (Mo c) AD.A (call (.builtin "list.append") [.ref acc,u]) (λu0 T=>∃m',m'<m/\Js c AD Z B9 z acc M xs step St Y A0 m' T) E J
     |none=>∃m',m'<m/\Js c AD Z B9 z acc M xs step St Y A0 m' J) E LF) E LA) E a) E BL:=by
 refine Gh λRb RH hQ=>AB λkk=>Dw hI λi σ W ys Ap=>B8 Ap λvs k Kf=>?_;obtain⟨sm,N,S,st,ga,JL,⟨zs,G,ht⟩,hm,hi,Ke⟩:=Kf;haveI aM:∀{W:Addr->Prop}{h h':Heap}{W':Addr->Prop}{σ:Mine.St}{o:Obj},AF c AD W σ M h->Nx AD.F W h W' h'->h.get? acc=some o->h'.get? acc=some o:=λS x e=>
  (x.1 acc _ (S.MW acc ((L.mz acc).mpr (.inr j))) e).1 λf=>(L.nF acc j).1 ((L.F C acc).mp f)
 rcases Xfm hi with B|Mf
 ·have hx:=Xdw B;replace G:=(Xen B)▸ G;refine GO (lG C G) λr d gF Gj l hz=>?_;replace ht:=hz▸ ht;refine kk (L.item C N S st hx λv a t s w p A Lr hP=>hQ _ _ ?_);have lt:xs.length+1 - (i+1)<m:=rL hm (Nat.sub_lt_sub_left (Xgl hi) (Xe6 i));haveI V:=w acc _ KX ga;haveI D:=AO.mono (λb o nb e=>(AH (w b o (λq=>nb (.inl ((L.mz b).mpr (.inr (q▸ L.zI))))) e) nb)) _ JL;refine turn xs[i] σ r d Gj W M a v E _ p Lr (λy elts k pos H Q E e1 e2 hQ=>L.src.go i y v elts k pos H Q E (e1▸ hx) hP (e2▸ A) hQ) λW' H U=>?_;have NT:=s.trans U.nx.plus;have gT:=aM p U.nx V;have hT:=D.nx L.O' U.nx;have eT:=L.frame C s p U.nx A;have Nb:=(sm.trans t).trans U.sm;clear Gj hz;cases r with
  |none=>
   exact(AG _ lt (DA (i+1) d W' ys (BM vs k ⟨Nb,NT,U.S,eT,gT,hT,⟨gF,l,ht⟩,rfl,B,Xgm Ke⟩)))
  |some y=>
   intro u hu;exact kI C L j KX Tb EI NT U.S eT gT hT hu (lin [ys.length,xs.length,i] 0x334230783510000000004d3f6845890000000000895447801 rfl EI hi Ke) λT VR hG Lq zd oa Qz=>(AG _ lt (DA (i+1) d W' (ys++[y]) (BM (vs++[u]) (k+1) ⟨Nb.trans VR,hG,Lq,zd,oa,Qz,⟨gF,l,by exact rL (Xc7 ..) ht⟩,rfl,B,by exact rL Xci (Xh3 Ke)⟩)))
 ·replace G:=List.drop_length▸ Mf▸ G;haveI q:=sP (show some (([]:List Val),σ)=some (zs,A0)from G);rw[<-q.1,Xcz]at ht;exact kk (L.fin C N S (Mf▸ st) λa t s O=>hQ _ _ (fin W a vs k (sm.trans t) s (LQ _ (q.2▸ S) N O (ht▸ JL)) (O acc _ KX ga)))
def Kl(c:Cx)(AD:Fm)(elt:PySem.Expr)(K:Option Value->Shared->Prop)(E:Value->Shared->Prop)(s:Shared):Prop:=wpAny (Mo c) AD.A (eval elt AD.env) (λu l=>K (some u) l) E s
def Mp(c:Cx)(AD:Fm)(elt t:PySem.Expr)(K:Option Value->Shared->Prop)(E:Value->Shared->Prop)(s:Shared):Prop:=
 wpAny (Mo c) AD.A (isTrue t AD.env (eval t AD.env)) (λo l=>if o=true then wpAny (Mo c) AD.A (eval elt AD.env) (λu a=>K (some u) a) E l else K none l) E s
theorem kM(L:LC c φ AD n Z I B9 z.heap xs fp P St)(v:Z acc)(d:acc≠I)(e:acc∉fp)(V:xs.length<=1000000){step:Val->Mine.St->Option (Option Val×Mine.St)}
  (H:(ifs=[]/\FH c AD I target step (Kl c AD elt))\/∃t,ifs=[t]/\FH c AD I target step (Mp c AD elt t)) (G:DJ step xs σ=some (Y,A0)) (S:AF c AD B9 σ M z.heap) (T:∃k,z.heap.get? acc=some (listOf #[] k))
  (fin:∀W l vs k,B4 z l->Nx AD.F (BB B9 Z) z.heap (BB W Z) l.heap->(∃a,AF c AD W A0 M a/\Nx AD.F (BB B9 Z) z.heap (BB W Z) a/\(∀b o,b≠I->a.get? b=some o->l.heap.get? b=some o)/\Dl c AD W a Y vs)->l.heap.get? acc=some (listOf (List.toArray vs) k)->R (.ok .next) l):
  codeAny (Mo c) AD.A (.compLoop (.ListComp elt [⟨target,iter,ifs,0⟩] scope pos) 0 (.ref I) (.ref acc) AD.env) R z:=by
 refine AK T λk T=>?_;have Q:Js c AD Z B9 z acc M xs step St Y A0 (xs.length+1) z:=(DA 0 σ B9 [] (BM [] k ⟨.refl,.refl,S,L.src.st,T,.nil,⟨Y,G,rfl⟩,rfl,Xdd _,Xdd _⟩));rcases H with⟨rfl,H⟩|⟨t,rfl,H⟩
 ·exact kcp_loop (Js c AD Z B9 z acc M xs step St Y A0) (λm s O=>XJ C L v d e V H O fin) _ Q
 ·exact kct_loop (Js c AD Z B9 z acc M xs step St Y A0) (λm s O=>XJ C L v d e V H O fin) _ Q
end
noncomputable def Fm.plus(φ:Fm)(Z:Addr->Prop):Fm:={φ with CZ:=λb=>φ.CZ b\/Z b}
theorem AU.plus(O:AU φ n)(Z:Addr->Prop):AU (φ.plus Z) n:=⟨O.hand,O.depth,O.units,O.frames,O.fL,O.fk,O.eL,O.ek,O.eg,O.eb,λb a=> .inl (O.FM b a)⟩
theorem Aw.plus(a:Aw Γ N φ)(Z:Addr->Prop):Aw Γ N (φ.plus Z):=⟨λx i b h=>by
 haveI:=a.vars x i b h;cases b<;>exact this,a.PI⟩
structure LU(c:Cx)(φ:Fm)(W:Addr->Prop)(AE:Nat->List Addr)(s:Shared)(σ:St)(xs:List Val)(I:Addr)(W':Addr->Prop)(s':Shared):Prop where
 sm:B4 s s'
 nx:Nx φ.F W s.heap (BB W' (·=I)) s'.heap
 S:AF c (φ.plus (·=I)) W' σ AE s'.heap
 src:OG c (φ.plus (·=I)) W' s'.heap I xs
 nM:¬φ.CZ I
 bn:c.base.get? I=none
section
variable {c:Cx}(C:c.Ok){φ:Fm}{n:Nat}(O:AU φ n){W:Addr->Prop}{σ:St}{AE:Nat->List Addr}{s:Shared}(S:AF c φ W σ AE s.heap){E:Value->Shared->Prop}{u v:Value}
include C O S
theorem Xk{l:Shared}(e:B4 s l)(d:s.heap.get? I=none)(g: @LT.lt Nat _ φ.L I)(H:∀b o,s.heap.get? b=some o->l.heap.get? b=some o)(m:∃o,l.heap.get? I=some o)(f:OG c φ W l.heap I xs):
  LU c φ W AE s σ xs I (λb=>W b/\b≠I) l:=by
 have D:∀{b:Addr}{o:Obj},s.heap.get? b=some o->b≠I:=λe q=>nH q d e;haveI h:c.base.get? I=none:=Dn (S.base I) d;haveI k:¬φ.CZ I:=λq=>AK (S.MA I q) λo e=>D e rfl;refine⟨e,(AH (Ch.keeps λb o e=>H b o e) λb q=>q.elim (λq=> .inl q.1) λq=> .inr (q▸ d)),?_,?_,k,h⟩
 ·refine S.N8 C O (X:=λU=>False) rfl rfl rfl rfl (λU q=>q.elim) (λb o U e=>H b o e) (λb o e N q=>?_) (λb q=>S.off b q.1) (λi=>(AH (S.sw i) ?_)) (λj G b hb=>(AH (S.Bc j G b hb) ?_)) (AH S.LW ?_)
   (λa ha=>(AH (S.tW a ha) λq=>Fq C O S g (q▸ ha))) (λb hb q=>?_) λb hb=>?_
  ·rcases q with(q|q)|q
   ·exact N (.inl q)
   ·exact D e q
   ·exact N (.inr q.1)
  ·exact AK (S.al i) λo q=>D q
  ·exact AK (S.DM C j G b hb) λo q=>D q
  ·exact Xdb g
  ·rcases hb with hb|hb
   ·exact S.MW b hb q.1
   ·exact q.2 hb
  ·rcases hb with hb|hb
   ·exact AK (S.MA b hb) λo q=>(AN o (H b o q))
   ·exact hb▸ m
 ·refine Ay f λt P St A=>(Cf t P St (A.to rfl (λb o hb e N q=>?_) λU U e=>e));rcases q with(q|q)|q
  ·exact N (.inl q)
  ·exact hb q
  ·exact N (.inr q.1)
theorem si(H:Ed x=some xs)(B:Iv c φ W s.heap x u)(k:∀I a l,LU c φ W AE s σ xs I a l->Q (.ref I) l):
  wpAny (Mo c) φ.A (pyIter u) Q E s:=
 sj C O S H B λo b d=>k _ _ _ (Xk C O S (AX rfl rfl rfl) Bg (Cq C O S) (λU U e=>Xcf _ e) (AN o (Xcn _ b)) d)
theorem yR(b: -100000<=i/\i<=100000)(k:∀I a l,LU c φ W AE s σ (DO i) I a l->Q (.ref I) l):
  wpAny (Mo c) φ.A (call (.type "range") [.int i t]) (λr l=>wpAny (Mo c) φ.A (pyIter r) Q E l) E s:=
 sq C O S b λo f h g J d=>k _ _ _ (Xk C O S (AX rfl rfl rfl) (H0 (Xd9 _)) (Xev (Cq C O S)) (λU U e=>Xcf _ (Xcf _ e))
  (AN f (by haveI:=Xcn (s.heap.push o) J;rwa [Xd0]at this)) d)
theorem yE(a:σ.at k= .O)(y:k<σ.length)(I:φ.slots k= .d D x)(M:∃m,s.heap.Ns D m)(p:∀j,j≠k->(σ.at j).on->(φ.slots k).apart (φ.slots j)/\(φ.slots j).apart (φ.slots k)):
  AF c φ W (σ.set k .U) AE s.heap:=
 S.put y a (λU U=>rfl) (by show(φ.slots k).Af _;exact rL I M) (λU=>p) λq=>q.elim
end
noncomputable def Kz(Γ:CO)(scope:Scope)(AV:List (Str×Nat)):Bool:=
 (scope.kind== .function)&&decide ((scope.names.map (·.1)).Nodup)&&
 (scope.names.all λp=>match p.2 with
  | .cell=>false
  | .free=>(match Γ.lookup p.1 with|some (i,true)=> !(AV.any λq=>q.2==i)|_=>false)&& !(p.1=="__classdict__")
  |_=>true)&&
 (AV.all λp=>scope.names.lookup p.1==some .local)&&decide ((AV.map (·.1)).Nodup)&&decide ((AV.map (·.2)).Nodup)
noncomputable def Ej(Γ:CO)(m:List (Str×NameKind))(AV:List (Str×Nat)):CO:=m.filterMap λp=>match p.2 with
 | .local=>(AV.lookup p.1).map λi=>(p.1,(i,false))
 | .free=>(match Γ.lookup p.1 with|some (i,true)=>some (p.1,(i,true))|_=>none)
 |_=>none
noncomputable def Ga(φ:Fm)(D:Addr)(AV:List (Str×Nat))(i:Nat):Slot:=match AV.find? (λp=>p.2==i)with
 |some p=> .d D p.1
 |none=>φ.slots i
def Cj(φ:Fm)(scope:Scope)(cl:List (Str×Addr))(D:Addr)(AV:List (Str×Nat))(Z:Addr->Prop):Fm:=
 {φ with env:=compEnvC scope cl D φ.env,slots:=Ga φ D AV,CZ:=λb=>φ.CZ b\/Z b}
theorem E9{m i:Type}[BEq m][LawfulBEq m]:∀{l:List (m×i)}{x:m}{y:i},l.lookup x=some y->(x,y)∈l
 | [],_,_,h=>by simp at h
 | (a,b)::l,x,y,h=>by
  rw[Xds]at h;by_cases e:x=a
  ·subst e;simp at h;subst h;exact .head _
  ·rw[show(x==a)=false from by simpa using e]at h;exact .tail _ (E9 h)
theorem Gu{m i:Type}[BEq m][LawfulBEq m]:∀{l:List (m×i)}{x:m}{y:i},(l.map (·.1)).Nodup->(x,y)∈l->l.lookup x=some y
 | [],_,_,_,h=>by cases h
 | (a,b)::l,x,y,g,h=>by
  simp only[Xde,Xc6]at g;refine rL Xds ?_;cases h with
  |head=>simp
  |tail _ h=>
   have:x≠a:=λq=>g.1 (q▸ Xc3 h);refine rL (show(x==a)=false from by simpa using this) ?_;exact Gu g.2 h
theorem jq(h:env.cells.lookup x=some a):cellOf env x=pure a:=by unfold cellOf;exact rL h rfl
theorem SU:∀{names:List (Str×NameKind)},(∀p∈names,p.2= .free->∃a,env.cells.lookup p.1=some a)->∀acc,(∀p∈acc,env.cells.lookup p.1=some p.2)->
  ∃cl:List (Str×Addr),(forIn names acc λ(p:Str×NameKind)r=>(if p.2==NameKind.free then do let a <-cellOf env p.1;pure (ForInStep.yield ((p.1,a)::r))else pure (ForInStep.yield r)))=pure cl/\
   (∀p∈cl,env.cells.lookup p.1=some p.2)/\(∀p∈acc,p∈cl)/\∀p∈names,p.2= .free->∃a,(p.1,a)∈cl
 | [],_,acc,ha=>(LQ acc rfl ha (λu0 q=>q) λu0 q=>by cases q)
 |p::names,h,acc,ha=>by
  refine rL (List.forIn_cons ..) ?_;by_cases e:p.2= .free
  ·refine AK (h p (.head _) e) λa ea=>?_;obtain⟨cl,h1,h2,h3,h4⟩:=SU (λq hq=>h q (.tail _ hq)) ((p.1,a)::acc) (λq hq=>by
    cases hq with
    |head=>exact ea
    |tail _ hq=>exact ha q hq)
   refine(LQ cl ?_ h2 (λq hq=>h3 q (.tail _ hq)) λq hq hf=>?_)
   ·refine rL (show(p.2==NameKind.free)=true from by refine rL (e ..) ?_;rfl) ?_;exact rL (Xck rfl) (rL (jq ea) h1)
   ·cases hq with
    |head=>exact(AN a (h3 _ (.head _)))
    |tail _ hq=>exact h4 q hq hf
  ·refine Nz (SU (λq hq=>h q (.tail _ hq)) acc ha) λcl h1 h2 h3 h4=>(LQ cl ?_ h2 h3 λq hq hf=>?_)
   ·refine rL (show(p.2==NameKind.free)=false from by simpa using e) ?_;exact rL (Xcm Xeh) h1
   ·cases hq with
    |head=>exact absurd hf e
    |tail _ hq=>exact h4 q hq hf
theorem XE(h:∀p∈scope.names,p.2= .free->∃a,env.cells.lookup p.1=some a):
  ∃cl,closureFor scope env=pure cl/\∀p∈scope.names,p.2= .free->cl.lookup p.1=env.cells.lookup p.1:=by
 refine AB λkk=>Nz (SU (env:=env) h [] λu0 q=>by cases q) λcl h1 h2 _ h4=>kk (AG cl ?_ λp hp hf=>?_)
 ·show(forIn scope.names [] _>>=pure)=_;exact(congrArg (·>>=pure) h1)
 ·refine AK (h4 p hp hf) λa ha=>?_;haveI e:=h2 _ ha;cases hc:cl.lookup p.1 with
  |none=>
   exfalso;haveI:∀{l:List (Str×Addr)},(p.1,a)∈l->l.lookup p.1≠none:=by
    intro l;induction l with
    |nil=>intro q;cases q
    |cons q l ih=>
     intro hq;refine rL Xds ?_;by_cases e:p.1=q.1
     ·simp[e]
     ·refine rL (show(p.1==q.1)=false from by simpa using e) ?_;cases hq with
      |head=>exact absurd rfl e
      |tail _ hq=>exact ih hq
   exact this ha hc
  |some b=>
   haveI:=h2 _ (E9 hc);exact this.symm
theorem Q3{env:Env}:∀{m:List (Str×NameKind)}{x:Str}{k:NameKind},m.lookup x=some k->
  ∃G,(m.map λ(n,k)=>if(k==NameKind.free&&env.scope.kind== .function&&env.kindOf n==some .cell)then(n,NameKind.cell)else(n,k)).lookup x=some G/\(k≠.free->G=k)/\(k= .free->G= .free\/G= .cell)
 | [],_,_,h=>by simp at h
 | (n,z)::r,x,k,h=>by
  rw[Xde,Xds];cases B:x==n with
  |true=>
   simp only[Xds,B]at h;obtain rfl:=Xcl h;by_cases y:(z==NameKind.free&&env.scope.kind== .function&&env.kindOf n==some .cell)=true
   ·simp only[y,Xf2,B];refine(BS .cell rfl (λq=>?_) λU=> .inr rfl);simp only[Xd5,Xej]at y;exact absurd y.1.1 q
   ·simp only[y,if_false,B,Xdu];exact(BS z rfl (λU=>rfl) λq=> .inl q)
  |false=>
   simp only[Xds,B]at h;obtain⟨G,Y,T⟩:=Q3 h;refine(AG G ?_ T);by_cases y:(z==NameKind.free&&env.scope.kind== .function&&env.kindOf n==some .cell)=true
   ·simp only[y,Xf2,B];exact Y
   ·simp only[y,if_false,B,Xdu];exact Y
structure Ip(Γ:CO)(scope:Scope)(AV:List (Str×Nat)):Prop where
 kind:scope.kind= .function
 nd:(scope.names.map (·.1)).Nodup
 cell:∀p∈scope.names,p.2≠.cell
 free:∀p∈scope.names,p.2= .free->(∃i,Γ.lookup p.1=some (i,true)/\∀q∈AV,q.2≠i)/\(p.1=="__classdict__")=false
 tg:∀p∈AV,scope.names.lookup p.1=some .local
 nt:(AV.map (·.1)).Nodup
 ni:(AV.map (·.2)).Nodup
set_option tactic.hygienic true in
theorem IZ(h:Kz Γ scope AV=true):Ip Γ scope AV:=by
 unfold Kz at h;haveI H:=Xce.mp (ar (al (al (al h))));refine⟨eq_of_beq (al (al (al (al (al h))))),Xcj (ar (al (al (al (al h))))),λp a q=>?_,λp a q=>?_,λp a=>eq_of_beq (Xce.mp (ar (al (al h))) p a),Xcj (ar (al h)),Xcj (ar h)⟩
 ·haveI:=H p a;rw[q]at this;exact fT this
 ·haveI:=H p a;rw[q]at this;have t:((match Γ.lookup p.1 with|some (i,true)=> !(AV.any λq=>q.2==i)|_=>false)&& !(p.1=="__classdict__"))=true:=this;refine(AH ?_ (Aq (ar t)));haveI d:=al t;cases e:Γ.lookup p.1 with
  |none=>rw[e]at d;exact fT d
  |some w=>
   obtain⟨i,b⟩:=w;rw[e]at d;cases b with
   |false=>exact fT d
   |true=>exact(AG i rfl (λr f e=>List.any_eq_false.mp (Aq d) r f (Xej.mpr e)))
theorem eJ:∀{l:List (Str×Nat)},(l.map (·.2)).Nodup->∀a∈l,∀b∈l,a.2=b.2->a=b
 | [],_,a,ha,_,_,_=>by cases ha
 |z::l,g,a,ha,b,V,e=>by
  simp only[Xde,Xc6]at g;cases ha with
  |head=>
   cases V with
   |head=>rfl
   |tail _ V=>exact absurd (e▸ Xc3 V) g.1
  |tail _ ha=>
   cases V with
   |head=>exact absurd (e▸ Xc3 ha) g.1
   |tail _ V=>exact eJ g.2 a ha b V e
theorem KE(h:Ip Γ scope AV)(a:p∈AV):Ga φ D AV p.2= .d D p.1:=by
 unfold Ga;cases t:AV.find? (λq=>q.2==p.2)with
 |none=>
  rw[List.find?_eq_none]at t;exact absurd (by first|decide|simp) (t _ a)
 |some q=>
  haveI A:q.2=p.2:=by simpa using Xid t
  exact rL (eJ h.ni q (Xf8 t) p a A) rfl
theorem J1(h:∀p∈AV,p.2≠i):Ga φ D AV i=φ.slots i:=by
 unfold Ga;cases t:AV.find? (λq=>q.2==i)with
 |none=>rfl
 |some q=>exact absurd (by simpa using Xid t) (h q (Xf8 t))
section
variable {c:Cx}{φ:Fm}{Γ:CO}{N:List (Str×NameKind)}
theorem kG(en:Aw Γ N φ)(h:Ip Γ scope AV)(v:∀p∈scope.names,p.2= .free->cl.lookup p.1=φ.env.cells.lookup p.1):
  Aw (Ej Γ scope.names AV) scope.names (Cj φ scope cl D AV Z):=by
 refine⟨λx i b B=>?_,λx B=>?_⟩
 ·haveI g:=E9 B;unfold Ej at g;rw[Xfl]at g;clear B;obtain⟨⟨y,k⟩,f,q⟩:=g;haveI s:=Gu h.nd f;refine Bh (Q3 (env:=φ.env) s) λt Y V o=>?_;cases k with
  |«local»=>
   dsimp only at q;cases l:AV.lookup y with
   |none=>replace q:=l▸ q;exact nS q
   |some j=>
    replace q:=l▸ q;cases q;haveI:=V (by first|decide|simp);clear V o;subst this;exact⟨Y,(KE h (E9 l))⟩
  |free=>
   dsimp only at q;obtain⟨⟨j,G,w⟩,d⟩:=h.free _ f rfl;dsimp only at G d;replace q:=G▸ q;cases q;haveI r:=en.vars x i true G;refine Ax r λ_ m=>AJ m λa Q u=>⟨?_,a,?_,?_⟩
   ·rcases o rfl with e|e
    ·right;exact⟨by refine rR e ?_;exact Y,d⟩
    ·left;exact rR e Y
   ·show cl.lookup x=some a;exact rL (v _ f rfl) Q
   ·show Ga φ D AV i=_;exact(J1 λp f=>w p f)▸ u
  |_=>exact nS q
 ·obtain⟨t,Y,V,_⟩:=Q3 B;haveI:=V (by first|decide|simp);exact this▸ Y
end
structure RO(c:Cx)(φ:Fm)(W:Addr->Prop)(σ:St)(AE:Nat->List Addr)(D:Addr):Prop where
 w:W D
 sl:∀i,(φ.slots i).at≠D
 ow:∀j,(σ.at j).Az->D∉AE j
 nL:D≠φ.L
 nt:¬c.tb D
theorem wu{d:List Nat}:∀{σ:St}{j:Nat},St.at (d.foldl (λσ k=>σ.set k .O) σ) j=if j∈d then .O else σ.at j:=by
 induction d with
 |nil=>intro σ j;simp
 |cons k d Q=>
  intro σ j;refine rL Xel (rL Q ?_);by_cases e:j∈d
  ·exact rL (Xck e) (rL (Xck (.tail _ e)) rfl)
  ·refine rL (Xcm e) ?_;by_cases q:j=k
   ·subst q;refine rL (Xck (.head _)) (rL FN ?_);by_cases l:j<σ.length
    ·exact rL (Xck ⟨rfl,l⟩) rfl
    ·refine rL (Xcm λz=>l z.2) ?_;unfold St.at;refine rL Xdr (rL (Xeb (by exact lin [List.length σ,j] 21743898625 rfl (Xdh l))) ?_);rfl
   ·exact rL (Xcm (by first|decide|simp[q,e])) (rL (Ca q) rfl)
theorem AF.drops:∀(d:List Nat){σ:St},AF c φ W σ AE h->AF c φ W (d.foldl (λσ k=>σ.set k .O) σ) AE h
 | [],_,S=>S
 |k::d,_,S=>AF.drops d (S.drop k)
theorem Xo{step:Val->St->Option (Option Val×St)}:∀{xs:List Val}{σ A0:St}{ys:List Val},DJ step xs σ=some (ys,A0)->ys.length<=xs.length
 | [],σ,A0,ys,h=>by cases h;exact Xc4 _
 |x::xs,σ,A0,ys,h=>by
  have h:(match step x σ with|some (r,B)=>(match DJ step xs B with|some (ys,a)=>some (r.toList++ys,a)|none=>none)|none=>none)=some (ys,A0):=h;cases e:step x σ with
  |none=>replace h:=e▸ h;exact nS h
  |some p=>
   replace h:=e▸ h;refine Mu h λT a d h=>?_;obtain⟨b,rfl⟩:=sP h;refine rR b ?_;haveI:=Xo d;cases p.1 with
   |none=>exact Xgm this
   |some y=>exact Xh3 this
section
variable {c:Cx}(C:c.Ok){φ:Fm}{n:Nat}(O:AU φ n)
include C O
theorem RO.change(J:RO c φ W σ AE D)(S:AF c φ W σ AE h)(f:Heap.SameBut D h h'):AF c φ W σ AE h':=
 S.change C O (X:=λb=>b=D) (Ch.sameBut f rfl) (λb q=> .inl (q▸ J.w)) J.sl (λj e b d q=>J.ow j e (q▸ d)) (λq=>J.nL q.symm) (λa ha q=>J.nt (q▸ ha)) (λg q=> .inl q) S.sw S.Bc S.LW S.tW
variable {Γ:CO}{N:List (Str×NameKind)}(en:Aw Γ N φ){scope:Scope}{AV:List (Str×Nat)}(Ba:Ip Γ scope AV)
 {elt target iter:PySem.Expr} {ifs:List PySem.Expr} {pos:Pos} {step:Val->St->Option (Option Val×St)}
include en Ba
theorem fP{s:Shared}(V:AU AD n):∀(l:List (Str×Nat)){σ:St},AF c AD W σ M s.heap->(∀p∈l,p∈AV)->(l.map (·.2)).Nodup->(∀p∈AV,AD.slots p.2= .d D p.1)->(∃m,s.heap.Ns D m)->
  (∀p∈l,σ.at p.2= .O/\p.2<σ.length)->(∀j,(σ.at j).on->(AD.slots j).at≠D\/∃p∈AV,p.2=j)->AF c AD W ((l.map (·.2)).foldl (λσ k=>σ.set k .U) σ) M s.heap
 | [],_,S,_,_,_,_,_,_=>S
 |p::l,σ,S,u,i,I,t,v,G=>by
  simp only[Xde,Xc6]at i;haveI o:=u p (.head _);haveI Q:=v p (.head _);haveI H:=I p o;haveI z:=yE C V S Q.1 Q.2 H t λj g f=>by
   refine rL H ?_;rcases G j f with q|⟨q,b,rfl⟩
   ·cases h:AD.slots j with
    |d U y=>
     rw[h]at q;haveI q:=q;exact⟨.inl (Ne.symm q),.inl q⟩
    |c a=>
     rw[h]at q;haveI q:=q;exact⟨Ne.symm q,q⟩
   ·refine rL (I q b) ?_;haveI:q.1≠p.1:=λe=>g (by
     haveI:q=p:=by haveI r:=Gu Ba.nt b;haveI A:=Gu Ba.nt o;rw[e,A]at r;exact Prod.ext e (Xcl r).symm
     exact rL this rfl)
    exact(AH (.inr (Ne.symm this)) (.inr this))
  refine fP V l z (λq b=>u q (.tail _ b)) i.2 I t (λq b=>?_) λj f=>?_
  ·haveI w:q.2≠p.2:=λe=>i.1 (e▸ Xc3 b);exact rL (Ca w) (rL Xem (v q (.tail _ b)))
  ·by_cases e:j=p.2
   ·exact .inr (AG p o e.symm)
   ·rw[Ca e]at f;exact G j f
theorem XI{s h:Shared}(X:LU c φ W M s σ xs I H h){RR:Value->Addr->Result->Shared->Prop}
  (JE:∀p∈scope.names,p.2= .free->cl.lookup p.1=φ.env.cells.lookup p.1) (Kb:∃p,p∈AV) (qY:∀p∈AV,(φ.slots p.2).at=φ.L)
  (ZO:∀p∈AV,σ.at p.2= .O/\p.2<σ.length) (EI:xs.length<=1000000)
  (IE:DJ step xs ((AV.map (·.2)).foldl (λσ k=>σ.set k .U) σ)=some (total,A0)) (TX:∀p∈AV,EB (A0.at p.2)=true)
  (turn:∀D Z,AU (Cj φ scope cl D AV Z) n->Aw (Ej Γ scope.names AV) scope.names (Cj φ scope cl D AV Z)->(ifs=[]/\FH c (Cj φ scope cl D AV Z) I v step (Kl c (Cj φ scope cl D AV Z) elt))\/∃t,ifs=[t]/\FH c (Cj φ scope cl D AV Z) I v step (Mp c (Cj φ scope cl D AV Z) elt t))
  (qf:∀W' s' acc D,B4 s s'->Nx φ.F W s.heap W' s'.heap->AF c φ W' ((AV.map (·.2)).foldl (λσ k=>σ.set k .O) A0) M s'.heap->DW c φ W' ((AV.map (·.2)).foldl (λσ k=>σ.set k .O) A0) M s'.heap (.M (.list total)) (.ref acc)->
   RO c φ W' ((AV.map (·.2)).foldl (λσ k=>σ.set k .O) A0) M D->(∃m,s'.heap.Ns D m)->acc≠D->RR (.ref acc) D (.ok .next) s'):
  wpAny (Mo c) φ.A (newList []) (λacc w=>wpAny (Mo c) φ.A (newFunctionEnv scope φ.env.globals cl [] φ.env.qual none .none (some φ.env)) (λX5 LF=>
   codeAny (Mo c) φ.A (.compStart (.ListComp elt [⟨v,iter,ifs,0⟩] scope pos) 0 (.ref I) acc {X5 with scope:=relabel scope φ.env}) (RR acc X5.locals) LF) E w) E h:=by
 refine Xhu (Xfw Ba.cell (by intro y hy;simp at hy) (λx V Y=>?_) Ba.kind);dsimp only at V Y ⊢;generalize JD:h.heap.push {cls:= .type "list",dict:=none,data:= .seq ([]).toArray}=H2 at V Y ⊢;have hsz:H2.objs.size=h.heap.objs.size+1:=rR (JD ..) (rL (Xd0 ..) rfl);generalize B:h.heap.objs.size=acc at hsz ⊢;generalize hDD:H2.objs.size=D at V Y hsz ⊢;have fa:h.heap.get? acc=none:=B▸ Bg;have fD:h.heap.get? D=none:=H0 (rL hsz (rL B (Xd9 _)));have aD:acc≠D:=rL hsz (Xdb (Xe6 _));have G:=λb o e=>
  Y.extBut b o (λq=>nH q fD e) (Xcf _ (JD▸ Xcf _ e))
 have ga:x.get? acc=some (listOf #[] 0):=by refine Y.extBut _ _ aD (Xcf _ ?_);exact rR JD (rR B (Xcn _ rfl))
 have ne:∀{b:Addr}{o:Obj},h.heap.get? b=some o->b≠acc/\b≠D:=λ{b o}e=>(AH (λq=>(nH q fa e)) λq=>(nH q fD e));have d:=X.S;have A:=O.plus (·=I)
 have La: @LT.lt Nat _ φ.L acc:=B▸ Cq C A d;have LD: @LT.lt Nat _ φ.L D:=rL hsz (Xev La);have cJ:=Fq C A d La;have cI:=Fq C A d LD;haveI J:=λb e=>Dn (λo q=>d.base b o q) e;let Z:Addr->Prop:=λb=>b=I\/b=acc;let U:=Cj φ scope cl D AV Z;let z:Addr->Prop:=λb=>(H b/\b≠acc)\/b=D;have live:=d.MA I (.inr rfl);have KX:acc≠I:=AK live λo e=>(ne e).1.symm;have O':AU U n:=⟨O.hand,O.depth,O.units,O.frames,O.fL,O.fk,O.eL,Ba.kind,O.eg,O.eb,λb hb=> .inl (O.FM b hb)⟩;have hM:∀b o,h.heap.get? b=some o->¬Ex (φ.plus (·=I)) H b->¬Ex U z b:=by
  rintro b o e nb ((q|q|q)|q|q)
  ·exact nb (.inl (.inl q))
  ·exact nb (.inl (.inr q))
  ·exact(ne e).1 q
  ·exact nb (.inr q.1)
  ·exact(ne e).2 q
 haveI eu:∀i,(σ.at i).on->∀p∈AV,p.2≠i:=λi on p u q=>by rw[<-q,(ZO p u).1]at on;exact on
 have T:∀i,(U.slots i).at=D\/U.slots i=φ.slots i:=λi=>by
  by_cases q:∃p∈AV,p.2=i
  ·refine AJ q λp u BV=>?_;obtain rfl:=BV
   left
   show(Ga φ D AV p.2).at=D;refine rL (KE Ba u) ?_;rfl
  ·right
   exact J1 λp u e=>q (AG p u e)
 have w6:∃o,x.get? D=some o:=Aj V λo _ _ q _=>(AN o q);haveI S':AF c U z σ M x:=by
  refine d.move C A (X:=λu0=>False) rfl rfl rfl (λi on=>J1 (eu i on)) (λi=>?_) (λi j hj=>?_) (λi=>?_) (λu0 q=>q.elim) (λb o u0 e=>G b o e) hM (λb q=>?_) (λi=>?_) (λj hj b hb=>?_) ?_ (λa ha=>?_) (λb hb q=>?_) λb hb=>?_
  ·rcases T i with q|q
   ·exact q▸ w6
   ·exact rL q (AK (d.al i) λo e=>(AN o (G _ _ e)))
  ·rcases T i with q|q
   ·refine rL q ?_;intro hD;exact AK (d.DM C j hj D hD) λo e=>nG fD e
   ·exact rL q (d.so i j hj)
  ·rcases T i with q|q
   ·exact q▸ cI
   ·exact q▸ d.ts i
  ·rcases q with q|q
   ·exact d.off b q.1
   ·exact rL q (J D fD)
  ·rcases T i with q|q
   ·exact .inr q
   ·exact rL q (AK (d.al i) λo e=> .inl (AH (d.sw i) ((ne e).1)))
  ·exact AK (d.DM C j hj b hb) λo e=> .inl (AH (d.Bc j hj b hb) ((ne e).1))
  ·exact .inl (AH d.LW (Xdb La))
  ·exact .inl (AH (d.tW a ha) λq=>cJ (q▸ ha))
  ·rcases hb with hb|hb|hb
   ·exact AK (d.MA b (.inl hb)) λo e=>q.elim (λq=>d.MW b (.inl hb) q.1) (ne e).2
   ·exact AK (d.MA b (.inr hb)) λo e=>q.elim (λq=>d.MW b (.inr hb) q.1) (ne e).2
   ·exact q.elim (λq=>q.2 hb) λq=>aD (hb▸ q)
  ·rcases hb with hb|hb|hb
   ·exact AK (d.MA b (.inl hb)) λo e=>(AN o (G _ _ e))
   ·exact AK (d.MA b (.inr hb)) λo e=>(AN o (G _ _ e))
   ·exact hb▸ (AN _ ga)
 refine Ay X.src λfp P St WG=>?_;have A':=WG.to (AD:=U) rfl (λb o u0 e nb=>hM b o e nb) G;have zM:∀b,Z b->¬φ.CZ b:=by
  rintro b (q|q) hb
  ·exact X.nM (q▸ hb)
  ·exact AK (d.MA b (.inl hb)) λo e=>(ne e).1 q
 haveI L:LC c φ U n Z I z x xs fp P St:=⟨O,O',rfl,rfl,rfl,rfl,λu0=>Iff.rfl,.inl rfl,λb hb=>(AH (λf=>zM b hb (O.FM b f)) (by
  rcases hb with q|q
  ·exact rL q X.bn
  ·exact rL q (J acc fa))),zM,A'⟩
 have Tb:acc∉fp:=λhm=>Ax (WG.PB acc hm KX) λ_ Ap=>AK Ap λo e=>nG fa e;haveI Su:AF c U z ((AV.map (·.2)).foldl (λσ k=>σ.set k .U) σ) M x:=by
  refine fP C O en Ba (s:={h with heap:=x}) O' AV S' (λu0 q=>q) Ba.ni (λp u=>KE Ba u) (AN _ V) ZO λj Mj=> .inl ?_;haveI:U.slots j=φ.slots j:=J1 (eu j Mj);exact rL this (AK (d.al j) λo e=>(ne e).2)
 haveI loop:∀w:Shared,w.heap=x->B4 h w->codeAny (Mo c) φ.A (.compLoop (.ListComp elt [⟨v,iter,ifs,0⟩] scope pos) 0 (.ref I) (.ref acc) (compEnvC scope cl D φ.env)) (RR (.ref acc) D) w:=by
  intro w e3 zH;subst e3;refine kM C L (.inr rfl) KX Tb EI (turn D Z O' (kG en Ba JE)) IE Su (AN 0 ga) λQ s' vs k sm gu hx o4=>Nz hx λGl l gz kk JL=>?_;haveI wD:Q D:=by
   refine AK Kb λp u=>?_;haveI:=l.sw p.2;haveI e:(U.slots p.2).at=D:=by show(Ga φ D AV p.2).at=D;refine rL (KE Ba u) ?_;rfl
   rwa [e]at this
  haveI wz:∀i,(Mine.St.at ((AV.map (·.2)).foldl (λσ k=>σ.set k .O) A0) i).on->∀p∈AV,p.2≠i:=λi on p u q=>by rw[wu,Xck (q▸ Xc3 u)]at on;exact on
  have ed:∀i,φ.slots i=U.slots i\/(φ.slots i).at=φ.L:=λi=>by
   by_cases q:∃p∈AV,p.2=i
   ·refine AJ q λp u BV=>?_;obtain rfl:=BV;exact .inr (qY p u)
   ·exact .inl (J1 λp u e=>q (AG p u e)).symm
  haveI Rj:=
   L.exit C gz (l.drops _) (λi on=>(J1 (wz i on)).symm) ed kk λb q=> .inr q
  haveI bW:=l.MW acc (.inr (.inr rfl));haveI wO:Nx φ.F W s.heap (BB Q (·=acc)) s'.heap:=by
   haveI n1:Nx φ.F (BB H (·=I)) h.heap (BB z Z) w.heap:=(AH (Ch.keeps G) (by
    rintro b ((q|q)|q|q)
    ·exact .inl (.inl q.1)
    ·exact .inr (q▸ fD)
    ·exact .inl (.inr q)
    ·exact .inr (q▸ fa)))
   exact((X.nx.trans n1).trans gu).shrink λb q=>q.imp id .inr
  haveI hlen:=JL.length;haveI rX:total.length<=1000000:=Xcq (Xo IE) EI;refine qf (BB Q (·=acc)) s' acc D ((X.sm.trans zH).trans sm) wO Rj ⟨acc,rfl,.inr rfl,⟨acc,vs,k,rfl,o4,rX,AO.mono (λb o nb e=>?_) _ JL⟩,λj hj q=>?_,λi q=>?_,La,cJ,λk q=>by cases q⟩ ⟨.inl wD,λi q=>?_,λj hj q=>?_,Xf4 LD,cI⟩ ?_ aD
  ·refine(AH (kk b o (λq=>nb (.inl (.inr (.inl q)))) e) λq=>?_);rcases q with q|q|q
   ·exact nb (.inl (.inl q))
   ·exact nb (.inr q)
   ·exact nb (.inl (.inr (.inr q)))
  ·exact bW ((l.drops (AV.map (·.2))).Bc j hj acc q)
  ·rcases ed i with e|e
   ·exact bW (q▸ e▸ l.sw i)
   ·rw[e]at q;exact Xdb La q
  ·rcases ed i with e|e
   ·exact AK (d.al i) λo e'=>(ne e').2 q
   ·rw[e]at q;exact Xdb LD q
  ·haveI:=(l.drops (AV.map (·.2))).Bc j hj D q
   refine AK Kb λp u=>?_;haveI e:(U.slots p.2).at=D:=by show(Ga φ D AV p.2).at=D;refine rL (KE Ba u) ?_;rfl
   exact(l.drops (AV.map (·.2))).so p.2 j hj (e▸ q)
  ·refine AK Kb λp u=>?_;haveI on:(A0.at p.2).on:=by
    haveI:=TX p u;cases hl:A0.at p.2<;>rw[hl]at this<;>first|exact trivial|exact fT this
   haveI fr:=(l.lv p.2).free on;rw[show U.slots p.2= .d D p.1 from KE Ba u]at fr;refine AK fr λm Ap=>Aj Ap λo e1 e2 g r=>?_;haveI:D≠I:=AK live λo e=>(ne e).2.symm;exact(AN m (DS o e1 e2 (kk D o this g) r))
 exact codeAny_compStart_list (loop _ rfl (AX rfl rfl rfl)) (A'.walks.self 0 _ _ _ A'.st (loop _ rfl (AX rfl rfl rfl)))
end
noncomputable def H4:PySem.Expr->Bool
 | .Set _ _ _=>false
 |_=>true
theorem MS(h:H4 e=true)(x:Value):foldedSetIterable e env x=pure x:=by
 cases e<;>first|rfl|exact fT h
def Lb(c:Cx)(φ:Fm)(a:PySem.Expr)(σ:St)(xs:List Val)(AA:St):Prop:=
 ∀W M s E Q,AF c φ W σ M s.heap->(∀L T I g d,BJ c φ W M s AA L T->LU c φ L M T AA xs I g d->Q (.ref I) d)->
  wpAny (Mo c) φ.A (eval a φ.env) (λx d=>wpAny (Mo c) φ.A (pyIter x) Q E d) E s
section
variable {c:Cx}(C:c.Ok){φ:Fm}{n:Nat}(O:AU φ n)
include C O
theorem IJ(h:Ac c φ (eval a φ.env) σ r AA)(H:Ed r.fz=some xs):Lb c φ a σ xs AA:=λW M s E Q S k=>
 one C O h S λL T u P R=>si C O P.S H R λI g d X=>k L T I g d P X
theorem UH(en:Aw Γ N φ)(B:N.lookup ("range":Str)=some .globalImplicit)(U:DI c.K "range" (.type "range"))(h:Ac c φ (eval e φ.env) σ r AA)(f:r.fz= .int i)(b: -100000<=i/\i<=100000)(a:Av e=false):
  Lb c φ (.Call (.Name "range" p) [e] [] pos) σ (DO i) AA:=λW M s E Q S k=>by refine Hw C O en B U (by decide) S.base (by first|decide|simp[Be,a]) (Xc5 (one C O h S λL T u P R=>args_nil ⟨P.S.base,?_⟩) (Bn a));rw[f]at R;obtain⟨t,rfl⟩:=R;exact yR C O P.S b λI g d X=>k L T I g d P X
theorem QR(h:EB l=true):l.on:=by
 cases l<;>first|exact trivial|exact fT h
theorem OS(en:Aw Γ N φ)(ha:Γ.lookup a=some (i,f))(V:Γ.lookup b=some (j,g))(S:AF c φ W σ M s.heap)(oi:(σ.at i).on)(oj:(σ.at j).on)
  (U:Iv c φ W s.heap (.T [x,y]) v) (Y:∀A,BJ c φ W M s ((σ.set i (.V x)).set j (.V y)) W A->Q () A):
  wpAny (Mo c) φ.A (assign (.Tuple [.Name a pa,.Name b pb] k p) φ.env v) Q E s:=by
 obtain⟨t,vs,m,rfl,nt,G,_,r⟩:=U;obtain⟨u,_,rfl,J,w,_,rfl,hw,rfl⟩:=r;refine wpAny_assign_Tuple O.hand (BS _ G rfl (AN m rfl)) rfl rfl λH L=>?_;haveI T:=λb o e=>L b o (λq=>nH q Bg e) e;have B:BJ c φ W M s σ W {s with heap:=H}:=⟨(AX rfl rfl rfl),(AH (.keeps T) λu0 q=> .inl q),S.kept C O (.keeps T)⟩;refine Xcd (Xdj (Xek (FA C O en ha B.S oi (J.nx O B.nx) λD d=>?_)));haveI z:(St.at (σ.set i (.V x)) j).on:=by
  refine rL FN ?_;split
  ·exact trivial
  ·exact oj
 exact Xcd (Xdj (Xek (FA C O en V d.S z ((hw.nx O B.nx).nx O d.nx) λl h=>Xcp (Y l ((B.trans d).trans h)))))
variable {I:Addr}
theorem Qx(en:Aw Γ N φ)(ha:Γ.lookup a=some (i,f))(h:∀σ r A0,e σ=some (r,A0)->Ac c φ (eval elt φ.env) σ r A0):
  FH c φ I (.Name a pa) (Ji e i) (Kl c φ elt):=by
 intro x σ r A0 z W M s v E K S H V k;refine jI z λl z=>Ku z λp Y z=>AB λJ=>?_;cases z;exact J (Xcp (Xek (FA C O en ha S (QR C O l) H λj b=>(one C O (h _ _ _ Y) b.S λQ g u d R=>k Q g (b.trans d) u R))))
theorem fJ(en:Aw Γ N φ)(ha:Γ.lookup a=some (i,f))(h:∀σ r A0,j σ=some (r,A0)->Ac c φ (eval elt φ.env) σ r A0)
  (G:∀σ b A0,g σ=some (.V (.bool b),A0)->ES c φ (isTrue t φ.env (eval t φ.env)) σ b A0):FH c φ I (.Name a pa) (Qk g j i) (Mp c φ elt t):=by
 intro x σ r A0 z W M s v E K S J V k;refine jI z λH z=>jT z λb B q D o=>Xcp (Xek (FA C O en ha S (QR C O H) J λA d=>GF C O (G _ _ _ q) d.S λQ m e=>?_));cases b with
 |true=>
  refine Ku (D rfl) λp Y z=>?_;clear q D o;cases z;exact one C O (h _ _ _ Y) e.S λl w u y R=>k l w ((d.trans e).trans y) u R
 |false=>
  refine AB λL=>?_;cases o rfl;exact L (k Q m (d.trans e))
theorem fH(en:Aw Γ N φ)(ha:Γ.lookup a=some (i,f))(w:Γ.lookup b=some (j,g))(h:∀σ r A0,e σ=some (r,A0)->Ac c φ (eval elt φ.env) σ r A0):
  FH c φ I (.Tuple [.Name a pa,.Name b pb] J p) (Vd e i j) (Kl c φ elt):=by
 intro x σ r A0 z W M s v E K S H V k;refine UI z λx y q z=>?_;clear z;subst q;refine jI z λo z=>Ku z λp Y z=>AB λJ=>?_;cases z;exact J (V [x,y] _ _ _ s _ E rfl rfl (OS C O en ha w S (QR C O (al o)) (QR C O (ar o)) H λt d=>one C O (h _ _ _ Y) d.S λQ m u l R=>k Q m (d.trans l) u R))
theorem DW.freeze(S:AF c φ W σ AE h)(R:DW c φ W σ AE h (.M o) v):
  ∃a,v= .ref a/\AF c φ (λb=>W b/\b≠a) σ AE h/\AZ (c.prog,c.w) c.fl (Ex φ λb=>W b/\b≠a) h o.fz v:=by refine AB λt=>?_;obtain⟨a,rfl,s,r,g,k,l,m,p⟩:=R;exact t (BS a rfl (S.same C O .refl (λw q=> .inl q.1) (λi=>⟨S.sw i,k i⟩) (λj e b d=>⟨S.Bc j e b d,λq=>g j e (q▸ d)⟩) ⟨S.LW,λq=>Xdb l q⟩ λb d=>⟨S.tW b d,λq=>m (q▸ d)⟩) (Bu.fz (r.mono C λb o d f=>(AH f λu q=>u (q.imp id λq=>q.1))) (λq=>q.elim (λq=>S.MW a q s) λq=>q.2 rfl) p))
variable {Γ:CO}{N:List (Str×NameKind)}(en:Aw Γ N φ){scope:Scope}{AV:List (Str×Nat)}(Ba:Ip Γ scope AV)
 {elt target iter:PySem.Expr} {ifs:List PySem.Expr} {pos:Pos} {step:Val->St->Option (Option Val×St)}
include en Ba
theorem XF:∃cl,closureFor scope φ.env=pure cl/\∀p∈scope.names,p.2= .free->cl.lookup p.1=φ.env.cells.lookup p.1:=
 XE λp e t=>by refine AB λJ=>Ax (Ba.free p e t) λb _=>?_;obtain⟨i,d,_⟩:=b;exact Ax (en.vars p.1 i true d) λ_ w=>AJ w λa Y _=>J ⟨a,Y⟩
theorem ZR:∀x∈scope.names,x.2= .local->scope.names.lookup x.1=some .local:=λx B e=>by haveI:=Gu Ba.nd B;exact rL this (rL e rfl)
theorem MJ(j:Lb c φ d σ xs AA)(A:H7 step (AV.map (·.2)) xs AA=some (r,A0))(l:∃p,p∈AV)(L:∀p∈AV,(φ.slots p.2).at=φ.L)(B:H4 d=true)
  (H:∀cl I D Z,AU (Cj φ scope cl D AV Z) n->Aw (Ej Γ scope.names AV) scope.names (Cj φ scope cl D AV Z)->(ifs=[]/\FH c (Cj φ scope cl D AV Z) I k step (Kl c (Cj φ scope cl D AV Z) elt))\/∃t,ifs=[t]/\FH c (Cj φ scope cl D AV Z) I k step (Mp c (Cj φ scope cl D AV Z) elt t)):
  Ac c φ (eval (.ListComp elt [⟨k,d,ifs,0⟩] scope pos) φ.env) σ r A0:=by
 intro W M s E S;refine ae A λhc V ys z G g A=>Ax (sP A) λi u=>?_;obtain rfl:=u;refine rR i (AB λy=>AJ (XF C O en Ba) λcl v f=>y ?_);refine rL (eval_ListComp ..) (Xga rfl (MS B) v Ba.kind (ZR C O en Ba) (j W M s E _ S λWb sb I T BL P X=>XI C O en Ba X f l L (cS hc) V G (dJ g) (H cl I) λQ s' acc D sm nx S' R J hD w=>AK hD λm hm=>?_));refine(AG m hm λh' x=>?_);haveI h:=J.change C O S' x;haveI P':BJ c φ Wb M sb _ Q {s' with heap:=h'}:=⟨sm.trans (AX rfl rfl rfl),nx.trans (AH (Ch.sameBut x J.w) λu0 q=> .inl q),h⟩;refine(AG Q (P.trans P') (AB λy=>?_));obtain⟨a,U,hW,hO,h1,h2,h3,h4,h5⟩:=R;refine y ⟨a,U,hW,hO.mono C λb o hb e=>(AH ((x.2 b λq=>?_).trans e) id),h1,h2,h3,h4,h5⟩;rcases hb with hb|hb
 ·exact hb (.inr (q▸ J.w))
 ·cases U;replace q:=(Xcc.mp hb)▸ q;exact w q
end
structure Ck where
 fl:Nat->List Str
 FQ:Nat->Str
 HA:Nat->Str
 Nd:List Keyword->Bool
noncomputable def glob(N:List (Str×NameKind))(x:Str):Bool:=N.lookup x==some .globalImplicit
noncomputable def DL(Γ:CO)(x:Str)(i:Nat):Bool:=(match Γ.lookup x with|some (j,_)=>j==i|none=>false)&& !(x=="__debug__")
noncomputable def Eg(x:PySem.Expr)(f:Const->Bool):Bool:=match x with| .Constant a _ _=>f a|_=>false
noncomputable def BU(x:PySem.Expr)(f:Str->Bool):Bool:=match x with| .Name a _=>f a|_=>false
noncomputable def HI(x:PySem.Expr)(f:PySem.Expr->Str->Pos->Bool):Bool:=match x with| .Attribute y a p=>f y a p|_=>false
noncomputable def OJ(x:PySem.Expr)(f:PySem.Expr->List CmpOp->List PySem.Expr->Bool):Bool:=match x with| .Compare y o z _=>f y o z|_=>false
noncomputable def Wc(x:PySem.Expr)(f:PySem.Expr->Operator->PySem.Expr->Bool):Bool:=match x with| .BinOp y o z _=>f y o z|_=>false
noncomputable def Ru(x:PySem.Expr)(f:UnaryOp->PySem.Expr->Bool):Bool:=match x with| .UnaryOp o y _=>f o y|_=>false
noncomputable def Rp(x:PySem.Expr)(f:BoolOp->List PySem.Expr->Pos->Bool):Bool:=match x with| .BoolOp o Q p=>f o Q p|_=>false
noncomputable def OM(x:PySem.Expr)(f:PySem.Expr->PySem.Expr->PySem.Expr->Bool):Bool:=match x with| .IfExp u y z _=>f u y z|_=>false
noncomputable def ON(x:PySem.Expr)(f:List PySem.Expr->Bool):Bool:=match x with| .List Q _=>f Q|_=>false
noncomputable def HJ(x:PySem.Expr)(f:List PySem.Expr->Bool):Bool:=match x with| .Tuple Q _ _=>f Q|_=>false
noncomputable def Lv(x:PySem.Expr)(f:PySem.Expr->List Comprehension->Scope->Bool):Bool:=match x with| .ListComp y I M _=>f y I M|_=>false
noncomputable def Hu(x:PySem.Expr)(f:PySem.Expr->PySem.Expr->Bool):Bool:=match x with| .Subscript y z _=>f y z|_=>false
noncomputable def Rt(x:PySem.Expr)(f:Option PySem.Expr->Option PySem.Expr->Option PySem.Expr->Bool):Bool:=match x with| .Slice a b d _=>f a b d|_=>false
noncomputable def Dy(x:PySem.Expr)(f:PySem.Expr->List PySem.Expr->List Keyword->Pos->Bool):Bool:=match x with| .Call g Q E p=>f g Q E p|_=>false
noncomputable def OL(x:PySem.Expr)(f:List (Option PySem.Expr)->List PySem.Expr->Bool):Bool:=match x with| .Dict a b _=>f a b|_=>false
noncomputable def a1{m:Type}(l:List m)(f:m->Bool):Bool:=match l with| [a]=>f a|_=>false
noncomputable def a2{m:Type}(l:List m)(f:m->m->Bool):Bool:=match l with| [a,b]=>f a b|_=>false
noncomputable def Iq{m:Type}(o:Option m)(f:m->Bool):Bool:=match o with|some a=>f a|none=>false
def Lu(I:List Comprehension)(f:PySem.Expr->PySem.Expr->List PySem.Expr->Bool):Bool:=a1 I λg=>g.is_async==0&&f g.target g.iter g.ifs
noncomputable def Ro(ys:List PySem.Expr)(o:BoolOp)(p:Pos)(F G:PySem.Expr->Bool):Bool:=match ys with
 |y::z::r=>F y&&(match r with| []=>G z|w::i=>G (.BoolOp o (z::w::i) p))
 |_=>false
mutual
noncomputable def Ag(k:Ck)(so:Bool)(N:List (Str×NameKind))(Γ:CO)(K:List Nat):PE->PySem.Expr->Bool
 | .none,x=>Eg x λc=>c== .none
 | .bool b,x=>Eg x λc=>c== .bool b
 | .int i,x=>Eg x λc=>c== .int i
 | .str s,x=>Eg x λc=>c== .str s&&decide (s.cps.size<=1000000)
 | .W i,x=>BU x λnm=>DL Γ nm i
 | .A e cl j,x=>HI x λy nm U=>Ag k so N Γ K e y&&((cl==49||cl==114||cl==193)&&((k.fl cl)[j]? ==some nm&&Hv y))
 | .E e neg,x=>OJ x λy D T=>a1 D λC=>a1 T λz=>Eg z λc=>c== .none&&(Ag k so N Γ K e y&&C==if neg then .IsNot else .Is)
 | .K C a b,x=>OJ x λy D T=>a1 D λB=>a1 T λz=>B==C&&(Ag k so N Γ K a y&&(Ag k so N Γ K b z&& !(behindInMarks C z)))
 | .B C a b,x=>Wc x λy o z=>o==C&&(Ag k so N Γ K a y&&Ag k so N Γ K b z)
 | .neg a,x=>Ru x λo y=>o== .USub&&Ag k so N Γ K a y
 | .not a,x=>Ru x λo y=>o== .Not&&Ag k so N Γ K a y
 | .and a b,x=>Rp x λo Q p=>o== .And&&Ro Q .And p (λy=>Ag k so N Γ K a y) λy=>Ag k so N Γ K b y
 | .or a b,x=>Rp x λo Q p=>o== .Or&&Ro Q .Or p (λy=>Ag k so N Γ K a y) λy=>Ag k so N Γ K b y
 | .D t a b,x=>OM x λu y z=>Ag k so N Γ K t u&&(Ag k so N Γ K a y&&Ag k so N Γ K b z)
 | .list n,x=>ON x λQ=>HP k so N Γ K n Q
 | .T n,x=>HJ x λQ=>HP k so N Γ K n Q
 | .C A i h,x=>Lv x λy I M=>Lu I λt z m=>BU t λnm=>m.isEmpty&&(Ag k so N Γ K h z&&(H4 z&&(K.contains i&&(Kz Γ M [(nm,i)]&&Ag k false M.names (Ej Γ M.names [(nm,i)]) (K.filter (· !=i)) A y))))
 | .R A i e,x=>Lv x λy I M=>Lu I λt w m=>BU t λnm=>Dy w λO Q E U=>BU O λrn=>a1 Q λz=>
   m.isEmpty&&(E.isEmpty&&(rn=="range"&&(glob N "range"&&(Ag k so N Γ K e z&&(!(Av z)&&(K.contains i&&(Kz Γ M [(nm,i)]&&Ag k false M.names (Ej Γ M.names [(nm,i)]) (K.filter (· !=i)) A y)))))))
 | .GZ A cond i h,x=>Lv x λy I M=>Lu I λt z m=>BU t λnm=>a1 m λu=>Ag k so N Γ K h z&&(H4 z&&(K.contains i&&(Kz Γ M [(nm,i)]&&(Ag k false M.names (Ej Γ M.names [(nm,i)]) (K.filter (· !=i)) A y&&Ag k false M.names (Ej Γ M.names [(nm,i)]) (K.filter (· !=i)) cond u))))
 | .CC A i j h,x=>Lv x λy I M=>Lu I λt z m=>HJ t λY=>a2 Y λV tb=>BU V λnm=>BU tb λl=>
   m.isEmpty&&(Ag k so N Γ K h z&&(H4 z&&(K.contains i&&(K.contains j&&(Kz Γ M [(nm,i),(l,j)]&&Ag k false M.names (Ej Γ M.names [(nm,i),(l,j)]) (K.filter λq=>q !=i&&q !=j) A y)))))
 | .S e i,x=>Hu x λy z=>Ag k so N Γ K e y&&(Ag k so N Γ K i z&&NF z)
 | .OO v i,x=>Hu x λy z=>BU y λnm=>DL Γ nm v&&(Ag k so N Γ K i z&&NF z)
 | .H8 e r,x=>Hu x λy s=>BU y λU=>Rt s λa b d=>a.isNone&&(d.isNone&&(Ag k so N Γ K e y&&Iq b λz=>Ag k so N Γ K r z))
 | .GK e lo r,x=>Hu x λy s=>BU y λU=>Rt s λa b d=>d.isNone&&(Ag k so N Γ K e y&&((Iq a λz=>Ag k so N Γ K lo z)&&Iq b λz=>Ag k so N Γ K r z))
 | .F f a,x=>Dy x λg Q E U=>BU g λnm=>E.isEmpty&&a1 Q λy=>(nm==(J9 f).1&&(glob N (J9 f).1&&(Ag k so N Γ K a y&& !(Av y))))
 | .min a b,x=>Dy x λg Q E U=>BU g λnm=>E.isEmpty&&a2 Q λy z=>(nm=="min"&&(glob N "min"&&(Ag k so N Γ K a y&&(Ag k so N Γ K b z&&(!(Av y)&& !(Av z))))))
 | .J e c,x=>Dy x λg Q E U=>BU g λnm=>E.isEmpty&&a2 Q λy z=>BU z λH=>(nm=="isinstance"&&(glob N "isinstance"&&((c==0||c==1||c==49||c==114)&&(H==KD c&&(glob N (KD c)&&(Ag k so N Γ K e y&& !(Av y)))))))
 | .call f J,x=>Dy x λg Q E U=>BU g λnm=>E.isEmpty&&(!(Q.isEmpty)&&(nm==k.FQ f&&(!(k.FQ f=="")&&(glob N nm&&(!(nm=="__debug__")&&(Be Q&&HP k so N Γ K J Q))))))
 | .Q f v J,x=>Dy x λg Q E p=>HI g λy L G=>BU y λnm=>E.isEmpty&&(DL Γ nm v&&(L==k.HA f&&(!(k.HA f=="")&&(G.endLine==p.line&&(decide (Q.length<29)&&(Be Q&&HP k so N Γ K J Q))))))
 | .Fo e,x=>Dy x λg Q E U=>BU g λnm=>a1 Q λy=>so&&(nm=="sorted"&&(glob N "sorted"&&(k.Nd E&&(Ag k so N Γ K e y&& !(Av y)))))
 | .Gb,x=>OL x λa b=>a.isEmpty&&b.isEmpty
noncomputable def HP(k:Ck)(so:Bool)(N:List (Str×NameKind))(Γ:CO)(K:List Nat):List PE->List PySem.Expr->Bool
 | [],Q=>Q.isEmpty
 |e::a,Q=>(match Q with|y::Q=>Ag k so N Γ K e y&&(!(Av y)&&HP k so N Γ K a Q)| []=>false)
end
noncomputable def DT(c:Cx)(A:Fm)(W:Addr->Prop)(M:Nat->List Addr)(h:Heap):List AR->List Value->Prop
 | [],p=>p=[]
 | .V x::N,p=>∃v r,p=v::r/\Iv c A W h x v/\DT c A W M h N r
 | .N i::N,p=>∃r,p= .ref ((M i).headD 0)::r/\DT c A W M h N r
def DU(c:Cx)(Φ:BZ)(n:Nat)(d:Nat->Option Value):Prop:=
 ∀A,AU A (n+1)->∀f v N a r i W M s p E,d f=some v->Φ f (N.map (AR.lv a))=some (r,i)->(N.flatMap AR.ix).Nodup->(∀x∈N.flatMap AR.ix,Cu (a.at x)=true)->DZ N i=true->AF c A W a M s.heap->DT c A W M s.heap N p->
  wpAny (Mo c) A.A (call v p) (Aa c A W M s (Bk a N i) r) E s
def Jw(c:Cx)(k:Ck)(d:Nat->Option Value):Prop:=
 ∀M t j f,k.HA f≠""->∃g,d f=some (.ref g)/\keepIn c.K (.ref g)=true/\∀s A E m Q,c.wa M s.heap t j->c.base.StaysIn s.heap->(∀a,Q (.ref g,[.ref (t.headD 0)]) {s with toks:=a})->wpAny (Mo c) A (getMethod (.ref (t.headD 0)) (k.HA f) m) Q E s
structure Jv(c:Cx)(k:Ck)(E0:Nat->Option Value):Prop where
 b:∀x v,(x,v)∈([("len",.builtin "len"),("int",.type "int"),("str",.type "str"),("abs",.builtin "abs"),("list",.type "list"),("min",.builtin "min"),("isinstance",.builtin "isinstance"),("range",.type "range"),("sorted",.builtin "sorted"),("Params",.ref 49),("ListThing",.ref 114)]:List (Str×Value))->DI c.K x v
 f:∀f,k.FQ f≠""->∃v,E0 f=some v/\DI c.K (k.FQ f) v
def GS(c:Cx)(A:Fm)(k:Ck):Prop:=∀y E j a d o r b v,A.env.kindOf "sorted"=some .globalImplicit->k.Nd E=true->Ac c A (eval y A.env) d r o->Av y=false->r.fz= .list b->H5 b=some v->v.length<64->(v.map (·.1)).Nodup->
 Ac c A (eval (.Call (.Name "sorted" j) [y] E a) A.env) d (.M (.list ((Cy v).map (·.2)))) o
@[elab_as_elim]theorem ac{Q:St->Prop}(h:El Φ f as σ=some (r,A0))(k:∀i,(as.flatMap AR.ix).Nodup->(∀x∈as.flatMap AR.ix,Cu (σ.at x)=true)->Φ f (as.map (AR.lv σ))=some (r,i)->DZ as i=true->Q (Bk σ as i)):Q A0:=by
 unfold El at h;by_cases y:(as.flatMap AR.ix).Nodup/\(as.flatMap AR.ix).all (λx=>Cu (σ.at x))=true
 ·replace h:=(Xck y)▸ h;cases e:Φ f (as.map (AR.lv σ))with
  |none=>replace h:=e▸ h;exact nS h
  |some p=>
   obtain⟨m,i⟩:=p;replace h:=e▸ h;by_cases L:DZ as i=true
   ·cases(Xck L).symm.trans h;exact k i y.1 (Xce.mp y.2) e L
   ·exact nS ((Xcm L).symm.trans h)
 ·exact nS ((Xcm y).symm.trans h)
set_option tactic.hygienic true in
theorem CR(h:DL Γ x i=true):(∃b,Γ.lookup x=some (i,b))/\(x=="__debug__")=false:=by
 refine⟨?_,by simpa using ar h⟩;cases e:Γ.lookup x with
 |none=>rw[DL,e]at h;exact fT (al h)
 |some q=>
  obtain⟨j,b⟩:=q;rw[DL,e]at h;exact⟨b,congrArg (λj=>some (j,b)) (eq_of_beq (al h))⟩
theorem G7(h:glob N x=true):N.lookup x=some .globalImplicit:=by simpa[glob]using h
theorem xn(h:Be a=true):(backTo pos (starEach a env)).all (λx=> !x.1)=true:=by refine rL List.all_eq_not_any_not ?_;simp only[Bool.not_not];refine rL (H9 h) ?_;rfl
theorem uy(e:methodCallForm n as []=true)(m:(r.endLine==p.line)=true):
  methodCall o h r p env a n as []=(do
   let(f,first) <-holding [a] (getMethod a h (do return (<-importBound o env).getD true))
   callWith p f first as []):=by unfold methodCall;refine rL e (rL (show methodCallPos true o env r p=pure p from Xck (by refine rL (m ..) ?_;rfl)) ?_);rfl
theorem N7(d:Hv o=true)(g:Be ys=true)(b:ys.length<29)(m:(r.endLine==p.line)=true):
  eval (.Call (.Attribute o h r) ys [] p) env=(do
   let a <-eval o env
   standAt r.atName
   let(f,first) <-holding [a] (getMethod a h (do return (<-importBound o env).getD true))
   callWith p f first (backTo p (starEach ys env)) []):=by
 refine rL (arm_eval_Call ..) (rL (HM d ..) ?_);haveI e:methodCallForm ys.length (backTo p (starEach ys env)) []=true:=by
  show((backTo p (starEach ys env)).all (!·.1)&&true&&decide (ys.length+0<30))=true
  refine rL (xn g) (rL (Xcy (show ys.length+0<30 from Xev b)) ?_);rfl
 exact congrArg (eval o env>>=·) (funext λa=>congrArg (standAt r.atName>>=·) (funext λU=>uy e m))
theorem JV(e:Be ys=true)(d:ys.length<29)(m:(r.endLine==p.line)=true):
  eval (.Call (.Attribute (.Name nm b) h r) ys [] p) env=(do
   let a <-eval (.Name nm b) env
   standAt r.atName
   let(f,first) <-holding [a] (getMethod a h (do return (<-importBound (.Name nm b) env).getD true))
   callWith p f first (backTo p (starEach ys env)) []):=N7 rfl e d m
theorem lz(h:wpAny M A (spliced []) (λvs l=>Q ⟨vs,[]⟩ l) E s):wpAny M A (evalArgs f true [] []) Q E s:=by unfold evalArgs;exact Xcd (Xcv h (λvs l a=>Xdj (Xcd (Xcp (Xcd (Xcp (Xcp a)))))) λU U x=>x)
theorem X4{K:Frag}(X:K.In e)(L:keepIn K f=true)(b:Be ys=true)
  (h:wpAny M A (spliced (backTo pos (starEach ys env))) (λvs d=>K.In d.heap/\wpAny M A (call f (first++vs)) Q E d) E s):wpAny M A (callWith pos f first (backTo pos (starEach ys env)) []) Q E s:=by
 cases ys with
 |nil=>exact callWith_of rfl (keeps_K L) (lz h)
 |cons y ys=>
  haveI a:Av y=false/\Be ys=true:=⟨Aq (al b),ar b⟩;exact Xhk X L h (Bn a.1) (H9 a.2)
section
variable {c:Cx}(C:c.Ok){k:Ck}(AM:k.fl=c.fl){E0:Nat->Option Value}(gl:Jv c k E0){Φ:BZ}{n:Nat}(As:DU c Φ n E0)(B5:Jw c k E0)
include C AM gl As B5
set_option tactic.hygienic true in
theorem jm(O:AU A (n+1))(L:Aw Γ N A)
  (args:∀pos W M s E Q,AF c A W σ M s.heap->(∀I l vs,BJ c A W M s A0 I l->DT c A I M l.heap as vs->Q vs l)->wpAny (Mo c) A.A (spliced (backTo pos (starEach (y::ys) A.env))) Q E s)
  (t:nm=k.FQ f) (w:(k.FQ f=="")=false) (U:glob N nm=true) (u:(nm=="__debug__")=false) (h:Be (y::ys)=true) (e:El Φ f as A0=some (r,a)):Ac c A (eval (.Call (.Name nm np) (y::ys) [] pos) A.env) σ r a:=by refine ac e λi g ha d o W M s E S=>AJ (gl.f f (by simpa using w)) λv H b=>?_;subst t;exact Hw C O L (G7 U) b u S.base h (args pos W M s E _ S λI l vs P R=>⟨P.S.base,Dg C O P (As A O f v as A0 r i I M l vs E H d g ha o P.S R)⟩)
set_option tactic.hygienic true in
theorem Xaw(O:AU A (n+1))(L:Aw Γ N A){σ A0 a:St}(J:Γ.lookup nm=some (x,b))(d:(nm=="__debug__")=false)(u:∃j,σ.at x= .N (.Z j))
  (args:∀pos W M s E Q,AF c A W σ M s.heap->(∀I l vs,BJ c A W M s A0 I l->DT c A I M l.heap as vs->Q vs l)->wpAny (Mo c) A.A (spliced (backTo pos (starEach ys A.env))) Q E s)
  (v:U=k.HA f) (w:(k.HA f=="")=false) (m:(t.endLine==pos.line)=true) (y:ys.length<29) (p:Be ys=true) (e:El Φ f (.N x::as) A0=some (r,a)):Ac c A (eval (.Call (.Attribute (.Name nm np) U t) ys [] pos) A.env) σ r a:=by refine ac e λi B ha h o W M s E S=>AK u λj G=>?_;subst v;haveI hw:=(Dt S G).2;refine AB λT=>Bh (B5 (Ex A W) (M x) j f (by simpa using w)) λg H q D=>T (Xe5 (HZ C O L J d (Dt S G).1 (D s A.A E _ _ hw S.base λV=>?_)) (JV p y m));haveI z:=S;exact X4 (C.BE.keeps S.base) q p (args pos W M _ E _ z λI l vs P R=>⟨C.BE.keeps P.S.base,(Dg C O (⟨B4.trans ⟨rfl,rfl,rfl⟩ P.sm,P.nx,P.S⟩) (As A O f _ (.N x::as) A0 r i I M l _ E H h B ha o P.S ⟨vs,rfl,R⟩))⟩)
end
def DB(K:List Nat)(A:Fm):Prop:=∀i∈K,(A.slots i).at=A.L
theorem DB.comp{K:List Nat}{a:Fm}(d:DB K a)(h:∀i∈e,i∈K/\∀p∈AV,p.2≠i):DB e (Cj a scope cl D AV Z):=λi b=>by show(Ga a D AV i).at=a.L;exact(J1 (h i b).2)▸ d i (h i b).1
def Cg(c:Cx)(A:Fm)(x:PySem.Expr)(t:Bool)(σ:St)(r:RV)(A0:St):Prop:=
 (t=false->Ac c A (eval x A.env) σ r A0)/\(t=true->∀b,r= .V (.bool b)->ES c A (isTrue x A.env (eval x A.env)) σ b A0)
section
variable {c:Cx}(C:c.Ok){n:Nat}
include C
theorem CU(O:AU A (n+1))(h:Ac c A (eval x A.env) σ r A0)(Y:isTrue x A.env (eval x A.env)=(do let v <-eval x A.env;standAt x.pos;holding [v] (truthy v))):Cg c A x t σ r A0:=
 ⟨λU=>h,λU b V=>by subst V;exact Xac C O h Y⟩
theorem dN(O:AU A (n+1))(Y:Cg c A y t σ (.V (.bool b)) AA)(T:b=true->Cg c A (.BoolOp .And (z::rest) p) t AA r A0)(H:b=false->r= .V (.bool false)/\A0=AA):
  Cg c A (.BoolOp .And (y::z::rest) p) t σ r A0:=by
 refine(AH (λe W M s E S=>?_) λe v U W M s E S=>?_)
 ·subst e;refine BoolOp_and (one C O (Y.1 rfl) S λg d u a f=>?_);obtain rfl:=f;refine Xcp ?_;cases b with
  |true=>exact Dg C O a ((T rfl).1 rfl g M d E a.S)
  |false=>obtain⟨rfl,rfl⟩:=H rfl;exact(AG g a rfl)
 ·subst e;refine isTrue_and (GF C O (Y.2 rfl b rfl) S λg d a=>?_);cases b with
  |true=>exact Qu C O a ((T rfl).2 rfl v U g M d E a.S)
  |false=>obtain⟨rfl,rfl⟩:=H rfl;cases U;exact(AH rfl (AN g a))
theorem dO(O:AU A (n+1))(Y:Cg c A y t σ (.V (.bool b)) AA)(T:b=false->Cg c A (.BoolOp .Or (z::rest) p) t AA r A0)(H:b=true->r= .V (.bool true)/\A0=AA):
  Cg c A (.BoolOp .Or (y::z::rest) p) t σ r A0:=by
 refine(AH (λe W M s E S=>?_) λe v U W M s E S=>?_)
 ·subst e;refine BoolOp_or (one C O (Y.1 rfl) S λg d u a f=>?_);obtain rfl:=f;refine Xcp ?_;cases b with
  |false=>exact Dg C O a ((T rfl).1 rfl g M d E a.S)
  |true=>obtain⟨rfl,rfl⟩:=H rfl;exact(AG g a rfl)
 ·subst e;refine isTrue_or (GF C O (Y.2 rfl b rfl) S λg d a=>?_);cases b with
  |false=>exact Qu C O a ((T rfl).2 rfl v U g M d E a.S)
  |true=>obtain⟨rfl,rfl⟩:=H rfl;cases U;exact(AH rfl (AN g a))
theorem yG(O:AU A (n+1))(h:Cg c A y t σ r A0):Cg c A (.BoolOp .And [y] p) t σ r A0:=
 ⟨λd=>h.1 d,λd b V W M s E S=>isTrue_and (GF C O (h.2 d b V) S λg e a=>by
  cases b with
  |true=>exact isTrue_and_nil ⟨rfl,g,a⟩
  |false=>exact⟨rfl,g,a⟩)⟩
theorem yL(O:AU A (n+1))(h:Cg c A y t σ r A0):Cg c A (.BoolOp .Or [y] p) t σ r A0:=
 ⟨λd=>h.1 d,λd b V W M s E S=>isTrue_or (GF C O (h.2 d b V) S λg e a=>by
  cases b with
  |true=>exact⟨rfl,g,a⟩
  |false=>exact isTrue_or_nil ⟨rfl,g,a⟩)⟩
theorem yJ(O:AU A (n+1))(h:Cg c A u true σ (.V (.bool b)) AA)(Y:b=true->Cg c A y t AA r A0)(T:b=false->Cg c A z t AA r A0):Cg c A (.IfExp u y z p) t σ r A0:=
 ⟨λa=>lU C O (h.2 rfl b rfl) (λe=>(Y e).1 a) λe=>(T e).1 a,λa v U=>Xaa C O (h.2 rfl b rfl) (λe=>(Y e).2 a v U) λe=>(T e).2 a v U⟩
theorem yH(O:AU A (n+1))(Y:Cg c A y false σ G AA)(T:Cg c A z false AA h A0)(H:B7 op G.fz h.fz=some w)(D:behindInMarks op z=false):Cg c A (.Compare y [op] [z] p) t σ (.V w) A0:=
 ⟨λU=>lP C O (Y.1 rfl) (T.1 rfl) H D,λU b V=>fK C O (λW M s E Q S J=>one C O (Y.1 rfl) S λg j u d f=>one C O (T.1 rfl) d.S λi k v a e=>by
  refine Xcv (fS C O a.S H (f.nx O a.nx) e) (λx m q=>AJ q λI l R=>?_) λU U x=>x;cases V;exact J I m x ((d.trans a).trans l) R) D⟩
theorem yK(O:AU A (n+1))(a:t=true)(h:Cg c A y true σ (.V (.bool b)) A0):Cg c A (.UnaryOp .Not y p) t σ (.V (.bool (!b))) A0:=
 ⟨λq=>fT (q.symm.trans a),λd v U=>by cases U;exact Xab C O (h.2 rfl b rfl)⟩
theorem yI(O:AU A (n+1))(h:Cg c A y false σ r A0)(V:Pm r.fz neg=some b):Cg c A (.Compare y [if neg then .IsNot else .Is] [.Constant .none j q] p) t σ (.V (.bool b)) A0:=
 ⟨λd=>lS C O (h.1 rfl) V,λd v U=>fK C O (λW M s E Q S J=>one C O (h.1 rfl) S λg e u a f=>Xdq (by
  refine Xcv (aN C O a.S f neg b V) (λx l q=>AJ q λI i R=>?_) λd d x=>x;cases U;exact J I l x (a.trans i) R)) (by cases neg<;>rfl)⟩
end
@[elab_as_elim]theorem Fd{P:PySem.Expr->Prop}(h:Eg x f=true)(k:∀a J p,f a=true->P (.Constant a J p)):P x:=by
 cases x<;>first|exact k _ _ _ h|exact fT h
@[elab_as_elim]theorem BD{P:PySem.Expr->Prop}(h:BU x f=true)(k:∀a p,f a=true->P (.Name a p)):P x:=by
 cases x<;>first|exact k _ _ h|exact fT h
@[elab_as_elim]theorem HW{P:PySem.Expr->Prop}(h:HI x f=true)(k:∀y a p,f y a p=true->P (.Attribute y a p)):P x:=by
 cases x<;>first|exact k _ _ _ h|exact fT h
@[elab_as_elim]theorem U1{P:PySem.Expr->Prop}(h:OJ x f=true)(k:∀y o z p,f y o z=true->P (.Compare y o z p)):P x:=by
 cases x<;>first|exact k _ _ _ _ h|exact fT h
@[elab_as_elim]theorem ry{P:PySem.Expr->Prop}(h:Wc x f=true)(k:∀y o z p,f y o z=true->P (.BinOp y o z p)):P x:=by
 cases x<;>first|exact k _ _ _ _ h|exact fT h
@[elab_as_elim]theorem Zu{P:PySem.Expr->Prop}(h:Ru x f=true)(k:∀o y p,f o y=true->P (.UnaryOp o y p)):P x:=by
 cases x<;>first|exact k _ _ _ h|exact fT h
@[elab_as_elim]theorem Zl{P:PySem.Expr->Prop}(h:Rp x f=true)(k:∀o ys p,f o ys p=true->P (.BoolOp o ys p)):P x:=by
 cases x<;>first|exact k _ _ _ h|exact fT h
@[elab_as_elim]theorem U6{P:PySem.Expr->Prop}(h:OM x f=true)(k:∀u y z p,f u y z=true->P (.IfExp u y z p)):P x:=by
 cases x<;>first|exact k _ _ _ _ h|exact fT h
@[elab_as_elim]theorem U7{P:PySem.Expr->Prop}(h:ON x f=true)(k:∀ys p,f ys=true->P (.List ys p)):P x:=by
 cases x<;>first|exact k _ _ h|exact fT h
@[elab_as_elim]theorem Gm{P:PySem.Expr->Prop}(h:HJ x f=true)(k:∀ys J p,f ys=true->P (.Tuple ys J p)):P x:=by
 cases x<;>first|exact k _ _ _ h|exact fT h
@[elab_as_elim]theorem IH{P:PySem.Expr->Prop}(h:Lv x f=true)(k:∀y I M p,f y I M=true->P (.ListComp y I M p)):P x:=by
 cases x<;>first|exact k _ _ _ _ h|exact fT h
@[elab_as_elim]theorem Kj{P:PySem.Expr->Prop}(h:Hu x f=true)(k:∀y z p,f y z=true->P (.Subscript y z p)):P x:=by
 cases x<;>first|exact k _ _ _ h|exact fT h
@[elab_as_elim]theorem Zt{P:PySem.Expr->Prop}(h:Rt x f=true)(k:∀a b d p,f a b d=true->P (.Slice a b d p)):P x:=by
 cases x<;>first|exact k _ _ _ _ h|exact fT h
@[elab_as_elim]theorem E6{P:PySem.Expr->Prop}(h:Dy x f=true)(k:∀g ys E p,f g ys E p=true->P (.Call g ys E p)):P x:=by
 cases x<;>first|exact k _ _ _ _ h|exact fT h
@[elab_as_elim]theorem U3{P:PySem.Expr->Prop}(h:OL x f=true)(k:∀a b p,f a b=true->P (.Dict a b p)):P x:=by
 cases x<;>first|exact k _ _ _ h|exact fT h
@[elab_as_elim]theorem i1{m:Type}{P:List m->Prop}{l:List m}{f:m->Bool}(h:a1 l f=true)(k:∀a,f a=true->P [a]):P l:=by
 match l,h with
 | [a],h=>exact k a h
@[elab_as_elim]theorem i2{m:Type}{P:List m->Prop}{l:List m}{f:m->m->Bool}(h:a2 l f=true)(k:∀a b,f a b=true->P [a,b]):P l:=by
 match l,h with
 | [a,b],h=>exact k a b h
@[elab_as_elim]theorem IG{P:List Comprehension->Prop}{I:List Comprehension}{f:PySem.Expr->PySem.Expr->List PySem.Expr->Bool}(h:Lu I f=true)(k:∀t i fs,f t i fs=true->P [⟨t,i,fs,0⟩]):P I:=by refine i1 h λg h=>?_;obtain⟨t,i,fs,N⟩:=g;exact(show N=0 from eq_of_beq (al h))▸ k t i fs (ar h)
@[elab_as_elim]theorem iE{m:Type}{P:List m->Prop}{l:List m}{b:Bool}(h:(l.isEmpty&&b)=true)(k:b=true->P []):P l:=by
 cases l with
 |nil=>exact k h
 |cons a l=>exact fT h
theorem Oq{m:Type}{l:List m}(h:l.isEmpty=true):l=[]:=by
 cases l with
 |nil=>rfl
 |cons a l=>exact fT h
@[elab_as_elim]theorem Mm{m:Type}{P:List m->Prop}{l:List m}(h:l.isEmpty=true)(k:P []):P l:=rL (Oq h) k
@[elab_as_elim]theorem U8{P:PySem.Expr->Prop}(h:BU x f=true)(k:∀a p,x= .Name a p->f a=true->P (.Name a p)):P x:=by
 cases x<;>first|exact k _ _ rfl h|exact fT h
@[elab_as_elim]theorem C0{m:Type}[BEq m][LawfulBEq m]{P:m->Prop}{a c:m}{b:Bool}(h:(a==c&&b)=true)(k:b=true->P c):P a:=(eq_of_beq (al h))▸ k (ar h)
@[elab_as_elim]theorem GB{m:Type}[BEq m][LawfulBEq m]{P:m->Prop}{a c:m}(h:(a==c)=true)(k:P c):P a:=(eq_of_beq h)▸ k
@[elab_as_elim]theorem JN{m:Type}{P:Option m->Prop}{o:Option m}{b:Bool}(h:(o.isNone&&b)=true)(k:b=true->P none):P o:=by
 cases o with
 |none=>exact k h
 |some a=>exact fT h
@[elab_as_elim]theorem Ki{m:Type}{P:Option m->Prop}{o:Option m}{f:m->Bool}(h:Iq o f=true)(k:∀a,f a=true->P (some a)):P o:=by
 cases o with
 |none=>exact fT h
 |some a=>exact k a h
@[elab_as_elim]theorem Zk{P:List PySem.Expr->Prop}(h:Ro ys o p F G=true)(l:∀y z,F y=true->G z=true->P [y,z])(a:∀y z w rest,F y=true->G (.BoolOp o (z::w::rest) p)=true->P (y::z::w::rest)):P ys:=by
 match ys,h with
 | [y,z],h=>exact l y z (al h) (ar h)
 |y::z::w::rest,h=>exact a y z w rest (al h) (ar h)
theorem xQ{x:Nat}(h:(x==a||x==b||x==d)=true):x=a\/x=b\/x=d:=by simpa only[Xfa,Xej,or_assoc]using h
theorem cY{x:Nat}(h:(x==a||x==b||x==d||x==e)=true):x=a\/x=b\/x=d\/x=e:=by simpa only[Xfa,Xej,or_assoc]using h
section
variable {β:Type}{z:β}{Q:Prop}
theorem jR{g:RV->St->Option β}(h:(match o with|some (r,AA)=>g r AA|none=>none)=some z)(k:∀r AA,o=some (r,AA)->g r AA=some z->Q):Q:=by
 rcases o with _|⟨r,AA⟩
 ·exact nS h
 ·exact k r AA rfl h
theorem jA{g:List AR->St->Option β}(h:(match o with|some (r,AA)=>g r AA|none=>none)=some z)(k:∀r AA,o=some (r,AA)->g r AA=some z->Q):Q:=by
 rcases o with _|⟨r,AA⟩
 ·exact nS h
 ·exact k r AA rfl h
theorem jV{g:Val->Option β}(h:(match o with|some x=>g x|none=>none)=some z)(k:∀x,o=some x->g x=some z->Q):Q:=by
 cases o with
 |none=>exact nS h
 |some x=>exact k x rfl h
theorem jW{g:RV->Option β}(h:(match o with|some x=>g x|none=>none)=some z)(k:∀x,o=some x->g x=some z->Q):Q:=by
 cases o with
 |none=>exact nS h
 |some x=>exact k x rfl h
theorem HX{g:List Val->Option β}(h:(match o with|some x=>g x|none=>none)=some z)(k:∀x,o=some x->g x=some z->Q):Q:=by
 cases o with
 |none=>exact nS h
 |some x=>exact k x rfl h
theorem jP{g:List (Str×Val)->Option β}(h:(match o with|some x=>g x|none=>none)=some z)(k:∀x,o=some x->g x=some z->Q):Q:=by
 cases o with
 |none=>exact nS h
 |some x=>exact k x rfl h
theorem jB{g:Bool->Option β}(h:(match o with|some x=>g x|none=>none)=some z)(k:∀x,o=some x->g x=some z->Q):Q:=by
 cases o with
 |none=>exact nS h
 |some x=>exact k x rfl h
theorem sx{v:Val}{g:Nat->List Val->Option β}(h:(match v with| .I a xs=>g a xs|_=>none)=some z)(k:∀a xs,v= .I a xs->g a xs=some z->Q):Q:=by
 cases v<;>first|exact k _ _ rfl h|exact nS h
theorem Po{v:Val}{g:Int->Option β}(h:(match v with| .int i=>g i|_=>none)=some z)(k:∀i,v= .int i->g i=some z->Q):Q:=by
 cases v<;>first|exact k _ rfl h|exact nS h
theorem jL{v:Val}{g:List Val->Option β}(h:(match v with| .list i=>g i|_=>none)=some z)(k:∀i,v= .list i->g i=some z->Q):Q:=by
 cases v<;>first|exact k _ rfl h|exact nS h
theorem sv{v w:Val}{g:Int->Int->Option β}(h:(match v,w with| .int i,.int j=>g i j|_,_=>none)=some z)(k:∀i j,v= .int i->w= .int j->g i j=some z->Q):Q:=by
 cases v with
 |int i=>cases w<;>first|exact k _ _ rfl rfl h|exact nS h
 |_=>exact nS h
theorem sz{v w:Val}{g:List Val->Int->Option β}(h:(match v,w with| .list i,.int j=>g i j|_,_=>none)=some z)(k:∀i j,v= .list i->w= .int j->g i j=some z->Q):Q:=by
 cases v with
 |list i=>cases w<;>first|exact k _ _ rfl rfl h|exact nS h
 |_=>exact nS h
theorem t4{v w u:Val}{g:List Val->Int->Int->Option β}(h:(match v,w,u with| .list xs,.int i,.int j=>g xs i j|_,_,_=>none)=some z)(k:∀xs i j,v= .list xs->w= .int i->u= .int j->g xs i j=some z->Q):Q:=by
 cases v with
 |list i=>cases w with
  |int j=>cases u<;>first|exact k _ _ _ rfl rfl rfl h|exact nS h
  |_=>exact nS h
 |_=>exact nS h
theorem tA{v:LV}{w:Val}{g:List Val->Int->Option β}(h:(match v,w with| .N (.list i),.int j=>g i j|_,_=>none)=some z)(k:∀i j,v= .N (.list i)->w= .int j->g i j=some z->Q):Q:=by
 cases v with
 |N o=>cases o with
  |list i=>cases w<;>first|exact k _ _ rfl rfl h|exact nS h
  |_=>exact nS h
 |_=>exact nS h
theorem t9{v:LV}(h:(match v with| .N (.list _)=>a|_=>none)=some z)(k:∀i,v= .N (.list i)->a=some z->Q):Q:=by
 cases v with
 |N o=>cases o<;>first|exact k _ rfl h|exact nS h
 |_=>exact nS h
theorem tD{v:LV}(h:(match v with| .N (.Z _)=>a|_=>none)=some z)(k:∀i,v= .N (.Z i)->a=some z->Q):Q:=by
 cases v with
 |N o=>cases o<;>first|exact k _ rfl h|exact nS h
 |_=>exact nS h
end
theorem jN{z:RV×St}{Q:Prop}(h:(match v with| .none=>some (RV.V (.bool (!neg)),σ)| .any=>none|_=>some (RV.V (.bool neg),σ))=some z)(k:∀b,Pm v neg=some b->some (RV.V (.bool b),σ)=some z->Q):Q:=by
 cases v<;>first|exact k _ rfl h|exact nS h
set_option tactic.hygienic true in
theorem t8{o:Option (RV×St)}{z:RV×St}{Q:Prop}(h:(match t,o with|true,some (.V (.bool b),AA)=>some (RV.V (.bool (!b)),AA)|_,_=>none)=some z)(k:∀b AA,t=true->o=some (.V (.bool b),AA)->some (RV.V (.bool (!b)),AA)=some z->Q):Q:=by
 cases t with
 |false=>exact nS h
 |true=>
  rcases o with _|⟨_|_,AA⟩
  ·exact nS h
  ·rename_i x;cases x<;>first|exact k _ _ rfl rfl h|exact nS h
  ·exact nS h
@[elab_as_elim]theorem jZ{Q:RV->St->Prop}(h:some (r,σ)=some (m,A0))(k:Q r σ):Q m A0:=by
 cases h;exact k
section
variable {β:Type}{z:β}{Q:Prop}
theorem jX{o:Option (FR×St)}{f:St->Option β}{g:RV->St->Option β}(h:(match o with|some (.next,AA)=>f AA|some (.ret r,AA)=>g r AA|none=>none)=some z)
  (l:∀AA,o=some (.next,AA)->f AA=some z->Q) (a:∀r AA,o=some (.ret r,AA)->g r AA=some z->Q):Q:=by
 rcases o with _|⟨_|r,AA⟩
 ·exact nS h
 ·exact l AA rfl h
 ·exact a r AA rfl h
end
@[elab_as_elim]theorem EY{Q:FR->St->Prop}(h:some (r,σ)=some (m,A0))(k:Q r σ):Q m A0:=by
 cases h;exact k
noncomputable def Ig:PE->Option Nat
 | .W x=>some x
 |_=>none
theorem MH(Φ:BZ)(np:Nat)(e:PE)(b:List PE)(σ:St):By Φ np (e::b) σ=(match Ig e with
  |some x=>(match σ.at x with
   | .N _=>(match By Φ np b σ with|some (as,AA)=>some (.N x::as,AA)|none=>none)
   | .V y=>(match By Φ np b σ with|some (as,AA)=>some (.V y::as,AA)|none=>none)
   |_=>none)
  |none=>(match ev Φ np e false σ with
   |some (r,AA)=>(match By Φ np b AA with|some (as,a)=>some (.V r.fz::as,a)|none=>none)
   |none=>none)):=by cases e<;>rfl
set_option tactic.hygienic true in
theorem XG:∀m,((Ej Γ m AV).map (·.1)).Sublist (m.map (·.1))
 | []=> .slnil
 |p::m=>by
  haveI Q:=XG (Γ:=Γ) (AV:=AV) m;unfold Ej at Q ⊢;refine rL Xg6 ?_;obtain⟨nm,kd⟩:=p;cases kd with
  |«local»=>
   cases AV.lookup nm with
   |none=>exact .cons _ Q
   |some i=>exact .cons_cons _ Q
  |free=>
   dsimp only;cases Γ.lookup nm with
   |none=>exact .cons _ Q
   |some w=>
    obtain⟨i,b⟩:=w;cases b with
    |false=>exact .cons _ Q
    |true=>exact .cons_cons _ Q
  |_=>exact .cons _ Q
theorem GY(h:Ip Γ scope AV)(a:(nm,i)∈AV):(Ej Γ scope.names AV).lookup nm=some (i,false):=by refine Gu ((XG scope.names).nodup h.nd) ?_;haveI D:=E9 (h.tg (nm,i) a);unfold Ej;rw[Xfl];refine(AG _ D ?_);dsimp only;refine rL (Gu h.nt a) ?_;rfl
theorem Kw{A:Fm}{nm:Str}(h:(A.slots i).at=A.L):∀p∈[(nm,i)],(A.slots p.2).at=A.L:=λp a=>(Xcc.mp a)▸ h
theorem fM{A:Fm}{nm a:Str}(h:(A.slots i).at=A.L)(b:(A.slots j).at=A.L):∀p∈[(nm,i),(a,j)],(A.slots p.2).at=A.L:=λp d=>by
 rcases Xcs.mp d with q|q
 ·exact rL q h
 ·exact rL (Xcc.mp q) b
theorem I4{K:List Nat}(l:DB K A):DB (K.filter (· !=i)) (Cj A M cl D [(nm,i)] Z):=l.comp λj G=>by rw[List.mem_filter]at G;exact⟨G.1,λp a=>rL (Xcc.mp a) (Ne.symm (Xez.mp G.2))⟩
theorem Xg{K:List Nat}(l:DB K A):DB (K.filter λq=>q !=i&&q !=j) (Cj A M cl D [(nm,i),(b,j)] Z):=l.comp λq O=>by
 rw[List.mem_filter]at O;refine⟨O.1,λp a=>?_⟩;rcases Xcs.mp a with z|z
 ·exact rL z (Ne.symm (Xez.mp (al O.2)))
 ·exact rL (Xcc.mp z) (Ne.symm (Xez.mp (ar O.2)))
theorem jE{i:Type}{p:Prop}[Decidable p]{a:Option i}{z:i}{Q:Prop}(h:(if p then none else a)=some z)(k:¬p->a=some z->Q):Q:=by
 by_cases q:p
 ·rw[Xck q]at h;exact nS h
 ·rw[Xcm q]at h;exact k q h
noncomputable def Wh:List (Str×Value):=[("len",.builtin "len"),("int",.type "int"),("str",.type "str"),("abs",.builtin "abs"),("list",.type "list"),("min",.builtin "min"),("isinstance",.builtin "isinstance"),("range",.type "range"),("sorted",.builtin "sorted"),("Params",.ref 49),("ListThing",.ref 114)]
theorem nE(f:BF):J9 f∈Wh:=by cases f<;>first|exact Ai 0 rfl|exact Ai 1 rfl|exact Ai 2 rfl|exact Ai 3 rfl|exact Ai 4 rfl
theorem kD{j:Nat}(h:j=0\/j=1\/j=49\/j=114):(KD j,Od j)∈Wh:=by
 rcases h with rfl|rfl|rfl|rfl
 ·exact Ai 2 rfl
 ·exact Ai 4 rfl
 ·exact Ai 9 rfl
 ·exact Ai 10 rfl
theorem Xal(h:Ig e=some x):e= .W x:=by cases e<;>cases h;rfl
section
variable {c:Cx}(C:c.Ok){k:Ck}(AM:k.fl=c.fl){E0:Nat->Option Value}(gl:Jv c k E0){Φ:BZ}{n:Nat}(As:DU c Φ n E0)(B5:Jw c k E0)
include C AM gl As B5
mutual
theorem AY:∀e{so:Bool}{N:List (Str×NameKind)}{Γ:CO}{K:List Nat}{A:Fm}{x:PySem.Expr}{t:Bool}{σ A0:St}{r:RV},AU A (n+1)->Aw Γ N A->DB K A->(so=true->GS c A k)->Ag k so N Γ K e x=true->ev Φ A.np e t σ=some (r,A0)->Cg c A x t σ r A0
 | .none,so,N,Γ,K,A,x,t,σ,A0,r,O,L,l,J,h,H=>Fd h λu0 u0 u0 h=>GB h (jZ H (CU C O (lb C O) rfl))
 | .bool b,so,N,Γ,K,A,x,t,σ,A0,r,O,L,l,J,h,H=>Fd h λu0 u0 u0 h=>GB h (jZ H (CU C O (lO C O) rfl))
 | .int i,so,N,Γ,K,A,x,t,σ,A0,r,O,L,l,J,h,H=>Fd h λu0 u0 u0 h=>GB h (jZ H (CU C O (lR C O) rfl))
 | .str s,so,N,Γ,K,A,x,t,σ,A0,r,O,L,l,J,h,H=>Fd h λu0 u0 u0 h=>C0 h λh=>jZ H (CU C O (lq C O (Xcj h)) rfl)
 | .W i,so,N,Γ,K,A,x,t,σ,A0,r,O,L,l,J,h,H=>BD h λnm p h=>(CR h).1.elim λb hb=>CU C O (ly C O L hb (CR h).2 H) rfl
 | .A e cl j,so,N,Γ,K,A,x,t,σ,A0,r,O,L,l,J,h,H=>HW h λy nm p h=>jR H λG B he H=>sx H λa xs hr H=>jI H λha H=>jV H λz hz H=>jZ H
   (CU C O (lM C O ((AY e O L l J (al h) he).1 rfl) (ha▸ hr) (xQ (al (ar h))) hz (AM▸ eq_of_beq (al (ar (ar h)))) (ar (ar (ar h)))) rfl)
 | .E e neg,so,N,Γ,K,A,x,t,σ,A0,r,O,L,l,J,h,H=>U1 h λy os zs p h=>i1 h λop h=>i1 h λz h=>Fd h λu0 u0 u0 h=>C0 h λh=>GB (ar h) (jR H λG B he H=>jN H λb hb H=>jZ H (yI C O (AY e O L l J (al h) he) hb))
 | .K op a b,so,N,Γ,K,A,x,t,σ,A0,r,O,L,l,J,h,H=>U1 h λy os zs p h=>i1 h λop' h=>i1 h λz h=>C0 h λh=>jR H λG B T H=>jR H λNW Q h5 H=>jV H λw hz H=>jZ H
   (yH C O (AY a O L l J (al h) T) (AY b O L l J (al (ar h)) h5) hz (Aq (ar (ar h))))
 | .B op a b,so,N,Γ,K,A,x,t,σ,A0,r,O,L,l,J,h,H=>ry h λy o z p h=>C0 h λh=>jR H λG B T H=>jR H λNW Q h5 H=>jW H λw hz H=>jZ H
   (CU C O (lN C O ((AY a O L l J (al h) T).1 rfl) ((AY b O L l J (ar h) h5).1 rfl) hz) rfl)
 | .neg a,so,N,Γ,K,A,x,t,σ,A0,r,O,L,l,J,h,H=>Zu h λo y p h=>C0 h λh=>jR H λG B T H=>Po H λi hi H=>jZ H (CU C O (lZ C O ((AY a O L l J h T).1 rfl) hi) rfl)
 | .not a,so,N,Γ,K,A,x,t,σ,A0,r,O,L,l,J,h,H=>Zu h λo y p h=>C0 h λh=>t8 H λb B ht T H=>jZ H (yK C O ht (AY a O L l J h T))
 | .and a b,so,N,Γ,K,A,x,t,σ,A0,r,O,L,l,J,h,H=>Zl h λo ys p h=>C0 h λh=>jT H λb' B k1 k2 k3=>Zk h
   (λy z h1 h2=>dN C O (AY a O L l J h1 k1) (λq=>yG C O (AY b O L l J h2 (k2 q))) λq=>(sP (k3 q)).imp Eq.symm Eq.symm)
   λy z w rest h1 h2=>dN C O (AY a O L l J h1 k1) (λq=>AY b O L l J h2 (k2 q)) λq=>(sP (k3 q)).imp Eq.symm Eq.symm
 | .or a b,so,N,Γ,K,A,x,t,σ,A0,r,O,L,l,J,h,H=>Zl h λo ys p h=>C0 h λh=>jT H λb' B k1 k2 k3=>Zk h
   (λy z h1 h2=>dO C O (AY a O L l J h1 k1) (λq=>yL C O (AY b O L l J h2 (k3 q))) λq=>(sP (k2 q)).imp Eq.symm Eq.symm)
   λy z w rest h1 h2=>dO C O (AY a O L l J h1 k1) (λq=>AY b O L l J h2 (k3 q)) λq=>(sP (k2 q)).imp Eq.symm Eq.symm
 | .D u a b,so,N,Γ,K,A,x,t,σ,A0,r,O,L,l,J,h,H=>U6 h λu' y z p h=>jT H λb' B k1 k2 k3=>
   yJ C O (AY u O L l J (al h) k1) (λq=>AY a O L l J (al (ar h)) (k2 q)) λq=>AY b O L l J (ar (ar h)) (k3 q)
 | .list es,so,N,Γ,K,A,x,t,σ,A0,r,O,L,l,J,h,H=>U7 h λys p h=>Mu H λxs B T H=>jI H λhl H=>jZ H (CU C O (lV C O (Sp es O L l J h T) hl) rfl)
 | .T es,so,N,Γ,K,A,x,t,σ,A0,r,O,L,l,J,h,H=>Gm h λys kk p h=>Mu H λxs B T H=>jI H λhl H=>jZ H (CU C O (Xq C O (Sp es O L l J h T) hl) rfl)
 | .C elt i it,so,N,Γ,K,A,x,t,σ,A0,r,O,L,l,J,h,H=>IH h λy gs sc Y h=>IG h λtg z fs h=>BD h λnm V h=>iE h λh=>jR H λG B U H=>HX H λxs h7 H=>by have M:=IZ (al (ar (ar (ar h))));have hK:=Xcw.mp (al (ar (ar h)));exact CU C O (MJ C O L M (IJ C O ((AY it O L l J (al h) U).1 rfl) h7) H (AN _ (.head _)) (Kw (l i hK)) (al (ar h)) λcl I D Z O' m=> .inl (AH rfl (Qx C O' m (GY M (.head _)) λσ r A0 he=>(AY elt O' m (I4 l) (λq=>fT q) (ar (ar (ar (ar h)))) he).1 rfl))) rfl
 | .R elt i e,so,N,Γ,K,A,x,t,σ,A0,r,O,L,l,J,h,H=>IH h λy gs sc Y h=>IG h λtg z fs h=>BD h λnm V h=>E6 h λrf ys kw V8 h=>BD h λrn V7 h=>i1 h λz h=>iE h λh=>iE h λh=>C0 h λh=>
   jR H λG B U H=>Po H λj h7 H=>jI H λhj H=>by haveI M:=IZ (al (ar (ar (ar (ar h)))));haveI hK:=Xcw.mp (al (ar (ar (ar h))));exact CU C O (MJ C O L M (UH C O L (G7 (al h)) (gl.b _ _ (Ai 7 rfl)) ((AY e O L l J (al (ar h)) U).1 rfl) h7 hj (Aq (al (ar (ar h))))) H (AN _ (.head _)) (Kw (l i hK)) rfl λcl I D Z O' m=> .inl (AH rfl (Qx C O' m (GY M (.head _)) λσ r A0 he=>(AY elt O' m (I4 l) (λq=>fT q) (ar (ar (ar (ar (ar h))))) he).1 rfl))) rfl
 | .GZ elt cond i it,so,N,Γ,K,A,x,t,σ,A0,r,O,L,l,J,h,H=>IH h λy gs sc Y h=>IG h λtg z fs h=>BD h λnm V h=>i1 h λu h=>jR H λG B U H=>HX H λxs h7 H=>by have M:=IZ (al (ar (ar (ar h))));haveI hK:=Xcw.mp (al (ar (ar h)));exact CU C O (MJ C O L M (IJ C O ((AY it O L l J (al h) U).1 rfl) h7) H (AN _ (.head _)) (Kw (l i hK)) (al (ar h)) λcl I D Z O' m=> .inr (AG u rfl (fJ C O' m (GY M (.head _)) (λσ r A0 he=>(AY elt O' m (I4 l) (λq=>fT q) (al (ar (ar (ar (ar h))))) he).1 rfl) λσ b A0 he=>(AY cond O' m (I4 l) (λq=>fT q) (ar (ar (ar (ar (ar h))))) he).2 rfl b rfl))) rfl
 | .CC elt i j it,so,N,Γ,K,A,x,t,σ,A0,r,O,L,l,J,h,H=>IH h λy gs sc Y h=>IG h λtg z fs h=>Gm h λts kk Xb3 h=>i2 h λta tb h=>BD h λnm V h=>BD h λnm' yF h=>iE h λh=>
   jR H λG B U H=>HX H λxs h7 H=>jE H λDq H=>by have M:=IZ (al (ar (ar (ar (ar h)))));haveI h3:=Xcw.mp (al (ar (ar h)));haveI TH:=Xcw.mp (al (ar (ar (ar h))));exact CU C O (MJ C O L M (IJ C O ((AY it O L l J (al h) U).1 rfl) h7) H (AN _ (.head _)) (fM (l i h3) (l j TH)) (al (ar h)) λcl I D Z O' m=> .inl (AH rfl (fH C O' m (GY M (.head _)) (GY M (.tail _ (.head _))) λσ r A0 he=>(AY elt O' m (Xg l) (λq=>fT q) (ar (ar (ar (ar (ar h))))) he).1 rfl))) rfl
 | .S e i,so,N,Γ,K,A,x,t,σ,A0,r,O,L,l,J,h,H=>Kj h λy z p h=>jR H λG B T H=>jR H λNW Q h5 H=>jV H λw hz H=>jZ H
   (CU C O (lr C O ((AY e O L l J (al h) T).1 rfl) ((AY i O L l J (al (ar h)) h5).1 rfl) hz (ar (ar h))) rfl)
 | .OO v i,so,N,Γ,K,A,x,t,σ,A0,r,O,L,l,J,h,H=>Kj h λy z p h=>BD h λnm p' h=>(CR (al h)).1.elim λb hb=>t9 H λys h0 H=>jR H λG B T H=>tA H λxs j h5 U H=>jI H λhj H=>jV H λw hz H=>jZ H
   (CU C O (lu C O L hb (CR (al h)).2 ((AY i O L l J (al (ar h)) T).1 rfl) h0 h5 U hj hz (ar (ar h))) rfl)
 | .H8 e hi,so,N,Γ,K,A,x,t,σ,A0,r,O,L,l,J,h,H=>Kj h λy s p h=>U8 h λnm V MN h=>Zt h λa b d Y h=>JN h λh=>JN h λh=>Ki (ar h) λz h2=>jR H λG B T H=>jR H λNW Q h5 H=>sz H λxs j U h7 H=>jI H λhj H=>jZ H
   (CU C O (lj C O ((AY e O L l J (MN▸ al h) T).1 rfl) ((AY hi O L l J h2 h5).1 rfl) U h7 hj) rfl)
 | .GK e lo hi,so,N,Γ,K,A,x,t,σ,A0,r,O,L,l,J,h,H=>Kj h λy s p h=>U8 h λnm V MN h=>Zt h λa b d Y h=>JN h λh=>Ki (al (ar h)) λz h2=>Ki (ar (ar h)) λw h3=>jR H λG B T H=>jR H λNW Q h5 H=>jR H λXb4 Xcb pG H=>t4 H λxs i j U h7 h8 H=>jI H λhj H=>jZ H
   (CU C O (lh C O ((AY e O L l J (MN▸ al h) T).1 rfl) ((AY lo O L l J h2 h5).1 rfl) ((AY hi O L l J h3 pG).1 rfl) U h7 h8 hj.1 hj.2.1 hj.2.2) rfl)
 | .F f a,so,N,Γ,K,A,x,t,σ,A0,r,O,L,l,J,h,H=>E6 h λg ys kw p h=>BD h λnm np h=>iE h λh=>i1 h λy h=>C0 h λh=>jR H λG B T H=>jW H λw hz H=>jZ H
   (CU C O (lQ C O L (G7 (al h)) (gl.b _ _ (nE f)) ((AY a O L l J (al (ar h)) T).1 rfl) hz (Aq (ar (ar h)))) rfl)
 | .min a b,so,N,Γ,K,A,x,t,σ,A0,r,O,L,l,J,h,H=>E6 h λg ys kw p h=>BD h λnm np h=>iE h λh=>i2 h λy z h=>C0 h λh=>jR H λG B U H=>jR H λNW Q h7 H=>sv H λi j h8 h9 H=>jZ H
   (CU C O (lY C O L (G7 (al h)) (gl.b _ _ (Ai 5 rfl)) ((AY a O L l J (al (ar h)) U).1 rfl) ((AY b O L l J (al (ar (ar h))) h7).1 rfl) h8 h9 (Aq (al (ar (ar (ar h))))) (Aq (ar (ar (ar (ar h)))))) rfl)
 | .J e j,so,N,Γ,K,A,x,t,σ,A0,r,O,L,l,J,h,H=>E6 h λg ys kw p h=>BD h λnm np h=>iE h λh=>i2 h λy z h=>BD h λcn cp h=>C0 h λh=>C0 (ar (ar h)) λh'=>jR H λG B U H=>jB H λb hb H=>jZ H
   (CU C O (lT C O L (G7 (al h)) (gl.b _ _ (Ai 6 rfl)) (cY (al (ar h))) (G7 (al h')) (gl.b _ _ (kD (cY (al (ar h))))) ((AY e O L l J (al (ar h')) U).1 rfl) hb (Aq (ar (ar h')))) rfl)
 | .call f args,so,N,Γ,K,A,x,t,σ,A0,r,O,L,l,J,h,H=>E6 h λg ys kw pos h=>BD h λnm np h=>iE h λh=>jA H λas B h7 H=>by
   cases ys with
   |nil=>exact fT (al h)
   |cons y ys=>exact CU C O (jm C AM gl As B5 O L (J7 args O L l J (ar (ar (ar (ar (ar (ar h)))))) h7) (eq_of_beq (al (ar h))) (Aq (al (ar (ar h)))) (al (ar (ar (ar h)))) (Aq (al (ar (ar (ar (ar h)))))) (al (ar (ar (ar (ar (ar h)))))) H) rfl
 | .Q f v args,so,N,Γ,K,A,x,t,σ,A0,r,O,L,l,J,h,H=>E6 h λg ys kw pos h=>HW h λy mn ap h=>BD h λnm np h=>iE h λh=>(CR (al h)).1.elim λb hb=>tD H λj hj H=>jA H λas B h8 H=>
   CU C O (Xaw C AM gl As B5 O L hb (CR (al h)).2 (AN j hj) (J7 args O L l J (ar (ar (ar (ar (ar (ar h)))))) h8) (eq_of_beq (al (ar h))) (Aq (al (ar (ar h)))) (al (ar (ar (ar h)))) (Xcj (al (ar (ar (ar (ar h)))))) (al (ar (ar (ar (ar (ar h)))))) H) rfl
 | .Fo e,so,N,Γ,K,A,x,t,σ,A0,r,O,L,l,J,h,H=>E6 h λg ys kw pos h=>BD h λnm np h=>i1 h λy h=>C0 (ar h) λh'=>jR H λG B U H=>jL H λxs hx H=>jP H λps hp H=>jI H λhq H=>jZ H
   (CU C O (J (al h) _ _ _ _ _ _ _ _ _ (L.PI _ (G7 (al h'))) (al (ar h')) ((AY e O L l J (al (ar (ar h'))) U).1 rfl) (Aq (ar (ar (ar h')))) hx hp hq.1 hq.2) rfl)
 | .Gb,so,N,Γ,K,A,x,t,σ,A0,r,O,L,l,J,h,H=>U3 h λa b p h=>iE h λh=>Mm h (jZ H (CU C O (λW AE s E S=>kW C O S) rfl))
theorem Sp:∀a{so:Bool}{N:List (Str×NameKind)}{Γ:CO}{K:List Nat}{A:Fm}{ys:List PySem.Expr}{σ A0:St}{xs:List Val},AU A (n+1)->Aw Γ N A->DB K A->(so=true->GS c A k)->HP k so N Γ K a ys=true->MK Φ A.np a σ=some (xs,A0)->K2 c A ys σ xs A0
 | [],so,N,Γ,K,A,ys,σ,A0,xs,O,L,l,J,h,H=>by
  cases Oq h;obtain⟨rfl,rfl⟩:=sP (show some ([],σ)=some (xs,A0)from H);exact Qd C O
 |e::a,so,N,Γ,K,A,[],σ,A0,xs,O,L,l,J,h,H=>fT h
 |e::a,so,N,Γ,K,A,y::ys,σ,A0,xs,O,L,l,J,h,H=>jR H λd B M H=>Mu H λT b D H=>by obtain⟨G,rfl⟩:=sP H;exact G▸ L6 C O ((AY e O L l J (al h) M).1 rfl) (Sp a O L l J (ar (ar h)) D) (Aq (al (ar h)))
theorem J7:∀q{so:Bool}{N:List (Str×NameKind)}{Γ:CO}{K:List Nat}{A:Fm}{ys:List PySem.Expr}{σ A0:St}{as:List AR},AU A (n+1)->Aw Γ N A->DB K A->(so=true->GS c A k)->HP k so N Γ K q ys=true->By Φ A.np q σ=some (as,A0)->
  ∀pos W M s E Q,AF c A W σ M s.heap->(∀W' s' vs,BJ c A W M s A0 W' s'->DT c A W' M s'.heap as vs->Q vs s')->wpAny (Mo c) A.A (spliced (backTo pos (starEach ys A.env))) Q E s
 | [],so,N,Γ,K,A,ys,σ,A0,as,O,L,J,T,h,H=>by
  cases Oq h;refine Ax (sP (show some ([],σ)=some (as,A0)from H)) λU V=>?_;obtain rfl:=U;obtain rfl:=V;exact λpos W M s E Q S k=>args_nil (k W s [] (.refl S) rfl)
 |e::q,so,N,Γ,K,A,ys,σ,A0,as,O,L,J,T,h,H=>by
  cases ys with
  |nil=>exact fT h
  |cons y ys=>
   haveI Y:=al h;haveI h2:=Aq (al (ar h));have h3:=ar (ar h);intro pos W M s E Q S kk;refine Xc5 ?_ (Bn h2);have l:∀G B a,ev Φ A.np e false σ=some (G,B)->By Φ A.np q B=some (a,A0)->as= .V G.fz::a->wpAny (Mo c) A.A (eval y A.env) (λv j=>wpAny (Mo c) A.A (spliced (backTo pos (starEach ys A.env))) (λvs d=>Q (v::vs) d) E j) E s:=by intro G B a h4 D e1;subst e1;exact one C O ((AY e O L J T Y h4).1 rfl) S λt j u m r=>J7 q O L J T h3 D pos t M j E _ m.S λi d vs f g=>kk i d (u::vs) (m.trans f) (CN u vs rfl (r.nx O f.nx) g)
   rw[MH]at H;cases hx:Ig e with
   |some x=>
    obtain rfl:=Xal hx;replace H:=hx▸ H;revert Y;refine λY=>U8 Y λnm p w Y=>Ax (CR Y) λG9 hd=>?_;obtain⟨b,hb⟩:=G9;cases I:σ.at x with
    |N o=>
     have H:(match σ.at x with| .N _=>_| .V _=>_|_=>_)=_:=H;rw[I]at H;refine jA H λa B D H=>?_;obtain⟨rfl,rfl⟩:=sP H;exact HZ C O L hb hd (Dt S I).1 (J7 q O L J T h3 D pos W M s E _ S λi d vs f g=>kk i d _ f (AG vs rfl g))
    |V z=>
     have H:(match σ.at x with| .N _=>_| .V _=>_|_=>_)=_:=H;rw[I]at H;refine jA H λa B D H=>?_;obtain⟨rfl,rfl⟩:=sP H;have hz:ev Φ A.np (.W x) false σ=some (.V z,σ):=by show MI A.np x σ=_;unfold MI;exact rL I rfl
     exact w▸ l (.V z) σ a hz D rfl
    |_=>
     haveI H:(match σ.at x with| .N _=>_| .V _=>_|_=>_)=_:=H;replace H:=I▸ H;exact nS H
   |none=>
    replace H:=hx▸ H;refine jR H λG B h4 H=>jA H λa Ao D H=>?_;obtain⟨rfl,rfl⟩:=sP H;exact l G B a h4 D rfl
end
end
noncomputable def EJ:PySem.Expr->Bool
 | .ListComp _ _ _ _| .SetComp _ _ _ _| .DictComp _ _ _ _ _=>true
 |_=>false
theorem CM(h:EJ v=false):swapsWith v t l env=pure false:=by
 cases v<;>first|rfl|exact tF h
section
variable {c:Cx}(C:c.Ok){φ:Fm}{n:Nat}(O:AU φ n)
include C O
theorem Xbl{σ:St}(sm:B4 s d)(nx:Nx φ.F W s.heap g d.heap)(k:∀i,i<φ.np->z i=M i)(p:HH c φ g z d A0 l):Fx c φ W M s .next A0 .next l:=by refine AB λJ=>B8 p λI u w=>?_;obtain⟨b,a,S,G⟩:=w;exact J (BM I u ⟨sm.trans b,nx.trans a,S,λi e=>(G i e).trans (k i e),rfl⟩)
theorem Ft{AA:St}(P:BJ c φ W M s AA g d)(p:HH c φ g M d A0 l):Fx c φ W M s .next A0 .next l:=
 Xbl C O (σ:=A0) P.sm P.nx (λU U=>rfl) p
theorem Jg(P:BJ c φ W M s A0 g d):HH c φ W M s A0 d:=(BM g M ⟨P.sm,P.nx,P.S,λU U=>rfl⟩)
variable {N:List (Str×NameKind)}{Γ:CO}(en:Aw Γ N φ)
include en
theorem Xa9(B:Γ.lookup x=some (i,b))(h:Ac c φ (eval e φ.env) σ r AA)(f:Bb φ.np i (AA.at i)=true)(y:EJ e=false):
  BP c φ (exec (.Assign [.Name x p] e pos) φ.env) σ .next (AA.set i (.V r.fz)):=λW M s E S=>
 Xew (one C O h S λg d u P R=>FA C O en B P.S (Dz C O f) R λl a=>Ft C O P (Jg C O a)) (CM y)
theorem Xbd(B:Γ.lookup x=some (i,b))(h:Ac c φ (eval e φ.env) σ (.M o) AA)(a:Bb φ.np i (AA.at i)=true)(m:φ.np<=i)(y:EJ e=false):
  BP c φ (exec (.Assign [.Name x p] e pos) φ.env) σ .next (AA.set i (.N o)):=λW M s E S=>
 Xew (NK C O h S λg d u P R=>Vf C O en B P.S (Dz C O a) m R λl p=>Ft C O P p) (CM y)
theorem RD(hx:Γ.lookup x=some (i,b))(l:Ip Γ scope AV){step:Val->St->Option (Option Val×St)}(hit:Lb c φ w σ xs AA)(A:H7 step (AV.map (·.2)) xs AA=some (r,A0))(Kb:∃p,p∈AV)(L:∀p∈AV,(φ.slots p.2).at=φ.L)(Cs:H4 w=true)
  (H:∀cl I D Z,AU (Cj φ scope cl D AV Z) n->Aw (Ej Γ scope.names AV) scope.names (Cj φ scope cl D AV Z)->(ifs=[]/\FH c (Cj φ scope cl D AV Z) I k step (Kl c (Cj φ scope cl D AV Z) elt))\/∃t,ifs=[t]/\FH c (Cj φ scope cl D AV Z) I k step (Mp c (Cj φ scope cl D AV Z) elt t))
  (hp:Bb φ.np i (A0.at i)=true):BP c φ (exec (.Assign [.Name x p] (.ListComp elt [⟨k,w,ifs,0⟩] scope d) pos) φ.env) σ .next (A0.set i (.V r.fz)):=by
 intro W M s E S;haveI h:swapsWith (.ListComp elt [⟨k,w,ifs,0⟩] scope d) (some (.Name x p)) pos.line φ.env=pure (φ.env.blockKind== .function&&φ.env.kindOf x==some .local&&p.line==d.line&& !(scope.names.any λq=>q.1==x&&(q.2== .local||q.2== .cell))):=by rfl
 cases V:(φ.env.blockKind== .function&&φ.env.kindOf x==some .local&&p.line==d.line&& !(scope.names.any λq=>q.1==x&&(q.2== .local||q.2== .cell)))with
 |false=>
  replace h:=V▸ h;exact Xew (one C O (MJ C O en l hit A Kb L Cs H) S λDC BL u P R=>FA C O en hx P.S (Dz C O hp) R λT P'=>Ft C O P (Jg C O P')) h
 |true=>
  replace h:=V▸ h;refine ae A λhc EI ys Ao IE TX A=>Ax (sP A) λJ8 BV=>?_;obtain rfl:=BV;refine rR J8 (AB λkk=>AJ (XF C O en l) λcl JE TQ=>kk ?_);refine rL (exec_Assign_Name_used _ _ _ _ h) (Xcd (wpAny_standAt (Xcd ?_)));refine Xcd (Xcv (Xga rfl (MS Cs) JE l.kind (ZR C O en l)
   (hit W M s E _ S λWb sb I DC BL P X=>?_)) (λU T hq=>Xcp (Xcp hq)) λU U e=>e)
  refine XI C O en l X TQ Kb L (cS hc) EI IE (dJ TX) (H cl I) λW' T v D sm nx G R J hD FY=>AK hD λm hm=>AB λkk=>Bh (DW.freeze C O G R) λa ea Y VF=>?_;refine kk (AB λkk=>?_);cases ea;refine kk ?_;haveI wD:W' D/\D≠v:=(AH J.w (Ne.symm FY));let Q:=φ.plus (·=D)
  haveI bV:=λf=>G.MW D (O.FM D f) J.w;haveI pV:∃o,T.heap.get? D=some o:=Aj hm λo _ _ q _=>(AN o q);haveI B:AU Q n:=O.plus _;haveI K4:AF c Q (λb=>(W' b/\b≠v)/\b≠D) _ M T.heap:=Y.N8 C O (X:=λU=>False) rfl rfl rfl rfl (λU q=>q.elim) (λU U U e=>e) (λb o e z q=>by
   rcases q with(q|q)|q
   ·exact z (.inl q)
   ·exact z (.inr (q▸ wD))
   ·exact z (.inr q.1)) (λb q=>Y.off b q.1) (λi=>(AH (Y.sw i) (J.sl i))) (λj hj b V=>(AH (Y.Bc j hj b V) λq=>J.ow j hj (q▸ V))) (AH Y.LW λq=>J.nL q.symm) (λa ha=>(AH (Y.tW a ha) λq=>J.nt (q▸ ha)))
   (λb V q=>V.elim (λV=>Y.MW b V q.1) λV=>q.2 V) λb V=>V.elim (Y.MA b) λV=>V▸ pV
  haveI Lr:AZ (c.prog,c.w) c.fl (Ex Q λb=>(W' b/\b≠v)/\b≠D) T.heap (OV.list ys).fz (.ref v):=AZ.mono (λb o z e=>(AH e (λq=>by
   rcases q with(q|q)|q
   ·exact z (.inl q)
   ·exact z (.inr (q▸ wD))
   ·exact z (.inr q.1)))) _ VF
  refine Xek (FA C B (en.plus (·=D)) hx K4 (Dz C O hp) Lr λLA y=>?_)
  have gD:=λo e=>(y.nx.1 D o (λq=>q.2 rfl) e).1 bV;refine(AG m (Aj hm λo e1 e2 g r=>⟨o,e1,e2,gD o g,r⟩) λh' sb=>?_);haveI Ri:=y.S.N8 C B (AD:=φ) (X:=λb=>b=D) rfl rfl rfl rfl (λb q=>q▸ (AX (.inr rfl) bV (G.off D J.w))) (λb o V e=>(sb.2 b V).trans e) (λb o e z q=>z (q.imp .inl id)) (λb q=>G.off b q.1.1)
   y.S.sw y.S.Bc y.S.LW y.S.tW (λb V q=>G.MW b V q.1.1) λb V=>AK (y.S.MA b (.inl V)) λo e=>(AN o ((sb.2 b λq=>G.MW b V (q▸ J.w)).trans e))
  haveI n4:Nx φ.F W' T.heap (λb=>(W' b/\b≠v)/\b≠D) h':=
   (AH ((y.nx.1.weaken (λb q=>q.1.1) λU U q=>q).trans (Ch.sameBut sb J.w) λb z U q=>z q) λb q=> .inl q.1.1)
  exact(BM _ M ⟨(P.sm.trans sm).trans (y.sm.trans ⟨rfl,rfl,rfl⟩),(P.nx.trans nx).trans n4,Ri,λU U=>rfl,rfl⟩)
end
set_option backward.match.sparseCases true
theorem ki(h:a≠b):([a,b]:List Str).eraseDups=[a,b]:=by
 refine rL List.eraseDups_cons ?_;have:([b]).filter (λx=> !x==a)=[b]:=by simp[Ne.symm h]
 refine rL this (rL List.eraseDups_cons ?_);simp
noncomputable def Eb(env:Env)(l:Nat)(e:PySem.Expr):Option Str:=match e with
 | .Name i a=>if env.kindOf i==some .local&&a.line==l then some i else none
 |_=>none
theorem eY(env:Env)(ts vs:List PySem.Expr)(k G:Nat)(p O:Pos):∃B,swappedStores [.Tuple ts k p] (.Tuple vs G O) env=
  if(!(ts.length==2||ts.length==3)||vs.length !=ts.length||env.blockKind != .function)=true then pure none else if vs.any Av=true then pure none else
  if((ts.filterMap (Eb env ((ts.head?.map (·.pos.line)).getD 0))).length !=ts.length||(ts.filterMap (Eb env ((ts.head?.map (·.pos.line)).getD 0))).eraseDups.length !=(ts.filterMap (Eb env ((ts.head?.map (·.pos.line)).getD 0))).length)=true then pure none else
  if vs.all (foldedForSure 8)=true then pure none else if vs.all (constantsAlone 8)=true then B else pure (some (ts.filterMap (Eb env ((ts.head?.map (·.pos.line)).getD 0)))):=⟨_,rfl⟩
theorem YK:∀{ts:List PySem.Expr}{ns:List Str},ts.map f=ns.map some->ts.filterMap f=ns
 | [],[],_=>rfl
 |t::ts,n::ns,h=>rL (List.filterMap_cons_some (Xhz h).1) (rL (YK (Xhz h).2) rfl)
theorem eZ(Y:(!(ts.length==2||ts.length==3)||vs.length !=ts.length||env.blockKind != .function)=false)(I:vs.any Av=false)
  (g:ts.map (Eb env ((ts.head?.map (·.pos.line)).getD 0))=ns.map some) (u:(ns.length !=ts.length||ns.eraseDups.length !=ns.length)=false) (t:vs.all (foldedForSure 8)=false) (y:vs.all (constantsAlone 8)=false):swappedStores [.Tuple ts k p] (.Tuple vs G O) env=pure (some ns):=by refine AB λJ=>?_;obtain⟨B,e⟩:=eY env ts vs k G p O;rw[YK g]at e;exact J (e.trans ((Xcm (Xfc.mp Y)).trans ((Xcm (Xfc.mp I)).trans ((Xcm (Xfc.mp u)).trans ((Xcm (Xfc.mp t)).trans (Xcm (Xfc.mp y)))))))
theorem aW{m:Type}{c:Prop}[Decidable c]{x y:m}(h:¬c->y=x):(if c then x else y)=x:=by
 by_cases q:c
 ·exact Xck q
 ·exact(Xcm q).trans (h q)
theorem Xad{I n:PySem.Expr}(Y:Av I=false)(T:Av n=false):[I,n].any Av=false:=by show(Av I||(Av n||false))=false;refine rL Y (rL T ?_);rfl
theorem Wr{env:Env}(L:env.scope.kind= .function):env.blockKind= .function:=by unfold Env.blockKind;refine rL L ?_;rfl
theorem Nl(h:env.kindOf a=some .local)(b:(p.line==l)=true):Eb env l (.Name a p)=some a:=Xck (by refine rL h (rL b ?_);rfl)
theorem Vm(L:env.scope.kind= .function)(ha:env.kindOf a=some .local)(V:env.kindOf b=some .local)(c:(pb.line==pa.line)=true)(x:a≠b)(Y:Av I=false)(T:Av n=false)
  (t:([I,n].all (foldedForSure 8))=false) (y:([I,n].all (constantsAlone 8))=false):swappedStores [.Tuple [.Name a pa,.Name b pb] tk tp] (.Tuple [I,n] vk vp) env=pure (some [a,b]):=
 eZ (by refine rL (Wr L) ?_;rfl) (Xad Y T) (by show[Eb env pa.line _,Eb env pa.line _]=_;refine rL (Nl ha (Xf3 _)) (rL (Nl V c) ?_);rfl) (by refine rL (ki x) ?_;rfl) t y
theorem zg(Y:Av I=false)(T:Av n=false)(h:¬(env.kindOf a=some .local/\env.kindOf b=some .local/\(pb.line==pa.line)=true)):
  swappedStores [.Tuple [.Name a pa,.Name b pb] tk tp] (.Tuple [I,n] vk vp) env=pure none:=by
 refine AB λJ=>?_;obtain⟨B,e⟩:=eY env [.Name a pa,.Name b pb] [I,n] tk vk tp vp;refine J (e.trans (aW λU=>aW λU=>Xck ?_));show(([PySem.Expr.Name a pa,.Name b pb].filterMap (Eb env pa.line)).length !=2||_)=true;have V:∀{x p},Eb env pa.line (.Name x p)=none\/env.kindOf x=some .local/\(p.line==pa.line)=true:=λ{x p}=>by
  by_cases q:(env.kindOf x==some .local&&p.line==pa.line)=true
  ·exact .inr ⟨Xej.mp (Xdn.mp q).1,(Xdn.mp q).2⟩
  ·exact .inl (Xcm q)
 have c:([PySem.Expr.Name a pa,.Name b pb].filterMap (Eb env pa.line)).length<2:=by
  have le:∀e:PySem.Expr,([e].filterMap (Eb env pa.line)).length<=1:=λe=>List.length_filterMap_le _ _;rcases V with q|q
  ·exact rL (Xh0 q) (Xgl (le _))
  ·rcases V (p:=pb)with q'|q'
   ·exact rL (show[PySem.Expr.Name a pa,.Name b pb]=[PySem.Expr.Name a pa]++[.Name b pb]from rfl) (rL (List.filterMap_append ..) (rL (Xh0 q' ..) (rL (List.filterMap_nil ..) (rL (Xcz ..) (Xgl (le _))))))
   ·exact absurd (AX q.1 q'.1 q'.2) h
 refine rL (Xez.mpr (Xdb c)) ?_;rfl
set_option backward.match.sparseCases false
section
variable {c:Cx}(C:c.Ok){φ:Fm}{n:Nat}(O:AU φ n)
include C O
theorem DW.kept(S:AF c φ W σ AE h)(R:DW c φ W σ AE h r v)(x:Ch (λb=>φ.F b\/b=φ.L) (λu=>False) h h'):DW c φ W σ AE h' r v:=by
 have k:∀b o,¬Ex φ W b->h.get? b=some o->h'.get? b=some o:=λb o d e=>(x b o (λq=>q) e).1 λq=>q.elim (λq=>d (.inl (O.FM b q))) λq=>d (.inr (q▸ S.LW));cases r with
 |V y=>exact AZ.mono (λb o d e=>⟨k b o d e,d⟩) y R
 |M o=>
  refine AB λt=>?_;obtain⟨a,rfl,g,p,i,j,f,l,m⟩:=R;refine t ⟨a,rfl,g,p.mono C λb s hb e=>⟨?_,id⟩,i,j,f,l,m⟩;rcases hb with hb|hb
  ·exact k b s hb e
  ·rw[Xcc.mp hb]at e ⊢;refine(x a s (λq=>q) e).1 λq=>?_;rcases q with q|q
   ·exact S.MW a (O.FM a q) g
   ·exact Xf4 f q
theorem set_comm{σ:St}(h:i≠j):(σ.set i x).set j y=(σ.set j y).set i x:=List.set_comm x y h
theorem Qa{σ:St}(B:x.on)(h:(σ.at j).on):(St.at (σ.set i x) j).on:=by
 refine rL FN ?_;split
 ·exact B
 ·exact h
theorem HN(h:wpAny M A (storeName env x v) Q E s):wpAny M A (bindName env x v) Q E s:=wpAny_bindName h
variable {N:List (Str×NameKind)}{Γ:CO}(en:Aw Γ N φ)
include en
theorem JP(B:Γ.lookup x=some (i,false)):φ.env.kindOf x=some .local:=(en.vars x i false B).1
theorem Xba{i j:Nat}(ha:Γ.lookup a=some (i,f))(V:Γ.lookup b=some (j,g))(D:i≠j){σ AA d:St}{G v:RV}(h1:Ac c φ (eval I φ.env) σ G AA)(h2:Ac c φ (eval h φ.env) AA v d)
  (J:Av I=false) (L:Av h=false) (Y:Bb φ.np i (d.at i)=true) (p2:Bb φ.np j (d.at j)=true) (hf:([I,h].all (foldedForSure 8))=false) (hc:([I,h].all (constantsAlone 8))=false) (A:a≠b):
  BP c φ (exec (.Assign [.Tuple [.Name a pa,.Name b pb] tk tp] (.Tuple [I,h] vk vp) pos) φ.env) σ .next ((d.set i (.V G.fz)).set j (.V v.fz)):=by
 intro W M s E S;haveI Q:=Xq C O (k:=vk) (pos:=vp) (L6 C O h1 (L6 C O h2 (Qd C O) L) J) (show[G.fz,v.fz].length<=1000000 by simp);by_cases q:φ.env.kindOf a=some .local/\φ.env.kindOf b=some .local/\(pb.line==pa.line)=true
 ·refine Xfx (one C O Q S λp x u P R=>AB λkk=>?_) rfl (Vm O.ek q.1 q.2.1 q.2.2 A J L hf hc);obtain⟨t,vs,m,z,nt,gt,_,r⟩:=R;obtain⟨u,_,rfl,hu,w,_,rfl,hw,rfl⟩:=r;refine kk (rL z (Xep O.hand (items:=[u,w].toArray) (BS _ gt rfl (AN m rfl)) λh' hk=>?_));haveI T:=λb o e=>hk b o (λq=>nH q Bg e) e;have B:BJ c φ p M x d p {x with heap:=h'}:=⟨(AX rfl rfl rfl),(AH (.keeps T) λu0 q=> .inl q),P.S.kept C O (.keeps T)⟩;exact Xcd (Xdj (HN C O (FA C O en V B.S (Dz C O p2) (hw.nx O B.nx) λHk l=>Xcd (Xdj (HN C O (FA C O en ha l.S (Qa C O trivial (Dz C O Y)) ((hu.nx O B.nx).nx O l.nx) λLA y=>Xcp (rL (set_comm C O D) (Ft C O P (Jg C O ((B.trans l).trans y))))))))))
 ·exact Assign_Tuple (one C O Q S λp x u P R=>(OS C O en ha V P.S (Dz C O Y) (Dz C O p2) R λs' P'=>Ft C O P (Jg C O P'))) rfl (zg J L q)
theorem Xbj(ha:Γ.lookup a=some (i,f))(V:Γ.lookup b=some (j,g))(h:Ac c φ (eval e φ.env) σ r d)(o:r.fz= .T [x,y])
  (H:Bb φ.np i (d.at i)=true) (z:Bb φ.np j (d.at j)=true) (I:EJ e=false) (hw:swappedStores [.Tuple [.Name a pa,.Name b pb] tk tp] e φ.env=pure none):
  BP c φ (exec (.Assign [.Tuple [.Name a pa,.Name b pb] tk tp] e pos) φ.env) σ .next ((d.set i (.V x)).set j (.V y)):=λW M s E S=>
 Assign_Tuple (one C O h S λk l u P R=>OS C O en ha V P.S (Dz C O H) (Dz C O z) (o▸ R) λp m=>Ft C O P (Jg C O m)) (show swapsWith e (some (.Tuple [.Name a pa,.Name b pb] tk tp)) pos.line φ.env=pure false from CM I) hw
theorem Xbc(ha:Γ.lookup a=some (i,false))(hb:Γ.lookup b=some (j,false))(Dq:i≠j)(h1:Ac c φ (eval LO φ.env) σ yl AA)(h2:Ac c φ (eval LP φ.env) AA (.M o) Ao)
  (s1:Av LO=false) (s2:Av LP=false) (p1:Bb φ.np i (Ao.at i)=true) (p2:Bb φ.np j (Ao.at j)=true) (JI:φ.np<=j) (hf:([LO,LP].all (foldedForSure 8))=false) (hc:([LO,LP].all (constantsAlone 8))=false) (KY:a≠b) (hl:(pb.line==pa.line)=true):
  BP c φ (exec (.Assign [.Tuple [.Name a pa,.Name b pb] tk tp] (.Tuple [LO,LP] vk vp) pos) φ.env) σ .next ((Ao.set i (.V yl.fz)).set j (.N o)):=by
 intro W AE s E S;refine Xfx (Xht (Xc5 (one C O h1 S λDC BL u Im K1=>Xc5 (NK C O h2 Im.S λHt Hk v K0 Rf=>args_nil (AH (Xch rfl) ?_)) (Bn s2)) (Bn s1))) rfl (Vm O.ek (JP C O en ha) (JP C O en hb) hl KY s1 s2 hf hc);haveI k1:Ch (λb=>φ.F b\/b=φ.L) (λu0=>False) Hk.heap (Hk.heap.push {cls:= .type "tuple",data:= .seq [u,v].toArray}):= .push _;refine Xep O.hand (items:=[u,v].toArray) (BS _ (Xcn _ rfl) rfl (AN 0 rfl)) λh' hk=>?_;have keep:=λb o e=>hk b o (λq=>by
  haveI:=Xdt e;rw[q]at this;haveI e2:({Hk with heap:=Hk.heap.push {cls:= .type "tuple",data:= .seq [u,v].toArray}}).heap.objs.size=Hk.heap.objs.size+1:=Xd0 _ _;rw[e2]at this;exact Xd2 _ (Xhv this)) (Xcf _ e)
 have RY:BJ c φ Ht AE Hk Ao Ht {Hk with heap:=h'}:=⟨(AX rfl rfl rfl),(AH (.keeps keep) λu0 q=> .inl q),K0.S.kept C O (.keeps keep)⟩;haveI i9:=DW.kept C O K0.S Rf (.keeps keep);refine Xcd (Xdj (HN C O (Vf C O en hb RY.S (Dz C O p2) JI i9 λLA V7=>AB λkk=>B8 V7 λEw nO Ap=>?_)));obtain⟨zL,cQ,Lp,JQ⟩:=Ap;refine kk (Xcd (Xdj (HN C O (FA C O en ha Lp (Qa C O trivial (Dz C O p1)) (((K1.nx O K0.nx).nx O RY.nx).nx O cQ) λLF RZ=>Xcp (rL (set_comm C O Dq) ?_)))));haveI PT:=((Im.trans K0).trans RY);exact(BM Ew nO ⟨(PT.sm.trans zL).trans RZ.sm,(PT.nx.trans cQ).trans RZ.nx,RZ.S,JQ,rfl⟩)
theorem Xbb(ha:Γ.lookup a=some (i,false))(V:Γ.lookup b=some (j,false))(Dq:i≠j)(h1:Ac c φ (eval I φ.env) σ (.M o) AA)(Tr:AA.at t= .O)(Ts:t<AA.length)
  (h2:Ac c φ (eval g φ.env) (AA.set t (.P o)) h d) (ht:d.at t= .P (.list xs)) (rV:t≠i) (Zf:t≠j)
  (s1:Av I=false) (s2:Av g=false) (p1:Bb φ.np i (d.at i)=true) (p2:Bb φ.np j (d.at j)=true) (JI:φ.np<=i) (rW:φ.np<=t) (hf:([I,g].all (foldedForSure 8))=false) (hc:([I,g].all (constantsAlone 8))=false) (KY:a≠b) (hl:(pb.line==pa.line)=true):
  BP c φ (exec (.Assign [.Tuple [.Name a pa,.Name b pb] tk tp] (.Tuple [I,g] vk vp) pos) φ.env) σ .next (((d.set t .O).set i (.N (.list xs))).set j (.V h.fz)):=by
 intro W M s E S;refine Xfx (Xht (Xc5 (NK C O h1 S λY BL u l r=>Xc5 (AB λkk=>?_) (Bn s2)) (Bn s1))) rfl (Vm O.ek (JP C O en ha) (JP C O en V) hl KY s1 s2 hf hc);obtain⟨A,Ss,hW,hO,q1,q2,q3,q4,q5⟩:=r;refine kk (rL Ss ?_);haveI ST:AF c φ Y (AA.set t (.P o)) (λm=>if m=t then [A]else M m) BL.heap:=l.S.NN Ts Tr [A] (AH (λb V=>Xcc.mp V▸ hW) hO) (λz=>z.elim) λu0=>(DR (λm z=>q2 m (Xcc.mp z)) (λm D b V z=>q1 m D (Xcc.mp V▸ z)) (λz=>Xdb q3 (Xcc.mp z)) λb V=>Xcc.mp V▸ q4);refine one C O h2 ST λQ f v p J=>args_nil (AH (Xch rfl) (Xep O.hand (items:=[.ref A,v].toArray) (BS _ (Xcn _ rfl) rfl (AN 0 rfl)) λh' hk=>?_));have T:=λb o e=>hk b o (λq=>by
  haveI:=Xdt e;rw[q]at this;haveI e2:({f with heap:=f.heap.push {cls:= .type "tuple",data:= .seq [.ref A,v].toArray}}:Shared).heap.objs.size=f.heap.objs.size+1:=Xd0 _ _;rw[e2]at this;exact Xd2 _ (Xhv this)) (Xcf _ e)
 have B:BJ c φ Q (λm=>if m=t then [A]else M m) f d Q {f with heap:=h'}:=⟨(AX rfl rfl rfl),(AH (.keeps T) λu0 q=> .inl q),p.S.kept C O (.keeps T)⟩;refine Xcd (Xdj (HN C O (FA C O en V B.S (Dz C O p2) (J.nx O B.nx) λLA y=>?_)));have x:St.at (d.set j (.V h.fz)) t= .P (.list xs):=rL (Ca Zf) ht;haveI lt:=y.S.lv t;rw[x]at lt;simp only[Xf2]at lt;haveI L:(St.at (d.set j (.V h.fz)) t).Az:=rL x trivial;haveI SD:=y.S.drop t;haveI vZ:St.at (d.set j (.V h.fz)) t≠.O:=by refine rL x ?_;simp
 haveI r:DW c φ Q ((d.set j (.V h.fz)).set t .O) (λm=>if m=t then [A]else M m) LA.heap (.M (.list xs)) (.ref A):=by
  refine⟨A,rfl,lt.1 A (.head _),lt.2,λm D z=>?_,λm z=>?_,q3,q4,λk z=>by cases z⟩
  ·rw[F8 C O vZ]at D;by_cases e:m=t
   ·rw[Xck e]at D;exact D.elim
   ·rw[Xcm e]at D;haveI:=y.S.oo m t e D L A z;simp at this
  ·haveI:=y.S.so m t L;simp only[Xf2]at this;exact this (z▸ .head _)
 haveI V2:(St.at ((d.set j (.V h.fz)).set t .O) i).on:=rL (Ca (Ne.symm rV)) (Qa C O trivial (Dz C O p1));refine Xcd (Xdj (HN C O (Vf C O en ha SD V2 JI r λLF V8=>Xcp (AB λkk=>B8 V8 λOI w Ap=>?_))));obtain⟨H,G,U,IK⟩:=Ap;refine kk ?_;haveI e:((d.set t .O).set i (.N (.list xs))).set j (.V h.fz)=((d.set j (.V h.fz)).set t .O).set i (.N (.list xs)):=rL (set_comm C O Dq) (rL (set_comm C O Zf) rfl);refine rL e (BM OI w ⟨(((l.sm.trans p.sm).trans B.sm).trans y.sm).trans H,(((l.nx.trans p.nx).trans B.nx).trans y.nx).trans G,U,λm D=>(IK m D).trans (Xcm (Xdb (Xdg D rW))),rfl⟩)
end
theorem II(h:Cu l=true):∃o,l= .N o:=by
 cases l<;>first|exact⟨_,rfl⟩|exact fT h
theorem aO(h:Mr l=true):∃xs,l= .N (.list xs):=by
 cases l with
 |N o=>cases o<;>first|exact⟨_,rfl⟩|exact fT h
 |_=>exact fT h
theorem lL{l:St->Option (RV×St)}{e:St->Option (FR×St)}{z:FR×St}(h:F0 l e k σ=some z):∃j,k=j+1/\F0 l e (j+1) σ=some z:=by
 cases k with
 |zero=>exact nS h
 |succ j=>exact(AG j rfl h)
inductive WH(c:Cx)(φ:Fm)(W:Addr->Prop)(AE:Nat->List Addr)(s:Shared)(tv:St->Option (RV×St))(bv:St->Option (FR×St))(fr:FR)(A0:St)(k:Nat)(BL:Shared)(AA:St)(DC:Addr->Prop)(JB:Nat->List Addr):Prop
 |mk (sm:B4 s BL)(nx:Nx φ.F W s.heap DC BL.heap)(S:AF c φ DC AA JB BL.heap)(hk:∀i,i<φ.np->JB i=AE i)(e:F0 tv bv k AA=some (fr,A0))
section
variable {c:Cx}(C:c.Ok){φ:Fm}{n:Nat}(O:AU φ n)
include C O
theorem RE(P:BJ c φ W M s AA g d)(p:Fx c φ g M d fr A0 f l):Fx c φ W M s fr A0 f l:=
 by exact B8 p λI u p=>(BM I u ({p with sm:=P.sm.trans p.sm,nx:=P.nx.trans p.nx}))
theorem Xbm(sm:B4 s d)(nx:Nx φ.F W s.heap g d.heap)(k:∀i,i<φ.np->z i=M i)(p:Fx c φ g z d fr A0 f l):Fx c φ W M s fr A0 f l:=
 let⟨I,u,b,a,S,G,h⟩:=p;(BM I u ⟨sm.trans b,nx.trans a,S,λi e=>(G i e).trans (k i e),h⟩)
variable {N:List (Str×NameKind)}{Γ:CO}(en:Aw Γ N φ)
include en
theorem fy(hx:Γ.lookup x=some (i,b))(J:(x=="__debug__")=false)(Y:Ac c φ (eval v φ.env) σ r AA)(T:Ac c φ (eval e φ.env) AA y d)(o1:∃o,AA.at i= .N o)(I:EJ v=false)
  (V:(∃xs j,d.at i= .N (.list xs)/\y.fz= .int j/\0<=j/\j<xs.length/\A0=d.set i (.N (.list (xs.set j.toNat r.fz))))\/(∃l xs k,d.at i= .N (.dict l xs)/\y.fz= .str k/\l.length<=100000/\A0=d.set i (.N (.dict (Cr k r.fz l xs).1 (Cr k r.fz l xs).2)))):
  BP c φ (exec (.Assign [.Subscript (.Name x p) e sp] v pos) φ.env) σ .next A0:=by
 intro W B s E S;obtain⟨o,L⟩:=o1;refine PySem.wpAny_Assign_Subscript (one C O Y S λm z u f h=>HZ C O en hx J (Dt f.S L).1 (one C O T f.S λQ A w a g=>?_)) (CM I);rcases V with⟨xs,j,H,M,D,G,rfl⟩|⟨l,xs,k,H,M,D,rfl⟩
 ·rw[M]at g;obtain⟨t,rfl⟩:=g;exact Xcv (yu C O a.S H D G (h.nx O a.nx)) (λU s' q=>Ft C O (f.trans a) q) λU U x=>x
 ·rw[M]at g;obtain⟨⟨t,rfl⟩,_⟩:=g;exact Xcv (yr C O a.S H D (h.nx O a.nx)) (λU s' q=>Ft C O (f.trans a) q) λU U x=>x
theorem bC(S:AF c φ W σ M s.heap)(j:σ.at i= .N (.list xs)){id:String}(d:PySem.Slot "list" nm id)(f:typeOf (.builtin id)=pure (.type "method_descriptor"))
  (h:Q (.builtin id,[.ref ((M i).headD 0)]) s):wpAny (Mo c) φ.A (getMethod (.ref ((M i).headD 0)) nm l) Q E s:=by
 obtain⟨_,a,p,m,e,g,k,r⟩:=Dt S j;rw[e]at h ⊢;exact getMethod_builtin (AG _ g rfl) PySem.F.plainAttrs_list d f (λb V=>by cases V;exact(AG _ g rfl)) h
theorem Xa8(B:Γ.lookup x=some (i,b))(f:(x=="__debug__")=false)(h:Ac c φ (eval e φ.env) σ r AA)(Q:σ.at i= .N (.list ys))(Y:AA.at i= .N (.list xs))(j:xs.length<=100000)(I:Av e=false)(m:(a.endLine==cp.line)=true):
  BP c φ (exec (.Expr (.Call (.Attribute (.Name x p) "append" a) [e] [] cp) pos) φ.env) σ .next (AA.set i (.N (.list (xs++[r.fz])))):=λW M s E S=>
 Xes (Xe5 (HZ C O en B f (Dt S Q).1 (bC C O en S Q PySem.slot_list_append PySem.type_list_append
  (Xf5 (Xc5 (one C O h S λg d u P R=>args_nil (Xcv (ic C O P.S Y j R) (λU l q=>Ft C O P q) λU U x=>x)) (Bn I)) (Bn I)))) (JV (by simp[Be,I]) (Xch rfl) m)) (by unfold interactive;refine rL O.ek ?_;rfl) (CM rfl)
theorem Xbf(B:Γ.lookup x=some (i,b))(f:(x=="__debug__")=false)(h:Ac c φ (eval e φ.env) σ r AA)(k:r.fz= .list ys)(Q:σ.at i= .N (.list T))(Y:AA.at i= .N (.list xs))(j:xs.length+ys.length<=100000)(I:Av e=false)(m:(a.endLine==cp.line)=true):
  BP c φ (exec (.Expr (.Call (.Attribute (.Name x p) "extend" a) [e] [] cp) pos) φ.env) σ .next (AA.set i (.N (.list (xs++ys)))):=λW M s E S=>
 Xes (Xe5 (HZ C O en B f (Dt S Q).1 (bC C O en S Q Xhy PySem.F.type_list_extend
  (Xf5 (Xc5 (one C O h S λg d u P R=>args_nil (Xcv (mP C O P.S Y j (k▸ R)) (λU l q=>Ft C O P q) λU U x=>x)) (Bn I)) (Bn I)))) (JV (by simp[Be,I]) (Xch rfl) m)) (by unfold interactive;refine rL O.ek ?_;rfl) (CM rfl)
theorem Xbe(h:Ac c φ (eval e φ.env) σ r AA)(y:EJ e=false):BP c φ (exec (.Expr e pos) φ.env) σ .next AA:=λW M s E S=>
 Xes (one C O h S λg d u P R=>Ft C O P (Jg C O (.refl P.S))) (by unfold interactive;refine rL O.ek ?_;rfl) (CM y)
theorem fv(h:Ac c φ (eval e φ.env) σ r AA):BP c φ (exec (.Return (some e) pos) φ.env) σ (.ret r) AA:=λW M s E S=>
 Xfs (NK C O h S λg d u P R=>(BM g M ⟨P.sm,P.nx,P.S,λU U=>rfl,u,rfl,R⟩))
theorem Xbh(h:ES c φ (isTrue t φ.env (eval t φ.env)) σ k AA)(Y:k=true->BP c φ (execs a φ.env) AA fr A0)(T:k=false->BP c φ (execs b φ.env) AA fr A0):BP c φ (exec (.If t a b pos) φ.env) σ fr A0:=λW M s E S=>
 wpAny_If (GF C O h S λg d P=>by
  cases k with
  |true=>exact Xcv (Y rfl g M d E P.S) (λU U q=>RE C O P q) λU U x=>x
  |false=>exact Xcv (T rfl g M d E P.S) (λU U q=>RE C O P q) λU U x=>x)
theorem gB:BP c φ (execs [] φ.env) σ .next σ:=λW M s E S=>Xdm (Ft C O (.refl S) (Jg C O (.refl S)))
theorem Jq{st:Stmt}(Y:BP c φ (exec st φ.env) σ fr AA)(T:fr= .next->BP c φ (execs rest φ.env) AA b A0)(H:∀r,fr= .ret r->b= .ret r/\A0=AA):BP c φ (execs (st::rest) φ.env) σ b A0:=λW M s E S=>
 Xct (Xcv (Y W M s E S) (λf d p=>by
  obtain⟨g,z,j,h,a,L,e⟩:=p;cases fr with
  |next=>
   have e:=e;exact rL e (Xcv (T rfl g z d E a) (λU U q=>Xbm C O j h L q) λU U x=>x)
  |ret r=>
   refine AB λJ=>AJ e λv G R=>Ax (H r rfl) λu G=>?_;obtain rfl:=u;obtain rfl:=G;exact J (G▸ (BM g z ⟨j,h,a,L,v,rfl,R⟩))) λU U x=>x)
end
section
variable {c:Cx}(C:c.Ok){φ:Fm}{n:Nat}(O:AU φ n){N:List (Str×NameKind)}{Γ:CO}(en:Aw Γ N φ)
include C O en
theorem WC{step:Val->St->Option (FR×St)}(i:Lb c φ e σ xs AA)(B:H4 e=true)(G:Em step xs AA=some (fr,A0))
  (H:∀I,∀x σ fr A0,step x σ=some (fr,A0)->∀W M s v E,AF c (φ.plus (·=I)) W σ M s.heap->AZ (c.prog,c.w) c.fl (Ex (φ.plus (·=I)) W) s.heap x v->(∀y D k pos l Q E,x= .T y->l.heap=s.heap->Q () l->wpAny (Mo c) φ.A (letOwnedTupleGo (.Tuple D k pos) (.ref I) v) Q E l)->
   wpAny (Mo c) φ.A (letOwnedTupleGo a (.ref I) v) (λU d=>wpAny (Mo c) φ.A (assign a φ.env v) (λU h=>wpAny (Mo c) φ.A (execs body φ.env) (Fx c (φ.plus (·=I)) W M s fr A0) E h) E d) E s):
  BP c φ (exec (.For a e body [] pos) φ.env) σ fr A0:=by
 intro W M s E S;refine wpAny_For (i W M s E _ S λT Y I g d P X=>AB λJ=>Ay X.src λt j St A=>J ?_) (MS B);haveI L:LC c φ (φ.plus (·=I)) n (·=I) I g d.heap xs t j St:=⟨O,O.plus _,rfl,rfl,rfl,rfl,λU=>Iff.rfl,rfl,λb V=>(AH (λf=>X.nM (V▸ O.FM b f)) (V▸ X.bn)),λb V q=>X.nM (V▸ q),A⟩
 refine nI C L rfl rfl rfl (H I) G X.S λf l q=>AB λJ=>B8 q λm u w=>?_;obtain⟨r,p,z,k,o⟩:=w;exact J (BM m u ⟨(P.sm.trans X.sm).trans r,((P.nx.trans X.nx).trans p).shrink λU q=> .inl q,z,k,o⟩)
theorem Xbk(H:F0 tv bv m σ=some (fr,A0))(ht:∀σ b A0,tv σ=some (.V (.bool b),A0)->ES c φ (isTrue t φ.env (eval t φ.env)) σ b A0)
  (hb:∀σ fr A0,bv σ=some (fr,A0)->BP c φ (execs body φ.env) σ fr A0):BP c φ (exec (.While t body [] pos) φ.env) σ fr A0:=by
 intro W M s E S;refine wpAny_While (codeAny_whileLoop (λk j=>∃B h z,WH c φ W M s tv bv fr A0 k j B h z) (λk j hI=>Gh λRb RH hQ=>AB λJ=>Ay hI λB h z T=>?_) m (Cf σ W M ⟨.refl,.refl,S,λU U=>rfl,H⟩));obtain⟨V,nx,l,L,Y⟩:=T;refine AJ (lL Y) λk' I Y=>J (jT Y λb Ao h4 h5 h6=>GF C O (ht _ _ _ h4) l λQ g a=>hQ _ _ ?_);cases b with
 |true=>
  have A:∀{d:Addr->Prop}{w:Shared},Nx φ.F Q g.heap d w.heap->Nx φ.F W s.heap d w.heap:=λx=>(nx.trans a.nx).trans x;refine jX (h5 rfl) (λo G u=>?_) λr o G u=>?_
  ·refine Xcv (hb _ _ _ G Q z g _ a.S) (λf w p=>AB λJ=>B8 p λd e X=>?_) λU U x=>x;cases(show f= .next from X.fl);exact J (AG k' (I▸ Xe6 k') (Cf o d e ⟨(V.trans a.sm).trans X.sm,A X.nx,X.S,λi y=>(X.k i y).trans (L i y),u⟩))
  ·refine Xcv (hb _ _ _ G Q z g _ a.S) (λf w p=>AB λJ=>B8 p λd e X=>AJ (show ∃v,f= .ret v/\_ from X.fl) λv D R=>?_) λU U x=>x;obtain rfl:=D;exact J (BM d e ⟨(V.trans a.sm).trans X.sm,A X.nx,(sP u).2▸ X.S,λi y=>(X.k i y).trans (L i y),by exact rR ((sP u).1) (rR ((sP u).2) ⟨v,rfl,R⟩)⟩)
 |false=>
  haveI q:=sP (h6 rfl);exact Xdm (BM Q z ⟨V.trans a.sm,nx.trans a.nx,q.2▸ a.S,L,by refine rR q.1 ?_;rfl⟩)
end
section
noncomputable def Mq(Γ:CO)(x:Str)(i:Nat):Bool:=Γ.lookup x==some (i,false)
noncomputable def UC:PE->Bool
 | .C _ _ _| .R _ _ _| .GZ _ _ _ _| .CC _ _ _ _=>true
 |_=>false
@[elab_as_elim]theorem kF{P:PE->Prop}{e:PE}(h:UC e=true)(l:∀a i b,P (.C a i b))(f:∀a i b,P (.R a i b))(g:∀a d i b,P (.GZ a d i b))(Y:∀a i j b,P (.CC a i j b)):P e:=by
 cases e<;>first|exact fT h|exact l _ _ _|exact f _ _ _|exact g _ _ _ _|exact Y _ _ _ _
noncomputable def Hh(s:Stmt)(f:List PySem.Expr->PySem.Expr->Bool):Bool:=match s with| .Assign d v _=>f d v|_=>false
noncomputable def Ky(s:Stmt)(f:PySem.Expr->Bool):Bool:=match s with| .Expr v _=>f v|_=>false
noncomputable def db(s:Stmt)(f:PySem.Expr->List Stmt->List Stmt->Bool):Bool:=match s with| .If u y z _=>f u y z|_=>false
noncomputable def QX(s:Stmt)(f:PySem.Expr->PySem.Expr->List Stmt->List Stmt->Bool):Bool:=match s with| .For t z y q _=>f t z y q|_=>false
noncomputable def dj(s:Stmt)(f:PySem.Expr->List Stmt->List Stmt->Bool):Bool:=match s with| .While u y q _=>f u y q|_=>false
noncomputable def VJ(s:Stmt)(f:Option PySem.Expr->Bool):Bool:=match s with| .Return o _=>f o|_=>false
noncomputable def Lw(x:PySem.Expr)(f:Str->Pos->Bool):Bool:=match x with| .Name a p=>f a p|_=>false
@[elab_as_elim]theorem HV{P:Stmt->Prop}(h:Hh s f=true)(k:∀ts v p,f ts v=true->P (.Assign ts v p)):P s:=by
 cases s<;>first|exact k _ _ _ h|exact fT h
@[elab_as_elim]theorem Kh{P:Stmt->Prop}(h:Ky s f=true)(k:∀v p,f v=true->P (.Expr v p)):P s:=by
 cases s<;>first|exact k _ _ h|exact fT h
@[elab_as_elim]theorem Zs{P:Stmt->Prop}(h:db s f=true)(k:∀u y z p,f u y z=true->P (.If u y z p)):P s:=by
 cases s<;>first|exact k _ _ _ _ h|exact fT h
@[elab_as_elim]theorem U4{P:Stmt->Prop}(h:QX s f=true)(k:∀t z y q p,f t z y q=true->P (.For t z y q p)):P s:=by
 cases s<;>first|exact k _ _ _ _ _ h|exact fT h
@[elab_as_elim]theorem sO{P:Stmt->Prop}(h:dj s f=true)(k:∀u y q p,f u y q=true->P (.While u y q p)):P s:=by
 cases s<;>first|exact k _ _ _ _ h|exact fT h
@[elab_as_elim]theorem Zp{P:Stmt->Prop}(h:VJ s f=true)(k:∀o p,f o=true->P (.Return o p)):P s:=by
 cases s<;>first|exact k _ _ h|exact fT h
@[elab_as_elim]theorem Pe{P:PySem.Expr->Prop}(h:Lw x f=true)(k:∀a p,f a p=true->P (.Name a p)):P x:=by
 cases x<;>first|exact k _ _ h|exact fT h
@[elab_as_elim]theorem Zm{P:PySem.Expr->Prop}(h:Dy x f=true)(k:∀g ys E p,x= .Call g ys E p->f g ys E p=true->P (.Call g ys E p)):P x:=by
 cases x<;>first|exact k _ _ _ _ rfl h|exact fT h
def ck(I a:PySem.Expr):Bool:= !(Av I)&&(!(Av a)&&(!([I,a].all (foldedForSure 8))&& !([I,a].all (constantsAlone 8))))
mutual
noncomputable def Hx(k:Ck)(so:Bool)(N:List (Str×NameKind))(Γ:CO)(K:List Nat):PS->Stmt->Bool
 | .G x e,s=>Hh s λd v=>a1 d λt=>BU t λnm=>DL Γ nm x&&(Ag k so N Γ K e v&&(!(EJ v)||UC e))
 | .FK x e,s=>Hh s λd v=>a1 d λt=>BU t λnm=>DL Γ nm x&&(Ag k so N Γ K e v&& !(EJ v))
 | .EG x y h l own,s=>Hh s λd w=>a1 d λt=>HJ t λd=>a2 d λL tb=>Lw L λa B=>Lw tb λb V=>HJ w λD=>a2 D λI f=>
   DL Γ a x&&(DL Γ b y&&(Ag k so N Γ K h I&&(Ag k so N Γ K l f&&(ck I f&&(!(a==b)&&(!own||(Mq Γ a x&&(Mq Γ b y&&V.line==B.line))))))))
 | .K6 x y t h l,s=>Hh s λd w=>a1 d λt=>HJ t λd=>a2 d λL tb=>Lw L λa B=>Lw tb λb V=>HJ w λD=>a2 D λI f=>
   Mq Γ a x&&(Mq Γ b y&&(Ag k so N Γ K h I&&(Ag k so N Γ K l f&&(ck I f&&(!(a==b)&&V.line==B.line)))))
 | .Ec x y e,s=>Hh s λd w=>a1 d λt=>HJ t λd=>a2 d λL tb=>BU L λa=>BU tb λb=>DL Γ a x&&(DL Γ b y&&Dy w λU U U U=>Ag k so N Γ K e w)
 | .SS x i e,s=>Hh s λd v=>a1 d λt=>Hu t λy z=>BU y λnm=>DL Γ nm x&&(Ag k so N Γ K i z&&(Ag k so N Γ K e v&& !(EJ v)))
 | .PP x e,s=>Ky s λv=>Dy v λg m E T=>HI g λy A r=>BU y λnm=>E.isEmpty&&a1 m λy=>A=="append"&&(DL Γ nm x&&(Ag k so N Γ K e y&&(!(Av y)&&r.endLine==T.line)))
 | .ext x e,s=>Ky s λv=>Dy v λg m E T=>HI g λy A r=>BU y λnm=>E.isEmpty&&a1 m λy=>A=="extend"&&(DL Γ nm x&&(Ag k so N Γ K e y&&(!(Av y)&&r.endLine==T.line)))
 | .ex e,s=>Ky s λv=>Ag k so N Γ K e v&& !(EJ v)
 | .X t a b,s=>db s λu y z=>Ag k so N Γ K t u&&(EH k so N Γ K a y&&EH k so N Γ K b z)
 | .FF i p body,s=>QX s λt z y q=>BU t λnm=>q.isEmpty&&(DL Γ nm i&&(Ag k so N Γ K p z&&(H4 z&&EH k false N Γ K body y)))
 | .FV i e body,s=>QX s λt w y q=>BU t λnm=>Dy w λG m E U=>BU G λrn=>a1 m λz=>q.isEmpty&&(E.isEmpty&&(rn=="range"&&(DL Γ nm i&&(glob N "range"&&(Ag k so N Γ K e z&&(!(Av z)&&EH k false N Γ K body y))))))
 | .Gf i j p body,s=>QX s λt z y q=>HJ t λd=>a2 d λL tb=>BU L λa=>BU tb λb=>q.isEmpty&&(DL Γ a i&&(DL Γ b j&&(Ag k so N Γ K p z&&(H4 z&&EH k false N Γ K body y))))
 | .Jp t body,s=>dj s λu y q=>q.isEmpty&&(Ag k so N Γ K t u&&EH k so N Γ K body y)
 | .ret e,s=>VJ s λo=>Iq o λv=>Ag k so N Γ K e v
 | .Kx e,s=>VJ s λo=>Iq o λv=>Ag k so N Γ K e v
noncomputable def EH(k:Ck)(so:Bool)(N:List (Str×NameKind))(Γ:CO)(K:List Nat):List PS->List Stmt->Bool
 | [],a=>a.isEmpty
 |s::J,a=>(match a with|y::a=>Hx k so N Γ K s y&&EH k so N Γ K J a| []=>false)
end
section
variable {β:Type}{z:β}{Q:Prop}
theorem ad{o:Option (RV×St)}{g:OV->St->Option β}(h:(match o with|some (.M r,AA)=>g r AA|_=>none)=some z)(k:∀r AA,o=some (.M r,AA)->g r AA=some z->Q):Q:=by
 rcases o with _|⟨_|r,AA⟩
 ·exact nS h
 ·exact nS h
 ·exact k r AA rfl h
theorem j2{f:RV->Option β}{g:OV->Option β}(h:(match own,r with|false,r=>f r|true,.M o=>g o|_,_=>none)=some z)(l:own=false->f r=some z->Q)(a:∀o,own=true->r= .M o->g o=some z->Q):Q:=by
 cases own with
 |false=>exact l rfl h
 |true=>cases r with
  |V x=>exact nS h
  |M o=>exact a o rfl rfl h
theorem tG{v:LV}{g:List Val->Option β}(h:(match v with| .P (.list xs)=>g xs|_=>none)=some z)(k:∀i,v= .P (.list i)->g i=some z->Q):Q:=by
 cases v with
 |P o=>cases o<;>first|exact k _ rfl h|exact nS h
 |_=>exact nS h
theorem tC{v:LV}{g:List Val->Option β}(h:(match v with| .N (.list xs)=>g xs|_=>none)=some z)(k:∀i,v= .N (.list i)->g i=some z->Q):Q:=by
 cases v with
 |N o=>cases o<;>first|exact k _ rfl h|exact nS h
 |_=>exact nS h
theorem tB{v:LV}{w:Val}{g:List Val->List Val->Option β}(h:(match v,w with| .N (.list i),.list j=>g i j|_,_=>none)=some z)(k:∀i j,v= .N (.list i)->w= .list j->g i j=some z->Q):Q:=by
 cases v with
 |N o=>cases o with
  |list i=>cases w<;>first|exact k _ _ rfl rfl h|exact nS h
  |_=>exact nS h
 |_=>exact nS h
theorem tE{v:LV}{w:Val}{f:List Val->Int->Option β}{g:List Str->List Val->Str->Option β}(h:(match v,w with| .N (.list i),.int j=>f i j| .N (.dict d xs),.str J=>g d xs J|_,_=>none)=some z)
  (l:∀i j,v= .N (.list i)->w= .int j->f i j=some z->Q) (a:∀d xs J,v= .N (.dict d xs)->w= .str J->g d xs J=some z->Q):Q:=by
 cases v with
 |N o=>cases o with
  |list i=>cases w<;>first|exact l _ _ rfl rfl h|exact nS h
  |dict d xs=>cases w<;>first|exact a _ _ _ rfl rfl h|exact nS h
  |_=>exact nS h
 |_=>exact nS h
end
theorem wt(h:Gp l=true):l= .O:=by cases l<;>first|rfl|exact fT h
theorem Pl(h:Mq Γ x i=true):Γ.lookup x=some (i,false):=eq_of_beq h
section
variable {c:Cx}(C:c.Ok){k:Ck}(AM:k.fl=c.fl){E0:Nat->Option Value}(gl:Jv c k E0){Φ:BZ}{n:Nat}(As:DU c Φ n E0)(B5:Jw c k E0)
include C AM gl As B5
theorem BP.fz(O:AU φ (n+1))(h:BP c φ t σ (.ret r) A0):BP c φ t σ (.ret (.V r.fz)) A0:=λW b s E S=>Xcv (h W b s E S) (λf s' p=>by
 refine B8 p λW' u w=>?_;obtain⟨j,g,d,e,v,rfl,R⟩:=w;cases r with
 |V y=>exact(BM W' u ⟨j,g,d,e,v,rfl,R⟩)
 |M o=>
  exact Bh (DW.freeze C O d R) λa BV l m=>(BM _ u ⟨j,g.shrink λi q=>q.1,l,e,_,rfl,m⟩)) λi i x=>x
theorem kJ{K:List Nat}(O:AU B (n+1))(L:Aw Γ N B)(l:DB K B)(sh:so=true->GS c B k)(T:Γ.lookup nm=some (x,b))(Y:UC e=true):∀v σ AA r,Ag k so N Γ K e v=true->
  ev Φ B.np e false σ=some (r,AA)->Bb B.np x (AA.at x)=true->BP c B (exec (.Assign [.Name nm p] v pos) B.env) σ .next (AA.set x (.V r.fz)):=kF Y
 (λA i M v σ o r h H s=>IH h λy gs sc g h=>IG h λtg z fs h=>BD h λt w h=>iE h λh=>jR H λG AA m H=>HX H λxs f H=>by have d:=IZ (al (ar (ar (ar h))));haveI J:=Xcw.mp (al (ar (ar h)));exact RD C O L T d (IJ C O ((AY C AM gl As B5 M O L l sh (al h) m).1 rfl) f) H (AN _ (.head _)) (Kw (l i J)) (al (ar h)) (λcl I D Z V a=> .inl (AH rfl (Qx C V a (GY d (.head _)) λσ r o Y=>(AY C AM gl As B5 A V a (I4 l) (λq=>fT q) (ar (ar (ar (ar h)))) Y).1 rfl))) s)
 (λA i e v σ o r h H s=>IH h λy gs sc g h=>IG h λtg z fs h=>BD h λt w h=>E6 h λrf ys kw V8 h=>BD h λrn V7 h=>i1 h λz h=>iE h λh=>iE h λh=>C0 h λh=>
   jR H λG AA m H=>Po H λj f H=>jI H λhj H=>by haveI d:=IZ (al (ar (ar (ar (ar h)))));haveI J:=Xcw.mp (al (ar (ar (ar h))));exact RD C O L T d (UH C O L (G7 (al h)) (gl.b _ _ (Ai 7 rfl)) ((AY C AM gl As B5 e O L l sh (al (ar h)) m).1 rfl) f hj (Aq (al (ar (ar h))))) H (AN _ (.head _)) (Kw (l i J)) rfl (λcl I D Z V a=> .inl (AH rfl (Qx C V a (GY d (.head _)) λσ r o Y=>(AY C AM gl As B5 A V a (I4 l) (λq=>fT q) (ar (ar (ar (ar (ar h))))) Y).1 rfl))) s)
 (λA E i M v σ o r h H s=>IH h λy gs sc g h=>IG h λtg z fs h=>BD h λt w h=>i1 h λu h=>jR H λG AA m H=>HX H λxs f H=>by have d:=IZ (al (ar (ar (ar h))));haveI J:=Xcw.mp (al (ar (ar h)));exact RD C O L T d (IJ C O ((AY C AM gl As B5 M O L l sh (al h) m).1 rfl) f) H (AN _ (.head _)) (Kw (l i J)) (al (ar h)) (λcl I D Z V a=> .inr (AG u rfl (fJ C V a (GY d (.head _)) (λσ r o Y=>(AY C AM gl As B5 A V a (I4 l) (λq=>fT q) (al (ar (ar (ar (ar h))))) Y).1 rfl) λσ b o Y=>(AY C AM gl As B5 E V a (I4 l) (λq=>fT q) (ar (ar (ar (ar (ar h))))) Y).2 rfl b rfl))) s)
 λA i j M v σ o r h H s=>IH h λy gs sc g h=>IG h λtg z fs h=>Gm h λts kk U h=>i2 h λta tb h=>BD h λt w h=>BD h λXb0 yF h=>iE h λh=>
   jR H λG AA m H=>HX H λxs f H=>jE H λDq H=>by haveI d:=IZ (al (ar (ar (ar (ar h)))));haveI h3:=Xcw.mp (al (ar (ar h)));have TH:=Xcw.mp (al (ar (ar (ar h))));exact RD C O L T d (IJ C O ((AY C AM gl As B5 M O L l sh (al h) m).1 rfl) f) H (AN _ (.head _)) (fM (l i h3) (l j TH)) (al (ar h)) (λcl I D Z V a=> .inl (AH rfl (fH C V a (GY d (.head _)) (GY d (.tail _ (.head _))) λσ r o Y=>(AY C AM gl As B5 A V a (Xg l) (λq=>fT q) (ar (ar (ar (ar (ar h))))) Y).1 rfl))) s
theorem bH(O:AU A (n+1))(L:Aw Γ N A)(B:Γ.lookup nm=some (i,b))(V:∀σ fr A0,g σ=some (fr,A0)->BP c (A.plus (·=I)) (execs body A.env) σ fr A0):
  ∀x σ fr A0,Jj A.np g i x σ=some (fr,A0)->∀W M s v E,AF c (A.plus (·=I)) W σ M s.heap->AZ (c.prog,c.w) c.fl (Ex (A.plus (·=I)) W) s.heap x v->(∀y D k pos l Q E,x= .T y->l.heap=s.heap->Q () l->wpAny (Mo c) A.A (letOwnedTupleGo (.Tuple D k pos) (.ref I) v) Q E l)->
   wpAny (Mo c) A.A (letOwnedTupleGo (.Name nm p) (.ref I) v) (λU d=>wpAny (Mo c) A.A (assign (.Name nm p) A.env v) (λU f=>wpAny (Mo c) A.A (execs body A.env) (Fx c (A.plus (·=I)) W M s fr A0) E f) E d) E s:=by intro x σ fr A0 e W M s v E S H j;exact jI e λh e=>Xcp (Xek (FA C (O.plus (·=I)) (L.plus (·=I)) B S (Dz C O h) H λd a=>(Xcv (V _ _ _ e W M d E a.S) (λU U q=>RE C (O.plus (·=I)) a q) λU U x=>x)))
theorem uV(O:AU A (n+1))(L:Aw Γ N A)(ha:Γ.lookup a=some (i,f))(l:Γ.lookup b'=some (j,g))(t:∀σ fr A0,r σ=some (fr,A0)->BP c (A.plus (·=I)) (execs body A.env) σ fr A0):
  ∀x σ fr A0,Ve A.np r i j x σ=some (fr,A0)->∀W M s v E,AF c (A.plus (·=I)) W σ M s.heap->AZ (c.prog,c.w) c.fl (Ex (A.plus (·=I)) W) s.heap x v->(∀y D k pos m Q E,x= .T y->m.heap=s.heap->Q () m->wpAny (Mo c) A.A (letOwnedTupleGo (.Tuple D k pos) (.ref I) v) Q E m)->
   wpAny (Mo c) A.A (letOwnedTupleGo (.Tuple [.Name a pa,.Name b' pb] J p) (.ref I) v) (λU d=>wpAny (Mo c) A.A (assign (.Tuple [.Name a pa,.Name b' pb] J p) A.env v) (λU h=>wpAny (Mo c) A.A (execs body A.env) (Fx c (A.plus (·=I)) W M s fr A0) E h) E d) E s:=by intro x σ fr A0 b W M s v E S H V;refine UI b λx y q b=>?_;subst q;exact jI b λo b=>V [x,y] _ _ _ s _ E rfl rfl (OS C (O.plus (·=I)) (L.plus (·=I)) ha l S (Dz C O (al o)) (Dz C O (ar o)) H λd e=>Xcv (t _ _ _ b W M d E e.S) (λU U q=>RE C (O.plus (·=I)) e q) λU U x=>x)
mutual
theorem ML:∀st{so:Bool}{N:List (Str×NameKind)}{Γ:CO}{K:List Nat}{A:Fm}{x:Stmt}{fuel:Nat}{σ A0:St}{fr:FR},AU A (n+1)->Aw Γ N A->DB K A->(so=true->GS c A k)->Hx k so N Γ K st x=true->Ae Φ A.np fuel st σ=some (fr,A0)->BP c A (exec x A.env) σ fr A0
 | .G v e,so,N,Γ,K,A,x,fuel,σ,A0,fr,O,L,l,J,h,H=>HV h λts w d h=>i1 h λt h=>BD h λnm p h=>(CR (al h)).1.elim λb V=>jR H λr B h4 H=>jI H λD H=>EY H (by
   cases hc:EJ w with
   |false=>exact Xa9 C O L V ((AY C AM gl As B5 e O L l J (al (ar h)) h4).1 rfl) D hc
   |true=>
    haveI q:=ar (ar h);rw[hc]at q;exact kJ C AM gl As B5 O L l J V q _ _ _ _ (al (ar h)) h4 D)
 | .FK v e,so,N,Γ,K,A,x,fuel,σ,A0,fr,O,L,l,J,h,H=>HV h λts w d h=>i1 h λt h=>BD h λnm p h=>(CR (al h)).1.elim λb V=>ad H λo B h4 H=>jI H λD H=>EY H
   (Xbd C O L V ((AY C AM gl As B5 e O L l J (al (ar h)) h4).1 rfl) (al D) (Xcj (ar D)) (Aq (ar (ar h))))
 | .EG v w m E own,so,N,Γ,K,A,x,fuel,σ,A0,fr,O,L,l,J,h,H=>HV h λts u d h=>i1 h λt h=>Gm h λts tk tp h=>i2 h λta tb h=>Pe h λa pa h=>Pe h λb pb h=>Gm h λvs vk vp h=>i2 h λLO LP h=>
   (CR (al h)).1.elim λf hf=>(CR (al (ar h))).1.elim λg hg=>jR H λr B PK H=>jR H λr' Y KW H=>jI H λD H=>by
   haveI h1:=al (ar (ar h));haveI h2:=al (ar (ar (ar h)));haveI M:=al (ar (ar (ar (ar h))));haveI KY:=Xie (Aq (al (ar (ar (ar (ar (ar h)))))));exact j2 H (λu0 H=>EY H (Xba C O L hf hg (Xcj (ar D)) ((AY C AM gl As B5 m O L l J h1 PK).1 rfl) ((AY C AM gl As B5 E O L l J h2 KW).1 rfl) (Aq (al M)) (Aq (al (ar M))) (al (al D)) (ar (al D)) (Aq (al (ar (ar M)))) (Aq (ar (ar (ar M)))) KY))
    λo U hr H=>jI H λJI H=>EY H (by haveI q:=ar (ar (ar (ar (ar (ar h)))));rw[U]at q;exact Xbc C O L (Pl (al q)) (Pl (al (ar q))) (Xcj (ar D)) ((AY C AM gl As B5 m O L l J h1 PK).1 rfl) (hr▸ ((AY C AM gl As B5 E O L l J h2 KW).1 rfl)) (Aq (al M)) (Aq (al (ar M))) (al (al D)) (ar (al D)) JI (Aq (al (ar (ar M)))) (Aq (ar (ar (ar M)))) KY (ar (ar q)))
 | .K6 v w t m E,so,N,Γ,K,A,x,fuel,σ,A0,fr,O,L,l,J,h,H=>HV h λts u d h=>i1 h λt' h=>Gm h λts tk tp h=>i2 h λta tb h=>Pe h λa pa h=>Pe h λb pb h=>Gm h λvs vk vp h=>i2 h λLO LP h=>
   ad H λo B PK H=>jI H λU H=>jR H λr' Y KW H=>tG H λxs EI H=>jI H λD H=>EY H (by haveI M:=al (ar (ar (ar (ar h))));haveI q:=ar (ar (ar (ar (ar h))));haveI p5:=al D;haveI p4:=al p5;haveI p3:=al p4;haveI p2:=al p3;have p1:=al p2;exact Xbb C O L (Pl (al h)) (Pl (al (ar h))) (Xcj (ar p2)) ((AY C AM gl As B5 m O L l J (al (ar (ar h))) PK).1 rfl) (wt (al U)) (Xcj (ar U)) ((AY C AM gl As B5 E O L l J (al (ar (ar (ar h)))) KW).1 rfl) EI (Xcj (ar p4)) (Xcj (ar p5)) (Aq (al M)) (Aq (al (ar M))) (al p1) (ar p1) (Xcj (ar p3)) (Xcj (ar D)) (Aq (al (ar (ar M)))) (Aq (ar (ar (ar M)))) (Xie (Aq (al q))) (ar q))
 | .Ec v w e,so,N,Γ,K,A,x,fuel,σ,A0,fr,O,L,l,J,h,H=>HV h λts u d h=>i1 h λt h=>Gm h λts tk tp h=>i2 h λta tb h=>BD h λa pa h=>BD h λb pb h=>Zm (ar (ar h)) λg ys kw p m h'=>
   (CR (al h)).1.elim λf hf=>(CR (al (ar h))).1.elim λg hg=>jR H λr B h4 H=>UI H λy z hr H=>jI H λD H=>EY H
   (Xbj C O L hf hg ((AY C AM gl As B5 e O L l J (m▸ h') h4).1 rfl) hr (al (al D)) (ar (al D)) rfl rfl)
 | .SS v i e,so,N,Γ,K,A,x,fuel,σ,A0,fr,O,L,l,J,h,H=>HV h λts w d h=>i1 h λt h=>Kj h λy z sp h=>BD h λnm p h=>(CR (al h)).1.elim λb V=>jR H λr B h5 H=>jI H λU H=>jR H λr' Y s H=>
   tE H (λxs j G h8 H=>jI H λT H=>EY H (fy C O L V (CR (al h)).2 ((AY C AM gl As B5 e O L l J (al (ar (ar h))) h5).1 rfl) ((AY C AM gl As B5 i O L l J (al (ar h)) s).1 rfl) (II U) (Aq (ar (ar (ar h)))) (.inl (Xa5 xs j G h8 T.1 T.2 rfl)))) λks xs kk G h8 H=>jI H λT H=>EY H (fy C O L V (CR (al h)).2 ((AY C AM gl As B5 e O L l J (al (ar (ar h))) h5).1 rfl) ((AY C AM gl As B5 i O L l J (al (ar h)) s).1 rfl) (II U) (Aq (ar (ar (ar h)))) (.inr (WB ks xs kk G h8 T rfl)))
 | .PP v e,so,N,Γ,K,A,x,fuel,σ,A0,fr,O,L,l,J,h,H=>Kh h λu d h=>E6 h λg ys kw cp h=>HW h λy mn ap h=>BD h λnm p h=>iE h λh=>i1 h λy h=>C0 h λh=>(CR (al h)).1.elim λb V=>jI H λU H=>(aO U).elim λys JL=>jR H λr B s H=>tC H λxs G H=>jI H λhl H=>EY H
   (Xa8 C O L V (CR (al h)).2 ((AY C AM gl As B5 e O L l J (al (ar h)) s).1 rfl) JL G hl (Aq (al (ar (ar h)))) (ar (ar (ar h))))
 | .ext v e,so,N,Γ,K,A,x,fuel,σ,A0,fr,O,L,l,J,h,H=>Kh h λu d h=>E6 h λg ys kw cp h=>HW h λy mn ap h=>BD h λnm p h=>iE h λh=>i1 h λy h=>C0 h λh=>(CR (al h)).1.elim λb V=>jI H λU H=>(aO U).elim λzs rv=>jR H λr B s H=>tB H λxs ys G h8 H=>jI H λhl H=>EY H
   (Xbf C O L V (CR (al h)).2 ((AY C AM gl As B5 e O L l J (al (ar h)) s).1 rfl) h8 rv G hl (Aq (al (ar (ar h)))) (ar (ar (ar h))))
 | .ex e,so,N,Γ,K,A,x,fuel,σ,A0,fr,O,L,l,J,h,H=>Kh h λu d h=>jR H λr B s H=>EY H (Xbe C O L ((AY C AM gl As B5 e O L l J (al h) s).1 rfl) (Aq (ar h)))
 | .X t a b,so,N,Γ,K,A,x,fuel,σ,A0,fr,O,L,l,J,h,H=>Zs h λu y z d h=>jT H λb' B k1 k2 k3=>Xbh C O L ((AY C AM gl As B5 t O L l J (al h) k1).2 rfl b' rfl) (λq=>Gd a O L l J (al (ar h)) (k2 q)) λq=>Gd b O L l J (ar (ar h)) (k3 q)
 | .FF i it body,so,N,Γ,K,A,x,fuel,σ,A0,fr,O,L,l,J,h,H=>U4 h λt z y el d h=>BD h λnm p h=>iE h λh=>(CR (al h)).1.elim λb V=>jR H λr B s H=>HX H λxs G H=>
   WC C O L (IJ C O ((AY C AM gl As B5 it O L l J (al (ar h)) s).1 rfl) G) (al (ar (ar h))) H λI=>bH C AM gl As B5 O L V λσ fr A0 he=>Gd body (O.plus _) (L.plus _) (λj T=>l j T) (λq=>fT q) (ar (ar (ar h))) he
 | .FV i e body,so,N,Γ,K,A,x,fuel,σ,A0,fr,O,L,l,J,h,H=>U4 h λt w y el d h=>BD h λnm p h=>E6 h λrf ys kw p' h=>BD h λrn rp h=>i1 h λz h=>iE h λh=>iE h λh=>C0 h λh=>(CR (al h)).1.elim λb V=>jR H λr B s H=>Po H λj G H=>jI H λT H=>
   WC C O L (UH C O L (G7 (al (ar h))) (gl.b _ _ (Ai 7 rfl)) ((AY C AM gl As B5 e O L l J (al (ar (ar h))) s).1 rfl) G T (Aq (al (ar (ar (ar h)))))) rfl H λI=>bH C AM gl As B5 O L V λσ fr A0 he=>Gd body (O.plus _) (L.plus _) (λj T=>l j T) (λq=>fT q) (ar (ar (ar (ar h)))) he
 | .Gf i j it body,so,N,Γ,K,A,x,fuel,σ,A0,fr,O,L,l,J,h,H=>U4 h λt z y el d h=>Gm h λts tk p h=>i2 h λta tb h=>BD h λa pa h=>BD h λb pb h=>iE h λh=>(CR (al h)).1.elim λf hf=>(CR (al (ar h))).1.elim λg hg=>jR H λr B s H=>HX H λxs G H=>jE H λDq H=>
   WC C O L (IJ C O ((AY C AM gl As B5 it O L l J (al (ar (ar h))) s).1 rfl) G) (al (ar (ar (ar h)))) H λI=>uV C AM gl As B5 O L hf hg λσ fr A0 he=>Gd body (O.plus _) (L.plus _) (λj T=>l j T) (λq=>fT q) (ar (ar (ar (ar h)))) he
 | .Jp t body,so,N,Γ,K,A,x,fuel,σ,A0,fr,O,L,l,J,h,H=>sO h λu y el d h=>iE h λh=>Xbk C O L H (λσ b A0 he=>(AY C AM gl As B5 t O L l J (al h) he).2 rfl b rfl) λσ fr A0 he=>Gd body O L l J (ar h) he
 | .ret e,so,N,Γ,K,A,x,fuel,σ,A0,fr,O,L,l,J,h,H=>Zp h λo d h=>Ki h λv h=>jR H λr B s H=>EY H (BP.fz C AM gl As B5 O (fv C O L ((AY C AM gl As B5 e O L l J h s).1 rfl)))
 | .Kx e,so,N,Γ,K,A,x,fuel,σ,A0,fr,O,L,l,J,h,H=>Zp h λo d h=>Ki h λv h=>jR H λr B s H=>EY H (fv C O L ((AY C AM gl As B5 e O L l J h s).1 rfl))
theorem Gd:∀ss{so:Bool}{N:List (Str×NameKind)}{Γ:CO}{K:List Nat}{A:Fm}{ys:List Stmt}{fuel:Nat}{σ A0:St}{fr:FR},AU A (n+1)->Aw Γ N A->DB K A->(so=true->GS c A k)->EH k so N Γ K ss ys=true->Bv Φ A.np fuel ss σ=some (fr,A0)->BP c A (execs ys A.env) σ fr A0
 | [],so,N,Γ,K,A,ys,fuel,σ,A0,fr,O,L,l,J,h,H=>Mm h (EY H (gB C O L))
 |st::ss,so,N,Γ,K,A,[],fuel,σ,A0,fr,O,L,l,J,h,H=>fT h
 |st::ss,so,N,Γ,K,A,y::ys,fuel,σ,A0,fr,O,L,l,J,h,H=>jX H
   (λB m H=>Jq C O L (ML st O L l J (al h) m) (λU=>Gd ss O L l J (ar h) H) λr q=>FR.noConfusion q)
   λr B m H=>EY H (Jq C O L (ML st O L l J (al h) m) (λq=>FR.noConfusion q) λr q=>by cases q;exact⟨rfl,rfl⟩)
end
end
end
theorem Xbn{ns:List Str}{vs:List Value}(g:ns.Nodup)(b:vs.length=ns.length):(ns.filterMap λn=>((ns.zip vs).lookup n).map (n,·))=ns.zip vs/\(ns.filter λn=>((ns.zip vs).lookup n).isNone)=[]:=by
 have L:=List.map_fst_zip (lin [ns.length,vs.length] 21743898625 rfl (Xcg b.symm));haveI a:((ns.zip vs).map (·.1)).Nodup:=rL L g
 constructor
 ·haveI:∀(l:List (Str×Value)),(∀p∈l,p∈ns.zip vs)->((l.map (·.1)).filterMap λn=>((ns.zip vs).lookup n).map (n,·))=l:=by
   intro l;induction l with
   |nil=>intro _;rfl
   |cons p l Q=>
    intro h;refine rL Xde (rL Xg6 (rL (Gu a (h p (.head _))) ?_));simp only[Xic];exact rL (Q λq O=>h q (.tail _ O)) rfl
  haveI:=this (ns.zip vs) λU q=>q;rwa [L]at this
 ·rw[List.filter_eq_nil_iff];intro n D;have:∃v,(n,v)∈ns.zip vs:=by rw[<-L]at D;exact AJ (Xdc.mp D) λp c e=>e▸ ⟨p.2,c⟩
  refine AK this λv H=>rL (Gu a H) ?_;simp
structure Ef(F:FuncData)(ps:Arguments)(body:List Stmt)(sc:Scope)(q:Str)(dV:Value):Prop where
 ps:F.params=ps
 body:F.body= .stmts body
 sc:F.scope=sc
 glob:F.globals=mainGlobals
 SR:F.closure=[]
 dfl:F.defaults=dV
 blt:F.builtins=builtinsNs
 qual:F.qualname=q
noncomputable def Sx(ns:List Str)(vs d:List Value):List (Str×Value):=((ns.drop (ns.length - d.length)).zip d).foldl (λk p=>if(k.lookup p.1).isNone then k++[p]else k) (ns.zip vs)
noncomputable def OX(B1 B2:Option (Array Value)->Sem (List (Str×Value)))(ns:List Str)(vs:List Value)(Cv:Option (Array Value))(df:List Value):Sem (List (Str×Value)):=
 if(decide (vs.length>ns.length)&&true)=true then B1 Cv else
 if(!((ns.take (ns.length - df.length)).filter λn=>((ns.zip vs).lookup n).isNone).isEmpty)=true then B2 Cv else
 (forIn ((ns.drop (ns.length - df.length)).zip df) (ns.zip vs) λp sl=>if(sl.lookup p.1).isNone=true then pure (ForInStep.yield (sl++[(p.1,p.2)]))else pure (ForInStep.yield sl))>>=λsl=>pure ((ns++[]).filterMap λn=>(sl.lookup n).map (n,·))
theorem Wn(hF:Ef F ⟨[],as,none,[],[],none,ds⟩ body sc q dV):
  ∃B1 B2:Option (Array Value)->Sem (List (Str×Value)),bindArgs F ⟨vs,[]⟩=seqItems? dV>>=λCv=>OX B1 B2 (as.map Arg.arg) vs Cv ((Cv.getD #[]).toList.drop ((Cv.getD #[]).toList.length - (as.map Arg.arg).length)):=by obtain⟨a1,a2,a3,a4,a5,a6,a7,a8,a9,a10,a11,a12,a13,a14,a15⟩:=F;obtain⟨rfl,Ov,rfl,rfl,rfl,rfl,rfl,rfl⟩:=hF;exact(BM _ _ rfl)
theorem YJ:∀(l:List (Str×Value))(sl:List (Str×Value)),(forIn (m:=Sem) l sl λp sl=>if(sl.lookup p.1).isNone=true then pure (ForInStep.yield (sl++[(p.1,p.2)]))else pure (ForInStep.yield sl))=pure (l.foldl (λsl p=>if(sl.lookup p.1).isNone then sl++[p]else sl) sl)
 | [],sl=>rfl
 |p::l,sl=>by refine rL (List.forIn_cons ..) (rL (Xel ..) (rR (YJ l ..) ?_));split<;>rfl
theorem Wo(hl:vs.length<=ns.length)(hm:((ns.take (ns.length - df.length)).filter λn=>((ns.zip vs).lookup n).isNone).isEmpty=true):
  OX B1 B2 ns vs Cv df=pure (ns.filterMap λn=>((Sx ns vs df).lookup n).map (n,·)):=
 (Xcm (by refine rL (Xc1 (Nat.not_lt.mpr hl)) ?_;decide)).trans ((Xcm (by refine rL hm ?_;decide)).trans ((congrArg (·>>=_) (YJ _ _)).trans (by refine rL (Xcz ..) ?_;rfl)))
theorem SF(b:Ef F ⟨[],as,none,[],[],none,d⟩ body M q .none)(g:(as.map (·.arg)).Nodup)(c:vs.length=as.length):
  bindArgs F ⟨vs,[]⟩=pure ((as.map (·.arg)).zip vs):=by refine AB λJ=>?_;obtain⟨B,a,e⟩:=Wn b;have U:vs.length=(as.map Arg.arg).length:=rL (EN ..) c;refine Ax (Xbn g U) λH A=>J (e.trans ?_);show OX B a (as.map Arg.arg) vs none (List.drop _ [])=_;refine rL List.drop_nil (rL (Wo (Xcg U) (by show((List.take (as.map Arg.arg).length (as.map Arg.arg)).filter _).isEmpty=true;refine rL (Xdx ..) (rL (A ..) ?_);rfl)) ?_);unfold Sx;exact rL List.zip_nil_right (congrArg pure H)
theorem AF.vM(C:c.Ok)(O:AU φ n){σ A0:St}{f:Nat->List Addr}(S:AF c φ W σ f h){J:Nat->Prop}
  (x:Ch (λb=>φ.F b\/b=φ.L) (λb=>c.tb b\/∃j,J j/\b∈f j) h h') (hJ:∀j,J j->(σ.at j).Az/\∃o,A0.at j= .N o/\Bu c (Ex φ W') h' (f j) o) (TM:∀j,J j->∃o,σ.at j= .N o) (hN:∀j,¬J j->A0.at j=σ.at j)
  (hW:∀a,W' a->W a\/h.get? a=none) (s:∀a,W a->(c.tb a\/∃o,h.get? a=some o)->W' a) (gi:c.gi (Ex φ W') h'):AF c φ W' A0 f h':=by
 have on:∀j,(A0.at j).on ↔ (σ.at j).on:=λj=>by
  by_cases q:J j
  ·refine Ax (hJ j q) λ_ w=>AJ w λo e _=>AK (TM j q) λo' e'=>rL e (rL e' ?_);exact Iff.rfl
  ·rw[hN j q]
 have own:∀j,(A0.at j).Az ↔ (σ.at j).Az:=λj=>by
  by_cases q:J j
  ·refine Ax (hJ j q) λ_ w=>AJ w λo e _=>AK (TM j q) λo' e'=>rL e (rL e' ?_);exact Iff.rfl
  ·rw[hN j q]
 have XW:∀b,(c.tb b\/∃j,J j/\b∈f j)->W b:=λb q=>q.elim (S.tW b) λ⟨j,d,hb⟩=>S.Bc j (hJ j d).1 b hb;have u:∀i,¬(c.tb (φ.slots i).at\/∃j,J j/\(φ.slots i).at∈f j):=λi q=>q.elim (S.ts i) λ⟨j,d,hb⟩=>S.so i j (hJ j d).1 hb;have bX:¬(c.tb φ.L\/∃j,J j/\φ.L∈f j):=λq=>q.elim S.tL λ⟨j,d,hb⟩=>S.Lo j (hJ j d).1 hb;have vN:∀i,¬J i->(σ.at i).Az->∀b∈f i,¬(c.tb b\/∃j,J j/\b∈f j):=λi k g b hb q=>q.elim (S.EO i g b hb) λ⟨j,d,HR⟩=>S.oo i j (λe=>k (e▸ d)) g (hJ j d).1 b hb HR;haveI fresh:∀b o,h.get? b=some o->¬W b->¬W' b:=λb o e nb q=>by
  rcases hW b q with r|r
  ·exact nb r
  ·exact nG r e
 have l:∀b o,¬Ex φ W b->h.get? b=some o->h'.get? b=some o/\¬Ex φ W' b:=by intro b o nb e;have nm:=λq=>nb (.inl q);have nw:=λq=>nb (.inr q);refine⟨(x b o (λq=>nw (XW b q)) e).1 λq=>q.elim (λq=>nm (O.FM b q)) λq=>nw (q▸ S.LW),λq=>q.elim nm (fresh b o e nw)⟩
 have Gz:∀i,(σ.at i).on->(∃a,φ.slots i= .c a)->¬(φ.F (φ.slots i).at\/(φ.slots i).at=φ.L):=by
  rintro i k ⟨a,ha⟩ (q|q)
  ·exact S.MW _ (O.FM _ q) (S.sw i)
  ·haveI fr:=(S.lv i).free k;refine AK S.LN λm w=>GO w λo es ep g hd _=>?_;rw[ha]at fr q;refine AK fr λv w=>AJ w λo' HS Gg=>?_;haveI q:a=φ.L:=q;rw[q,g]at HS;obtain rfl:=Xcl HS;replace Gg:=hd▸ Gg;cases Gg
 have cZ:∀i o,¬J i->(σ.at i).Az->Bu c (Ex φ W) h (f i) o->Bu c (Ex φ W') h' (f i) o:=λi o d g e4=>e4.mono C λb o' hb e=>by
  rcases hb with hb|hb
  ·exact⟨(l b o' hb e).1,λu0=>(l b o' hb e).2⟩
  ·have wb:=S.Bc i g b hb;refine⟨(x b o' (vN i d g b hb) e).1 λq=>?_,λq=>absurd (.inr wb) q⟩;rcases q with q|q
   ·exact S.MW b (O.FM b q) wb
   ·exact S.Lo i g (q▸ hb)
 refine⟨λi=>?_,λi=>s _ (S.sw i) (.inr (S.al i)),λi=>(let⟨o,q⟩:=S.al i;x.some (u i) q),λi j Dq k d=>S.sa i j Dq ((on i).mp k) ((on j).mp d),λi j d=>S.so i j ((own j).mp d),λi j Dq k d=>S.oo i j Dq ((own i).mp k) ((own j).mp d),
  s _ S.LW (.inr (AK S.LN λ_ w=>Aj w λo _ _ z _=>⟨o,z⟩)),let⟨m,q⟩:=S.LN;⟨m,x.ns bX q⟩,S.La,λj d=>S.Lo j ((own j).mp d),λa ha=>s a (S.tW a ha) (.inl ha),S.ts,λj d=>S.EO j ((own j).mp d),S.tL,λb o e=>?_,λa ha=>?_,?_,λb hb q=>?_,λb hb=>?_,gi⟩
 ·by_cases d:J i
  ·refine Ax (hJ i d) λg w=>AJ w λo e Tj=>AK (TM i d) λo' e'=>rL e ?_;haveI p:(σ.at i).on:=rL e' trivial;haveI t:=S.lv i;rw[e']at t;exact⟨x.has (u i) (Gz i p) t.1,λb hb=>s b (S.Bc i g b hb) (.inr (S.DM C i g b hb)),Tj⟩
  ·refine rL (hN i d) ?_;have t:=S.lv i;cases k:σ.at i with
   |O=>exact trivial
   |U=>
    replace t:=k▸ t;have p:(σ.at i).on:=rL k trivial;exact x.free (u i) (Gz i p) t
   |V y=>
    rw[k]at t;haveI p:(σ.at i).on:=rL k trivial;exact AJ t λv a b=>⟨v,x.has (u i) (Gz i p) a,AZ.mono l y b⟩
   |N o=>
    rw[k]at t;have p:(σ.at i).on:=rL k trivial;haveI g:(σ.at i).Az:=rL k trivial;exact⟨x.has (u i) (Gz i p) t.1,λb hb=>s b (S.Bc i g b hb) (.inr (S.DM C i g b hb)),cZ i o d g t.2.2⟩
   |P o=>
    rw[k]at t;have g:(σ.at i).Az:=rL k trivial;exact⟨λb hb=>s b (S.Bc i g b hb) (.inr (S.DM C i g b hb)),cZ i o d g t.2⟩
 ·by_cases q:φ.F b\/b=φ.L
  ·exfalso;rcases q with⟨en,he,hf⟩|q
   ·exact nG ((RK S.ff en (.tail _ he) b hf).1) e
   ·exact nH q (S.off _ S.LW) e
  ·exact(x b o (λz=>nG (S.off b (XW b z)) e) (S.base b o e)).1 q
 ·rcases hW a ha with r|r
  ·exact S.off a r
  ·exact Dn (λo e=>S.base a o e) r
 ·refine O6 x S.ff λe he b hf q=>?_;cases he with
  |head=>rw[O.fL]at hf;obtain rfl:=sS hf;exact bX q
  |tail _ he=>exact S.MW b (O.FM b ⟨e,he,hf⟩) (XW b q)
 ·rcases hW b q with r|r
  ·exact S.MW b hb r
  ·refine AK (S.MA b hb) λo g=>?_;rw[g]at r;exact sN r
 ·exact AK (S.MA b hb) λo g=>x.some (λq=>S.MW b hb (XW b q)) g
theorem KA:∀m(n:Nat)(acc:List (Str×Addr))(x:Str),((x,NameKind.cell)∈m\/(acc.lookup x).isSome=true)->((cellsFrom n m acc).lookup x).isSome=true
 | [],n,acc,x,h=>by
  rcases h with h|h
  ·cases h
  ·exact h
 | (y,k)::r,n,acc,x,h=>by
  unfold cellsFrom;by_cases L:(k==NameKind.cell)=true
  ·refine rL (Xck L) (KA r _ _ x (rL Xds ?_));rcases h with h|h
   ·cases h with
    |head=>right;simp
    |tail _ h=>exact .inl h
   ·right
    cases(x==y)<;>simp[h]
  ·refine rL (Xcm L) (KA r _ _ x ?_);rcases h with h|h
   ·cases h with
    |head=>exact absurd rfl L
    |tail _ h=>exact .inl h
   ·exact .inr h
theorem SE:∀{binds:List (Str×Value)}{m:Str->Option Value}{x:Str}{v:Value},(binds.map (·.1)).Nodup->(x,v)∈binds->kf x=some .local->bindL kf binds m x=some v
 | [],m,x,v,g,h,L=>nomatch h
 |p::r,m,x,v,g,h,L=>by
  haveI g:=g;rcases Xcs.mp h with rfl|h
  ·haveI:∀r(m:Str->Option Value),x∉r.map (·.1)->bindL kf r m x=m x:=λr=>by
    induction r with
    |nil=>exact λm U=>rfl
    |cons p r Q=>
     intro m B;unfold bindL;refine rL (Q _ λq=>B (.tail _ q)) ?_;split
     ·exact(Xcm λq=>B (by exact rL q (.head _)))
     ·rfl
   unfold bindL;exact rL (Xck L) (rL (this r _ (Xc6.mp g).1) (Xck rfl))
  ·unfold bindL;exact SE (Xc6.mp g).2 h L
theorem S9:∀{binds:List (Str×Value)}{m:Str->Option Value}{x:Str}{v:Value},(binds.map (·.1)).Nodup->(x,v)∈binds->kf x≠some .local->bindC kf binds m x=some v
 | [],m,x,v,g,h,L=>nomatch h
 |p::r,m,x,v,g,h,L=>by
  haveI g:=g;rcases Xcs.mp h with rfl|h
  ·haveI:∀r(m:Str->Option Value),x∉r.map (·.1)->bindC kf r m x=m x:=λr=>by
    induction r with
    |nil=>exact λm U=>rfl
    |cons p r Q=>
     intro m B;unfold bindC;refine rL (Q _ λq=>B (.tail _ q)) ?_;split
     ·rfl
     ·exact(Xcm λq=>B (by exact rL q (.head _)))
   unfold bindC;exact rL (Xcm L) (rL (this r _ (Xc6.mp g).1) (Xck rfl))
  ·unfold bindC;exact S9 (Xc6.mp g).2 h L
noncomputable def CP(vars:List Str)(m:List (Str×NameKind)):CO:=vars.zipIdx.map λp=>(p.1,(p.2,m.lookup p.1==some .cell))
structure HE(fd:Fn)(vars:List Str)(d:DefRec):Prop where
 par:∃as,d.params=⟨[],as,none,[],[],none,[]⟩/\as.map (·.arg)=vars.take fd.np
 len:vars.length=fd.np+fd.nl
 nd:vars.Nodup
 kinds:∀x∈vars,d.scope.names.lookup x=some .local\/d.scope.names.lookup x=some .cell
 kind:d.scope.kind= .function
 co:d.scope.isCoroutine=false
 gen:d.scope.isGenerator=false
structure RI(k:Ck)(so:Bool)(fd:Fn)(vars:List Str)(d:DefRec):Prop extends HE fd vars d where
 body:EH k so d.scope.names (CP vars d.scope.names) ((List.range fd.nc).map (·+vars.length)) fd.body d.body=true
noncomputable def EW(L:Addr)(r:List (Str×Addr))(m:List (Str×NameKind))(vars:List Str)(i:Nat):Slot:=match vars[i]? with
 |some x=>if m.lookup x=some .cell then(match r.lookup x with|some a=> .c a|none=> .d L x)else .d L x
 |none=> .d L ""
def jn(φ:Fm)(env:Env)(cells:List (Str×Addr))(names:List (Str×NameKind))(vars:List Str)(np:Nat)(M:Addr->Prop):Fm where
 env:=env
 Cm:=env
 outer:=φ.Cm::φ.outer
 L:=env.locals
 slots:=EW env.locals cells names vars
 np:=np
 A:=φ.A.deeper env
 CZ:=M
theorem T3(h:(CP vars m).lookup x=some (i,b)):vars[i]? =some x/\b=(m.lookup x==some .cell):=by
 haveI D:=E9 h;unfold CP at D;refine AJ (Xdc.mp D) λp a e=>?_;clear h D;cases e;exact⟨Xg3.mp a,rfl⟩
theorem NZ:∀{as:List AR}{m:List LV}{σ:St}{i:Nat},i∉as.flatMap AR.ix->St.at (Bk σ as m) i=σ.at i
 | [],m,σ,i,_=>by cases m<;>rfl
 | .N x::as,[],σ,i,_=>rfl
 | .N x::as,l::m,σ,i,h=>(NZ λq=>h (.tail _ q)).trans (Ca λq=>h (q▸ .head _))
 | .V v::as,[],σ,i,_=>rfl
 | .V v::as,l::m,σ,i,h=>NZ (as:=as) h
theorem VN:∀{as:List AR}{m:List LV}{σ:St}{i p:Nat},(as.flatMap AR.ix).Nodup->DZ as m=true->as[p]? =some (.N i)->σ.at i≠.O->∃o,m[p]? =some (.N o)/\St.at (Bk σ as m) i= .N o
 | [],_,σ,i,p,_,_,h,_=>nS h
 | .N x::as,[],σ,i,p,_,L,_,_=>fT L
 | .N x::as,l::m,σ,i,0,g,L,h,Q=>by
  cases sS h;haveI g:(x::as.flatMap AR.ix).Nodup:=g;obtain⟨o,rfl⟩:=II (al L);exact(AG o rfl ((NZ (Xc6.mp g).1).trans (GU Q)))
 | .N x::as,l::m,σ,i,p+1,g,L,h,Q=>by haveI g:(x::as.flatMap AR.ix).Nodup:=g;have a:i≠x:=λe=>(Xc6.mp g).1 (e▸ Xf6.mpr (AG _ (Xc0 (show as[p]? =_ from h)) (.head _)));exact VN (σ:=σ.set x l) (Xc6.mp g).2 (ar L) h (rL (Ca a) Q)
 | .V v::as,[],σ,i,p,_,L,_,_=>fT L
 | .V v::as,l::m,σ,i,0,g,L,h,Q=>by cases sS h
 | .V v::as,l::m,σ,i,p+1,g,L,h,Q=>VN (as:=as) g L h Q
theorem Rz:∀{as:List AR}{vs:List Value},DT c A W M h as vs->vs.length=as.length/\∀(p:Nat)a,as[p]? =some a->∃v,vs[p]? =some v/\(match a with| .V x=>Iv c A W h x v| .N i=>v= .ref ((M i).headD 0))
 | [],vs,q=>by haveI q:=q;subst q;exact(AH rfl (λp a e=>nS e))
 | .V x::as,vs,q=>by
  obtain⟨v,r,rfl,H,q⟩:=q;refine Ax (Rz q) λl g=>(AH (by simp[l]) λp a e=>?_);cases p with
  |zero=>cases sS e;exact(AG v rfl H)
  |succ p=>exact g p a e
 | .N i::as,vs,q=>by
  obtain⟨r,rfl,q⟩:=q;obtain⟨l,g⟩:=Rz q;refine(AH (by simp[l]) λp a e=>?_);cases p with
  |zero=>cases sS e;exact(AG _ rfl rfl)
  |succ p=>exact g p a e
set_option backward.match.sparseCases true
theorem su{as:List AR}{i:Nat}(h:i∈as.flatMap AR.ix):∃p:Nat,as[p]? =some (AR.N i):=by
 refine AB λJ=>AJ (Xf6.mp h) λa ha b=>J ?_;cases a with
 |V x=>cases b
 |N x=>
  have:=Xcc.mp b;refine AB λJ=>?_;subst this;exact AK (List.mem_iff_getElem?.mp ha) λp d=>J ⟨p,d⟩
theorem Q7{as:List AR}{i p:Nat}(h:as[p]? =some (.N i)):i∈as.flatMap AR.ix:=Xf6.mpr (AG _ (Xc0 h) (.head _))
theorem aa:∀{as:List AR}{i p q:Nat},(as.flatMap AR.ix).Nodup->as[p]? =some (.N i)->as[q]? =some (.N i)->p=q
 | [],i,p,q,_,h,_=>by simp at h
 |a::as,i,p,q,g,Y,T=>by
  replace g:=Xft▸ g;have M:=Xgn.mp g;cases p with
  |zero=>
   simp at Y;subst Y;cases q with
   |zero=>rfl
   |succ q=>simp at T;exact absurd rfl (M.2.2 i (.head _) i (Q7 T))
  |succ p=>
   simp at Y;cases q with
   |zero=>simp at T;subst T;exact absurd rfl (M.2.2 i (.head _) i (Q7 Y))
   |succ q=>simp at T;exact rL (aa M.2.1 Y T) rfl
theorem jr{d:List (Str×Addr)}(h:d.Pairwise λx y=>x.2≠y.2){a b:Addr}(B:d.lookup x=some a)(p:d.lookup y=some b)(e:x≠y):a≠b:=by
 haveI Y:=E9 B;haveI T:=E9 p;clear B p;induction h with
 |nil=>cases Y
 |cons f g Q=>
  cases Y with
  |head=>
   cases T with
   |head=>exact absurd rfl e
   |tail _ T=>exact f _ T
  |tail _ Y=>
   cases T with
   |head=>exact Ne.symm (f _ Y)
   |tail _ T=>exact Q Y T
theorem im{as:List AR}:St.at (as.map (AR.lv σ)++List.replicate nl .U++List.replicate nc .O) i=(match as[i]? with|some a=>a.lv σ|none=>if i<as.length+nl then .U else .O):=by
 unfold St.at;refine rL Xdr ?_;by_cases h:i<as.length
 ·refine rL (Xc7 ..) (rL (Xf9 (by simpa using h) ..) (rL (Xdy ..) ?_));haveI:as[i]? =some as[i]:=by first|decide|simp[h]
  refine rL this ?_;rfl
 ·haveI e:as[i]? =none:=by rw[Xeb];exact lin [as.length,i] 21743898625 rfl (Xdh h)
  refine rL e ?_;dsimp only;by_cases q:i<as.length+nl
  ·refine rL (Xck q) (rL (Xf9 (by simp;exact lin [i,as.length,nl] 0x413ad5e9befda50203f081 rfl q)) (rL (Xfy (by simp;exact lin [as.length,i] 21743898625 rfl (Xdh h))) (rL Xfk (rL (Xck (by simp;exact lin [i - as.length,nl,i,as.length] 0x250fbab6a090768995ac203f081 rfl q (sB (lin [as.length,i] 21743898625 rfl (Xdh h))))) ?_))));rfl
  ·refine rL (Xcm q) (rL (Xfy (by simp;exact lin [as.length,nl,i] 0x33866236cb6081 rfl (Xdh q))) (rL Xfk ?_));split<;>rfl
inductive gJ(Φ:BZ)(fuel:Nat)(fd:Fn)(as:List AR)(σ:St)(r:RV)(outs:List LV):Prop
 |mk (hl:as.length=fd.np)(fr:FR)(AA:St)(he:Bv Φ fd.np fuel fd.body (as.map (AR.lv σ)++List.replicate fd.nl .U++List.replicate fd.nc .O)=some (fr,AA))(ho:outs=AA.take fd.np)(hr:match (generalizing:=false) fr with| .next=>r= .V .none| .ret r'=>r=r')
set_option tactic.hygienic true in
theorem Xn(G:G6 Φ fuel fd (as.map (AR.lv σ))=some (r,i)):gJ Φ fuel fd as σ r i:=by
 unfold G6 at G;by_cases a:(as.map (AR.lv σ)).length=fd.np
 ·rw[Xck a]at G;cases Y:Bv Φ fd.np fuel fd.body (as.map (AR.lv σ)++List.replicate fd.nl .U++List.replicate fd.nc .O)with
  |none=>rw[Y]at G;exact nS G
  |some p=>
   rw[Y]at G;haveI a:=(EN _).symm.trans a;obtain⟨b,B⟩:=p;cases b with
   |next=>exact⟨a,.next,B,Y,(sP G).2.symm,(sP G).1.symm⟩
   |ret m=>exact⟨a,.ret _,B,Y,(sP G).2.symm,(sP G).1.symm⟩
 ·exact nS ((Xcm a).symm.trans G)
section
variable {c:Cx}(C:c.Ok){n:Nat}
include C
def HF(c:Cx)(A:Fm)(σ:St)(M:Nat->List Addr)(b:Addr):Prop:=(∀j,(σ.at j).Az->b∉M j)/\(∀i,(A.slots i).at≠b)∧@LT.lt Nat _ A.L b/\¬c.tb b
def gG(c:Cx)(A AD:Fm)(W I:Addr->Prop)(σ:St)(M u:Nat->List Addr)(s d:Shared)(as:List AR)(np:Nat):Prop:=
 ∀Q B z l(x:Addr->Prop),B4 d l->Nx AD.F I d.heap Q l.heap->AF c AD Q B z l.heap->(∀i,i<AD.np->z i=u i)->DZ as (B.take np)=true->(∀b,x b->Q b/\HF c AD B z b)->
  ∃a,BJ c A W M s (Bk σ as (B.take np)) a l/\(∀b,¬Ex AD Q b->¬Ex A a b)/\∀b,x b->a b/\HF c A (Bk σ as (B.take np)) M b
set_option tactic.hygienic true in
theorem T8(lk:HE fd vars d)(JJ:c.base.get? a=some oF)(JF:oF.data= .func F)(hF:Ef F d.params d.body d.scope q .none)(IB:c.base.CodeRec F.code q)(O:AU I (n+2))
  (D:as.length=fd.np)
  (hB:∀AD W' B l,AU AD (n+1)->AD.np=fd.np->Aw (CP vars d.scope.names) d.scope.names AD->DB ((List.range fd.nc).map (·+vars.length)) AD->AD.env.func=some a->AD.env.code=F.code->AD.env.qual=q++".<locals>."->AD.env.scope=d.scope->AD.Cm=AD.env->
   AF c AD W' (as.map (AR.lv σ)++List.replicate fd.nl .U++List.replicate fd.nc .O) B l.heap->gG c I AD W W' σ M B s l as fd.np->
   wpAny (Mo c) AD.A (execs d.body AD.env) (λf s'=>P (.ok (.ret (match f with| .ret v=>v|_=> .none))) s')
    (λe s'=>wpAny (Mo c) AD.A (leaving AD.env e) (λu0 QW=>P (.error e) QW) (λe' QW=>P (.error e') QW) s') l)
  (hn:(as.flatMap AR.ix).Nodup) (Y:∀x∈as.flatMap AR.ix,Cu (σ.at x)=true) (S:AF c I W σ M s.heap) (R:DT c I W M s.heap as vs):
  codeAny (Mo c) I.A (.call (.ref a) ⟨vs,[]⟩) P s:=by
 refine AB λJ=>Ax (Rz R) λZh rd=>AJ lk.par λar ep ea=>J ?_;have nm:ar.length=fd.np:=by haveI:=congrArg List.length ea;rw[EN,Xdk,lk.len]at this;exact Xdl (lin [ar.length,fd.np,min fd.np (fd.np+fd.nl)] 0x2e835b20099001 rfl (Xcg this) (Xe0 fd.np (fd.np+fd.nl))) (lin [fd.np,ar.length,min fd.np (fd.np+fd.nl)] 0x5b20562b099001 rfl (Xcg this.symm) (mA (a:=fd.np) (lin [fd.np,fd.nl] 21245953 rfl)))
 have bg:(ar.map (·.arg)).Nodup:=rL ea ((List.take_sublist _ _).nodup lk.nd)
 haveI TK:=hF;replace TK:=ep▸ TK;haveI V:=SF TK bg (rL Zh (rL D (rL nm rfl)));have zk:((ar.map (·.arg)).zip vs).map (·.1)=ar.map (·.arg):=List.map_fst_zip (rL (EN ..) (rL (nm ..) (rL (Zh ..) (rL (D ..) (Xc4 _)))))
 have gE:(((ar.map (·.arg)).zip vs).map (·.1)).Nodup:=rL zk bg
 have kept:=S.base;refine Xgr (show I.A.depth<1000 by haveI:=O.depth;exact lin [I.A.depth,n] 0x2f0c3a6cda9d75c06bbf88eb03f081 rfl this) (kept a oF JJ) JF (hF.sc▸ lk.co) (hF.sc▸ lk.gen) hF.body (hF.qual▸ IB.keeps kept) (rL V (rL hF.sc (rL hF.glob (rL hF.SR (rL hF.qual (rL hF.blt (Xcp (Xhm lk.kind (λx hx=>?_) λenv he l X=>?_))))))))
 ·have rk:x.1∈vars:=by
   haveI:x.1∈ar.map (·.arg):=zk▸ Xc3 hx
   rw[ea]at this;exact Xet this
  rcases lk.kinds _ rk with q|q
  ·exact .inl q
  ·exact .inr ⟨q,KA _ _ _ _ (.inl (E9 q))⟩
 subst he;let L':Addr:=s.heap.objs.size;let r:=cellsFrom (s.heap.objs.size+1) d.scope.names [];let env:=newEnv d.scope s.heap.objs.size mainGlobals r (q++".<locals>.") (some a) F.code none builtinsNs;have T:=X.toInCall.keep;have FX:=X.toInCall.ns;have pj:B4 s l:=Ce X.done λh' tk e _=>rL e (AX rfl rfl rfl);haveI fL:s.heap.get? L'=none:=Bg;have LL: @LT.lt Nat _ I.L L':=Cq C O S;have OZ:∀x b,r.lookup x=some b→@LT.lt Nat _ L' b:=λx b q=>X.above x b (E9 q);have fC:=λx b q=>H0 (Xhe (OZ x b q));have ne:∀{b:Addr}{o:Obj},s.heap.get? b=some o->b≠L'/\∀x,r.lookup x≠some b:=λ{b o}e=>(AH (λq=>(nH q fL e)) λx q=>(nG (fC x b q) e));let FP:Addr->Prop:=λb=>∃i∈as.flatMap AR.ix,b∈M i;have own:∀i∈as.flatMap AR.ix,(σ.at i).Az:=λi U=>AK (II (Y i U)) λo e=>rL e trivial;have FW:∀b,FP b->W b/\∃o,s.heap.get? b=some o:=λb⟨i,U,V⟩=>(AH (S.Bc i (own i U) b V) (S.DM C i (own i U) b V));let M':Addr->Prop:=λb=>(Ex I W b/\¬FP b/\¬c.tb b)/\∃o,s.heap.get? b=some o;let W':Addr->Prop:=λb=>FP b\/b=L'\/(∃x,r.lookup x=some b)\/c.tb b;let AD:=jn I env r d.scope.names vars fd.np M';let B:Nat->List Addr:=λi=>match as[i]? with|some (.N x)=>M x|_=>[]
 have NH:=Fq C O S LL;haveI wG:=λx b q=>Fq C O S (Xf0 LL (OZ x b q));have hF:∀b,AD.F b->I.F b\/b=I.L:=by
  rintro b ⟨e,he,hf⟩;cases he with
  |head=>right;rw[O.fL]at hf;obtain rfl:=sS hf;rfl
  |tail _ he=>exact .inl (AG e he hf)
 haveI gh:∃o,s.heap.get? I.L=some o:=AK S.LN λ_ Ap=>Aj Ap λo _ _ q _=>⟨o,q⟩;haveI gL:∀b,AD.F b->M' b:=λb V=>by
  rcases hF b V with q|q
  ·exact⟨⟨.inl (O.FM b q),λz=>S.MW b (O.FM b q) (FW b z).1,λz=>S.MW b (O.FM b q) (S.tW b z)⟩,S.MA b (O.FM b q)⟩
  ·subst q;exact⟨⟨.inr S.LW,λ⟨i,U,V⟩=>S.Lo i (own i U) V,S.tL⟩,gh⟩
 haveI O':AU AD (n+1):=⟨O.hand,by show I.A.depth+1+6*(n+1)+120<=990;haveI:=O.depth;exact lin [I.A.depth,n] 0xc8f6bb8ff7cf96796c3e8856c2daf28c80148dd581 rfl this,by show I.A.units+3+60*(n+1)+400<=9900;haveI:=O.units;exact lin [I.A.units,n] 0xfb2e947b6c75c25af62b027b00000000688a85d36872914e4580d581 rfl this,by show I.A.frames.map (env::·)=_;refine rL O.frames ?_;rfl,rfl,lk.kind,rfl,lk.kind,rfl,rfl,gL⟩
 have L:∀i,((AD.slots i).at=L'\/∃x,r.lookup x=some (AD.slots i).at):=λi=>by
  show((EW L' r d.scope.names vars i).at=L'\/∃x,r.lookup x=some (EW L' r d.scope.names vars i).at);unfold EW;cases hv:vars[i]? with
  |none=>exact .inl rfl
  |some x=>
   dsimp only;by_cases q:d.scope.names.lookup x=some .cell
   ·refine rL (Xck q) ?_;cases V:r.lookup x with
    |none=>exact .inl rfl
    |some b=>exact .inr ⟨x,V⟩
   ·exact rL (Xcm q) (.inl rfl)
 haveI iS:∀x b,r.lookup x=some b->∃o,l.heap.get? b=some o:=λx b q=>AB λJ=>AJ (X.cell x b q) λo e _=>J ⟨o,e⟩;haveI Ry:∃o,l.heap.get? L'=some o:=Aj FX λo _ _ q _=>⟨o,q⟩;have u:∀{i:Nat}{x:Str},vars[i]? =some x->(d.scope.names.lookup x=some .local/\AD.slots i= .d L' x)\/(d.scope.names.lookup x=some .cell/\∃b,r.lookup x=some b/\AD.slots i= .c b):=λ{i x}hx=>by
  haveI es:AD.slots i=EW L' r d.scope.names vars i:=rfl;refine rL es ?_;unfold EW;refine rL hx ?_;dsimp only;rcases lk.kinds x (Xc0 hx)with q|q
  ·left;exact rL q ⟨rfl,rfl⟩
  ·right
   refine rL (Xck q) ?_;haveI:=KA d.scope.names (s.heap.objs.size+1) [] x (.inl (E9 q));exact AK (Xeq.mp this) λb V=>⟨q,b,V,by exact rL (show r.lookup x=some b from V) rfl⟩
 have kindOf:∀x,env.kindOf x=d.scope.names.lookup x:=λu0=>rfl;have zG:∀{i:Nat}{v:Value},i<as.length->vs[i]? =some v->(AD.slots i).Dx l.heap v:=λ{i v}U hv=>by
  haveI hx:vars[i]? =some (vars[i]'(rL lk.len (lin [i,fd.np,fd.nl,as.length] 0x1854057b6de3f1da50203f081 rfl (Xcg D) U))):=by first|decide|simp
  have hz:(vars[i]'(rL lk.len (lin [i,fd.np,fd.nl,as.length] 0x1854057b6de3f1da50203f081 rfl (Xcg D) U)),v)∈(ar.map (·.arg)).zip vs:=by refine Xc0 (i:=i) ?_;rw[List.getElem?_zip_eq_some];refine⟨rL (ea ..) (rL (List.getElem?_take ..) (rL (Xck (by exact lin [i,fd.np,as.length] 0x7355e6fbf0f06ac203f081 rfl (Xcg D) U) ..) ?_)),hv⟩;exact hx
  rcases u hx with⟨q1,q2⟩|⟨q1,b,q2,q3⟩
  ·exact q2▸ ⟨_,FX,SE gE hz q1⟩
  ·refine rL (q3 ..) ?_;haveI:=X.cell _ b q2;rw[S9 gE hz λz=>absurd (q1.symm.trans z) (by first|decide|simp)]at this;exact this
 haveI zF:∀{i:Nat}{x:Str},vars[i]? =some x->(AD.slots i).Af l.heap:=λ{i x}hx=>by
  rcases u hx with⟨q1,q2⟩|⟨q1,b,q2,q3⟩
  ·exact q2▸ ⟨_,FX⟩
  ·exact q3▸ ⟨_,X.cell _ b q2⟩
 let H:St:=as.map (AR.lv σ)++List.replicate fd.nl .U++List.replicate fd.nc .O;haveI OT:∀i,H.at i=(match as[i]? with|some a=>a.lv σ|none=>if i<as.length+fd.nl then .U else .O):=λi=>im;have fQ:∀{i},(H.at i).on->∃x,vars[i]? =some x:=λ{i}h=>by
  rw[OT]at h;haveI:i<as.length+fd.nl:=by
   by_cases q:i<as.length
   ·exact lin [i,as.length,fd.nl] 0xe6ae9befda50203f081 rfl q
   ·haveI e:as[i]? =none:=by rw[Xeb];exact lin [as.length,i] 21743898625 rfl (Xdh q)
    rw[e]at h;dsimp only at h;by_cases z:i<as.length+fd.nl
    ·exact z
    ·rw[Xcm z]at h;exact h.elim
  exact⟨vars[i]'(lk.len▸ lin [i,fd.np,fd.nl,as.length] 0x2512679f7b6de3f1da50203f081 rfl (Xcg D) this),by first|decide|simp⟩
 have A:∀{i},(H.at i).Az->∃j o,as[i]? =some (.N j)/\σ.at j= .N o/\H.at i= .N o/\B i=M j/\j∈as.flatMap AR.ix:=λ{i}h=>by
  haveI h':=h;rw[OT]at h;cases e:as[i]? with
  |none=>
   rw[e]at h;dsimp only at h;split at h<;>exact h.elim
  |some a=>
   rw[e]at h;cases a with
   |V x=>exact h.elim
   |N j=>
    haveI G:=Q7 e;refine AK (II (Y j G)) λo ho=>⟨j,o,rfl,ho,?_,?_,G⟩
    ·rw[OT,e];exact ho
    ·show(match as[i]? with|some (.N x)=>M x|_=>[])=M j;rw[e]
 have hM:∀b o,s.heap.get? b=some o->¬Ex I W b->¬Ex AD W' b:=λb o e N q=>by
  rcases q with q|q|q|⟨x,q⟩|q
  ·exact N q.1.1
  ·exact N (.inr (FW b q).1)
  ·exact(ne e).1 q
  ·exact(ne e).2 x q
  ·exact N (.inr (S.tW b q))
 haveI bn:∀b,s.heap.get? b=none->c.base.get? b=none:=λb e=>Dn (λo q=>kept b o q) e;have S':AF c AD W' H B l.heap:=by
  refine⟨λi=>?_,λi=>?_,λi=>?_,λi j Dq U G=>?_,λi j G hm=>?_,λi j Dq U G b V HR=>?_,.inr (.inl rfl),⟨_,FX⟩,Xhe (Nat.lt_of_le_of_lt S.La LL),λj G hm=>?_,λa ha=> .inr (.inr (.inr ha)),λi=>?_,λj G b V=>?_,NH,λb o e=>T b o (kept b o e),λb V=>?_,?_,λb V q=>?_,λb V=>let⟨o,e⟩:=V.2;⟨o,T b o e⟩,C.KS S.gi λa o u0 e=>⟨T a o e,λN=>hM a o e N⟩⟩
  ·rw[OT];cases e:as[i]? with
   |none=>
    dsimp only;split
    ·rename_i q;haveI e':as.length<=i:=by rw[List.getElem?_eq_none_iff]at e;exact e
     exact zF (x:=vars[i]'(by rw[lk.len];exact lin [i,fd.np,fd.nl,as.length] 0x2512679f7b6de3f1da50203f081 rfl (Xcg D) q)) (by first|decide|simp)
    ·exact trivial
   |some a=>
    refine AB λJ=>AJ (rd i a e) λv hv Pb=>J ?_;have U:i<as.length:=(Xc8.mp e).1;have hH:=zG U hv;cases a with
    |V x=>exact⟨v,hH,AZ.mono (λb o N e=>⟨T b o e,hM b o e N⟩) x Pb⟩
    |N j=>
     haveI G:=Q7 e;refine AK (II (Y j G)) λo ho=>?_;haveI ef:B i=M j:=by
      show(match as[i]? with|some (.N x)=>M x|_=>[])=M j;rw[e]
     show Ho c (Ex AD W') W' l.heap (AD.slots i) (B i) (σ.at j);rw[ho,ef];haveI Pb:v= .ref ((M j).headD 0):=Pb;rw[Pb]at hH;refine⟨hH,λb V=> .inl ⟨j,G,V⟩,(Dt S ho).2.mono C λb o' V e'=>⟨T b o' e',λN=>hM b o' e' N⟩⟩
  ·rcases L i with q|⟨x,q⟩
   ·exact .inr (.inl q)
   ·exact .inr (.inr (.inl ⟨x,q⟩))
  ·rcases L i with q|⟨x,q⟩
   ·exact q▸ Ry
   ·exact iS x _ q
  ·refine AK (fQ U) λx hx=>AK (fQ G) λy hy=>?_;have Zj:x≠y:=λe=>Dq (by subst e;exact(List.getElem?_inj (Xc8.mp hx).1 lk.nd).mp (hx.trans hy.symm))
   rcases u hx with⟨_,q2⟩|⟨_,b,q2,q3⟩
   ·rcases u hy with⟨_,r2⟩|⟨_,b',r2,r3⟩
    ·rw[q2,r2];exact .inr Zj
    ·rw[q2,r3];exact Xdb (OZ y b' r2)
   ·rcases u hy with⟨_,r2⟩|⟨_,b',r2,r3⟩
    ·rw[q3,r2];exact Xf4 (OZ x b q2)
    ·rw[q3,r3];exact jr X.apart q2 r2 Zj
  ·refine O0 (A G) λm o _ _ _ ef Gi=>?_;rw[ef]at hm;refine AK (S.DM C m (own m Gi) _ hm) λ_ e=>?_;rcases L i with q|⟨x,q⟩
   ·exact(ne e).1 q
   ·exact(ne e).2 x q
  ·refine O0 (A U) λm o qu _ _ ef Gi=>AB λJ=>O0 (A G) λm₂ Xb2 qv _ _ kj qw=>J ?_;rw[ef]at V;rw[kj]at HR;refine S.oo m m₂ (λe=>Dq ?_) (own m Gi) (own m₂ qw) b V HR;subst e;exact aa hn qu qv
  ·refine AB λJ=>O0 (A G) λm o _ _ _ ef Gi=>J ?_;rw[ef]at hm;exact AK (S.DM C m (own m Gi) _ hm) λ_ e=>(ne e).1 rfl
  ·rcases L i with q|⟨x,q⟩
   ·exact q▸ NH
   ·exact wG x _ q
  ·refine O0 (A G) λm o _ _ _ ef Gi=>?_;rw[ef]at V;exact S.EO m (own m Gi) b V
  ·rcases V with q|q|⟨x,q⟩|q
   ·exact S.off b (FW b q).1
   ·exact q▸ bn _ fL
   ·exact bn b (fC x b q)
   ·exact C.Ib b q
  ·exact GO FX λo e1 e2 q qd _=>⟨by rw[show AD.Cm.scope.kind= .function from lk.kind];simp,⟨L',o,rfl,bn _ fL,q,λvs z=>by rw[qd]at z;cases z⟩,O6 (F:=λu0=>False) (Ch.keeps T) S.ff λu0 u0 u0 u0 z=>z⟩
  ·refine Ax V λG9 Kf=>AK Kf λo e=>?_;obtain⟨_,n1,n2⟩:=G9;rcases q with q|q|⟨x,q⟩|q
   ·exact n1 q
   ·exact(ne e).1 q
   ·exact(ne e).2 x q
   ·exact n2 q
 have en:Aw (CP vars d.scope.names) d.scope.names AD:=⟨λx i b hx=>by
  refine Ax (T3 hx) λh1 h2=>?_;rcases u h1 with⟨q1,q2⟩|⟨q1,b',q2,q3⟩
  ·haveI:b=false:=by rw[h2,q1];rfl
   exact this▸ ⟨q1,q2⟩
  ·haveI:b=true:=by rw[h2,q1];rfl
   exact this▸ ⟨.inl q1,b',q2,q3⟩,λx hx=>hx⟩
 have du:DB ((List.range fd.nc).map (·+vars.length)) AD:=λi U=>by
  refine AB λJ=>AJ (Xdc.mp U) λj G J8=>J ?_;rw[<-J8];show(EW L' r d.scope.names vars (j+vars.length)).at=L';unfold EW;haveI:vars[j+vars.length]? =none:=by rw[Xeb];exact lin [vars.length,j] 233473 rfl
  rw[this];rfl
 refine⟨C.nolimit.keeps λb o e=>T b o (kept b o e),codeAny_func (hB AD W' B l O' rfl en du rfl rfl rfl rfl rfl S' ?_)⟩;intro Ht Q nN s' isNew sm nx K4 k₂ Td ZT;have bi:∀b,isNew b->Ht b:=λb q=>(ZT b q).1;let Ew:Addr->Prop:=λb=>(W b/\(c.tb b\/∃o,s.heap.get? b=some o))\/isNew b;have E:∀j∈as.flatMap AR.ix,∃p o,as[p]? =some (.N j)/\p<fd.np/\(Q.take fd.np)[p]? =some (.N o)/\Q.at p= .N o/\nN p=M j/\St.at (Bk σ as (Q.take fd.np)) j= .N o:=λj G=>by
  refine AB λJ=>AK (su G) λp hp=>AK (II (Y j G)) λo' HS=>J ?_;refine AB λJ=>AJ (VN hn Td hp (by rw[HS];simp)) λo h1 h2=>J ?_;haveI Fb:p<fd.np:=D▸ (Xc8.mp hp).1;refine⟨p,o,hp,Fb,h1,?_,?_,h2⟩
  ·rw[List.getElem?_take,Xck Fb]at h1;unfold St.at;rw[Xdr,h1];rfl
  ·rw[k₂ p Fb];show(match as[p]? with|some (.N x)=>M x|_=>[])=M j;rw[hp]
 have gM:∀b,FP b->Ht b:=λb⟨j,G,V⟩=>AB λJ=>O1 (E j G) λp o _ _ _ h4 h5 _=>J (K4.Bc p (by rw[h4];exact trivial) b (h5▸ V));have K:∀b,¬Ex AD Ht b->¬Ex I Ew b:=λb N q=>by
  rcases q with q|⟨q,z⟩|q
  ·exact N (.inl ⟨⟨.inl q,λz=>S.MW b q (FW b z).1,λz=>S.MW b q (S.tW b z)⟩,S.MA b q⟩)
  ·by_cases t:c.tb b
   ·exact N (.inr (K4.tW b t))
   ·by_cases f:FP b
    ·exact N (.inr (gM b f))
    ·exact N (.inl ⟨⟨.inr q,f,t⟩,z.resolve_left t⟩)
  ·exact N (.inr (bi b q))
 have ch:Ch (λb=>I.F b\/b=I.L) (λb=>c.tb b\/∃j,j∈as.flatMap AR.ix/\b∈M j) s.heap s'.heap:=by
  intro b o N e;haveI nW:¬W' b:=λq=>by
   rcases q with⟨j,G,V⟩|q|⟨x,q⟩|q
   ·exact N (.inr ⟨j,G,V⟩)
   ·exact(ne e).1 q
   ·exact(ne e).2 x q
   ·exact N (.inl q)
  exact AB λJ=>Bf (nx.1 b o nW (T b o e)) λc1 c2 c3=>J ⟨λnf=>c1 λq=>nf (hF b q),c2,λm hm=>c3 m (AB λJ=>Aj hm λo' e1 e2 g rr=>J ⟨o',e1,e2,T b o' g,rr⟩)⟩
 haveI vb:∀b,isNew b->W b\/s.heap.get? b=none:=λb q=>by
  rcases nx.2 b (bi b q)with z|z
  ·rcases z with z|z|⟨x,z⟩|z
   ·exact .inl (FW b z).1
   ·exact .inr (z▸ fL)
   ·exact .inr (fC x b z)
   ·exact .inl (S.tW b z)
  ·right
   exact Dn (λo e=>T b o e) z
 haveI Z6:∀a',Ew a'->W a'\/s.heap.get? a'=none:=λa' q=>q.elim (λq=> .inl q.1) (vb a');haveI Lp:AF c I Ew (Bk σ as (Q.take fd.np)) M s'.heap:=by refine S.vM C O ch (λj G=>⟨own j G,AB λJ=>O1 (E j G) λp o _ _ _ h4 h5 h6=>J ?_⟩) (λj G=>II (Y j G)) (λj G=>NZ G) Z6 (λa' h1 h2=> .inl ⟨h1,h2⟩) (C.KS K4.gi λb o u0 e=>⟨e,K b⟩);haveI hl:=K4.lv p;rw[h4]at hl;haveI:=hl.2.2;rw[h5]at this;exact⟨o,h6,this.mono C λb ob u0 e=>⟨e,K b⟩⟩
 haveI XW:∀b,(c.tb b\/∃j,j∈as.flatMap AR.ix/\b∈M j)->W b:=λb q=>q.elim (S.tW b) λ⟨j,G,V⟩=>S.Bc j (own j G) b V;refine⟨Ew,⟨pj.trans sm,⟨ch.weaken XW λb N q=>q.elim id λq=>absurd S.LW (q▸ N),Z6⟩,Lp⟩,K,λa' cM=>AB λJ=>Ax (ZT a' cM) λMb Ap=>FE Ap λh1 h2 h3 h4=>?_⟩;refine J ?_;have c0:∀{b:Addr},W b->(∃o,s.heap.get? b=some o)->¬c.tb b->¬FP b->b≠a':=λ{b}w⟨o,e⟩nt nf q=>by
  subst q;rcases nx.2 b Mb with z|z
  ·rcases z with z|z|⟨x,z⟩|z
   ·exact nf z
   ·exact(ne e).1 z
   ·exact(ne e).2 x z
   ·exact nt z
  ·rw[T b o e]at z;exact sN z
 refine⟨.inr cM,λj G q=>?_,λi q=>?_,Xf0 LL h3,h4⟩
 ·by_cases z:j∈as.flatMap AR.ix
  ·exact O1 (E j z) λp o' _ _ _ g4 g5 _=>h1 p (by rw[g4];exact trivial) (g5▸ q)
  ·rw[NZ z]at G;exact c0 (S.Bc j G a' q) (S.DM C j G a' q) h4 (λ⟨m,hm,V⟩=>S.oo j m (λe=>z (e▸ hm)) G (own m hm) a' q V) rfl
 ·exact c0 (S.sw i) (S.al i) (S.ts i) (λ⟨m,hm,V⟩=>S.so i m (own m hm) V) q
theorem nU(lk:HE fd vars d)(JJ:c.base.get? a=some oF)(JF:oF.data= .func F)(hF:Ef F d.params d.body d.scope q .none)(IB:c.base.CodeRec F.code q)(O:AU D (n+2))
  (A:as.length=fd.np) (l:j=AA.take fd.np) (m:match (generalizing:=false) fr with| .next=>r= .V .none| .ret r'=>r=r')
  (hB:∀AD,AU AD (n+1)->AD.np=fd.np->Aw (CP vars d.scope.names) d.scope.names AD->DB ((List.range fd.nc).map (·+vars.length)) AD->AD.env.func=some a->AD.env.code=F.code->AD.env.qual=q++".<locals>."->AD.env.scope=d.scope->
   BP c AD (execs d.body AD.env) (as.map (AR.lv σ)++List.replicate fd.nl .U++List.replicate fd.nc .O) fr AA)
  (hn:(as.flatMap AR.ix).Nodup) (I:∀x∈as.flatMap AR.ix,Cu (σ.at x)=true) (t:DZ as j=true) (S:AF c D W σ M s.heap) (R:DT c D W M s.heap as vs):
  wpAny (Mo c) D.A (call (.ref a) vs) (Aa c D W M s (Bk σ as j) r) E s:=by
 refine Xfe (T8 C lk JJ JF hF IB O A (λAD W' u B O' np en du h1 h2 h3 h4 U S' bk=>Xcv (hB AD O' np en du h1 h2 h3 h4 W' u B _ S') (λf L p=>AB λJ=>?_) λU U x=>x) hn I S R);clear hB;refine B8 p λQ z w=>?_;obtain⟨sm,nx,h,i,G⟩:=w;subst l;refine J ?_
 suffices H:∀v,DW c AD Q AA z L.heap r v->Aa c D W M s (Bk σ as (AA.take fd.np)) r v L by
  cases fr with
  |next=>
   haveI G:=G;refine AB λJ=>?_;subst G;haveI m:=m;clear m J;subst m;exact J (H .none rfl)
  |ret r'=>
   refine AB λJ=>AJ G λv V R'=>?_;haveI m:=m;subst m;exact J (V▸ H v R')
 intro v Rv;cases r with
 |V y=>
  exact AB λJ=>Bh (bk Q AA z L (λU=>False) sm nx h i t λU q=>q.elim) λg st K _=>J (AG g st (AZ.mono (λb o nb e=>⟨e,K b nb⟩) y Rv))
 |M o=>
  refine AB λJ=>?_;obtain⟨T,Y,Mb,hO,h1,h2,h3,h4,h5⟩:=Rv;exact Bh (bk Q AA z L (λb=>b=T) sm nx h i t λb q=>q▸ (AH Mb (DR h1 h2 h3 h4))) λg st K N=>Ax (N T rfl) λn0 w=>FE w λn1 n2 n3 n4=>J (Y▸ (AG g st ⟨T,rfl,n0,hO.mono C λb ob U e=>⟨e,K b⟩,n1,n2,n3,n4,h5⟩))
end
section
variable {c:Cx}(C:c.Ok){k:Ck}(AM:k.fl=c.fl){E0:Nat->Option Value}(gl:Jv c k E0){Φ:BZ}{n:Nat}(As:DU c Φ n E0)(B5:Jw c k E0)
include C AM gl As B5
theorem nT(lk:RI k so fd vars d)(Q:c.base.get? a=some t)(m:t.data= .func F)(e:Ef F d.params d.body d.scope q .none)(b:c.base.CodeRec F.code q)
  (j:so=true->∀AD,AU AD (n+1)->AD.env.func=some a->AD.env.code=F.code->AD.env.qual=q++".<locals>."->GS c AD k) (O:AU A (n+2)) (G:G6 Φ fuel fd (as.map (AR.lv σ))=some (r,i))
  (g:(as.flatMap AR.ix).Nodup) (I:∀x∈as.flatMap AR.ix,Cu (σ.at x)=true) (o:DZ as i=true) (S:AF c A W σ M s.heap) (R:DT c A W M s.heap as vs):
  wpAny (Mo c) A.A (call (.ref a) vs) (Aa c A W M s (Bk σ as i) r) E s:=by obtain⟨y,u,B,v,h,f⟩:=Xn G;exact nU C lk.toHE Q m e b O y h f (λAD V p L l Y T H U=>Gd C AM gl As B5 fd.body V L l (λz=>j z AD V Y T H) lk.body (p▸ v)) g I o S R
end
set_option backward.match.sparseCases false
abbrev Cd:Program:=PySem.Challenge.pw_nz0050_01
structure HD where
 id:Nat
 cls:Str:=""
 name:Str
 fd:Fn
 so:Bool
 vars:List Str
def En:List HD:=[
 ⟨0,"","least_of",YR,false,["params"]⟩,
 ⟨1,"","most_of",YT,false,["params"]⟩,
 ⟨2,"","places_of",YX,false,["params"]⟩,
 ⟨3,"","bounds_text",YF,false,["least","most"]⟩,
 ⟨4,"","expected",YG,false,["params"]⟩,
 ⟨5,"","check_count",I7,false,["world","many","least","most","told"]⟩,
 ⟨6,"","arity",YE,false,["params","strict","least","most","is_open"]⟩,
 ⟨7,"","group_names",YI,false,["place"]⟩,
 ⟨8,"","names_in",YU,false,["params","found","place"]⟩,
 ⟨9,"","fitted",YH,false,["args","params","most","lack"]⟩,
 ⟨10,"","items_of",YP,false,["value"]⟩,
 ⟨11,"","put_place",Yc,false,["world","place","value","values"]⟩,
 ⟨12,"","put_all",Yb,false,["world","params","args","values","front","back","given","at","behind"]⟩,
 ⟨13,"","bind",I6,false,["world","params","args","strict","values","given"]⟩,
 ⟨14,"","proc_lambda",YZ,false,["world","self","args"]⟩,
 ⟨15,"","proc_arity",YY,false,["world","self","args"]⟩,
 ⟨16,"","proc_parameters",Ya,false,["world","self","args","params","rows","needed","name","value","told"]⟩,
 ⟨17,"","_law_box",Xz,false,["script","whole_one","cell"]⟩,
 ⟨18,"","_law_take",YA,false,["box","many","digit"]⟩,
 ⟨19,"","_law_name",Y3,false,["box"]⟩,
 ⟨20,"","_law_place",Y5,false,["box","deep"]⟩,
 ⟨21,"","_law_shape",Y8,false,["box","deep","in_group","required","optional","way","rest","post","block"]⟩,
 ⟨22,"","_law_counts",Y0,false,["layout","least_count"]⟩,
 ⟨23,"","_law_fit",Y2,false,["layout","items","least_count","most_count"]⟩,
 ⟨24,"","_law_put",Y7,false,["found","layout","items","front","behind","given_count","pairs","spot","item"]⟩,
 ⟨25,"","_law_names",Y4,false,["layout","found","spot"]⟩,
 ⟨26,"","_law_plain",Y6,false,["value"]⟩,
 ⟨27,"","_law_thing",YB,false,["world","plain"]⟩,
 ⟨28,"","_law_bound",EV,false,["world","layout","items","is_strict","bound","given_count","e"]⟩,
 ⟨29,"","_law_due",Y1,true,["layout","items","is_strict","least_count","most_count","counts","spots","found","given_count"]⟩,
 ⟨30,"","_law_told_right",YC,false,["world","layout","is_strict","proc","least_count","most_count","more","due","sign","spot"]⟩,
 ⟨31,"","_law_shape_right",Y9,false,["box","world","layout","large","least_count","most_count","counts","rows","is_strict","items"]⟩,
 ⟨41,"World","list_of",Yi,false,["self","items"]⟩,
 ⟨42,"World","proc",Yj,false,["self","params","body","env","self_value","nesting","home","site","is_lambda","definer","owner"]⟩,
 ⟨50,"World","text",Yk,false,["self","text"]⟩,
 ⟨51,"World","error",Yh,false,["self","name","message"]⟩]
noncomputable def Cc(c:Nat):List Str:=((Hy.find? λx=>x.C==c).map (·.fs)).getD []
noncomputable def Ux:List (Nat×Str):=[(40,"Params"),(46,"ListThing"),(47,"Text"),(48,"ErrorThing"),(49,"ProcThing")]
noncomputable def QE:List (Nat×Str×Addr):=[(41,"list_of",671),(42,"proc",699),(44,"number",581),(45,"builtin",602),(50,"text",664),(51,"error",727)]
def NI(f:Nat):Str:=if f<32 then((En.find? λx=>x.id==f).map (·.name)).getD "" else(Ux.lookup f).getD ""
def QG(f:Nat):Str:=((QE.lookup f).map (·.1)).getD (if f==43 then "fail" else "")
noncomputable def wR:List (Nat×Addr):=[(40,49),(46,114),(47,94),(48,213),(49,193)]
def BN(f:Nat):Option Value:=if f<32 then(FU[f]?).map λx=> .ref x.a else match wR.lookup f,QE.lookup f with
 |some a,_=>some (.ref a)
 |_,some (_,a)=>some (.ref a)
 |_,_=>if f==43 then some (.ref 734)else none
noncomputable def Rq(x:PySem.Expr)(f:Arguments->PySem.Expr->Scope->Bool):Bool:=match x with| .Lambda a b s _=>f a b s|_=>false
@[elab_as_elim]theorem s6{P:PySem.Expr->Prop}(h:Rq x f=true)(k:∀a b s p,f a b s=true->P (.Lambda a b s p)):P x:=by
 cases x<;>first|exact k _ _ _ _ h|exact fT h
def V3(as:Arguments):Bool:=as.posonlyargs.isEmpty&&(as.vararg.isNone&&(as.kwonlyargs.isEmpty&&(as.kw_defaults.isEmpty&&(as.kwarg.isNone&&(as.defaults.isEmpty&&a1 as.args λa=>a.annotation.isNone&&a.arg=="pair")))))
def aQ(E:List Keyword):Bool:=a1 E λw=>w.arg==some ("key":Str)&&Rq w.value λN b M=>V3 N&&(M==⟨.function,[("pair",.local)],false,false,[]⟩&&Hu b λx y=>(BU x λn=>n=="pair")&&Eg y λc=>c== .int 0)
theorem xc(h:V3 as=true):∃r,as=⟨[],[⟨"pair",none,r⟩],none,[],[],none,[]⟩:=by obtain⟨B,ar,v,c,kd,k,d⟩:=as;haveI h:(B.isEmpty&&(v.isNone&&(c.isEmpty&&(kd.isEmpty&&(k.isNone&&(d.isEmpty&&a1 ar λa=>a.annotation.isNone&&a.arg=="pair"))))))=true:=h;refine iE h λh=>JN h λh=>iE h λh=>iE h λh=>JN h λh=>iE h λh=>i1 h λa h=>?_;obtain⟨b,e,r⟩:=a;haveI h:(e.isNone&&b=="pair")=true:=h;exact JN h λh=>GB h ⟨r,rfl⟩
theorem sV(h:aQ E=true):∃r H u z a C j,E=[⟨some "key",.Lambda ⟨[],[⟨"pair",none,r⟩],none,[],[],none,[]⟩ (.Subscript (.Name "pair" H) (.Constant (.int 0) u z) a) ⟨.function,[("pair",.local)],false,false,[]⟩ C,j⟩]:=by refine i1 h λw h=>?_;obtain⟨k,v,j⟩:=w;haveI h:(k==some ("key":Str)&&Rq v λN b M=>V3 N&&(M==⟨.function,[("pair",.local)],false,false,[]⟩&&Hu b λx y=>(BU x λn=>n=="pair")&&Eg y λc=>c== .int 0))=true:=h;exact C0 h λh=>s6 h λN b M C h=>(xc (al h)).elim λr e=>e▸ C0 (ar h) λh=>Kj h λx y a h=>BD (al h) λnm H Y=>Fd (ar h) λc u z T=>GB Y (GB T (DA r H u z (Cf a C j rfl)))
def EA:Ck:=⟨Cc,NI,QG,aQ⟩
noncomputable def NM(ps:Arguments)(ns:List Str):Bool:=ps.posonlyargs.isEmpty&&(ps.vararg.isNone&&(ps.kwonlyargs.isEmpty&&(ps.kw_defaults.isEmpty&&(ps.kwarg.isNone&&ps.args.map Arg.arg==ns))))
theorem V4(h:NM ps ns=true):ps=⟨[],ps.args,none,[],[],none,ps.defaults⟩/\ps.args.map Arg.arg=ns:=by obtain⟨a,b,c,d,e,f,g⟩:=ps;exact⟨rL (show a=[]from Xf7.mp (al h)) (rL (show c=none from Xe9.mp (al (ar h))) (rL (show d=[]from Xf7.mp (al (ar (ar h)))) (rL (show e=[]from Xf7.mp (al (ar (ar (ar h))))) (rL (show f=none from Xe9.mp (al (ar (ar (ar (ar h)))))) rfl)))),eq_of_beq (ar (ar (ar (ar (ar h)))))⟩
theorem d0(h:NM ps ns=true)(u:ps.defaults.isEmpty=true):∃as,ps=⟨[],as,none,[],[],none,[]⟩/\as.map (·.arg)=ns:=
 (AG _ ((Xf7.mp u)▸ (V4 h).1) ((V4 h).2))
def T4(k:Ck)(so:Bool)(fd:Fn)(vars:List Str)(p:Arguments)(body:List Stmt)(sc:Scope):Bool:=
 NM p (vars.take fd.np)&&(p.defaults.isEmpty&&(vars.length==fd.np+fd.nl&&(decide vars.Nodup&&(vars.all (λx=>sc.names.lookup x==some .local||sc.names.lookup x==some .cell)&&(decide (sc.kind= .function)&&(!sc.isCoroutine&&(!sc.isGenerator&&
 EH k so sc.names (CP vars sc.names) ((List.range fd.nc).map (·+vars.length)) fd.body body)))))))
theorem T5(h:T4 k so fd vars d.params d.body d.scope=true):RI k so fd vars d:=by haveI Y:=ar (ar h);haveI T:=ar (ar (ar Y));exact⟨⟨d0 (al h) (al (ar h)),eq_of_beq (al Y),Xcj (al (ar Y)),λx B=>(Xhb.mp (Xce.mp (al (ar (ar Y))) x B)).imp eq_of_beq eq_of_beq,Xcj (al T),Aq (al (ar T)),Aq (al (ar (ar T)))⟩,ar (ar (ar T))⟩
def T6(p:Program)(x:HD):Bool:=match CT p x.cls x.name with
 |some (a,b,M)=>T4 EA x.so x.fd x.vars a b M
 |none=>false
theorem Wy(t:FT f=some fd)(Y:Jb f=none)(T:f≠44)(H:f≠45)(M:f≠28):callF (n+1) f args=G6 (callF n) 200 fd args:=by show I5 n (callF n) 200 f args=_;unfold I5;refine rL Y ?_;dsimp only;refine rL (Xcm T) (rL (Xcm H) (rL (Xcm M) ?_));unfold KO;exact rL t rfl
mutual
noncomputable def PE.key:PE->Nat
 | .none=>1| .bool _=>2| .int _=>3| .str _=>4| .Gb=>5
 | .W i=>6+64*i
 | .A e a k=>7+64*(a+k+31*e.key)
 | .E e b=>8+64*e.key
 | .K _ a b=>9+64*(a.key+37*b.key)
 | .B _ a b=>10+64*(a.key+37*b.key)
 | .neg a=>11+64*a.key
 | .not a=>12+64*a.key
 | .and a b=>13+64*(a.key+37*b.key)
 | .or a b=>14+64*(a.key+37*b.key)
 | .D t a b=>15+64*(t.key+37*(a.key+37*b.key))
 | .list g=>16+64*PE.keys g
 | .T g=>17+64*PE.keys g
 | .C e k a=>18+64*(k+37*(e.key+37*a.key))
 | .R e k a=>19+64*(k+37*(e.key+37*a.key))
 | .GZ e t k a=>20+64*(k+37*(e.key+37*a.key))
 | .CC e k l a=>21+64*(k+37*(e.key+37*a.key))
 | .S a b=>22+64*(a.key+37*b.key)
 | .OO x a=>23+64*(x+37*a.key)
 | .H8 a b=>24+64*(a.key+37*b.key)
 | .GK a b c=>25+64*(a.key+37*(b.key+37*c.key))
 | .F _ a=>26+64*a.key
 | .min a b=>27+64*(a.key+37*b.key)
 | .J a c=>28+64*(c+37*a.key)
 | .call f d=>29+64*(f+97*PE.keys d)
 | .Q f _ d=>30+64*(f+97*PE.keys d)
 | .Fo a=>31+64*a.key
noncomputable def PE.keys:List PE->Nat
 | []=>1
 |e::es=>2+3*(e.key+41*PE.keys es)
end
def PS.key:PS->Nat
 | .G x e=>1+16*(x+37*e.key)
 | .FK x e=>2+16*(x+37*e.key)
 | .FF k e _=>3+16*(k+37*e.key)
 | .FV k e _=>4+16*(k+37*e.key)
 | .Gf k _ e _=>5+16*(k+37*e.key)
 | .Jp t _=>6+16*t.key
 | .X t _ _=>7+16*t.key
 | .ext x e=>8+16*(x+37*e.key)
 | .PP x e=>9+16*(x+37*e.key)
 | .SS x _ e=>10+16*(x+37*e.key)
 | .ex e=>11+16*e.key
 |_=>0
set_option genCtorIdx false in
inductive An where
 |e (k:Nat)(r:RV)(σ:St)
 |z (r:RV)(σ:St)
 |d (ks:List Str)(xs:List Val)
 |s (k:Nat)(fr:FR)(σ:St)
 |c (f:Nat)(r:RV)(o:List LV)
 |f (r:RV)|b (r:RV)|m (r:Val)|i (r:Val)|y (b:Bool)|p
abbrev Rs(m:Type):=Option (m×List An×List Prop)
noncomputable def HB:List Prop->Prop
 | []=>True
 |p::l=>p/\HB l
theorem OP:∀{l m:List Prop},HB (l++m)->HB l/\HB m
 | [],_,h=>⟨trivial,h⟩
 |_::_,_,h=>⟨⟨h.1,(OP h.2).1⟩,(OP h.2).2⟩
def Sd{m:Type}(x:Rs m)(X:Option m):Prop:=∀a S L,x=some (a,S,L)->HB L->X=some a
noncomputable def bO{m i:Type}(x:Rs m)(f:m->List An->Rs i):Rs i:=match x with
 |some (a,S,L)=>(match f a S with
  |some (b,z,E)=>some (b,z,L++E)
  |none=>none)
 |none=>none
noncomputable def rO{m:Type}(o:Option m)(S:List An):Rs m:=match o with
 |some a=>some (a,S,[])
 |none=>none
theorem HL{m i:Type}{x:Rs m}{f:m->List An->Rs i}{b:i}{S':List An}{L:List Prop}(h:bO x f=some (b,S',L))(l:HB L):
  ∃a S v u,x=some (a,S,v)/\HB v/\f a S=some (b,S',u)/\HB u:=by
 cases x with
 |none=>exact nS h
 |some p=>
  haveI h:(match (generalizing:=false) f p.1 p.2.1 with|some (b,S',E)=>some (b,S',p.2.2++E)|none=>none)=some (b,S',L):=h;cases e:f p.1 p.2.1 with
  |none=>replace h:=e▸ h;exact nS h
  |some q=>
   rw[e]at h;haveI h:=Xcl h
   injection h with Y T
   injection T with T H
   rw[<-H]at l;exact(Xa6 p.1 p.2.1 p.2.2 q.2.2 rfl ((OP l).1) (Y▸ T▸ e) ((OP l).2))
theorem rS{m:Type}(o:Option m)(S:List An):Sd (rO o S) o:=λa z L h U=>by
 cases o with
 |none=>exact nS h
 |some x=>cases h;rfl
theorem EM{m:Type}{X:Option m}:Sd (none:Rs m) X:=λU U U h=>nS h
noncomputable def An.pf:An->Option RV| .f r=>some r|_=>none
noncomputable def An.pb:An->Option RV| .b r=>some r|_=>none
noncomputable def An.pm:An->Option Val| .m r=>some r|_=>none
noncomputable def An.pi:An->Option Val| .i r=>some r|_=>none
noncomputable def An.py:An->Option Bool| .y r=>some r|_=>none
noncomputable def An.pe(k:Nat):An->Option (RV×St)| .e a r σ=>if a==k then some (r,σ)else none| .z r σ=>some (r,σ)|_=>none
noncomputable def An.ps(k:Nat):An->Option (FR×St)| .s a r σ=>if a==k then some (r,σ)else none|_=>none
noncomputable def An.pc(f:Nat):An->Option (RV×List LV)| .c f' r o=>if f'==f then some (r,o)else none|_=>none
noncomputable def hd2{m:Type}(o:Option m)(S:List An)(V:Rs m):Option m->Rs m
 |some x=>some (x,S,[o=some x])
 |none=>V
def CH{m:Type}(o:Option m)(p:An->Option m)(S:List An)(V:Rs m):Rs m:=match S with
 |a::z=>hd2 o z V (p a)
 | []=>V
theorem CQ{m:Type}{o:Option m}{p:An->Option m}{S:List An}{V:Rs m}(U:Sd V o):Sd (CH o p S V) o:=by
 cases S with
 |nil=>exact U
 |cons x S=>
  show Sd (hd2 o S V (p x)) o;cases p x with
  |none=>exact U
  |some y=>intro a z L h l;cases h;exact l.1
def Iw{m:Type}(o:Option m)(p:An->Option m)(S:List An):Rs m:=CH o p S (rO o S)
theorem il{m:Type}(o:Option m)(p:An->Option m)(S:List An):Sd (Iw o p S) o:=CQ (rS _ _)
theorem bS{i:Type}{x:Rs (RV×St)}{X:Option (RV×St)}{f:RV×St->List An->Rs i}{g:RV->St->Option i}(B:Sd x X)(t:∀p S,Sd (f p S) (g p.1 p.2)):Sd (bO x f) (match (generalizing:=false) X with|some (r,AA)=>g r AA|none=>none):=λb z L h l=>Hm (HL h l) λa S v u Y T H M=>(B _ _ _ Y T)▸ t _ _ _ _ _ H M
theorem NL{m i:Type}{o:Option m}{p:An->Option m}{S:List An}(h:m->i){Y:Option i}(d:Y=o.map h):Sd (bO (Iw o p S) λx S=>rO (some (h x)) S) Y:=λb z L q l=>Hm (HL q l) λa S v u c T H M=>rL d (rL (il o p _ _ _ _ c T) (rS _ _ _ _ _ H M))
theorem pS{i:Type}{x:Rs (List Val×St)}{X:Option (List Val×St)}{f:List Val×St->List An->Rs i}{g:List Val->St->Option i}(B:Sd x X)(t:∀p S,Sd (f p S) (g p.1 p.2)):Sd (bO x f) (match (generalizing:=false) X with|some (r,AA)=>g r AA|none=>none):=λb z L h l=>Hm (HL h l) λa S v u Y T H M=>(B _ _ _ Y T)▸ t _ _ _ _ _ H M
theorem pA{i:Type}{x:Rs (List AR×St)}{X:Option (List AR×St)}{f:List AR×St->List An->Rs i}{g:List AR->St->Option i}(B:Sd x X)(t:∀p S,Sd (f p S) (g p.1 p.2)):Sd (bO x f) (match (generalizing:=false) X with|some (r,AA)=>g r AA|none=>none):=λb z L h l=>AB λJ=>Hm (HL h l) λa S v u Y T H M=>J ((B _ _ _ Y T)▸ t _ _ _ _ _ H M)
def K9{i:Type}(x:Rs (RV×St))(f g:St->List An->Rs i):Rs i:=bO x λp S=>match p.1 with
 | .V (.bool true)=>f p.2 S
 | .V (.bool false)=>g p.2 S
 |_=>none
theorem M7{i:Type}{x:Rs (RV×St)}{X:Option (RV×St)}{f g:St->List An->Rs i}{f' g':St->Option i}(B:Sd x X)(t:∀σ S,Sd (f σ S) (f' σ))(U:∀σ S,Sd (g σ S) (g' σ)):
  Sd (K9 x f g) (match (generalizing:=false) X with|some (.V (.bool true),AA)=>f' AA|some (.V (.bool false),AA)=>g' AA|_=>none):=λb z L h l=>by
 refine AB λJ=>Hm (HL h l) λa S v u Y T H M=>?_;obtain⟨r,σ⟩:=a;refine J (rL (B _ _ _ Y T) ?_);clear Y;cases r with
 |M o=>exact nS H
 |V x=>cases x with
  |bool b=>cases b with
   |true=>exact t _ _ _ _ _ H M
   |false=>exact U _ _ _ _ _ H M
  |_=>exact nS H
noncomputable def Q4{m:Type}(l:LV)(k:List Val->Rs m):Rs m:=match l with
 | .N (.list a)=>k a
 |_=>none
noncomputable def fU{m:Type}(l:Val)(k:List Val->Rs m):Rs m:=match l with
 | .list a=>k a
 |_=>none
noncomputable def An.pp:An->Option Unit| .p=>some ()|_=>none
noncomputable def An.pd:An->Option (List Str×List Val)| .d ks xs=>some (ks,xs)|_=>none
noncomputable def Vy{m i:Type}(p:An->Option i)(q:i->Prop)(g:i->m):List An->Rs m
 |x::S=>(p x).bind λy=>some (g y,S,[q y])
 | []=>none
theorem f8{m i:Type}{p:An->Option i}{q:i->Prop}{g:i->m}{S:List An}{X:Option m}(h:∀y,q y->X=some (g y)):Sd (Vy p q g S) X:=by
 cases S with
 |nil=>exact EM
 |cons x S=>
  show Sd ((p x).bind _) X;cases p x with
  |none=>exact EM
  |some y=>intro a z L e l;cases e;exact h y l.1
def pO{m:Type}(q:Prop)(S:List An)(a:m):Rs m:=Vy An.pp (λU=>q) (λU=>a) S
theorem ci{m:Type}{q:Prop}[Decidable q]{S:List An}{a:m}:Sd (pO q S a) (if q then some a else none):=f8 λU h=>Xck h
theorem U9{m:Type}{b:Bool}{x:Rs m}{X:Option m}(h:Sd x X):Sd (if b=true then x else none) (if b=true then X else none):=by
 cases b with
 |true=>exact h
 |false=>exact EM
def XU{m:Type}(k:Str)(v:Val)(d:List Str)(xs:List Val)(S:List An)(g:List Str->List Val->m):Rs m:=
 Vy An.pd (λy=>d.length<=100000/\Cr k v d xs=y) (λy=>g y.1 y.2) S
theorem kU{m:Type}{k:Str}{v:Val}{d:List Str}{xs:List Val}{S:List An}{g:List Str->List Val->m}:Sd (XU k v d xs S g) (if d.length<=100000 then some (g (Cr k v d xs).1 (Cr k v d xs).2)else none):=f8 λy h=>rL (Xck h.1) (rL h.2 rfl)
noncomputable def eG{m:Type}(l:LV)(v:Val)(f:List Val->Int->Rs m)(g:List Str->List Val->Str->Rs m):Rs m:=match l,v with
 | .N (.list a),.int j=>f a j
 | .N (.dict d a),.str k=>g d a k
 |_,_=>none
theorem z9{m:Type}{l:LV}{v:Val}{f:List Val->Int->Rs m}{g:List Str->List Val->Str->Rs m}{F:List Val->Int->Option m}{G:List Str->List Val->Str->Option m}(t:∀xs j,Sd (f xs j) (F xs j))(U:∀d xs k,Sd (g d xs k) (G d xs k)):
  Sd (eG l v f g) (match l,v with| .N (.list xs),.int j=>F xs j| .N (.dict d xs),.str k=>G d xs k|_,_=>none):=by
 cases l with
 |N o=>cases o with
  |list xs=>cases v with
   |int j=>exact t xs j
   |_=>exact EM
  |dict d xs=>cases v with
   |str k=>exact U d xs k
   |_=>exact EM
  |_=>exact EM
 |_=>exact EM
noncomputable def fg{m:Type}(l:LV)(k:Rs m):Rs m:=match l with
 | .N (.Z _)=>k
 |_=>none
theorem Xav{m:Type}{l:LV}{k:Rs m}{K:Option m}(h:Sd k K):Sd (fg l k) (match l with| .N (.Z _)=>K|_=>none):=by
 cases l with
 |N o=>cases o with
  |Z k=>exact h
  |_=>exact EM
 |_=>exact EM
noncomputable def W1{m:Type}(o:Option Nat)(σ:St)(k:AR->Rs m)(d:Rs m):Rs m:=match o with
 |some x=>(match σ.at x with
  | .N _=>k (.N x)
  | .V y=>k (.V y)
  |_=>none)
 |none=>d
def Ob(Φ:BZ)(f:Nat)(as:List AR)(σ:St)(S:List An):Rs (RV×St):=
 if(decide (as.flatMap AR.ix).Nodup&&(as.flatMap AR.ix).all λx=>Cu (σ.at x))=true then
  bO (CH (Φ f (as.map (AR.lv σ))) (An.pc f) S (rO (Φ f (as.map (AR.lv σ))) S)) λp S=>rO (if DZ as p.2=true then some (p.1,Bk σ as p.2)else none) S
 else none
mutual
noncomputable def CW(Φ:BZ)(np:Nat):PE->Bool->St->List An->Rs (RV×St)
 | .A e U k,t,d,S=>bO (CH (ev Φ np e false d) (An.pe e.key) S (CW Φ np e false d S)) λp S=>rO (match p.1.fz with
   | .I a h=>if a=U then(match h[k]? with|some x=>some (.V x,p.2)|none=>none)else none
   |_=>none) S
 | .E e neg,t,d,S=>bO (CH (ev Φ np e false d) (An.pe e.key) S (CW Φ np e false d S)) λp S=>rO (match p.1.fz with
   | .none=>some (.V (.bool (!neg)),p.2)
   | .any=>none
   |_=>some (.V (.bool neg),p.2)) S
 | .K C a b,t,d,S=>bO (CH (ev Φ np a false d) (An.pe a.key) S (CW Φ np a false d S)) λp S=>bO (CH (ev Φ np b false p.2) (An.pe b.key) S (CW Φ np b false p.2 S)) λq S=>bO (Iw (B7 C p.1.fz q.1.fz) An.pm S) λx S=>rO (some (.V x,q.2)) S
 | .B C a b,t,d,S=>bO (CH (ev Φ np a false d) (An.pe a.key) S (CW Φ np a false d S)) λp S=>bO (CH (ev Φ np b false p.2) (An.pe b.key) S (CW Φ np b false p.2 S)) λq S=>bO (Iw (Bq C p.1.fz q.1.fz) An.pb S) λx S=>rO (some (x,q.2)) S
 | .S a b,t,d,S=>bO (CH (ev Φ np a false d) (An.pe a.key) S (CW Φ np a false d S)) λp S=>bO (CH (ev Φ np b false p.2) (An.pe b.key) S (CW Φ np b false p.2 S)) λq S=>bO (Iw (Ee p.1.fz q.1.fz) An.pi S) λx S=>rO (some (.V x,q.2)) S
 | .F f a,t,d,S=>bO (CH (ev Φ np a false d) (An.pe a.key) S (CW Φ np a false d S)) λp S=>bO (Iw (FD f p.1.fz) An.pf S) λx S=>rO (some (x,p.2)) S
 | .J e c,t,d,S=>bO (CH (ev Φ np e false d) (An.pe e.key) S (CW Φ np e false d S)) λp S=>bO (Iw (Ih p.1.fz c) An.py S) λx S=>rO (some (.V (.bool x),p.2)) S
 | .not a,true,d,S=>K9 (CH (ev Φ np a true d) (An.pe a.key) S (CW Φ np a true d S)) (λd S=>rO (some (.V (.bool false),d)) S) λd S=>rO (some (.V (.bool true),d)) S
 | .and a b,t,d,S=>K9 (CH (ev Φ np a t d) (An.pe a.key) S (CW Φ np a t d S)) (λd S=>CH (ev Φ np b t d) (An.pe b.key) S (CW Φ np b t d S)) λd S=>rO (some (.V (.bool false),d)) S
 | .or a b,t,d,S=>K9 (CH (ev Φ np a t d) (An.pe a.key) S (CW Φ np a t d S)) (λd S=>rO (some (.V (.bool true),d)) S) λd S=>CH (ev Φ np b t d) (An.pe b.key) S (CW Φ np b t d S)
 | .D c a b,t,d,S=>K9 (CH (ev Φ np c true d) (An.pe c.key) S (CW Φ np c true d S)) (λd S=>CH (ev Φ np a t d) (An.pe a.key) S (CW Φ np a t d S)) λd S=>CH (ev Φ np b t d) (An.pe b.key) S (CW Φ np b t d S)
 | .min a b,t,d,S=>bO (CH (ev Φ np a false d) (An.pe a.key) S (CW Φ np a false d S)) λp S=>bO (CH (ev Φ np b false p.2) (An.pe b.key) S (CW Φ np b false p.2 S)) λq S=>rO (match p.1.fz,q.1.fz with
    | .int i,.int j=>some (.V (.int (if j<i then j else i)),q.2)
    |_,_=>none) S
 | .list g,t,d,S=>bO (Ou Φ np g d S) λp S=>rO (if p.1.length<=1000000 then some (.M (.list p.1),p.2)else none) S
 | .T g,t,d,S=>bO (Ou Φ np g d S) λp S=>rO (if p.1.length<=1000000 then some (.V (.T p.1),p.2)else none) S
 | .call f J,t,d,S=>bO (KN Φ np J d S) λp S=>Ob Φ f p.1 p.2 S
 | .Q f x J,t,d,S=>fg (d.at x) (bO (KN Φ np J d S) λp S=>Ob Φ f (.N x::p.1) p.2 S)
 |e,t,d,S=>rO (ev Φ np e t d) S
noncomputable def Ou(Φ:BZ)(np:Nat):List PE->St->List An->Rs (List Val×St)
 | [],a,S=>rO (some ([],a)) S
 |e::b,a,S=>bO (CH (ev Φ np e false a) (An.pe e.key) S (CW Φ np e false a S)) λp S=>bO (Ou Φ np b p.2 S) λq S=>rO (some (p.1.fz::q.1,q.2)) S
noncomputable def KN(Φ:BZ)(np:Nat):List PE->St->List An->Rs (List AR×St)
 | [],b,S=>rO (some ([],b)) S
 |e::c,b,S=>W1 (Ig e) b (λa=>bO (KN Φ np c b S) λq S=>rO (some (a::q.1,q.2)) S) (bO (CH (ev Φ np e false b) (An.pe e.key) S (CW Φ np e false b S)) λp S=>bO (KN Φ np c p.2 S) λq S=>rO (some (.V p.1.fz::q.1,q.2)) S)
end
set_option tactic.hygienic true in
theorem X3{Φ:BZ}{f:Nat}{as:List AR}{σ:St}:Sd (Ob Φ f as σ S) (El Φ f as σ):=by
 unfold Ob El;split
 ·rename_i h;simp only[Xd5,Xhs]at h;refine rL (Xck h) ?_;exact λb z L h l=>AB λJ=>Hm (HL h l) λa S v u Y T H M=>J ((CQ (rS _ _) _ _ _ Y T)▸ rS _ _ _ _ _ H M)
 ·exact EM
section
variable {Φ:BZ}{np fuel:Nat}
mutual
theorem Cb:∀e t σ S,Sd (CW Φ np e t σ S) (ev Φ np e t σ)
 | .A e U k,t,σ,S=>bS (CQ (Cb e false σ S)) λp S=>rS _ _
 | .E e neg,t,σ,S=>bS (CQ (Cb e false σ S)) λp S=>rS _ _
 | .K C a b,t,σ,S=>bS (CQ (Cb a false σ S)) λp S=>bS (CQ (Cb b false p.2 S)) λq S=>NL (λx=>(RV.V x,q.2)) (by cases B7 C p.1.fz q.1.fz<;>rfl)
 | .B C a b,t,σ,S=>bS (CQ (Cb a false σ S)) λp S=>bS (CQ (Cb b false p.2 S)) λq S=>NL (λx=>(x,q.2)) (by cases Bq C p.1.fz q.1.fz<;>rfl)
 | .S a b,t,σ,S=>bS (CQ (Cb a false σ S)) λp S=>bS (CQ (Cb b false p.2 S)) λq S=>NL (λx=>(RV.V x,q.2)) (by cases Ee p.1.fz q.1.fz<;>rfl)
 | .F f a,t,σ,S=>bS (CQ (Cb a false σ S)) λp S=>NL (λx=>(x,p.2)) (by cases FD f p.1.fz<;>rfl)
 | .J a c,t,σ,S=>bS (CQ (Cb a false σ S)) λp S=>NL (λb=>(RV.V (.bool b),p.2)) (by cases Ih p.1.fz c<;>rfl)
 | .min a b,t,σ,S=>bS (CQ (Cb a false σ S)) λp S=>bS (CQ (Cb b false p.2 S)) λq S=>rS _ _
 | .and a b,t,σ,S=>M7 (CQ (Cb a t σ S)) (λσ S=>CQ (Cb b t σ S)) λσ S=>rS _ _
 | .or a b,t,σ,S=>M7 (CQ (Cb a t σ S)) (λσ S=>rS _ _) λσ S=>CQ (Cb b t σ S)
 | .D c a b,t,σ,S=>M7 (CQ (Cb c true σ S)) (λσ S=>CQ (Cb a t σ S)) λσ S=>CQ (Cb b t σ S)
 | .not a,true,σ,S=>λr z L h l=>by
  haveI:=M7 (CQ (Cb a true σ S)) (f':=λσ=>some (RV.V (.bool false),σ)) (g':=λσ=>some (RV.V (.bool true),σ)) (λσ S=>rS _ _) (λσ S=>rS _ _) r z L h l;refine rR this ?_;show(match (generalizing:=false) true,ev Φ np a true σ with|true,some (.V (.bool b),B)=>some (RV.V (.bool (!b)),B)|_,_=>none)=_;rcases ev Φ np a true σ with _|⟨d,j⟩
  ·rfl
  ·cases d with
   |M o=>rfl
   |V x=>cases x with
    |bool b=>cases b<;>rfl
    |_=>rfl
 | .not a,false,σ,S=>rS _ _
 | .list g,t,σ,S=>pS (So g σ S) λp S=>rS _ _
 | .T g,t,σ,S=>pS (So g σ S) λp S=>rS _ _
 | .call f J,t,σ,S=>pA (J6 J σ S) λp S=>X3
 | .Q f x J,t,σ,S=>Xav (pA (J6 J σ S) λp S=>X3)
 | .none,_,_,_| .bool _,_,_,_| .int _,_,_,_| .str _,_,_,_| .W _,_,_,_| .Gb,_,_,_| .neg _,_,_,_| .C _ _ _,_,_,_| .R _ _ _,_,_,_| .GZ _ _ _ _,_,_,_| .CC _ _ _ _,_,_,_| .OO _ _,_,_,_| .H8 _ _,_,_,_| .GK _ _ _,_,_,_| .Fo _,_,_,_=>rS _ _
theorem So:∀a σ S,Sd (Ou Φ np a σ S) (MK Φ np a σ)
 | [],σ,S=>rS _ _
 |e::a,σ,S=>bS (CQ (Cb e false σ S)) λp S=>pS (So a p.2 S) λq S=>rS _ _
theorem J6:∀a σ S,Sd (KN Φ np a σ S) (By Φ np a σ)
 | [],σ,S=>rS _ _
 |e::a,σ,S=>by
  refine rL (MH ..) ?_;show Sd (W1 (Ig e) σ _ _) _;unfold W1;cases Ig e with
  |some x=>
   show Sd (match σ.at x with| .N _=>_| .V _=>_|_=>_) (match σ.at x with| .N _=>_| .V _=>_|_=>_);cases σ.at x with
   |N o=>exact pA (J6 a σ S) λq S=>rS _ _
   |V y=>exact pA (J6 a σ S) λq S=>rS _ _
   |_=>exact EM
  |none=>exact bS (CQ (Cb e false σ S)) λp S=>pA (J6 a p.2 S) λq S=>rS _ _
end
theorem Rr(h:σ.at x= .N o)(k:By Φ np a σ=some (as,A0)):By Φ np (.W x::a) σ=some (.N x::as,A0):=by
 refine rL (MH ..) ?_;show(match σ.at x with| .N _=>(match By Φ np a σ with|some (as,B)=>some (AR.N x::as,B)|none=>none)| .V y=>(match By Φ np a σ with|some (as,B)=>some (AR.V y::as,B)|none=>none)|_=>none)=_;exact rL h (rL k rfl)
theorem iR(h:σ.at x= .V y)(k:By Φ np a σ=some (as,A0)):By Φ np (.W x::a) σ=some (.V y::as,A0):=by
 refine rL (MH ..) ?_;show(match σ.at x with| .N _=>(match By Φ np a σ with|some (as,B)=>some (AR.N x::as,B)|none=>none)| .V y=>(match By Φ np a σ with|some (as,B)=>some (AR.V y::as,B)|none=>none)|_=>none)=_;exact rL h (rL k rfl)
theorem iQ{a:List PE}(H:Ig e=none)(h:ev Φ np e false σ=some (r,AA))(k:By Φ np a AA=some (as,A0)):By Φ np (e::a) σ=some (.V r.fz::as,A0):=rL (MH ..) (rL (H ..) (fR h (fA k rfl)))
def hS(Φ:BZ)(np:Nat)(e:PE)(t:Bool)(σ:St)(S:List An):Rs (RV×St):=CH (ev Φ np e t σ) (An.pe e.key) S (CW Φ np e t σ S)
theorem F4:Sd (hS Φ np e t σ S) (ev Φ np e t σ):=CQ (Cb _ _ _ _)
mutual
noncomputable def Sq(Φ:BZ)(np fuel:Nat):PS->St->List An->Rs (FR×St)
 | .G x e,c,S=>bO (hS Φ np e false c S) λp S=>rO (if Bb np x (p.2.at x)then some (.next,p.2.set x (.V p.1.fz))else none) S
 | .FK x e,c,S=>bO (hS Φ np e false c S) λp S=>rO (match p.1 with
  | .M o=>if Bb np x (p.2.at x)&&decide (np<=x)then some (.next,p.2.set x (.N o))else none
  |_=>none) S
 | .EG x y f g own,c,S=>bO (hS Φ np f false c S) λp S=>bO (hS Φ np g false p.2 S) λq S=>rO (if Bb np x (q.2.at x)&&Bb np y (q.2.at y)&&decide (x≠y)then
     (match own,q.1 with
     |false,n=>some (.next,(q.2.set x (.V p.1.fz)).set y (.V n.fz))
     |true,.M o=>if np<=y then some (.next,(q.2.set x (.V p.1.fz)).set y (.N o))else none
     |_,_=>none)else none) S
 | .Ec x y e,c,S=>bO (hS Φ np e false c S) λp S=>rO (match p.1.fz with
   | .T [u,v]=>if Bb np x (p.2.at x)&&Bb np y (p.2.at y)&&decide (x≠y)then some (.next,(p.2.set x (.V u)).set y (.V v))else none
   |_=>none) S
 | .ex e,c,S=>bO (hS Φ np e false c S) λp S=>rO (some (.next,p.2)) S
 | .X t a b,c,S=>K9 (hS Φ np t true c S) (λc S=>KP Φ np fuel a c S) λc S=>KP Φ np fuel b c S
 | .ret e,c,S=>bO (hS Φ np e false c S) λp S=>rO (some (.ret (.V p.1.fz),p.2)) S
 | .Kx e,c,S=>bO (hS Φ np e false c S) λp S=>rO (some (.ret p.1,p.2)) S
 | .SS x i e,c,S=>bO (hS Φ np e false c S) λp S=>if Cu (p.2.at x)then bO (hS Φ np i false p.2 S) λq S=>eG (q.2.at x) q.1.fz (λd j=>rO (if 0<=j/\j<d.length then some (.next,q.2.set x (.N (.list (d.set j.toNat p.1.fz))))else none) S) (λm d k=>XU k p.1.fz m d S λh l=>(.next,q.2.set x (.N (.dict h l))))else none
 | .PP x e,c,S=>if Mr (c.at x)then bO (hS Φ np e false c S) λp S=>Q4 (p.2.at x) λd=>pO (d.length<=100000) S (.next,p.2.set x (.N (.list (d++[p.1.fz]))))else none
 | .ext x e,c,S=>if Mr (c.at x)then bO (hS Φ np e false c S) λp S=>Q4 (p.2.at x) λd=>fU p.1.fz λQ=>pO (d.length+Q.length<=100000) S (.next,p.2.set x (.N (.list (d++Q))))else none
 |s,c,S=>rO (Ae Φ np fuel s c) S
noncomputable def KP(Φ:BZ)(np fuel:Nat):List PS->St->List An->Rs (FR×St)
 | [],a,S=>rO (some (.next,a)) S
 |s::J,a,S=>bO (CH (Ae Φ np fuel s a) (An.ps s.key) S (Sq Φ np fuel s a S)) λp S=>match p.1 with
  | .next=>KP Φ np fuel J p.2 S
  | .ret r=>rO (some (.ret r,p.2)) S
end
theorem uY{m:Type}{l:LV}{k:List Val->Rs m}{K:List Val->Option m}(h:∀xs,Sd (k xs) (K xs)):Sd (Q4 l k) (match l with| .N (.list xs)=>K xs|_=>none):=by
 cases l with
 |N o=>cases o with
  |list xs=>exact h xs
  |_=>exact EM
 |_=>exact EM
theorem uZ{m:Type}{l:LV}{v:Val}{k:List Val->List Val->Rs m}{K:List Val->List Val->Option m}(h:∀xs ys,Sd (k xs ys) (K xs ys)):Sd (Q4 l λxs=>fU v λys=>k xs ys) (match l,v with| .N (.list xs),.list ys=>K xs ys|_,_=>none):=by
 cases l with
 |N o=>cases o with
  |list xs=>cases v with
   |list ys=>exact h xs ys
   |_=>exact EM
  |_=>exact EM
 |_=>exact EM
mutual
theorem Xs:∀s σ S,Sd (Sq Φ np fuel s σ S) (Ae Φ np fuel s σ)
 | .G x e,σ,S=>bS F4 λp S=>rS _ _
 | .FK x e,σ,S=>λr z L h m=>by
  refine Hm (HL h m) λc S v u Y T H M=>?_;obtain⟨r,σ⟩:=c;haveI H:=rS _ _ _ _ _ H M;refine rR H ?_;show(match ev Φ np e false _ with|some (RV.M o,B)=>if Bb np x (B.at x)&&decide (np<=x)then some (FR.next,B.set x (.N o))else none|_=>none)=_;refine rL (F4 _ _ _ Y T) ?_;cases r<;>rfl
 | .EG x y f l own,σ,S=>bS F4 λp S=>bS F4 λq S=>rS _ _
 | .Ec x y e,σ,S=>bS F4 λp S=>rS _ _
 | .ex e,σ,S=>bS (g:=λU σ=>some (FR.next,σ)) F4 λp S=>rS _ _
 | .X t a b,σ,S=>M7 F4 (λσ S=>MM a σ S) λσ S=>MM b σ S
 | .ret e,σ,S=>bS (g:=λr σ=>some (FR.ret (.V r.fz),σ)) F4 λp S=>rS _ _
 | .Kx e,σ,S=>bS (g:=λr σ=>some (FR.ret r,σ)) F4 λp S=>rS _ _
 | .SS x i e,σ,S=>bS F4 λp S=>U9 (bS F4 λq S=>z9 (λd j=>rS _ _) λn d k=>kU)
 | .PP x e,σ,S=>U9 (bS F4 λp S=>uY λd=>ci)
 | .ext x e,σ,S=>U9 (bS F4 λp S=>uZ λd Q=>ci)
 | .K6 _ _ _ _ _,_,_| .FF _ _ _,_,_| .FV _ _ _,_,_| .Gf _ _ _ _,_,_| .Jp _ _,_,_=>rS _ _
theorem MM:∀ss σ S,Sd (KP Φ np fuel ss σ S) (Bv Φ np fuel ss σ)
 | [],σ,S=>rS _ _
 |s::ss,σ,S=>λr z L h l=>by
  refine Hm (HL h l) λa S v u Y T H M=>?_;obtain⟨b,σ⟩:=a;haveI e:=CQ (Xs s _ _) _ _ _ Y T;cases b with
  |next=>exact fX e (MM ss _ _ _ _ _ H M)
  |ret r=>exact(Xy e).trans (rS _ _ _ _ _ H M)
end
end
structure Fk where
 P:Prop
 an:An
 pf:P
noncomputable def IW:List Fk->List Prop
 | []=>[]
 |f::l=>f.P::IW l
noncomputable def It:List Fk->List An
 | []=>[]
 |f::l=>f.an::It l
theorem dF:∀l:List Fk,HB (IW l)
 | []=>trivial
 |f::l=>⟨f.pf,dF l⟩
noncomputable def fin{m:Type}(x:Rs m):Option (m×List Prop):=match x with
 |some (a,_,L)=>some (a,L)
 |none=>none
theorem KR{m:Type}{x:Rs m}{X:Option m}{a:m}{F:List Fk}(B:Sd x X)(h:fin x=some (a,IW F)):X=some a:=by
 rcases x with _|⟨b,S,L⟩
 ·exact nS h
 ·obtain⟨rfl,rfl⟩:=sP h;exact B _ _ _ rfl (dF F)
section
variable {Φ:BZ}{np fuel:Nat}(F:List Fk)
theorem qE(h:fin (CW Φ np e t σ (It F))=some (z,IW F):=by kernel_rfl):ev Φ np e t σ=some z:=KR (Cb _ _ _ _) h
theorem qS{s:PS}(h:fin (Sq Φ np fuel s σ (It F))=some (z,IW F):=by kernel_rfl):Ae Φ np fuel s σ=some z:=KR (Xs _ _ _) h
theorem qR{ss:List PS}(h:fin (KP Φ np fuel ss σ (It F))=some (z,IW F):=by kernel_rfl):Bv Φ np fuel ss σ=some z:=KR (MM _ _ _) h
theorem qA{a:List PE}(h:fin (KN Φ np a σ (It F))=some (z,IW F)):By Φ np a σ=some z:=KR (J6 _ _ _) h
def SJ(n f:Nat)(as:List LV)(S:List An):Rs (RV×List LV):=
 if((Jb f).isNone&&f !=44&&f !=45&&f !=28)=true then(FT f).bind λD=>if as.length=D.np then bO (KP (callF n) D.np 200 D.body (as++List.replicate D.nl .U++List.replicate D.nc .O) S) λp S=>rO (match p.1 with
    | .next=>some (.V .none,p.2.take D.np)
    | .ret r=>some (r,p.2.take D.np)) S else none
 else none
set_option tactic.hygienic true in
theorem jg{n f:Nat}{as:List LV}{S:List An}:Sd (SJ n f as S) (callF (n+1) f as):=λr z L h l=>by
 unfold SJ at h;split at h
 ·rename_i V;simp only[Xd5,Xe9,Xez]at V;cases t:FT f with
  |none=>replace h:=t▸ h;exact nS h
  |some D=>
   rw[t,Xh4]at h;split at h
   ·rename_i c;refine Hm (HL h l) λa S v u Y T H M=>?_;obtain⟨b,d⟩:=a;have H:=rS _ _ _ _ _ H M;refine rL (Wy t V.1.1.1 V.1.1.2 V.1.2 V.2) ?_;unfold G6;refine rL (Xck c) (rL (MM _ _ _ _ _ _ Y T) ?_);cases b<;>exact H
   ·exact nS h
 ·exact nS h
theorem qC{n f:Nat}(h:fin (SJ n f as (It F))=some (z,IW F):=by kernel_rfl):callF (n+1) f as=some z:=KR jg h
end
section
variable {Φ:BZ}{np fuel:Nat}
def aE(h:ev Φ np e t σ=some z):Fk:=⟨_,.e e.key z.1 z.2,h⟩
noncomputable def aZ(h:ev Φ np e t σ=some z):Fk:=⟨_,.z z.1 z.2,h⟩
def aS(h:Ae Φ np fuel s σ=some z):Fk:=⟨_,.s s.key z.1 z.2,h⟩
noncomputable def aC(h:Φ f as=some z):Fk:=⟨_,.c f z.1 z.2,h⟩
noncomputable def aF(h:FD f x=some r):Fk:=⟨_,.f r,h⟩
noncomputable def aB(h:Bq o x y=some r):Fk:=⟨_,.b r,h⟩
noncomputable def aM(h:B7 o x y=some r):Fk:=⟨_,.m r,h⟩
noncomputable def aI(h:Ee x y=some r):Fk:=⟨_,.i r,h⟩
noncomputable def aP{p:Prop}(h:p):Fk:=⟨p,.p,h⟩
noncomputable def aD(h:d.length<=100000/\Cr k v d xs=(g,l)):Fk:=⟨_,.d g l,h⟩
noncomputable def aY(h:Ih x c=some b):Fk:=⟨_,.y b,h⟩
end
theorem YV:(En.all λx=>x.id==28||T6 Cd x)=true:=by kernel_rfl
set_option backward.match.sparseCases true
inductive gR(c:Cx)(a:Addr)(ps:Arguments)(body:List Stmt)(sc:Scope)(q:Str)(dV:Value)(oF:Obj)(F:FuncData):Prop
 |mk (o:c.base.get? a=some oF)(d:oF.data= .func F)(f:Ef F ps body sc q dV)(c:c.base.CodeRec F.code q)
def O5(c:Cx)(a:Addr)(ps:Arguments)(body:List Stmt)(M:Scope)(q:Str)(i:Value):Prop:=
 ∃b F,gR c a ps body M q i b F
abbrev DX(M:Scope)(L:Addr)(q:Str)(a:Addr)(code:Value):Env:=newEnv M L mainGlobals [] (q++".<locals>.") (some a) code none builtinsNs
noncomputable def QU:Flow->Value
 | .ret v=>v
 |_=> .none
structure OE(sc:Scope)(ns:List Str):Prop where
 kind:sc.kind= .function
 co:sc.isCoroutine=false
 gen:sc.isGenerator=false
 loc:∀x∈ns,sc.names.lookup x=some .local
 cell:∀x∈sc.names,x.2≠.cell
structure Hn(K:Frag)(c:Ju):Prop where
 vG:makesIn K c.C=true
 Fe:findIn K (.ref c.C) "__init__"=some (some (.ref c.f))
 fn:isFn K (.ref c.f)=true
 hd:hasDictIn K c.C=true
 po:plainOver K c.C=true
 ga:findIn K (.ref c.C) "__getattribute__"=some (some (.builtin "object.__getattribute__"))
 sa:findIn K (.ref c.C) "__setattr__"=some (some (.builtin "object.__setattr__"))
 fs:∀x∈c.fs,findIn K (.ref c.C) x=some none/\takerIn K c.C x=some none
theorem jz{K:Frag}(h:SN K c=true):Hn K c:=by haveI g:=al (al (al (al (al (al (al h))))));haveI Y:=al (al (al g));haveI t:=al (al (al Y));exact⟨al t,eq_of_beq (ar t),ar (al (al Y)),ar Y,ar (al (al g)),eq_of_beq (ar (al g)),eq_of_beq (ar g),λx B=>haveI q:=Xce.mp (ar h) x B;⟨eq_of_beq (al q),eq_of_beq (ar q)⟩⟩
noncomputable def BR(m:Str->Option Value)(x:Str)(v:Value):Str->Option Value:=λy=>if y=x then some v else m y
theorem Cn:BR m x v x=some v:=by simp[BR]
theorem BO(h:y≠x):BR m x v y=m y:=by simp[BR,h]
def AS(h a:Heap):Prop:=∀b o,h.get? b=some o->a.get? b=some o
theorem AS.refl:AS h h:=λa a e=>e
theorem AS.trans(x:AS h a)(y:AS a i):AS h i:=λb o e=>y b o (x b o e)
theorem AS.push(o:Obj):AS h (h.push o):=λa a e=>Xcf _ e
theorem AS.ns(x:AS h h')(g:h.Ns D m):h'.Ns D m:=
 F7 g (x _)
theorem AS.sameBut(x:AS h₀ h)(a:h₀.get? D=none)(s:Heap.SameBut D h h'):AS h₀ h':=λb o e=>
 (s.2 b λq=>nH q a e).trans (x b o e)
structure gq(h:Heap)(a:Addr)(m:Str->Option Value)(n:Nat)(o:Obj)(es:Array DictEntry)(ep:Nat):Prop where
 g:h.get? a=some o
 d:o.data= .dict es ep
 k:StrKeys es
 f:∀name,nsFind es name=m name
 z:es.size<=n
def BA(h:Heap)(a:Addr)(m:Str->Option Value)(n:Nat):Prop:=∃o b f,gq h a m n o b f
theorem BA.ns(x:BA h a m n):h.Ns a m:=Ay x λo b f x=>(WB o b f x.g x.d x.k x.f)
theorem BA.at(x:BA h a m n)(k:∀o,h.get? a=some o->h'.get? a=some o):BA h' a m n:=Ay x λo b f x=>(Cf o b f ({x with g:=k o x.g}))
theorem BA.le(x:BA h a m n)(k:n<=d):BA h a m d:=Ay x λo b f x=>(Cf o b f ({x with z:=Xcq x.z k}))
theorem BA.dict(x:BA h a m n):∃o b f,h.get? a=some o/\o.data= .dict b f:=Ay x λo b f x=>(DS o b f x.g x.d)
theorem BA.there(x:BA h a m n):∃o,h.get? a=some o:=Ay x λo _ _ x=>⟨o,x.g⟩
theorem w9{h:Heap}(x:h.Ns a m):∃o,h.get? a=some o:=Aj x λo _ _ e _=>⟨o,e⟩
theorem QB{h:Heap}(x:h.Ns a m)(g:h.get? w=some (instObj C j)):w≠a:=λq=>by
 refine AB λJ=>?_;obtain⟨o,d,f,e,b⟩:=Dd x;rw[<-q,g]at e;obtain rfl:=sS e;cases b
theorem BA.new(e:h.get? a=some (dictOf [] 0)):BA h a (λb=>none) 0:=(Cf _ (#[]) 0 ⟨e,rfl,λb h=>by simp at h,λb=>rfl,Xc4 _⟩)
theorem W3{prog:Program}{w:World}(p:BA s.heap a m n)
  (o:∀j,BA j a (BR m name v) (if(m name).isSome then n else n+1)->Heap.SameBut a s.heap j->Q () {s with heap:=j,toks:=s.toks+1}):wpAny (model prog w) A (nsSet a name v) Q E s:=by
 refine AB λJ=>Ay p λk f l r=>?_;obtain⟨g,u,L,D,q⟩:=r;obtain⟨c,d,z,B⟩:=k;subst u;have ha:aRefKeyMayBeTheName name f=false:=by
  refine rL (aRefKeyMayBeTheName_at ..) (rL (show f.any (·.refKey)=false from Array.any_eq_false'.mpr λe Y=>let⟨n,t,h⟩:=L e Y;by rw[DictEntry.refKey,h];exact Xeh) ?_)
  exact Xik _
 refine J ?_;unfold nsSet;refine Xcd (Xcd (wpAny_askSetting (Xcp (Xcd (wpAny_mkText (Xcd (Xhn g ?_)))))));dsimp only;refine rL ha (wpAny_updatePart g (o _ ?_ (Xfi ..)));cases b:f.findIdx? (·.key.isStr name)with
 |some i=>
  refine(Cf _ _ l ⟨Xec _ g (by simp only[Xho,Obj.putNameByArray,b];rfl),by simp only[Xho,Obj.putNameByArray,b];rfl,L.modify _ _,λx=>?_,by refine rL Array.size_modify ?_;split<;>omega⟩);show _=if x=name then some v else m x
  exact rR (D ..) (findBy_modify (λn v=>v.isStr n) Value.isStr_inj f name x v i b)
 |none=>
  refine(Cf _ _ (l+1) ⟨Xec _ g (by simp only[Xho,Obj.putNameByArray,b];rfl),by simp only[Xho,Obj.putNameByArray,b];rfl,L.push _ _ _ _,λx=>?_,?_⟩)
  case refine_1=>
   show _=if x=name then some v else m x
   refine rR (D ..) ?_;exact findBy_push (λn v=>v.isStr n) f name x _ _ v (λy=>by
   show(name==y)=decide (y=name);by_cases h:y=name
   ·refine rR h ?_;simp
   ·haveI:¬name=y:=λe=>h e.symm;simp[h,this]) b
  have e:m name=none:=by refine rR (D ..) ?_;show findBy _ f name=none;exact rL (findBy_of_findIdx? ..) (rL (b ..) rfl)
  refine rL (Array.size_push ..) (rL (e ..) ?_);simpa using q
section
variable {c:Cx}(C:c.Ok){A:Around}{s:Shared}(st:AS c.base s.heap){E:Value->Shared->Prop}
include C st
theorem KJ(f:O5 c a ps body M q i)(h:A.depth<1000)(I:OE M (binds.map (·.1)))
  (V:∀F,Ef F ps body M q i->BindsTo s F ⟨vs,[]⟩ binds)
  (k:∀code d,d.Ns s.heap.objs.size (λy=>binds.reverse.lookup y)->AS s.heap d->
   wpAny (Mo c) (A.deeper (DX M s.heap.objs.size q a code)) (execs body (DX M s.heap.objs.size q a code)) (λf l=>R (.ok (.ret (QU f))) l)
    (λe l=>wpAny (Mo c) (A.deeper (DX M s.heap.objs.size q a code)) (leaving (DX M s.heap.objs.size q a code) e) (λU n=>R (.error e) n) (λj n=>R (.error j) n) l) {s with heap:=d,toks:=s.toks+binds.length}):
  codeAny (Mo c) A (.call (.ref a) ⟨vs,[]⟩) R s:=by refine AB λJ=>B8 f λp F w=>?_;obtain⟨o,u,b,g⟩:=w;refine J (Xgr h (st _ _ o) u (b.sc▸ I.co) (b.sc▸ I.gen) b.body (b.qual▸ g.keeps st) (V F b _ _ _ _ (rL b.sc (rL b.glob (rL b.SR (rL b.qual (rL b.blt (Xfw I.cell (λx B=>I.loc _ (Xc3 B)) (λd m T=>?_) I.kind))))))));haveI G:=AS.sameBut (AS.push _) Bg T;exact⟨C.nolimit.keeps (st.trans G),codeAny_func (k F.code d m G)⟩
theorem KK(f:O5 c a ps body M q i)(h:A.depth<1000)(I:OE M (binds.map (·.1)))
  (V:∀F,Ef F ps body M q i->BindsTo s F ⟨vs,[]⟩ binds)
  (k:∀code b o,b.Ns s.heap.objs.size (λy=>binds.reverse.lookup y)->AS s.heap b->
   wpAny (Mo c) (A.deeper (DX M s.heap.objs.size q a code)) (execs body (DX M s.heap.objs.size q a code)) (λf l=>Q (QU f) l) o {s with heap:=b,toks:=s.toks+binds.length}):
  wpAny (Mo c) A (call (.ref a) vs) Q E s:=
 Xfe (KJ C st f h I V λcode b g G=>k code b _ g G)
theorem PF(Z:Hn c.K cl)(l:s.heap.get? x=some (instObj cl.C j))(gd:s.heap.Ns j f)(g:name∈cl.fs)(d:f name=some v)(H:handedIn v=true)
  (k:Q v {s with toks:=s.toks+1}):wpAny (Mo c) A (getAttr (.ref x) name b) Q E s:=by obtain⟨o,h,e,a,u,_,D⟩:=Dd gd;haveI I:_root_.PySem.W.InstAt s.heap x (instObj cl.C j) cl.C (some o):=⟨l,rfl,rfl,a⟩;exact get_value (C.BE.keeps st) I Z.ga (findObj_own Z.hd (Z.fs name g).1 rfl (Ua u ((D name).trans d))) H k
theorem NY(Z:Hn c.K cl)(l:s.heap.get? x=some (instObj cl.C j))(gd:BA s.heap j f n)(r:n<1000)(h:name∈cl.fs)
  (k:∀a tk,BA a j (BR f name v) (if(f name).isSome then n else n+1)->Heap.SameBut j s.heap a->Q () {s with heap:=a,toks:=tk}):wpAny (Mo c) A (setAttr (.ref x) name v) Q E s:=by refine AB λJ=>Ay (id gd) λo q p w=>?_;obtain⟨m,u,_⟩:=w;refine J ?_;haveI I:_root_.PySem.W.InstAt s.heap x (instObj cl.C j) cl.C (some o):=⟨l,rfl,rfl,m⟩;have X:=C.BE.keeps st;refine set_plain X I Z.sa (osa_open X I Z.po (Z.fs name h).2 λb=>AB λJ=>AJ (any_some Z.hd) λL y V=>J ?_);refine Xcd (Xcp (Xcd (Xcd (Xhn l (Xcd (Xil X y _ _ _ _ (λU U e=>e) (rL V (Xcp (Xcd (Xcp (Xcd (W3 gd λa M T=>?_))))))))))));refine AB λJ=>Ay (id M) λt g i w=>?_;obtain⟨N,d,_,_,z⟩:=w;exact J (Xcd (Xh5 N (by exact rL d (Xh6 (by refine rL Xc9 ?_;split at z<;>omega))) (Xcp (k a _ M T))))
end
set_option backward.match.sparseCases false
structure ER(env:Env)(sc:Scope)(L:Addr):Prop where
 ek:env.scope.kind= .function
 eg:env.globals=mainGlobals
 eb:env.builtins=builtinsNs
 el:env.locals=L
 ks:∀x,env.kindOf x=sc.names.lookup x
theorem kr{code:Value}(h:sc.kind= .function):ER (DX sc L q a code) sc L:=⟨h,rfl,rfl,rfl,λU=>rfl⟩
noncomputable def I0(x:Str):Bool:=x=="__debug__"
section
variable {c:Cx}(C:c.Ok){A:Around}{s:Shared}(st:AS c.base s.heap){E:Value->Shared->Prop}{env:Env}{sc:Scope}{L:Addr}(V:ER env sc L)
include V
theorem Bj(B:sc.names.lookup x=some .local)(u:I0 x=false)(g:s.heap.Ns L m)(H:m x=some v)(h:Q v s):wpAny M A (eval (.Name x p) env) Q E s:=
 Xia (Xgy V.ek ((V.ks x).trans B) (V.el▸ g) H h) u
theorem L7(B:sc.names.lookup x=some .local)(g:s.heap.Ns L m)
  (h:∀d,d.Ns L (BR m x v)->Heap.SameBut L s.heap d->Q () {s with heap:=d,toks:=s.toks+1}):wpAny M A (storeName env x v) Q E s:=
 Xfp ((V.ks x).trans B) (V.el▸ g) (λd a b=>h d (V.el▸ a) (V.el▸ b)) (by refine rL V.ek ?_;rfl)
include C st
theorem PH(B:sc.names.lookup x=some .globalImplicit)(U:DI c.K x v)(u:I0 x=false)(h:Q v s):wpAny (Mo c) A (eval (.Name x pos) env) Q E s:=by
 refine Xfd V.ek ((V.ks x).trans B) ?_ u;rcases U with⟨e,_⟩|⟨e,H,g,_⟩
 ·exact Xfr (V.eg▸ C.tg.keeps st) (mg_of C.BE C.tg e) h
 ·exact Xge (V.eg▸ C.tg.keeps st) (Xip C.BE C.tg e) (V.eb▸ C.Np.keeps st) ((C.blt x g).trans H) h
theorem Oa(B:sc.names.lookup x=some .globalImplicit)(i:DI c.K x v)(u:I0 x=false)(j:Be (e::rest)=true)
  (h:wpAny (Mo c) A (spliced (backTo pos (starEach (e::rest) env))) (λvs d=>AS c.base d.heap/\wpAny (Mo c) A (call v vs) Q E d) E s):wpAny (Mo c) A (eval (.Call (.Name x np) (e::rest) [] pos) env) Q E s:=by
 haveI a:Av e=false/\Be rest=true:=⟨Aq (al j),ar j⟩;haveI Y:=Bn (rest:=rest) (env:=env) a.1;haveI b:=H9 (pos:=pos) (env:=env) a.2;refine wpAny_Call_NameR (PH C st V B i u ?_);rcases i with⟨_,k⟩|⟨_,_,_,l,H⟩
 ·exact Xhk (C.BE.keeps st) k (Xcv h (λvs d p=>⟨C.BE.keeps p.1,p.2⟩) λU U x=>x) Y b
 ·haveI g:=Xcv h (λU U p=>p.2) λU U x=>x;rcases H with rfl|rfl
  ·exact callWith_builtin1 g Y b
  ·exact Xhc g Y b
end
set_option genCtorIdx false in
inductive Sr where
 |arg (x:Str)|none|bool (b:Bool)|int (i:Int)|str (x:Str)|dict|list|copy (x:Str)|orList (x:Str)|Hd (x:Str)
def BQ(x:Str)(e:PySem.Expr):Bool:=BU e λy=>x==y&& !(I0 x)
@[elab_as_elim]theorem Mn{P:PySem.Expr->Prop}(h:BQ x e=true)(k:∀p,I0 x=false->P (.Name x p)):P e:=BD h λy p h=>(eq_of_beq (al h))▸ k p (Aq (ar h))
theorem DF(V:ER env sc L)(Y:BQ x e=true)(T:sc.names.lookup x=some .local)(a:s.heap.Ns L m)(H:m x=some v)(D:Q v s):wpAny M A (eval e env) Q E s:=
 Mn Y λp u=>Bj V T u a H D
theorem EL(h:BQ x e=true):Av e=false:=Mn h λU U=>rfl
theorem Ur(h:BQ x e=true):Hv e=true:=Mn h λU U=>rfl
theorem br(h:BQ x e=true):EJ e=false:=Mn h λU U=>rfl
noncomputable def OK{b:Type}(l:List b)(f:b->List b->Bool):Bool:=match l with|a::r=>f a r| []=>false
@[elab_as_elim]theorem U2{b:Type}{P:List b->Prop}{l:List b}{f:b->List b->Bool}(h:OK l f=true)(k:∀a r,f a r=true->P (a::r)):P l:=by
 cases l with
 |nil=>exact fT h
 |cons a r=>exact k a r h
def a3{e:Type}(l:List e)(f:e->e->e->Bool):Bool:=OK l λa r=>a2 r λb d=>f a b d
@[elab_as_elim]theorem i3{e:Type}{P:List e->Prop}{l:List e}{f:e->e->e->Bool}(h:a3 l f=true)(k:∀a b d,f a b d=true->P [a,b,d]):P l:=
 U2 h λa r h=>i2 h λb d h=>k a b d h
noncomputable def K5(p:Program)(cls fn:Str)(g:Arguments->List Stmt->Scope->Bool):Bool:=match CT p cls fn with|some (v,body,sc)=>g v body sc|none=>false
theorem JO(h:K5 p cls fn g=true)(e:CT p cls fn=some (ps,body,sc)):g ps body sc=true:=by unfold K5 at h;replace h:=e▸ h;exact h
def W0(x:Str)(e:PySem.Expr):Bool:=OJ e λy o T=>a1 T λz=>Eg z λc=>c== .none&&(o==[.Is]&&BQ x y)
def XC(sc:Scope):Sr->PySem.Expr->Bool
 | .arg x,e=>BQ x e&&sc.names.lookup x==some .local
 | .none,e=>Eg e λc=>c== .none
 | .bool b,e=>Eg e λc=>c== .bool b
 | .int i,e=>Eg e λc=>c== .int i
 | .str x,e=>Eg e λc=>c== .str x
 | .dict,e=>OL e λa b=>a.isEmpty&&b.isEmpty
 | .list,e=>ON e λq=>q.isEmpty
 | .copy x,e=>Dy e λg j d U=>BU g λf=>a1 j λy=>d.isEmpty&&(f=="list"&&(BQ x y&&(sc.names.lookup x==some .local&&sc.names.lookup ("list":Str)==some .globalImplicit)))
 | .orList x,e=>OM e λu y z=>ON y λl=>l.isEmpty&&(W0 x u&&(BQ x z&&sc.names.lookup x==some .local))
 | .Hd x,e=>OM e λu y z=>OL y λa b=>a.isEmpty&&(b.isEmpty&&(W0 x u&&sc.names.lookup x==some .local))
@[elab_as_elim]theorem Zn{P:PySem.Expr->Prop}(h:W0 x e=true)(k:∀y u p O,BQ x y=true->P (.Compare y [.Is] [.Constant .none u p] O)):P e:=
 U1 h λy o T O h=>i1 h λz h=>Fd h λc u p h=>C0 h λh=>C0 h λh=>k y u p O h
def Ln(made:Addr->Prop)(m:Str->Option Value)(h:Heap):Sr->Value->Prop
 | .arg x,v=>m x=some v
 | .none,v=>v= .none
 | .bool b,v=>v= .bool b
 | .int i,v=>∃t,v= .int i t
 | .str x,v=>∃t,v= .str x t
 | .dict,v=>∃a,v= .ref a/\made a/\h.get? a=some (dictOf [] 0)
 | .list,v=>∃a,v= .ref a/\made a/\h.get? a=some (listOf #[] 0)
 | .copy x,v=>∃b I n a d,m x=some (.ref b)/\h.get? b=some (listOf I n)/\v= .ref a/\made a/\h.get? a=some (listOf I d)
 | .orList x,v=>m x=some v
 | .Hd _,v=>∃a,v= .ref a/\made a/\h.get? a=some (dictOf [] 0)
def Hr(m:Str->Option Value)(h:Heap):Sr->Prop
 | .arg x=>∃v,m x=some v
 | .copy x=>∃b I n,m x=some (.ref b)/\h.get? b=some (listOf I n)/\I.size<=1000000
 | .orList x=>∃a,m x=some (.ref a)
 | .Hd x=>m x=some .none
 |_=>True
structure Cp(h₀:Heap)(L x C dx:Addr)(m mI:Str->Option Value)(n:Nat)(h:Heap):Prop where
 st:AS h₀ h
 ns:h.Ns L m
 gx:h.get? x=some (instObj C dx)
 gd:BA h dx mI n
 fd:h₀.get? dx=none
 Ld:L≠dx
theorem Cp.stays(S:Cp h₀ L x C dx m mI n h)(k:AS h h'):Cp h₀ L x C dx m mI n h':=
 ⟨S.st.trans k,k.ns S.ns,k _ _ S.gx,S.gd.at λa e=>k _ _ e,S.fd,S.Ld⟩
theorem Cp.ne(S:Cp h₀ L x C dx m mI n h)(e:h.get? b=some o)(u:∀i g,o.data≠.dict i g):b≠dx:=by rintro rfl;refine AB λj=>Ay S.gd λk i g w=>?_;obtain⟨a,d,_⟩:=w;refine j ?_;rw[e]at a;obtain rfl:=sS a;exact u _ _ d
theorem Cp.set(S:Cp h₀ L x C dx m mI n h)(a:Heap.SameBut dx h h')(g:BA h' dx (BR mI f v) (n+1)):Cp h₀ L x C dx m (BR mI f v) (n+1) h':=
 ⟨S.st.sameBut S.fd a,S.ns.sameBut a S.Ld,(a.2 x (S.ne S.gx λb b=>by simp)).trans S.gx,g,S.fd,S.Ld⟩
def GR(b:Heap)(j a:Addr):Prop:=b.get? a=none/\a≠j
theorem Ln.mono(i:∀a,made a->a≠dx)(k:∀b o,b≠dx->h.get? b=some o->h'.get? b=some o)(nl:∀b d n,h.get? b=some (listOf d n)->b≠dx)(e:Ln made m h j v):Ln made m h' j v:=by
 have one:∀{o:Obj},(∃a,v= .ref a/\made a/\h.get? a=some o)->∃a,v= .ref a/\made a/\h'.get? a=some o:=λe=>Bh e λa e q g=>(BS a e q (k _ _ (i a q) g));cases j with
 |dict=>exact one e
 |list=>exact one e
 |Hd _=>exact one e
 |copy _=>
  exact Dw e λb d n a w=>fo w λt e g l q p=>(DA b d n a (fq t e (k _ _ (nl _ _ _ g) g) l q (k _ _ (i a q) p)))
 |_=>exact e
theorem Hr.mono(k:∀b a n,h.get? b=some (listOf a n)->h'.get? b=some (listOf a n))(e:Hr m h d):Hr m h' d:=by
 cases d with
 |copy _=>exact GO e λb a n e g z=>(GP b a n e (k _ _ _ g) z)
 |_=>exact e
section
variable {c:Cx}(C:c.Ok){A:Around}{E:Value->Shared->Prop}{env:Env}{sc:Scope}{L:Addr}(V:ER env sc L)(gl:DI c.K "list" (.type "list"))
include C V gl
theorem zU(T:AS c.base j)(S:Cp j L x cl H m mI n s.heap):∀G{e:PySem.Expr},XC sc G e=true->Hr m s.heap G->
  (∀v t tk,AS s.heap t->Ln (GR j H) m t G v->Q v {s with heap:=t,toks:=tk})->wpAny (Mo c) A (eval e env) Q E s:=by
 have new:∀{o:Obj},GR j H s.heap.objs.size:=λ{o}=>by
  haveI e:s.heap.get? s.heap.objs.size=none:=Bg;refine(AH ?_ λq=>?_)
  ·exact Dn (λo q=>S.st _ _ q) e
  ·refine Ay S.gd λo' _ _ B=>?_;obtain⟨e',_⟩:=B;exact nH (q).symm e e'
 intro G e h d k;cases G with
 |arg y=>exact d.elim λv M=>DF V (al h) (eq_of_beq (ar h)) S.ns M (k v s.heap s.toks .refl M)
 |none=>exact Fd h λU U U h=>GB h (Xdq (k _ s.heap s.toks .refl rfl))
 |bool b=>exact Fd h λU U U h=>GB h (Xg8 (k _ s.heap s.toks .refl rfl))
 |int i=>exact Fd h λU U U h=>GB h (Xgf (k _ s.heap _ .refl (AN _ rfl)))
 |str y=>exact Fd h λU U U h=>GB h (Xef (k _ s.heap _ .refl (AN _ rfl)))
 |dict=>exact U3 h λa b p h=>iE h λh=>Mm h (Xgu (k _ _ s.toks (.push _) (BS _ rfl (new (o:=default)) (Xcn _ rfl))))
 |list=>exact U7 h λa p h=>Mm h (wpAny_List (args_nil (AH (rL Xc9 (Xdd _)) (k _ _ s.toks (.push _) ⟨_,rfl,new (o:=default),Xcn _ rfl⟩))))
 |copy y=>
  exact E6 h λg ys kw p h=>BD h λf O h=>i1 h λz h=>iE h λh=>C0 h λh=>d.elim λb d=>d.elim λI d=>d.elim λn' d=>
   Oa C (T.trans S.st) V (eq_of_beq (ar (ar h))) gl (by decide) (by simp only[Be,List.all_cons,EL (al h)];rfl) (Xc5 (DF V (al h) (eq_of_beq (al (ar h))) S.ns d.1 (args_nil (AH (T.trans S.st) (call_list_seq (hsz:=rL Xc9 (Xcq d.2.2 (by decide))) b (.inl rfl) d.2.1 rfl rfl λt N J hD=>k _ t s.toks J ⟨b,I,n',_,N,d.1,J _ _ d.2.1,rfl,new (o:=default),hD⟩)))) (Bn (EL (al h))))
 |orList y=>
  exact U6 h λu w z p h=>U7 h λl O h=>iE h λh=>Zn (al h) λy' uu p2 p3 Y=>d.elim λa D=>
   IfExp_ (wpAny_isTrue_Compare1 (DF V Y (eq_of_beq (ar (ar h))) S.ns D (Xdq (is_none_ne (λq=>by cases q) λU U U=>DF V (al (ar h)) (eq_of_beq (ar (ar h))) S.ns D (k _ s.heap s.toks .refl D)))))
 |Hd y=>
  exact U6 h λu w z p h=>U3 h λa b O h=>iE h λh=>iE h λh=>Zn (al h) λy' uu p2 p3 Y=>
   IfExp_ (wpAny_isTrue_Compare1 (DF V Y (eq_of_beq (ar h)) S.ns d (Xdq (is_none_none λU U U=>Xgu (k _ _ s.toks (.push _) (BS _ rfl (new (o:=default)) (Xcn _ rfl)))))))
end
noncomputable def Iz(sc:Scope):List (Str×Sr)->List Stmt->Bool
 | [],a=>a.isEmpty
 |q::r,a=>OK a λst a=>Iz sc r a&&Hh st λd v=>a1 d λt=>HI t λy g U=>g==q.1&&(BQ "self" y&&(XC sc q.2 v&& !(EJ v)))
noncomputable def Bt(made:Addr->Prop)(m:Str->Option Value)(h:Heap):List (Str×Sr)->(Str->Option Value)->(Str->Option Value)->Prop
 | [],mI,BX=>BX=mI
 | (f,G)::r,mI,BX=>∃v,Ln made m h G v/\Bt made m h r (BR mI f v) BX
section
variable {made:Addr->Prop}{m:Str->Option Value}{h:Heap}{r:List (Str×Sr)}{mI BX:Str->Option Value}{f:Str}{Q:Prop}
theorem C7(L:Bt made m h ((f,.arg y)::r) mI BX)(e:some w=m y)(k:Bt made m h r (BR mI f w) BX->Q):Q:=by
 refine AJ L λv a L=>?_;cases e.trans a;exact k L
theorem tf(L:Bt made m h ((f,.orList y)::r) mI BX)(e:some w=m y)(k:Bt made m h r (BR mI f w) BX->Q):Q:=by
 refine AJ L λv a L=>?_;cases e.trans a;exact k L
theorem Ep(L:Bt made m h ((f,.none)::r) mI BX)(k:Bt made m h r (BR mI f .none) BX->Q):Q:=by
 refine AJ L λv a L=>?_;cases(show v= .none from a);exact k L
theorem Kn(L:Bt made m h ((f,.bool b)::r) mI BX)(k:Bt made m h r (BR mI f (.bool b)) BX->Q):Q:=by
 refine AJ L λv a L=>?_;cases(show v= .bool b from a);exact k L
theorem Mx(L:Bt made m h ((f,.int i)::r) mI BX)(k:∀t,Bt made m h r (BR mI f (.int i t)) BX->Q):Q:=by refine AJ L λv a L=>?_;obtain⟨t,rfl⟩:=a;exact k t L
theorem Gq(L:Bt made m h ((f,.dict)::r) mI BX)(k:∀a,made a->h.get? a=some (dictOf [] 0)->Bt made m h r (BR mI f (.ref a)) BX->Q):Q:=by refine AJ L λv b L=>?_;obtain⟨a,rfl,e⟩:=b;exact k a e.1 e.2 L
theorem te(L:Bt made m h ((f,.Hd y)::r) mI BX)(k:∀a,made a->h.get? a=some (dictOf [] 0)->Bt made m h r (BR mI f (.ref a)) BX->Q):Q:=by refine AJ L λv b L=>?_;obtain⟨a,rfl,e⟩:=b;exact k a e.1 e.2 L
theorem UM(L:Bt made m h ((f,.list)::r) mI BX)(k:∀a,made a->h.get? a=some (listOf #[] 0)->Bt made m h r (BR mI f (.ref a)) BX->Q):Q:=by refine AJ L λv b L=>?_;obtain⟨a,rfl,e⟩:=b;exact k a e.1 e.2 L
theorem UL(L:Bt made m h ((f,.copy y)::r) mI BX)(e:some (.ref b)=m y)(g:h.get? b=some (listOf I n))(k:∀a l,made a->h.get? a=some (listOf I l)->Bt made m h r (BR mI f (.ref a)) BX->Q):Q:=by
 refine AJ L λv i L=>?_;obtain⟨p,j,l,a,d,N,o,rfl,z,u⟩:=i;cases e.trans N;cases g.symm.trans o;exact k a d z u L
theorem Ko(L:Bt made m h [] mI BX)(u:Bt b a i l BX d):Bt b a i l mI d:=(show BX=mI from L)▸ u
theorem JR{P:(Str->Option Value)->Prop}(L:Bt made m h [] mI BX)(p:P BX):P mI:=(show BX=mI from L)▸ p
theorem Gn{l:List (Str×Sr)}{fs:List Str}(e:(l.all λq=>fs.contains q.1)=true):∀q∈l,q.1∈fs:=λq O=>Xcw.mp (Xce.mp e q O)
noncomputable def zT(m:Str->Option Value):Sr->Bool
 | .arg x=>(m x).isSome
 | .orList x=>(m x).any λv=>match v with| .ref _=>true|_=>false
 | .Hd x=>(m x).any λv=>decide (v= .none)
 | .copy _=>false
 |_=>true
theorem Hj{l:List (Str×Sr)}(e:(l.all λq=>zT m q.2)=true):∀q∈l,Hr m h q.2:=λq O=>by
 haveI e:=Xce.mp e q O;obtain⟨f,s⟩:=q;cases s with
 |orList x=>
  haveI e:(m x).any (λv=>match v with| .ref _=>true|_=>false)=true:=e;show ∃a,m x=some (.ref a);cases q:m x with
  |none=>rw[q]at e;exact fT e
  |some v=>cases v<;>first|exact⟨_,rfl⟩| (rw[q]at e;exact fT e)
 |Hd x=>
  haveI e:(m x).any (λv=>decide (v= .none))=true:=e;show m x=some .none;cases q:m x with
  |none=>rw[q]at e;exact fT e
  |some v=>rw[q]at e;exact congrArg some (Xcj e)
 |_=>first|exact trivial|exact fT e|exact Xeq.mp e
theorem zP{fs:List Str}(e:(fs.all λf=>f==x||(m f).isSome)=true):∀f∈fs,f≠x->∃v,m f=some v:=λf t n=>
 Xeq.mp ((Xhb.mp (Xce.mp e f t)).resolve_left λq=>n (eq_of_beq q))
theorem Es{fs:List Str}(h:fs.contains x=true)(k:∀f,f∉fs->m f=none):∀f,f∉fs->BR m x v f=none:=λf t=>(BO λe=>t (by exact rL e (Xcw.mp h))).trans (k f t)
theorem MT{b:Type}{P:b->Prop}{a:b}{l:List b}(h:P a)(k:∀x∈l,P x):∀x∈a::l,P x:=Xgz.mpr ⟨h,k⟩
theorem qB{fs:List Str}(e:(fs.all λf=>(m f).any handedIn)=true):∀f∈fs,∃v,m f=some v/\handedIn v=true:=λf t=>by
 have e:=Xce.mp e f t;cases q:m f with
 |none=>replace e:=q▸ e;exact fT e
 |some v=>replace e:=q▸ e;exact(AG v rfl e)
end
theorem Ph{c:Cx}(C:c.Ok){A:Around}{E:Value->Shared->Prop}{env:Env}{sc:Scope}{L:Addr}(V:ER env sc L)(gl:DI c.K "list" (.type "list")){cl:Ju}(Z:Hn c.K cl){i:Heap}{x H:Addr}{m:Str->Option Value}(sb:AS c.base i)(N:sc.names.lookup ("self":Str)=some .local)(hx:m "self"=some (.ref x))
  {rest:List Stmt} {Q:Flow->Shared->Prop}:∀l{ys:List Stmt}{s:Shared}{mI:Str->Option Value}{n:Nat},Iz sc l ys=true->(∀p∈l,p.1∈cl.fs)->Cp i L x cl.C H m mI n s.heap->n+l.length<1000->(∀p∈l,Hr m s.heap p.2)->
  (∀d tk BX,Cp i L x cl.C H m BX (n+l.length) d->(∀b o,b≠H->s.heap.get? b=some o->d.get? b=some o)->Bt (GR i H) m d l mI BX->wpAny (Mo c) A (execs rest env) Q E {s with heap:=d,toks:=tk})->wpAny (Mo c) A (execs (ys++rest) env) Q E s
 | [],ys,s,mI,n,h,D,S,T,hi,k=>Mm h (k s.heap s.toks mI S (λU U U e=>e) rfl)
 | (f,sr)::r,ys,s,mI,n,h,D,S,T,hi,k=>U2 h λst ys h=>HV (ar h) λts v p' d=>i1 d λt d=>HW d λy g p d=>C0 d λd=>by
  haveI h2:=D _ (.head _);replace T:=Xd4▸ T;refine Xct (Xda (zU C V gl sb S sr (al (ar d)) (hi _ (.head _)) λu w tk st hv=>?_) (CM (Aq (ar (ar d)))));have G:=S.stays st;refine DF V (al d) N G.ns hx (NY C (sb.trans G.st) Z G.gx G.gd (lin [n,r.length] 0x1fae7f97f607a3d5bf88eb03f081 rfl T) h2 λY Xb7 M O=>?_);have j:=G.set O (M.le (by split<;>lia));have kk:∀b o,b≠H->w.get? b=some o->Y.get? b=some o:=λb o nb e=>(O.2 b nb).trans e;haveI ll:∀b I n,w.get? b=some (listOf I n)->b≠H:=λb I n e=>G.ne e λU U q=>by cases q
  exact Ph C V gl Z sb N hx r (al h) (λp hp=>D p (.tail _ hp)) j (lin [n,r.length] 0x5031b2f8a6c356b50cd292e20e488dd581 rfl T) (λp hp=>(hi p (.tail _ hp)).mono λb I n e=>kk _ _ (ll _ _ _ (st _ _ e)) (st _ _ e)) λCt B BX J z la=>k Ct B BX (rL (Xd4 ..) (rL (Nat.add_comm r.length 1 ..) (rR (Nat.add_assoc ..) J))) (λb o nb e=>z b o nb (kk b o nb (st b o e))) (AG u ((hv.mono (λa q=>q.2) kk ll).mono (λa q=>q.2) z λb I n e=>j.ne e λU U q=>by cases q) la)
theorem Pg{c:Cx}(C:c.Ok)(V:ER env sc L)(gl:DI c.K "list" (.type "list"))(Z:Hn c.K cl)(T:AS c.base e)(N:sc.names.lookup ("self":Str)=some .local)(B:m "self"=some (.ref x))(l:List (Str×Sr))(h:Iz sc l ys=true)(D:∀p∈l,p.1∈cl.fs)(S:Cp e L x cl.C j m mI n s.heap)(q:n+l.length<1000)(i:∀p∈l,Hr m s.heap p.2)
  (k:∀g tk BX,Cp e L x cl.C j m BX (n+l.length) g->(∀b o,b≠j->s.heap.get? b=some o->g.get? b=some o)->Bt (GR e j) m g l mI BX->Q .next {s with heap:=g,toks:=tk}):wpAny (Mo c) A (execs ys env) Q E s:=by haveI:=Ph C V gl Z (E:=E) (A:=A) T N B l h D S q i λg tk BX a b d=>Xdm (k g tk BX a b d);rwa [Xcz]at this
theorem j9(b:Ef F ⟨[],as,none,[],[],none,i⟩ body j q (.ref T))(g:as.map (·.arg)=m)
  (f:s.heap.get? T=some o) (u:o.data= .seq items.toArray n) (d:vs.length<=m.length) (h:items.length<=m.length)
  (D:((m.take (m.length - items.length)).filter λn=>((m.zip vs).lookup n).isNone).isEmpty=true)
  (V:(m.filterMap λn=>((((m.drop (m.length - items.length)).zip items).foldl (λk p=>if(k.lookup p.1).isNone then k++[p]else k) (m.zip vs)).lookup n).map (n,·))=binds):BindsTo s F ⟨vs,[]⟩ binds:=by intro M A E Q O;refine AB λJ=>?_;obtain⟨B,a,e⟩:=Wn b;refine J (rL e (Xcd (wpAny_seqItems f u ?_)));show wpAny _ _ (OX B a (as.map Arg.arg) vs _ (List.drop (items.length - (as.map Arg.arg).length) items)) _ _ _;exact rL g (rL (Nat.sub_eq_zero_of_le h) (rL List.drop_zero (rL (Wo d D) (Xcp ((show m.filterMap (λn=>((Sx m vs items).lookup n).map (n,·))=binds from V)▸ O)))))
def Eo(ps:Arguments)(M:Scope)(m:List Str):Bool:=
 NM ps m&&(decide (M.kind= .function)&&(!M.isCoroutine&&(!M.isGenerator&&(m.all (λx=>M.names.lookup x==some .local)&&(M.names.all (λx=>x.2 != .cell)&&decide m.Nodup)))))
theorem F1(h:Eo ps M m=true):OE M m/\m.Nodup/\∃as d,ps=⟨[],as,none,[],[],none,d⟩/\as.map (·.arg)=m:=by have Y:=ar (ar (ar (ar h)));exact(AX ⟨Xcj (al (ar h)),Aq (al (ar (ar h))),Aq (al (ar (ar (ar h)))),λx B=>eq_of_beq (Xce.mp (al Y) x B),λx B=>Xez.mp (Xce.mp (al (ar Y)) x B)⟩ (Xcj (ar (ar Y))) (BM _ _ (V4 (al h))))
def O2(m:List Str)(vs:List Value)(i:Value)(h:Heap)(binds:List (Str×Value)):Prop:=
 (i= .none/\vs.length=m.length/\binds=m.zip vs)\/
 ∃T o v n,i= .ref T/\h.get? T=some o/\o.data= .seq (List.toArray v) n/\vs.length<=m.length/\v.length<=m.length/\((m.take (m.length - v.length)).filter λn=>((m.zip vs).lookup n).isNone).isEmpty=true/\
  (m.filterMap λn=>((((m.drop (m.length - v.length)).zip v).foldl (λk p=>if(k.lookup p.1).isNone then k++[p]else k) (m.zip vs)).lookup n).map (n,·))=binds
theorem Fy(h:Eo ps M m=true)(V:O2 m vs i s.heap binds):∀F,Ef F ps body M q i->BindsTo s F ⟨vs,[]⟩ binds:=by
 refine Bf (F1 h) λ_ g w=>Ce w λN f G ha=>?_;obtain rfl:=G;intro F b;rcases V with⟨rfl,a,rfl⟩|⟨T,o,v,n,rfl,d,u,a,e,D,V⟩
 ·exact .of_eq (ha▸ SF b (ha▸ g) (rL (a ..) (rR (ha ..) (rL (EN ..) rfl))))
 ·exact j9 b ha d u a e D V
section
variable {c:Cx}(C:c.Ok)
include C
theorem Q6(st:AS c.base s.heap)(Z:Hn c.K cl)
  (h:∀x j b,s.heap.get? x=none->s.heap.get? j=none->AS s.heap b->b.get? x=some (instObj cl.C j)->BA b j (λU=>none) 0->
   codeAny (Mo c) (A.under (.builtin "type.__call__" ⟨.ref cl.C::vs,[]⟩)) (.call (.ref cl.f) ⟨.ref x::vs,[]⟩)
    (InitBack x λr l=>match r with| .ok (.ret v)=>Q v l| .ok _=>False| .error e=>E e l) {s with heap:=b}):wpAny (Mo c) A (call (.ref cl.C) vs) Q E s:=by obtain⟨H,g,d,t,n⟩:=s;have X:=C.BE.keeps st;refine Xfe (make_core (makes_of X Z.vG) (Xhf X Z.Fe) (λa=>bind_fn X a (Xej.mp Z.fn)) (.inl rfl) ?_);have N:H.get? H.objs.size=none:=Bg;have f:H.get? (H.objs.size+1)=none:=H0 (Xd9 _);refine h _ H.objs.size _ f N ((AS.push _).trans (AS.push _)) ?_ (BA.new (Xcf _ (Xcn _ rfl)));have:=Xcn (H.push emptyDict) (o:=instObj cl.C H.objs.size) rfl;rwa [Xd0]at this
end
def Zw(p:Program)(cls:Str)(m:List Str)(l:List (Str×Sr)):Bool:=K5 p cls "__init__" λv body M=>Eo v M m&&Iz M l body
def ew(s:Stmt):Bool:=Ky s λv=>Dy v λg Q E T=>HI g λy i r=>BU y λt=>E.isEmpty&&a3 Q λa b d=>t=="Thing"&&(i=="__init__"&&(r.endLine==T.line&&(BQ "self" a&&(BQ "number" b&&BQ "owner" d))))
@[elab_as_elim]theorem sM{P:Stmt->Prop}(h:ew s=true)(k:∀t r a b d cp f,(r.endLine==cp.line)=true->BQ "self" a=true->BQ "number" b=true->BQ "owner" d=true->P (.Expr (.Call (.Attribute (.Name "Thing" t) "__init__" r) [a,b,d] [] cp) f)):P s:=
 Kh h λv f h=>E6 h λg Q E cp h=>HW h λy i r h=>BD h λt p h=>iE h λh=>i3 h λa b d h=>C0 h λh=>C0 h λh=>k p r a b d cp f (al h) (al (ar h)) (al (ar (ar h))) (ar (ar (ar h)))
def Kk(p:Program)(cls:Str)(m:List Str)(l:List (Str×Sr)):Bool:=K5 p cls "__init__" λv body M=>OK body λs r=>Eo v M m&&(M.names.lookup ("Thing":Str)==some .globalImplicit&&(Iz M l r&&ew s))
noncomputable def QL:List (Str×Sr):=[("required",.copy "required"),("optional",.copy "optional"),("rest",.arg "rest"),("post",.copy "post"),("block",.arg "block")]
noncomputable def Nq:List (Str×Sr):=[("number",.arg "number"),("owner",.arg "owner"),("fields",.dict),("own",.none),("frozen",.bool false),("ident",.none)]
noncomputable def zm:List (Str×Sr):=[("text",.arg "text")]
noncomputable def uK:List (Str×Sr):=[("items",.orList "items")]
noncomputable def xw:List (Str×Sr):=(["params","body","env","self_value","nesting","home","site","is_lambda","definer"]:List Str).map λx=>(x,.arg x)
noncomputable def l9:List (Str×Sr):=[("message",.arg "message"),("cause",.none)]
noncomputable def bT:List (Str×Sr):=[("name",.arg "name"),("is_class",.arg "is_class"),("parent",.arg "parent"),("outer",.arg "outer"),("methods",.dict),("constants",.dict),("mixed",.list),("ahead",.list),("attached",.none),("native",.none),("kept",.none)]
noncomputable def Nw:List (Str×Sr):=[("natives",.arg "natives"),("prelude",.Hd "prelude"),("read",.arg "read"),("most",.arg "most"),("taken",.int 0),("last_number",.int 0),("last_ident",.int 8),("symbol_idents",.dict),("made",.dict),("version",.int 0),("const_version",.int 0),("globals",.dict),("out",.list),("is_ready",.bool false)]
noncomputable def tn:List Str:=["self","number","owner"]
def Zx(p:Program):Bool:=
 Zw p "Params" ["self","required","optional","rest","post","block"] QL&&Zw p "Thing" tn Nq&&Kk p "Text" (tn++(["text"]:List Str)) zm&&Kk p "ListThing" (tn++(["items"]:List Str)) uK&&
 Kk p "ProcThing" (tn++(["params","body","env","self_value","nesting","home","site","is_lambda","definer"]:List Str)) xw&&Kk p "ErrorThing" (tn++(["message"]:List Str)) l9&&Kk p "ModuleThing" (tn++(["name","is_class","parent","outer"]:List Str)) bT
theorem sT:Zx PySem.Challenge.pw_nz0050_01=true:=by kernel_rfl
noncomputable def Of(f:Dk):Value:=match f.dV with|some a=> .ref a|none=> .none
structure FG(c:Cx):Prop where
 fn:∀f∈FU,∃ps body sc,CT Cd f.cls f.name=some (ps,body,sc)/\O5 c f.a ps body sc f.qual (Of f)
 cls:∀cl∈Hy,Hn c.K cl
 sm:∀x∈Hi,c.base.get? x.1=some x.2
 Fe:Zx Cd=true
 gl:∀x∈MU,DI c.K x.1 x.2
 blt:∀x∈HO,DI c.K x.1 x.2
 Vq:specialIn c.K (.ref 72) "__getattribute__"=some (some (.builtin "type.__getattribute__"))
 Vt:readsIn c.K 72 (.type "type")=true
 Vp:findCls c.K (.ref 72) (.type "type") "__init__"=some (.val (.ref 69))
 Vs:keepIn c.K (.ref 69)=true
theorem G5{code:Value}(h:OE M ns):ER (DX M L q a code) M L:=kr h.kind
theorem Pk{code:Value}(h:M.kind= .function):interactive (DX M L q a code)=false:=by unfold interactive;refine rL (show(DX M L q a code).scope.kind= .function from h) ?_;rfl
theorem Bt.mono{j:Addr}(g:∀a,made a->a≠j)(k:∀b o,b≠j->h.get? b=some o->h'.get? b=some o)(nl:∀b f n,h.get? b=some (listOf f n)->b≠j):∀{l:List (Str×Sr)}{i d:Str->Option Value},Bt made m h l i d->Bt made m h' l i d
 | [],_,_,e=>e
 | (_,_)::_,_,_,⟨v,a,b⟩=>(AG v (a.mono g k nl) (Bt.mono g k nl b))
section
variable {c:Cx}(C:c.Ok)(G:FG c)
include C G
theorem zr(hA:A.depth+2<1000)(V:ER env M L)(Y:interactive env=false)(Z:Hn c.K cl)(J:∀x∈DQ,x∈cl.fs)(sb:AS c.base f)
  (S:Cp f L x cl.C r m mI n s.heap) (hn:n<900) (hs:M.names.lookup ("self":Str)=some .local) (T:M.names.lookup ("number":Str)=some .local) (rN:M.names.lookup ("owner":Str)=some .local) (hx:m "self"=some (.ref x)) (Tu:m "number"=some vn) (Tv:m "owner"=some vo) (ha:BQ "self" a=true) (B:BQ "number" b=true) (D:BQ "owner" d=true) (l:M.names.lookup ("Thing":Str)=some .globalImplicit) (h:(ap.endLine==cp.line)=true)
  (k:∀j tk g,Cp f L x cl.C r m g (n+6) j->(∀b o,b≠r->s.heap.get? b=some o->j.get? b=some o)->Bt (GR f r) (λy=>(tn.zip [.ref x,vn,vo]).reverse.lookup y) j Nq mI g->Q .next {s with heap:=j,toks:=tk}):
  wpAny (Mo c) A (exec (.Expr (.Call (.Attribute (.Name "Thing" pt) "__init__" ap) [a,b,d] [] cp) pos) env) Q E s:=by
 have t:=sb.trans S.st;refine Xes (Xe5 (PH C t V l (G.gl ("Thing",.ref 72) (by decide)) (by decide) (method_cls (C.BE.keeps t) G.Vq (cls_value (C.BE.keeps t) G.Vt G.Vp rfl ?_))) (JV (by simp[Be,EL ha,EL B,EL D]) (Xch rfl) h)) Y (CM rfl);refine Xhk (C.BE.keeps t) G.Vs (Xc5 (DF V ha hs S.ns hx (Xc5 (DF V B T S.ns Tu (Xc5 (DF V D rN S.ns Tv (args_nil ⟨C.BE.keeps t,AB λkk=>Aj (G.fn ⟨69,"Thing","__init__",none⟩ (Ai 34)) λps body sc' u hf=>?_⟩)) (Bn (EL D)))) (Bn (EL B)))) (Bn (EL ha))) (Bn (EL ha)) (H9 (by simp[Be,EL B,EL D]));have hI:=G.Fe;have l:=(ar (al (al (al (al (al hI))))));have l:=JO l u;have hh:=al l;have hc:=ar l;refine Bf (F1 hh) λi _ _=>kk (KK C (s:={s with toks:=s.toks+1}) t hf (lin [A.depth] 1115590080383305477300049670273 rfl hA) (binds:=tn.zip [.ref x,vn,vo]) i (Fy hh (.inl (AX rfl rfl rfl))) λcode j E' N w=>?_);have z:=S.stays w;have LL:=S.ns.lt;have nd:s.heap.objs.size≠r:=λq=>by refine AB λkk=>Ay S.gd λo _ _ Ap=>?_;obtain⟨e,_⟩:=Ap;exact kk (nH (q).symm Bg e)
 have I:Cp f s.heap.objs.size x cl.C r (λy=>(tn.zip [.ref x,vn,vo]).reverse.lookup y) mI n j:=⟨z.st,N,z.gx,z.gd,z.fd,nd⟩;exact Pg C (G5 i) (G.blt ("list",.type "list") (by decide)) Z sb (i.loc _ (by decide)) rfl Nq hc (λp hp=>J p.1 (Gn (by kernel_rfl) p hp)) I (Nat.add_lt_add_of_lt_of_le hn (by decide:6<=100)) (Hj (by kernel_rfl)) λv tk g U O la=>(k v tk g ⟨U.st,F7 z.ns λo=>O L o S.Ld,U.gx,U.gd,U.fd,S.Ld⟩ (λb o nb e=>O b o nb (w b o e)) la)
end
section
variable {c:Cx}(C:c.Ok)(G:FG c)
include C G
theorem N5(hA:A.depth+4<1000)(st:AS c.base s.heap)(JE:cl∈Hy)(qh:∀x∈DQ,x∈cl.fs)(v:Kk Cd cls m l=true)(hf:(⟨cl.f,cls,"__init__",dv⟩)∈FU)
  (hl:∀q∈l,q.1∈cl.fs) (qt:l.length<50) (r6:∀x∈tn,x∈m) {binds:Addr->List (Str×Value)} (hb:∀x i,AS s.heap i->O2 m (.ref x::vs) (Of ⟨cl.f,cls,"__init__",dv⟩) i (binds x)) (hk:∀x,(binds x).map (·.1)=m)
  (hx:∀x,(binds x).reverse.lookup ("self":Str)=some (.ref x)) (Tu:∀x,(binds x).reverse.lookup ("number":Str)=some vn) (Tv:∀x,(binds x).reverse.lookup ("owner":Str)=some vo) (hi:∀x,∀q∈l,Hr (λy=>(binds x).reverse.lookup y) s.heap q.2)
  (k:∀x j i tk M N,s.heap.get? x=none->s.heap.get? j=none->AS s.heap i->i.get? x=some (instObj cl.C j)->BA i j N (6+l.length)->Bt (GR s.heap j) (λy=>(tn.zip [.ref x,vn,vo]).reverse.lookup y) i Nq (λU=>none) M->
   Bt (GR s.heap j) (λy=>(binds x).reverse.lookup y) i l M N->Q (.ref x) {s with heap:=i,toks:=tk}):wpAny (Mo c) A (call (.ref cl.C) vs) Q E s:=by
 have Z:=G.cls cl JE;refine Q6 C st Z λx j h fx fd f gx gd=>AB λkk=>Aj (G.fn _ hf) λps body sc O w=>kk ?_;haveI v:=JO v O;revert w;refine U2 v λNf Xbs v=>sM (ar (ar (ar v))) λt ap a b d cp ep B ha qJ hd w=>?_;have hh:=al v;haveI hT:=eq_of_beq (al (ar v));haveI hc:=al (ar (ar v));refine AB λkk=>Bf (F1 hh) λg _ _=>kk ?_;haveI p:=λy hy=>g.loc y (r6 y hy);refine KJ C (st.trans f) w (by show A.depth+1<1000;omega) (rL (hk ..) g) (Fy hh (hb x h f)) λcode T Cs Y=>?_;haveI nd:h.objs.size≠j:=λq=>by refine AB λkk=>Ay gd λo _ _ Ap=>?_;obtain⟨e,_⟩:=Ap;exact kk (nH (q).symm Bg e)
 have I:Cp s.heap h.objs.size x cl.C j (λy=>(binds x).reverse.lookup y) (λU=>none) 0 T:=⟨f.trans Y,Cs,Y _ _ gx,gd.at λU e=>Y _ _ e,fd,nd⟩;refine Xct (zr C G (by show A.depth+1+1+2<1000;omega) (G5 g) (Pk g.kind) Z qh st I (lin [] 313161130967553 rfl) (p _ (by first|decide|simp[tn])) (p _ (by first|decide|simp[tn])) (p _ (by first|decide|simp[tn])) (hx x) (Tu x) (Tv x) ha qJ hd hT B λV J M r JQ D=>Pg C (G5 g) (G.blt ("list",.type "list") (by first|decide|simp[HO])) Z (s:={s with heap:=V,toks:=J}) st (p _ (by first|decide|simp[tn])) (hx x) l hc hl r (lin [l.length] 4125539474616822691631315980143489 rfl qt) (λq hq=>(hi x q hq).mono λb Cv n e=>?_) λGl L N z IK H=>⟨rfl,?_⟩)
 ·haveI u:=Y _ _ (f _ _ e);exact JQ b _ (I.ne u λU U=>by first|decide|simp) u
 ·refine k x j Gl L M N fx fd z.st z.gx ?_ (D.mono (λa q=>q.2) IK λb Cv n e=>r.ne e λU U=>by first|decide|simp) H;rw[Xd3]at z;exact z.gd
theorem uj(hA:A.depth+4<1000)(st:AS c.base s.heap){na N np:Nat}(ga:s.heap.get? a=some (listOf ia na))(gb:s.heap.get? b=some (listOf ib N))(gd:s.heap.get? d=some (listOf ip np))
  (za:ia.size<=1000000) (zb:ib.size<=1000000) (zp:ip.size<=1000000)
  (k:∀x j h tk u,s.heap.get? x=none->s.heap.get? j=none->AS s.heap h->h.get? x=some (instObj 49 j)->h.Ns j u->
   ∀L b' B na N np,u "required"=some (.ref L)->GR s.heap j L->h.get? L=some (listOf ia na)->u "optional"=some (.ref b')->GR s.heap j b'->h.get? b'=some (listOf ib N)->u "rest"=some r->u "post"=some (.ref B)->GR s.heap j B->h.get? B=some (listOf ip np)->u "block"=some O->
   Q (.ref x) {s with heap:=h,toks:=tk}):wpAny (Mo c) A (call (.ref 49) [.ref a,.ref b,r,.ref d,O]) Q E s:=by
 haveI D:(⟨49,39,["required","optional","rest","post","block"]⟩)∈Hy:=Ai 0;haveI Z:=G.cls _ D;refine Q6 C st Z λx j g fx fd f gx v=>AB λJ=>Aj (G.fn ⟨39,"Params","__init__",some 32⟩ (Ai 33)) λps body sc w H=>?_;haveI t:=G.Fe;haveI t:=(al (al (al (al (al (al t))))));have t:=JO t w;have hh:=al t;haveI hc:=ar t;refine Bf (F1 hh) λl _ _=>J ?_;haveI gt:=G.sm (32,CY [.ref 29,.ref 30,.none,.ref 31,.none]) (Ai 3);haveI hb:O2 ["self","required","optional","rest","post","block"] [.ref x,.ref a,.ref b,r,.ref d,O] (.ref 32) g ((["self","required","optional","rest","post","block"]:List Str).zip [.ref x,.ref a,.ref b,r,.ref d,O]):=
  .inr (GQ 32 _ [.ref 29,.ref 30,.none,.ref 31,.none] 0 rfl (f _ _ (st _ _ gt)) rfl (Xch rfl) (Xch rfl) (AH (by rfl) (by rfl)))
 refine KJ C (st.trans f) H (by show A.depth+1<1000;omega) (binds:=((["self","required","optional","rest","post","block"]:List Str).zip [.ref x,.ref a,.ref b,r,.ref d,O])) l (Fy hh hb) λcode i U Y=>?_;haveI nd:g.objs.size≠j:=λq=>by refine AB λJ=>Ay v λo _ _ V=>?_;obtain⟨e,_⟩:=V;exact J (nH (q).symm Bg e)
 haveI I:Cp s.heap g.objs.size x 49 j _ (λu0=>none) 0 i:=⟨f.trans Y,U,Y _ _ gx,v.at λu0 e=>Y _ _ e,fd,nd⟩;haveI m:=f.trans Y;refine Pg C (G5 l) (G.blt ("list",.type "list") (by first|decide|simp[HO])) Z (s:={s with heap:=i,toks:=s.toks+6}) st (l.loc _ (.head _)) rfl QL hc (by first|decide|simp[QL]) I (by first|decide|simp[QL]) ?_ λT n ud z IK p=>(AH rfl ?_)
 ·exact MT (GP a ia na rfl (m _ _ ga) za) (MT (GP b ib N rfl (m _ _ gb) zb) (MT (AN _ rfl) (MT (GP d ip np rfl (m _ _ gd) zp) (MT (AN _ rfl) λu0 q=>nomatch q))))
 ·refine AB λJ=>?_;exact UL p rfl (z.st _ _ ga) λa1 n1 m1 g1 M=>UL M rfl (z.st _ _ gb) λa2 n2 m2 g2 M=>C7 M rfl λM=>UL M rfl (z.st _ _ gd) λa4 n4 m4 g4 M=>C7 M rfl λM=>
   J (k x j T n _ fx fd z.st z.gx (JR M z.gd.ns) a1 a2 a4 n1 n2 n4 (by rfl) m1 g1 (by rfl) m2 g2 (by rfl) (by rfl) m4 g4 (by rfl))
end
noncomputable def H6:Nat->PySem.Expr->List Pos×List Nat
 |0,_=>([],[])
 |n+1,x=>
  let V:List PySem.Expr->Pos->List Nat->List Pos×List Nat:=λQ p k=>(Q.flatMap (λy=>(H6 n y).1)++[p],Q.flatMap (λy=>(H6 n y).2)++k)
  match x with
  | .Name _ p=>V [] p []
  | .Constant _ k p=>V [] p [k]
  | .Attribute y _ p=>V [y] p []
  | .Call f Q _ p=>V (f::Q) p []
  | .Compare y _ T p=>V (y::T) p []
  | .IfExp u y z p=>V [u,y,z] p []
  | .BinOp y _ z p=>V [y,z] p []
  | .BoolOp _ Q p=>V Q p []
  | .Subscript y z p=>V [y,z] p []
  | .Tuple Q k p=>V Q p [k]
  | .List Q p=>V Q p []
  | .Dict _ _ p=>V [] p []
  | .ListComp y I _ p=>V (y::I.flatMap λg=>[g.target,g.iter]) p []
  |_=>([],[])
noncomputable def Ja:Nat->Stmt->List Pos×List Nat
 |0,_=>([],[])
 |n+1,x=>
  let V:List PySem.Expr->List Stmt->Pos->List Pos×List Nat:=λQ J p=>(Q.flatMap (λy=>(H6 9 y).1)++(J.flatMap (λy=>(Ja n y).1)++[p]),Q.flatMap (λy=>(H6 9 y).2)++J.flatMap λy=>(Ja n y).2)
  match x with
  | .Assign d v p=>V (d++[v]) [] p
  | .AugAssign t _ v p=>V [t,v] [] p
  | .Return (some v) p=>V [v] [] p
  | .Expr v p=>V [v] [] p
  | .If u y z p=>V [u] (y++z) p
  | .For t v y _ p=>V [t,v] y p
  |_=>([],[])
noncomputable def vq:Stmt->Stmt
 | .If t _ e p=> .If t [] e p
 |s=>s
noncomputable def JY:=(CT Cd "World" "number").get (by kernel_rfl)
def cK:List (List Pos×List Nat):=JY.2.1.map (Ja 3)
def Hc(i j:Nat):Pos:=(cK.getD i ([],[])).1.getD j default
def wH(i j:Nat):Nat:=(cK.getD i ([],[])).2.getD j 0
theorem wJ:CT Cd "World" "number"=some (JY.1,[
  .AugAssign (.Attribute (.Name "self" (Hc 0 0)) "last_number" (Hc 0 1)) .Add (.Constant (.int 1) (wH 0 0) (Hc 0 2)) (Hc 0 3),
  .Return (some (.Attribute (.Name "self" (Hc 1 0)) "last_number" (Hc 1 1))) (Hc 1 2)],JY.2.2):=by kernel_rfl
noncomputable def K8:=(CT Cd "World" "builtin").get (by kernel_rfl)
def Wp:List (List Pos×List Nat):=K8.2.1.map (Ja 3)
def DD(i j:Nat):Pos:=(Wp.getD i ([],[])).1.getD j default
def jF(i j:Nat):Nat:=(Wp.getD i ([],[])).2.getD j 0
theorem jG:CT Cd "World" "builtin"=some (K8.1,[
  .Assign [.Name "found" (DD 0 0)] (.Call (.Attribute (.Attribute (.Name "self" (DD 0 1)) "made" (DD 0 2)) "get" (DD 0 3)) [.Name "name" (DD 0 4)] [] (DD 0 5)) (DD 0 6),
  .Return (some (.IfExp (.Compare (.Name "found" (DD 1 0)) [.Is] [.Constant .none (jF 1 0) (DD 1 1)] (DD 1 2)) (.Call (.Attribute (.Name "self" (DD 1 3)) "make_builtin" (DD 1 4)) [.Name "name" (DD 1 5)] [] (DD 1 6)) (.Name "found" (DD 1 7)) (DD 1 8))) (DD 1 9)],K8.2.2):=by kernel_rfl
noncomputable def IP:=(CT Cd "World" "make_builtin").get (by kernel_rfl)
def vE:Stmt->Scope
 | .Assign _ (.ListComp _ _ o _) _=>o
 |_=>IP.2.2
def bQ:List (List Pos×List Nat):=IP.2.1.map (Ja 3)
def AW(i j:Nat):Pos:=(bQ.getD i ([],[])).1.getD j default
def Kr(i j:Nat):Nat:=(bQ.getD i ([],[])).2.getD j 0
def bR:Scope:=(IP.2.1[7]?.map vE).getD IP.2.2
theorem vF:CT Cd "World" "make_builtin"=some (IP.1,[
  .Assign [.Name "is_class" (AW 0 0)] (.Compare (.Name "name" (AW 0 1)) [.NotIn] [.Name "MODULES" (AW 0 2)] (AW 0 3)) (AW 0 4),
  .Assign [.Name "found" (AW 1 0)] (.Call (.Name "ModuleThing" (AW 1 1)) [.Call (.Attribute (.Name "self" (AW 1 2)) "number" (AW 1 3)) [] [] (AW 1 4),.Constant .none (Kr 1 0) (AW 1 5),.Name "name" (AW 1 6),.Name "is_class" (AW 1 7)] [] (AW 1 8)) (AW 1 9),
  .Assign [.Subscript (.Attribute (.Name "self" (AW 2 0)) "made" (AW 2 1)) (.Name "name" (AW 2 2)) (AW 2 3)] (.Name "found" (AW 2 4)) (AW 2 5),
  .Assign [.Attribute (.Name "found" (AW 3 0)) "native" (AW 3 1)] (.Name "name" (AW 3 2)) (AW 3 3),
  .Assign [.Name "parent" (AW 4 0)] (.Subscript (.Name "BUILTINS" (AW 4 1)) (.Name "name" (AW 4 2)) (AW 4 3)) (AW 4 4),
  .Assign [.Attribute (.Name "found" (AW 5 0)) "parent" (AW 5 1)] (.IfExp (.Compare (.Name "parent" (AW 5 2)) [.Is] [.Constant .none (Kr 5 0) (AW 5 3)] (AW 5 4)) (.Constant .none (Kr 5 1) (AW 5 5)) (.Call (.Attribute (.Name "self" (AW 5 6)) "builtin" (AW 5 7)) [.Name "parent" (AW 5 8)] [] (AW 5 9)) (AW 5 10)) (AW 5 11),
  .Assign [.Attribute (.Name "found" (AW 6 0)) "owner" (AW 6 1)] (.Call (.Attribute (.Name "self" (AW 6 2)) "builtin" (AW 6 3)) [.IfExp (.Name "is_class" (AW 6 4)) (.Constant (.str "Class") (Kr 6 0) (AW 6 5)) (.Constant (.str "Module") (Kr 6 1) (AW 6 6)) (AW 6 7)] [] (AW 6 8)) (AW 6 9),
  .Assign [.Attribute (.Name "found" (AW 7 0)) "mixed" (AW 7 1)] (.ListComp (.Call (.Attribute (.Name "self" (AW 7 2)) "builtin" (AW 7 3)) [.Name "other" (AW 7 4)] [] (AW 7 5)) [⟨.Name "other" (AW 7 6),.Call (.Attribute (.Name "MIXED" (AW 7 7)) "get" (AW 7 8)) [.Name "name" (AW 7 9),.Tuple [] (Kr 7 0) (AW 7 10)] [] (AW 7 11),[],0⟩] bR (AW 7 12)) (AW 7 13),
  .If (.Attribute (.Name "self" (AW 8 0)) "is_ready" (AW 8 1)) [.Expr (.Call (.Attribute (.Name "self" (AW 8 2)) "give_own" (AW 8 3)) [.Name "name" (AW 8 4)] [] (AW 8 5)) (AW 8 6)] [] (AW 8 7),
  .Return (some (.Name "found" (AW 9 0))) (AW 9 1)],IP.2.2):=by kernel_rfl
noncomputable def I9:=(CT Cd "World" "give_own").get (by kernel_rfl)
noncomputable def oR:Stmt->List Stmt
 | .If _ o _ _=>o
 |_=>[]
def Yx:List (List Pos×List Nat):=(I9.2.1.map vq).map (Ja 3)
def Dp(i j:Nat):Pos:=(Yx.getD i ([],[])).1.getD j default
def Yy(i j:Nat):Nat:=(Yx.getD i ([],[])).2.getD j 0
def oP:List Stmt:=(I9.2.1[0]?.map oR).getD []
theorem oU:CT Cd "World" "give_own"=some (I9.1,[
  .If (.BoolOp .Or [.Compare (.BinOp (.Name "name" (Dp 0 0)) .Add (.Constant (.str ".") (Yy 0 0) (Dp 0 1)) (Dp 0 2)) [.In] [.Attribute (.Name "self" (Dp 0 3)) "natives" (Dp 0 4)] (Dp 0 5),.Compare (.BinOp (.Name "name" (Dp 0 6)) .Add (.Constant (.str ".") (Yy 0 1) (Dp 0 7)) (Dp 0 8)) [.In] [.Attribute (.Name "self" (Dp 0 9)) "prelude" (Dp 0 10)] (Dp 0 11)] (Dp 0 12)) oP [] (Dp 0 13)],I9.2.2):=by kernel_rfl
abbrev Gv:List Str:=DQ++(["name","is_class","parent","outer","methods","constants","mixed","ahead","attached","native","kept"]:List Str)
abbrev XD:Ju:=⟨260,250,Gv⟩
abbrev G1:Ju:=⟨800,560,["natives","prelude","read","most","taken","last_number","last_ident","symbol_idents","made","version","const_version","globals","out","is_ready","main"]⟩
structure MV(X:Addr->Prop)(d md:Addr)(h:Heap)(x:Str)(a da:Addr)(mM:Str->Option Value):Prop where
 na:¬X a
 nd:¬X da
 dd:da≠d
 dm:da≠md
 g:h.get? a=some (instObj 260 da)
 gd:BA h da mM 50
 fs:∀f∈Gv,∃v,mM f=some v/\handedIn v=true
 nm:∃t,mM "name"=some (.str x t)
def DV(X:Addr->Prop)(d Y:Addr)(h:Heap)(x:Str)(v:Value):Prop:=∃a b T,v= .ref a/\MV X d Y h x a b T
@[elab_as_elim]theorem s7{Q:Value->Prop}(V:DV X d Y h x v)(k:∀a b T,MV X d Y h x a b T->Q (.ref a)):Q v:=by obtain⟨a,b,T,rfl,V⟩:=V;exact k a b T V
def Kp(X:Addr->Prop)(h a:Heap):Prop:=∀b o,¬X b->h.get? b=some o->a.get? b=some o
theorem Kp.trans(x:Kp X h a)(y:Kp X a i):Kp X h i:=λb o d e=>y b o d (x b o d e)
theorem Kp.of(x:AS h h'):Kp X h h':=λb o a e=>x b o e
theorem Kp.but(x:Heap.SameBut D h h')(a:X D):Kp X h h':=λb o d e=>(x.2 b λq=>d (q▸ a)).trans e
abbrev Bz(d Y:Addr):Addr->Prop:=λb=>b=d\/b=Y
noncomputable def wN(b:Bool):Nat:=cond b 60 50
theorem fY:wN b<1000:=by cases b<;>decide
structure WD(X:Addr->Prop)(d md:Addr)(b:Bool)(h:Heap)(mW:Str->Option Value)(na pr:Addr):Prop where
 ns:BA h d mW (wN b)
 has:∀f∈G1.fs,f≠("main")->∃v,mW f=some v
 NC:∀f,f∉G1.fs->mW f=none
 num:∃j t,mW "last_number"=some (.int j t)
 JS:mW "made"=some (.ref md)
 NP:mW "is_ready"=some (.bool b)
 nat:mW "natives"=some (.ref na)
 pre:mW "prelude"=some (.ref pr)
 nd:na≠d
 nm:na≠md
 pd:pr≠d
 pm:pr≠md
 x:¬X na/\¬X pr
 s:(na==sysModules)=false/\(pr==sysModules)=false
 gn:h.get? na=some (dictOf [] 0)
 gp:h.get? pr=some (dictOf [] 0)
structure WR(c:Cx)(X:Addr->Prop)(w d md:Addr)(b:Bool)(S:List Str)(h:Heap):Prop where
 gw:h.get? w=some (instObj 800 d)
 gd:∃mW na pr,WD X d md b h mW na pr
 gm:∃CS,h.DictOf (strKind c.prog c.w) md CS/\(∀kv∈CS,kv.1∈ET.map (·.1)/\DV X d md h kv.1 kv.2)/\∀y∈S,y∈CS.map (·.1)
 ne:d≠md
 bd:c.base.get? d=none
 bm:c.base.get? md=none
 sy:(md==sysModules)=false
theorem Si{h:Heap}{j:List (Str×Value)}(D:h.DictOf k a j):∃o b f,h.get? a=some o/\o.data= .dict b f:=R4 D λo b f e _ E _=>(DS o b f e E)
theorem WR.ME(W:WR c X w d md b S h):∃o a f,h.get? d=some o/\o.data= .dict a f:=Ay W.gd λ_ _ _ D=>D.ns.dict
theorem WR.N6(W:WR c X w d md b S h):∃o a f,h.get? md=some o/\o.data= .dict a f:=AJ W.gm λ_ D _=>Si D
theorem WR.od(W:WR c X w d md b S h):∃o,h.get? d=some o:=Ay W.gd λ_ _ _ D=>D.ns.there
theorem WR.dd{a:Addr}{o:Obj}(W:WR c X w d md b S h)(q:Bz d md a)(e:h.get? a=some o):∃i f,o.data= .dict i f:=by
 rcases q with rfl|rfl
 ·exact Aj W.ME λ_ x y g r=>(BM x y (Xcl (g.symm.trans e)▸ r))
 ·exact Aj W.N6 λ_ x y g r=>(BM x y (Xcl (g.symm.trans e)▸ r))
theorem WR.om(W:WR c X w d md b S h):∃o,h.get? md=some o:=Aj W.N6 λo _ _ e _=>⟨o,e⟩
theorem WR.wd(W:WR c X w d md b S h):w≠d:=Ay W.gd λ_ _ _ D=>QB D.ns.ns W.gw
theorem DV.kp(u:∃o i f,h.get? d=some o/\o.data= .dict i f)(n:∃o i f,h.get? md=some o/\o.data= .dict i f)(k:Kp (Bz d md) h h')(q:DV X d md h x v):DV X d md h' x v:=by
 refine AB λp=>Aj q λa j r q V=>?_;haveI l:∀b,(∃o i f,h.get? b=some o/\o.data= .dict i f)->a≠b:=λb⟨o,i,f,e,m⟩q=>by rw[<-q,V.g]at e;obtain rfl:=sS e;cases m
 exact p (DS a j r q ({V with g:=k a _ (λq=>q.elim (l d u) (l md n)) V.g,gd:=V.gd.at λo e=>k j o (λq=>q.elim V.dd V.dm) e}))
theorem DV.tr(k:∀a o,¬X a->h.get? a=some o->h'.get? a=some o/\¬Y a)(q:DV X d md h x v):DV Y d md h' x v:=AB λf=>Aj q λa b i q V=>AK V.gd.there λo e=>f (DS a b i q ({V with na:=(k _ _ V.na V.g).2,nd:=(k _ _ V.nd e).2,g:=(k _ _ V.na V.g).1,gd:=V.gd.at λo e=>(k _ _ V.nd e).1}))
theorem WR.tr(W:WR c X w d md b S h)(r:∀o,h.get? w=some o->h'.get? w=some o)(kd:∀o,h.get? d=some o->h'.get? d=some o)(km:∀o,h.get? md=some o->h'.get? md=some o)
  (k:∀a o,¬X a->h.get? a=some o->h'.get? a=some o/\¬Y a) (l:∀y∈T,y∈S):WR c Y w d md b T h':=by
 refine AB λq=>Ay W.gd λs t u D=>Bh W.gm λj i e z=>?_;haveI n:=k _ _ D.x.1 D.gn;haveI p:=k _ _ D.x.2 D.gp;exact q ⟨r _ W.gw,(Cf s t u ({D with ns:=D.ns.at kd,x:=⟨n.2,p.2⟩,gn:=n.1,gp:=p.1})),(BS j (i.at km) (λg f=>⟨(e g f).1,(e g f).2.tr k⟩) λy m=>z y (l y m)),W.ne,W.bd,W.bm,W.sy⟩
theorem WR.kp(W:WR c X w d md b S h)(k:AS h h'):WR c X w d md b S h':=
 W.tr (k _) (k _) (k _) (λa o n e=>⟨k _ _ e,n⟩) λf q=>q
theorem WR.off{X Z:Addr->Prop}(W:WR c X w d md b S h)(f:∀a,Z a->X a)(hw:¬Z w)(u:¬Z d)(g:¬Z md)(k:∀b o,¬Z b->h.get? b=some o->h'.get? b=some o):WR c X w d md b S h':=
 W.tr (λo e=>k _ _ hw e) (λo e=>k _ _ u e) (λo e=>k _ _ g e) (λa o n e=>⟨k _ _ (λz=>n (f _ z)) e,n⟩) λi q=>q
theorem WR.base(W:WR c X w d md b S h)(st:AS c.base h)(k:Kp (Bz d md) h h'):AS c.base h':=λa o e=>k a o (λq=>by
 rcases q with q|q
 ·exact nH q W.bd e
 ·exact nH q W.bm e) (st a o e)
theorem WR.dw(W:WR c X w d md b S h)(a:Heap.SameBut d h h')(D:WD X d md b' h' mW na pr):WR c X w d md b' S h':=AB λk=>Bh W.gm λj i e z=>k ⟨(a.2 _ W.wd).trans W.gw,(Cf _ _ _ D),(BS j (i.sameBut a (Ne.symm W.ne)) (λg f=>⟨(e g f).1,(e g f).2.kp W.ME W.N6 (.but a (.inl rfl))⟩) z),W.ne,W.bd,W.bm,W.sy⟩
theorem WR.fresh(W:WR c X w d md b S h)(l:h.get? L=none):L≠d/\L≠md/\L≠w:=
 haveI k:∀{a},(∃o,h.get? a=some o)->L≠a:=λ⟨o,e⟩q=>by replace l:=e▸ q▸ l;exact sN l
 (AX (k W.od) (k W.om) (k ⟨_,W.gw⟩))
theorem tw{h:Heap}:h.get? h.objs.size=none:=Bg
section
variable {c:Cx}(C:c.Ok)(G:FG c)
include C G
theorem Uu(hA:A.depth<990)(st:AS c.base s.heap)(W:WR c X w d Y b S s.heap)
  (k:∀J tk i t,Kp (Bz d Y) s.heap J->WR c X w d Y b S J->Q (.int i t) {s with heap:=J,toks:=tk}):wpAny (Mo c) A (call (.ref 581) [.ref w]) Q E s:=by
 refine AB λM=>Aj (G.fn ⟨581,"World","number",none⟩ (Ai 43)) λps body sc z L=>?_;haveI Z:=G.cls G1 (Ai 7);cases z.symm.trans wJ;refine M ?_;haveI hh:Eo JY.1 JY.2.2 ["self"]=true:=by kernel_rfl
 haveI h1:BQ "self" (.Name "self" (Hc 0 0))=true:=by kernel_rfl
 haveI h2:BQ "self" (.Name "self" (Hc 1 0))=true:=by kernel_rfl
 ·refine Bf (F1 hh) λr _ _=>?_;haveI hs:=r.loc "self" (.head _);refine KK C st L (lin [A.depth] 14979872500034685062344833 rfl hA) (binds:=(["self"]:List Str).zip [.ref w]) r (Fy hh (.inl (AX rfl rfl rfl))) λy h E' B a=>?_;haveI V:ER (DX JY.2.2 s.heap.objs.size (Dk.qual ⟨581,"World","number",none⟩) 581 y) JY.2.2 s.heap.objs.size:=G5 r;refine AB λM=>?_;have g:=W.kp a;refine Ay g.gd λmW na pr D=>B8 D.num λj t e3=>M ?_;haveI fd:=(W.fresh tw).1;haveI T:=st.trans a;refine Xct (PySem.wpAny_AugAssign_AttributeAny (DF V h1 hs B rfl (PF C (s:={s with heap:=h,toks:=s.toks+1}) T Z g.gw D.ns.ns (by first|decide|simp) e3 rfl (Xgf (PySem.wpAny_iadd_int (NY C (s:={s with heap:=h,toks:=s.toks+1+1+1+1}) T Z g.gw D.ns fY (by first|decide|simp) λl U u O=>?_))))));rw[e3]at u;haveI n:∀b o,b≠d->h.get? b=some o->l.get? b=some o:=λb o nb e=>(O.2 b nb).trans e;haveI p:Kp (Bz d Y) h l:= .but O (.inl rfl);haveI m:=g.dw O {D with ns:=u,has:=λf H hn=>?_,NC:=λf H=>(BO (by rintro rfl;exact H (by first|decide|simp))).trans (D.NC f H),num:=(BM _ _ Cn),JS:=(BO (by decide)).trans D.JS,NP:=(BO (by decide)).trans D.NP,nat:=(BO (by decide)).trans D.nat,pre:=(BO (by decide)).trans D.pre,gn:=n _ _ D.nd D.gn,gp:=n _ _ D.pd D.gp}
  ·haveI x:=B.sameBut O fd;haveI N:=WR.base (W.kp a) T p;refine Xct (Xfs (Xe8 (DF V h2 hs x rfl ?_) (rL (Xeg ..) (rL (HM (Ur h2) ..) rfl))));exact PF C N Z m.gw u.ns (by first|decide|simp) Cn rfl (k l _ _ _ ((Kp.of a).trans p) m)
  ·by_cases q:f="last_number"
   ·exact(AN _ (rL q Cn))
   ·exact AK (D.has f H hn) λv hv=>(AN v ((BO q).trans hv))
end
theorem uU(u:o.data= .dict a f)(L:StrKeys a)(h:nsFind a x=none):lookIn x o=some none:=by
 unfold lookIn;refine rL u ?_;unfold nsFind findBy at h;have b:a.toList.any (·.refKey)=false:=by rw[List.any_eq_false];intro e Y;refine AB λJ=>B8 (L e (by simpa using Y)) λn t q=>J ?_;simp[DictEntry.refKey,q]
 dsimp only;cases Y:a.toList.find? (·.key.isStr x)with
 |none=>refine rL b ?_;rfl
 |some e=>rw[Xhj]at Y;simp_all
structure WS(K:Frag)(nm:Str)(f:Addr):Prop where
 fd:findIn K (.ref 800) nm=some (some (.ref f))
 fn:isFn K (.ref f)=true
 kp:keepIn K (.ref f)=true
theorem ux{K:Frag}(h:SO K m=true):WS K m.1 m.2:=by simp only[SO,Xd5,Xej]at h;exact⟨h.1.1,h.1.2,h.2⟩
structure Co(c:Cx):Prop extends FG c where
 me:∀m∈meths,WS c.K m.1 m.2
 pg:findIn c.K (.ref 800) "__getattr__"=some none
 gv:∀x∈KV,nsIn c.K mainGlobals x.1=some (some x.2)
 dB:c.base.DictOf (strKind c.prog c.w) 534 ET
 dM:c.base.DictOf (strKind c.prog c.w) 537 IM
section
variable {c:Cx}(C:c.Ok)(G:Co c){A:Around}{E:Value->Shared->Prop}{X:Addr->Prop}{s:Shared}(st:AS c.base s.heap)
include C G st
theorem TA(W:WR c X w d Y b S s.heap)(e:(nm,f)∈meths)(h:Q (.ref f,[.ref w]) s):wpAny (Mo c) A (getMethod (.ref w) nm m) Q E s:=by refine AB λJ=>Ay W.gd λk _ _ D=>Ay D.ns λo j i a=>?_;obtain⟨g,u,L,t,_⟩:=a;refine J ?_;have I:_root_.PySem.W.InstAt s.heap w (instObj 800 d) 800 (some o):=⟨W.gw,rfl,rfl,g⟩;have Z:=G.cls G1 (Ai 7);have M:=G.me _ e;have l:nm∉G1.fs:=λq=>fT ((Aq (Xce.mp (by kernel_rfl:(meths.all λq=> !(G1.fs.contains q.1))=true) _ e)).symm.trans (Xcw.mpr q));exact method_fn (C.BE.keeps st) I Z.ga G.pg M.fd (Xej.mp M.fn) (by show(lookIn nm o).map _=_;refine rL (uU u L ((t nm).trans (D.NC nm l))) ?_;rfl) h
theorem JU(W:WR c X w d Y b S s.heap)(D:(nm,f)∈meths)(j:Hv o=true)(g:Be (y::ys)=true)(i:(y::ys).length<29)(m:(r.endLine==pos.line)=true)
  (N:∀{Q:Value->Shared->Prop},Q (.ref w) s->wpAny (Mo c) A (eval o env) Q E s)
  (h:wpAny (Mo c) A (spliced (backTo pos (starEach (y::ys) env))) (λvs a=>AS c.base a.heap/\wpAny (Mo c) A (call (.ref f) (.ref w::vs)) Q E a) E s):wpAny (Mo c) A (eval (.Call (.Attribute o nm r) (y::ys) [] pos) env) Q E s:=by refine Xe5 (N (TA C G st W D ?_)) (N7 j g i m);have e:Av y=false/\Be ys=true:=⟨Aq (al g),ar g⟩;exact Xhk (C.BE.keeps st) (G.me _ D).kp (Xcv h (λvs a q=>⟨C.BE.keeps q.1,q.2⟩) λU U x=>x) (Bn e.1) (H9 e.2)
theorem bP(W:WR c X w d Y b S s.heap)(D:(nm,f)∈meths)(a:Hv o=true)(m:(r.endLine==pos.line)=true)
  (N:∀{Q:Value->Shared->Prop},Q (.ref w) s->wpAny (Mo c) A (eval o env) Q E s) (h:wpAny (Mo c) A (call (.ref f) [.ref w]) Q E s):wpAny (Mo c) A (eval (.Call (.Attribute o nm r) [] [] pos) env) Q E s:=
 Xe5 (N (TA C G st W D (callWith_K0 (C.BE.keeps st) (G.me _ D).kp h))) (N7 a rfl (by simp) m)
end
section
variable {c:Cx}{A:Around}{E:Value->Shared->Prop}{s:Shared}
theorem XT(D:s.heap.DictOf (strKind c.prog c.w) a j)(h:Q (.builtin "dict.get",[.ref a]) s):wpAny (Mo c) A (getMethod (.ref a) "get" m) Q E s:=
 getMethod_builtin D.typeIs PySem.F.plainAttrs_dict Xgs PySem.F.type_dict_get D.mapOf.noDict h
theorem kR(D:s.heap.DictOf (strKind c.prog c.w) a j)(l:(a==sysModules)=false)(h:Q ((valueAt j x).getD .none) {s with toks:=s.toks+1}):wpAny (Mo c) A (call (.builtin "dict.get") [.ref a,.str x t]) Q E s:=
 call_meetsIn Xgs D.typeIs PySem.F.entry_dict_get (PySem.F.args_dict_get_2 _ _) (meets_dict_get (strKind c.prog c.w) a (Xgd c.prog c.w x t) l) (AG _ D.mapOf h)
theorem kT(D:s.heap.DictOf (strKind c.prog c.w) a j)(l:(a==sysModules)=false){d:Value}(h:Q ((valueAt j x).getD d) {s with toks:=s.toks+1}):wpAny (Mo c) A (call (.builtin "dict.get") [.ref a,.str x t,d]) Q E s:=
 call_meetsIn Xgs D.typeIs PySem.F.entry_dict_get (PySem.F.args_dict_get_3 _ _ _) (meets_dict_get_default (strKind c.prog c.w) a (Xgd c.prog c.w x t) l d) (AG _ D.mapOf h)
end
theorem Xaj{x:Str}(h:valueAt j x=some v):(x,v)∈j:=by
 unfold valueAt at h;refine AB λJ=>AJ (Xgi.mp h) λp a e=>J (rR e ?_);have Y:=Xf8 a;have T:=Xid a;have:p.1=x:=by simpa using T
 exact this▸ Y
theorem Xak{x:Str}(h:valueAt j x=none):x∉j.map (·.1):=by unfold valueAt at h;rw[Option.map_eq_none_iff,List.find?_eq_none]at h;intro D;refine AB λJ=>AJ (Xdc.mp D) λp a u=>?_;obtain rfl:=u;exact J (h p a (by simp))
def BC(c:Cx)(n:Nat)(S:List Str)(x:Str):Prop:=
 ∀A E X s w d Y b t z Q,(∀y∈S,y∈z)->(∀a,X a->∃o,s.heap.get? a=some o)->A.handled=none->A.depth+6*n+20<1000->A.units+30*n+100<9990->AS c.base s.heap->WR c X w d Y b z s.heap->
  (∀e f v,Kp (Bz d Y) s.heap e->WR c X w d Y b (x::z) e->DV X d Y e x v->Q v {s with heap:=e,toks:=f})->wpAny (Mo c) A (call (.ref 602) [.ref w,.str x t]) Q E s
theorem WR.wk(W:WR c X w d md b S h)(p:∀a,Y a->X a)(g:∀y∈T,y∈S):WR c Y w d md b T h:=
 W.tr (λf=>id) (λf=>id) (λf=>id) (λa o n e=>⟨e,λz=>n (p _ z)⟩) g
theorem WR.more{X Z:Addr->Prop}(W:WR c X w d md b S h)(g:∀a,Z a->h.get? a=none):WR c (λa=>X a\/Z a) w d md b S h:=
 W.tr (λf=>id) (λf=>id) (λf=>id) (λa o n e=>⟨e,λz=>z.elim n λz=>nG (g _ z) e⟩) λf q=>q
def XH(scope:Scope)(nm:Str):Bool:=
 (match scope.kind with| .function=>true|_=>false)&&decide ((scope.names.map (·.1)).Nodup)&&scope.names.all (λp=>p.2 != .cell&&(p.2 != .free||p.1=="self"))&&scope.names.lookup nm==some .local&&scope.names.lookup ("self":Str)==some .free&& !(I0 nm)&&nm !=("self")
structure WJ(scope:Scope)(nm:Str):Prop where
 kind:scope.kind= .function
 nd:(scope.names.map (·.1)).Nodup
 cell:∀p∈scope.names,p.2≠.cell
 free:∀p∈scope.names,p.2= .free->p.1="self"
 nl:scope.names.lookup nm=some .local
 sf:scope.names.lookup ("self":Str)=some .free
 dn:I0 nm=false
 ne:nm≠("self")
theorem kH(h:XH scope nm=true):WJ scope nm:=by
 haveI g:=al (al (al (al h)));haveI H:=Xce.mp (ar g);haveI Y:=al (al g);refine⟨?_,Xcj (ar (al g)),λp a=>Xez.mp (al (H p a)),λp a e=>(Xhb.mp (ar (H p a))).elim (λq=>absurd e (Xez.mp q)) eq_of_beq,eq_of_beq (ar (al (al (al h)))),eq_of_beq (ar (al (al h))),Aq (ar (al h)),Xez.mp (ar h)⟩;cases e:scope.kind<;>rw[e]at Y<;>first|rfl|exact fT Y
inductive CK(c:Cx)(X:Addr->Prop)(w d md:Addr)(b:Bool)(S:List Str)(B0:Shared)(D acc I cA:Addr)(Cv:Nat)(St:Nat->Heap->Prop)(m:Nat)(s:Shared)(i:Nat)(ys:List Value)(n:Nat)(mD:Str->Option Value):Prop
 |mk (sm:B4 B0 s)(m:m=Cv - i)(l:i<=Cv)(kp:Kp (λa=>Bz d md a\/a=D\/a=acc\/a=I) B0.heap s.heap)(W:WR c (λa=>X a\/(a=D\/a=acc\/a=I)) w d md b S s.heap)(st:St i s.heap)(g:s.heap.get? acc=some (listOf (List.toArray ys) n))(y:ys.length=i)(ns:s.heap.Ns D mD)
def CI(c:Cx)(X:Addr->Prop)(w d Y:Addr)(b:Bool)(S:List Str)(z:Shared)(D acc I j:Addr)(a:Nat)(St:Nat->Heap->Prop)(m:Nat)(s:Shared):Prop:=∃i Q n M,CK c X w d Y b S z D acc I j a St m s i Q n M
section
variable {c:Cx}(C:c.Ok)(G:Co c)
include C G
theorem kK(hh:A.handled=none)(ek:env.scope.kind= .function)(eg:env.globals=mainGlobals)(eb:env.builtins=builtinsNs)(es:env.kindOf "self"=some .cell)(ec:env.cells.lookup ("self":Str)=some cA)(u:WJ scope nm){xs:List Str}
  (ho:BQ "self" o=true) (ha:BQ nm a=true) (Mi:(ap.endLine==cp.line)=true) (J:H4 iter=true) (EI:xs.length<=1000) (B:∀x∈xs,BC c n S x) (hA:A.depth+6*n+20<1000) (hU:A.units+30*n+100<9990) {s:Shared} (st:AS c.base s.heap) {w d Y:Addr} (hS:∀y∈S,y∈S') (hX:∀a,X a->∃o,s.heap.get? a=some o) (W:WR c X w d Y b S' s.heap) (gc:s.heap.IsCell cA (some (.ref w)))
  (hit:∀{Q:Value->Shared->Prop},(∀ax vs O tk,AS s.heap O->O.IsTuple ax (List.toArray vs)->vs.length=xs.length->(∀(i:Nat)x,xs[i]? =some x->∃t,vs[i]? =some (Value.str x t))->Q (.ref ax) {s with heap:=O,toks:=tk})->wpAny (Mo c) A (eval iter env) Q E s)
  (k:∀acc O tk,Kp (Bz d Y) s.heap O->WR c X w d Y b S' O->Q (.ref acc) {s with heap:=O,toks:=tk}):
  wpAny (Mo c) A (eval (.ListComp (.Call (.Attribute o "builtin" ap) [a] [] cp) [⟨.Name nm px,iter,[],0⟩] scope pos) env) Q E s:=by
 obtain⟨cl,JE,TQ⟩:=XE λp hp hf=>rL (u.free p hp hf) (AN cA ec);rw[eval_ListComp];refine Xga rfl (MS J) JE u.kind (λx hx e=>rL (Gu u.nd hx) (rL e rfl)) (hit λax vs g Vv j ht hlen Pc=>?_);refine wpAny_pyIter_tuple ht (Xhu (Xfw u.cell (by intro y hy;simp at hy) (λCt J U=>?_) u.kind));dsimp only at J U ⊢;generalize hI:g.objs.size=I at J U ⊢;generalize TL:g.push {cls:= .type "tuple_iterator",data:= .fields #[.ref ax,.int 0 0]}=H1 at J U ⊢;have z1:H1.objs.size=I+1:=by rw[<-TL,Xd0,hI]
 haveI gI:H1.get? I=some {cls:= .type "tuple_iterator",data:= .fields #[.ref ax,.int 0 0]}:=rR TL (rR hI (Xcn _ rfl));haveI Jl:=TL▸ AS.push _;generalize Z8:H1.objs.size=acc at z1 J U ⊢;generalize JD:H1.push {cls:= .type "list",dict:=none,data:= .seq ([]).toArray}=H2 at J U ⊢;have z2:H2.objs.size=acc+1:=by rw[<-JD,Xd0,Z8]
 haveI ga:H2.get? acc=some (listOf #[] 0):=rR JD (rR Z8 (Xcn _ rfl));have Vj:=JD▸ AS.push _;generalize hD:H2.objs.size=D at z2 J U ⊢;have fI:g.get? I=none:=hI▸ Bg;have H:g.get? acc=none:=H0 (rL z1 (rL hI (Xd9 _)));have fD:H2.get? D=none:=hD▸ Bg;have KQ:g.get? D=none:=Dn (λo e=>Vj _ _ (Jl _ _ e)) fD;have Ia:I≠acc:=z1▸ Xdb (Xe6 _);have aD:acc≠D:=rL z2 (Xdb (Xe6 _));have ID:I≠D:=rL z2 (rL z1 (Xdb (lin [I] 0x1de71f8fa03f081 rfl)));have old:=λb o e=>U.extBut b o (λq=>nH q fD e) (Xcf _ e);have Rg:AS g Ct:=λb o e=>old b o (Vj _ _ (Jl _ _ e));haveI Ew:=((W.kp j).more (Z:=λa=>a=D\/a=acc\/a=I) (by rintro a (q|q|q)<;>refine rL q ?_<;>assumption)).kp Rg;haveI Iy:=st.trans j;let St:Nat->Heap->Prop:=λi h=>h.IsTupleIter I ax i/\h.IsTuple ax vs.toArray;haveI S1:ax≠I:=λq=>AJ ht λo e _=>nH q fI e;have wk:Walks c.prog c.w A I [I,ax] [I] xs.length (λi v=>vs.toArray[i]? =some v) St:=by haveI:=Walks.tuple (prog:=c.prog) (w:=c.w) hh I ax S1 vs.toArray;rwa [show vs.toArray.size=xs.length from by exact rL Xcx (rL hlen rfl)]at this
 haveI Jh:St 0 Ct:=(AH ⟨_,old _ _ (Vj _ _ gI),rfl,rfl⟩ (AJ ht λo e r=>⟨o,Rg _ _ e,r⟩));have fin:∀O tk,Kp (λa=>Bz d Y a\/a=D\/a=acc\/a=I) g O->WR c (λa=>X a\/(a=D\/a=acc\/a=I)) w d Y b S' O->Q (.ref acc) {s with heap:=O,toks:=tk}:=λO tk kp W'=>by
  refine k acc O tk (λa o N e=>kp a o (λq=>?_) (j _ _ e)) (W'.wk (λa q=> .inl q) λy q=>q);rcases q with q|q|q|q
  ·exact N q
  ·rw[q]at e;rw[j _ _ e]at KQ;exact sN KQ
  ·rw[q]at e;rw[j _ _ e]at H;exact sN H
  ·rw[q]at e;rw[j _ _ e]at fI;exact sN fI
 haveI fr:=λ{L:Addr}(q:g.get? L=none)=>(W.kp j).fresh q;have tn:∀{L:Addr},g.get? L=none->¬Bz d Y L:=λq z=>z.elim (fr q).1 (fr q).2.1;have Ym:∀h,Kp (λa=>Bz d Y a\/a=D\/a=acc\/a=I) g h->h.IsCell cA (some (.ref w)):=λh kp=>by
  refine AJ gc λoc e e'=>?_;have e1:=j _ _ e;refine(AG oc (kp cA oc (λq=>?_) e1) e');rcases q with q|q|q|q
  ·exact B8 (W.dd q e) λ_ _ r=>nomatch r.symm.trans e'
  ·exact nH q KQ e1
  ·exact nH q H e1
  ·exact nH q fI e1
 obtain⟨fd,fm,fw⟩:(∃o,g.get? d=some o)/\(∃o,g.get? Y=some o)/\∃o,g.get? w=some o:=AK W.od λod ed=>AK W.om λom em=>(AX ⟨_,j _ _ ed⟩ ⟨_,j _ _ em⟩ ⟨_,j _ _ W.gw⟩);have nZ:∀{b:Addr},(∃o,g.get? b=some o)->¬(b=D\/b=acc\/b=I):=λ{b}⟨o,e⟩q=>by
  rcases q with q|q|q
  ·exact nH q KQ e
  ·exact nH q H e
  ·exact nH q fI e
 have off:∀h O,Kp (λa=>Bz d Y a\/a=D\/a=acc\/a=I) g h->WR c (λa=>X a\/(a=D\/a=acc\/a=I)) w d Y b S' h->(∀b o,¬(b=D\/b=acc\/b=I)->h.get? b=some o->O.get? b=some o)->WR c (λa=>X a\/(a=D\/a=acc\/a=I)) w d Y b S' O:=
  λh O u0 W k=>W.off (λa q=> .inr q) (nZ fw) (nZ fd) (nZ fm) k
 have baseOf:∀h:Heap,Kp (λa=>Bz d Y a\/a=D\/a=acc\/a=I) g h->AS c.base h:=λh kp b o e=>kp b o (λq=>by
  rcases q with(q|q)|q
  ·exact nH q W.bd e
  ·exact nH q W.bm e
  ·exact nZ ⟨o,Iy _ _ e⟩ q) (Iy _ _ e)
 have ir:¬Bz d Y ax:=λq=>Bh ht λo e _ Ap=>AK Ap λn e'=>B8 ((W.kp j).dd q e) λ_ _ r=>nomatch r.symm.trans e';haveI cek:=u.kind;haveI start:CI c X w d Y b S' {s with heap:=g} D acc I cA xs.length St (xs.length - 0) {s with heap:=Ct,toks:=Vv}:=
  (DA 0 [] 0 _ ⟨⟨rfl,rfl,rfl⟩,rfl,Xdd _,.of Rg,Ew,Jh,old _ _ ga,rfl,J⟩)
 haveI loop:codeAny (Mo c) A (.compLoop (.ListComp (.Call (.Attribute o "builtin" ap) [a] [] cp) [⟨.Name nm px,iter,[],0⟩] scope pos) 0 (.ref I) (.ref acc) (compEnvC scope cl D env)) (compPost (Mo c) A E none Q (.ref acc) D) {s with heap:=Ct,toks:=Vv}:=by
  refine kcp_loop (CI c X w d Y b S' {s with heap:=g} D acc I cA xs.length St) (λm s' hC=>Gh λi7 gK Ma=>AB λkk=>Dw hC λi ys n' mD Ap=>?_) _ start;obtain⟨sm,rfl,hi,kp,W',Gj,Yl,Ke,ZQ⟩:=Ap;rcases Xfm hi with DK|rfl
  ·refine kk (wk.item i s' _ _ DK Gj λv T M hv PY IK=>Ma _ _ (AB λkk=>AK (Pc i xs[i] (by first|decide|simp[DK])) λt rh=>?_));obtain rfl:v= .str xs[i] t:=by rw[Xgq,rh]at hv;exact(Xcl hv).symm
   refine kk (Xcp ?_);have e4:∀b o,b≠I->s'.heap.get? b=some o->T.get? b=some o:=λb o N e=>IK b o (λq=>N (Xcc.mp q)) e;haveI w7:=F7 ZQ λo e=>e4 D o (Ne.symm ID) e;haveI VD:ER (compEnvC scope cl D env) (relabel scope env) D:=⟨u.kind,eg,eb,rfl,λu0=>rfl⟩;haveI W4:=off s'.heap T kp W' λb o N e=>e4 b o (λq=>N (.inr (.inr q))) e;have ag:Kp (λa=>Bz d Y a\/a=D\/a=acc\/a=I) g T:=λb o N e=>e4 b o (λq=>N (.inr (.inr (.inr q)))) (kp b o N e);refine Xek (L7 VD (lookup_relabel_local u.nl) w7 λl JX V=>?_);have W5:=off T l ag W4 λb o N e=>(V.2 b λq=>N (.inl q)).trans e;have Mw:Kp (λa=>Bz d Y a\/a=D\/a=acc\/a=I) g l:=λb o N e=>(V.2 b λq=>N (.inr (.inl q))).trans (ag b o N e);have e5:∀b o,b≠I->b≠D->s'.heap.get? b=some o->l.get? b=some o:=λb o n1 n2 e=>(V.2 b n2).trans (e4 b o n1 e);haveI b5:=baseOf l Mw;haveI iV:∀a,(X a\/(a=D\/a=acc\/a=I))->∃o,l.get? a=some o:=λa q=>by
    haveI xd:∀a,X a->¬(a=D\/a=acc\/a=I):=λa q=>nZ (let⟨o,e⟩:=hX a q;(AN o (j _ _ e)));rcases q with q|q|q|q
    ·refine AK (hX a q) λo e=>?_;by_cases z:Bz d Y a
     ·rcases z with z|z
      ·exact rL z W5.od
      ·exact rL z W5.om
     ·exact(AN o (Mw a o (λy=>y.elim z (xd a q)) (j _ _ e)))
    ·exact rL q (Aj JX λo _ _ e _=>(AN o e))
    ·exact rL q (AN _ (e5 _ _ (Ne.symm Ia) aD Yl))
    ·refine rL q ?_;obtain⟨⟨o,e,_⟩,_⟩:=PY;exact(AN o ((V.2 I ID).trans e))
   haveI Ng:St (i+1) l:=wk.frame _ _ _ PY λb hb o e=>(V.2 b λq=>?_).trans e
   ·refine JU C G (s:={s' with heap:=l,toks:=M+1}) b5 W5 (f:=602) (by first|decide|simp[meths]) (Ur ho) (by first|decide|simp[Be,EL ha]) (Xch rfl) Mi (λ{Q'}hq=>?_) (Xc5 (DF VD ha (lookup_relabel_local u.nl) JX Cn (args_nil (AH b5 ?_))) (Bn (EL ha)))
    ·refine Mn ho λp hd=>AB λkk=>?_;obtain⟨k',r1,r2,r3⟩:=Q3 u.sf;refine kk ?_;haveI hc:(compEnvC scope cl D env).cells.lookup ("self":Str)=some cA:=(TQ _ (E9 u.sf) rfl).trans ec;refine Xia ?_ hd;rcases r3 rfl with e|e
     ·exact wpAny_loadName_free u.kind (e▸ r1) hc (Ym l Mw) hq (by decide)
     ·exact Xg7 u.kind (e▸ r1) hc (Ym l Mw) hq
    ·refine B xs[i] (Xd6 DK) A _ _ {s' with heap:=l,toks:=M+1} w d Y b t S' _ hS (λa q=>iV a q) hh hA hU b5 W5 λMl f5 Qz tP W6 mv=>?_;haveI keep:∀b o,l.get? b=some o->¬Bz d Y b->Ml.get? b=some o:=λb o e N=>tP b o N e;haveI o5:Ml.get? acc=some (listOf (List.toArray ys) n'):=keep _ _ (e5 _ _ (Ne.symm Ia) aD Yl) (tn H);refine append_at o5 (λKg QY g7=>(AG (xs.length - (i+1)) (Nat.sub_succ_lt_self _ _ DK) (DA (i+1) (ys++[Qz]) (n'+1) (BR mD nm (.str xs[i] t)) ⟨sm.trans ⟨rfl,rfl,rfl⟩,rfl,DK,λb o N e=>?_,?_,?_,by refine rL g7 ?_;simp[PySem.W.listOf],by first|decide|simp[Ke],?_⟩))) (rL Xcx (rL Xc9 (lin [ys.length,xs.length,i] 0x19a1183c1bc4765890000000009000007801 rfl EI hi (Xcg Ke))))
     ·refine(QY.2 b λq=>N (.inr (.inr (.inl q)))).trans (keep _ _ (Mw b o N e) λq=>N (.inl q))
     ·refine(W6.wk (λa q=>q) λy hy=> .tail _ hy).off (λa q=> .inr q) (nZ fw) (nZ fd) (nZ fm) λb o N e=>(QY.2 b λq=>N (.inr (.inl q))).trans e
     ·refine wk.frame _ _ _ Ng λb hb o e=>(QY.2 b λq=>?_).trans (keep _ _ e ?_)
      ·rcases Xcs.mp hb with z|z
       ·exact Ia (z.symm.trans q)
       ·rw[Xcc.mp z]at q;rw[q]at ht;exact AJ ht λo e _=>nG H e
      ·rcases Xcs.mp hb with z|z
       ·exact rL z (tn fI)
       ·refine rL (Xcc.mp z) ?_;intro q;exact ir q
     ·exact F7 JX λo e=>(QY.2 D (Ne.symm aD)).trans (keep _ _ e (tn KQ))
   ·rcases Xcs.mp hb with z|z
    ·exact ID (z.symm.trans q)
    ·rw[Xcc.mp z]at q;rw[q]at ht;exact AJ ht λo e _=>nG KQ e
  ·refine kk (wk.done s' _ _ Gj λT M IK=>Ma _ _ ?_);have e4:∀b o,b≠I->s'.heap.get? b=some o->T.get? b=some o:=λb o N e=>IK b o (λq=>N (Xcc.mp q)) e;haveI W4:=off s'.heap T kp W' λb o N e=>e4 b o (λq=>N (.inr (.inr q))) e;exact(AG mD (F7 ZQ λo e=>e4 D o (Ne.symm ID) e) λl V=>(sm.cast (fin l M (λb o N e=>(V.2 b λq=>N (.inr (.inl q))).trans (e4 b o (λq=>N (.inr (.inr (.inr q)))) (kp b o N e))) (off T l (λb o N e=>e4 b o (λq=>N (.inr (.inr (.inr q)))) (kp b o N e)) W4 λb o N e=>(V.2 b λq=>N (.inl q)).trans e))))
 exact codeAny_compStart_list loop (wk.self 0 _ _ _ Jh loop)
end
theorem UX{m:Type}[DecidableEq m]:∀{l t:List m},l.Nodup->(∀x∈l,x∈t)->l.length<=t.length
 | [],_,_,_=>Xdd _
 |x::l,t,g,I=>by rw[Xc6]at g;haveI Y:=I x (.head _);haveI:=UX g.2 λy p=>(List.mem_erase_of_ne (by rintro rfl;exact g.1 p)).mpr (I y (.tail _ p));rw[List.length_erase_of_mem Y]at this;haveI:=List.length_pos_of_mem Y;refine rL Xd4 ?_;lia
set_option tactic.hygienic true in
theorem zY{p:Str×Value}(h:p∈stored j k v):p∈j\/p=(k,v):=by
 unfold stored at h;split at h
 ·refine AJ (Xdc.mp h) λq O e=>?_;split at e
  ·rename_i E;right;exact rR e (rL E rfl)
  ·left;exact rR e O
 ·rcases Xc2.mp h with h|h
  ·exact .inl h
  ·exact .inr (Xcc.mp h)
set_option tactic.hygienic true in
theorem eV{k:Str}:k∈(stored CS k v).map (·.1)/\∀y∈CS.map (·.1),y∈(stored CS k v).map (·.1):=by
 unfold stored;split
 ·rename_i h;haveI e:(CS.map λkv=>if kv.1=k then(kv.1,v)else kv).map (·.1)=CS.map (·.1):=by refine rL Xdz ?_;apply Xfh;intro p _;simp only[Function.comp];split<;>rfl
  exact rL e ⟨AB λkk=>AJ (List.any_eq_true.mp h) λp hp e=>(kk ((Xcj e)▸ Xc3 hp)),λy q=>q⟩
 ·exact rL Xco ⟨Xdf _ (.head _),λy q=>Xcr _ q⟩
theorem cG(x:BA h a m n)(y:BA h a B c):m=B:=Kt x.ns y.ns
theorem WR.yw(W:WR c X w d md b S h)(g:BA h da mM 50)(nd:da≠d)(nm:da≠md)(p:mM "name"=some (.str x t))(hf:f≠("name":Str))(hv:handedIn v=true)(sb:Heap.SameBut da h h')(g':BA h' da (BR mM f v) 50):WR c X w d md b S h':=by
 have k:∀b o,b≠da->h.get? b=some o->h'.get? b=some o:=λb o nb e=>(sb.2 b nb).trans e;have r:∀{b:Addr},h.get? b=some (dictOf [] 0)->b≠da:=λ{b}e z=>by
  refine AB λkk=>Ay g λo' es ep s=>?_;obtain⟨e',d',_,hm,_⟩:=s;refine kk ?_;rw[z,e']at e;obtain rfl:=sS e;cases d';have:=hm "name";rw[p]at this;exact nS this
 refine AB λkk=>Ay W.gd λmW na pr D=>Bh W.gm λCS l q m=>?_;have j:∀{a C dx},h.get? a=some (instObj C dx)->h'.get? a=some (instObj C dx):=λe=>k _ _ (QB g.ns e) e;refine kk ⟨j W.gw,(Cf mW na pr ({D with ns:=D.ns.at λo e=>k _ _ (Ne.symm nd) e,gn:=k _ _ (r D.gn) D.gn,gp:=k _ _ (r D.gp) D.gp})),(BS CS (l.at λo e=>k _ _ (Ne.symm nm) e) (λkv hk=>⟨(q kv hk).1,Aj ((q kv hk).2) λa i Uh q1 V=>?_⟩) m),W.ne,W.bd,W.bm,W.sy⟩;by_cases z:i=da
 ·clear nd nm sb k r;subst z;haveI:=cG V.gd g;subst this;refine AK V.nm λt' n=>(DS a i _ q1 ({V with g:=j V.g,gd:=g',fs:=λy hy=>?_,nm:=⟨t',(BO (Ne.symm hf)).trans n⟩}));by_cases e:y=f
  ·exact(AG v (rL e Cn) hv)
  ·exact AK (V.fs y hy) λu hu=>(AG u ((BO e).trans hu.1) hu.2)
 ·exact(DS a i Uh q1 ({V with g:=j V.g,gd:=V.gd.at λo e=>k _ _ z e}))
theorem WR.yv(W:WR c X w d md b S h)(s:x∈ET.map (·.1))(r:DV X d md h x v)(l:h.DictOf (strKind c.prog c.w) md j)(i:(∀a∈j,a.1∈ET.map (·.1)/\DV X d md h a.1 a.2)/\∀y∈S,y∈j.map (·.1))
  (m:Heap.SameBut md h h') (p:h'.DictOf (strKind c.prog c.w) md (stored j x v)):WR c X w d md b (x::S) h':=by
 refine AB λt=>Ay W.gd λz na pr D=>?_;have k:∀b o,b≠md->h.get? b=some o->h'.get? b=some o:=λb o nb e=>(m.2 b nb).trans e;haveI nw:w≠md:=λq=>by
  refine Aj (Si l) λom es ep g n=>?_;rw[<-q,W.gw]at g;obtain rfl:=sS g;cases n
 have mk:∀{y u},DV X d md h y u->DV X d md h' y u:=λq=>q.kp W.ME (Si l) (.but m (.inr rfl));refine t ⟨k _ _ nw W.gw,(Cf z na pr ({D with ns:=D.ns.at λo e=>k _ _ W.ne e,gn:=k _ _ D.nm D.gn,gp:=k _ _ D.pm D.gp})),(BS _ p (λa f=>?_) λy hy=>?_),W.ne,W.bd,W.bm,W.sy⟩
 ·rcases zY f with q|rfl
  ·exact(AH ((i.1 a q).1) (mk (i.1 a q).2))
  ·exact(AH s (mk r))
 ·rcases Xcs.mp hy with rfl|hy
  ·exact eV.1
  ·exact eV.2 y (i.2 y hy)
noncomputable def OY:List (Str×Option Str×Bool×List Str):=[("BasicObject",none,true,[]),("Object",some "BasicObject",true,["Kernel"]),("Module",some "Object",true,[]),("Class",some "Module",true,[]),("Kernel",none,false,[]),("Comparable",none,false,[]),("Enumerable",none,false,[]),
 ("String",some "Object",true,["Comparable"]),("Array",some "Object",true,["Enumerable"]),("Proc",some "Object",true,[]),("Exception",some "Object",true,[]),("StandardError",some "Exception",true,[]),("ArgumentError",some "StandardError",true,[])]
noncomputable def IU(cl:Bool):Str:=if cl then "Class" else "Module"
noncomputable def Na:Nat->List Str->Str->Bool
 |0,_,_=>false
 |n+1,S,x=>(OY.lookup x).any λq=>S.contains x||(q.1.all (Na n (x::S))&&Na n (q.1.toList++x::S) (IU q.2.1)&&q.2.2.all (Na n (IU q.2.1::(q.1.toList++x::S))))
noncomputable def Vh(v:Value)(y:Str):Bool:=match v with| .str z _=>z==y|_=>false
theorem eW(h:Vh v y=true):∃t,v= .str y t:=by
 cases v<;>first|exact fT h|exact⟨_,by exact rL (eq_of_beq (show(_==y)=true from h)) rfl⟩
noncomputable def VE(v:Value)(k:Addr->Bool):Bool:=match v with| .ref a=>k a|_=>false
@[elab_as_elim]theorem sH{Q:Value->Prop}(h:VE v k=true)(f:∀a,k a=true->Q (.ref a)):Q v:=by
 cases v<;>first|exact fT h|exact f _ h
noncomputable def dt(d:Data)(k:List Value->Bool):Bool:=match d with| .seq p _=>k p.toList|_=>false
@[elab_as_elim]theorem sJ{Q:Data->Prop}(h:dt d k=true)(f:∀vs n,k vs=true->Q (.seq (List.toArray vs) n)):Q d:=by
 cases d<;>first|exact fT h|exact f _ _ h
noncomputable def Ql:List Value->List Str->Bool
 |v::p,Q=>(match Q with|y::Q=>Vh v y&&Ql p Q| []=>false)
 | [],Q=>Q.isEmpty
theorem Qm:∀{vs:List Value}{ys:List Str},Ql vs ys=true->vs.length=ys.length/\∀(i:Nat)y,ys[i]? =some y->∃t,vs[i]? =some (Value.str y t)
 | [],[],_=>⟨rfl,λU U q=>nS q⟩
 | [],_::_,h=>fT h
 |_::_,[],h=>fT h
 |v::vs,y::ys,h=>⟨congrArg (·+1) (Qm (ar h)).1,λi z q=>by
  cases i with
  |zero=>cases sS q;exact let⟨t,e⟩:=eW (al h);⟨t,congrArg some e⟩
  |succ i=>exact(Qm (ar h)).2 i z q⟩
theorem Lx{m:Type}{o:Option m}{p:m->Bool}(h:o.any p=true):∃v,o=some v/\p v=true:=by
 cases o with
 |none=>exact fT h
 |some v=>exact(AG v rfl h)
def xf(o:Option Value)(b:Option Str):Bool:=match b with
 |none=>o.any λv=>decide (v= .none)
 |some y=>o.any λv=>Vh v y
def vC(o:Option Value)(A:List Str):Bool:=match o with
 |none=>A.isEmpty
 |some v=>VE v λa=>Hi.any λq=>q.1==a&&(decide (q.2.cls= .type "tuple")&&dt q.2.data λp=>Ql p A)
def jC:Bool:=OY.all λ(x,b,U,A)=>(ET.map (·.1)).contains x&&(xf (valueAt ET x) b&&
 ((U== !(([PyData.str "Kernel",PyData.str "Comparable",PyData.str "Enumerable"]).any λy=>PyData.eqv y (.str x)))&&(decide (x.cps.size<=1000)&&((PyData.str x).canLay0&&vC (valueAt IM x) A))))
theorem jD:jC=true:=by kernel_rfl
def Mc(ps:Arguments)(M:Scope):Bool:=
 NM ps ["self","name"]&&(ps.defaults.isEmpty&&(decide (M.kind= .function)&&(!M.isCoroutine&&(!M.isGenerator&&(M.names.lookup ("self":Str)==some .cell&&
 ((["name","is_class","found","parent"]:List Str).all (λx=>M.names.lookup x==some .local)&&(["MODULES","ModuleThing","BUILTINS","MIXED"]:List Str).all λx=>M.names.lookup x==some .globalImplicit))))))
theorem ZE(h:Mc ps M=true):M.names.lookup ("self":Str)=some .cell:=eq_of_beq (al (ar (ar (ar (ar (ar h))))))
theorem ZD(h:Mc ps M=true):∀x∈(["name","is_class","found","parent"]:List Str),M.names.lookup x=some .local:=λx B=>eq_of_beq (Xce.mp (al (ar (ar (ar (ar (ar (ar h))))))) x B)
theorem qU(h:Mc ps M=true):∀x∈(["MODULES","ModuleThing","BUILTINS","MIXED"]:List Str),M.names.lookup x=some .globalImplicit:=λx B=>eq_of_beq (Xce.mp (ar (ar (ar (ar (ar (ar (ar h))))))) x B)
theorem Xa{h:Heap}(e:h.get? a=some (dictOf [] 0)):h.DictOf (strKind prog w) a []:=by refine AB λJ=>Aj (Heap.DictOf.new (knd:=strKind prog w) h) λo b f N r=>J ?_;rw[Xcn _ rfl]at N;obtain rfl:=Xcl N;exact(DS _ b f e r)
section
variable {c:Cx}(C:c.Ok)(G:Co c)
include C G
theorem MP(st:AS c.base s.heap)(W:WR c X w d Y b S s.heap)(i:Hv o=true)(t:f∈G1.fs)(H:handedIn v=true)(D:∃a,BA s.heap d a (wN b)/\a f=some v)
  (N:∀{Q:Value->Shared->Prop},Q (.ref w) s->wpAny (Mo c) A (eval o env) Q E s) (h:Q v {s with toks:=s.toks+1}):wpAny (Mo c) A (eval (.Attribute o f pos) env) Q E s:=by exact AB λJ=>AJ D λa g e=>J (Xe8 (N (PF C st (G.cls G1 (Ai 7)) W.gw g.ns t e H h)) (rL (Xeg ..) (rL (HM i ..) rfl)))
theorem Yn(hA:A.depth<990)(st:AS c.base s.heap)(W:WR c X w d md b S s.heap)(hx:x.cps.size<=1000)
  (k:∀r tk,AS s.heap r->Q .none {s with heap:=r,toks:=tk}):wpAny (Mo c) A (call (.ref 614) [.ref w,.str x t]) Q E s:=by
 refine AB λJ=>Aj (G.fn ⟨614,"World","give_own",none⟩ (Ai 46)) λps body sc n m=>?_;cases n.symm.trans oU;refine J ?_;have u:Eo I9.1 I9.2.2 ["self","name"]=true:=by kernel_rfl
 have Y:BQ "name" (.Name "name" (Dp 0 0))=true:=by kernel_rfl
 have h2:BQ "name" (.Name "name" (Dp 0 6))=true:=by kernel_rfl
 have H:BQ "self" (.Name "self" (Dp 0 3))=true:=by kernel_rfl
 have h4:BQ "self" (.Name "self" (Dp 0 9))=true:=by kernel_rfl
 ·refine Bf (F1 u) λi _ _=>?_;have hs:=i.loc "self" (.head _);have hn:=i.loc "name" (by first|decide|simp);refine KK C st m (lin [A.depth] 14979872500034685062344833 rfl hA) (binds:=(["self","name"]:List Str).zip [.ref w,.str x t]) i (Fy u (.inl (AX rfl rfl rfl))) λh e E' B g=>?_;have V:=G5 (L:=s.heap.objs.size) (a:=614) (q:=Dk.qual ⟨614,"World","give_own",none⟩) (code:=h) i;have j:=W.kp g;have sb:=st.trans g;refine AB λJ=>Ay j.gd λz na pr D=>J ?_;have one:∀{a1 N:PySem.Expr}{f:Str}{l:Addr}{v:Nat}{I M O T:Pos}{wh:Sem Value}{tk:Nat}{Q:Bool->Shared->Prop},BQ "name" a1=true->BQ "self" N=true->f∈G1.fs->z f=some (.ref l)->(l==sysModules)=false->e.get? l=some (dictOf [] 0)->(∀p,Q false {s with heap:=e,toks:=p})->
    wpAny (Mo c) (A.deeper (DX I9.2.2 s.heap.objs.size (Dk.qual ⟨614,"World","give_own",none⟩) 614 h)) (isTrue (.Compare (.BinOp a1 .Add (.Constant (.str ".") v I) M) [.In] [.Attribute N f O] T) (DX I9.2.2 s.heap.objs.size (Dk.qual ⟨614,"World","give_own",none⟩) 614 h) wh) Q E' {s with heap:=e,toks:=tk}:=by
   intro a1 N f l v I M O T wh tk Q Y H hf hm lo hd hq;refine Xe4 (Xij (DF V Y hn B rfl (Xef (add_str (λt' p=>?_) ?_)))) rfl
   ·exact MP C G (s:={s with heap:=e,toks:=p}) sb j (Ur H) hf rfl (AG z D.ns hm) (λ{Q'}o=>DF V H hs B rfl o) (wpAny_in_of (s:={s with heap:=e,toks:=p+1}) (Xgd _ _ _ _) lo (Xa hd).mapOf λU U U=>hq _)
   ·refine rL Xc9 ?_;show x.cps.size+_<=_;have:".".length=1:=rfl;exact lin [x.cps.size,".".length] 1283221528439337963813709377312102899841 rfl hx (Xcg this)
  exact Xct (wpAny_If (isTrue_or (one Y H (by first|decide|simp) D.nat D.s.1 D.gn λp=>isTrue_or (one h2 h4 (by first|decide|simp) D.pre D.s.2 D.gp λp=>isTrue_or_nil (Xdm (Xdm (k e p g)))))))
end
structure MB(c:Cx)(X:Addr->Prop)(w d md:Addr)(b:Bool)(B0:Heap)(L cA:Addr)(S:List Str)(m:Str->Option Value)(h:Heap):Prop where
 kp:Kp (Bz d md) B0 h
 W:WR c (λa=>X a\/(a=L\/a=cA)) w d md b S h
 ns:h.Ns L m
 gc:h.IsCell cA (some (.ref w))
structure MG(c:Cx)(w d md:Addr)(B0:Heap)(L cA:Addr):Prop where
 sb:AS c.base B0
 fL:B0.get? L=none
 fc:B0.get? cA=none
 Lc:L≠cA
 od:∃o,B0.get? d=some o
 om:∃o,B0.get? md=some o
 ow:∃o,B0.get? w=some o
structure FM(X:Addr->Prop)(d md:Addr)(B0:Heap)(L cA a da:Addr)(x:Str)(mM:Str->Option Value)(h:Heap):Prop where
 ga:h.get? a=some (instObj 260 da)
 gd:BA h da mM 50
 fs:∀f∈Gv,∃v,mM f=some v/\handedIn v=true
 nm:∃t,mM "name"=some (.str x t)
 na:¬(X a\/(a=L\/a=cA))
 nd:¬(X da\/(da=L\/da=cA))
 dd:da≠d
 dm:da≠md
 fa:B0.get? a=none
 fd:B0.get? da=none
theorem FM.EK(F:FM X d md B0 L cA a da x mM h):DV (λa=>X a\/(a=L\/a=cA)) d md h x (.ref a):=(DS a da mM rfl ⟨F.na,F.nd,F.dd,F.dm,F.ga,F.gd,F.fs,F.nm⟩)
theorem FM.ne(F:FM X d md B0 L cA a da x mM h)(k:∃o i f,h.get? b=some o/\o.data= .dict i f):a≠b:=λq=>by
 refine AB λl=>Aj k λo i f e j=>l ?_;rw[<-q,F.ga]at e;obtain rfl:=sS e;cases j
theorem FM.at(F:FM X d md B0 L cA a da x mM h)(l:∀o,h.get? a=some o->h'.get? a=some o)(e:∀o,h.get? da=some o->h'.get? da=some o):FM X d md B0 L cA a da x mM h':=
 ⟨l _ F.ga,F.gd.at e,F.fs,F.nm,F.na,F.nd,F.dd,F.dm,F.fa,F.fd⟩
section
variable {c:Cx}{X:Addr->Prop}{w d md:Addr}{b:Bool}{B0:Heap}{L cA:Addr}(g:MG c w d md B0 L cA){S:List Str}{m:Str->Option Value}{h h':Heap}(M:MB c X w d md b B0 L cA S m h)
include g M
theorem MB.base:AS c.base h:=λa o e=>M.kp a o (λq=>by
 rcases q with q|q
 ·exact nH q M.W.bd e
 ·exact nH q M.W.bm e) (g.sb a o e)
theorem MB.Oj:∃o a f,h.get? d=some o/\o.data= .dict a f:=M.W.ME
theorem MB.Ol:∃o a f,h.get? md=some o/\o.data= .dict a f:=M.W.N6
theorem MG.nL:¬Bz d md L/\¬Bz d md cA/\w≠L/\w≠cA:=by
 refine AK g.od λf a=>AK g.om λj e=>AK g.ow λk z=>?_;refine(DR (λq=>?_) (λq=>?_) (λq=>?_) λq=>?_)
 ·rcases q with q|q
  ·exact nH (q).symm g.fL a
  ·exact nH (q).symm g.fL e
 ·rcases q with q|q
  ·exact nH (q).symm g.fc a
  ·exact nH (q).symm g.fc e
 ·exact nH q g.fL z
 ·exact nH q g.fc z
theorem MB.next(k:Kp (Bz d md) h h')(f:WR c (λa=>X a\/(a=L\/a=cA)) w d md b S' h'):MB c X w d md b B0 L cA S' m h':=by
 refine AB λi=>Bf (MG.nL g M) λn j _=>i ⟨M.kp.trans k,f,?_,?_⟩
 ·exact F7 M.ns λl=>k _ _ n
 ·exact AJ M.gc λo e r=>(AG o (k _ _ j e) r)
theorem MB.stays(k:AS h h'):MB c X w d md b B0 L cA S m h':=M.next g (.of k) (M.W.kp k)
theorem MB.store(j:Heap.SameBut L h h')(i:h'.Ns L l):MB c X w d md b B0 L cA S l h':=by refine AB λk=>FE (MG.nL g M) λn p v r=>k ⟨λa o f e=>(j.2 a λq=>nH q g.fL e).trans (M.kp a o f e),M.W.off (λa q=> .inr (.inl q)) v (λq=>n (.inl q.symm)) (λq=>n (.inr q.symm)) λa o f e=>(j.2 a f).trans e,i,M.gc.sameBut j (Ne.symm g.Lc)⟩
theorem FM.next(F:FM X d md B0 L cA a da x mM h)(k:Kp (Bz d md) h h'):FM X d md B0 L cA a da x mM h':=
 F.at (λo e=>k _ _ (λq=>q.elim (F.ne (M.Oj g)) (F.ne (M.Ol g))) e) λo e=>k _ _ (λq=>q.elim F.dd F.dm) e
theorem FM.store(F:FM X d md B0 L cA a da x mM h)(f:Heap.SameBut L h h'):FM X d md B0 L cA a da x mM h':=
 F.at (λo e=>(f.2 _ λq=>F.na (.inr (.inl q))).trans e) λo e=>(f.2 _ λq=>F.nd (.inr (.inl q))).trans e
theorem MB.field(F:FM X d md B0 L cA a da x mM h)(z:f∈Gv)(j:f≠("name"))(p:handedIn v=true)(i:Heap.SameBut da h h')(g':BA h' da (BR mM f v) 50):
  MB c X w d md b B0 L cA S m h'/\FM X d md B0 L cA a da x (BR mM f v) h':=by
 refine AK F.nm λt k=>?_;haveI n:=QB F.gd.ns F.ga;refine(AH ⟨λb o s e=>(i.2 b λq=>nH q F.fd e).trans (M.kp b o s e),M.W.yw F.gd F.dd F.dm k j p i g',M.ns.sameBut i λq=>F.nd (.inr (.inl q.symm)),M.gc.sameBut i λq=>F.nd (.inr (.inr q.symm))⟩ ⟨(i.2 a n).trans F.ga,g',λy r=>?_,⟨t,(BO (Ne.symm j)).trans k⟩,F.na,F.nd,F.dd,F.dm,F.fa,F.fd⟩);by_cases e:y=f
 ·exact(AG v (rL e Cn) p)
 ·exact AK (F.fs y r) λu l=>(AG u ((BO e).trans l.1) l.2)
end
section
variable {c:Cx}(C:c.Ok)(G:Co c)
include C G
theorem MB.NX(g:MG c w d md B0 L cA)(M:MB c X w d md b B0 L cA S m s.heap)(F:FM X d md B0 L cA a da x mM s.heap)(t:f∈Gv)(j:f≠("name"))(n:handedIn v=true)(k:∀h' tk,MB c X w d md b B0 L cA S m h'->FM X d md B0 L cA a da x (BR mM f v) h'->Q () {s with heap:=h',toks:=tk}):wpAny (Mo c) A (setAttr (.ref a) f v) Q E s:=by refine NY C (M.base g) (G.cls XD (Ai 6)) F.ga F.gd (lin [] 347950366180353 rfl) t λh' tk e p=>AB λo=>AJ (F.fs f t) λu l _=>?_;replace e:=l▸ e;exact Ax (M.field g F t j n p e) λi y=>o (k h' tk i y)
theorem kq(T:A.depth<990)(st:AS c.base s.heap)(H:Mc ps i=true)(f:O5 c 607 ps body i q .none)
  (k:∀env L cA m h' tk t,ER env i L->env.cells.lookup ("self":Str)=some cA->L=s.heap.objs.size→@LT.lt Nat _ L cA->h'.Ns L m->m "name"=some v->h'.IsCell cA (some u)->AS s.heap h'->interactive env=false->
   wpAny (Mo c) (A.deeper env) (execs body env) (λf s'=>Q (QU f) s') t {s with heap:=h',toks:=tk}):wpAny (Mo c) A (call (.ref 607) [u,v]) Q E s:=by
 refine AB λJ=>?_;haveI l:=Xcj (al (ar (ar H)));haveI y:=Aq (al (ar (ar (ar H))));haveI N:=Aq (al (ar (ar (ar (ar H)))));haveI D:=ZE H;haveI O:=ZD H;refine AJ (d0 (al H) (al (ar H))) λas e ha=>?_;obtain rfl:=e;refine B8 f λoF F o=>?_;obtain⟨ho,U,a,j⟩:=o;refine J (Xfe (Xgr (show A.depth<1000 by exact lin [A.depth] 14979872500034685062344833 rfl T) (st _ _ ho) U (a.sc▸ y) (a.sc▸ N) a.body (a.qual▸ j.keeps st) ?_));haveI V:=SF (vs:=[u,v]) a (by refine rL ha ?_;decide) (by haveI:=congrArg List.length ha;rw[EN]at this;exact this.symm);rw[ha]at V;refine rL V (rL a.sc (rL a.glob (rL a.SR (rL a.qual (rL a.blt ?_)))));haveI p:=O "name" (.head _);haveI I:((((["self","name"]:List Str).zip [u,v])).map (·.1)).Nodup:=by show(["self","name"]:List Str).Nodup;decide
 refine Xcp (Xhm l (λx B=>?_) λenv he r Y=>?_)
 ·simp only[List.zip_cons_cons,List.zip_nil_right,Xcs,Xcu,Xe2]at B;rcases B with rfl|rfl
  ·exact .inr ⟨D,KA _ _ _ _ (.inl (E9 D))⟩
  ·exact .inl p
 ·subst he;refine AK (Xeq.mp (KA i.names (s.heap.objs.size+1) [] "self" (.inl (E9 D)))) λcA n=>Ce Y.toInCall.done λh' tk e J=>?_;obtain rfl:=e;refine⟨C.nolimit.keeps (st.trans J),codeAny_func (k _ s.heap.objs.size cA _ h' tk _ ⟨l,rfl,rfl,rfl,λu0=>rfl⟩ n rfl (Y.above _ cA (E9 n)) Y.toInCall.ns ?_ ?_ J (by unfold interactive;refine rL (show(newEnv i s.heap.objs.size mainGlobals (cellsFrom (s.heap.objs.size+1) i.names []) (q++".<locals>.") (some 607) F.code none builtinsNs).scope.kind= .function from l) ?_;rfl))⟩
  ·exact SE I (by first|decide|simp) p
  ·haveI:=Y.cell _ cA n;rwa [S9 I (v:=u) (.head _) λz=>absurd (D.symm.trans z) (by first|decide|simp)]at this
end
structure BI(x:Str)(par:Option Str)(cl:Bool)(mix:List Str):Prop where
 t:x∈ET.map (·.1)
 p:match par with|none=>valueAt ET x=some .none|some y=>∃t,valueAt ET x=some (.str y t)
 c:cl= !(([PyData.str "Kernel",PyData.str "Comparable",PyData.str "Enumerable"]).any λy=>PyData.eqv y (.str x))
 z:x.cps.size<=1000
 l:(PyData.str x).canLay0=true
 m:(valueAt IM x=none/\mix=[])\/∃a o vs n,valueAt IM x=some (.ref a)/\(a,o)∈Hi/\o.cls= .type "tuple"/\o.data= .seq (List.toArray vs) n/\vs.length=mix.length/\∀(i:Nat)y,mix[i]? =some y->∃t,vs[i]? =some (Value.str y t)
theorem j7(h:OY.lookup x=some (b,cl,A)):BI x b cl A:=by
 have V:=Xce.mp jD _ (E9 h);have Y:=ar (ar V);refine⟨Xcw.mp (al V),?_,eq_of_beq (al Y),Xcj (al (ar Y)),al (ar (ar Y)),?_⟩
 ·have T:=al (ar V);clear h V;cases b with
  |none=>exact let⟨v,e,h⟩:=Lx T;e.trans (congrArg some (Xcj h))
  |some y=>exact let⟨v,e,h⟩:=Lx T;let⟨t,h⟩:=eW h;(AN t (e.trans (congrArg some h)))
 ·have T:=ar (ar (ar Y));cases e:valueAt IM x with
  |none=>replace T:=e▸ T;exact .inl (AH rfl (Xf7.mp T))
  |some v=>
   rw[e]at T;refine .inr (sH (show VE v _=true from T) λa h=>AB λJ=>AJ (List.any_eq_true.mp h) λg D h=>?_);obtain⟨L,o⟩:=g;cases eq_of_beq (al h);exact Ce (sJ (Q:=λd=>∃p n,d= .seq (List.toArray p) n/\Ql p A=true) (ar (ar h)) λp n I=>(Di p n rfl I)) λp n f I=>J (GQ L o p n rfl D (Xcj (al (ar h))) f ((Qm I).1) ((Qm I).2))
section
variable {c:Cx}(C:c.Ok)(G:Co c)
include C G
theorem TC(st:AS c.base s.heap)(V:ER env M L)(B:M.names.lookup x=some .globalImplicit)(U:(x,v)∈KV)(u:I0 x=false)(h:Q v s):wpAny (Mo c) A (eval (.Name x pos) env) Q E s:=
 Xfd V.ek ((V.ks x).trans B) (Xfr (V.eg▸ C.tg.keeps st) (mg_of C.BE C.tg (G.gv _ U)) h) u
theorem ui(n:A.depth+4<1000)(st:AS c.base s.heap)
  (k:∀a d b tk T,s.heap.get? a=none->s.heap.get? d=none->AS s.heap b->b.get? a=some (instObj 260 d)->BA b d T 50->(∀f∈Gv,∃v,T f=some v/\handedIn v=true)->T "name"=some (.str x t)->Q (.ref a) {s with heap:=b,toks:=tk}):
  wpAny (Mo c) A (call (.ref 260) [.int i q,.none,.str x t,.bool cl]) Q E s:=by
 have O:=G.Fe;have j:=G.sm (243,CY [.none,.bool false,.none,.none]) (Ai 9);refine N5 C G.toFG n st (cl:=XD) (Ai 6) (λx B=>Xcr _ B) (ar O) (dv:=some 243) (Ai 39) (Gn (by kernel_rfl)) (by first|decide|simp[bT]) (λx B=>Xcr _ B)
  (binds:=λz=>(tn++(["name","is_class","parent","outer"]:List Str)).zip [.ref z,.int i q,.none,.str x t,.bool cl,.none,.none]) (λz b g=> .inr (GQ 243 _ [.none,.bool false,.none,.none] 0 rfl (g _ _ (st _ _ j)) rfl (Xch rfl) (by first|decide|simp[tn]) (AH (by rfl) (by rfl)))) (λz=>rfl) (λz=>rfl) (λz=>rfl) (λz=>rfl) (λz=>Hj (by kernel_rfl)) λa d b tk M N h D g e r I l=>?_
 refine AB λJ=>?_;exact C7 I rfl λI=>C7 I rfl λI=>Gq I λa3 U U I=>Ep I λI=>Kn I λI=>Ep I λI=>
  C7 (Ko I l) rfl λl=>C7 l rfl λl=>C7 l rfl λl=>C7 l rfl λl=>Gq l λo U U l=>Gq l λY U U l=>UM l λp U U l=>UM l λu U U l=>Ep l λl=>Ep l λl=>Ep l λl=>
  J (k a d b tk _ h D g e (JR (P:=λm=>BA b d m 50) l (r.le (by decide))) (qB (by kernel_rfl)) (by rfl))
end
def xg:Option Str->Value->Prop
 |none,v=>v= .none
 |some y,v=>∃t,v= .str y t
theorem xh(I:BI x b cl A):∃U,valueAt ET x=some U/\xg b U:=by
 haveI:=I.p;cases b with
 |none=>exact(AG _ this rfl)
 |some y=>exact AK this λt q=>(AG _ q (AN t rfl))
theorem DV.hI(V:DV X d md h x v):handedIn v=true:=by refine Aj V λ_ _ _ u _=>?_;obtain rfl:=u;rfl
theorem Qp{x:Str}(h:∀y∈S,y∈T):∀y∈x::S,y∈x::T:=λy q=>(Xcs.mp q).elim (λe=>e▸ .head _) λq=> .tail _ (h y q)
theorem eX{l S T:List Str}(h:∀y∈S,y∈T):∀y∈l++S,y∈l++T:=λy q=>(Xc2.mp q).elim (Xcr _) λq=>Xdf _ (h y q)
theorem xS(O:∀t,Q (.str (IU cl) t) {s with toks:=s.toks+1}):if cl=true then wpAny M A (eval (.Constant (.str "Class") l H) env) Q E s else wpAny M A (eval (.Constant (.str "Module") a z) env) Q E s:=by
 cases cl with
 |true=>exact Xef (O _)
 |false=>exact Xef (O _)
theorem sd{P Q:Prop}(Y:b=true->P)(T:b=false->Q):if b=true then P else Q:=by
 cases b with
 |true=>exact Y rfl
 |false=>exact T rfl
section
variable {c:Cx}(C:c.Ok)(G:Co c)
include C G
theorem uq(I:BI x par cl mix)(Th:mix.length<=1000)(Bp:∀y∈par,BC c n (x::S) y)(Bo:BC c n (par.toList++x::S) (IU cl))(Bm:∀z∈mix,BC c n (IU cl::(par.toList++x::S)) z)(hS:∀y∈S,y∈S')(hX:∀a,X a->∃o,s.heap.get? a=some o)(hh:A.handled=none)(hA:A.depth+6*n+25<1000)(hU:A.units+30*n+120<9990)(st:AS c.base s.heap)(W:WR c X w d md b S' s.heap)
  (k:∀h' tk v,Kp (Bz d md) s.heap h'->WR c X w d md b (x::S') h'->DV X d md h' x v->Q v {s with heap:=h',toks:=tk}):wpAny (Mo c) A (call (.ref 607) [.ref w,.str x t]) Q E s:=by
 refine AB λkk=>Aj (G.fn ⟨607,"World","make_builtin",none⟩ (Ai 45)) λps body sc E5 G8=>?_;cases E5.symm.trans vF;haveI hd:Mc IP.1 IP.2.2=true:=by kernel_rfl
 have pD:((AW 1 3).endLine==(AW 1 4).line)=true:=by kernel_rfl
 haveI pI:((AW 5 7).endLine==(AW 5 9).line)=true:=by kernel_rfl
 haveI pJ:((AW 6 3).endLine==(AW 6 8).line)=true:=by kernel_rfl
 haveI pM:((AW 7 3).endLine==(AW 7 5).line)=true:=by kernel_rfl
 haveI pN:((AW 7 8).endLine==(AW 7 11).line)=true:=by kernel_rfl
 haveI pP:((AW 8 3).endLine==(AW 8 5).line)=true:=by kernel_rfl
 haveI pK:BQ "other" (.Name "other" (AW 7 4))=true:=by kernel_rfl
 haveI pL:XH bR "other"=true:=by kernel_rfl
 haveI Ze:=ZE hd;haveI EX:=ZD hd;haveI PQ:=qU hd;refine kk ?_;have ln:=EX "name" (by decide);have li:=EX "is_class" (by decide);have lf:=EX "found" (by decide);have lp:=EX "parent" (by decide);refine kq C G (rm (e:=0) hA (by decide)) st hd G8 λenv L cA m BW Vv E' V PN hL DK Cs FZ qi Fp PR=>?_;have fL:s.heap.get? L=none:=hL▸ Bg;have fc:=H0 (hL▸ Xhe DK);have g:MG c w d md s.heap L cA:=⟨st,fL,fc,Xdb DK,W.od,W.om,⟨_,W.gw⟩⟩;have Lg:MB c X w d md b s.heap L cA S' m BW:=⟨.of Fp,(W.more (by rintro a (q|q)<;>refine rL q ?_<;>assumption)).kp Fp,Cs,qi⟩;have L0:∀{Eu:List Str}{m:Str->Option Value}{h:Heap}{tk:Nat}{po:Pos}{Q:Value->Shared->Prop},MB c X w d md b s.heap L cA Eu m h->Q (.ref w) {s with heap:=h,toks:=tk}->wpAny (Mo c) (A.deeper env) (eval (.Name "self" po) env) Q E' {s with heap:=h,toks:=tk}:=
  λM hq=>Xia (Xg7 V.ek ((V.ks _).trans Ze) PN M.gc hq) (by decide)
 have OQ:∀{Eu:List Str}{m:Str->Option Value}{h:Heap},MB c X w d md b s.heap L cA Eu m h->∀a,(X a\/(a=L\/a=cA))->∃o,h.get? a=some o:=λ{Eu m h}M a q=>by
  rcases q with q|q|q
  ·refine AK (hX a q) λo e=>?_;by_cases z:Bz d md a
   ·rcases z with z|z
    ·exact rL z (Aj (M.Oj g) λo _ _ e _=>⟨o,e⟩)
    ·exact rL z (Aj (M.Ol g) λo _ _ e _=>⟨o,e⟩)
   ·exact⟨o,M.kp a o z e⟩
  ·exact rL q (Aj M.ns λo _ _ e _=>⟨o,e⟩)
  ·exact rL q (AJ M.gc λo e _=>⟨o,e⟩)
 haveI dA:(A.deeper env).depth=A.depth+1:=rfl;haveI uA:(A.deeper env).units=A.units+3:=rfl;refine Xct (JH λHG l=>Xew (PySem.wpAny_Compare1 (Bj V ln (by decide) Lg.ns FZ (TC C G (Lg.base g) V (PQ _ (by decide)) (v:= .ref 533) (by decide) (by decide) ?_)) rfl) (CM rfl));haveI o2:=Lg.base g _ _ (G.sm (533,CY [.str "Kernel" 973,.str "Comparable" 974,.str "Enumerable" 975]) (Ai 12));refine SeqAt.notIn_tuple_reads (.tuple o2 rfl rfl (.cons (.str _ _) (.cons (.str _ _) (.cons (.str _ _) .nil)))) (.str x t) (by kernel_rfl) I.l (by refine rL uA (rL cLine_is ?_);show A.units+3+1<9900;exact rt hU (by decide)) ?_;refine rR I.c (L7 V li Lg.ns λGk wA yo=>l _ _ ?_);haveI Il:=Lg.store g yo wA;refine Xct (JH λHG l=>Xew (Oa C (Il.base g) V (PQ _ (by decide)) (G.gl ("ModuleThing",.ref 260) (by decide)) (by decide) rfl (Xc5 (bP C G (Il.base g) Il.W (f:=581) (by decide) rfl pD (λhq=>L0 Il hq) (Uu C G.toFG (show A.depth+1<990 from rm hA (by decide)) (Il.base g) Il.W λCt LK i ti tQ Ew=>?_)))) (CM rfl));have J:=Il.next g tQ Ew;refine Xc5 (Xdq (Xc5 (Bj V ln (by decide) J.ns ((BO (by decide)).trans FZ) (Xc5 (Bj V li (by decide) J.ns Cn (args_nil ⟨J.base g,ui C G (show A.depth+1+4<1000 from rt hA (by decide)) (s:={s with heap:=Ct,toks:=LK}) (J.base g) λa da Gl Nr mM fa Ox zc ga gd fs vh=>?_⟩))))));have RT:=J.stays g zc;have Ks:∀{z:Addr},Ct.get? z=none->¬(X z\/(z=L\/z=cA))/\s.heap.get? z=none/\¬Bz d md z:=λ{z}q=>by
  refine(AX (λy=>?_) ?_ ?_)
  ·exact AK (OQ J z y) λo e=>nG q e
  ·cases e:s.heap.get? z with
   |none=>rfl
   |some o=>
    by_cases y:Bz d md z
    ·rcases y with y|y
     ·rw[y]at q;exact Aj (J.Oj g) λo _ _ e _=>nG q e
     ·rw[y]at q;exact Aj (J.Ol g) λo _ _ e _=>nG q e
    ·rw[J.kp z o y e]at q;exact sN q
  ·rintro(y|y)
   ·rw[y]at q;exact Aj (J.Oj g) λo _ _ e _=>nG q e
   ·rw[y]at q;exact Aj (J.Ol g) λo _ _ e _=>nG q e
 haveI RM:FM X d md s.heap L cA a da x mM Gl:=⟨ga,gd,fs,⟨t,vh⟩,(Ks fa).1,(Ks Ox).1,λq=>(Ks Ox).2.2 (.inl q),λq=>(Ks Ox).2.2 (.inr q),(Ks fa).2.1,(Ks Ox).2.1⟩;refine L7 V (s:={s with heap:=Gl,toks:=Nr}) lf RT.ns λMk wF dl=>l _ _ ?_;haveI O7:=RM.store g RT dl;have Y:=RT.store g dl wF;have qx:∀{Eu:List Str}{m:Str->Option Value}{h:Heap},MB c X w d md b s.heap L cA Eu m h->∃mW,BA h d mW (wN b)/\mW "made"=some (.ref md):=λM=>let⟨mW,_,_,D⟩:=M.W.gd;⟨mW,D.ns,D.JS⟩;refine Xct (JH λHG l=>wpAny_Assign_Subscript (Bj V lf (by decide) Y.ns Cn (MP C G (Y.base g) Y.W rfl (by decide) rfl (qx Y) (λhq=>L0 Y hq) (Bj V ln (by decide) Y.ns ((BO (by decide)).trans ((BO (by decide)).trans FZ)) (AB λkk=>Bh Y.W.gm λCS hD Mg qo=>kk ?_)))) (CM rfl));haveI hlen:CS.length<=40:=by
  have nd:(CS.map (·.1)).Nodup:=W8 (id hD) λ_ _ _ _ _ _ _ _ q=>q
  haveI:=UX nd λy hy=>by refine AJ (Xdc.mp hy) λq hq BV=>?_;obtain rfl:=BV;exact(Mg q hq).1
  rw[EN]at this;exact Xcq this (by decide)
 refine wpAny_setItem_pairs (s:={s with heap:=Mk,toks:=Nr+1+1}) (Xgd _ _ _ _) hD (λMl pW VM=>l _ _ ?_) (Xcq hlen (by refine rL Xc9 ?_;decide));haveI Rn:=Y.W.yv I.t O7.EK hD ⟨Mg,qo⟩ VM pW;haveI RU:=Y.next g (.but VM (.inr rfl)) Rn;haveI gX:=O7.next g Y (Kp.but VM (.inr rfl));refine Xct (JH λHG l=>Xda (Bj V ln (by decide) RU.ns ((BO (by decide)).trans ((BO (by decide)).trans FZ)) (Bj V lf (by decide) RU.ns Cn (MB.NX C G g RU gX (by decide) (by decide) rfl λKg Jm Jx gY=>l _ _ ?_))) (CM rfl));refine AJ (xh I) λpv ZW PW=>Xct (JH λHG l=>Xew (Xhl (TC C G (Jx.base g) V (PQ _ (by decide)) (v:= .ref 534) (by decide) (by decide) (Bj V ln (by decide) Jx.ns ((BO (by decide)).trans ((BO (by decide)).trans FZ)) ?_))) (CM rfl));haveI D7:=G.dB.keep (Jx.base g);refine subscriptTail_builtin D7.typeIs slot_dict_getitem.lookup (wpAny_getItem_of (Xgd _ _ x t) D7.mapOf ZW (L7 V (s:={s with heap:=Kg,toks:=Jm+1}) lp Jx.ns λJM cH dq=>l _ _ ?_)) (by with_unfolding_all rfl) λu0=>by with_unfolding_all rfl
 have u:=Jx.store g dq cH;haveI WN:=gY.store g Jx dq;have key:∀{Q:Flow->Shared->Prop}{p1 p2 p3 p4 p5 p6 p7 p8 p9 QK:Pos}{k1 k2:Nat},(∀h' tk Eu Uh,(∀y∈par.toList++x::S',y∈Eu)->MB c X w d md b s.heap L cA Eu (BR (BR (BR m "is_class" (.bool cl)) "found" (.ref a)) "parent" pv) h'->FM X d md s.heap L cA a da x Uh h'->Q .next {s with heap:=h',toks:=tk})->
   wpAny (Mo c) (A.deeper env) (exec (.Assign [.Attribute (.Name "found" p1) "parent" p2] (.IfExp (.Compare (.Name "parent" p3) [.Is] [.Constant .none k1 p4] p5) (.Constant .none k2 p6) (.Call (.Attribute (.Name "self" p7) "builtin" (AW 5 7)) [.Name "parent" p8] [] (AW 5 9)) p9) QK) env) Q E' {s with heap:=JM,toks:=Jm+1+1}:=by
  intro Q p1 p2 p3 p4 p5 p6 p7 p8 p9 QK k1 k2 kk;refine Xda (IfExp_ (Xe4 (Bj V lp (by decide) u.ns Cn (Xdq ?_)))) (CM rfl);clear Bo Bm I ZW cH hX st;cases par with
  |none=>
   have PW:=PW;exact rL PW (is_none_none λu0 u0 u0=>Xdq (Bj V lf (by decide) u.ns ((BO (by decide)).trans Cn) (MB.NX C G g u WN (by decide) (by decide) rfl λIF O p LZ=>kk IF O _ _ (λy hy=>by simpa using hy) p LZ)))
  |some y=>
   refine AK PW λty BV=>?_;obtain rfl:=BV;refine is_none_ne (by simp) λu0 u0 u0=>JU C G (u.base g) u.W (f:=602) (by decide) rfl rfl (Xch rfl) pI (λhq=>L0 u hq) (Xc5 (Bj V lp (by decide) (s:={s with heap:=JM,toks:=Jm+1+1}) u.ns Cn (args_nil ⟨u.base g,Bp y rfl (A.deeper env) _ _ {s with heap:=JM,toks:=Jm+1+1} w d md b ty (x::S') _ (Qp hS) (OQ u) hh (rq hA (by decide)) (rq hU (by decide)) (u.base g) u.W λIF O Xca ao iP iK=>?_⟩)));have p:=u.next g ao iP;have LZ:=WN.next g u ao;exact Bj V lf (by decide) (s:={s with heap:=IF,toks:=O}) p.ns ((BO (by decide)).trans Cn) (MB.NX C G g (s:={s with heap:=IF,toks:=O}) p LZ (by decide) (by decide) iK.hI λPd T OB RL=>kk Pd T _ _ (λz hz=>hz) OB RL)
 refine Xct (key λIF O Rk Xbz TN p LZ=>?_);refine Xct (JH λHG l=>Xda (JU C G (s:={s with heap:=IF,toks:=O}) (p.base g) p.W (nm:="builtin") (f:=602) (by decide) rfl rfl (by decide) pJ (λhq=>L0 p hq) (Xc5 (IfExp_ (isTrue_plain (Bj V li (by decide) (s:={s with heap:=IF,toks:=O}) p.ns ((BO (by decide)).trans ((BO (by decide)).trans Cn)) λu0 u0 u0=>xS λto=>args_nil ⟨p.base g,Bo (A.deeper env) _ _ {s with heap:=IF,toks:=O+1} w d md b to Rk _ (λz hz=>TN z (eX (Qp hS) z hz)) (OQ p) hh (rq hA (by decide)) (rq hU (by decide)) (p.base g) p.W λPd T Xb9 ah iN iI=>?_⟩))))) (CM rfl));have OB:=p.next g ah iN;have RL:=LZ.next g p ah;refine Bj V lf (by decide) (s:={s with heap:=Pd,toks:=T}) OB.ns ((BO (by decide)).trans Cn) (MB.NX C G g (s:={s with heap:=Pd,toks:=T}) OB RL (by decide) (by decide) iI.hI λB H j gS=>l _ _ ?_);refine Xct (JH λHG l=>Xda ?_ (by rfl));have nmE:BQ "self" (.Name "self" default)=true:=by decide
 refine kK C G (s:={s with heap:=B,toks:=H}) (A:=A.deeper env) hh V.ek V.eg V.eb ((V.ks _).trans Ze) PN (kH pL) (n:=n) (S:=IU cl::(par.toList++x::S)) (xs:=mix) (by decide) pK pM rfl Th Bm (rq hA (by decide)) (rq hU (by decide)) (j.base g) (S':=IU cl::Rk) (Qp λz hz=>TN z (eX (Qp hS) z hz)) (OQ j) j.W j.gc (λ{Q'}kk=>?_) λacc Tz Vw ai iO=>?_
 ·refine Xe5 (TC C G (s:={s with heap:=B,toks:=H}) (j.base g) V (PQ _ (by decide)) (v:= .ref 537) (by decide) (by decide) ?_) (N7 rfl rfl (by decide) pN);haveI RF:=G.dM.keep (j.base g);refine XT (s:={s with heap:=B,toks:=H}) RF (Xf5 (Xc5 (Bj V ln (by decide) (s:={s with heap:=B,toks:=H}) j.ns ((BO (by decide)).trans ((BO (by decide)).trans ((BO (by decide)).trans FZ))) (Xc5 (Xht (args_nil ⟨by refine rL Xc9 ?_;decide,args_nil ?_⟩)) rfl)) rfl) rfl rfl);haveI gH:(B.push {cls:= .type "tuple",data:= .seq ([]:List Value).toArray}).DictOf (strKind c.prog c.w) 537 IM:=RF.push _;refine kT (s:={s with heap:=B.push _,toks:=H}) gH (by decide+kernel) ?_;rcases I.m with⟨e,rfl⟩|⟨a',o',vs,n',e,HS,TP,Gg,Mh,rZ⟩
  ·exact rL e (kk _ [] _ _ (AS.push _) ⟨_,Xcn _ rfl,rfl,0,rfl⟩ rfl (λi y q=>by simp at q))
  ·exact e▸ kk a' vs _ _ (AS.push _) ⟨o',Xcf _ (j.base g _ _ (G.sm (a',o') HS)),TP,n',Gg⟩ Mh rZ
 haveI WT:=j.next g ai iO;haveI gU:=gS.next g j ai;refine Bj V lf (by decide) (s:={s with heap:=Tz,toks:=Vw}) WT.ns ((BO (by decide)).trans Cn) (MB.NX C G g (s:={s with heap:=Tz,toks:=Vw}) WT gU (by decide) (by decide) rfl λN U r WM=>l _ _ ?_);have fin:∀{h:Heap}{tk:Nat}{Eu:List Str}{mM:Str->Option Value}{Q':Value->Shared->Prop}{p1 p2:Pos},MB c X w d md b s.heap L cA Eu (BR (BR (BR m "is_class" (.bool cl)) "found" (.ref a)) "parent" pv) h->FM X d md s.heap L cA a da x mM h->(∀y∈x::S',y∈Eu)->
   wpAny (Mo c) (A.deeper env) (execs [.Return (some (.Name "found" p1)) p2] env) (λf s'=>Q (QU f) s') E' {s with heap:=h,toks:=tk}:=by
  intro h tk Eu mM Q' p1 p2 M F hs;exact Xct (Xfs (Bj V lf (by decide) (s:={s with heap:=h,toks:=tk}) M.ns ((BO (by decide)).trans Cn) (k h tk _ M.kp (M.W.wk (λz q=> .inl q) hs) ⟨a,da,mM,rfl,λq=>F.na (.inl q),λq=>F.nd (.inl q),F.dd,F.dm,F.ga,F.gd,F.fs,F.nm⟩)))
 haveI Zd:∀y∈x::S',y∈IU cl::Rk:=λy hy=> .tail _ (TN y (Xdf _ hy));haveI qn:∃mW,BA N d mW (wN b)/\mW "is_ready"=some (.bool b):=let⟨mW,_,_,D⟩:=r.W.gd;⟨mW,D.ns,D.NP⟩;refine Xct (wpAny_If (isTrue_plain (MP C G (s:={s with heap:=N,toks:=U}) (r.base g) r.W rfl (by decide) rfl qn (λhq=>L0 r hq) λu0 u0 u0=>sd (λeb=>?_) λu0=>Xdm (fin (Q':=Q) r WM Zd))))
 ·exact Xct (Xes (JU C G (s:={s with heap:=N,toks:=U+1}) (r.base g) r.W (nm:="give_own") (f:=614) (by decide) rfl rfl (by decide) pP (λhq=>L0 r hq) (Xc5 (Bj V ln (by decide) (s:={s with heap:=N,toks:=U+1}) r.ns ((BO (by decide)).trans ((BO (by decide)).trans ((BO (by decide)).trans FZ))) (args_nil ⟨r.base g,Yn C G (A:=A.deeper env) (show A.depth+1<990 from rm hA (by decide)) (s:={s with heap:=N,toks:=U+1}) (r.base g) (eb▸ r.W) I.z λXbx Xb6 Vi=>(Xdm (fin (Q':=Q) (r.stays g Vi) (WM.at (λo e=>Vi _ _ e) λo e=>Vi _ _ e) Zd))⟩)))) PR (CM rfl))
end
theorem WR.has(W:WR c X w d md b S h)(f:h.DictOf (strKind c.prog c.w) md j)(e:(∀a∈j,a.1∈ET.map (·.1)/\DV X d md h a.1 a.2)/\∀y∈S,y∈j.map (·.1))(g:(x,v)∈j):WR c X w d md b (x::S) h:=
 ⟨W.gw,W.gd,(BS j f e.1 (λy hy=>by
  rcases Xcs.mp hy with rfl|hy
  ·exact Xc3 g
  ·exact e.2 y hy)),W.ne,W.bd,W.bm,W.sy⟩
section
variable {c:Cx}(C:c.Ok)(G:Co c)
include C G
set_option tactic.hygienic true in
theorem Ly:∀n S x,Na n S x=true->BC c n S x
 |0,_,_,h=>fT h
 |n+1,S,x,h=>by
  refine AJ (Lx h) λM ZA h=>?_;obtain⟨par,cl,mix⟩:=M;simp only[Xfa,Xd5]at h;haveI I:=j7 ZA;haveI Th:=Xcj (Xce.mp (by kernel_rfl:(OY.all λq=>decide (q.2.2.2.length<=1000))=true) _ (E9 ZA));intro A E X s w d md b t S' Q hS hX hh hA hU st W k;refine AB λN=>Aj (G.fn ⟨602,"World","builtin",none⟩ (Ai 44)) λps body sc E5 G8=>?_;cases E5.symm.trans jG;refine N ?_;haveI hd:Eo K8.1 K8.2.2 ["self","name"]=true:=by kernel_rfl
  haveI lf:K8.2.2.names.lookup ("found":Str)=some .local:=by kernel_rfl
  haveI Te:((DD 0 3).endLine==(DD 0 5).line)=true:=by kernel_rfl
  haveI Tf:((DD 1 4).endLine==(DD 1 6).line)=true:=by kernel_rfl
  ·refine Bf (F1 hd) λp _ _=>?_;haveI ls:=p.loc "self" (.head _);haveI ln:=p.loc "name" (by first|decide|simp);refine KK C st G8 (lin [A.depth,n] 18192433867327008178743607271332308578433 rfl hA) (binds:=(["self","name"]:List Str).zip [.ref w,.str x t]) p (Fy hd (.inl (AX rfl rfl rfl))) λu BW E' B j=>?_;generalize hL:s.heap.objs.size=L at B ⊢;have fL:s.heap.get? L=none:=hL▸ Bg;have V:=G5 (L:=L) (a:=602) (q:=Dk.qual ⟨602,"World","builtin",none⟩) (code:=u) p;haveI sb:=st.trans j;have i:=(W.more (Z:=λa=>a=L) (by rintro a rfl;exact fL)).kp j;refine AB λN=>Bf (W.fresh fL) λf1 f2 f3=>Ay i.gd λmW _ _ D=>AJ i.gm λCS hD l=>?_;refine N (Xct (Xew (Xe5 (MP C G sb i rfl (by first|decide|simp) rfl (AG mW D.ns D.JS) (λhq=>Bj V ls (by decide) B rfl hq) (XT hD (Xf5 (Xc5 (Bj V ln (by decide) B rfl (args_nil (kR hD W.sy ?_)))) rfl rfl))) (N7 rfl rfl (by first|decide|simp) Te)) (CM rfl)));refine L7 V (s:={s with heap:=BW,toks:=s.toks+2+1+1}) lf B λH m O=>?_;haveI r:=i.off (λa q=> .inr q) (Ne.symm f3) (Ne.symm f1) (Ne.symm f2) λb o nb e=>(O.2 b nb).trans e;have Y:=λb o e=>(O.2 b λq=>nH q fL e).trans (j b o e);haveI g:=st.trans Y;refine Xct (Xfs (IfExp_ (Xe4 (Bj V lf (by decide) (s:={s with heap:=H,toks:=s.toks+2+1+1+1}) m Cn (Xdq ?_)))));cases hv:valueAt CS x with
   |some v=>
    haveI hm:=Xaj hv;refine AB λN=>Aj ((l.1 _ hm).2) λa da mM BV _=>?_;obtain rfl:=BV;refine N (is_none_ne (by first|decide|simp) λu0 u0 u0=>Bj V lf (by decide) m Cn ?_);haveI J:=(i.has hD l hm).off (λa q=> .inr q) (Ne.symm f3) (Ne.symm f1) (Ne.symm f2) λb o nb e=>(O.2 b nb).trans e;exact hv▸ k H _ _ (.of Y) (J.wk (λa q=> .inl q) λy q=>q) ((l.1 _ hm).2.tr λb o n e=>(AH ((O.2 b λq=>n (.inr q)).trans e) λz=>n (.inl z)))
   |none=>
    refine is_none_none λu0 u0 u0=>?_;have r8:=Xak hv;haveI hs:S.contains x=false:=by rw[<-Bool.not_eq_true,Xcw];exact λq=>r8 (l.2 x (hS x q))
    rw[hs]at h;refine AB λN=>Ax (h.resolve_left (by first|decide|simp)) λM hm=>?_;obtain⟨hp,ho⟩:=M;refine N (JU C G g r (f:=607) (by first|decide|simp[meths]) rfl rfl (by first|decide|simp) Tf (λhq=>Bj V ls (by decide) m ((BO (by decide)).trans rfl) hq) (Xc5 (Bj V ln (by decide) m ((BO (by decide)).trans rfl) (args_nil (AH g (uq C G I Th (λy hy=>Ly n _ y (by haveI:=hp;replace this:=hy▸ this;simpa using this)) (Ly n _ _ ho) (λz hz=>Ly n _ z ((Xce.mp hm) z hz)) hS (λa q=>?_) hh (rs hA (by decide)) (rs hU (by decide)) g r λCt U Xau T Ew iJ=>?_))))))
    ·rcases q with q|q
     ·exact AK (hX a q) λo e=>(AN o (Y _ _ e))
     ·exact rL q (Aj m λo _ _ e _=>(AN o e))
    ·exact k Ct U Xau ((Kp.of Y).trans T) (Ew.wk (λa q=> .inl q) λy q=>q) (iJ.tr λb o n e=>(AH e λz=>n (.inl z)))
end
noncomputable def ED:=(CT Cd "World" "__init__").get (by kernel_rfl)
def fh:List (List Pos×List Nat):=((ED.2.1.drop 8).drop 6).map (Ja 3)
def Br(i j:Nat):Pos:=(fh.getD i ([],[])).1.getD j default
def fi(i j:Nat):Nat:=(fh.getD i ([],[])).2.getD j 0
theorem Xaz:CT Cd "World" "__init__"=some (ED.1,ED.2.1,ED.2.2):=by kernel_rfl
theorem Xay:(ED.2.1.drop 8).drop 6=[
  .Assign [.Attribute (.Name "self" (Br 0 0)) "main" (Br 0 1)] (.Call (.Name "Thing" (Br 0 2)) [.Call (.Attribute (.Name "self" (Br 0 3)) "number" (Br 0 4)) [] [] (Br 0 5),.Call (.Attribute (.Name "self" (Br 0 6)) "builtin" (Br 0 7)) [.Constant (.str "Object") (fi 0 0) (Br 0 8)] [] (Br 0 9)] [] (Br 0 10)) (Br 0 11),
  .Assign [.Attribute (.Name "self" (Br 1 0)) "is_ready" (Br 1 1)] (.Constant (.bool true) (fi 1 0) (Br 1 2)) (Br 1 3),
  .For (.Name "name" (Br 2 0)) (.Call (.Name "list" (Br 2 1)) [.Attribute (.Name "self" (Br 2 2)) "made" (Br 2 3)] [] (Br 2 4)) [.Expr (.Call (.Attribute (.Name "self" (Br 2 5)) "give_own" (Br 2 6)) [.Name "name" (Br 2 7)] [] (Br 2 8)) (Br 2 9)] [] (Br 2 10)]:=by kernel_rfl
theorem WR.yx(W:WR c X w d md b S h)(g:BA h d mW n)(f:Heap.SameBut d h h')(g':BA h' d (BR (BR mW "main" u) "is_ready" (.bool b')) (wN b')):WR c X w d md b' S h':=by
 refine AB λm=>Ay W.gd λr na pr D=>?_;have:=cG g D.ns;subst this;have l:∀{x:Str}{v:Value},x≠("main")->x≠("is_ready")->mW x=some v->BR (BR mW "main" u) "is_ready" (.bool b') x=some v:=λs z e=>(BO z).trans ((BO s).trans e);have k:∀b o,b≠d->h.get? b=some o->h'.get? b=some o:=λb o nb e=>(f.2 b nb).trans e;refine m (W.dw f {D with ns:=g',has:=λy p a=>?_,NC:=λy p=>(BO (by rintro rfl;exact p (by decide))).trans ((BO (by rintro rfl;exact p (by decide))).trans (D.NC y p)),num:=let⟨j,t,e⟩:=D.num;(BM j t (l (by decide) (by decide) e)),JS:=l (by decide) (by decide) D.JS,NP:=Cn,nat:=l (by decide) (by decide) D.nat,pre:=l (by decide) (by decide) D.pre,gn:=k _ _ D.nd D.gn,gp:=k _ _ D.pd D.gp});by_cases q:y="is_ready"
 ·exact⟨_,by exact rL q Cn⟩
 ·exact AK (D.has y p a) λv i=>⟨v,l a q i⟩
section
variable {c:Cx}(C:c.Ok)(G:Co c)
include C G
theorem uo(O:A.depth+4<1000)(st:AS c.base s.heap)(k:∀x r tk,AS s.heap r->Q (.ref x) {s with heap:=r,toks:=tk}):wpAny (Mo c) A (call (.ref 72) [vn,vo]) Q E s:=by
 have Z:=G.cls ⟨72,69,DQ⟩ (Ai 1);refine Q6 C st Z λx l b M D a u m=>AB λJ=>Aj (G.fn ⟨69,"Thing","__init__",none⟩ (Ai 34)) λV body sc n h=>?_;have g:=G.Fe;have g:=(ar (al (al (al (al (al g))))));have g:=JO g n;have H:=al g;have v:=ar g;refine Bf (F1 H) λd _ _=>J (KJ C (st.trans a) h (by show A.depth+1<1000;omega) (binds:=tn.zip [.ref x,vn,vo]) d (Fy H (.inl (AX rfl rfl rfl))) λj i B Y=>?_);have L:b.objs.size≠l:=λq=>by refine AB λJ=>Ay m λo _ _ w=>?_;obtain⟨e,_⟩:=w;exact J (nH (q).symm Bg e)
 have I:Cp s.heap b.objs.size x 72 l _ (λU=>none) 0 i:=⟨a.trans Y,B,Y _ _ u,m.at λU e=>Y _ _ e,D,L⟩;refine Pg C (G5 d) (G.blt ("list",.type "list") (by decide)) Z (s:={s with heap:=i,toks:=s.toks+3}) st (d.loc _ (by decide)) rfl Nq v (Gn (by kernel_rfl)) I (by decide) (Hj (by kernel_rfl)) λT f N z t p=>⟨rfl,k x T f z.st⟩
end
section
variable {c:Cx}(C:c.Ok)(G:Co c)(HU:∃o,c.base.get? sysModules=some o)
include C G HU
theorem Xa1(hh:A.handled=none)(hA:A.depth+100<1000)(hU:A.units+500<9990)(st:AS c.base s.heap)(hX:∀a,X a->∃o,s.heap.get? a=some o)(gn:s.heap.get? na=some (dictOf [] 0))(r5:¬X na)(Ti:(na==sysModules)=false)
  (k:∀w d Y h' tk,s.heap.get? w=none->s.heap.get? d=none->s.heap.get? Y=none->AS s.heap h'->WR c X w d Y true [] h'->Q (.ref w) {s with heap:=h',toks:=tk}):wpAny (Mo c) A (call (.ref 800) [.ref na]) Q E s:=by
 have Z:=G.cls G1 (Ai 7);refine Q6 C st Z λw d BW fw fd Fp gw gd=>AB λkk=>Aj (G.fn ⟨560,"World","__init__",some 553⟩ (Ai 42)) λps body sc E5 G8=>?_;cases E5.symm.trans Xaz;haveI hq:=Xay;have hd:Eo ED.1 ED.2.2 ["self","natives","prelude","read","most"]=true:=by kernel_rfl
 have bG:ED.2.2.names.lookup ("name":Str)=some .local:=by kernel_rfl
 have tj:ED.2.2.names.lookup ("Thing":Str)=some .globalImplicit:=by kernel_rfl
 have uM:ED.2.2.names.lookup ("list":Str)=some .globalImplicit:=by kernel_rfl
 have qL:Iz ED.2.2 (Nw.take 8) (ED.2.1.take 8)=true:=by kernel_rfl
 have qM:Iz ED.2.2 (Nw.drop 8) ((ED.2.1.drop 8).take 6)=true:=by kernel_rfl
 have Te:((Br 0 4).endLine==(Br 0 5).line)=true:=by kernel_rfl
 haveI Tf:((Br 0 7).endLine==(Br 0 9).line)=true:=by kernel_rfl
 haveI qq:((Br 2 6).endLine==(Br 2 8).line)=true:=by kernel_rfl
 refine Bf (F1 hd) λBa _ _=>kk ?_;have r:=Ba.loc "self" (by decide);haveI gt:=G.sm (553,CY [.none,.none,.int 20000 1135]) (Ai 11);haveI hb:O2 ["self","natives","prelude","read","most"] [.ref w,.ref na] (.ref 553) BW ((["self","natives","prelude","read","most"]:List Str).zip [.ref w,.ref na,.none,.none,.int 20000 1135]):=
  .inr (GQ 553 _ [.none,.none,.int 20000 1135] 0 rfl (Fp _ _ (st _ _ gt)) rfl (Xch rfl) (by decide) (AH (by rfl) (by rfl)))
 refine KJ C (st.trans Fp) G8 (show A.depth+1<1000 from rn hA (by decide)) (binds:=(["self","natives","prelude","read","most"]:List Str).zip [.ref w,.ref na,.none,.none,.int 20000 1135]) Ba (Fy hd hb) λcode Gk Cs Jl=>?_;dsimp only at Cs Jl ⊢;refine Gh λRb RH pY=>?_;generalize hL:BW.objs.size=L at Cs ⊢;have Xv:BW.get? L=none:=hL▸ Bg;have V:=G5 (L:=L) (a:=560) (q:=Dk.qual ⟨560,"World","__init__",some 553⟩) (code:=code) Ba;haveI PR:=Pk (L:=L) (a:=560) (q:=Dk.qual ⟨560,"World","__init__",some 553⟩) (code:=code) Ba.kind;generalize Xbv:DX ED.2.2 L (Dk.qual ⟨560,"World","__init__",some 553⟩) 560 code=env at V PR ⊢;have Ld:L≠d:=λq=>by refine Ay gd λo _ _ Ap=>?_;obtain⟨e,_⟩:=Ap;exact nH (q).symm Xv e
 haveI gZ:Cp s.heap L w 800 d (λy=>((["self","natives","prelude","read","most"]:List Str).zip [.ref w,.ref na,.none,.none,.int 20000 1135]).reverse.lookup y) (λu0=>none) 0 Gk:=⟨Fp.trans Jl,Cs,Jl _ _ gw,gd.at λu0 e=>Jl _ _ e,fd,Ld⟩;haveI ZJ:∀q∈Nw,q.1∈G1.fs:=Gn (by kernel_rfl);haveI TB:=G.blt ("list",.type "list") (by decide);refine rR (Xed 8 ED.2.1) (Ph C V TB Z st r rfl (Nw.take 8) qL (λq hq=>ZJ q (Xet hq)) gZ (by decide) (Hj (by kernel_rfl)) λCt LK uc O k₁ j=>rR (Xed 6 (ED.2.1.drop 8)) (rL hq ?_));have g0:∀b o,Ct.get? b=some o->b≠d->(hideAll Ct [d]).get? b=some o:=λb o e n=>hideAll_get [d] e (by simpa using n);haveI gg:Cp (hideAll Ct [d]) L w 800 d (λy=>((["self","natives","prelude","read","most"]:List Str).zip [.ref w,.ref na,.none,.none,.int 20000 1135]).reverse.lookup y) uc 8 Ct:=⟨λb o e=>of_hideAll [d] e,O.ns,O.gx,O.gd.le (by decide),hideAll_none [d] (.head _),Ld⟩;have bd:c.base.get? d=none:=Dn (λo e=>st _ _ e) fd;haveI yn:=λb o e=>g0 b o (O.st _ _ (st _ _ e)) λq=>nH q bd e;refine Ph C V TB Z (s:={s with heap:=Ct,toks:=LK}) yn r rfl (Nw.drop 8) qM (λq hq=>ZJ q (Xd1 hq)) gg (by decide) (Hj (by kernel_rfl)) λGl Nr ud U k₂ u=>AB λkk=>?_;refine C7 j rfl λj=>te j λpr mpr Ys j=>C7 j rfl λj=>C7 j rfl λj=>Mx j λt5 j=>Mx j λt6 j=>Mx j λt7 j=>Gq j λa8 m8 g8 j=>
  Gq (Ko j u) λY Ui Yr u=>Mx u λt2 u=>Mx u λt3 u=>Gq u λa4 m4 g4 u=>UM u λa5 m5 g5 u=>Kn u λu=>kk ?_
 replace U:=JR (P:=λm=>Cp _ _ _ _ _ _ m _ _) u U;have Qj:=λb o e=>U.st _ _ (g0 b o (O.st _ _ e) λq=>nH q fd e);haveI Yt:=U.st _ _ (g0 _ _ Ys mpr.2);have vw:pr≠Y:=λq=>by haveI:=g0 _ _ Ys mpr.2;exact nH q Ui.1 this
 haveI vj:na≠d:=λq=>nH q fd gn;have MR:s.heap.get? Y=none:=Dn (λo e=>g0 _ _ (O.st _ _ e) λq=>nH q fd e) Ui.1;haveI vl:na≠Y:=λq=>nH q MR gn;haveI noSys:∀{b:Addr},s.heap.get? b=none->(b==sysModules)=false:=λ{b}e=>by rw[Xd8];rintro rfl;refine AK HU λo e'=>?_;rw[st _ _ e']at e;exact sN e
 haveI jK:c.base.get? Y=none:=Dn (λo e=>st _ _ e) MR;have mS:s.heap.get? L=none:=Dn (λo e=>Fp _ _ e) Xv;have Xj:∀{b:Addr},Gl.get? b=some (dictOf [] 0)->b≠L:=λ{b}e q=>by
  obtain⟨o,es,ep,e',dd,_,hm⟩:=Dd U.ns;rw[<-q,e]at e';obtain rfl:=sS e';cases dd;have:=hm "self";cases this
 haveI OI:WR c (λa=>X a\/a=L) w d Y false [] Gl:=by
  refine⟨U.gx,(Cf _ na pr ⟨U.gd.le (by decide),zP (by kernel_rfl),?_,⟨0,t6,by rfl⟩,by rfl,by rfl,by rfl,by rfl,vj,vl,mpr.2,vw,⟨?_,?_⟩,⟨Ti,noSys mpr.1⟩,Qj _ _ gn,Yt⟩),(BS [] (Xa Yr) (λkv hk=>by simp at hk) λy hy=>by simp at hy),λq=>Ui.2 q.symm,bd,jK,noSys MR⟩
  ·exact Es (by kernel_rfl) (Es (by kernel_rfl) (Es (by kernel_rfl) (Es (by kernel_rfl) (Es (by kernel_rfl) (Es (by kernel_rfl) (Es (by kernel_rfl) (Es (by kernel_rfl) (Es (by kernel_rfl) (Es (by kernel_rfl) (Es (by kernel_rfl) (Es (by kernel_rfl) (Es (by kernel_rfl) (Es (by kernel_rfl) λu0 u0=>rfl)))))))))))))
  ·rintro(q|q)
   ·exact r5 q
   ·exact Xj (Qj _ _ gn) q
  ·rintro(q|q)
   ·exact AK (hX _ q) λo e=>nG mpr.1 e
   ·exact Xj Yt q
 haveI dA:(A.under (.builtin "type.__call__" ⟨[.ref 800,.ref na],[]⟩)).depth=A.depth+1:=rfl;haveI uA:(A.under (.builtin "type.__call__" ⟨[.ref 800,.ref na],[]⟩)).units=A.units+1:=rfl;generalize pQ:A.under (.builtin "type.__call__" ⟨[.ref 800,.ref na],[]⟩)=A' at dA uA;have Tc:A'.handled=none:=pQ▸ hh;haveI dE:(A'.deeper env).depth=A.depth+2:=by show A'.depth+1=_;exact rL dA rfl
 haveI uE:(A'.deeper env).units=A.units+4:=by show A'.units+3=_;exact rL uA rfl
 have PL:(A'.deeper env).depth+98<1000:=dE▸ rp hA (by decide);haveI pn:(A'.deeper env).units+490<9990:=uE▸ rp hU (by decide);have Xw:¬Bz d Y L:=λq=>q.elim Ld λq=>by rw[q]at U;obtain⟨o,es,ep,e',dd,_,hm⟩:=Dd U.ns;rw[Yr]at e';obtain rfl:=sS e';cases dd;haveI:=hm "self";cases this
 have kept:∀{h h':Heap},AS s.heap h->Kp (Bz d Y) h h'->AS s.heap h':=λa b x o e=>b x o (λq=>by
  rcases q with q|q
  ·exact nH q fd e
  ·exact nH q MR e) (a x o e)
 have cF:∀{h h':Heap}{m:Str->Option Value},Kp (Bz d Y) h h'->h.Ns L m->h'.Ns L m:=λk n=>F7 n λu0=>k _ _ Xw;have S2:=st.trans Qj;refine Xct (Gh λHG WK J=>Xda (Oa C S2 V tj (G.gl ("Thing",.ref 72) (by decide)) (by decide) rfl (Xc5 (bP C G S2 OI (f:=581) (by decide) rfl Te (λhq=>Bj V r (by decide) (s:={s with heap:=Gl,toks:=Nr}) U.ns rfl hq) (Uu C G.toFG (rn (e:=0) PL (by decide)) (s:={s with heap:=Gl,toks:=Nr}) S2 OI λMk Vx i ti aj Wa=>?_)))) (CM rfl));have Ng:=kept Qj aj;have JX:=cF aj U.ns;haveI S3:=st.trans Ng;refine Xc5 (JU C G (s:={s with heap:=Mk,toks:=Vx}) S3 Wa (nm:="builtin") (f:=602) (by decide) rfl rfl (by decide) Tf (λhq=>Bj V r (by decide) (s:={s with heap:=Mk,toks:=Vx}) JX rfl hq) (Xc5 (Xef (args_nil (AH S3 (Ly C G 8 [] "Object" (by decide+kernel) (A'.deeper env) _ _ {s with heap:=Mk,toks:=Vx+1} w d Y false _ [] _ (λy hy=>hy) (λa q=>?_) Tc (rp PL (by decide)) (rp pn (by decide)) S3 Wa λMl f5 Qz am Rn Xbr=>?_))))))
 ·rcases q with q|q
  ·exact AK (hX a q) λo e=>(AN o (Ng _ _ e))
  ·exact rL q (Aj JX λo _ _ e _=>(AN o e))
 have VX:=kept Ng am;have w5:=cF am JX;refine args_nil (AH (st.trans VX) (uo C G (A:=A'.deeper env) (rn PL (by decide)) (s:={s with heap:=Ml,toks:=f5}) (st.trans VX) λx Kg Jm VY=>?_));have eP:=VX.trans VY;haveI cD:=VY.ns w5;have Ls:=(Rn.wk (λa q=>q) (T:=[]) λy hy=>by simp at hy).kp VY;refine Bj V r (by decide) (s:={s with heap:=Kg,toks:=Jm}) cD rfl (AB λkk=>Ay Ls.gd λmW _ _ D7=>kk ?_);refine NY C (s:={s with heap:=Kg,toks:=Jm}) (st.trans eP) Z Ls.gw D7.ns fY (by decide) λJM f6 g8 QZ=>J _ _ ?_;haveI n8:(if(mW "main").isSome then wN false else wN false+1)<=51:=by split<;>decide
 haveI wK:w≠d:=Ls.wd;have eQ:AS s.heap JM:=eP.sameBut fd QZ;haveI cE:=cD.sameBut QZ Ld;refine Xct (Gh λHG WK J=>Xda (Xg8 (Bj V r (by decide) (s:={s with heap:=JM,toks:=f6}) cE rfl (NY C (s:={s with heap:=JM,toks:=f6}) (st.trans eQ) Z ((QZ.2 w wK).trans Ls.gw) (g8.le n8) (by decide) (by decide) λB Qv g9 VL=>J _ _ ?_))) (CM rfl));rw[show(BR mW "main" (Value.ref x) "is_ready")=some (.bool false)from(BO (by decide)).trans D7.NP]at g9;have I:WR c (λa=>X a\/a=L) w d Y true [] B:=Ls.yx (b':=true) D7.ns (QZ.trans VL) (g9.le (by decide));have VZ:AS s.heap B:=eQ.sameBut fd VL;have QA:=cE.sameBut VL Ld;haveI S4:=st.trans VZ;refine AB λkk=>Ay I.gd λue _ _ D9=>Bh I.gm λCS hD Mg _=>AK hD.dictAt λep pU=>?_;refine kk ?_;haveI hlen:CS.length<=40:=by
  haveI nd:(CS.map (·.1)).Nodup:=W8 (id hD) λ_ _ _ _ _ _ _ _ q=>q
  haveI:=UX nd (t:=ET.map (·.1)) λy hy=>by refine AJ (Xdc.mp hy) λq hq BV=>?_;obtain rfl:=BV;exact(Mg q hq).1
  rw[EN]at this;exact Xcq this (by decide)
 refine Xct (Gh λHG WK J=>wpAny_For (Oa C (s:={s with heap:=B,toks:=Qv}) S4 V uM TB (by decide) rfl (Xc5 (MP C G (s:={s with heap:=B,toks:=Qv}) S4 I rfl (by decide) rfl (AG ue D9.ns D9.JS) (λhq=>Bj V r (by decide) (s:={s with heap:=B,toks:=Qv}) QA rfl hq) (args_nil (AH S4 (kdl_call (s:={s with heap:=B,toks:=Qv+1}) (kdl_dict I.sy) Tc pU (Xcq hlen (by refine rL Xc9 ?_;decide)) λhA zt Cv cc Nh gA sZ=>?_)))))) (MS rfl));dsimp only at gA Nh ⊢;generalize qH:B.objs.size=ax at gA;refine wpAny_pyIter_list (s:={s with heap:=hA,toks:=zt}) (GC gA) ?_;generalize hI:hA.objs.size=N;have Ow:hA.get? N=none:=hI▸ Bg;have S1:ax≠N:=λq=>nH q Ow gA;generalize hP:hA.push {cls:= .type "list_iterator",data:= .fields #[.ref ax,.int 0 0]}=hp;have o3:hp.get? N=some {cls:= .type "list_iterator",data:= .fields #[.ref ax,.int 0 0]}:=rR hP (rR hI (Xcn _ rfl));have Vc:AS hA hp:=hP▸ AS.push _;have eR:AS B hp:=λb o e=>Vc b o (Nh b o e);haveI iL:=((I.kp Nh).more (Z:=λa=>a=N) (by rintro a rfl;exact Ow)).kp Vc;let St:Nat->Heap->Prop:=λi h=>h.IsListIter N ax i/\h.IsList ax Cv;haveI wk:Walks c.prog c.w (A'.deeper env) N [N,ax] [N] Cv.size (λi v=>Cv[i]? =some v) St:=Walks.list (prog:=c.prog) (w:=c.w) (A:=A'.deeper env) Tc N ax S1 Cv;haveI Jh:St 0 hp:=(AH ⟨_,o3,rfl,rfl⟩ (GC (Vc _ _ gA)));have D:(∃o,B.get? d=some o)/\(∃o,B.get? Y=some o)/\(∃o,B.get? w=some o)/\∃o,B.get? L=some o:=(DR I.od I.om ⟨_,I.gw⟩ (w9 QA));have N9:∀{b:Addr},(∃o,B.get? b=some o)->b≠N:=λ{b}⟨o,e⟩q=>by haveI:=Nh _ _ e;exact nH q Ow this
 have Up:d≠L/\Y≠L/\w≠L:=⟨Ne.symm Ld,λq=>Xw (.inr q.symm),λq=>by obtain⟨o,es,ep,e,dd⟩:=Dd QA;rw[<-q,I.gw]at e;obtain rfl:=sS e;cases dd⟩;haveI iq:ax≠L:=λq=>by refine AK D.2.2.2 λo e=>?_;rw[<-qH]at q;exact nH (q).symm Bg e
 haveI vg:∀i(v:Value),Cv[i]? =some v->∃x t,v= .str x t/\x.cps.size<=1000:=λi v e=>by
  refine Ce (sZ.2 i v e) λkk xx e1 e2=>AK (Value.isStrOf_shape e2) λt ht=>(Di kk t ht ?_);haveI:=(Mg _ (Xc0 e1)).1;haveI all:(ET.map (·.1)).all (λy=>decide (y.cps.size<=1000))=true:=by decide+kernel
  simpa using(Xce.mp all) _ this
 refine ql λK1 ph=>codeAny_forLoop_any (λm s'=>∃i m',B4 s s'/\AS s.heap s'.heap/\WR c (λa=>(X a\/a=L)\/a=N) w d Y true [] s'.heap/\s'.heap.Ns L m'/\m' "self"=some (.ref w)/\St i s'.heap/\m=Cv.size - i/\i<=Cv.size) ?_ (Cv.size - 0)
  (W9 0 _ ⟨rfl,rfl,rfl⟩ (λb o e=>eR _ _ (VZ b o e)) iL (eR.ns QA) rfl (AX Jh rfl (Xdd _)))
 intro m s' H;refine Gh λi7 gK Ma=>AB λkk=>O1 H λi m' sm eS W' w3 Gi Ap=>Bf Ap λGj Ov hi=>?_;obtain rfl:=Ov;refine kk ?_;haveI cR:∀{h h':Heap},WR c (λa=>(X a\/a=L)\/a=N) w d Y true [] h->(∀b o,b≠N->h.get? b=some o->h'.get? b=some o)->WR c (λa=>(X a\/a=L)\/a=N) w d Y true [] h':=λW k=>W.off (Z:=λa=>a=N) (λa q=> .inr q) (N9 D.2.2.1) (N9 D.1) (N9 D.2.1) k;haveI wq:∀{h h':Heap},WR c (λa=>(X a\/a=L)\/a=N) w d Y true [] h->(∀b o,b≠L->h.get? b=some o->h'.get? b=some o)->WR c (λa=>(X a\/a=L)\/a=N) w d Y true [] h':=λW k=>W.off (Z:=λa=>a=L) (λa q=> .inl (.inr q)) Up.2.2 Up.1 Up.2.1 k;haveI sI:s.heap.get? N=none:=Dn (λu0 e=>Nh _ _ (VZ _ _ e)) Ow;rcases Xfm hi with DK|rfl
 ·refine wk.item i s' _ _ DK Gj λv l g hv PY M=>Ma _ _ ?_;dsimp only;haveI KI:∀b o,b≠N->s'.heap.get? b=some o->l.get? b=some o:=λb o nb e=>M b o (λq=>nb (Xcc.mp q)) e;haveI iM:=cR W' KI;have VV:AS s.heap l:=λb o e=>KI b o (λq=>nH q sI e) (eS b o e);haveI w4:l.Ns L m':=F7 w3 λo=>KI L o (N9 D.2.2.2);show wpAny _ _ (pure ()) _ _ _;refine Xcp (Xek (L7 V (s:={s' with heap:=l,toks:=g}) bG w4 λp Us VK=>?_));have Rm:=wq iM λb o nb e=>(VK.2 b nb).trans e;haveI Qg:AS s.heap p:=VV.sameBut mS VK;refine AB λkk=>Ce (vg i v hv) λx' t' BV JK=>?_;obtain rfl:=BV;refine kk ?_;haveI rP:St (i+1) p:=wk.frame _ _ _ PY λb hb o e=>(VK.2 b λq=>by
   rcases Xcs.mp hb with z|z
   ·exact N9 D.2.2.2 (q.symm.trans z)
   ·rw[Xcc.mp z]at q;exact iq q).trans e
  refine Gh λXbq Xbp pZ=>Xct (Xes (JU C G (s:={s' with heap:=p,toks:=g+1}) (st.trans Qg) Rm (nm:="give_own") (f:=614) (by decide) rfl rfl (by decide) qq (λhq=>Bj V r (by decide) (s:={s' with heap:=p,toks:=g+1}) Us ((BO (by decide)).trans Gi) hq) (Xc5 (Bj V bG (by decide) (s:={s' with heap:=p,toks:=g+1}) Us Cn (args_nil (AH (st.trans Qg) (Yn C G (A:=A'.deeper env) (rn (e:=0) PL (by decide)) (s:={s' with heap:=p,toks:=g+1}) (st.trans Qg) Rm JK λTz Vw Qh=>Xdm<|pZ _ _ (AG (Cv.size - (i+1)) (Nat.sub_succ_lt_self _ _ DK) (W9 (i+1) _ (sm.trans ⟨rfl,rfl,rfl⟩) (Qg.trans Qh) (Rm.kp Qh) (Qh.ns Us) ((BO (by decide)).trans Gi) (AX (wk.frame _ _ _ rP λb u0 o e=>Qh b o e) rfl DK))))))))) PR (CM rfl))
 ·refine wk.done s' _ _ Gj λl g M=>Ma _ _ ?_;have KI:∀b o,b≠N->s'.heap.get? b=some o->l.get? b=some o:=λb o nb e=>M b o (λq=>nb (Xcc.mp q)) e;refine Xdm (ph _ _ (J _ _ (Xdm (pY _ _ (AH rfl ?_)))));haveI VV:AS s.heap l:=λb o e=>KI b o (λq=>nH q sI e) (eS b o e);exact sm.cast (P:=Q (.ref w)) (k w d Y l g fw fd MR VV ((cR W' KI).wk (λa q=> .inl (.inl q)) λy q=>q))
end
abbrev Al(W:Addr->Prop)(h:Heap)(a:Addr):Prop:=W a/\∃o,h.get? a=some o
section
variable {c:Cx}(C:c.Ok){φ:Fm}{n:Nat}(O:AU φ n){W:Addr->Prop}{σ:St}{AE:Nat->List Addr}
include C O
theorem AF.grown(S:AF c φ W σ AE h)(k:AS h h'):AF c φ (Al W h) σ AE h':=
 S.same C O (.keeps k) (λg q=> .inl q.1) (λi=>⟨S.sw i,S.al i⟩) (λj f b d=>⟨S.Bc j f b d,S.DM C j f b d⟩) ⟨S.LW,let⟨m,o,_,_,e,_⟩:=S.LN;⟨o,e⟩⟩ λa ha=>⟨S.tW a ha,C.I8 S.gi a ha⟩
theorem Ex.al(S:AF c φ W σ AE h):∀a,Ex φ (Al W h) a->∃o,h.get? a=some o:=λa q=>q.elim (S.MA a) λq=>q.2
theorem AZ.grown(S:AF c φ W σ AE h)(k:AS h h')(q:Iv c φ W h x v):AZ (c.prog,c.w) c.fl (Ex φ (Al W h)) h' x v:=
 AZ.mono (λb o a e=>⟨k b o e,λz=>a (z.imp id λz=>z.1)⟩) x q
theorem AO.grown(S:AF c φ W σ AE h)(k:AS h h')(q:Dl c φ W h x v):AO (c.prog,c.w) c.fl (Ex φ (Al W h)) h' x v:=
 AO.mono (λb o a e=>⟨k b o e,λz=>a (z.imp id λz=>z.1)⟩) x q
theorem kx(S:AF c φ W σ AE s.heap)(e:B4 s l)(k:AS s.heap l.heap)(R:AZ (c.prog,c.w) c.fl (Ex φ (Al W s.heap)) l.heap y v):Aa c φ W AE s σ (.V y) v l:=
 (AG (Al W s.heap) ⟨e,⟨.keeps k,λb q=> .inl q.1⟩,S.grown C O k⟩ R)
theorem MF(S:AF c φ W σ AE s.heap)(e:B4 s l)(k:AS s.heap l.heap)(B:s.heap.get? x=none)(i:s.heap.get? j=none)
  (f:l.heap.get? x=some (instObj cl j)) (gd:l.heap.Ns j m) (D:(c.fl cl).map m=vs.map some) (R:AO (c.prog,c.w) c.fl (Ex φ (Al W s.heap)) l.heap b vs):Aa c φ W AE s σ (.V (.I cl b)) (.ref x) l:=by
 haveI d:∀{a:Addr},s.heap.get? a=none->¬Ex φ (Al W s.heap) a:=λe z=>by obtain⟨o,q⟩:=Ex.al C O S _ z;exact nG e q
 exact kx C O S e k (RN.mk x j m vs rfl (d B) (d i) f gd D R)
end
section
variable {c:Cx}(C:c.Ok)(G:FG c){A:Around}(hA:A.depth+4<1000){E:Value->Shared->Prop}{s:Shared}(st:AS c.base s.heap){vn vo:Value}{Q:Value->Shared->Prop}
include C G hA st
theorem uh(k:∀x j d tk m b,s.heap.get? x=none->s.heap.get? j=none->AS s.heap d->d.get? x=some (instObj 114 j)->d.Ns j m->(Cc 114).map m=([vn,vo,.ref b,.none,.bool false,.none,.ref a]).map some->Q (.ref x) {s with heap:=d,toks:=tk}):
  wpAny (Mo c) A (call (.ref 114) [vn,vo,.ref a]) Q E s:=by
 haveI f:=G.Fe;haveI e:=G.sm (104,CY [.none]) (Ai 5);refine N5 C G hA st (cl:=⟨114,111,DQ++(["items"]:List Str)⟩) (Ai 3) (λx B=>Xcr _ B) (ar (al (al (al f)))) (dv:=some 104) (Ai 36) (Gn (by kernel_rfl)) (by decide) (λx B=>Xcr _ B) (vn:=vn) (vo:=vo)
  (binds:=λz=>(tn++(["items"]:List Str)).zip [.ref z,vn,vo,.ref a]) (λz d g=> .inr (GQ 104 _ [.none] 0 rfl (g _ _ (st _ _ e)) rfl (Xch rfl) (by decide) (AH (by kernel_rfl) (by kernel_rfl)))) (λz=>by kernel_rfl) (λz=>by kernel_rfl) (λz=>by kernel_rfl) (λz=>by kernel_rfl) (λz=>Hj (by kernel_rfl)) λx j d tk M N h D g T r I l=>?_
 refine AB λJ=>?_;exact C7 I rfl λI=>C7 I rfl λI=>Gq I λa3 U U I=>Ep I λI=>Kn I λI=>Ep I λI=>
  tf (Ko I l) rfl λl=>
  J (k x j d tk _ a3 h D g T (JR l r.ns) (by kernel_rfl))
theorem um(k:∀x j a tk m b,s.heap.get? x=none->s.heap.get? j=none->AS s.heap a->a.get? x=some (instObj 94 j)->a.Ns j m->(Cc 94).map m=([vn,vo,.ref b,.none,.bool false,.none,f]).map some->Q (.ref x) {s with heap:=a,toks:=tk}):
  wpAny (Mo c) A (call (.ref 94) [vn,vo,f]) Q E s:=by
 haveI e:=G.Fe;haveI d:=G.sm (84,CY [.str "" 353]) (Ai 4);refine N5 C G hA st (cl:=⟨94,91,DQ++(["text"]:List Str)⟩) (Ai 2) (λx B=>Xcr _ B) (ar (al (al (al (al e))))) (dv:=some 84) (Ai 35) (Gn (by kernel_rfl)) (by decide) (λx B=>Xcr _ B) (vn:=vn) (vo:=vo)
  (binds:=λz=>(tn++(["text"]:List Str)).zip [.ref z,vn,vo,f]) (λz a g=> .inr (GQ 84 _ [.str "" 353] 0 rfl (g _ _ (st _ _ d)) rfl (Xch rfl) (by decide) (AH (by kernel_rfl) (by kernel_rfl)))) (λz=>by kernel_rfl) (λz=>by kernel_rfl) (λz=>by kernel_rfl) (λz=>by kernel_rfl) (λz=>Hj (by kernel_rfl)) λx j a tk M N h D g T r I l=>?_
 refine AB λJ=>?_;exact C7 I rfl λI=>C7 I rfl λI=>Gq I λa3 U U I=>Ep I λI=>Kn I λI=>Ep I λI=>
  C7 (Ko I l) rfl λl=>
  J (k x j a tk _ a3 h D g T (JR l r.ns) (by kernel_rfl))
theorem ug(k:∀x j a tk m b,s.heap.get? x=none->s.heap.get? j=none->AS s.heap a->a.get? x=some (instObj 213 j)->a.Ns j m->(Cc 213).map m=([vn,vo,.ref b,.none,.bool false,.none,f,.none]).map some->Q (.ref x) {s with heap:=a,toks:=tk}):
  wpAny (Mo c) A (call (.ref 213) [vn,vo,f]) Q E s:=by
 haveI e:=G.Fe;haveI d:=G.sm (203,CY [.none]) (Ai 8);refine N5 C G hA st (cl:=⟨213,210,DQ++(["message","cause"]:List Str)⟩) (Ai 5) (λx B=>Xcr _ B) (ar (al e)) (dv:=some 203) (Ai 38) (Gn (by kernel_rfl)) (by decide) (λx B=>Xcr _ B) (vn:=vn) (vo:=vo)
  (binds:=λz=>(tn++(["message"]:List Str)).zip [.ref z,vn,vo,f]) (λz a g=> .inr (GQ 203 _ [.none] 0 rfl (g _ _ (st _ _ d)) rfl (Xch rfl) (by decide) (AH (by kernel_rfl) (by kernel_rfl)))) (λz=>by kernel_rfl) (λz=>by kernel_rfl) (λz=>by kernel_rfl) (λz=>by kernel_rfl) (λz=>Hj (by kernel_rfl)) λx j a tk M N h D g T r I l=>?_
 refine AB λJ=>?_;exact C7 I rfl λI=>C7 I rfl λI=>Gq I λa3 U U I=>Ep I λI=>Kn I λI=>Ep I λI=>
  C7 (Ko I l) rfl λl=>Ep l λl=>
  J (k x j a tk _ a3 h D g T (JR l r.ns) (by kernel_rfl))
theorem uk(k:∀x j a tk m b,s.heap.get? x=none->s.heap.get? j=none->AS s.heap a->a.get? x=some (instObj 193 j)->a.Ns j m->(Cc 193).map m=([vn,vo,.ref b,.none,.bool false,.none,d,f,e,h,i,p,q,t,u]).map some->Q (.ref x) {s with heap:=a,toks:=tk}):
  wpAny (Mo c) A (call (.ref 193) [vn,vo,d,f,e,h,i,p,q,t,u]) Q E s:=by
 haveI w:=G.Fe;haveI v:=G.sm (183,CY [.none,.none,.none,.none,.ref 182,.none,.none,.bool false,.none]) (Ai 7);refine N5 C G hA st (cl:=⟨193,190,DQ++(["params","body","env","self_value","nesting","home","site","is_lambda","definer"]:List Str)⟩) (Ai 4) (λx B=>Xcr _ B) (ar (al (al w))) (dv:=some 183) (Ai 37) (Gn (by kernel_rfl)) (by decide) (λx B=>Xcr _ B) (vn:=vn) (vo:=vo)
  (binds:=λz=>(tn++(["params","body","env","self_value","nesting","home","site","is_lambda","definer"]:List Str)).zip [.ref z,vn,vo,d,f,e,h,i,p,q,t,u]) (λz a g=> .inr (GQ 183 _ [.none,.none,.none,.none,.ref 182,.none,.none,.bool false,.none] 0 rfl (g _ _ (st _ _ v)) rfl (Xch rfl) (by decide) (AH (by kernel_rfl) (by kernel_rfl)))) (λz=>by kernel_rfl) (λz=>by kernel_rfl) (λz=>by kernel_rfl) (λz=>by kernel_rfl) (λz=>Hj (by kernel_rfl)) λx j a tk M N o D g T r I l=>?_
 refine AB λJ=>?_;exact C7 I rfl λI=>C7 I rfl λI=>Gq I λa3 U U I=>Ep I λI=>Kn I λI=>Ep I λI=>
  C7 (Ko I l) rfl λl=>C7 l rfl λl=>C7 l rfl λl=>C7 l rfl λl=>C7 l rfl λl=>C7 l rfl λl=>C7 l rfl λl=>C7 l rfl λl=>C7 l rfl λl=>
  J (k x j a tk _ a3 o D g T (JR l r.ns) (by kernel_rfl))
end
def FI(c:Cx):Prop:=∀M h t k,c.wa M h t k ↔ ∃w d Y,t=[w,d,Y]/\WR c M w d Y true [] h
section
variable {P:Program×World}{fl:Nat->List Str}{M:Addr->Prop}{h:Heap}
@[elab_as_elim]theorem wC{i:Type}{z:i}{k:Val->List Val->Option i}{xs:List Val}{vs:List Value}{Q:List Value->Prop}(q:cL xs k=some z)(e:AO P fl M h xs vs)(f:∀x r v w,AZ P fl M h x v->AO P fl M h r w->k x r=some z->Q (v::w)):Q vs:=by
 cases xs with
 |nil=>exact nS q
 |cons x r=>exact fN e λv w a b=>f x r v w a b q
@[elab_as_elim]theorem Nv{i:Type}{z:i}{y:Option i}{xs:List Val}{vs:List Value}{Q:List Value->Prop}(q:cN xs y=some z)(e:AO P fl M h xs vs)(f:y=some z->Q []):Q vs:=by
 cases xs with
 |nil=>exact Xae e (f q)
 |cons x r=>exact nS q
theorem UG:∀{fs:List Str},(∀f∈fs,∃v,m f=some v/\handedIn v=true)->∃vs,fs.map m=vs.map some/\AO P fl M h (List.replicate fs.length .any) vs
 | [],_=>(AG [] rfl rfl)
 |f::fs,k=>AB λJ=>AJ (k f (.head _)) λv e H=>AJ (UG λg U=>k g (.tail _ U)) λvs a i=>J (AG (v::vs) (by refine rL Xde (rL e (rL a ?_));rfl) (AO.cons H i))
end
theorem wU:Cc 260=Gv.take 6++(("name":Str)::Gv.drop 7):=by kernel_rfl
theorem vH{c:Cx}(AM:c.fl=Cc)(V:DV X d Y h x v)(B:x.cps.size<=1000000):AZ (c.prog,c.w) c.fl X h (EK x) v:=by refine s7 V λa e T V=>AB λJ=>?_;obtain⟨t,g⟩:=V.nm;obtain⟨i,N,i1⟩:=UG (fs:=Gv.take 6) λf b=>V.fs f (Xet b);obtain⟨j,A,i2⟩:=UG (fs:=Gv.drop 7) λf b=>V.fs f (Xd1 b);refine J ⟨a,e,T,i++(.str x t::j),rfl,V.na,V.nd,V.g,V.gd.ns,?_,AO.append i1 (.cons ⟨⟨t,rfl⟩,B⟩ i2)⟩;rw[AM,wU,Xco,Xde,N,A,g,Xco,Xde]
theorem zB:(JT.all λx=>Na 8 [] x)=true:=by kernel_rfl
theorem uf:(JT.all λx=>decide (x.cps.size<=1000000))=true:=by kernel_rfl
section
variable {c:Cx}(C:c.Ok)(G:Co c)(BG:FI c)(AM:c.fl=Cc){φ:Fm}{n:Nat}(O:AU φ (n+1)){W:Addr->Prop}{σ:St}{AE:Nat->List Addr}
include C G BG AM O
theorem Xl(S:AF c φ W σ AE s.heap)(B:σ.at x= .N (.Z k))(t:AE x=[w,d,Y])(j:Kp (Bz d Y) s.heap a)(I:WR c (Ex φ W) w d Y true [] a)(R:Iv c φ W a y v):
  Aa c φ W AE s (σ.set x (.N (.Z k))) (.V y) v {s with heap:=a,toks:=tk}:=by
 haveI g:=S.lv x;rw[B]at g;haveI f:∀{F:Addr->Prop},Ch F (λb=>b∈AE x) s.heap a:= .of λb o N e=>j b o (λq=>N (by refine rL t ?_;rcases q with q|q<;>refine rR q ?_<;>simp)) e;exact(AG W ⟨.of,⟨f.weaken (λb V=>g.2.1 b V) λU U q=>q,λU q=> .inl q⟩,S.cf C O B f λU=>(BG _ _ _ _).mpr ⟨w,d,Y,t,I⟩⟩ R)
theorem xV(S:AF c φ W σ AE s.heap)(B:σ.at x= .N (.Z k)):wpAny (Mo c) φ.A (call (.ref 581) [.ref ((AE x).headD 0)]) (Aa c φ W AE s (σ.set x (.N (.Z k))) (.V .any)) E s:=by haveI f:=S.lv x;rw[B]at f;refine AB λJ=>Aj ((BG _ _ _ _).mp f.2.2) λw d Y e l=>J (rL e ?_);refine Uu C G.toFG (by haveI:=O.depth;exact lin [φ.A.depth,n] 0x2f0c3a6cd94378406bbf829703f081 rfl this) S.base l λa b i t j I=>Xl C G BG AM O S B e j I ?_;rfl
theorem xW{s:Shared}{x k:Nat}{E:Value->Shared->Prop}(S:AF c φ W σ AE s.heap)(B:σ.at x= .N (.Z k))(p:JT.contains y=true):wpAny (Mo c) φ.A (call (.ref 602) [.ref ((AE x).headD 0),.str y t]) (Aa c φ W AE s (σ.set x (.N (.Z k))) (.V (EK y))) E s:=by haveI f:=S.grown C O AS.refl;haveI i:=f.lv x;rw[B]at i;refine AB λJ=>Aj ((BG _ _ _ _).mp i.2.2) λw d o e l=>J (rL e ?_);have g:=Xcw.mp p;haveI Y:=Xce.mp zB y g;haveI T:=Xcj (Xce.mp uf y g);refine Ly C G 8 [] y Y φ.A E (Ex φ (Al W s.heap)) s w d o true t [] _ (λU q=>q) (Ex.al C O S) O.hand (by haveI:=O.depth;exact lin [φ.A.depth,n] 0x595136eaa476164a4c8d9dee297c5127d375d581 rfl this) (by haveI:=O.units;exact lin [φ.A.units,n] 0x6fa2eca8a1a957eaf8131d8c000000002ee2899986fee7ded9d581 rfl this) S.base l λr j v m I V=>?_;haveI P:=Xl C G BG AM O f B e m (tk:=j) (I.wk (λU q=>q) λU q=> .tail _ q) (vH AM V T);exact AB λJ=>AJ P λQ P R=>J (AG Q ⟨P.sm,⟨P.nx.1.weaken (λb q=>q.1) λU U q=>q,λa q=>(P.nx.2 a q).imp (λz=>z.1) id⟩,P.S⟩ R)
end
theorem ub{σ:St}{a:AR}(h:a.lv σ= .V x)(b:∀i∈a.ix,Cu (σ.at i)=true):a= .V x:=by
 cases a with
 |V y=>cases h;rfl
 |N i=>
  have:=b i (.head _);rw[show σ.at i= .V x from h]at this;exact fT this
theorem ua(h:bL l=some x):l= .V x:=by
 cases l<;>first| ((first|exact nS h|obtain rfl:=Xcl h);done)| (obtain rfl:=Xcl h;rfl)
theorem bM{σ:St}:∀{as:List AR}{xs:List Val},Ug (as.map (AR.lv σ))=some xs->(∀x∈as.flatMap AR.ix,Cu (σ.at x)=true)->as=xs.map .V
 | [],xs,h,_=>by obtain rfl:=Xcl h;rfl
 |a::as,xs,h,d=>by
  refine Uy h λx e h=>Ku h λQ f h=>?_;cases h;refine rL (ub (ua e) λi b=>d i (Xf6.mpr (AG a (.head _) b))) (rL (bM f λi b=>d i (rL (Xft ..) (Xdf _ b))) ?_);rfl
theorem Wf:∀{xs:List Val}{vs:List Value},DT c φ W AE h (xs.map .V) vs->Dl c φ W h xs vs
 | [],vs,e=>e
 |x::xs,vs,⟨v,r,e,Y,T⟩=>Ij.mk v r e Y (Wf T)
theorem dz:∀{xs:List Val}{m:List LV},Bk σ (xs.map .V) m=σ
 | [],m=>by cases m<;>rfl
 |x::xs,[]=>rfl
 |x::xs,l::m=>dz (xs:=xs)
section
variable {c:Cx}(C:c.Ok)(G:FG c)(AM:c.fl=Cc){φ:Fm}{n:Nat}(O:AU φ (n+1)){W:Addr->Prop}{σ:St}{AE:Nat->List Addr}{s:Shared}{E:Value->Shared->Prop}{x:Val}
include C G AM O
theorem xX{xs:List Val}{vs:List Value}(S:AF c φ W σ AE s.heap)(R:Dl c φ W s.heap xs vs)(h:d8 xs=some x):wpAny (Mo c) φ.A (call (.ref 114) vs) (Aa c φ W AE s σ (.V x)) E s:=wC h R λn U L U Y R h=>wC h R λo U N U V R h=>wC h R λl U u U d R h=>Nv h R λh=>wL h d λQ d h=>uL d λa l n i D H i1=>sS h▸ (AB λJ=>(J (uh C G (by haveI:=O.depth;lia) S.base λy q p t m b f j k g r e=>MF C O S .of k f j g r (AM▸ e) (.cons (Y.grown C O S k) (.cons (V.grown C O S k) (.cons (v:= .ref b) rfl (.cons rfl (.cons rfl (.cons rfl (.cons ((vL i D H i1).grown C O S k) AO.nil))))))))))
theorem xY{xs:List Val}{vs:List Value}(S:AF c φ W σ AE s.heap)(R:Dl c φ W s.heap xs vs)(h:d9 xs=some x):wpAny (Mo c) φ.A (call (.ref 94) vs) (Aa c φ W AE s σ (.V x)) E s:=wC h R λn U L U Y R h=>wC h R λo U N U V R h=>wC h R λl U i U a R h=>Nv h R λh=>sS h▸ (um C G (by haveI:=O.depth;lia) S.base λy q d e m b f j k g r D=>MF C O S .of k f j g r (AM▸ D) (.cons (Y.grown C O S k) (.cons (V.grown C O S k) (.cons (v:= .ref b) rfl (.cons rfl (.cons rfl (.cons rfl (.cons (a.grown C O S k) AO.nil))))))))
theorem xZ{xs:List Val}{vs:List Value}(S:AF c φ W σ AE s.heap)(R:Dl c φ W s.heap xs vs)(h:dC xs=some x):wpAny (Mo c) φ.A (call (.ref 213) vs) (Aa c φ W AE s σ (.V x)) E s:=wC h R λn U L U Y R h=>wC h R λo U N U V R h=>wC h R λl U i U a R h=>Nv h R λh=>sS h▸ (ug C G (by haveI:=O.depth;lia) S.base λy q d e m b f j k g r D=>MF C O S .of k f j g r (AM▸ D) (.cons (Y.grown C O S k) (.cons (V.grown C O S k) (.cons (v:= .ref b) rfl (.cons rfl (.cons rfl (.cons rfl (.cons (a.grown C O S k) (.cons rfl AO.nil)))))))))
theorem xa{xs:List Val}{vs:List Value}(S:AF c φ W σ AE s.heap)(R:Dl c φ W s.heap xs vs)(h:dD xs=some x):wpAny (Mo c) φ.A (call (.ref 193) vs) (Aa c φ W AE s σ (.V x)) E s:=wC h R λn U vn U Y R h=>wC h R λo U vo U V R h=>wC h R λy1 U u U Q R h=>wC h R λy2 U w U a R h=>wC h R λy3 U B U d R h=>wC h R λy4 U H U p R h=>wC h R λy5 U J U I R h=>wC h R λy6 U L U e R h=>wC h R λy7 U N U l R h=>wC h R λy8 U T U z R h=>wC h R λy9 U v9 U A R h=>Nv h R λh=>sS h▸ (uk C G (by haveI:=O.depth;lia) S.base λy q i t m b f j k g r D=>MF C O S .of k f j g r (AM▸ D) (.cons (Y.grown C O S k) (.cons (V.grown C O S k) (.cons (v:= .ref b) rfl (.cons rfl (.cons rfl (.cons rfl (.cons (Q.grown C O S k) (.cons (a.grown C O S k) (.cons (d.grown C O S k) (.cons (p.grown C O S k) (.cons (I.grown C O S k) (.cons (e.grown C O S k) (.cons (l.grown C O S k) (.cons (z.grown C O S k) (.cons (A.grown C O S k) AO.nil))))))))))))))))
theorem xU{xs:List Val}{vs:List Value}(S:AF c φ W σ AE s.heap)(R:Dl c φ W s.heap xs vs)(h:d6 xs=some x):wpAny (Mo c) φ.A (call (.ref 49) vs) (Aa c φ W AE s σ (.V x)) E s:=by refine wC h R λy1 U v1 U Q R h=>wC h R λy2 U v2 U d R h=>wC h R λy3 U v3 U q3 R h=>wC h R λy4 U v4 U p R h=>wC h R λy5 U v5 U q5 R h=>Nv h R λh=>wL h Q λy1 Q h=>wL h d λy2 d h=>wL h p λy4 p h=>uL Q λa1 l1 n1 m1 Y H i1=>uL d λa2 l2 n2 m2 g2 A i2=>uL p λa4 l4 n4 m4 g4 j f=>sS h▸ ?_;haveI len:∀{i:List Val}{w:List Value},Dl c φ W s.heap i w->i.length<=1000000->w.toArray.size<=1000000:=λq z=>rL Xcx (rL (AO.length q) z);haveI b:∀{a:Addr},s.heap.get? a=none->¬Ex φ (Al W s.heap) a:=λe z=>AK (Ex.al C O S _ z) λo q=>nG e q;refine uj C G (by haveI:=O.depth;exact lin [φ.A.depth,n] 18010716009935570014733005478642670920577 rfl this) S.base Y g2 g4 (len i1 H) (len i2 A) (len f j) λy dy h' tk m T V k g gd b1 b2 b4 k1 k2 k4 N B l D t r I J u v L=>MF C O S .of k T V g gd (rL AM (rL (show Cc 49=(["required","optional","rest","post","block"]:List Str)from by kernel_rfl) ?_)) (.cons (vL (b B.1) l H (i1.grown C O S k)) (.cons (vL (b t.1) r A (i2.grown C O S k)) (.cons (q3.grown C O S k) (.cons (vL (b u.1) v j (f.grown C O S k)) (.cons (q5.grown C O S k) AO.nil)))));simp only[Xde,Xhg,N,D,I,J,L]
end
def WU(f:Nat):Prop:=∃(i j:Nat)(x:HD)(r:Dk),En[i]? =some x/\FU[j]? =some r/\FT f=some x.fd/\x.id=f/\r.cls=x.cls/\r.name=x.name/\r.dV=none/\BN f=some (.ref r.a)
noncomputable def NU:List (Nat×Nat×Nat):=(List.range 32).map (λk=>(k,k,k))++[(41,32,48),(42,33,49),(50,34,47),(51,35,50)]
def yU(t:Nat×Nat×Nat):Bool:=(En[t.2.1]?).any λx=>(FU[t.2.2]?).any λr=>x.id==t.1&&(r.cls==x.cls&&(r.name==x.name&&(r.dV==none&&BN t.1==some (.ref r.a))))
theorem yj:NU.all yU=true:=by kernel_rfl
theorem yX:NU.map (λt=>FT t.1)=NU.map (λt=>(En[t.2.1]?).map HD.fd):=by kernel_rfl
theorem yV(h:t∈NU):WU t.1:=by refine AB λJ=>AJ (Lx (Xce.mp yj t h)) λx B q=>AJ (Lx q) λr a q=>?_;have e:=Xgo.mp yX t h;rw[B]at e;exact J (GQ t.2.1 t.2.2 x r B a e (eq_of_beq (al q)) (eq_of_beq (al (ar q))) (AX (eq_of_beq (al (ar (ar q)))) (eq_of_beq (al (ar (ar (ar q))))) (eq_of_beq (ar (ar (ar (ar q)))))))
theorem VI(h:FT f=some fd):WU f:=by
 have D:f∈NU.map (·.1):=by
  unfold FT at h;split at h;· subst f;decide
  split at h;· subst f;decide
  split at h;· subst f;decide
  split at h;· subst f;decide
  exact Xcr [41,42,50,51] (Xe7.mpr (Xc8.mp h).1)
 refine AJ (Xdc.mp D) λt a u=>?_;obtain rfl:=u;exact yV a
def oC:Bool:=((List.range 32)++[40,46,47,48,49]).all λf=>match BN f with
 |some v=>MU.contains (NI f,v)
 |none=>false
theorem oE:oC=true:=by kernel_rfl
def oD:Bool:=([("len",.builtin "len"),("int",.type "int"),("str",.type "str"),("abs",.builtin "abs"),("list",.type "list"),("min",.builtin "min"),("isinstance",.builtin "isinstance"),("range",.type "range"),("sorted",.builtin "sorted"),("Params",.ref 49),("ListThing",.ref 114)]:List (Str×Value)).all λx=>HO.contains x||MU.contains x
theorem oG:oD=true:=by kernel_rfl
def ur:Bool:=QE.all λx=>meths.contains x.2&&BN x.1==some (.ref x.2.2)
theorem uv:ur=true:=by kernel_rfl
set_option tactic.hygienic true in
theorem Uc{m i:Type}[BEq m][LawfulBEq m]{a:m}{b:i}:∀{l:List (m×i)},l.lookup a=some b->(a,b)∈l
 | (x,y)::l,h=>by
  rw[Xds]at h;cases e:a==x with
  |true=>rw[e]at h;obtain rfl:=Xcl h;exact rL (Xej.mp e) (.head _)
  |false=>rw[e]at h;exact .tail _ (Uc h)
section
variable {c:Cx}
set_option tactic.hygienic true in
theorem KU(G:FG c):Jv c EA BN:=by
 refine⟨λx v h=>?_,λf h=>?_⟩
 ·have:=Xce.mp oG (x,v) h;simp only[Xfa,Xcw]at this;exact this.elim (G.blt _) (G.gl _)
 ·have D:f∈(List.range 32)++[40,46,47,48,49]:=by
   by_cases q:f<32
   ·exact Xcr _ (Xe7.mpr q)
   ·apply Xdf;have h:NI f≠"":=h;unfold NI at h;rw[Xcm q]at h;cases e:Ux.lookup f with
    |none=>rw[e]at h;exact absurd rfl h
    |some y=>
     exact Xcw.mp (Xce.mp (by kernel_rfl:(Ux.all λq=>[40,46,47,48,49].contains q.1)=true) _ (Uc e))
  have this:(match BN f with|some v=>MU.contains (NI f,v)|none=>false)=true:=Xce.mp oE f D;cases e:BN f with
  |some v=>replace this:=e▸ this;exact(AG v rfl (G.gl _ (Xcw.mp this)))
  |none=>replace this:=e▸ this;exact fT this
theorem Kq(C:c.Ok)(G:Co c)(b:FI c):Jw c EA BN:=by
 intro M l j f h;have h:QG f≠"":=h;have i:∃a,BN f=some (.ref a)/\(QG f,a)∈meths:=by
  unfold QG at h ⊢;cases e:QE.lookup f with
  |some y=>
   have:=Xce.mp uv _ (Uc e);simp only[Xd5,Xej,Xcw]at this;exact(AG y.2 this.2 this.1)
  |none=>
   rw[e]at h;by_cases q:f=43
   ·exact rL q (AG 734 (by kernel_rfl) (by decide))
   ·exact absurd (by simp[q]) h
 refine AJ i λa e D=>(BS a e ((G.me _ D).kp) λs A E m Q W t k=>Aj ((b _ _ _ _).mp W) λw d Y u g=>?_);obtain rfl:=u;exact TA C G t g D (k s.toks)
end
def O3(c:Cx)(Φ:BZ)(n f:Nat)(a:Addr):Prop:=
 ∀A,AU A (n+1)->∀N b r i W M s p E,Φ f (N.map (AR.lv b))=some (r,i)->(N.flatMap AR.ix).Nodup->(∀x∈N.flatMap AR.ix,Cu (b.at x)=true)->DZ N i=true->AF c A W b M s.heap->DT c A W M s.heap N p->
  wpAny (Mo c) A.A (call (.ref a) p) (Aa c A W M s (Bk b N i) r) E s
def Rh(c:Cx):Prop:=∀n A a F b q,((a=881/\q=Str.ofString "_law_due")\/(a=876/\q="_law_bound"))->c.base.get? a=some b->b.data= .func F->AU A (n+1)->A.env.func=some a->A.env.code=F.code->A.env.qual=q++".<locals>."->GS c A EA
section
variable {c:Cx}(C:c.Ok)(G:Co c)(AM:c.fl=Cc)(hs:Rh c)(BG:FI c)
include C G AM hs BG
theorem jl(ih:DU c (callF m) m BN)(Q:FT f=some fd)(o:f≠28)(ha:BN f=some (.ref a))(O:AU A (m+2))(p:G6 (callF m) fuel fd (as.map (AR.lv σ))=some (r,b))
  (hn:(as.flatMap AR.ix).Nodup) (I:∀x∈as.flatMap AR.ix,Cu (σ.at x)=true) (t:DZ as b=true) (S:AF c A W σ M s.heap) (R:DT c A W M s.heap as vs):wpAny (Mo c) A.A (call (.ref a) vs) (Aa c A W M s (Bk σ as b) r) E s:=by
 refine AB λkk=>RB (VI Q) λi j x e hx T N H Y w=>Bf w λe4 e5 q=>?_;replace N:=Q▸ N;obtain rfl:=sS N;replace q:=ha▸ q;cases q;have g:=Xc0 hx;haveI l:=Xce.mp YV x g;simp only[Xfa,Xej,H,o,false_or]at l;refine Aj (G.fn e (Xc0 T)) λB body D n w=>B8 w λoF F z=>?_;obtain⟨J,L,g3,g4⟩:=z;refine kk ?_;unfold T6 at l;replace l:=(show CT Cd x.cls x.name=some (B,body,D)from Y▸ e4▸ n)▸ l;haveI lk:=T5 (d:=⟨x.name,B,body,D,default⟩) l;haveI k:Ef F B body D e.qual .none:=by haveI:=g3;unfold Of at this;replace this:=e5▸ this;exact this
 refine nT C AM.symm (KU G.toFG) ih (Kq C G BG) lk J L k g4 (λso U V h1 h2 h3=>?_) O p hn I t S R;haveI:x.id=29:=by
  haveI v:∀y∈En,y.so=true->y.id=29:=by
   haveI:(En.all λy=> !y.so||y.id==29)=true:=by kernel_rfl
   intro y hy hq;haveI:=Xce.mp this y hy;simpa[hq]using this
  exact v x g so
 haveI h:e.a=881:=by
  replace this:=H▸ this;subst this;haveI:BN 29=some (.ref 881):=by kernel_rfl
  replace this:=ha▸ this;exact Value.ref.inj (Xcl this)
 haveI u:e.qual="_law_due":=by
  haveI:(FU.all λr=>r.a !=881||r.qual=="_law_due")=true:=by kernel_rfl
  haveI:=Xce.mp this e (Xc0 T);simpa[h]using this
 exact hs m U e.a F oF e.qual (.inl ⟨h,u⟩) J L V h1 h2 h3
omit hs in
theorem jU(O:AU A (m+1))(h:d7 (as.map (AR.lv σ))=some r)(S:AF c A W σ M s.heap)(R:DT c A W M s.heap as vs):
  wpAny (Mo c) A.A (call (.ref 581) vs) (Aa c A W M s (Bk σ as (as.map (AR.lv σ))) r) E s:=by
 cases as with
 |nil=>exact nS h
 |cons a as=>cases as with
  |cons b as=>exact nS h
  |nil=>cases a with
   |V x=>exact nS h
   |N i=>
    refine Zo (Q:=λl=>σ.at i=l->wpAny (Mo c) A.A (call (.ref 581) vs) (Aa c A W M s (σ.set i l) r) E s) h (λk h B=>?_) rfl;obtain⟨_,rfl,rfl⟩:=R;exact sS h▸ xV C G BG AM O S B
omit hs in
set_option tactic.hygienic true in
theorem jY(O:AU A (m+1))(h:QP (as.map (AR.lv σ))=some r)(q:∀x∈as.flatMap AR.ix,Cu (σ.at x)=true)(S:AF c A W σ M s.heap)(R:DT c A W M s.heap as vs):
  wpAny (Mo c) A.A (call (.ref 602) vs) (Aa c A W M s (Bk σ as (as.map (AR.lv σ))) r) E s:=by
 cases as with
 |nil=>exact nS h
 |cons a as=>cases as with
  |nil=>exact nS h
  |cons b as=>cases as with
   |cons d as=>exact nS h
   |nil=>cases a with
    |V x=>exact nS h
    |N i=>
     refine Zo (Q:=λl=>σ.at i=l->wpAny (Mo c) A.A (call (.ref 602) vs) (Aa c A W M s (Bk σ [.N i,b] [l,b.lv σ]) r) E s) h (λk h B=>?_) rfl;cases b with
     |N j=>
      haveI n:=q j (.tail _ (.head _));have h:lX (σ.at j) _=some r:=h;cases e:σ.at j with
      |N o=>replace h:=e▸ h;exact nS h
      |_=>replace n:=e▸ n;exact fT n
     |V v=>
      refine AJ R λ_ u p=>GN p λ_ _ f H g=>?_;obtain rfl:=u;obtain rfl:=f;obtain rfl:=g;refine wS h H λy t h=>?_;split at h
      ·rename_i w;exact sS h▸ xW C G BG AM O S B w
      ·exact nS h
omit hs in
set_option tactic.hygienic true in
theorem ja(O:AU A (m+1))(U:Jb f=some g)(H:BN f=some v)(p:g xs=some x)(S:AF c A W σ M s.heap)(R:Dl c A W s.heap xs vs):
  wpAny (Mo c) A.A (call v vs) (Aa c A W M s σ (.V x)) E s:=by
 unfold Jb at U;split at U
 ·rename_i q;obtain rfl:=sS U;rw[q,(by kernel_rfl:BN 40=some (.ref 49))]at H;exact sS H▸ xU C G.toFG AM O S R p
 split at U
 ·rename_i q;obtain rfl:=sS U;rw[q,(by kernel_rfl:BN 46=some (.ref 114))]at H;exact sS H▸ xX C G.toFG AM O S R p
 split at U
 ·rename_i q;obtain rfl:=sS U;rw[q,(by kernel_rfl:BN 47=some (.ref 94))]at H;exact sS H▸ xY C G.toFG AM O S R p
 split at U
 ·rename_i q;obtain rfl:=sS U;rw[q,(by kernel_rfl:BN 48=some (.ref 213))]at H;exact sS H▸ xZ C G.toFG AM O S R p
 split at U
 ·rename_i q;obtain rfl:=sS U;rw[q,(by kernel_rfl:BN 49=some (.ref 193))]at H;exact sS H▸ xa C G.toFG AM O S R p
 ·exact nS U
theorem jk(Q:DU c (callF m) m BN)(I:O3 c (callF (m+1)) (m+1) 28 876):DU c (callF (m+1)) (m+1) BN:=by
 intro D O f v N o r b W M s A E H h n k L S R;by_cases z:f=28
 ·rw[z,(by kernel_rfl:BN 28=some (.ref 876))]at H;exact sS H▸ I D O N o r b W M s A E (z▸ h) n k L S R
 haveI a:I5 m (callF m) 200 f (N.map (AR.lv o))=some (r,b):=h;unfold I5 at a;cases U:Jb f with
 |some g=>
  replace a:=U▸ a;refine HX a λV B a=>jV a λx p a=>?_;cases(sP a).1;cases(sP a).2;clear h L a;cases bM B k;exact dz▸ ja C G AM BG O U H p S (Wf R)
 |none=>
  replace a:=U▸ a;have a:(if f=44 then _ else _)=some (r,b):=a;by_cases d:f=44
  ·rw[Xck d]at a;refine jW a λu l a=>AB λJ=>?_;cases(sP a).1;refine J ?_;cases(sP a).2;rw[d,(by kernel_rfl:BN 44=some (.ref 581))]at H;exact sS H▸ jU C G AM BG O l S R
  rw[Xcm d]at a;by_cases e:f=45
  ·rw[Xck e]at a;refine jW a λu l a=>?_;cases(sP a).1;cases(sP a).2;rw[e,(by kernel_rfl:BN 45=some (.ref 602))]at H;exact sS H▸ jY C G AM BG O l k S R
  replace a:=(Xcm z)▸ (Xcm e)▸ a;unfold KO at a;cases t:FT f with
  |none=>replace a:=t▸ a;exact nS a
  |some T=>
   replace a:=t▸ a;exact AB λJ=>RB (VI t) λi j x y _ _ _ _ _ w=>Bf w λ_ _ q=>J (sS (q.symm.trans H)▸ jl C G AM hs BG Q t z q O a n k L S R)
theorem Wz(I:∀m,(∀k,k<=m->DU c (callF k) k BN)->O3 c (callF (m+1)) (m+1) 28 876):∀m k,k<=m->DU c (callF k) k BN
 |0,k,L=>by
  cases Nat.le_zero.mp L;exact λU U f v N b r i W M s p E U h=>nS h
 |m+1,k,L=>by
  haveI a:=Wz I m;rcases Xfm L with q|q
  ·exact a k (Xfu q)
  ·exact q▸ jk C G AM hs BG (a m (Xc4 _)) (I m a)
theorem jf(I:∀m,(∀k,k<=m->DU c (callF k) k BN)->O3 c (callF (m+1)) (m+1) 28 876)(m:Nat):DU c (callF m) m BN:=Wz C G AM hs BG I m m (Xc4 _)
end
theorem je{n k:Nat}{x:Str}(h:JT.contains x=true):callF (n+1) 45 [.N (.Z k),.V (.str x)]=some (.V (EK x),[.N (.Z k),.V (.str x)]):=by
 have e:QP [.N (.Z k),.V (.str x)]=some (.V (EK x)):=Xck h;show(match QP _ with|some r=>some (r,_)|none=>none)=_;exact rL e rfl
theorem lA{n k:Nat}{x y:Str}(h:JT.contains x=true):callF (n+3) 51 [.N (.Z k),.V (.str x),.V (.str y)]=some (.V (KL (EK x) (LH y)),[.N (.Z k),.V (.str x),.V (.str y)]):=qC [aC (@je (n+1) k x h)]
noncomputable def C8:Option Nat->Val
 |none=> .none
 |some m=> .int m
theorem vU:((List.range 1000).all λn=>decide ((Ak n).cps.size<=10))=true:=by decide+kernel
theorem F6(h:n<1000):(Ak n).cps.size<=10:=Xcj (Xce.mp vU n (Xe7.mpr h))
theorem Ci(x y:Str):(x++y).cps.size=x.cps.size+y.cps.size:=by show(Str.append x y).cps.size=_;unfold Str.append;simp
set_option tactic.hygienic true in
theorem Ww(h:G0 P=some j):∃a b r p O,P= .I 49 [.list a,.list b,r,.list p,O]/\j.1=a.length+p.length/\((r= .none/\j.2=some (a.length+p.length+b.length))\/((∃s,r= .str s)/\j.2=none)):=by
 refine s9 h λc e h=>?_;split at h
 ·rename_i d;subst d;refine GA h λa r h=>GA h λb r h=>GA h λy r h=>GA h λp r h=>GA h λl r h=>U0 h λh=>Pf h λa h=>Pf h λb h=>Pf h λp h=>?_;cases y<;>first|exact nS h|skip
  ·exact sS h▸ (DA a b _ p (BS l rfl rfl (.inl ⟨rfl,rfl⟩)))
  ·exact sS h▸ (DA a b _ p (BS l rfl rfl (.inr ⟨⟨_,rfl⟩,rfl⟩)))
 ·exact nS h
theorem bB{n:Nat}{a b:List Val}{r O:Val}{p:List Val}:callF (n+1) 0 [.V (.I 49 [.list a,.list b,r,.list p,O])]=some (.V (.int (a.length+p.length:Nat)),[.V (.I 49 [.list a,.list b,r,.list p,O])]):=qC []
theorem bU{n:Nat}{P:Val}{j:Nat×Option Nat}(h:G0 P=some j):callF (n+2) 1 [.V P]=some (.V (C8 j.2),[.V P]):=by
 refine Dw (Ww h) λa b r p w=>Bh w λO G Y T=>?_;obtain rfl:=G;rcases T with⟨rfl,T⟩|⟨⟨s,G⟩,T⟩
 ·exact rL T (qC [])
 ·exact rL G (rL T (qC []))
theorem GL{n:Nat}(h:n<1000):FD .H (.int (n:Int))=some (.V (.str (Ak n))):=by
 show(if Nc n=true then some (RV.V (.str (Str.ofString (toString n))))else none)=_;refine rL (Xck (zK (by exact lin [n] 0x19084b87e31a200000025b7f3d48703f081 rfl h))) ?_;rfl
theorem Ey(h:x.cps.size+y.cps.size<=1000000):Bq .Add (.str x) (.str y)=some (.V (.str (x++y))):=by
 show(if x.cps.size+y.cps.size<=1000000 then some (RV.V (.str (x++y)))else none)=_;exact rL (Xck h) rfl
theorem Ek{l k:Nat}:B7 .Eq (.int (l:Int)) (.int (k:Int))=some (.bool (decide (l=k))):=congrArg (λb=>some (Val.bool b)) (decide_eq_decide.mpr Int.ofNat_inj)
theorem l0(l:Nat):B7 .Eq (.int (l:Int)) (.int (l:Int))=some (.bool true):=Ek.trans (rL (Xcy rfl) rfl)
theorem ky{l k:Nat}(q:¬l=k):B7 .Eq (.int (l:Int)) (.int (k:Int))=some (.bool false):=Ek.trans (rL (Xc1 q) rfl)
theorem Vn:(Str.ofString "+").cps.size=1:=by decide+kernel
theorem Nm:(Str.ofString "..").cps.size=2:=by decide+kernel
theorem V5(a:l<1000):Bq .Add (.str (Ak l)) (.str "+")=some (.V (.str (Ak l++"+"))):=Ey (by have G:=F6 a;have f:=Vn;exact lin [(Ak l).cps.size,(Str.ofString "+").cps.size] 1283207233500045921384937883152900251777 rfl G (Xcg f))
theorem Oo(a:l<1000):Bq .Add (.str (Ak l)) (.str "..")=some (.V (.str (Ak l++".."))):=Ey (by have G:=F6 a;have f:=Nm;exact lin [(Ak l).cps.size,(Str.ofString "..").cps.size] 2373340343543150051650172648465317847169 rfl G (Xcg f))
theorem Sl(a:l<1000)(L:k<1000):Bq .Add (.str (Ak l++"..")) (.str (Ak k))=some (.V (.str (Ak l++".."++Ak k))):=Ey (by refine rL (Ci ..) ?_;have G:=F6 a;have f:=F6 L;have i:=Nm;exact lin [(Ak l).cps.size,(Str.ofString "..").cps.size,(Ak k).cps.size] 103208368985758428523638974409524510530469783421825 rfl G f (Xcg i))
theorem SH:CA (l,some l)=Ak l:=Xck rfl
theorem SG(q:¬l=k):CA (l,some k)=Ak l++".."++Ak k:=Xcm q
theorem Wv{n l:Nat}{m:Option Nat}(a:l<1000)(D:∀k,m=some k->k<1000):callF (n+1) 3 [.V (.int (l:Int)),.V (C8 m)]=some (.V (.str (CA (l,m))),[.V (.int (l:Int)),.V (C8 m)]):=by
 cases m with
 |none=>exact qC [aF (GL a),aB (V5 a)]
 |some k=>
  have L:=D k rfl;by_cases q:l=k
  ·exact rR q (rL SH (qC [aM (l0 l),aF (GL a)]))
  ·exact rL (SG q) (qC [aM (ky q),aF (GL a),aB (Oo a),aF (GL L),aB (Sl a L)])
structure gQ(h:Heap)(ea dx:Addr)(tb:Option (Addr×Value))(oe:Obj)(vs:Array Value):Prop where
 g:h.get? ea=some oe
 c:oe.cls= .ref 516
 x:oe.dict=some dx
 d:oe.data= .fields vs
 z:1<vs.size
 t:match tb with
  |none=>vs[1]? =some .none
  |some (T,fl)=>vs[1]? =some (.ref T)/\T≠ea/\∃oT ts,h.get? T=some oT/\oT.data= .fields ts/\ts[3]? =some fl
def Fu(h:Heap)(r j:Addr)(tb:Option (Addr×Value)):Prop:=
 ∃a p,gQ h r j tb a p
theorem Fu.keep{r j:Addr}{tb:Option (Addr×Value)}(x:Fu h r j tb)(k:∀b o,(b=r\/∃a,tb=some (b,a))->h.get? b=some o->h'.get? b=some o):Fu h' r j tb:=by
 refine AB λc=>B8 x λn t w=>?_;obtain⟨e,g,i,l,m,d⟩:=w;refine c (BM n t ⟨k _ _ (.inl rfl) e,g,i,l,m,?_⟩);cases tb with
 |none=>exact d
 |some p=>
  refine AB λc=>?_;obtain⟨T,a⟩:=p;exact Bf d λa1 a2 w=>Ce w λoT q f a3=>c (AX a1 a2 (Di oT q (k _ _ (.inr ⟨a,rfl⟩) f) a3))
def Lj(tb:Option (Addr×Value)):Prop:=tb=none\/∃T,tb=some (T,.none)
def Fw(tb:Option (Addr×Value))(b:Addr):Prop:=∃a,tb=some (b,a)
section
variable {M:Model}{A:Around}{E:Value->Shared->Prop}{s:Shared}
theorem vv(qg:A.frames=some (env::outer))(hl:s.heap.FunFrames base (env::outer))(hf:env.frame=some L)(x:Fu s.heap ea dx tb)(hr:Lj tb)
  (h:∀h' T,(∀b o,b≠ea->¬Fw tb b->b∉(env::outer).filterMap (·.frame)->s.heap.get? b=some o->h'.get? b=some o)->(∀b o,s.heap.get? b=some o->(∀vs,o.data≠.fields vs)->∃sl,h'.get? b=some {o with slots:=sl})->
   Fu h' ea dx (some (T,rawInt L))->s.heap.objs.size<=T->Q () {s with heap:=h'}):wpAny M A (noteFrame (.ref ea) env) Q E s:=by
 have entry:∀B0 oe vs head Z9,B0.heap.FunFrames base (env::outer)->B0.heap.get? ea=some oe->oe.cls= .ref 516->oe.dict=some dx->oe.data= .fields vs->1<vs.size->s.heap.objs.size<=B0.heap.objs.size->
   (∀b o,b≠ea->¬Fw tb b->s.heap.get? b=some o->B0.heap.get? b=some o)->(∀b o,s.heap.get? b=some o->(∀vs,o.data≠.fields vs)->B0.heap.get? b=some o)->B0={s with heap:=B0.heap}->
   wpAny M A (do let a <-frameOf env;let pl <-entryPlaceOf L Z9;let b <-EntryCells.newEntry head a .none (rawInt L) .none pl;setField (.ref ea) 1 b) Q E B0:=by
  intro B0 oe vs head Z9 hl he hc IC hd hsz rK k1 k2 rT;have qb:ea∉(env::outer).filterMap (·.frame):=λhm=>by
   refine AB λkk=>Ax (hl.mem hm) λ_ Ap=>AJ Ap λo ho F2=>kk ?_;rw[he]at ho;injection ho with ho;subst ho;exact F2 vs hd
  refine Xcd (wpAny_frameOf_fun qg hl hf λBW PZ=>Xcd (wpAny_entryPlaceOf λpl Fb=>?_));unfold EntryCells.newEntry newFields;refine Xcd (Xhu ?_ (Fb.sizeOk5 _ _ _ _ _));haveI TY:=(PZ.2.1 ea qb).trans he;let Ib:Obj:={cls:= .type "traceback",dict:=none,data:= .fields ([head,.ref L,.none,rawInt L,.none]++(if pl.isEmpty then List.replicate 6 Value.none else pl)).toArray};haveI TZ:(BW.push Ib).get? ea=some oe:=Xcf _ TY;refine Xim TZ hd hsz ?_;have PM:=Xf4 (Xdt TY);haveI TV:=Xhp hd (·.setIfInBounds 1 (Value.ref BW.objs.size))
  haveI ZG:=Xec (Obj.mapFields (·.setIfInBounds 1 (Value.ref BW.objs.size))) TZ (Obj.isFreed_of_fields TV)
  haveI keep:∀b o,b≠ea->BW.get? b=some o->((BW.push Ib).update ea (Obj.mapFields (·.setIfInBounds 1 (Value.ref BW.objs.size)))).get? b=some o:=λb o qK hb=>by refine rL (Xdv _ _ (Ne.symm qK)) ?_;exact Xcf _ hb
  have pk:((BW.push Ib).update ea (Obj.mapFields (·.setIfInBounds 1 (Value.ref BW.objs.size)))).get? BW.objs.size=some Ib:=by refine rL (Xdv _ _ (Ne.symm PM)) ?_;exact Xcn BW rfl
  haveI rQ:=Xcq rK (Xcg PZ.1.symm);haveI vr:∀b o,s.heap.get? b=some o->(∀vs,o.data≠.fields vs)->b≠ea:=λb o hb F2 q=>by
   haveI:=k2 b o hb F2;rw[q,he]at this;injection this with this;subst this;exact F2 vs hd
  refine rL rT (h _ BW.objs.size (λb o n1 n2 n3 e=>keep b o n1 ((PZ.2.1 b n3).trans (k1 b o n1 n2 e))) (λb o e F2=>?_) (BM _ _ ⟨ZG,(Obj.cls_mapFields _ _).trans hc,?_,TV,by simpa using hsz,by simp[hsz],PM,_,_,pk,rfl,?_⟩) rQ)
  ·exact AK (PZ.2.2 b o (k2 b o e F2)) λsl hs=>(AN sl (keep b _ (vr b o e F2) hs))
  ·clear he hc hd TY TZ TV ZG;obtain⟨oc,od,V0,xR⟩:=oe;cases V0<;>exact IC
  ·first| (simp;done)| (rcases Fb with rfl|⟨_,_,_,_,_,_,_,rfl⟩<;>simp)
 clear h;refine B8 x λoe vs Ap=>?_;obtain⟨he,hc,IC,hd,hsz,Fc⟩:=Ap;unfold noteFrame;simp only[hf];rcases hr with rfl|⟨T,rfl⟩
 ·exact Xcd (Xhw he hd Fc (rL (Xcm (by decide)) (entry s oe vs _ _ hl he hc IC hd hsz (Xc4 _) (λb o u0 u0 e=>e) (λb o e u0=>e) rfl)))
 ·refine AB λkk=>Bf Fc λh1 PM Ap=>GN Ap λoT ts hT TS h3=>kk ?_;refine Xcd (Xhw he hd h1 (rL (Xck (show(Value.ref T !=Value.none)=true from rfl)) (Xcd (Xhw hT TS h3 (rL (Xcm (show ¬((Value.none==rawInt L)=true)from by simp[rawInt])) ?_)))));refine Xcd (Xim hT TS (Xhq.mp h3).1 ?_);have other:∀b,b≠T->(s.heap.update T (Obj.mapFields (·.setIfInBounds 3 Value.none))).get? b=s.heap.get? b:=λb hb=>Xdv _ _ (Ne.symm hb)
  have bz:∀b o,s.heap.get? b=some o->(∀vs,o.data≠.fields vs)->b≠T:=λb o hb F2 q=>by
   rw[q,hT]at hb;injection hb with hb;subst hb;exact F2 ts TS
  exact entry {s with heap:=s.heap.update T (Obj.mapFields (·.setIfInBounds 3 Value.none))} oe vs _ _ (hl.of_keeps λb o hb F2=>(AG o ((other b (bz b o hb F2)).trans hb) rfl)) ((other ea (Ne.symm PM)).trans he) hc IC hd hsz (Xcg (Xgw ..).symm)
   (λb o u0 n2 e=>(other b λq=>n2 (AN .none (rL q rfl))).trans e) (λb o e F2=>(other b (bz b o e F2)).trans e) rfl
theorem nC(x:Fu s.heap r j (some (T,k)))(h:∀a,(∀b,b≠T->a.get? b=s.heap.get? b)->Fu a r j (some (T,.none))->a.objs.size=s.heap.objs.size->(∀oT,s.heap.get? T=some oT->∃ts,oT.data= .fields ts)->Q () {s with heap:=a}):wpAny M A (setFlight (.ref r) none) Q E s:=by refine AB λJ=>B8 x λg p w=>?_;obtain⟨f,y,i,u,hsz,Y,N,oT,ts,d,B,H⟩:=w;refine J ?_;haveI c:=(Xhq.mp H).1;unfold setFlight;refine Xcd (Xhw f u Y (rL (Xck (show(Value.ref T !=Value.none)=true from rfl)) (Xim d B c (h _ (λb V=>Xdv _ _ (Ne.symm V)) (BM g p ⟨(Xdv _ _ N).trans f,y,i,u,hsz,Y,N,_,_,Xec _ d (Obj.isFreed_of_fields (Xhp B _)),Xhp B _,by simp[c]⟩) (Xgw ..) λo e=>?_))));rw[d]at e;obtain rfl:=sS e;exact(AN ts B)
end
set_option backward.match.sparseCases true
inductive gN(c:Cx)(φ:Fm)(W:Addr->Prop)(σ:St)(AE:Nat->List Addr)(h:Heap)(AP:Val)(ea:Addr)(tb:Option (Addr×Value))(dx:Addr)(m:Str->Option Value)(v:Value):Prop
 |mk (f:Fu h ea dx tb)(n:h.Ns dx m)(x:¬Ex φ W dx)(t:m ("thing")=some v)(v:Iv c φ W h AP v)(e:W ea/\HF c φ σ AE ea)(b:∀T,Fw tb T->W T/\HF c φ σ AE T)
def HC(c:Cx)(φ:Fm)(W:Addr->Prop)(σ:St)(M:Nat->List Addr)(h:Heap)(AP:Val)(r:Addr)(tb:Option (Addr×Value)):Prop:=
 ∃j m v,gN c φ W σ M h AP r tb j m v
section
variable {c:Cx}(C:c.Ok){φ:Fm}{n:Nat}(O:AU φ n)
include C O
theorem Ye(D:b∈(φ.Cm::φ.outer).filterMap (·.frame)):φ.F b\/b=φ.L:=by
 refine AB λJ=>AJ (Xfl.mp D) λe he t=>J ?_;rcases Xcs.mp he with rfl|he
 ·rw[O.fL]at t;obtain rfl:=sS t;exact .inr rfl
 ·exact .inl (AG e he t)
theorem YS{s:Shared}(S:AF c φ W σ M s.heap)(F:Fu s.heap r k tb)(Cs:s.heap.Ns k m)(Q:¬Ex φ W k)(hm:m "thing"=some v)
  (hv:Iv c φ W s.heap AP v) (Y:W r/\HF c φ σ M r) (h:∀T,Fw tb T->W T/\HF c φ σ M T)
  (u:∀b o,b≠r->¬Fw tb b->b∉(φ.Cm::φ.outer).filterMap (·.frame)->s.heap.get? b=some o->g.get? b=some o) (k2:∀b o,s.heap.get? b=some o->(∀vs,o.data≠.fields vs)->∃sl,g.get? b=some {o with slots:=sl})
  (F':Fu g r k U) (l:∀T,Fw U T->Fw tb T\/s.heap.objs.size<=T):
  ∃I,Nx φ.F W s.heap I g/\AF c φ I σ M g/\HC c φ I σ M g AP r U:=by
 have y:∀{T:Addr},s.heap.objs.size<=T->s.heap.get? T=none:=λl=>H0 l;let I:Addr->Prop:=λb=>Al W s.heap b\/(s.heap.objs.size<=b/\Fw U b);have p:∀b,(b=r\/Fw tb b)->W b/\HF c φ σ M b:=λb q=>q.elim (λq=>q▸ Y) (h b);have nf:∀b,(b=r\/Fw tb b)->∀o,s.heap.get? b=some o->∃vs,o.data= .fields vs:=λb q o e=>by
  clear h u l p;refine B8 F λoe vs w=>?_;obtain⟨e1,_,_,x,_,h5⟩:=w;rcases q with rfl|⟨fl,rfl⟩
  ·rw[e]at e1;obtain rfl:=sS e1;exact(AN vs x)
  ·refine Bf h5 λ_ _ w=>GN w λoT ts A hd2 _=>?_;rw[e]at A;obtain rfl:=sS A;exact(AN ts hd2)
 have B:Ch (λb=>φ.F b\/b=φ.L) (λb=>b=r\/Fw tb b) s.heap g:=by
  intro b o N e;haveI n1:=λq=>N (.inl q);haveI n2:=λq=>N (.inr q);refine(AX (λnF=>u b o n1 n2 (λq=>nF (Ye C O q)) e) ?_ λmm hn=>?_)
  ·by_cases q:b∈(φ.Cm::φ.outer).filterMap (·.frame)
   ·refine Ax (S.ff.mem q) λ_ w=>AJ w λob eb t=>?_;rw[e]at eb;obtain rfl:=sS eb;exact AK (k2 b o e t) λsl E=>(AG _ E λu0=>t)
   ·exact(AG o (u b o n1 n2 q e) id)
  ·exact R4 hn λo' H D eo x hk hf=>AK (k2 b o' eo λvs z=>by rw[x]at z;cases z) λsl E=>(WB _ H D E x hk hf)
 haveI hW:∀a,I a->W a\/s.heap.get? a=none:=λa q=>q.elim (λq=> .inl q.1) λq=> .inr (y q.1);haveI S':=S.change C O B (λb q=> .inl (p b q).1) (λi q=>(p _ q).2.2.1 i rfl) (λj G b V q=>(p b q).2.1 j G V) (λq=>absurd (p _ q).2.2.2.1 (Xd2 _)) (λa ha q=>(p a q).2.2.2.2 ha) hW
  (λi=> .inl (AH (S.sw i) (S.al i))) (λj G b V=> .inl (AH (S.Bc j G b V) (S.DM C j G b V))) (.inl (AH S.LW (let⟨m,o,_,_,e,_⟩:=S.LN;⟨o,e⟩))) λa ha=> .inl (AH (S.tW a ha) (C.I8 S.gi a ha))
 have d:∀b o,¬Ex φ W b->s.heap.get? b=some o->g.get? b=some o/\¬Ex φ I b:=λb o N e=>by
  refine(AH (u b o (λq=>N (.inr (q▸ Y.1))) (λq=>N (.inr (h b q).1)) (λq=>?_) e) λz=>?_)
  ·rcases Ye C O q with q|q
   ·exact N (.inl (O.FM b q))
   ·exact N (.inr (q▸ S.LW))
  ·rcases z with z|z|z
   ·exact N (.inl z)
   ·exact N (.inr z.1)
   ·exact nG (y z.1) e
 refine AB λkk=>R4 Cs λod H D ed L hk hf=>kk ?_;have kd:=d k od Q ed;have f:∀{b:Addr},s.heap.objs.size<=b->HF c φ σ M b:=λ{b}V=>by
  haveI N:=y V;refine(DR (λj G q=>?_) (λi q=>?_) (Xdg (Cq C O S) V) λq=>?_)
  ·exact AK (S.DM C j G b q) λo e=>nG N e
  ·exact AK (S.al i) λo e=>nH q N e
  ·exact AK (C.I8 S.gi b q) λo e=>nG N e
 refine(BS I ⟨B.weaken (λb q=>(p b q).1) λb N q=>q.elim id λq=>absurd S.LW (q▸ N),hW⟩ S' (Cf k m v ⟨F',⟨od,H,D,kd.1,L,hk,hf⟩,kd.2,hm,AZ.mono d AP hv,⟨.inl ⟨Y.1,by exact B8 F λoe _ F=>⟨oe,F.g⟩⟩,Y.2⟩,λT q=>?_⟩));rcases l T q with z|z
 ·refine(AH (.inl ⟨(h T z).1,AB λkk=>?_⟩) ((h T z).2));clear h u l p nf B;refine AK z λfl J=>?_;obtain rfl:=J;refine B8 F λ_ _ w=>?_;obtain⟨_,_,_,_,_,_,_,oT,ts,A,_⟩:=w;exact kk (AN oT A)
 ·exact(AH (.inr ⟨z,q⟩) (f z))
theorem c7{s:Shared}(A:φ.Cm=φ.env)(S:AF c φ W σ M s.heap)(F:HC c φ W σ M s.heap AP r tb)(b:Lj tb)
  (k:∀l I T,BJ c φ W M s σ I l->HC c φ I σ M l.heap AP r (some (T,rawInt φ.L))->Q () l):wpAny (Mo c) φ.A (noteFrame (.ref r) φ.env) Q E s:=by refine AB λJ=>Ay F λj m v w=>?_;obtain⟨f,B,i,D,H,Y,d⟩:=w;exact J (rR A (vv O.frames S.ff O.fL f b λp T e g N a=>Bh (YS C O S f B i D H Y d e g N λt q=>by obtain⟨o,q⟩:=q;obtain⟨rfl,rfl⟩:=sP q;exact .inr a) λI h z y=>(k _ I T ⟨(AX rfl rfl rfl),h,z⟩ y)))
theorem T1{s:Shared}(S:AF c φ W σ M s.heap)(F:HC c φ W σ M s.heap AP r (some (T,a)))
  (k:∀l I,BJ c φ W M s σ I l->HC c φ I σ M l.heap AP r (some (T,.none))->Q () l):wpAny (Mo c) A (setFlight (.ref r) none) Q E s:=by
 refine AB λJ=>Ay F λdx m v w=>?_;obtain⟨f,B,i,D,H,Y,j⟩:=w;refine J (nC f λh' d N hsz p=>AB λJ=>?_);obtain⟨I,L,h,y⟩:=YS C O S f B i D H Y j (λb o n1 t u0 e=>(d b λq=>t (AN a (rL q rfl))).trans e) (λb o e g=>(AN o.slots ((d b λq=>by rw[q]at e;exact AK (p o e) λU z=>g U z).trans e))) N (λV q=>by refine AK q λx q=>Ax (sP q) λu G=>?_;obtain rfl:=u;obtain rfl:=G;exact .inl (AN a rfl))
 exact J (k _ I ⟨(AX rfl rfl rfl),L,h⟩ y)
theorem uH(A:φ.Cm=φ.env)(S:AF c φ W σ M s.heap)(F:HC c φ W σ M s.heap AP r tb)(j:Lj tb)
  (k:∀l I T,BJ c φ W M s σ I l->HC c φ I σ M l.heap AP r (some (T,.none))->Q () l):wpAny (Mo c) φ.A (leaving φ.env (.ref r)) Q E s:=by unfold leaving;exact Xcd (c7 C O A S F j λi h T a b=>(T1 C O a.S b λg f e d=>k g f T (a.trans e) d))
end
structure RP(c:Cx)(φ:Fm)(W:Addr->Prop)(AE:Nat->List Addr)(s:Shared)(A0:St)(AP:Val)(e:Value)(s':Shared)(W':Addr->Prop)(ea:Addr)(tb:Option (Addr×Value)):Prop where
 e:e= .ref ea
 r:Lj tb
 P:BJ c φ W AE s A0 W' s'
 F:HC c φ W' A0 AE s'.heap AP ea tb
structure RX(c:Cx)(φ:Fm)(W:Addr->Prop)(AE:Nat->List Addr)(s:Shared)(A0:St)(AP:Val)(e:Value)(s':Shared)(W':Addr->Prop)(E4:Nat->List Addr)(ea:Addr)(tb:Option (Addr×Value)):Prop where
 e:e= .ref ea
 r:Lj tb
 sm:B4 s s'
 nx:Nx φ.F W s.heap W' s'.heap
 S:AF c φ W' A0 E4 s'.heap
 k:∀i,i<φ.np->E4 i=AE i
 F:HC c φ W' A0 E4 s'.heap AP ea tb
def Hp(c:Cx)(φ:Fm)(W:Addr->Prop)(M:Nat->List Addr)(s:Shared)(A0:St)(AP:Val)(e:Value)(l:Shared):Prop:=∃I r tb,RP c φ W M s A0 AP e l I r tb
def Li(c:Cx)(φ:Fm)(W:Addr->Prop)(M:Nat->List Addr)(s:Shared)(A0:St)(AP:Val)(e:Value)(l:Shared):Prop:=∃I u r tb,RX c φ W M s A0 AP e l I u r tb
def FJ(c:Cx)(φ:Fm)(t:Sem Flow)(σ:St)(A0:St)(AP:Val):Prop:=
 ∀W M s,AF c φ W σ M s.heap->wpAny (Mo c) φ.A t (λU U=>False) (Li c φ W M s A0 AP) s
section
variable {c:Cx}(C:c.Ok){n:Nat}
include C
theorem Yg(lk:HE fd vars d)(U:c.base.get? a=some oF)(D:oF.data= .func F)(hF:Ef F d.params d.body d.scope q .none)(B:c.base.CodeRec F.code q)(O:AU φ (n+2))
  (i:as.length=fd.np)
  (hB:∀AD,AU AD (n+1)->AD.np=fd.np->Aw (CP vars d.scope.names) d.scope.names AD->DB ((List.range fd.nc).map (·+vars.length)) AD->
   FJ c AD (execs d.body AD.env) (as.map (AR.lv σ)++List.replicate fd.nl .U++List.replicate fd.nc .O) AA AP)
  (hn:(as.flatMap AR.ix).Nodup) (I:∀x∈as.flatMap AR.ix,Cu (σ.at x)=true) (L:DZ as (AA.take fd.np)=true) (S:AF c φ W σ M s.heap) (R:DT c φ W M s.heap as vs):
  wpAny (Mo c) φ.A (call (.ref a) vs) (λu0 u0=>False) (Hp c φ W M s (Bk σ as (AA.take fd.np)) AP) s:=by refine Xfe (T8 C lk U D hF B O i (λAD W' u l Y np en du h1 h2 h3 h4 J S' bk=>Xcv (hB AD Y np en du W' u l S') (λf s' p=>p.elim) λe s' p=>AB λV=>Dw p λHt z t tb w=>?_) hn I S R);obtain⟨rfl,hr,sm,nx,g,j,Fl⟩:=w;refine V (uH C Y J g Fl hr λr k T y E=>AB λV=>Ay E λdx m v w=>?_);obtain⟨f,Q,H,hm,hv,he,ht⟩:=w;exact Bh (bk k AA z r (λb=>b=t\/b=T) (sm.trans y.sm) (nx.trans y.nx) y.S j L λb q=>q.elim (λq=>q▸ he) λq=>ht b (AN .none (rL q rfl))) λh st K N=>V (Cf h t (some (T,.none)) ⟨rfl,.inr ⟨T,rfl⟩,st,dx,m,v,f,Q,K dx H,hm,AZ.mono (λb o nb e=>⟨e,K b nb⟩) AP hv,N t (.inl rfl),λT' q=>by refine AK q λfl q=>Ax (sP q) λA G=>?_;obtain rfl:=A;obtain rfl:=G;exact N T (.inr rfl)⟩)
end
set_option backward.match.sparseCases false
theorem Hp.step(P:BJ c φ W AE s AA DC BL)(p:Hp c φ DC AE BL A0 AP e s'):Hp c φ W AE s A0 AP e s':=
 by exact Ay p λa r tb p=>(Cf a r tb ({p with P:=P.trans p.P}))
theorem Hp.x(p:Hp c φ W AE s A0 AP e s'):Li c φ W AE s A0 AP e s':=
 by exact Ay p λa r tb p=>(DA a AE r tb ⟨p.e,p.r,p.P.sm,p.P.nx,p.P.S,λb b=>rfl,p.F⟩)
theorem Li.after(sm:B4 s BL)(nx:Nx φ.F W s.heap DC BL.heap)(k:∀i,i<φ.np->JB i=AE i)(p:Li c φ DC JB BL A0 AP e s'):Li c φ W AE s A0 AP e s':=
 by exact Dw p λb u r tb p=>(DA b u r tb ({p with sm:=sm.trans p.sm,nx:=nx.trans p.nx,k:=λi a=>(p.k i a).trans (k i a)}))
def O4(c:Cx)(φ:Fm)(t:Sem Value)(σ:St)(A0:St)(AP:Val):Prop:=
 ∀W M s,AF c φ W σ M s.heap->wpAny (Mo c) φ.A t (λU U=>False) (Hp c φ W M s A0 AP) s
def Jt(c:Cx)(φ:Fm)(v:Value)(as:List AR)(σ A0:St)(AP:Val):Prop:=
 ∀W M s p,AF c φ W σ M s.heap->DT c φ W M s.heap as p->wpAny (Mo c) φ.A (call v p) (λU U=>False) (Hp c φ W M s A0 AP) s
def WE(c:Cx)(φ:Fm)(ys:List PySem.Expr)(σ:St)(as:List AR)(A0:St):Prop:=
 ∀a W M s E Q,AF c φ W σ M s.heap->(∀I l p,BJ c φ W M s A0 I l->DT c φ I M l.heap as p->Q p l)->wpAny (Mo c) φ.A (spliced (backTo a (starEach ys φ.env))) Q E s
section
variable {c:Cx}(C:c.Ok){φ:Fm}{n:Nat}(O:AU φ n)
include C O
theorem LR{st:Stmt}(h:FJ c φ (exec st φ.env) σ A0 AP):FJ c φ (execs (st::rest) φ.env) σ A0 AP:=λW M s S=>
 Xct (Xcv (h W M s S) (λU U p=>p.elim) λU U p=>p)
theorem gC{st:Stmt}(Y:BP c φ (exec st φ.env) σ .next AA)(T:FJ c φ (execs rest φ.env) AA A0 AP):FJ c φ (execs (st::rest) φ.env) σ A0 AP:=λW M s S=>
 Xct (Xcv (Y W M s _ S) (λf d p=>by refine AB λJ=>?_;obtain⟨g,z,j,h,a,L,b⟩:=p;haveI b:=b;subst b;exact J (Xcv (T g z d a) (λU U p=>p.elim) λU U p=>p.after j h L)) λU U x=>x)
theorem fu(h:ES c φ (isTrue t φ.env (eval t φ.env)) σ true AA)(Y:FJ c φ (execs a φ.env) AA A0 AP):FJ c φ (exec (.If t a b pos) φ.env) σ A0 AP:=λW M s S=>
 wpAny_If (GF C O h S λg d P=>Xcv (Y g M d P.S) (λU U p=>p.elim) λU U p=>p.after P.sm P.nx λU U=>rfl)
theorem ft(h:O4 c φ (eval e φ.env) σ A0 AP)(y:EJ e=false):FJ c φ (exec (.Expr e pos) φ.env) σ A0 AP:=λW M s S=>
 Xes (Xcv (h W M s S) (λU U p=>p.elim) λU U p=>p.x) (by unfold interactive;refine rL O.ek ?_;rfl) (CM y)
theorem Xbi(h:O4 c φ (eval e φ.env) σ A0 AP)(y:EJ e=false)(hw:swappedStores [.Tuple ts k tp] e φ.env=pure none):FJ c φ (exec (.Assign [.Tuple ts k tp] e pos) φ.env) σ A0 AP:=λW M s S=>
 Assign_Tuple (Xcv (h W M s S) (λU U p=>p.elim) λU U p=>p.x) (show swapsWith e (some (.Tuple ts k tp)) pos.line φ.env=pure false from CM y) hw
theorem Xp(L:Aw Γ N φ)(B:N.lookup x=some .globalImplicit)(a:DI c.K x v)(u:(x=="__debug__")=false)(b:Be (y::ys)=true)
  (args:WE c φ (y::ys) σ as AA) (e:Jt c φ v as AA A0 AP):O4 c φ (eval (.Call (.Name x np) (y::ys) [] pos) φ.env) σ A0 AP:=λW M s S=>
 Hw C O L B a u S.base b (args pos W M s _ _ S λI l d P R=>⟨P.S.base,Xcv (e I M l d P.S R) (λU U p=>p) λU U p=>p.step P⟩)
theorem lg(L:Aw Γ N φ)(a:Jw c k d)(B:Γ.lookup nm=some (x,b))(i:(nm=="__debug__")=false)(Q:∃j,σ.at x= .N (.Z j))
  (u:A=k.HA f) (w:(k.HA f=="")=false) (m:(t.endLine==pos.line)=true) (y:ys.length<29) (l:Be ys=true) (v:d f=some g) (args:WE c φ ys σ as AA) (e:Jt c φ g (.N x::as) AA A0 AP):O4 c φ (eval (.Call (.Attribute (.Name nm np) A t) ys [] pos) φ.env) σ A0 AP:=λW M s S=>by refine AB λJ=>AK Q λj h=>?_;subst u;refine Bh (a (Ex φ W) (M x) j f (by simpa using w)) λT H q D=>J ?_;rw[v]at H;obtain rfl:=sS H;refine Xe5 (HZ C O L B i (Dt S h).1 (D s φ.A _ _ _ (Dt S h).2 S.base λV=>?_)) (JV l y m);haveI z:=S;refine X4 (C.BE.keeps S.base) q l (args pos W M _ _ _ z λI o E P R=>(AH (C.BE.keeps P.S.base) ?_));haveI r:BJ c φ W M s AA I o:=⟨B4.trans (AX rfl rfl rfl) P.sm,P.nx,P.S⟩;exact Xcv (e I M o _ P.S (AG E rfl R)) (λU U p=>p) λU U p=>p.step r
end
section
variable {c:Cx}(C:c.Ok)(G:Co c)
include C G
theorem X0(hf:FT f=some fd)(ha:BN f=some (.ref a))(O:AU φ (n+2))(hlen:as.length=fd.np)(hn:(as.flatMap AR.ix).Nodup)(Tj:∀x∈as.flatMap AR.ix,Cu (σ.at x)=true)(Td:DZ as (AA.take fd.np)=true)
  {row:HD} (Zc:row∈En/\row.id=f) (qQ:∀ps body sc,CT Cd row.cls row.name=some (ps,body,sc)->HE fd row.vars ⟨row.name,ps,body,sc,default⟩)
  (hB:∀ps body sc AD,CT Cd row.cls row.name=some (ps,body,sc)->AU AD (n+1)->AD.np=fd.np->Aw (CP row.vars sc.names) sc.names AD->DB ((List.range fd.nc).map (·+row.vars.length)) AD->FJ c AD (execs body AD.env) (as.map (AR.lv σ)++List.replicate fd.nl .U++List.replicate fd.nc .O) AA AP):
  Jt c φ (.ref a) as σ (Bk σ as (AA.take fd.np)) AP:=by
 intro W AE s vs S R;refine AB λkk=>RB (VI hf) λi j x r hx hr e1 e2 e3 Ap=>Bf Ap λe4 e5 e6=>?_;replace e1:=hf▸ e1;obtain rfl:=sS e1;replace e6:=ha▸ e6;cases e6;haveI:x=row:=by
  have nd:(En.map (·.id)).Nodup:=by decide+kernel
  haveI h1:=Xc0 hx;haveI h2:=Zc.1;haveI:=e2.trans Zc.2.symm;haveI inj:∀{l:List HD},(l.map (·.id)).Nodup->∀{u v:HD},u∈l->v∈l->u.id=v.id->u=v:=by
   intro l;induction l with
   |nil=>intro _ u v hu;cases hu
   |cons z l ih=>
    intro hn u v hu hv he;rw[Xde,Xc6]at hn;rcases Xcs.mp hu with a1|a1<;>rcases Xcs.mp hv with b1|b1
    ·exact rL a1 (rL b1 rfl)
    ·exact absurd (rR a1 (rL he (Xc3 b1))) hn.1
    ·exact absurd (rR b1 (rR he (Xc3 a1))) hn.1
    ·exact ih hn.2 a1 b1 he
  exact inj nd h1 h2 this
 subst this;refine Aj (G.fn r (Xc0 hr)) λps body sc E5 Ap=>B8 Ap λoF F Kf=>?_;obtain⟨g1,g2,g3,g4⟩:=Kf;refine kk ?_;have Za:=e3▸ e4▸ E5;haveI nY:Ef F ps body sc r.qual .none:=by haveI:=g3;unfold Of at this;replace this:=e5▸ this;exact this
 exact Yg C (qQ ps body sc Za) g1 g2 nY g4 O hlen (λAD O' np en du=>hB ps body sc AD Za O' np en du) hn Tj Td S R
end
inductive RW(h:Heap)(C:Addr)(bm:List Value):Prop
 |mk (obj:∃nm q N bs Md sn sub ab col dd k0 k1 k2 k3 k5,h.get? C=some (excClassObj nm q C N bs bm Md sn sub ab col dd k0 k1 k2 k3 k5 "ValueError.__new__"))(hV:bm.contains (.type "ValueError")=true)(hB:bm.contains (.type "BaseException")=true)(hA:(Value.ref C::bm).contains (.type "AttributeError")=false)(hN:(Value.ref C::bm).contains (.type "NameError")=false)
section
variable {M:Model}{A:Around}{E:Value->Shared->Prop}{h:Heap}{g:Array GenState}{d:Drawn}{t:Nat}{os:OsState}{nm q:Str}{C N:Addr}{bs bm:List Value}{Md:Bool}{sn:List Str}{sub:List Value}{ab:Bool}{col:Option Bool}{dd:Option Addr}{k0 k1 k2 k3 k5:Option Value}
end
section
variable {prog:Program}{w:World}{A:Around}{R:Result->Shared->Prop}{h:Heap}{g:Array GenState}{d:Drawn}{t:Nat}{os:OsState}{nm q:Str}{C N:Addr}{bs bm:List Value}{Md:Bool}{sn:List Str}{sub:List Value}{ab:Bool}{col:Option Bool}{dd:Option Addr}{k0 k1 k2 k3 k5:Option Value}
theorem ye(i:h.get? C=some (excClassObj nm q C N bs bm Md sn sub ab col dd k0 k1 k2 k3 k5 "ValueError.__new__"))(k:(Value.ref C::bm).contains (.type "ValueError")=true)(n:(Value.ref C::bm).contains (.type "AttributeError")=false)(a:(Value.ref C::bm).contains (.type "NameError")=false)(e:rest.length<=sizeLine)
  (O:R (.ok (.ret (.ref (h.objs.size+1)))) ⟨(h.push {cls:= .type "tuple",data:= .seq rest.toArray}).push {cls:= .ref C,data:= .fields #[.ref h.objs.size,.none,.none,.none,.bool false,.none]},g,d,t,os⟩):
  codeAny (model prog w) A (.builtin "ValueError.__new__" ⟨.ref C::rest,[]⟩) R ⟨h,g,d,t,os⟩:=by
 haveI F:=Xfz;haveI b:=F.ends;refine codeAny_builtinAt F.entry ?_;unfold Builtin.«BaseException.__new__»;refine PySem.wpAt_bind (PySem.wpAt_bind (PySem.wpAt_stack λp c=>PySem.wpAt_of_wpAny ?_))
 wp_walk
 refine PySem.wpAt_of_wpAny (rL F.owner ?_)
 repeat(first|with_reducible refine wpAny_madeHere_exc F.canon i ?_|with_reducible refine Xgp i ?_| (with_reducible refine wpAny_isSubtype_exc i ?_;first|rw[k]|rw[n]|rw[a])|wp_step)
 exact rL (Xd0 ..) O
end
section
variable {prog:Program}{w:World}{A:Around}{E:Value->Shared->Prop}{h:Heap}{g:Array GenState}{d:Drawn}{t:Nat}{os:OsState}
theorem mH(X:RW h C bm)(hl:rest.length<=sizeLine)(hi:Looks (model prog w) h (typeLookup (.ref C) "__init__") (some (.ref Sv)))(hb:∀self,Looks (model prog w) h (bindSpecial (.ref Sv) self) (.ref Sv,[self]))
  (hq:∀h' e tt,h.get? e=none→@LE.le Nat _ h.objs.size e->(∀b o,h.get? b=some o->h'.get? b=some o)->h'.get? e=some {cls:= .ref C,data:= .fields #[.ref tt,.none,.none,.none,.bool false,.none]}->
   codeAny (model prog w) (A.under (.builtin "type.__call__" ⟨.ref C::rest,[]⟩)) (.call (.ref Sv) ⟨.ref e::rest,[]⟩) (InitBack e λr s'=>match r with| .ok (.ret v)=>Q v s'| .ok _=>False| .error e=>E e s') ⟨h',g,d,t,os⟩):
  wpAny (model prog w) A (call (.ref C) rest) Q E ⟨h,g,d,t,os⟩:=by
 haveI F:=Xfz;refine AB λkk=>?_;obtain⟨⟨nm,q,N,bs,Md,sn,sub,ab,col,dd,k0,k1,k2,k3,k5,hC⟩,hV,hB,PN,qO⟩:=X;refine kk ?_;haveI qP:(Value.ref C::bm).contains (.type "ValueError")=true:=rL (List.contains_cons ..) (rL (hV ..) (rL (Xib ..) rfl));haveI f1:=tc_lookup;haveI f2:=tc_bind (.ref C);haveI hT:(⟨h,g,d,t,os⟩:Shared).TypeIs (.ref C) "type":=(AG _ hC rfl);refine Xfe (codeAny_of_tree ?_)
 repeat(any_goals(first|assumption|with_reducible refine Xgp hC ?_|wp_step))
 refine(AH rfl (codeAny_call_builtin_at (Code.quiet_builtin _ (by decide+kernel)) entry_typeCall (wpAny_check_type_call_sub hC ?_)));unfold Builtin.«type.__call__»
 repeat(first|with_reducible refine Xgp hC ?_|with_reducible refine wpAny_madeBy_exc hC ?_|wp_step)
 refine codeAny_call_builtin_code (Code.quiet_builtin _ F.quiet) (wpAny_check_new_subU F hV .base hC (ye hC qP PN qO hl ?_));haveI kp:∀b o,h.get? b=some o->((h.push {cls:= .type "tuple",data:= .seq rest.toArray}).push {cls:= .ref C,data:= .fields #[.ref h.objs.size,.none,.none,.none,.bool false,.none]}).get? b=some o:=λb o e=>Xcf _ (Xcf _ e);haveI pT:=kp _ _ hC;haveI KZ:((h.push {cls:= .type "tuple",data:= .seq rest.toArray}).push {cls:= .ref C,data:= .fields #[.ref h.objs.size,.none,.none,.none,.bool false,.none]}).get? (h.objs.size+1)=some
   {cls:= .ref C,data:= .fields #[.ref h.objs.size,.none,.none,.none,.bool false,.none]}:=by heap_get
 haveI qN:(Value.ref C::bm).contains (.ref C)=true:=by simp
 unfold isInstance
 repeat(first|with_reducible refine Xgp KZ ?_|wp_step)
 refine wpAny_isSubtype_exc pT (rL qN ?_)
 repeat wp_step
 refine(hi.keeps kp).here (Xdj (Xcd ((hb _).keeps kp |>.here ?_)));haveI fresh:h.get? (h.objs.size+1)=none:=by
  cases e:h.get? (h.objs.size+1)with
  |none=>rfl
  |some o=>exact absurd (Xdt e) (Nat.not_lt.mpr (Xd9 _))
 refine Xcd (Xfe (codeAny_mono (hq _ _ _ fresh (Xd9 _) kp KZ) λr s' z=>?_));rcases r with e| (v|_|_|_)<;>first|exact z|exact z.elim|skip;refine AB λkk=>?_;obtain⟨rfl,z⟩:=z;exact kk (Xcp (Xcp z))
end
noncomputable def NV:List Value:=[.ref 496,.type "ValueError",.type "Exception",.type "BaseException",.type "object"]
theorem yf(a:Value):refuseLoop a "__setattr__" (.ref 516::NV)=pure ():=by
 unfold NV;refine rL (refuseLoop_ref ..) (rL (refuseLoop_ref ..) ?_)
 kernel_rfl
structure Ll(K:Frag):Prop where
 cls:∃cd,clsIn K 516=some cd/\cd.mro= .ref 516::NV/\cd.hasDict=true
 Fe:findIn K (.ref 516) "__init__"=some (some (.ref 513))
 fn:isFn K (.ref 513)=true
 sa:findIn K (.ref 516) "__setattr__"=some (some (.builtin "object.__setattr__"))
 ga:findIn K (.ref 516) "__getattribute__"=some (some (.builtin "BaseException.__getattribute__"))
 gn:findIn K (.ref 516) "__getattr__"=some none
 tk:∀x:Str,(x="reason"\/x="thing")->findIn K (.ref 516) x=some none/\takerIn K 516 x=some none
 obj:mroIn K 516 (.type "object")=some true
 K7:mroIn K 516 (.type "BaseException")=some true
 ty:typeIn K (.ref 516)=some (.type "type")
 vex:mroIn K 516 (.type "ValueError")=some true
 mN:exmOne K (.ref 516) (.ref 516)=some true
section
variable {prog:Program}{w:World}{A:Around}{E:Value->Shared->Prop}{K:Frag}(Z:Ll K)
include Z
theorem dY{name:Str}(X:K.In s.heap)(I:InstAt s.heap x c 516 O)(a:name="reason"\/name="thing")
  (h:∀b,wpAny (model prog w) A.in1 (PySem.Builtin.ObjectAttr.storeInOwnDict (.ref x) (.ref 516) (.str name tk) name v b)
   (λfin l=>match fin with| .done f=>R (.ok f) l| .again j=>j.quiet=true/\codeAny (model prog w) A j R l) (λe l=>R (.error e) l) s):
  codeAny (model prog w) A (.call (.builtin "object.__setattr__") ⟨[.ref x,.str name tk,v],[]⟩) R s:=by have Y:=PySem.F.store_object;refine AB λJ=>Bh Z.cls λL y p V=>J ?_;have sub:Looks (model prog w) s.heap (isInstance (.ref x) (.type "object")) true:=I.type.andThen (Xin X Z.obj);refine Xg0 Y.slot.plain Y.entry (@check_slot (model prog w) _ _ s "object.__setattr__" "object" "__setattr__" (.ref x) [.str name tk,v] [] _ Y.kind Y.split sub (Y.args (.ref x) (.str name tk) v) ?_);have D:Looks (model prog w) s.heap (mroOf (.ref 516)) L.mro:=(Xil X y).andThen .now;exact rL (osa_eq ..) (rL (refuse_eq ..) (Xcd (Xcd (I.type.here (Xcd (D.here (rL (p ..) (rL (yf ..) (Xcp (Xcd (I.type.here (Xcd ((Xhf X (Z.tk name a).1).here (Xcd (Xcp (h _))))))))))))))))
theorem yy(X:K.In s.heap){name:Str}(gx:s.heap.get? x=some {cls:= .ref 516,data:= .fields vs})(ht:name="reason"\/name="thing")
  (k:∀h' dx tk,s.heap.get? dx=none->dx≠x->(∀b o,b≠x->s.heap.get? b=some o->h'.get? b=some o)->h'.get? x=some {cls:= .ref 516,dict:=some dx,data:= .fields vs}->BA h' dx (BR (λu0=>none) name v) 1->Q () {s with heap:=h',toks:=tk}):wpAny (model prog w) A (setAttr (.ref x) name v) Q E s:=by
 have I:InstAt s.heap x {cls:= .ref 516,data:= .fields vs} 516 none:=⟨gx,rfl,rfl,trivial⟩;refine set_plain X I Z.sa (dY Z X I ht λb=>AB λkk=>Bh Z.cls λcd hc qy JG=>kk ?_);unfold PySem.Builtin.ObjectAttr.storeInOwnDict;refine Xcd (Xcp ?_);show wpAny _ _ (do
  let dd <-Builtin.ObjectAttr.ownDictForStores (Value.ref x)
  match dd with
   |some d=>Builtin.ObjectAttr.storeInDict d (Value.str name s.toks) name v
   |none=>Builtin.ObjectAttr.noDictFor (Value.ref x) (Value.ref 516) name b) _ _ _
 refine Xcd ?_;show wpAny _ _ (instanceDict x true) _ _ _;unfold instanceDict;refine Xcd (Xhn gx ?_);dsimp only;refine Xcd (Xil X hc _ _ _ _ (λu0 u0 e=>e) (rL JG (rL (Xcm (by decide)) (rL (Xcm (by decide)) (Xcd (wpAny_alloc ?_))))));refine Xcd (wpAny_update (Xcf _ gx) ?_);refine Xcp ?_;show wpAny _ _ (Builtin.ObjectAttr.storeInDict s.heap.objs.size (Value.str name s.toks) name v) _ _ _;have lt:=Xdt gx;have nx:s.heap.objs.size≠x:=λq=>Xd2 _ (q▸ lt);have g1:((s.heap.push {cls:= .type "dict",data:= .dict #[]}).update x λo=>{o with dict:=some s.heap.objs.size}).get? s.heap.objs.size=some (dictOf [] 0):=by refine rL (Xdv _ _ (Ne.symm nx)) ?_;exact Xcn _ rfl
 have g2:((s.heap.push {cls:= .type "dict",data:= .dict #[]}).update x λo=>{o with dict:=some s.heap.objs.size}).get? x=some {cls:= .ref 516,dict:=some s.heap.objs.size,data:= .fields vs}:=Xec _ (Xcf _ gx) rfl;have gd:=BA.new g1;unfold Builtin.ObjectAttr.storeInDict;refine Xcd (Xcp (Xcd (W3 (s:={s with heap:=(s.heap.push {cls:= .type "dict",data:= .dict #[]}).update x λo=>{o with dict:=some s.heap.objs.size},toks:=s.toks+1}) gd λh' ZP sb=>AB λkk=>Ay (id ZP) λo' lB ep' Ap=>?_)));obtain⟨e1,e2,_,_,e3⟩:=Ap;refine kk (Xcd (Xh5 e1 (by exact rL e2 (Xh6 (by refine rL Xc9 ?_;simp at e3;exact lin [lB.size] 2156323836120681758246350671249409 rfl e3))) (Xcp ?_)));refine k h' s.heap.objs.size _ Bg nx (λb o nb e=>?_) ((sb.2 x (Ne.symm nx)).trans g2) ZP;have Un:b≠s.heap.objs.size:=λq=>by rw[q,Bg]at e;exact nS e
 refine rL (sb.2 b Un) (rL (Xdv _ _ (Ne.symm nb)) ?_);exact Xcf _ e
theorem yz(X:K.In s.heap){n:Nat}{name:Str}(l:s.heap.get? x=some {cls:= .ref 516,dict:=some j,data:= .fields vs})(gd:BA s.heap j m n)(t:n<1000)(h:name="reason"\/name="thing")
  (k:∀c tk,BA c j (BR m name v) (if(m name).isSome then n else n+1)->Heap.SameBut j s.heap c->Q () {s with heap:=c,toks:=tk}):wpAny (model prog w) A (setAttr (.ref x) name v) Q E s:=by refine AB λJ=>Ay (id gd) λo r q a=>?_;obtain⟨g,u,_⟩:=a;refine J ?_;have I:InstAt s.heap x {cls:= .ref 516,dict:=some j,data:= .fields vs} 516 (some o):=⟨l,rfl,rfl,g⟩;refine set_plain X I Z.sa (dY Z X I h λb=>AB λJ=>Bh Z.cls λL y p V=>J ?_);refine Xcd (Xcp (Xcd (Xcd (Xhn l (Xcd (Xil X y _ _ _ _ (λU U e=>e) (rL V (Xcp (Xcd (Xcp (Xcd (W3 gd λc M T=>?_))))))))))));refine AB λJ=>Ay (id M) λB f i a=>?_;obtain⟨N,d,_,_,z⟩:=a;exact J (Xcd (Xh5 N (by exact rL d (Xh6 (by refine rL Xc9 ?_;split at z<;>omega))) (Xcp (k c _ M T))))
end
section
variable {prog:Program}{w:World}{A:Around}{E:Value->Shared->Prop}{K:Frag}(Z:Ll K)
include Z
theorem o8(X:K.In s.heap){name:Str}(gx:s.heap.get? x=some ox)(hc:ox.cls= .ref 516)(r7:notCls ox=true)(IC:ox.dict=some dx)(gd:s.heap.Ns dx m)(ht:name="reason"\/name="thing")(hv:m name=some v)(hh:handedIn v=true)
  (k:Q v {s with toks:=s.toks+1}):wpAny (model prog w) A (getAttr (.ref x) name expr) Q E s:=by
 refine AB λkk=>?_;obtain⟨o,es,ep,ho,hd,_,hm⟩:=Dd gd;haveI I:InstAt s.heap x ox 516 (some o):=⟨gx,hc,r7,by exact rL IC ho⟩;haveI Kc:Looks (model prog w) s.heap (typeOf (.ref x)) (.ref 516):=I.type;refine Bh Z.cls λcd IB qy JG=>kk ?_;haveI hf:findObj K 516 (some o) name=some (.value v):=by unfold findObj;refine rL IB (rL ((Z.tk name ht).1) ?_);show(PySem.W.ownOf cd (some o) name).bind _=_;unfold PySem.W.ownOf;refine rL JG (rL (Xck rfl) ?_);dsimp only;refine rL (Ua hd ((hm name).trans hv)) ?_;rfl
 haveI FB:=PySem.F.attr_ValueError;haveI K7:Looks (model prog w) s.heap (isInstance (.ref x) (.type "BaseException")) true:=Kc.andThen (Xin X Z.K7);refine Xcd (wpAny_mkText (Xdj (Xcd (Kc _ _ _ _ (λu0 u0 e=>e) (Xcd (Xhf X Z.ga _ _ _ _ (λu0 u0 e=>e) ?_))))));dsimp only;refine rL (show(onTheHeap (Value.ref 516)&&Value.builtin "BaseException.__getattribute__"==Value.builtin "object.__getattribute__")=false from by exact rL (show(Value.builtin "BaseException.__getattribute__"==Value.builtin "object.__getattribute__")=false from by decide+kernel) (rL (Xik ..) rfl)) (rL (Xcm (by decide)) ?_);refine Xcd (looks_hook X (rL (Xck (show onTheHeap (.ref 516)=true from rfl)) Z.gn) _ _ _ _ (λu0 u0 e=>e) (Xcd (wpAny_attempt (Xdj ?_))));unfold callGetattribute;refine rL (show(expr&&onTheHeap (Value.builtin "BaseException.__getattribute__"))=false from Xik _) (rL (Xcm (by decide)) ?_);unfold boundAndCalled;refine rL (FB.ga.bind ..) (Xcd (Xcp (Xfe (Xg0 FB.ga.plain F.entry_bexc_ga ?_))));refine @check_slot (model prog w) _ _ {s with toks:=s.toks+1} "BaseException.__getattribute__" "BaseException" "__getattribute__" (.ref x) [.str name s.toks] [] _ (by decide+kernel) (by decide+kernel) K7 (F.args_bexc_ga (.ref x) (.str name s.toks)) ?_;unfold Builtin.«object.__getattribute__»;refine Xcd (Xcp (Xcd (Xcp (Xcd (Kc _ _ _ _ (λu0 u0 e=>e) (Xcd (looks_find X I hf _ _ _ _ (λu0 u0 e=>e) (Xcp ?_))))))));show wpAny _ _ (handedOut v) _ _ _;exact rL (handedOut_of hh) (Xcp k)
theorem yN(hh:A.handled=none)(hx:wpAny (model prog w) A t (λv BL=>∃x ox od vs,v= .ref x/\K.In BL.heap/\InstAt BL.heap x ox 516 od/\ox.data= .fields vs/\vs[1]? =some .none/\E (.ref x) BL) E s):
  wpAny (model prog w) A (raiseStmt env (some t) none) Q E s:=by
 unfold raiseStmt;refine Xcd (Xcv hx (λv BL BW=>AB λkk=>RB BW λx ox od vs BV X I qV rb hE=>?_) λu0 u0 x=>x);obtain rfl:=BV;refine kk ?_;haveI Kc:Looks (model prog w) BL.heap (typeOf (.ref x)) (.ref 516):=I.type;haveI K7:Looks (model prog w) BL.heap (isInstance (.ref x) (.type "BaseException")) true:=Kc.andThen (Xin X Z.K7);haveI c5:Looks (model prog w) BL.heap (isType (.ref x)) false:=by
  refine(Looks.ld I.at_).andThen ?_;haveI hn:=I.no;obtain⟨oc,od',V0,xR⟩:=ox;cases V0<;>first|exact .now| (simp[notCls]at hn)
 refine Xcd (Xcp (Xcd (Xdj ?_)));unfold excFromValue isExcClass;refine Xcd (Xcd (c5.here (rL (Xcm (by decide)) (Xcp (rL (Xcm (by decide)) ?_)))));refine Xcd (K7.here (rL (Xck rfl) (Xcp ?_)));haveI gx:=I.at_;refine Xcd (c5.here ?_);show wpAny _ _ (do
  let e <-raisedInstance (Value.ref x)
  setFlight e none
  raiseNew e) _ _ _
 unfold raisedInstance;refine Xcd (Xcd (Kc.here (Xcd ((looks_typeIn X Z.ty).here (rL (Xck (by decide)) (Xcp ?_))))));unfold setFlight;exact Xcd (Xcd (Xhw gx qV rb (rL (Xcm (by decide)) (Xcp (wpAny_raiseNew_none hh hE)))))
end
theorem kA{K:Frag}(h:clsIn K a=some L):∃c f i,K.lookup a=some ⟨c,f,.cls L,i⟩:=by
 unfold clsIn at h;cases e:K.lookup a with
 |none=>rw[e]at h;exact nS h
 |some o=>
  rw[e]at h;obtain⟨c,f,b,i⟩:=o;cases b<;>first|exact nS h| (obtain rfl:=sS h;exact(Cf c f i rfl))
section
variable {prog:Program}{w:World}{A:Around}{E:Value->Shared->Prop}{K:Frag}(Z:Ll K)
include Z
theorem sR(X:K.In s.heap)(l:s.heap.get? x=some {cls:= .ref 516,data:= .fields #[.ref M,.none,.none,.none,.bool false,.none]})
  (k:∀a y,(∀b o,b≠x->s.heap.get? b=some o->a.get? b=some o)->a.get? x=some {cls:= .ref 516,data:= .fields #[.ref y,.none,.none,.none,.bool false,.none]}->Q .none {s with heap:=a}):wpAny (model prog w) A (call (.builtin "ValueError.__init__") [.ref x,v]) Q E s:=by
 have F:=Xfz;have I:InstAt s.heap x {cls:= .ref 516,data:= .fields #[.ref M,.none,.none,.none,.bool false,.none]} 516 none:=⟨l,rfl,rfl,trivial⟩;have sub:Looks (model prog w) s.heap (isInstance (.ref x) (.type "ValueError")) true:=I.type.andThen (Xin X Z.vex);refine Xfe (Xg0 F.init.plain F.initEntry ?_);have h:=F.noStar;simp only[checkBuiltinCall,F.initKind,F.initSplit,F.initRow];refine Xcd (sub.here (AB λJ=>Bh Z.cls λL j _ _=>?_));obtain⟨c,f,i,m⟩:∃c f i,s.heap.get? 516=some ⟨c,f,.cls L,i⟩:=Ay (kA j) λc f i e=>(Cf c f i (X _ _ e));clear X I sub;obtain⟨H,g,d,t,n⟩:=s;refine J ?_
 repeat(first|with_reducible refine wpAny_load m ?_|wp_step)
 refine k _ H.objs.size (λb o N e=>?_) ?_
 ·rw[Xdv _ _ (Ne.symm N)];exact Xcf _ e
 ·rw[Xec _ (Xcf _ l) rfl];rfl
end
def Xt(d:Str)(k:PySem.Expr->Bool)(s:Stmt):Bool:=Ky s λv=>Dy v λg Q e T=>HI g λy i r=>BU y λt=>e.isEmpty&&a2 Q λa b=>t==d&&(i==("__init__":Str)&&(r.endLine==T.line&&(BQ "self" a&&(Be [a,b]&&k b))))
@[elab_as_elim]theorem Zq{P:Stmt->Prop}(h:Xt d k s=true)(f:∀gp r a b cp pos,(r.endLine==cp.line)=true->BQ "self" a=true->Be [a,b]=true->k b=true->P (.Expr (.Call (.Attribute (.Name d gp) "__init__" r) [a,b] [] cp) pos)):P s:=
 Kh h λv e h=>E6 h λg Q j cp h=>HW h λy i r h=>BD h λt p h=>iE h λh=>i2 h λa b h=>C0 h λh=>C0 h λh=>f p r a b cp e (al h) (al (ar h)) (al (ar (ar h))) (ar (ar (ar h)))
def Xu(f x:Str)(s:Stmt):Bool:=Hh s λd b=>a1 d λt=>HI t λa g U=>g==f&&(BQ "self" a&&BQ x b)
@[elab_as_elim]theorem Zr{P:Stmt->Prop}(h:Xu f x s=true)(k:∀a p b pos,BQ "self" a=true->BQ x b=true->P (.Assign [.Attribute a f p] b pos)):P s:=
 HV h λd b pos h=>i1 h λt h=>HW h λa g p h=>C0 h λh=>k a p b pos (al h) (ar h)
def aT(e:PySem.Expr):Bool:=Eg e λc=>match c with
 | .str x=>decide (x.cps.size<=1000)
 |_=>false
def Xr(p:Program)(cls a f x:Str)(k:PySem.Expr->Bool):Bool:=K5 p cls "__init__" λv body M=>a2 body λN r=>Eo v M ["self",x]&&(M.names.lookup a==some .globalImplicit&&(Xt a k N&&Xu f x r))
def yP(p:Program):Bool:=Xr p "Raised" "GemError" "thing" "thing" aT&&Xr p "GemError" "ValueError" "reason" "reason" (BQ "reason")
theorem dQ:yP Cd=true:=by kernel_rfl
structure Fv(c:Cx):Prop where
 rs:Ll c.K
 own:∀h,c.K.In h->RW h 516 NV
 Vq:specialIn c.K (.ref 496) "__getattribute__"=some (some (.builtin "type.__getattribute__"))
 Vt:readsIn c.K 496 (.type "type")=true
 Vp:findCls c.K (.ref 496) (.type "type") "__init__"=some (.val (.ref 493))
 Vs:keepIn c.K (.ref 493)=true
 vef:findCls c.K (.type "ValueError") (.type "type") "__init__"=some (.val (.builtin "ValueError.__init__"))
section
variable {prog:Program}{w:World}{A:Around}{E:Value->Shared->Prop}
theorem uz{K:Frag}(X:K.In s.heap){T:String}(f:typeOf (.type T)=pure (.type "type"))(I:Manifest.isStub T=false)
  (e:findCls K (.type T) (.type "type") name=some (.val v)) (H:handedIn v=true) (h:Q (v,[]) {s with toks:=s.toks+1}):wpAny (model prog w) A (getMethod (.type T) name m) Q E s:=by
 have a:opaqueClassAbove (.type T)=pure none:=by unfold opaqueClassAbove;dsimp only;rw[I];rfl
 have L:Looks (model prog w) s.heap (typeOf (.type T)) (.type "type"):=Looks.of_pure f;have b:findIn K (.type "type") "__getattribute__"=some (some (.builtin "type.__getattribute__")):=type_tga;unfold getMethod specialOf;refine Xcd (Xcd (L.here ((Xhf X b).here ?_)));dsimp only;rw[Xck canon_tga];refine Xcd (Xcv (Q:=λv=>Q (v,[])) (E:=E) ?_ (λU U z=>Xcp z) λU U z=>z);have d:Looks (model prog w) s.heap (opaqueClassAbove (.type T)) none:=Looks.of_pure a;refine cls_open X d L b (looks_hook X (r:=none) (by rfl)) (by show subIn K _ _=_;rfl) e
  (Xcp (by show wpAny _ _ (handedOut v) _ _ _;rw[handedOut_of H];exact Xcp h))
end
section
variable {c:Cx}(C:c.Ok)(G:FG c)(Gx:Fv c)
include C G Gx
theorem o7{A:Around}(hA:A.depth+2<1000)(st:AS c.base s.heap)(fx:c.base.get? x=none)(gx:s.heap.get? x=some {cls:= .ref 516,data:= .fields #[.ref tt,.none,.none,.none,.bool false,.none]})
  (k:∀h' dx zy tk,s.heap.get? dx=none->(∀b o,b≠x->s.heap.get? b=some o->h'.get? b=some o)->h'.get? x=some {cls:= .ref 516,dict:=some dx,data:= .fields #[.ref zy,.none,.none,.none,.bool false,.none]}->BA h' dx (BR (λu0=>none) "reason" v) 1->Q .none {s with heap:=h',toks:=tk}):
  wpAny (Mo c) A (call (.ref 493) [.ref x,v]) Q E s:=by
 refine AB λkk=>Aj (G.fn ⟨493,"GemError","__init__",some 486⟩ (Ai 40)) λps body sc E5 G8=>kk ?_;have TJ:=JO (ar dQ) E5;revert G8;refine i2 TJ λs1 s2 h=>Zq (al (ar (ar h))) λgp ap a b cp pos Mi ha Fb h1=>Zr (ar (ar (ar h))) λa2 p2 b2 V6 TO IA=>λG8=>?_;have hh:=al h;have hg:=eq_of_beq (al (ar h));refine Bf (F1 hh) λBa _ _=>?_;have gt:=G.sm (486,CY [.str "" 912]) (Ai 10);have hs:=Ba.loc ("self":Str) (by first|decide|simp);have hr:=Ba.loc ("reason":Str) (by first|decide|simp);refine KK C st G8 (lin [A.depth] 1115590080383305477300049670273 rfl hA) (binds:=(["self","reason"]:List Str).zip [.ref x,v]) Ba (Fy hh (.inr (GQ 486 _ [.str "" 912] 0 rfl (st _ _ gt) rfl (by first|decide|simp) (by first|decide|simp) (AH (by kernel_rfl) (by kernel_rfl))))) λcode BW E' Cs Fp=>?_;have V:ER (DX sc s.heap.objs.size (Dk.qual ⟨493,"GemError","__init__",some 486⟩) 493 code) sc s.heap.objs.size:=G5 Ba;have Iy:=st.trans Fp;have PJ:=Fp _ _ gx;have nL:s.heap.objs.size≠x:=λq=>nH (q).symm Bg gx;have tH:∀{hh₁:Heap},(∀b o,b≠x->BW.get? b=some o->hh₁.get? b=some o)->AS c.base hh₁:=λk b o e=>k b o (λq=>nH q fx e) (Iy b o e);refine Xct (Xes (Xe5 (PH C (s:={s with heap:=BW,toks:=s.toks+2}) Iy V hg (G.blt ("ValueError",.type "ValueError") (by first|decide|simp[HO])) (by decide) (uz (s:={s with heap:=BW,toks:=s.toks+2}) (C.BE.keeps Iy) (by kernel_rfl) (by decide+kernel) Gx.vef rfl ?_)) (JV Fb (by first|decide|simp) Mi)) (Pk Ba.kind) (CM rfl));have sa:=EL ha;have sb:=EL h1;refine Xf5 (first:=[]) (Xc5 (DF V ha hs (s:={s with heap:=BW,toks:=s.toks+2+1}) Cs rfl (Xc5 (DF V h1 hr (s:={s with heap:=BW,toks:=s.toks+2+1}) Cs rfl (args_nil (sR Gx.rs (s:={s with heap:=BW,toks:=s.toks+2+1}) (C.BE.keeps Iy) PJ λGk fG k₂ oW=>?_))) (Bn sb))) (Bn sa)) (Bn sa) (H9 (by first|decide|simp[Be,sb]));have iw:=tH (hh₁:=Gk) k₂;have NG:=F7 Cs λo=>k₂ _ o nL;refine Xct (Xda (DF V IA hr (s:={s with heap:=Gk,toks:=s.toks+2+1}) NG rfl (DF V TO hs (s:={s with heap:=Gk,toks:=s.toks+2+1}) NG rfl (yy Gx.rs (s:={s with heap:=Gk,toks:=s.toks+2+1}) (C.BE.keeps iw) oW (.inl rfl) λCt dx LK fd nd JQ oY o6=>Xdm ?_))) (CM (br IA)));refine k Ct dx fG LK ?_ (λb o nb e=>JQ b o nb (k₂ b o nb (Fp _ _ e))) oY o6;cases e:s.heap.get? dx with
 |none=>rfl
 |some o=>
  by_cases q:dx=x
  ·exact absurd q nd
  ·have:=k₂ dx o q (Fp _ _ e);exact nG (show Gk.get? dx=none from fd) this
end
@[elab_as_elim]theorem sL{P:PySem.Expr->Prop}(h:aT e=true)(f:∀x k p,x.cps.size<=1000->P (.Constant (.str x) k p)):P e:=
 Fd h λc k p h=>by cases c<;>first|exact f _ k p (Xcj h)|exact fT h
section
variable {c:Cx}(C:c.Ok)(G:FG c)(Gx:Fv c)
include C G Gx
theorem yQ(hA:A.depth+8<1000)(st:AS c.base s.heap)
  (k:∀h' x l vs m tk,s.heap.get? x=none→@LE.le Nat _ s.heap.objs.size x->s.heap.get? l=none->AS s.heap h'->h'.get? x=some {cls:= .ref 516,dict:=some l,data:= .fields vs}->vs[1]? =some .none->1<vs.size->h'.Ns l m->m "thing"=some v->Q (.ref x) {s with heap:=h',toks:=tk}):
  wpAny (Mo c) A (call (.ref 516) [v]) Q E s:=by
 obtain⟨hh,g,d,t,os⟩:=s;have X:=C.BE.keeps st;refine mH (Gx.own hh X) (Xch rfl) (Xhf X Gx.rs.Fe) (λself=>bind_fn X self (Xej.mp Gx.rs.fn)) λf x tt fx lx z gx=>AB λkk=>Aj (G.fn ⟨513,"Raised","__init__",none⟩ (Ai 41)) λps body sc E5 D=>kk ?_;have TJ:=JO (al dQ) E5;revert D;refine i2 TJ λs1 s2 h=>Zq (al (ar (ar h))) λgp ap a b cp pos H ha J h1=>Zr (ar (ar (ar h))) λa2 p2 b2 V6 TO IA=>?_;revert J;refine sL h1 λy yk yp hy J D=>?_;have ZM:=al h;have hg:=eq_of_beq (al (ar h));refine AB λkk=>Bf (F1 ZM) λp _ _=>kk ?_;have hs:=p.loc "self" (by decide);have hr:=p.loc "thing" (by decide);have Jh:AS c.base f:=λb o e=>z _ _ (st b o e);have Y:c.base.get? x=none:=Dn (st x) fx;refine KJ C Jh D (by show A.depth+1<1000;omega) (binds:=(["self","thing"]:List Str).zip [.ref x,v]) p (Fy ZM (.inl (AX rfl rfl rfl))) λT j I i=>?_;have V:ER (DX sc f.objs.size (Dk.qual ⟨513,"Raised","__init__",none⟩) 513 T) sc f.objs.size:=G5 p;have L:=Jh.trans i;have PJ:=i _ _ gx;have nL:f.objs.size≠x:=λq=>by rw[<-q]at gx;have:=Xdt gx;exact Xd2 _ this
 refine Xct (Xes ?_ (Pk p.kind) (CM rfl));have sa:=EL ha;refine Xe5 (PH C L V hg (G.gl ("GemError",.ref 496) (by decide)) (by decide) (method_cls (C.BE.keeps L) Gx.Vq (cls_value (C.BE.keeps L) Gx.Vt Gx.Vp rfl (Xhk (C.BE.keeps L) Gx.Vs ?_ (Bn sa) (H9 rfl))))) (JV J (Xch rfl) H);refine Xc5 (DF V ha hs (s:=⟨j,g,d,t+2+1,os⟩) I rfl (Xc5 (Xef (args_nil ⟨C.BE.keeps L,o7 C G Gx (s:=⟨j,g,d,t+2+1+1,os⟩) (by show A.depth+1+1+2<1000;omega) L Y PJ λr l fG M fd O n w=>?_⟩)) rfl)) (Bn sa);have u:=λb o e=>O b o (λq=>nH q Y e) (L b o e);have NG:r.Ns f.objs.size _:=F7 I λo=>O _ o nL;have nLd:f.objs.size≠l:=λq=>by refine AB λkk=>Aj I λo _ _ e _=>kk ?_;rw[q]at e;exact nG (show j.get? l=none from fd) e
 refine Xct (Xda (DF V IA hr NG rfl (DF V TO hs NG rfl (yz Gx.rs (s:=⟨r,g,d,M,os⟩) (C.BE.keeps u) n w (lin [] 347950366067457 rfl) (.inr rfl) λCt N B sb=>Xdm ⟨rfl,?_⟩))) (CM (br IA)));have Uo:x≠l:=λq=>by rw[<-q]at fd;exact nG (show j.get? x=none from fd) PJ
 have U:hh.get? l=none:=Dn (λu0 e=>i _ _ (z _ _ e)) fd;refine k Ct x l _ _ N fx lx U (λb o e=>?_) ((sb.2 x Uo).trans n) rfl (Xch rfl) B.ns Cn;have nb:b≠l:=λq=>by rw[q]at e;exact nG (show hh.get? l=none from U) e
 have Un:b≠x:=λq=>by rw[q]at e;exact nG (show hh.get? x=none from fx) e
 exact(sb.2 b nb).trans (O b o Un (i _ _ (z _ _ e)))
end
noncomputable def MO:List Str:=["self","name","message"]
noncomputable def Sw:PE:= .Q 51 0 [.W 1,.W 2]
noncomputable def T2:Fn:=⟨3,0,0,[]⟩
noncomputable def di(s:Stmt)(f:Option PySem.Expr->Option PySem.Expr->Bool):Bool:=match s with| .Raise a b _=>f a b|_=>false
@[elab_as_elim]theorem sG{P:Stmt->Prop}(h:di s f=true)(k:∀a b p,f a b=true->P (.Raise a b p)):P s:=by
 cases s<;>first|exact k _ _ _ h|exact fT h
def V9(k:PySem.Expr->Bool)(s:Stmt):Bool:=di s λo c=>c.isNone&&Iq o λv=>Dy v λg Q E U=>BU g λr=>E.isEmpty&&a1 Q λe=>r=="Raised"&&(!(Av e)&&k e)
theorem yM(h:V9 k s=true):∃e rp cp pos,s= .Raise (some (.Call (.Name "Raised" rp) [e] [] cp)) none pos/\Av e=false/\k e=true:=
 sG h λo c pos h=>JN h λh=>Ki h λv h=>E6 h λg Q E cp h=>BD h λr rp h=>iE h λh=>i1 h λe h=>C0 h λh=>(RC e rp cp pos rfl (Aq (al h)) (ar h))
def YD(p:Program):Bool:=K5 p "World" "fail" λv body M=>a1 body λN=>Eo v M MO&&(v.defaults.isEmpty&&(M.names.lookup ("Raised":Str)==some .globalImplicit&&V9 (λe=>Ag EA false M.names (CP MO M.names) [] Sw e) N))
theorem mU(h:YD Cd=true)(e:CT Cd "World" "fail"=some (ps,body,M)):∃s,body=[s]/\Eo ps M MO=true/\ps.defaults=[]/\M.names.lookup ("Raised":Str)=some .globalImplicit/\V9 (λe=>Ag EA false M.names (CP MO M.names) [] Sw e) s=true:=
 i1 (JO h e) λs h=>(fq s rfl (al h) (Oq (al (ar h))) (eq_of_beq (al (ar (ar h)))) (ar (ar (ar h))))
theorem mY:YD Cd=true:=by kernel_rfl
theorem zA(h:Eo ps M vars=true)(Q:fd.np=vars.length)(Y:fd.nl=0)(u:∀as d,ps=⟨[],as,none,[],[],none,d⟩->d=[]):HE fd vars ⟨nm,ps,body,M,default⟩:=by refine AB λJ=>Bf (F1 h) λa e w=>Ce w λas d b ha=>?_;obtain rfl:=b;have:=u as d rfl;subst this;exact J ⟨(AG as rfl (rL ha (rL Q (rL Xdx rfl)))),by exact rL (Q ..) (rL (Y ..) (rL (Nat.add_zero ..) rfl)),e,λx B=> .inl (a.loc x B),a.kind,a.co,a.gen⟩
section
variable {c:Cx}(C:c.Ok)(G:Co c)(Gx:Fv c)(AM:c.fl=Cc)(BG:FI c)
include C G Gx AM BG
theorem yO(O:AU A (n+1))(en:Aw Γ N A)(hR:N.lookup ("Raised":Str)=some .globalImplicit){rp cp pos:Pos}(L:Av e=false)(he:Ac c A (eval e A.env) σ (.V AP) A0):
  FJ c A (exec (.Raise (some (.Call (.Name "Raised" rp) [e] [] cp)) none pos) A.env) σ A0 AP:=λW M s S=>by
 refine rL (arm_exec_Raise ..) (Xcd (wpAny_standAt (yN Gx.rs O.hand (Xcd (Hw C O en hR (G.gl ("Raised",.ref 516) (Ai 8)) (by decide) S.base (by simp[Be,L]) (Xc5 (one C O he S λg f v P R=>args_nil (AH P.S.base ?_)) (Bn L)))))));refine yQ C G.toFG Gx (by have:=O.depth;exact lin [A.A.depth,n] 18010716009935570014733005478642676228993 rfl this) P.S.base λh' x w Y m tk u lx D k p y r H hm=>Xcd (wpAny_standAt (Xcp (AB λkk=>?_)));obtain⟨o,es,ep,Q,hd,hk,hf⟩:=Dd H;refine kk ?_;have d:=P.S;have E:w≠x:=λq=>by replace Q:=p▸ q▸ Q;obtain rfl:=sS Q;cases hd
 let I:Addr->Prop:=λb=>Al g f.heap b\/b=x;have J:∀a,I a->g a\/f.heap.get? a=none:=λa q=>q.elim (λq=> .inl q.1) λq=> .inr (rL q u);have t:=d.same C O (.keeps k) J (λi=> .inl (AH (d.sw i) (d.al i))) (λj l b V=> .inl (AH (d.Bc j l b V) (d.DM C j l b V))) (.inl (AH d.LW (let⟨m,o,_,_,e,_⟩:=d.LN;⟨o,e⟩))) λa ha=> .inl (AH (d.tW a ha) (C.I8 d.gi a ha));have B:∀{a:Addr},f.heap.get? a=none->¬Ex A (Al g f.heap) a:=λe z=>by obtain⟨o,q⟩:=Ex.al C O d _ z;exact nG e q
 have nx:HF c A A0 M x:=by
  refine(DR (λj l q=>?_) (λi q=>?_) ?_ λq=>?_)
  ·obtain⟨o,e⟩:=d.DM C j l x q;exact nG u e
  ·obtain⟨o,e⟩:=d.al i;exact nH q u e
  ·exact Xdg (Cq C O d) lx
  ·obtain⟨o,e⟩:=C.I8 d.gi x q;exact nG u e
 have h:∀b o,¬Ex A g b->f.heap.get? b=some o->h'.get? b=some o/\¬Ex A I b:=λb o U e=>(AH (k b o e) (λz=>by
  rcases z with z|z|z
  ·exact U (.inl z)
  ·exact U (.inr z.1)
  ·exact nH z u e))
 refine(GQ x _ (some o) Y rfl (C.BE.keeps t.base) ⟨p,rfl,rfl,Q⟩ rfl y (DA I M x none ⟨rfl,.inl rfl,P.sm.trans .of,P.nx.trans ⟨.keeps k,J⟩,t,λu0 u0=>rfl,w,m,v,⟨_,Y,p,rfl,rfl,rfl,r,y⟩,H,?_,hm,AZ.mono h AP R,⟨.inr rfl,nx⟩,λT q=>by obtain⟨fl,q⟩:=q;exact nS q⟩));intro z;rcases z with z|z|z
 ·exact B D (.inl z)
 ·exact B D (.inr z)
 ·exact E z
end
section
variable {k:Ck}{so:Bool}{N:List (Str×NameKind)}{Γ:CO}{K:List Nat}
theorem Yp(gl:Jv c k d)(h:(k.FQ f=="")=false)(e:d f=some v):DI c.K (k.FQ f) v:=
 (gl.f f (Xie h)).elim λw hw=>sS (hw.1.symm.trans e)▸ hw.2
@[elab_as_elim]theorem KC{P:List Stmt->Prop}(h:EH k so N Γ K (s::ss) ys=true)(q:∀y r,Hx k so N Γ K s y=true->EH k so N Γ K ss r=true->P (y::r)):P ys:=by
 cases ys with
 |nil=>exact fT h
 |cons y r=>exact q y r (al h) (ar h)
@[elab_as_elim]theorem XB{P:Stmt->Prop}(h:Hx k so N Γ K (.X t a b) x=true)(q:∀u y z pos,Ag k so N Γ K t u=true->EH k so N Γ K a y=true->P (.If u y z pos)):P x:=
 Zs h λu y z pos h=>q u y z pos (al h) (al (ar h))
@[elab_as_elim]theorem XA{P:Stmt->Prop}(h:Hx k so N Γ K (.ex e) x=true)(q:∀v pos,Ag k so N Γ K e v=true->EJ v=false->P (.Expr v pos)):P x:=
 Kh h λv pos h=>q v pos (al h) (Aq (ar h))
@[elab_as_elim]theorem jv{P:PySem.Expr->Prop}(h:Ag k so N Γ K (.Q f v args) x=true)
  (q:∀nm np r ys pos,DL Γ nm v=true->(k.HA f=="")=false->(r.endLine==pos.line)=true->ys.length<29->Be ys=true->HP k so N Γ K args ys=true->P (.Call (.Attribute (.Name nm np) (k.HA f) r) ys [] pos)):P x:=
 E6 h λg ys E pos h=>HW h λy a r h=>BD h λnm np h=>iE h λh=>eq_of_beq (al (ar h))▸ q nm np r ys pos (al h) (Aq (al (ar (ar h)))) (al (ar (ar (ar h)))) (Xcj (al (ar (ar (ar (ar h)))))) (al (ar (ar (ar (ar (ar h)))))) (ar (ar (ar (ar (ar (ar h))))))
@[elab_as_elim]theorem X9{P:PySem.Expr->Prop}(h:Ag k so N Γ K (.call f args) x=true)
  (q:∀np y ys pos,(k.FQ f=="")=false->glob N (k.FQ f)=true->(k.FQ f=="__debug__")=false->Be (y::ys)=true->HP k so N Γ K args (y::ys)=true->P (.Call (.Name (k.FQ f) np) (y::ys) [] pos)):P x:=
 E6 h λg ys E pos h=>BD h λnm np h=>iE h λh=>by
  have e:=eq_of_beq (al (ar h));subst e;cases ys with
  |nil=>exact fT (al h)
  |cons y ys=>exact q np y ys pos (Aq (al (ar (ar h)))) (al (ar (ar (ar h)))) (Aq (al (ar (ar (ar (ar h)))))) (al (ar (ar (ar (ar (ar h)))))) (ar (ar (ar (ar (ar (ar h))))))
end
def Gw(n:Nat)(lm:Nat×Option Nat):Str:=Str.ofString "wrong number of arguments (given "++Ak n++Str.ofString ", expected "++CA lm++Str.ofString ")"
theorem Wu(Y:lm.1<1000)(T:∀m,lm.2=some m->m<1000):(CA lm).cps.size<=30:=by
 obtain⟨l,m⟩:=lm;have Y:l<1000:=Y;have N:=F6 Y;have H:=Vn;have z:=Nm;cases m with
 |none=>show(Ak l++Str.ofString "+").cps.size<=_;rw[Ci];exact lin [(Ak l).cps.size,(Str.ofString "+").cps.size] 142464621599730688942209 rfl N (Xcg H)
 |some m=>
  have r:=F6 (T m rfl);show(if l=m then Ak l else Ak l++Str.ofString ".."++Ak m).cps.size<=_;split
  ·exact lin [(Ak l).cps.size] 28295321155585 rfl N
  ·rw[Ci,Ci];exact lin [(Ak l).cps.size,(Str.ofString "..").cps.size,(Ak m).cps.size] 53618348455549556463485807818457985 rfl N (Xcg z) r
theorem Nn:(Str.ofString "wrong number of arguments (given ").cps.size=33:=by decide+kernel
theorem Qq:(Str.ofString ", expected ").cps.size=11:=by decide+kernel
theorem eh:(Str.ofString ")").cps.size=1:=by decide+kernel
theorem Qc(h:Fj n lm=true):n<1000/\lm.1<1000/\∀m,lm.2=some m->m<1000:=by unfold Fj at h;refine⟨Xcj (al (al h)),Xcj (ar (al h)),λm e=>?_⟩;have:=ar h;rw[e]at this;exact Xcj this
section
variable {Φ:BZ}{w n:Nat}{lm:Nat×Option Nat}
abbrev M9(w n:Nat)(lm:Nat×Option Nat):St:=[.N (.Z w),.V (.int (n:Int)),.V (.int lm.1),.V (C8 lm.2),.U]
abbrev SM:PE:= .or (.K .Lt (.W 1) (.W 2)) (.and (.E (.W 3) true) (.K .Gt (.W 1) (.W 3)))
abbrev SK:PE:= .B .Add (.B .Add (.B .Add (.B .Add (.str (Str.ofString "wrong number of arguments (given ")) (.F .H (.W 1))) (.str (Str.ofString ", expected "))) (.call 3 [.W 2,.W 3])) (.str (Str.ofString ")"))
theorem bI(h:decide (i<j)=b):B7 .Lt (.int i) (.int j)=some (.bool b):=congrArg (λb=>some (Val.bool b)) h
theorem oN(h:decide (j<i)=b):B7 .Gt (.int i) (.int j)=some (.bool b):=congrArg (λb=>some (Val.bool b)) h
theorem jp(h:Dm n lm=true):ev Φ 4 SM true (M9 w n lm)=some (.V (.bool true),M9 w n lm):=by
 obtain⟨l,m⟩:=lm;by_cases q:n<l
 ·exact qE [aM (bI (Xcy (Xgj.mpr q)))]
 ·have s:¬(n<(l:Int)):=λz=>q (Xgj.mp z);have h:(decide (n<l)||(match (generalizing:=false) m with|some m=>decide (n>m)|none=>false))=true:=h;rw[Xc1 q]at h
  ·cases m with
   |none=>exact fT h
   |some m=>
    haveI h:m<n:=Xcj h;exact qE [aM (bI (Xc1 s)),aM (oN (Xcy (Xgj.mpr h)))]
theorem jo(I:Fj n lm=true)(H:Φ 3 [.V (.int lm.1),.V (C8 lm.2)]=some (.V (.str (CA lm)),[.V (.int lm.1),.V (C8 lm.2)])):ev Φ 4 SK false (M9 w n lm)=some (.V (.str (Gw n lm)),M9 w n lm):=by refine AB λJ=>Bf (Qc I) λQ k d=>J ?_;have N:=F6 Q;have r:=Wu k d;have b:=Ey (by have:=Nn;exact lin [(Str.ofString "wrong number of arguments (given ").cps.size,(Ak n).cps.size] 36156111201800172136622027881078502547585 rfl N (Xcg this));have A:=Ey (y:=Str.ofString ", expected ") (by rw[Ci];have a:=Nn;have f:=Qq;exact lin [(Str.ofString "wrong number of arguments (given ").cps.size,(Ak n).cps.size,(Str.ofString ", expected ").cps.size] 530357289024354050324599753358368166211722452157313 rfl N (Xcg a) (Xcg f));have z:=Ey (x:=Str.ofString "wrong number of arguments (given "++Ak n++Str.ofString ", expected ") (y:=CA lm) (by rw[Ci,Ci];have a:=Nn;have f:=Qq;exact lin [(Str.ofString "wrong number of arguments (given ").cps.size,(Ak n).cps.size,(Str.ofString ", expected ").cps.size,(CA lm).cps.size] 23063405516992563727036706179805121692991226126307144725271937 rfl N r (Xcg a) (Xcg f));have u:=Ey (x:=Str.ofString "wrong number of arguments (given "++Ak n++Str.ofString ", expected "++CA lm) (y:=Str.ofString ")") (by rw[Ci,Ci,Ci];have a:=Nn;have f:=Qq;have i:=eh;exact lin [(Str.ofString "wrong number of arguments (given ").cps.size,(Ak n).cps.size,(Str.ofString ", expected ").cps.size,(CA lm).cps.size,(Str.ofString ")").cps.size] 108328010946862172048410153655360888141615196409261874268191040753729921 rfl N r (Xcg a) (Xcg f) (Xcg i));exact qE [aF (GL Q),aB b,aB A,aC H,aB z,aB u]
end
section
variable {c:Cx}(C:c.Ok)(G:Co c)(Gx:Fv c)(AM:c.fl=Cc)(BG:FI c)
include C G Gx AM BG
theorem jj(d:DU c (callF (m+3)) (m+3) BN)(O:AU φ (m+5))(k:σ.at x= .N (.Z w))(E:JT.contains nm=true):
  Jt c φ (.ref 734) [.N x,.V (.str nm),.V (.str a)] σ (Bk σ [.N x,.V (.str nm),.V (.str a)] [.N (.Z w),.V (.str nm),.V (.str a)]) (KL (EK nm) (LH a)):=by
 intro W M s vs S R;refine AB λJ=>Aj (G.fn ⟨734,"World","fail",none⟩ (Ai 51)) λY body sc b g=>B8 g λoF F r=>?_;obtain⟨D,t,l,p⟩:=r;refine J (AB λJ=>fo (mU mY b) λs1 u H o v f=>?_);obtain rfl:=u;obtain⟨e,rp,T,j,rfl,I,f⟩:=yM f;refine J ?_;have z:HE T2 MO ⟨"fail",Y,[.Raise (some (.Call (.Name "Raised" rp) [e] [] T)) none j],sc,default⟩:=zA H rfl rfl λas ds q=>by rw[q]at o;exact o
 refine Yg C z D t l p O (AA:=[.N (.Z w),.V (.str nm),.V (.str a)]) rfl (λAD V U L du=>?_) (by simp[AR.ix]) (λy N=>?_) (by rfl) S R
 ·have Q:[AR.N x,.V (.str nm),.V (.str a)].map (AR.lv σ)++List.replicate T2.nl LV.U++List.replicate T2.nc LV.O=[.N (.Z w),.V (.str nm),.V (.str a)]:=by show[σ.at x,.V (.str nm),.V (.str a)]=_;rw[k]
  rw[Q];refine LR C V (yO C G Gx AM BG V L v I ((AY C AM.symm (KU G.toFG) d (Kq C G BG) Sw V L (λi A=>by cases A) (λh=>fT h) f ?_).1 rfl));rw[U];exact qE [aC (@lA m w nm a E)]
 ·have:y=x:=by simpa[AR.ix]using N
  rw[this,k];rfl
end
def NS:HD:={id:=5,name:="check_count",fd:=I7,so:=false,vars:=["world","many","least","most","told"]}
theorem VH:NS∈En/\NS.id=5:=by refine⟨?_,rfl⟩;have:En[5]? =some NS:=rfl;exact Xc0 this
theorem Q2(a:e∈En)(I:e.id≠28)(h:CT Cd e.cls e.name=some (ps,body,M)):RI EA e.so e.fd e.vars ⟨e.name,ps,body,M,default⟩:=by have l:=Xce.mp YV e a;simp only[Xfa,Xej,I,false_or]at l;unfold T6 at l;rw[h]at l;exact T5 l
section
variable {c:Cx}(C:c.Ok)(G:Co c)(Gx:Fv c)(AM:c.fl=Cc)(BG:FI c)
include C G Gx AM BG
theorem ji(jb:DU c (callF (m+3)) (m+3) BN)(SI:DU c (callF (m+4)) (m+4) BN)(O:AU φ (m+6))(ha:BN 5=some (.ref a))(hx:σ.at x= .N (.Z w))(qI:Dm n lm=true)(hs:Fj n lm=true)
  (h3:callF (m+4) 3 [.V (.int (lm.1:Int)),.V (C8 lm.2)]=some (.V (.str (CA lm)),[.V (.int (lm.1:Int)),.V (C8 lm.2)])):
  Jt c φ (.ref a) [.N x,.V (.int n),.V (.int lm.1),.V (C8 lm.2)] σ (Bk σ [.N x,.V (.int n),.V (.int lm.1),.V (C8 lm.2)] [.N (.Z w),.V (.int n),.V (.int lm.1),.V (C8 lm.2)]) (KL (EK "ArgumentError") (LH (Gw n lm))):=by
 refine X0 C G (fd:=I7) rfl ha O (AA:=[.N (.Z w),.V (.int (n:Int)),.V (.int (lm.1:Int)),.V (C8 lm.2),.V (.str (Gw n lm))]) rfl (by simp[AR.ix]) (λy hy=>?_) (by rfl) VH (λps body sc h=>(Q2 VH.1 (by decide) h).toHE) λps body sc AD E5 O' np en du=>?_
 ·have:y=x:=by simpa[AR.ix]using hy
  refine rL this (rL hx ?_);rfl
 ·have lk:=Q2 VH.1 (by decide) E5;have e0:[AR.N x,.V (.int n),.V (.int lm.1),.V (C8 lm.2)].map (AR.lv σ)++List.replicate I7.nl LV.U++List.replicate I7.nc LV.O=M9 w n lm:=by simp[AR.lv,hx,I7]
  refine rL e0 ?_;have hb:EH EA false sc.names (CP NS.vars sc.names) ((List.range I7.nc).map (·+NS.vars.length)) [.X SM [.G 4 SK,.ex (.Q 43 0 [.str "ArgumentError",.W 4])] []] body=true:=lk.body
  refine KC hb λy r hy hr=>XB hy λu ya yb pos hu ro=>KC ro λy1 r1 G9 ZY=>KC ZY λy2 r2 Tw hr2=>XA Tw λv V6 hv qT=>?_;have gl:=KU G.toFG;have me:=Kq C G BG;have c9:=np;have sh:(false=true->GS c AD EA):=λh=>fT h;refine LR C O' (fu C O' ((AY C AM.symm gl SI me SM O' en du sh hu (rL c9 (jp qI))).2 rfl true rfl) ?_);refine gC C O' (ML C AM.symm gl SI me (.G 4 SK) (fuel:=5) O' en du sh G9 (A0:=[.N (.Z w),.V (.int (n:Int)),.V (.int (lm.1:Int)),.V (C8 lm.2),.V (.str (Gw n lm))]) ?_) ?_
  ·have q:=jo (w:=w) hs h3;exact c9▸ fR q rfl
  ·refine LR C O' (ft C O' (jv hv λnm c8 ap ys d1 FZ FY Mi hl Fb qG=>(CR FZ).1.elim λb qs=>lg C O' en me qs (CR FZ).2 ⟨w,rfl⟩ rfl FY Mi hl Fb (by kernel_rfl) (J7 C AM.symm gl SI me [.str "ArgumentError",.W 4] O' en du sh qG (A0:=[.N (.Z w),.V (.int (n:Int)),.V (.int (lm.1:Int)),.V (C8 lm.2),.V (.str (Gw n lm))]) (qA [] (by kernel_rfl))) (jj C G Gx AM BG jb O' rfl (by decide+kernel))) qT)
end
def NR:HD:={id:=13,name:="bind",fd:=I6,so:=false,vars:=["world","params","args","strict","values","given"]}
theorem VG:NR∈En/\NR.id=13:=by refine⟨?_,rfl⟩;have:En[13]? =some NR:=rfl;exact Xc0 this
abbrev OW(w:Nat)(P:Val)(ys:List Val):St:=[.N (.Z w),.V P,.V (.list ys),.V (.bool true),.N (.dict [] []),.U]
abbrev S6:List PE:=[.W 0,.F .L (.W 2),.call 0 [.W 1],.call 1 [.W 1]]
abbrev j0:List PS:=[.X (.and (.K .Eq (.F .L (.W 2)) (.int 1)) (.and (.J (.S (.W 2) (.int 0)) 114) (.K .Gt (.call 2 [.W 1]) (.int 1)))) [.G 2 (.F .toList (.A (.S (.W 2) (.int 0)) 114 6))] [],.G 2 (.call 9 [.W 2,.W 1])]
abbrev j1:List PS:=[.G 5 (.call 12 [.W 0,.W 1,.W 2,.W 4]),.ret (.T [.W 4,.W 5])]
theorem j3(h:G0 P=some j):By (callF (m+2)) 4 S6 (OW w P ys)=some ([.N 0,.V (.int ys.length),.V (.int j.1),.V (C8 j.2)],OW w P ys):=by have Y:= @bU m P j h;refine AB λJ=>Dw (Ww h) λa b r p e=>Bh e λO d N A=>?_;obtain rfl:=d;refine J ?_;have Q:= @bB (m+1) a b r O p;rw[<-N]at Q;exact qA [aC Q,aC Y] (by kernel_rfl)
section
variable {c:Cx}(C:c.Ok)(G:Co c)(Gx:Fv c)(AM:c.fl=Cc)(BG:FI c)
include C G Gx AM BG
theorem jh(E:DU c (callF (m+3)) (m+3) BN)(i:DU c (callF (m+4)) (m+4) BN)(b:DU c (callF (m+5)) (m+5) BN)(O:AU φ (m+7))(ha:BN 13=some (.ref a))(Y:σ.at x= .N (.Z w))(hP:G0 P=some j)(s:Dm ys.length j=true)(I:Fj ys.length j=true):
  Jt c φ (.ref a) [.N x,.V P,.V (.list ys),.V (.bool true)] σ (Bk σ [.N x,.V P,.V (.list ys),.V (.bool true)] [.N (.Z w),.V P,.V (.list ys),.V (.bool true)]) (KL (EK "ArgumentError") (LH (Gw ys.length j))):=by
 refine X0 C G (fd:=I6) rfl ha O (AA:=OW w P ys) rfl (by simp[AR.ix]) (λy p=>?_) (by rfl) VG (λps body M h=>(Q2 VG.1 (by decide) h).toHE) λps body M U n V np L l=>?_
 ·have:y=x:=by simpa[AR.ix]using p
  refine rL this (rL Y ?_);rfl
 ·have lk:=Q2 VG.1 (by decide) n;have e0:[AR.N x,.V P,.V (.list ys),.V (.bool true)].map (AR.lv σ)++List.replicate I6.nl LV.U++List.replicate I6.nc LV.O=[.N (.Z w),.V P,.V (.list ys),.V (.bool true),.U,.U]:=by simp[AR.lv,Y,I6]
  refine rL e0 ?_;have hb:EH EA false M.names (CP NR.vars M.names) ((List.range I6.nc).map (·+NR.vars.length)) (.EG 2 4 (.F .toList (.W 2)) .Gb true:: .X (.W 3) [.ex (.call 5 S6)] j0::j1) body=true:=lk.body
  refine KC hb λy0 r0 A D=>KC D λy r p hr=>XB p λu ya yb pos hu N=>KC N λy1 r1 B ZY=>XA B λv V6 hv f=>?_;have gl:=KU G.toFG;have H:=Kq C G BG;have e:=np;have J:(false=true->GS c U EA):=λh=>fT h;refine gC C V (ML C AM.symm gl b H (.EG 2 4 (.F .toList (.W 2)) .Gb true) (fuel:=5) V L l J A (A0:=OW w P ys) ?_) ?_
  ·exact e▸ qS []
  refine LR C V (fu C V ((AY C AM.symm gl b H (.W 3) V L l J hu (by rfl)).2 rfl true rfl) ?_);have q:BN 5=some (.ref 405):=by kernel_rfl
  refine LR C V (ft C V (X9 hv λc8 z zs d1 g d o k t=>Xp C V L (G7 d) (Yp gl g q) o k (J7 C AM.symm gl b H S6 V L l J t (rL e (j3 hP))) (ji C G Gx AM BG E i V q rfl s I (@Wv (m+3) j.1 j.2 (Qc I).2.1 (Qc I).2.2))) f)
end
section
variable {c:Cx}(C:c.Ok)(G:FG c)(AM:c.fl=Cc){A:Around}{E:Value->Shared->Prop}
include C G AM
theorem PD(b:cl∈Hy)(st:AS c.base s.heap){k:Nat}
  (B:AZ (c.prog,c.w) c.fl M s.heap (.I cl.C xs) u) (L:xs[k]? =some x) (i:(Cc cl.C)[k]? =some nm) (t:nm∈cl.fs)
  (q:∀v,AZ (c.prog,c.w) c.fl M s.heap x v->Q v {s with toks:=s.toks+1}):wpAny (Mo c) A (getAttr u nm e) Q E s:=by
 refine AB λJ=>?_;obtain⟨a,d,m,p,rfl,j,n,f,g,h,r⟩:=B;refine AJ (r.get L) λw Y T=>J ?_;have hw:m nm=some w:=by have:=congrArg (λl=>l[k]?) h;simp only[Xdy,AM,i,Y,Xic,Option.some.injEq]at this;exact this
 exact PF C st (G.cls cl b) f g t hw T.handed (q w T)
end
theorem Qr:((": ":Str)).cps.size=2:=by decide+kernel
section
variable {c:Cx}(C:c.Ok)(G:FG c)(Gx:Fv c)(AM:c.fl=Cc){A:Around}{E:Value->Shared->Prop}
include C G Gx AM
theorem qD(st:AS c.base s.heap)(ek:env.scope.kind= .function)(hl:env.kindOf "e"=some .local)(hL:s.heap.Ns env.locals mL)(he:mL "e"=some (.ref ea))(F:Fu s.heap ea dx tb)
  {m:Str->Option Value} (hd:s.heap.Ns dx m) (hm:m ("thing":Str)=some v) (hv:AZ (c.prog,c.w) c.fl M s.heap (KL (EK n) (LH msg)) v) (hsz:n.cps.size+2+msg.cps.size<=1000000)
  (q:∀t tk,Q (.str (n++Str.ofString ": "++msg) t) {s with toks:=tk}):wpAny (Mo c) A (eval (.BinOp (.BinOp (.Attribute (.Attribute (.Attribute (.Name "e" p1) "thing" p2) "owner" p3) "name" p4) .Add (.Constant (.str ": ") kc p5) p6) .Add (.Attribute (.Attribute (.Attribute (.Name "e" p7) "thing" p8) "message" p9) "text" QK) xT) env) Q E s:=by
 refine AB λkk=>B8 F λoe vs Ap=>?_;obtain⟨ge,hc,JG,TU,h4,h5⟩:=Ap;refine kk ?_;have th:∀{pos pos':Pos}{tk:Nat}{Q:Value->Shared->Prop},Q v {s with toks:=tk+1}->wpAny (Mo c) A (eval (.Attribute (.Name "e" pos) "thing" pos') env) Q E {s with toks:=tk}:=λ{pos pos' tk Q}hq=>
  Xe8 (Xia (Xgy ek hl hL he (o8 Gx.rs (s:={s with toks:=tk}) (C.BE.keeps st) ge hc (by unfold notCls;rw[TU]) JG hd (.inr rfl) hm hv.handed hq)) (by decide)) (by rw[Xeg,HM rfl])
 refine Xij (Xij (Xe8 (Xe8 (th (tk:=s.toks) (PD C G AM (cl:=⟨213,210,DQ++(["message","cause"]:List Str)⟩) (Ai 5) (s:={s with toks:=s.toks+1}) st (k:=1) hv rfl (by kernel_rfl) (by decide+kernel) λvo ho=>PD C G AM (cl:=⟨260,250,DQ++(["name","is_class","parent","outer","methods","constants","mixed","ahead","attached","native","kept"]:List Str)⟩) (Ai 6) (s:={s with toks:=s.toks+1+1}) st (k:=6) ho rfl (by kernel_rfl) (by decide+kernel) λvn hn=>AB λkk=>?_)) (by rw[Xeg,HM rfl])) (by rw[Xeg,HM rfl])));obtain⟨⟨t,rfl⟩,r4⟩:=hn;refine kk (Xef (add_str (λt' tk=>?_) ?_))
 ·refine Xe8 (Xe8 (th (tk:=tk) (PD C G AM (cl:=⟨213,210,DQ++(["message","cause"]:List Str)⟩) (Ai 5) (s:={s with toks:=tk+1}) st (k:=6) hv rfl (by kernel_rfl) (by decide+kernel) λvm hm=>PD C G AM (cl:=⟨94,91,DQ++(["text"]:List Str)⟩) (Ai 2) (s:={s with toks:=tk+1+1}) st (k:=6) hm rfl (by kernel_rfl) (by decide+kernel) λvx hx=>AB λkk=>?_)) (by rw[Xeg,HM rfl])) (by rw[Xeg,HM rfl]);obtain⟨⟨t'',rfl⟩,hx2⟩:=hx;refine kk (add_str (λt3 Vu=>q t3 Vu) ?_);rw[Xc9];show(n++Str.ofString ": ").cps.size+msg.cps.size<=_;rw[Ci];have:=Qr;have:=Qr;exact lin [n.cps.size,(Str.ofString ": ").cps.size,msg.cps.size] 522910286208697341425720169350505950595746534755722699112349713281 rfl hsz (Xcg this)
 ·rw[Xc9];have:=Qr;exact lin [n.cps.size,(Str.ofString ": ").cps.size] 21377148051349278725457623253512929215604049021634699393 rfl r4 (Xcg this)
end
theorem AF.Xa2(C:c.Ok)(O:AU φ n)(S:AF c φ W σ AE h)(on:(σ.at i).on)
  (s:Heap.SameBut (φ.slots i).at h h') (nd:∀D y m,φ.slots i= .d D y->h.Ns D m->h'.Ns D λz=>if z=y then Xb8 else m z) (ce:∀a,φ.slots i= .c a->h'.IsCell a (some v)):
  AF c φ W (σ.set i .O) AE h':=by
 have f:=S.drop i;have ne:=LV.IT on;have eq:∀j,St.at (σ.set i .O) j=if j=i then .O else σ.at j:=λj=>by
  refine rL FN ?_;by_cases e:j=i
  ·exact rL (Xck ⟨e,FL ne⟩) (rL (Xck e) rfl)
  ·exact rL (Xcm λq=>e q.1) (rL (Xcm e) rfl)
 have hW:=S.sw i;have UJ:∀b o,¬Ex φ W b->h.get? b=some o->h'.get? b=some o/\¬Ex φ W b:=λb o nb e=>⟨(s.2 b λq=>nb (.inr (q▸ hW))).trans e,nb⟩;have IV:∀j o,(σ.at j).Az->Bu c (Ex φ W) h (AE j) o->Bu c (Ex φ W) h' (AE j) o:=λj o p q=>q.mono C λb ob hb e=>by
  refine⟨(s.2 b λz=>?_).trans e,id⟩;rcases hb with hb|hb
  ·exact hb (.inr (z▸ hW))
  ·exact S.so i j p (z▸ hb)
 have Jf:∀j,j≠i->(σ.at j).on->(∀u,(φ.slots j).Dx h u->(φ.slots j).Dx h' u)/\((φ.slots j).Af h->(φ.slots j).Af h'):=by
  intro j p Mj;have r:=S.sa j i p Mj on;cases hs:φ.slots j with
  |c a=>
   replace r:=hs▸ r;have na:a≠(φ.slots i).at:=by
    cases g:φ.slots i with
    |c b=>replace r:=g▸ r;exact r
    |d D y=>replace r:=g▸ r;exact r
   exact⟨λu q=>q.sameBut s na,λ⟨u,q⟩=>⟨u,q.sameBut s na⟩⟩
  |d D x=>
   replace r:=hs▸ r;by_cases hD:D=(φ.slots i).at
   ·cases g:φ.slots i with
    |c b=>replace r:=g▸ r;exact absurd (by replace hD:=g▸ hD;exact hD) r
    |d D' y=>
     rw[g]at r hD;have hD:=hD;subst hD;have Uv:=r.elim (λq=>absurd rfl q) id;exact⟨λu⟨m,q1,q2⟩=>⟨_,nd D y m g q1,by exact rL (Xcm Uv) q2⟩,λ⟨m,q1⟩=>⟨_,nd D y m g q1⟩⟩
   ·exact⟨λu⟨m,q1,q2⟩=>⟨m,q1.sameBut s hD,q2⟩,λ⟨m,q1⟩=>⟨m,q1.sameBut s hD⟩⟩
 have Lf:∃m,h'.Ns φ.L m:=by
  refine AK S.LN λm q=>?_;by_cases e:φ.L=(φ.slots i).at
  ·cases g:φ.slots i with
   |c a=>
    exfalso;obtain⟨o,es,ep,ho,hd⟩:=Dd q;have fr:=(S.lv i).free on;rw[g]at fr e;refine AK fr λu Ap=>AJ Ap λo' w t=>?_;have e:φ.L=a:=e;replace w:=ho▸ e▸ w;obtain rfl:=Xcl w;replace t:=hd▸ t;cases t
   |d D y=>
    replace e:=g▸ e;have e:φ.L=D:=e;exact(AN _ (e▸ nd D y m g (e▸ q)))
  ·exact(AN m (q.sameBut s e))
 have S5:∀b o,c.base.get? b=some o->b≠(φ.slots i).at:=λb o e q=>nH q (S.off _ hW) e;have Rx:∃o,h'.get? (φ.slots i).at=some o:=by
  have fr:=(S.lv i).free on;cases g:φ.slots i with
  |c a=>exact AJ (ce a g) λo q _=>(AN o q)
  |d D y=>
   replace fr:=g▸ fr;exact AK fr λm q=>Aj (nd D y m g q) λo _ _ q _=>(AN o q)
 have Rw:∀j,∃o,h'.get? (φ.slots j).at=some o:=λj=>by
  by_cases e:(φ.slots j).at=(φ.slots i).at
  ·exact e▸ Rx
  ·exact AK (S.al j) λo q=>⟨o,(s.2 _ e).trans q⟩
 refine⟨λj=>?_,f.sw,Rw,f.sa,f.so,f.oo,S.LW,Lf,S.La,f.Lo,S.tW,f.ts,f.EO,S.tL,λb o e=>(s.2 b (S5 b o e)).trans (S.base b o e),S.off,?_,S.MW,λb hb=>(let⟨o,ho⟩:=S.MA b hb;⟨o,(s.2 b λq=>S.MW b hb (q▸ hW)).trans ho⟩),C.KS S.gi λa o ha e=>⟨(s.2 a λq=>ha.elim (λz=>z (.inr (q▸ hW))) λz=>S.ts i (q▸ z)).trans e,λz=>z⟩⟩
 ·refine rL (eq ..) ?_;by_cases e:j=i
  ·exact rL (Xck e) trivial
  ·refine rL (Xcm e) ?_;have k:=S.lv j;cases p:σ.at j with
   |O=>exact trivial
   |U=>replace k:=p▸ k;exact(Jf j e (rL p trivial)).2 k
   |V y=>
    replace k:=p▸ k;exact AJ k λu a b=>⟨u,(Jf j e (rL p trivial)).1 u a,AZ.mono UJ y b⟩
   |N o=>
    replace k:=p▸ k;exact⟨(Jf j e (rL p trivial)).1 _ k.1,k.2.1,IV j o (rL p trivial) k.2.2⟩
   |P o=>
    replace k:=p▸ k;exact⟨k.1,IV j o (rL p trivial) k.2⟩
 ·
  have go:∀{l:List Env},h.FunFrames c.base l->(∀e∈l,∀b,e.frame=some b->b≠(φ.slots i).at\/b=φ.L)->h'.FunFrames c.base l:=by
   intro l;induction l with
   |nil=>intro _ _;trivial
   |cons e l ih=>
    rintro⟨hk,⟨L,o,hf,hn,ho,hd⟩,hr⟩ hx;refine⟨hk,?_,ih hr λe' Me=>hx e' (.tail _ Me)⟩;rcases hx e (.head _) L hf with q|q
    ·exact⟨L,o,hf,hn,(s.2 L q).trans ho,hd⟩
    ·exact AK Lf λm Ap=>GO Ap λo' es ep w t _=>⟨L,o',hf,hn,q▸ w,λvs z=>by replace z:=t▸ z;cases z⟩
  refine go S.ff λe he b hf=>?_;cases he with
  |head=>right;replace hf:=O.fL▸ hf;obtain rfl:=sS hf;rfl
  |tail _ he=>left;exact λq=>S.MW b (O.FM b ⟨e,he,hf⟩) (q▸ hW)
section
variable {c:Cx}(C:c.Ok){φ:Fm}{n:Nat}(O:AU φ n)
include C O
set_option tactic.hygienic true in
theorem W7(S:AF c φ W σ M h)(Q:σ.at i= .U)(I:φ.slots i= .d L x)(T:Heap.SameBut L h g)(nd:∀m,h.Ns L m->g.Ns L λz=>if z=x then u else m z):AF c φ W σ M g:=by
 have A:(σ.at i).on:=rL Q trivial;have o:=S.Xa2 C O (v:= .none) A (rL I T) (λD y m q d=>by replace q:=I▸ q;cases q;exact nd m d) λa q=>by replace q:=I▸ q;cases q
 have H:=LV.IT A;have b:=(S.lv i).free A;replace b:=I▸ b;refine AK b λm d=>?_;have P:=o.put (l:= .U) (Xem▸ FL H) (by exact rL (F8 C O H ..) (rL (Xck rfl ..) rfl)) (λU U=>rfl) (I▸ (AN _ (nd m d))) (λU j G f=>?_) λq=>q.elim
 ·rw[Xhd]at P;have e:σ.set i .U=σ:=by
   refine List.ext_getElem? λk=>rL Xhr ?_;split
   ·rename_i q;subst q;split
    ·rename_i lt;have:σ[i]?.getD .O= .U:=by have:=Q;unfold St.at at this;simpa[List.getD]using this
     rw[Xdw lt]at this ⊢;simpa using this.symm
    ·rename_i lt;exact absurd (FL H) lt
   ·rfl
  rwa [e]at P
 ·rw[F8 C O H,Xcm G]at f;exact⟨S.sa i j (Ne.symm G) A f,S.sa j i G f A⟩
end
section
variable {c:Cx}(C:c.Ok)(G:FG c)(Gx:Fv c)(AM:c.fl=Cc){φ:Fm}{n:Nat}(O:AU φ n)
include C G Gx AM O
theorem vO(b:Aw Γ N φ)(B:N.lookup x=some .globalImplicit)(U:DI c.K x (.ref a))(u:(x=="__debug__")=false)(st:c.base.StaysIn s.heap)(q:Q (.ref a) s):
  wpAny (Mo c) A (eval (.Name x pos) φ.env) Q E s:=by
 haveI L:=st;refine Xfd O.ek (b.PI x B) ?_ u;rcases U with⟨e,_⟩|⟨e,H,g,_⟩
 ·exact Xfr (rL O.eg (C.tg.keeps L)) (mg_of C.BE C.tg e) q
 ·exact Xge (rL O.eg (C.tg.keeps L)) (Xip C.BE C.tg e) (rL O.eb (C.Np.keeps L)) ((C.blt x g).trans H) q
theorem zx(Ta:φ.Cm=φ.env)(en:Aw Γ N φ)(hR:N.lookup ("Raised":Str)=some .globalImplicit)(hi:Γ.lookup ("e":Str)=some (i,false)){rp rD yd pos:Pos}(Q:A0.at i= .U)
  (hsz:nm.cps.size+2+msg.cps.size<=1000000) (h:FJ c φ (execs body φ.env) σ A0 (KL (EK nm) (LH msg))):
  BP c φ (exec (.Try body [.ExceptHandler (some (.Name "Raised" rp)) (some "e") [.Return (some (.BinOp (.BinOp (.Attribute (.Attribute (.Attribute (.Name "e" p1) "thing" p2) "owner" p3) "name" p4) .Add (.Constant (.str ": ") kc p5) p6) .Add (.Attribute (.Attribute (.Attribute (.Name "e" p7) "thing" p8) "message" p9) "text" QK) xT)) yd] rD] [] [] pos) φ.env) σ (.ret (.V (.str (nm++": "++msg)))) A0:=λW AE s E S=>by
 haveI r1:=(en.vars "e" i false hi).1;have r2:=(en.vars "e" i false hi).2;refine wpAny_Try_except (Xcv (h W AE s S) (λu0 u0 p=>p.elim) λe BL p=>AB λkk=>Dw p λDC B ea tb w=>?_);obtain⟨rfl,hr,sm,nx,iD,k₁,Fl⟩:=w;refine kk (c7 C O Ta iD Fl hr λHk Ht T k gW=>T1 C O k.S gW λU Ew y D=>wpAny_handleBy_cons (codeAny_handlers_test ?_) (by intro q;cases q));refine vO C G Gx AM O en hR (G.gl ("Raised",.ref 516) (by decide)) (by decide) y.S.base ?_;have ty:Looks (Mo c) U.heap (typeOf (.ref ea)) (.ref 516):=by refine AB λkk=>Ay D λdx m v w=>?_;obtain⟨f,Cs,_⟩:=w;refine B8 f λoe vs w=>?_;obtain⟨ge,hc,JG,TU,_⟩:=w;obtain⟨o,es,ep,ho⟩:=Dd Cs;refine kk ?_;haveI I:InstAt U.heap ea oe 516 (some o):=⟨ge,hc,by unfold notCls;exact rL TU rfl,by exact rL JG ho⟩;exact I.type
 refine(exm_one (C.BE.keeps y.S.base) ty Gx.rs.mN).here ?_;dsimp only;refine codeAny_handlers_suite_as (T1 C O y.S D λx l d RM=>?_);have fr:=(d.S.lv i).free (Q▸ trivial);replace fr:=r2▸ fr;refine AB λkk=>AK fr λmL hL=>kk ?_;have ax:(φ.slots i).at=φ.env.locals:=by refine rL r2 ?_;rfl
 haveI j:=d.S.sw i;rw[ax]at j;refine Xfp r1 hL (λL a g=>?_) (PA C O O.ek);have J:=W7 C O d.S Q r2 g λm V=>(Kt V hL)▸ a;refine AB λkk=>Ay RM λdx m v w=>?_;obtain⟨f,Cs,IC,V,hv,qa,ht⟩:=w;refine kk ?_;have k5:∀b o,b≠φ.env.locals->x.heap.get? b=some o->L.get? b=some o:=λb o nb e=>(g.2 b nb).trans e;haveI Uo:dx≠φ.env.locals:=λq=>IC (.inr (q▸ j));haveI va:ea≠φ.env.locals:=λq=>qa.2.2.1 i (ax.trans q.symm);have O7:=f.keep λb o q e=>k5 b o (q.elim (λq=>q▸ va) λ⟨fl,q⟩z=>(ht b ⟨fl,q⟩).2.2.1 i (ax.trans z.symm)) e;have Y:=F7 Cs λo=>k5 _ _ Uo;have ri:=AZ.mono (λb o nb e=>⟨k5 b o (λq=>nb (.inr (q▸ j))) e,nb⟩) _ hv;refine Xct (Xfs (qD C G Gx AM J.base O.ek r1 a rfl O7 Y V ri hsz λt tk=>Xcd (wpAny_bindName (Xfp r1 (s:={x with heap:=L,toks:=tk}) a (λM H r=>?_) (PA C O O.ek)))));haveI Lq:=W7 C O J Q r2 r λm V=>rL (Kt V a) H;unfold unbindBehindTheSuite;refine wpAny_onRaise (wpAny_unbindName_local r1 (s:={x with heap:=M,toks:=tk+1}) H rfl (PA C O O.ek) λKg u r9 A=>?_);haveI iG:=W7 C O Lq Q r2 A λm V=>rL (Kt V H) r9;haveI wM:=((Nx.trans ⟨Ch.sameBut g j,λu0 q=> .inl q⟩ (AH (Ch.sameBut r j) λu0 q=> .inl q):Nx φ.F l x.heap l M)).trans (AH (Ch.sameBut A j) λu0 q=> .inl q);refine(BM l B ⟨((sm.trans k.sm).trans y.sm).trans (d.sm.trans ⟨rfl,rfl,rfl⟩),((nx.trans k.nx).trans y.nx).trans (d.nx.trans wM),iG,k₁,_,rfl,And.intro (AN _ rfl) (rL (Ci ..) (rL (Ci ..) ?_))⟩);haveI:=Qr;exact lin [nm.cps.size,(Str.ofString ": ").cps.size,msg.cps.size] 522910286208697341425720169350505950595746534755529734444791645057 rfl hsz (Xcg this)
end
set_option backward.match.sparseCases true
noncomputable def Nu:List Str:=["world","layout","items","is_strict","bound","given_count","e"]
noncomputable def nA:Fn:=⟨4,3,2,[]⟩
abbrev Qi:PS:= .Ec 4 5 (.call 13 Iu)
abbrev VW:PS:= .ret (.T [(.Fo (.C (.T [(.W 8),(.call 26 [(.S (.W 4) (.W 8))])]) 8 (.W 4))),(.W 5)])
noncomputable def E8:=(CT Cd "" "_law_bound").get (by kernel_rfl)
def b9:List Stmt->List Pos×List Nat
 | [.Try _ [.ExceptHandler (some t) _ [.Return (some v) a1] a2] _ _ a3,_]=>((H6 9 t).1++(a1::a2::a3::(H6 9 v).1),(H6 9 v).2)
 |_=>([],[])
noncomputable def uG:List Stmt->List Stmt
 | [.Try [s] _ _ _ _,l]=>[s,l]
 |_=>[]
def EZ(i:Nat):Pos:=(b9 E8.2.1).1.getD i default
def N4(i:Nat):Stmt:=(uG E8.2.1).getD i (.Return none default)
abbrev b7:List Stmt:=[.Try [N4 0] [.ExceptHandler (some (.Name "Raised" (EZ 0))) (some "e") [.Return (some (.BinOp (.BinOp (.Attribute (.Attribute (.Attribute (.Name "e" (EZ 4)) "thing" (EZ 5)) "owner" (EZ 6)) "name" (EZ 7)) .Add (.Constant (.str ": ") ((b9 E8.2.1).2.getD 0 0) (EZ 8)) (EZ 9)) .Add (.Attribute (.Attribute (.Attribute (.Name "e" (EZ 10)) "thing" (EZ 11)) "message" (EZ 12)) "text" (EZ 13)) (EZ 14))) (EZ 1)] (EZ 2)] [] [] (EZ 3),N4 1]
theorem uF:CT Cd "" "_law_bound"=some (E8.1,b7,E8.2.2):=by kernel_rfl
set_option tactic.hygienic true in
theorem z0{σ:St}(h:σ.at i=l)(H:l≠.O):σ.set i l=σ:=by
 have lt:=FL (h▸ H);refine List.ext_getElem? λk=>rL Xhr ?_;split
 ·rename_i q;subst q;unfold St.at at h;rw[List.getD,Xdw lt]at h;haveI a:σ[i]? =some l:=by refine rL (Xdw lt) ?_;exact congrArg some h
  exact(show some l=σ[i]? from a.symm)
 ·rfl
theorem Xa0(h:Mt l=true):∃w,l= .N (.Z w):=by
 cases l with
 |N o=>cases o<;>first|exact⟨_,rfl⟩|exact fT h
 |_=>exact fT h
theorem Xaf(h:Ms l=true):l= .U:=by
 cases l<;>first|rfl|exact fT h
theorem iZ(x y z:Str):x++y++z=x++(y++z):=by show Str.append (Str.append x y) z=Str.append x (Str.append y z);unfold Str.append;simp[Array.append_assoc]
theorem zh:(Str.ofString "ArgumentError").cps.size=13:=by decide+kernel
theorem iv:"ArgumentError"++": "++Gw n lm=Eh n lm:=by
 unfold Gw Eh;haveI e:"ArgumentError: wrong number of arguments (given "="ArgumentError"++": "++Str.ofString "wrong number of arguments (given ":=by decide+kernel
 refine rL e ?_;simp only[iZ]
theorem vK(I:Fj n j=true):(Gw n j).cps.size<=1000:=by
 refine AB λJ=>Bf (Qc I) λQ k a=>J ?_;haveI N:=F6 Q;haveI r:=Wu k a;unfold Gw;simp only[Ci];haveI:=Nn;haveI:=Qq;haveI:=eh
 lia
section
variable {c:Cx}(C:c.Ok){n:Nat}
include C
theorem Yf(lk:HE fd vars d)(JJ:c.base.get? a=some oF)(JF:oF.data= .func F)(hF:Ef F d.params d.body d.scope q .none)(IB:c.base.CodeRec F.code q)(O:AU D (n+2))
  (A:as.length=fd.np) (j:i=AA.take fd.np) (l:match fr with| .next=>r= .V .none| .ret r'=>r=r')
  (hB:∀AD,AU AD (n+1)->AD.np=fd.np->Aw (CP vars d.scope.names) d.scope.names AD->DB ((List.range fd.nc).map (·+vars.length)) AD->AD.env.func=some a->AD.env.code=F.code->AD.env.qual=q++".<locals>."->AD.Cm=AD.env->
   BP c AD (execs d.body AD.env) (as.map (AR.lv σ)++List.replicate fd.nl .U++List.replicate fd.nc .O) fr AA)
  (hn:(as.flatMap AR.ix).Nodup) (I:∀x∈as.flatMap AR.ix,Cu (σ.at x)=true) (t:DZ as i=true) (S:AF c D W σ M s.heap) (R:DT c D W M s.heap as vs):
  wpAny (Mo c) D.A (call (.ref a) vs) (Aa c D W M s (Bk σ as i) r) E s:=by
 refine Xfe (T8 C lk JJ JF hF IB O A (λAD W' m B O' np en du Y V h3 h4 Ta S' bk=>Xcv (hB AD O' np en du Y V h3 Ta W' m B _ S') (λf L p=>AB λJ=>B8 p λQ z w=>?_) λU U x=>x) hn I S R);obtain⟨sm,nx,g,h,G⟩:=w;subst j;refine J ?_
 suffices H:∀v,DW c AD Q AA z L.heap r v->Aa c D W M s (Bk σ as (AA.take fd.np)) r v L by
  cases fr with
  |next=>
   haveI G:=G;refine AB λJ=>?_;subst G;haveI l:=l;subst l;exact J (H .none rfl)
  |ret r'=>
   refine AB λJ=>AJ G λv u R'=>?_;obtain rfl:=u;haveI l:=l;subst l;exact J (H v R')
 intro v Rv;cases r with
 |V y=>
  exact AB λJ=>Bh (bk Q AA z L (λU=>False) sm nx g h t λU q=>q.elim) λk st K _=>J (AG k st (AZ.mono (λb o nb e=>⟨e,K b nb⟩) y Rv))
 |M o=>
  refine AB λJ=>?_;obtain⟨T,u,Mb,hO,Y,V,h3,h4,h5⟩:=Rv;exact Bh (bk Q AA z L (λb=>b=T) sm nx g h t λb q=>q▸ (AH Mb (DR Y V h3 h4))) λk st K N=>Ax (N T rfl) λn0 w=>FE w λn1 n2 n3 n4=>J (u▸ (AG k st ⟨T,rfl,n0,hO.mono C λb ob U e=>⟨e,K b⟩,n1,n2,n3,n4,h5⟩))
theorem g6(O:AU A (n+1))(h:BP c A (execs body A.env) σ fr AA):BP c A (exec (.Try body (e::I) [] [] pos) A.env) σ fr AA:=λW M s E S=>
 wpAny_Try_except (Xcv (h W M s _ S) (λf i p=>by
  cases fr with
  |next=>
   refine AB λJ=>?_;obtain⟨g,z,j,d,a,L,b⟩:=p;haveI b:=b;subst b;exact J (Xdm (BM g z ⟨j,d,a,L,rfl⟩))
  |ret r=>
   refine AB λJ=>B8 p λg z w=>?_;obtain⟨j,d,a,L,v,rfl,R⟩:=w;exact J (BM g z ⟨j,d,a,L,v,rfl,R⟩)) λU U x=>x)
end
set_option backward.match.sparseCases false
theorem iW(h:a=true)(d:b=true):(a&&b)=true:=by subst h d;rfl
theorem jw{K:List Nat}{st:Stmt}(h:Hx k so N Γ K (.Ec x y e) st=true):∃a pa b pb tk tp f as E p pos,st= .Assign [.Tuple [.Name a pa,.Name b pb] tk tp] (.Call f as E p) pos/\Ag k so N Γ K e (.Call f as E p)=true:=
 HV h λj w pos h=>i1 h λt h=>Gm h λj tk tp h=>i2 h λL tb h=>BD h λa pa h=>BD h λb pb h=>Zm (ar (ar h)) λg Q E p d i=>(DA a pa b pb (DA tk tp g Q (DS E p pos rfl (d▸ i))))
@[elab_as_elim]theorem sF{Q:List AR->Prop}(h:QS l as A0=some o)(k:∀P ys st j,G0 P=some j->
  (if(st&&Dm ys.length j)=true then(if(decide (10<=l)&&Fj ys.length j&&Mt (A0.at 0)&&Ms (A0.at 6))=true then some (some (Eh ys.length j,A0.take 4))else none)else some none)=some o->Q [.N 0,.V P,.V (.list ys),.V (.bool st)]):Q as:=
 GA h λx g Y=>GA Y λy V T=>GA T λu n H=>GA H λw t M=>U0 M λD=>rz D λi m=>U5 m λP a=>U5 a λq s=>U5 s λp b=>Pf b λys e=>s8 e λst E=>by
  refine jI E λf E=>rL f ?_;cases d:G0 P with
  |none=>replace E:=d▸ E;exact nS E
  |some j=>rw[d]at E;exact k P ys st j d E
set_option tactic.hygienic true in
@[elab_as_elim]theorem rx{Q:RV->List LV->Prop}(h:I5 l Φ 200 28 args=some (r,i))
  (k:∀A0 P ys j,args.length=4->By Φ 4 Iu (args++List.replicate 3 .U++List.replicate 2 .O)=some ([.N 0,.V P,.V (.list ys),.V (.bool true)],A0)->G0 P=some j->Dm ys.length j=true->10<=l->Fj ys.length j=true->Mt (A0.at 0)=true->Ms (A0.at 6)=true->Q (.V (.str (Eh ys.length j))) (A0.take 4))
  (g:G6 Φ 200 EV args=some (r,i)->Q r i):Q r i:=by
 haveI h:(match Hf l Φ args with
   |some (some (x,i))=>some (.V (.str x),i)
   |some none=>G6 Φ 200 EV args
   |none=>none)=some (r,i):=h
 cases e:Hf l Φ args with
 |none=>replace h:=e▸ h;exact nS h
 |some o=>
  cases o with
  |none=>replace h:=e▸ h;exact g h
  |some o=>
   replace h:=e▸ h;cases h;refine jI e λf e=>jA e λb A0 a e=>?_;revert a;refine sF e λP ys t j d e a=>?_;split at e
   ·rename_i V;refine jI e λL e=>?_;cases e;cases(al V);exact k A0 P ys j f a d (ar V) (Xcj (al (al (al L)))) (ar (al (al L))) (ar (al L)) (ar L)
   ·exact nomatch e
section
variable {c:Cx}(C:c.Ok)(G:Co c)(Gx:Fv c)(AM:c.fl=Cc)(BG:FI c)(hs:Rh c)
include C G Gx AM BG hs
theorem pB(m:Nat)(p:∀k,k<=m->DU c (callF k) k BN):O3 c (callF (m+1)) (m+1) 28 876:=by
 intro φ O N σ r i W AE s vs E h hn ho hk S R;refine AB λkk=>Aj (G.fn ⟨876,"","_law_bound",none⟩ (Ai 28)) λps body sc E5 o=>B8 o λoF F x=>?_;obtain⟨g1,g2,g3,g4⟩:=x;have gl:=KU G.toFG;have me:=Kq C G BG;cases E5.symm.trans uF;refine kk ?_;haveI l1:T4 EA true nA Nu E8.1 [] E8.2.2=true:=by kernel_rfl
 haveI l5:E8.2.2.names.lookup ("Raised":Str)=some .globalImplicit:=by kernel_rfl
 haveI l6:(CP Nu E8.2.2.names).lookup ("e":Str)=some (6,false):=by kernel_rfl
 haveI l7:Hx EA true E8.2.2.names (CP Nu E8.2.2.names) [7,8] Qi (N4 0)=true:=by kernel_rfl
 haveI l8:Hx EA true E8.2.2.names (CP Nu E8.2.2.names) [7,8] VW (N4 1)=true:=by kernel_rfl
 ·haveI lk:=(T5 (d:=⟨"_law_bound",E8.1,[],E8.2.2,default⟩) l1).toHE;have sig:HE EV Nu ⟨"_law_bound",E8.1,b7,E8.2.2,default⟩:=⟨lk.par,lk.len,lk.nd,lk.kinds,lk.kind,lk.co,lk.gen⟩;have Nd:=λU V Y T I=>hs m U 876 F oF _ (.inr ⟨rfl,rfl⟩) g1 g2 V Y T I;revert hk;refine rx h (λA0 P ys lm y IE hP J hm HT hw hu hk=>?_) λh hk=>?_
  ·
         refine AK (Xa0 hw) λw hw=>?_;have hu:=Xaf hu;obtain⟨k,rfl⟩:∃k,m=k+6:=⟨m - 6,(Nat.sub_add_cancel (Xcq (by decide) hm)).symm⟩;refine Yf C sig g1 g2 g3 g4 O ((EN _).symm.trans y) (fr:= .ret (.V (.str (Eh ys.length lm)))) rfl rfl (λU V np L du Y T I Q=>?_) hn ho hk S R;have sh:=Nd U V Y T I;have e:=np;refine rR iv (Jq C V L (zx C G.toFG Gx AM V Q L l5 l6 hu (by haveI:=vK HT;haveI:=zh;lia) (LR C V (Dw (jw l7) λa pa b pb o=>Dw o λtk tp f ags x=>?_))) (λq=>dK q) λr q=>⟨q,rfl⟩);refine Aj x λkw p' pos lC hc=>rL lC ?_;haveI g:BN 13=some (.ref 459):=by kernel_rfl
         haveI key:=jh C G Gx AM BG (m:=k) (p _ (lin [k] 9654919409793 rfl)) (p _ (lin [k] 9654919630977 rfl)) (p _ (lin [k] 9654919852161 rfl)) V g hw hP J HT;haveI es:Bk A0 [.N 0,.V P,.V (.list ys),.V (.bool true)] [.N (.Z w),.V P,.V (.list ys),.V (.bool true)]=A0:=z0 hw (by intro q;cases q);rw[es]at key;exact Xbi C V (X9 hc λc8 z zs d1 FY j M Fb t=>Xp C V L (G7 j) (Yp gl FY g) M Fb (J7 C AM.symm gl (p _ (Xc4 _)) me Iu V L du (λu0=>sh) t (e▸ IE)) key) rfl rfl
  ·
    haveI fin:∀{D:FR}{B:St},N.length=4->Bv (callF m) 4 200 [Qi,VW] (N.map (AR.lv σ)++List.replicate EV.nl .U++List.replicate EV.nc .O)=some (D,B)->i=B.take 4->(match D with| .next=>r= .V .none| .ret r'=>r=r')->wpAny (Mo c) φ.A (call (.ref 876) vs) (Aa c φ W AE s (Bk σ N i) r) E s:=by
     intro D B y v l hr;refine Yf C sig g1 g2 g3 g4 O y l hr (λU V np L du Y T I Q=>?_) hn ho hk S R;have sh:=Nd U V Y T I;have e:U.np=4:=np;have A:=p m (Xc4 _);have H:∀{n:FR}{u:St},Ae (callF m) 4 200 Qi (N.map (AR.lv σ)++List.replicate EV.nl .U++List.replicate EV.nc .O)=some (n,u)->BP c U (execs [(N4 0)] U.env) (N.map (AR.lv σ)++List.replicate EV.nl .U++List.replicate EV.nc .O) n u:=λ{n u}hx=>by have Y:=ML C AM.symm gl A me Qi V L du (λu0=>sh) l7 (e▸ hx);exact Jq C V L Y (λq=>rL q (gB C V L)) λr q=>⟨q,rfl⟩
     haveI v:=v;refine jX v (λu hx v=>?_) λr' u hx v=>?_
     ·exact Jq C V L (g6 C V (H hx)) (λu0=>Gd C AM.symm gl A me [VW] V L du (λu0=>sh) (iW l8 rfl) (e▸ v)) λr q=>cP q
     ·refine Ax (sP v) λJ8 BV=>?_;obtain rfl:=BV;exact J8▸ Jq C V L (g6 C V (H hx)) (λq=>dK q) λr q=>⟨q,rfl⟩
    obtain⟨y,D,B,v,l,hr⟩:=Xn h;exact fin y v l hr
end
def Ik(kz:List Str)(vs V:List Value):Prop:=∃v:List (Str×Value),v.Perm (kz.zip vs)/\V=v.map Prod.snd/\v.Pairwise λp q=>decide (q.1.cps.toList<p.1.cps.toList)=false
theorem zZ(h:StrsAre vs ns):StrsAre (vs++[.str x t]) (ns++[x]):=by
 induction h with
 |nil=>exact .cons x t .nil
 |cons c b _ Q=>exact .cons c b Q
theorem Qo:∀{vs:List Value}{ns:List Str},StrsAre vs ns->vs.length=ns.length
 |_,_,.nil=>rfl
 |_,_,.cons _ _ h=>by rw[Xd4,Xd4,Qo h]
theorem tU{keys:Array Value}(L:StrsAre keys.toList kz)(k:xs.Perm (keys.zip vs.toArray))(I:SortedToK PyProof.Rows.strKind xs xs.size):Ik kz vs (xs.map (·.2)).toList:=by
 have d:xs.toList.Perm (keys.toList.zip vs):=by rw[<-ksk_zip];exact Array.perm_iff_toList_perm.mp k
 haveI Y:(xs.toList.map λp:Keyed=>(strOf p.1,p.2)).Perm (kz.zip vs):=by
  haveI f:(keys.toList.zip vs).map (λp:Keyed=>(strOf p.1,p.2))=kz.zip vs:=by rw[<-L.strs,List.zip_map_left];exact Xfh λ⟨x,y⟩U=>rfl
  rw[<-f];exact d.map _
 haveI T:(xs.map (·.2)).toList=(xs.toList.map λp:Keyed=>(strOf p.1,p.2)).map Prod.snd:=by rw[Array.toList_map,Xdz];rfl
 refine(BS _ Y T ?_);rw[List.pairwise_iff_getElem];intro i j g G D;have l:i<xs.size:=by simpa using g
 have h:j<xs.size:=by simpa using G
 haveI q:=I i j (Xhe D) h;have str:∀p∈xs.toList,∃x t,p.1= .str x t:=λp b=>L.all _ (Xgb (d.mem_iff.mp b)).1;refine AB λJ=>B8 (str xs[i] (by simp)) λx t ex=>B8 (str xs[j] (by simp)) λy u c=>J ?_;rw[KK_str l (Prod.ext ex rfl),KK_str h (Prod.ext c rfl)]at q;simp only[Xei,Array.getElem_toList];rw[show strOf xs[i].1=x by rw[ex];rfl,show strOf xs[j].1=y by rw[c];rfl];exact q
theorem tT(L:StrsAre keys.toList kz)(T:2<=keys.size):keyKind' keys=pure oneType':=by
 obtain⟨I,n,i,e⟩:∃I n i,keys.toList=I::n::i:=by
  have b:2<=keys.toList.length:=by rw[Xfg];exact T
  cases q:keys.toList with
  |nil=>rw[q]at b;simp at b
  |cons I r=>
   cases r with
   |nil=>rw[q]at b;simp at b
   |cons n i=>exact(Cf I n i rfl)
 haveI c:keys=(I::n::i).toArray:=by rw[<-e,Array.toArray_toList]
 rw[e]at L;rw[c];exact keyKind_strs L
theorem tS{keys:Array Value}{vs:List Value}(L:StrsAre keys.toList kz):KeysOf PyProof.Rows.strKind (keys.zip vs.toArray):=by intro p b;rw[ksk_zip]at b;refine AB λJ=>?_;obtain⟨x,y⟩:=p;exact B8 (L.all _ (Xgb b).1) λz t e=>J ⟨z.cps.toList,by rw[show(x,y).1=x from rfl,e]⟩
section
variable {prog:Program}{w:World}{A:Around}{E:Value->Shared->Prop}{s:Shared}{h₀:Heap}{a kS:Addr}{vs:List Value}{kz:List Str}{keys:Array Value}{e e1:Nat}{P:PySem.Fin->Shared->Prop}
structure O8(h₀:Heap)(a kS:Addr)(e1:Nat)(keys:Array Value)(h:Heap):Prop where
 st:∀b o,h₀.get? b=some o->h.get? b=some o
 ga:h.get? a=some (seqObj "list" #[] e1)
 gk:∃e,h.get? kS=some (seqObj "list" keys e)
 fa:h₀.get? a=none
 fk:h₀.get? kS=none
 ne:kS≠a
theorem aq{st:SortSt}(I:O8 h₀ a kS e1 keys s.heap)(L:StrsAre keys.toList kz)(y:kz.length=vs.length)(d:vs.length<64)(r:(arrOf st).Perm (keys.zip vs.toArray))(v:SortedToK PyProof.Rows.strKind (arrOf st) (arrOf st).size)(m:failedOf st=none)
  (h:∀k tk V c,(∀b o,h₀.get? b=some o->k.get? b=some o)->k.get? a=some (seqObj "list" V c)->Ik kz vs V.toList->P (.done (.ret .none)) {s with heap:=k,toks:=tk}):
  wpAny (model prog w) A (ksk_tail a false e1 (.ref kS) st) P E s:=by
 obtain⟨f,x,⟨e,O⟩,t,C,Q⟩:=I;haveI hsz:keys.size=vs.length:=by haveI Y:=Qo L;rw[Xfg]at Y;exact Xdl (lin [keys.size,vs.length,kz.length] 0x5b20562b099001 rfl (Xcg y) (Xcg Y)) (lin [vs.length,keys.size,kz.length] 0x2e835b20099001 rfl (Xcg y.symm) (Xcg Y.symm))
 haveI g:(arrOf st).size=vs.length:=by rw[r.size_eq,Array.size_zip,hsz,Xcx,Nat.min_self]
 haveI j:((arrOf st).map (·.2)).size=vs.length:=by rw[Array.size_map];exact g
 haveI N:=Xfi s.heap kS (Obj.mapSeq λU=>(#[]));have n:=(N.2 a Q.symm).trans x;haveI B:=Xfi (s.heap.update kS (Obj.mapSeq λU=>(#[]))) a (Obj.mapSeq λU=>(arrOf st).map (·.2))
 obtain⟨i,l⟩:∃i,((s.heap.update kS (Obj.mapSeq λU=>(#[]))).update a (Obj.mapSeq λU=>(arrOf st).map (·.2))).get? a=some (seqObj "list" ((arrOf st).map (·.2)) i):=
  ⟨_,Xg2 n λU=>(arrOf st).map (·.2)⟩
 unfold ksk_tail
 try dsimp only
 refine Xcd (Xh1 O rfl (Xcd (wpAny_letGo (Xcd (seqEpoch_at n rfl ?_)))) (by rw[hsz,Xc9];exact lin [vs.length] 0x16d732374890000000009000007801 rfl d) (Xdd _));rw[Xcm Xeh];refine Xcd (Xh1 n rfl ?_ (Xdd _) (Xcq (Xcg j) (by rw[Xc9];exact lin [vs.length] 0x19b2187e31a217a0000000036000030001 rfl d)));rw[m];rw[bne_self_eq_false,Xcm Xeh];refine Xcp (h _ _ _ i (λb o q=>?_) l (tU L r v));haveI p:b≠kS:=λz=>nH z C q;haveI u:b≠a:=λz=>nH z t q;exact(B.2 b u).trans ((N.2 b p).trans (f b o q))
theorem tR(I:O8 h₀ a kS e1 keys s.heap)(L:StrsAre keys.toList kz)(y:kz.length=vs.length)(d:vs.length<64)
  (h:∀l tk V c,(∀b o,h₀.get? b=some o->l.get? b=some o)->l.get? a=some (seqObj "list" V c)->Ik kz vs V.toList->P (.done (.ret .none)) {s with heap:=l,toks:=tk}):
  wpAny (model prog w) A (ksk_end a false vs.toArray e1 (.ref kS) keys) P E s:=by
 have hsz:keys.size=vs.length:=by haveI Y:=Qo L;rw[Xfg]at Y;exact Xdl (lin [keys.size,vs.length,kz.length] 0x5b20562b099001 rfl (Xcg y) (Xcg Y)) (lin [vs.length,keys.size,kz.length] 0x2e835b20099001 rfl (Xcg y.symm) (Xcg Y.symm))
 have k:(keys.zip vs.toArray).size=vs.length:=by rw[Array.size_zip,hsz,Xcx,Nat.min_self]
 unfold ksk_end;dsimp only;rw[Xcm Xeh];by_cases T:vs.toArray.size<2
 ·rw[Xck T,Xck T];refine Xcd (Xcp ?_);rw[StateT.run_pure];refine Xcd (Xcp (aq (st:=SortSt.mk' general' (keys.zip vs.toArray) #[] 7 none) I L y d (Array.Perm.refl _) ?_ rfl h));intro i j D G;haveI f:=G;rw[k]at f;rw[Xcx]at T;haveI:i=j:=Xdl (lin [i,j] 21743898625 rfl D) (lin [j,i,vs.length] 0x39aaf37df59c572416899001 rfl T f);rw[<-this];exact KeyOrd.kle_refl _
 ·rw[Xcm T,Xcm T];rw[Xcx]at T;rw[tT L (by rw[hsz];exact lin [vs.length] 62889395009 rfl (Xdh T))];refine Xcd (Xcp ?_);refine Xcd (Xcv (wpS_sortRunsK strKind_oneLt
   (Q:=λU g=>(arrOf g).Perm (keys.zip vs.toArray)/\failedOf g=none/\SortedToK PyProof.Rows.strKind (arrOf g) (keys.zip vs.toArray).size)
   (tS L) ⟨Array.Perm.refl _,rfl,rfl,rfl⟩ (by rw[k];exact lin [vs.length] 62889395009 rfl (Xdh T)) (by rw[k];exact d) λg a1 a2 a3=>(AX a1 a2 a3)) ?_ λU U e=>e)
  intro r m H;exact H.1▸ aq I L y d H.2.1 (by rw[H.2.1.size_eq];exact H.2.2.2) H.2.2.1 h
theorem tV(I:O8 h₀ a kS e1 #[] s.heap)(y:kz.length=vs.length)(l:vs.length<64)
  (C:∀(i:Nat)(v:Value)(k:Str),vs[i]? =some v->kz[i]? =some k->∀(h:Heap)(tk:Nat),(∀b o,h₀.get? b=some o->h.get? b=some o)->
   wpAny (model prog w) A (call f [v]) (λr B=>∃d Y t,B={s with heap:=d,toks:=Y}/\(∀b o,h.get? b=some o->d.get? b=some o)/\r= .str k t) (λu0 u0=>False) {s with heap:=h,toks:=tk})
  (h:∀d tk V c,(∀b o,h₀.get? b=some o->d.get? b=some o)->d.get? a=some (seqObj "list" V c)->Ik kz vs V.toList->P (.done (.ret .none)) {s with heap:=d,toks:=tk}):
  wpAny (model prog w) A (ksk_rest a f false vs.toArray e1 (.ref kS)) P E s:=by
 unfold ksk_rest;refine Xcd (wpAny_rule ?_)
 first
  |rw[List.forIn_toArray]
  | (rw[<-Array.forIn_toList];simp only[List.toList_toArray])
  |rw[<-Array.forIn_toList]
 refine Xcd (ksk_fold (λi B=>∃d tk m,B={s with heap:=d,toks:=tk}/\O8 h₀ a kS e1 m d/\StrsAre m.toList (kz.take i)) vs 0 s
  (GP s.heap s.toks (#[]) rfl I (by simpa using StrsAre.nil)) ?step ?done)
 case step=>
  intro j x B hx H;rw[Xd3];refine AB λJ=>GO H λd tk m u M L=>?_;obtain rfl:=u;rw[Xd3]at L;haveI hj:=(Xc8.mp hx).1;obtain⟨k,p⟩:∃k,kz[j]? =some k:=(AN _ (Xdw (lin [j,kz.length,vs.length] 0x7355e6fbf0f06ac203f081 rfl (Xcg y.symm) hj)));refine J ?_;haveI hz:m.size<=vs.length:=by haveI h1:=Qo L;rw[Xfg,Xdk]at h1;exact lin [m.size,vs.length,j,min j kz.length] 0x3a9125de660d22416899001 rfl hj (Xcg h1) (Xe0 j kz.length)
  refine Xcd (wpAny_attempt (Xcv (C j x k hx p d tk M.st) (λv QW he=>AB λJ=>GO he λg tk2 D u n u=>?_) λu0 u0 hF=>hF.elim));obtain rfl:=u;refine J ?_;rw[u];refine AB λJ=>?_;obtain⟨U,ga,⟨e,N⟩,fa,fk,Q⟩:=M;haveI nk:=n _ _ N;haveI na:=n _ _ ga;haveI s1:=Xfi g kS (Obj.mapSeq (·.push (.str k D)))
  obtain⟨G,O⟩:∃G,(g.update kS (Obj.mapSeq (·.push (.str k D)))).get? kS=some (seqObj "list" (m.push (.str k D)) G):=(AN _ (Xg2 nk (·.push (.str k D))))
  refine J ?_;haveI ek:kz.take (j+1)=kz.take j++[k]:=by rw[List.take_add_one,p];simp
  haveI ea:(m.push (Value.str k D)).toList=m.toList++[Value.str k D]:=by simp
  refine Xcd (Xh1 nk rfl (Xcp (AH rfl (GP _ _ (m.push (.str k D)) rfl ⟨λb o q=>?_,(s1.2 a Q.symm).trans na,⟨G,O⟩,fa,fk,Q⟩ (by rw[ea,ek];exact zZ L)))) (by rw[Xc9];exact lin [m.size,vs.length] 0x19a12efd7323c5890000000009000007801 rfl l hz) (Xcq (Xcg (Array.size_push ..)) (by rw[Xc9];exact lin [m.size,vs.length] 0x206fff78c5b9460165a9400000003cc00036003f081 rfl l hz)));haveI nb:b≠kS:=λz=>nH z fk q;exact(s1.2 b nb).trans (n _ _ (U b o q))
 case done=>
  rintro B ⟨d,tk,m,rfl,M,L⟩;have T:StrsAre m.toList kz:=by haveI e3:kz.take (0+vs.length)=kz:=List.take_of_length_le (lin [kz.length,vs.length] 0x5b20ac200c001 rfl (Xcg y));rw[e3]at L;exact L
  exact AK M.gk λe N=>Xcd (listItems_at N rfl (tR M T y l λh3 Vu V c F3 N3 k3=>h h3 Vu V c F3 N3 k3))
theorem tX(l:s.heap.get? a=some (seqObj "list" vs.toArray n))(st:∀b o,h₀.get? b=some o->s.heap.get? b=some o)(m:h₀.get? a=none)(y:kz.length=vs.length)(d:vs.length<64)
  (H:∀(i:Nat)(v:Value)(k:Str),vs[i]? =some v->kz[i]? =some k->∀(h:Heap)(tk:Nat),(∀b o,h₀.get? b=some o->h.get? b=some o)->
   wpAny (model prog w) A (call f [v]) (λr u=>∃g p t,u={s with heap:=g,toks:=p}/\(∀b o,h.get? b=some o->g.get? b=some o)/\r= .str k t) (λU U=>False) {s with heap:=h,toks:=tk})
  (h:∀g tk V c,(∀b o,h₀.get? b=some o->g.get? b=some o)->g.get? a=some (seqObj "list" V c)->Ik kz vs V.toList->P (.done (.ret .none)) {s with heap:=g,toks:=tk}):
  wpAny (model prog w) A (ksk_tree a f false) P E s:=by
 haveI ha:=Xdt l;haveI N:=Xfi s.heap a (Obj.mapSeq λU=>(#[]));obtain⟨e1,j⟩:∃e1,(s.heap.update a (Obj.mapSeq λU=>(#[]))).get? a=some (seqObj "list" #[] e1):=⟨_,Xg2 l λU=>#[]⟩;haveI D:((s.heap.update a (Obj.mapSeq λU=>(#[]))).push (seqObj "tuple" vs.toArray 0)).objs.size=s.heap.objs.size+1:=by rw[size_push',Xgw]
 unfold ksk_tree;refine Xcd (listItems_at l rfl (Xcd (Xh1 l rfl (Xcd (seqEpoch_at j rfl (Xcd (wpAny_newTuple ?_ (by show vs.length<=_;rw[Xc9];exact lin [vs.length] 0x16d732374890000000009000007801 rfl d))))) (by rw[Xcx,Xc9];exact lin [vs.length] 0x16d732374890000000009000007801 rfl d) (Xdd _))));refine Xcd (wpAny_newList (Xdj ?_) (Xdd _));haveI C:h₀.get? (s.heap.objs.size+1)=none:=Dn (st _) (H0 (Xd9 _));refine tV
  ⟨λb o q=>Xcf _ (Xcf _ ((N.2 b λz=>nH z m q).trans (st b o q))),Xcf _ (Xcf _ j),⟨0,Xcn _ rfl⟩,m,by rw[D];exact C,by rw[D];exact Xf4 (Xev ha)⟩ y d H h
end
theorem tY(u:s.heap.IsList l vs.toArray)(y:kz.length=vs.length)(f:vs.length<64)
  (H:∀(i:Nat)(v:Value)(k:Str),vs[i]? =some v->kz[i]? =some k->∀(h:Heap)(tk:Nat),(∀b o,s.heap.get? b=some o->h.get? b=some o)->
   wpAny (model prog w) A.in1.in1 (call (.ref q) [v]) (λr x=>∃d p t,x={s with heap:=d,toks:=p}/\(∀b o,h.get? b=some o->d.get? b=some o)/\r= .str k t) (λU U=>False) {s with heap:=h,toks:=tk})
  (h:∀D d tk V c,s.heap.get? D=none→@LT.lt Nat _ s.heap.objs.size D->(∀b o,s.heap.get? b=some o->d.get? b=some o)->d.get? D=some (seqObj "list" V c)->Ik kz vs V.toList->Q (.ref D) {s with heap:=d,toks:=tk}):
  wpAny (model prog w) A (call (.builtin "sorted") [.ref l] [(Str.ofString "key",.ref q)]) Q E s:=by
 refine call_function_entry_kw kind_sorted plain_sorted entry_sorted (ksk_s1 _ _) ?_;unfold Builtin.«sorted»;refine Xcd (Xcp (Xcd (collect_list u (Xcd (wpAny_newList ?_ (by rw[Xc9];exact lin [vs.length] 118595227470075250145465183294748673 rfl f))) (by rw[Xc9];exact lin [vs.length] 118595227470075250145465183294748673 rfl f))));have hsz:((s.heap.push (seqObj "list" #[] 0)).update s.heap.objs.size (Obj.mapSeq (·++vs.toArray))).objs.size=s.heap.objs.size+1:=by rw[Xgw,size_push']
 haveI j:(((s.heap.push (seqObj "list" #[] 0)).update s.heap.objs.size (Obj.mapSeq (·++vs.toArray))).push (seqObj "list" vs.toArray 0)).get? (s.heap.objs.size+1)=some (seqObj "list" vs.toArray 0):=by rw[<-hsz];exact Xcn _ rfl
 haveI T:∀b o,s.heap.get? b=some o->(((s.heap.push (seqObj "list" #[] 0)).update s.heap.objs.size (Obj.mapSeq (·++vs.toArray))).push (seqObj "list" vs.toArray 0)).get? b=some o:=λb o q=>by haveI g:=Xdt q;rw[Heap.get?_push_ne _ _ _ (by rw[hsz];exact Xdb (Xev g)),Heap.get?_update_ne _ _ _ _ (Xdb g),Heap.get?_push_ne _ _ _ (Xdb g)];exact q
 haveI m:s.heap.get? (s.heap.objs.size+1)=none:=H0 (Xd9 _);show wpAny _ _ _ _ _ {s with heap:=((s.heap.push (seqObj "list" #[] 0)).update s.heap.objs.size (Obj.mapSeq (·++vs.toArray))).push (seqObj "list" vs.toArray 0)}
 rw[hsz];refine Xcd (Xdj (wpAny_call_entry_kw slot_list_sort (AG _ j rfl) entry_list_sort ?body (ksk_l1 _ _)))
 case body=>
  rw[ksk_t1];refine tX
   j T m y f H λd tk V c n M G=>(AG _ rfl ?_)
  exact Xcp (AG _ rfl (h _ d tk V c m (Xe6 _) n M G))
abbrev E7(a b:Str):Prop:=decide (b.cps.toList<a.cps.toList)=false
theorem kle_refl(a:Str):E7 a a:=KeyOrd.kle_refl (O:=PyProof.Rows.strKind.toKeyOrd) a.cps.toList
theorem kle_trans(x:E7 a b)(y:E7 b d):E7 a d:=KeyOrd.kle_trans (O:=PyProof.Rows.strKind.toKeyOrd) x y
theorem tM(x:E7 a b)(y:E7 b a):a=b:=by
 haveI:=KeyOrd.kle_antisymm (O:=PyProof.Rows.strKind.toKeyOrd) x y;cases a;cases b;simp only[Str.mk.injEq];exact Xgv.mp this
theorem tN(h:¬E7 a b):E7 b a:=by refine KeyOrd.kle_of_klt (O:=PyProof.Rows.strKind.toKeyOrd) ?_;show decide (b.cps.toList<a.cps.toList)=true;simpa using h
section
variable {α:Type}
theorem Pj:CB k x ((G,C)::r)=if L8 k G&&k !=G then(k,x)::(G,C)::r else(G,C)::CB k x r:=rfl
theorem UB(k:Str)(x:α):∀l:List (Str×α),(CB k x l).Perm ((k,x)::l)
 | []=> .refl _
 | (G,C)::r=>by
  refine rL Pj ?_;split
  ·exact .refl _
  ·exact((UB k x r).cons _).trans (.swap _ _ _)
set_option tactic.hygienic true in
theorem aA(k:Str)(x:α):∀l:List (Str×α),l.Pairwise (λp q=>E7 p.1 q.1)->(CB k x l).Pairwise (λp q=>E7 p.1 q.1)
 | [],_=>List.pairwise_singleton _ _
 | (G,C)::r,h=>by
  haveI a:=Xfn.mp h;refine rL Pj ?_;split
  ·rename_i q;simp only[Xd5,L8,Xfv]at q;refine Xfn.mpr ⟨λy hy=>?_,h⟩;rcases Xcs.mp hy with rfl|hy
   ·exact q.1
   ·exact kle_trans q.1 (a.1 y hy)
  ·rename_i q;refine Xfn.mpr ⟨λy hy=>?_,aA k x r a.2⟩;rcases Xcs.mp ((UB k x r).mem_iff.mp hy)with rfl|hy
   ·show E7 G k;by_cases z:E7 k G
    ·haveI:k=G:=by simp only[Xd5,L8,Xfv,Xez,not_and,ne_eq,Decidable.not_not]at q;exact q z
     exact this▸ kle_refl _
    ·exact tN z
   ·exact a.1 y hy
theorem VS(l:List (Str×α)):(Cy l).Perm l:=by
 unfold Cy;haveI:∀(l v:List (Str×α)),(l.foldl (λv p=>CB p.1 p.2 v) v).Perm (l++v):=by
  intro l;induction l with
  |nil=>intro v;exact .refl _
  |cons p l Q=>
   intro v;exact rL Xel ((Q _).trans (((UB p.1 p.2 v).append_left l).trans List.perm_middle))
 haveI:=this l [];rwa [Xcz]at this
theorem zR(l:List (Str×α)):(Cy l).Pairwise (λp q=>E7 p.1 q.1):=by
 unfold Cy;haveI:∀(l v:List (Str×α)),v.Pairwise (λp q=>E7 p.1 q.1)->(l.foldl (λv p=>CB p.1 p.2 v) v).Pairwise (λp q=>E7 p.1 q.1):=by
  intro l;induction l with
  |nil=>intro v h;exact h
  |cons p l Q=>intro v h;exact rL Xel (Q _ (aA _ _ _ h))
 exact this l [] .nil
theorem eO:∀{c d:List (Str×α)},c.Perm d->(c.map (·.1)).Nodup->c.Pairwise (λp q=>E7 p.1 q.1)->d.Pairwise (λp q=>E7 p.1 q.1)->c=d
 | [],d,p,_,_,_=>(p.symm.eq_nil).symm
 |a::G,[],p,_,_,_=>absurd p.length_eq (by simp)
 |a::G,b::h,p,g,N,r=>by
  haveI s:=Xfn.mp N;haveI f:=Xfn.mp r;haveI ha:=p.mem_iff.mp (.head _);haveI hb:=p.mem_iff.mpr (.head _);haveI e:a=b:=by
   rcases Xcs.mp ha with e|ha
   ·exact e
   ·rcases Xcs.mp hb with e|hb
    ·exact e.symm
    ·haveI l:=s.1 b hb;haveI i:=f.1 a ha;haveI:=tM l i;rw[Xde,Xc6]at g;exact absurd (this▸ Xc3 hb) g.1
  subst e;rw[Xde,Xc6]at g;exact rL (eO ((List.perm_cons a).mp p) g.2 s.2 f.2) rfl
theorem Zz{i:Type}(f:α->i)(k:Str)(x:α):∀l:List (Str×α),CB k (f x) (l.map λp=>(p.1,f p.2))=(CB k x l).map λp=>(p.1,f p.2)
 | []=>rfl
 | (G,C)::r=>by
  refine rL Xde (rL Pj (rL Pj ?_));split
  ·rfl
  ·refine rL (Zz f k x r) ?_;rfl
theorem eK{i:Type}(f:α->i)(l:List (Str×α)):Cy (l.map λp=>(p.1,f p.2))=(Cy l).map λp=>(p.1,f p.2):=by
 unfold Cy;haveI:∀(l v:List (Str×α)),(l.map λp=>(p.1,f p.2)).foldl (λv p=>CB p.1 p.2 v) (v.map λp=>(p.1,f p.2))=(l.foldl (λv p=>CB p.1 p.2 v) v).map λp=>(p.1,f p.2):=by
  intro l;induction l with
  |nil=>intro v;rfl
  |cons p l Q=>
   intro v;exact rL (Xde ..) (rL (Xel ..) (rL (Xel ..) (rR (Q ..) (rR (Zz ..) rfl))))
 exact this l []
end
theorem tJ(h:Pp v=some k):∃y,v= .T [.str k,y]:=
 sE h λc h=>GA h λa r h=>GA h λy r h=>U0 h λh=>sD h λb h=>⟨y,by exact rL (sS h) rfl⟩
set_option tactic.hygienic true in
theorem cu:∀{xs:List Val}{vs:List Value}{ps:List (Str×Val)},AO P a M h xs vs->H5 xs=some ps->
  ∃T:List (Str×Val×Value),ps=T.map (λt=>(t.1,t.2.1))/\vs=T.map (·.2.2)/\(∀t∈T,AZ P a M h t.2.1 t.2.2)/\∀t∈T,∃x,t.2.1= .T [.str t.1,x]
 | [],vs,ps,R,h=>by
  cases sS h;exact(LQ [] rfl R (λU q=>nomatch q) λU q=>nomatch q)
 |x::xs,vs,ps,R,h=>by
  refine fN R λv r Y c=>?_;haveI h:(match Pp x with|some k=>(match H5 xs with|some ps=>some ((k,x)::ps)|none=>none)|none=>none)=some ps:=h;refine AB λJ=>?_;cases b:Pp x with
  |none=>replace h:=b▸ h;exact nS h
  |some k=>
   replace h:=b▸ h;have h:(match H5 xs with|some ps=>some ((k,x)::ps)|none=>none)=some ps:=h;cases e:H5 xs with
   |none=>replace h:=e▸ h;exact nS h
   |some m=>
    replace h:=e▸ h;exact Nz (cu c e) λT N A i1 i2=>AK (tJ b) λy u=>J (LQ ((k,x,v)::T) (by refine rR (sS h) (rL N ?_);rfl) (by refine rL A ?_;rfl) (Xgz.mpr ⟨Y,i1⟩) (Xgz.mpr ⟨⟨y,u⟩,i2⟩))
theorem aU{P:Program×World}{a:Nat->List Str}{M:Addr->Prop}{h:Heap}{α:Type}{f:α->Val}{g:α->Value}:∀{T:List α},(∀t∈T,AZ P a M h (f t) (g t))->AO P a M h (T.map f) (T.map g)
 | [],_=>AO.nil
 |t::T,k=> .cons (k t (.head _)) (aU λu I=>k u (.tail _ I))
theorem tZ{T:List (Str×Val×Value)}(nd:(T.map (·.1)).Nodup)(f:Ik (T.map (·.1)) (T.map (·.2.2)) V)(k:∀t∈T,AZ P a M h t.2.1 t.2.2):
  AO P a M h ((Cy (T.map λt=>(t.1,t.2.1))).map (·.2)) V:=by
 obtain⟨v,Y,rfl,b⟩:=f;haveI d:(T.map (·.1)).zip (T.map (·.2.2))=T.map λt=>(t.1,t.2.2):=by
  clear nd Y k;induction T with
  |nil=>rfl
  |cons t T Q=>simp only[Xde,List.zip_cons_cons,Q]
 rw[d]at Y;haveI e:v=Cy (T.map λt=>(t.1,t.2.2)):=by
  refine eO (Y.trans (VS _).symm) ?_ b (zR _);rw[(Y.map (·.1)).nodup_iff,Xdz]
  exact nd
 rw[e,show(T.map λt=>(t.1,t.2.2))=(T.map λt=>(t.1,t.2)).map λp=>(p.1,p.2.2) by refine rL Xdz ?_;rfl,eK λp:Val×Value=>p.2,show(T.map λt=>(t.1,t.2.1))=(T.map λt=>(t.1,t.2)).map λp=>(p.1,p.2.1) by refine rL Xdz ?_;rfl,eK λp:Val×Value=>p.1,
  Xdz,Xdz]
 exact aU λt c=>k t (by haveI:=(VS _).mem_iff.mp c;simpa using this)
inductive EE(M:Addr->Prop)(h:Heap)(q:Str):List Value->Prop
 |nil:EE M h q []
 |cons {l d:Int}{tl td:Tok}{a:Addr}{r:List Value}:¬M a->h.CodeRec (.ref a) q->EE M h q r->EE M h q (.int l tl:: .int d td:: .ref a::r)
theorem EE.fF(x:EE M h q l):TriplesOk l:=by
 induction x with
 |nil=>exact trivial
 |cons _ _ _ a=>exact a
theorem EE.mono(k:∀b o,¬M b->h.get? b=some o->h'.get? b=some o/\¬M' b)(x:EE M h q l):EE M' h' q l:=by
 induction x with
 |nil=>exact .nil
 |cons m a _ d=>
  refine AB λf=>Xa3 a λc o p t e g r=>f ?_;cases e;exact .cons (k _ _ m g).2 (RC _ o p t rfl ((k _ _ m g).1) r) d
theorem EE.snoc(x:EE M h q l)(m:¬M a)(c:h.CodeRec (.ref a) q):EE M h q (l++[rawInt i,rawInt j,.ref a]):=by
 induction x with
 |nil=>exact .cons m c .nil
 |cons e b _ d=>exact .cons e b d
theorem EE.among(x:EE M h q l)(e:codeAmong pos l=some v):∃a,v= .ref a/\h.CodeRec (.ref a) q:=by
 induction x with
 |nil=>exact nS e
 |cons m b _ c=>
  unfold codeAmong at e;split at e
  ·obtain rfl:=Xcl e;exact(AG _ rfl b)
  ·exact c e
noncomputable def FC:List (Addr×Addr×Addr×Str):=[(881,880,878,"_law_due"),(876,875,873,"_law_bound")]
abbrev IL(q:Str):Str:=q++".<locals>."++"<lambda>"
def WY(M:Addr->Prop)(h:Heap):Prop:=∀x∈FC,∃v,h.get? x.2.2.1=some (tabObj v)/\EE M h (IL x.2.2.2) v.toList
structure OH(c:Cx):Prop where
 gi:∀M h,c.gi M h ↔ WY M h
 tb:∀a,c.tb a ↔ a=878\/a=873
 hd:∀x∈FC,CodeHd c.base x.2.1 x.2.2.1
 bm:∀x∈FC,c.base.BuiltinsAt c.mg x.2.2.1
 fn:∀x∈FC,∀oF F,c.base.get? x.1=some oF->oF.data= .func F->F.code= .ref x.2.1
theorem tm{c:Cx}(C:c.Ok)(w:A.depth<1000)(st:AS c.base s.heap)
  (y:s.heap.get? f=some (kla_obj "<lambda>" q ⟨[],[⟨"pair",none,v⟩],none,[],[],none,[]⟩ (.Subscript (.Name "pair" D) (.Constant (.int 0) u E) G) ⟨.function,[("pair",.local)],false,false,[]⟩ [] I j h)) (e:s.heap.CodeRec (.ref j) q)
  (H:s.heap.get? a=some {cls:= .type "tuple",data:= .seq (List.toArray vs) n}) (Q:vs[0]? =some (.str k t)) (N:vs.length<=1000000):
  wpAny (Mo c) A (call (.ref f) [.ref a]) (λr M=>∃l p t,M={s with heap:=l,toks:=p}/\(∀b o,s.heap.get? b=some o->l.get? b=some o)/\r= .str k t) (λU U=>False) s:=by
 refine Xfe (kla_callFunE w y rfl rfl rfl rfl e (rL (show bindArgs (kla_fn "<lambda>" q ⟨[],[⟨"pair",none,v⟩],none,[],[],none,[]⟩ (.Subscript (.Name "pair" D) (.Constant (.int 0) u E) G) ⟨.function,[("pair",.local)],false,false,[]⟩ [] I (.ref j) h) ⟨[.ref a],[]⟩=pure [(("pair":Str),Value.ref a)]from rfl) (Xcp (Xfw (λx i=>?_) (λx i=>?_) (λm B J=>(AH ((C.nolimit.keeps st).fresh _ J) (kla_codeExpr ?_))) rfl))))
 ·refine rL (Xcc.mp i) ?_;simp
 ·refine rL (Xcc.mp i) ?_;rfl
 ·haveI L:=AS.sameBut (AS.push _) Bg J;haveI V:ER (newEnv ⟨.function,[("pair",.local)],false,false,[]⟩ s.heap.objs.size mainGlobals [] (q++".<locals>.") (some f) (.ref j) none builtinsNs) ⟨.function,[("pair",.local)],false,false,[]⟩ s.heap.objs.size:=⟨rfl,rfl,rfl,rfl,λU=>rfl⟩;refine Xhl (Bj V rfl rfl B rfl (Xgf ?_));haveI g:=L _ _ H;haveI d:=(Xc8.mp Q).1;haveI O:seqIndex? 0 vs.toArray.size=some (0:Int).toNat:=by
   unfold seqIndex?;simp only[Xcx];haveI Y:¬(0:Int)<0:=by lia
   haveI T:vs≠[]:=λz=>by rw[z]at d;exact absurd d (by first|decide|simp)
   simp[Y,T]
  exact tail_any (Shared.WZ g) Xhh.lookup (Xhi (UE g) (by lia) (by lia) O (by simpa using Q) (GP _ _ t rfl L rfl)) (Vl rfl)
abbrev Cx.JW(c:Cx):Cx:={c with tb:=λa=>False,gi:=λa a=>True}
theorem vt{c:Cx}(C:c.Ok):c.JW.Ok:=⟨C.BE,C.HY,C.tg,C.Np,C.nolimit,C.blt,C.fb,C.fe,C.fZ,λU U=>trivial,λU U h=>h.elim,λU h=>h.elim,λU h=>h.elim⟩
theorem cb:∀{o:OV},Bu c.JW M h t o ↔ Bu c M h t o
 | .list _=>Iff.rfl
 | .dict _ _=>Iff.rfl
 | .Z _=>Iff.rfl
theorem bK:∀{l:LV},Ho c.JW M W h s t l ↔ Ho c M W h s t l
 | .O=>Iff.rfl
 | .U=>Iff.rfl
 | .V _=>Iff.rfl
 | .N o=>and_congr Iff.rfl (and_congr Iff.rfl cb)
 | .P o=>and_congr Iff.rfl cb
theorem AF.JW(S:AF c φ W σ AE h):AF c.JW φ W σ AE h:=
 ⟨λi=>bK.mpr (S.lv i),S.sw,S.al,S.sa,S.so,S.oo,S.LW,S.LN,S.La,S.Lo,λa h=>h.elim,λa h=>h,λa a a a h=>h,λh=>h,S.base,S.off,S.ff,S.MW,S.MA,trivial⟩
theorem AF.table(C:c.Ok)(O:AU φ n)(S:AF c φ W σ AE h)(d:c.tb P)(k:∀b o,b≠P->h.get? b=some o->h'.get? b=some o)(gi:c.gi (Ex φ (Al W h)) h'):AF c φ (Al W h) σ AE h':=by
 haveI ext:Ch (λb=>φ.F b\/b=φ.L) (λb=>b=P) h h':= .of λb o p e=>k b o p e;have z:AF c.JW φ (Al W h) σ AE h':=S.JW.change (vt C) O ext (λb q=> .inl (q▸ S.tW P d)) (λi q=>S.ts i (q▸ d)) (λj g b f q=>S.EO j g b f (q▸ d)) (λq=>S.tL (q▸ d)) (λl h=>h.elim)
  (λl q=> .inl q.1) (λi=>⟨S.sw i,S.al i⟩) (λj g b f=>⟨S.Bc j g b f,S.DM C j g b f⟩) ⟨S.LW,let⟨m,o,_,_,e,_⟩:=S.LN;⟨o,e⟩⟩ λl h=>h.elim
 exact⟨λi=>bK.mp (z.lv i),z.sw,z.al,z.sa,z.so,z.oo,z.LW,z.LN,z.La,z.Lo,λa ha=>⟨S.tW a ha,C.I8 S.gi a ha⟩,S.ts,S.EO,S.tL,z.base,z.off,z.ff,z.MW,z.MA,gi⟩
theorem tq(C:c.Ok)(T:OH c)(O:AU φ n)(hx:x∈FC)(PO:φ.env.code= .ref x.2.1)(Tp:φ.env.qual=x.2.2.2++".<locals>.")
  (S:AF c φ W σ AE s.heap)
  (k:∀f c' pm G2 h' tk,AF c φ (Al W s.heap) σ AE h'->Nx φ.F W s.heap (Al W s.heap) h'->h'.get? f=some (kla_obj "<lambda>" (IL x.2.2.2) ⟨[],[⟨"pair",none,ap⟩],none,[],[],none,[]⟩ body ⟨.function,[("pair",.local)],false,false,[]⟩ [] pm c' G2)->h'.CodeRec (.ref c') (IL x.2.2.2)->Q (.ref f) {s with heap:=h',toks:=tk}):
  wpAny (Mo c) φ.A (eval (.Lambda ⟨[],[⟨"pair",none,ap⟩],none,[],[],none,[]⟩ body ⟨.function,[("pair",.local)],false,false,[]⟩ pos) φ.env) Q E s:=by
 have hP:c.tb x.2.2.1:=(T.tb _).mpr (by
  simp only[FC,Xcs,Xcu,Xe2]at hx;clear PO Tp k;rcases hx with rfl|rfl<;>simp)
 have gi:=(T.gi _ _).mp S.gi;refine AB λkk=>AJ (gi x hx) λps gP tl=>kk ?_;have wP:=S.tW _ hP;have hb:=(T.bm x hx).keeps S.base;have FY:mainGlobals≠x.2.2.1:=λq=>by have:=C.Ib _ hP;refine AB λkk=>Aj C.tg λo _ _ e _=>kk ?_;replace this:=e▸ q▸ this;exact sN this
 refine kla_eval rfl (rL Tp ?_);have fin:∀(f c':Addr)(pm G2:Value)(BW h':Heap)(tk:Nat),(∀b o,b≠x.2.2.1->s.heap.get? b=some o->BW.get? b=some o)->(∀b o,BW.get? b=some o->h'.get? b=some o)->(∃QQ,BW.get? x.2.2.1=some (tabObj QQ)/\EE (Ex φ (Al W s.heap)) h' (IL x.2.2.2) QQ.toList)->h'.get? f=some (kla_obj "<lambda>" (IL x.2.2.2) ⟨[],[⟨"pair",none,ap⟩],none,[],[],none,[]⟩ body ⟨.function,[("pair",.local)],false,false,[]⟩ [] pm c' G2)->
   h'.CodeRec (.ref c') (IL x.2.2.2)->Q (.ref f) {s with heap:=h',toks:=tk}:=λf c' pm G2 BW h' tk k1 k2⟨QQ,g1,t1⟩gf cr=>by
  have kk:=λb o nb e=>k2 b o (k1 b o nb e);haveI PG:=(T.gi _ _).mpr λy hy=>by
   by_cases q:y=x
   ·exact rL q (AG QQ (k2 _ _ g1) t1)
   ·refine AJ (gi y hy) λpy gy ty=>?_;haveI ny:y.2.2.1≠x.2.2.1:=by
     simp only[FC,Xcs,Xcu,Xe2]at hx hy;clear PO Tp k hP gP tl wP hb FY k1 gf cr g1 t1 kk;rcases hx with rfl|rfl<;>rcases hy with rfl|rfl<;>first|exact absurd rfl q|decide
    refine(AG py (kk _ _ ny gy) (ty.mono λb o nb e=>⟨kk b o (λz=>nb (.inr (z▸ wP))) e,λz=>nb (z.imp id λz=>z.1)⟩))
  exact k f c' pm G2 h' tk (S.table C O hP kk PG) (AH (.of λb o nb e=>kk b o (λz=>nb (z▸ wP)) e) λu0 q=> .inl q.1) gf cr
 cases hf:codeAmong pos ps.toList with
 |some cv=>
  refine AB λkk=>AJ (tl.among hf) λc' BV cr=>?_;obtain rfl:=BV;refine kk (kla_makeFunctionHit rfl O.eg (C.tg.keeps S.base) PO ((T.hd x hx).keeps S.base) gP tl.fF hf hb λG2 h' tk k1 hz=>fin _ c' _ G2 h' _ tk (λb o u0 e=>k1 b o e) (λb o e=>Xcf _ e) (AG ps (k1 _ _ gP) (tl.mono λb o nb e=>⟨Xcf _ (k1 b o e),λz=>nb (z.imp id λz=>z.1)⟩)) (Xcn _ rfl) (cr.keeps λb o e=>Xcf _ (k1 b o e)))
 |none=>
  refine kla_makeFunction rfl O.eg (C.tg.keeps S.base) PO ((T.hd x hx).keeps S.base) gP tl.fF hf FY hb λc' G2 h' tk JK qj DK cr Fc=>?_;haveI XK:(h'.push (kla_obj "<lambda>" (IL x.2.2.2) ⟨[],[⟨"pair",none,ap⟩],none,[],[],none,[]⟩ body ⟨.function,[("pair",.local)],false,false,[]⟩ [] ((c.mg "__name__").getD .none) c' G2)).CodeRec (.ref c') (IL x.2.2.2):=cr.keeps λb o e=>Xcf _ e;haveI nc:¬Ex φ (Al W s.heap) c':=λz=>by haveI:=z.elim (S.MA c') λz=>z.2;exact AK this λo e=>absurd (Xdt e) (Nat.not_lt.mpr qj)
  refine fin _ c' _ G2 h' _ tk JK (λb o e=>Xcf _ e) (AG _ Fc ?_) (Xcn _ rfl) XK;refine rL Array.toList_append (EE.snoc (tl.mono λb o nb e=>(AH (Xcf _ (JK b o (λz=>nb (.inr (z▸ wP))) e)) λz=>nb (z.imp id λz=>z.1))) nc XK)
theorem zV(C:c.Ok)(T:OH c)(gs:DI c.K "sorted" (.builtin "sorted")):Rh c:=by
 intro n φ a F oF q qF JJ JF O Xbw M V y kw np pos σ A0 r xs ps rM hk hy Y hr hp pH U W AE s E S;refine AB λkk=>?_;obtain⟨x,hx,mC,mE⟩:∃x∈FC,x.1=a/\x.2.2.2=q:=by
  rcases qF with⟨rfl,rfl⟩|⟨rfl,rfl⟩
  ·exact(BS (881,880,878,"_law_due") (by decide) rfl rfl)
  ·exact(BS (876,875,873,"_law_bound") (by decide) rfl rfl)
 haveI w:=M.trans (T.fn x hx oF F (mC▸ JJ) JF);haveI hk:=hk;refine Dw (sV hk) λap p1 u p2 Ap=>Ay Ap λp3 lp kp Ss=>kk (rL Ss ?_)
 ·refine wpAny_Call_Name_kw (Xfd O.ek rM ?_ rfl);haveI nm:∀{Q:Value->Shared->Prop},Q (.builtin "sorted") s->wpAny (Mo c) φ.A (loadGlobal φ.env "sorted") Q E s:=λh=>by
   rcases gs with⟨e,_⟩|⟨e,hv,hn,_⟩
   ·exact Xfr (env:=φ.env) (O.eg▸ C.tg.keeps S.base) (mg_of C.BE C.tg e) h
   ·exact Xge (O.eg▸ C.tg.keeps S.base) (Xip C.BE C.tg e) (O.eb▸ C.Np.keeps S.base) ((C.blt _ hn).trans hv) h
  refine nm (callWith_kw ?_ (by refine rL (Bn Y) ?_;rfl) (H9 (by first|decide|simp[Be,Y])) rfl rfl);refine Xc5 (one C O hy S λH d Xag B g=>args_nil (kws_cons (tq C T O hx w (mE▸ V) B.S λf c' pm G2 J j p A gf cr=>kws_nil ?_))) (Bn Y);rw[hr]at g;haveI G:=g.nx O A;haveI L:=G;clear g G;obtain⟨l,vs,m,rfl,nl,gl,hl,iA⟩:=L;refine Nz (cu iA hp) λTt BV Ov i1 i2=>?_;obtain rfl:=BV;obtain rfl:=Ov;haveI K0:BJ c φ H AE d A0 (Al H d.heap) {d with heap:=J,toks:=j}:=⟨.of,A,p⟩;haveI I:Tt.length<64:=by simpa using pH
  refine Dg C O (B.trans K0) (tY (kz:=Tt.map (·.1)) (GC gl) (by first|decide|simp) (by simpa using I) (λi v k hv N h tk st=>?_) λD Ct LK out cc fD lD st gD ko=>?_)
  ·rw[Xdy]at hv N;cases e:Tt[i]? with
   |none=>rw[e]at hv;exact nS hv
   |some t=>
    rw[e]at hv N;obtain rfl:=Xcl hv;obtain rfl:=Xcl N;have ht:=Xc0 e;refine AB λkk=>AK (i2 t ht) λz ez=>?_;haveI hi:=i1 t ht;rw[ez]at hi;obtain⟨b,ws,m',eb,_,gb,_,w0,r0,rfl,⟨⟨tt,rfl⟩,_⟩,w1,r1,rfl,_,rfl⟩:=hi;refine kk ?_;show wpAny (Mo c) φ.A.in1.in1 (call (.ref f) [t.2.2]) _ _ _;exact rL eb (tm C (by show φ.A.depth<1000;haveI:=O.depth;exact lin [φ.A.depth,n] 0x2f0c3a6cd94378406bbf88eb03f081 rfl this) (λb o e=>st _ _ (p.base b o e)) (st _ _ gf) (cr.keeps st) (st _ _ gb) rfl (Xch rfl))
  ·refine J5 C O p .of (.keeps st) fD (Xf0 (Cq C O p) lD) (λu0 q=>by cases q) (λkk=>?_) (Fq C O (s:={d with heap:=J,toks:=j}) p (Xf0 (Cq C O p) lD));have Mh:((Cy (Tt.map λt=>(t.1,t.2.1))).map (·.2)).length<=1000000:=rL (EN ..) (rL ((VS _).length_eq) (rL (EN ..) (lin [Tt.length] 0x16d732374890000000000895447801 rfl I)))
   refine⟨D,out.toList,cc,rfl,by exact rL gD rfl,Mh,?_⟩;haveI:=tZ (by replace U:=Xdz▸ U;exact U) ko i1;exact AO.mono kk _ this
abbrev CV:List Addr:=[878,873]
theorem Ud{f:Addr->Bool}(h:f a=true):∀K:Frag,(K.filter λp=>f p.1).lookup a=K.lookup a
 | []=>rfl
 | (b,o)::K=>by
  cases q:f b with
  |true=>exact rL (Xex (a:=(b,o)) q) (rL Xds (rL Xds (rL (Ud h K) rfl)))
  |false=>
   haveI e:(a==b)=false:=Xd8.mpr λe=>fT (q.symm.trans (e▸ h));exact rL (Xgh (q▸ Xeh)) (rL Xds (rL e (Ud h K)))
theorem Ub{f:Addr->Bool}(h:f a=false):∀K:Frag,(K.filter λp=>f p.1).lookup a=none
 | []=>rfl
 | (b,o)::K=>by
  cases q:f b with
  |true=>
   haveI e:(a==b)=false:=Xd8.mpr λe=>fT (h.symm.trans (e▸ q));exact rL (Xex (a:=(b,o)) q) (rL Xds (rL e (Ub h K)))
  |false=>
   exact rL (Xgh (q▸ Xeh)) (Ub h K)
theorem kN(h:a∉CV):(a !=878&&a !=873)=true:=by
 cases e:(a !=878&&a !=873)with
 |true=>rfl
 |false=>exact(h (by simp only[CV,Xcs,Xcu,Xe2];simpa[Decidable.or_iff_not_imp_left]using e)).elim
theorem Sb{K:Frag}(h:a∉CV):(G3 K).lookup a=K.lookup a:=Ud (f:=λa=>a !=878&&a !=873) (kN h) K
theorem XN{K:Frag}(h:(G3 K).lookup a=some o):K.lookup a=some o/\a∉CV:=by
 have n:a∉CV:=λm=>by
  have:(a !=878&&a !=873)=false:=by
   rcases Xcs.mp m with rfl|m
   ·rfl
   ·refine rL (Xcc.mp m) ?_;rfl
  exact nS ((Ub (f:=λa=>a !=878&&a !=873) this K).symm.trans h)
 exact⟨(Sb n).symm.trans h,n⟩
abbrev baseOf(h:Heap):Heap:=hideAll h CV
theorem Wi(h:Heap):AS (baseOf h) h:=λb o e=>of_hideAll _ e
theorem GV(e:h.get? a=some o)(n:a∉CV):(baseOf h).get? a=some o:=hideAll_get _ e n
theorem iz(n:a∈CV):(baseOf h).get? a=none:=hideAll_none _ n
theorem XM{K:Frag}(X:K.In h):(G3 K).In (baseOf h):=λa o e=>GV (X a o (XN e).1) (XN e).2
theorem zj{K:Frag}(X:K.In h)(e:ej K a=true):h.get? a=some ⟨.none,none,.fields #[],#[]⟩:=
 IS e λo g q=>IS (ar q) λb E s=>by haveI M:=XR E;replace M:=(Array.isEmpty_iff.mp s)▸ M;haveI Y:=eq_of_beq (al (al (al q)));haveI T:=Xe9.mp (ar (al (al q)));haveI H:=Array.isEmpty_iff.mp (ar (al q));exact rL (X a o g) (rR Y (rR T (rR H (rR M rfl))))
theorem QT{K:Frag}(X:K.In h)(y:SQ K=true)(m:a∈CV):h.get? a=some ⟨.none,none,.fields #[],#[]⟩:=
 zj X (Xce.mp (al (al (al (al (al y))))) a m)
theorem ND{K:Frag}(X:K.In h)(y:SQ K=true)(e:h.get? a=some o)(g:o.cls≠.none):a∉CV:=λD=>by haveI:=(QT X y D).symm.trans e;exact g (Xcl this▸ rfl)
def Uw(P:Program)(w:World)(K:Frag)(mg mb:Str->Option Value)(h:Heap):Cx where
 prog:=P
 w:=w
 K:=G3 K
 mg:=mg
 mb:=mb
 base:=baseOf h
 fl:=Cc
 wa:=λu0 u0 u0 u0=>False
 tb:=λa=>a=878\/a=873
 gi:=WY
def JZ(P:Program)(w:World)(K:Frag)(mg mb:Str->Option Value)(h:Heap):Cx:=
 {Uw P w K mg mb h with wa:=λM b t k=>∃a d Y,t=[a,d,Y]/\WR (Uw P w K mg mb h) M a d Y true [] b}
theorem fj(Y:c.prog=j.prog)(T:c.w=j.w)(H:c.base=j.base)(W:WR c X w d a b S h):WR j X w d a b S h:=
 ⟨W.gw,W.gd,by refine rR Y (rR T ?_);exact W.gm,W.ne,H▸ W.bd,H▸ W.bm,W.sy⟩
section
variable {P:Program}{w:World}{K:Frag}{mg mb:Str->Option Value}{h:Heap}
theorem wm:FI (JZ P w K mg mb h):=λM b t k=>by
 constructor
 ·rintro⟨a,d,Y,e,W⟩;exact(DS a d Y e (fj (c:=Uw P w K mg mb h) rfl rfl rfl W))
 ·rintro⟨a,d,Y,e,W⟩;exact(DS a d Y e (fj (c:=JZ P w K mg mb h) rfl rfl rfl W))
end
theorem kC{K:Frag}(h:SN K cl=true)(I:cl.fs.Nodup):WI K cl.C cl.fs:=by
 haveI D:=al (al (al (al (al (al (al (al (al (al h)))))))));haveI o:=al h;refine⟨eq_of_beq (ar (al (al (al (al (al (al (al o)))))))),ar (al D),ar D,λx B=>eq_of_beq (al (Xce.mp (ar h) x B)),eq_of_beq (ar (al (al (al (al (al o)))))),eq_of_beq (ar (al (al (al (al o))))),λd u=>?_,eq_of_beq (ar (al o)),eq_of_beq (ar o),I⟩;rcases u with rfl|rfl
 ·exact eq_of_beq (ar (al (al (al o))))
 ·exact eq_of_beq (ar (al (al o)))
theorem vu:(Hy.all λc=>decide c.fs.Nodup)=true:=by kernel_rfl
theorem tO{K:Frag}(h:X7 K=true):WO K Cc:=by
 have Y:=Xce.mp (al (al (al (al (al (al (al h)))))));have s:=Xce.mp (ar h);haveI c:=Xce.mp vu;haveI m:∀T:String,(T="int"\/T="str"\/T="NoneType"\/T="list"\/T="tuple")->T∈Sz:=λT a=>by simp only[Sz,Xcs,Xcu,Xe2];exact a
 refine⟨λC i=>?_,eq_of_beq (ar (al (al h))),eq_of_beq (ar (al h)),λT a d b=>?_,λT a=>eq_of_beq (ar (al (s T (m T a)))),λT a=>eq_of_beq (ar (s T (m T a)))⟩
 ·have:∃U∈Hy,U.C=C/\Cc C=U.fs:=by
   rcases i with rfl|rfl|rfl
   ·exact(BS ⟨49,39,["required","optional","rest","post","block"]⟩ (Ai 0) rfl (by kernel_rfl))
   ·exact(BS ⟨114,111,DQ++(["items"]:List Str)⟩ (Ai 3) rfl (by kernel_rfl))
   ·exact(BS ⟨193,190,DQ++(["params","body","env","self_value","nesting","home","site","is_lambda","definer"]:List Str)⟩ (Ai 4) rfl (by kernel_rfl))
  refine AB λJ=>Bh this λU v u e=>?_;obtain rfl:=u;exact J (e▸ kC (Y U v) (Xcj (c U v)))
 ·haveI:=s T (m T a);rcases b with rfl|rfl
  ·exact eq_of_beq (al (al (al this)))
  ·exact eq_of_beq (ar (al (al this)))
section
variable {P:Program}{w:World}{K:Frag}{mg mb:Str->Option Value}{h:Heap}{loose:List Str}{p:Program}{uw:ExcName->Option Value}
theorem wc(X:K.In h)(hc:MC K=true)(T:Top p loose uw mg mb h):(JZ P w K mg mb h).Ok:=by
 haveI c1:=al (al hc);have ns:∀{a:Addr}{m:Str->Option Value},h.Ns a m->(baseOf h).Ns a m:=λ{a m}⟨o,es,ep,e,hd,r⟩=>by
  haveI:a∉CV:=λhm=>by have:=(QT X (ar hc) hm).symm.trans e;replace hd:=(Xcl this)▸ hd;exact nomatch hd
  exact(GP o es ep (GV e this) hd r)
 refine⟨XM X,tO c1,ns T.g,ns T.b,?_,T.builtins,?_,?_,?_,?_,?_,λa ha=>iz ?_,λa ha=>?_⟩
 ·exact AJ T.nolimit λmc a b=>(AG mc (ns a) b)
 ·rintro M M' BW Gk fp k ⟨a,d,md,rfl,W⟩ kk;refine(DS a d md rfl ?_);haveI g:=λb hb o e=>(kk b o (.inr hb) e).1;exact W.tr (g _ (.head _)) (g _ (by first|decide|simp)) (g _ (by first|decide|simp)) (λb o n e=>(AH ((kk _ _ (.inl n) e).1) ((kk _ _ (.inl n) e).2 n))) λu0 q=>q
 ·rintro M BW fp k ⟨a,d,md,rfl,W⟩ b hb;simp only[Xcs,Xcu,Xe2]at hb;rcases hb with rfl|rfl|rfl
  ·exact(AN _ W.gw)
  ·exact W.od
  ·exact W.om
 ·rintro M BW fp k ⟨a,d,md,rfl,W⟩;exact(BM a _ rfl)
 ·intro M M' BW Gk gi kk x hx;refine AJ (gi x hx) λps e tl=>(AG ps ((kk _ _ (.inr ?_) e).1) (tl.mono λb o nb e=>⟨(kk b o (.inl nb) e).1,(kk b o (.inl nb) e).2 nb⟩));simp only[FC,Xcs,Xcu,Xe2]at hx;rcases hx with rfl|rfl
  ·exact .inl rfl
  ·exact .inr rfl
 ·intro M BW gi a ha;rcases ha with rfl|rfl
  ·exact AJ (gi (881,880,878,"_law_due") (.head _)) λps e _=>(AN _ e)
  ·exact AJ (gi (876,875,873,"_law_bound") (by first|decide|simp[FC])) λps e _=>(AN _ e)
 ·rcases ha with rfl|rfl<;>simp[CV]
 ·show @LT.lt Nat _ a (hideAll h CV).objs.size;exact rL (hideAll_size ..) (Xdt (QT X (ar hc) (by rcases ha with rfl|rfl<;>simp[CV])))
end
abbrev Qt:Program:=PySem.Challenge.pw_nz0050_01
theorem yS:(FU.all λf=>(CT Qt f.cls f.name).isSome)=true:=by kernel_rfl
theorem zJ:(Hi.all λx=>x.2.cls== .type "tuple")=true:=by kernel_rfl
theorem jJ:∀x∈HO,∃id,x.2= .builtin id\/x.2= .type id:=by
 intro x B;haveI h:=Xce.mp (by kernel_rfl:(HO.all λx=>match x.2 with| .builtin _=>true| .type _=>true|_=>false)=true) x B;obtain⟨y,v⟩:=x;cases v<;>first|exact⟨_,.inl rfl⟩|exact⟨_,.inr rfl⟩|exact fT h
theorem w8{K:Frag}:nsIn (G3 K) mainGlobals x=nsIn K mainGlobals x:=by unfold nsIn;exact rL (Sb (by decide)) rfl
theorem tK(h:UK v=some x):∃t,v= .str x t:=by
 cases v<;>first|exact nS h|exact⟨_,congrArg (Value.str · _) (Xcl h)⟩
theorem cs(P:Program)(w:World):∀(a:List DictEntry)(l:List (Str×Value)),(a.map λe=>(UK e.key,e.hash,e.val))=l.map (λx=>(some x.1,PyData.keyHash w.params x.1,x.2))->KeysOf (PySem.strKind P w) a.toArray/\Pairs (PySem.strKind P w) a l
 | [],[],_=>(AH (λe he=>by simp at he) .nil)
 | [],_::_,h=>by simp at h
 |_::_,[],h=>by simp at h
 |e::a,x::l,h=>by
  have Q:=(Xhz h).1;refine Ax (cs P w a l (Xhz h).2) λd v=>?_;have L:(PySem.strKind P w).is x.1 e.key=true:=AK (tK (congrArg (·.1) Q)) λt b=>b▸ Xgd P w _ _
  refine(AH (λE he=>?_) (.cons L (congrArg (·.2.2) Q) v))
  rcases Xcs.mp (List.mem_toArray.mp he)with rfl|he
  ·exact(AG x.1 L (congrArg (·.2.1) Q))
  ·exact d E (List.mem_toArray.mpr he)
theorem kX{K:Frag}(X:K.In h)(e:Oh K a=Oi w.params n l)(b:(l.map (·.1)).Nodup):h.DictOf (PySem.strKind P w) a l/\∃o,h.get? a=some o/\o.cls= .type "dict":=by
 refine Uy e λo g e=>Ku e λq Y e=>?_;obtain⟨d,v⟩:=cs P w q.1.toList l (congrArg (·.2.2.2.2) e)
 exact⟨⟨o,q.1,q.2,X _ _ g,⟨congrArg (·.1) e,congrArg (·.2.1) e,congrArg (·.2.2.1) e⟩,kP Y,d,v,b⟩,o,X _ _ g,congrArg (·.1) e⟩
theorem jH:decide (ET.map (·.1)).Nodup=true:=by kernel_rfl
theorem vD:decide (IM.map (·.1)).Nodup=true:=by kernel_rfl
section
variable {P:Program}{w:World}{K:Frag}{mg mb:Str->Option Value}{h:Heap}
theorem wW(X:K.In h)(E:Uz K=LM w):Co (JZ P w K mg mb h):=by
 haveI G:=congrArg (·.1) E
 haveI z:=congrArg (·.2.1) E
 haveI C:Hi.map (λx=>K.lookup x.1)=Hi.map (λx=>some x.2):=congrArg (·.2.2.1) E
 haveI H:KV.map (λx=>nsIn K mainGlobals x.1)=KV.map (λx=>some (some x.2)):=congrArg (·.2.2.2.1) E
 haveI i:=al (al (al G));haveI b:=ar (al (al G));haveI A:=ar (al G);haveI c:=Xce.mp (al (al b)) (72,69) (by decide);haveI dict:∀{a n l},Oh K a=Oi w.params n l->(l.map (·.1)).Nodup->(baseOf h).DictOf (PySem.strKind P w) a l:=λ{a n l}e y=>by refine AB λJ=>?_;obtain⟨⟨o,q,k,g,r⟩,L,Y,v⟩:=kX X e y;refine J ?_;replace Y:=g▸ Y;obtain rfl:=sS Y;exact(DS o q k (GV g (ND X A g (by refine rL v ?_;simp))) r)
 refine⟨⟨λf t=>?_,λU v=>jz (Xce.mp (al (al (al (al (al (al (al i))))))) U v),λx B=>?_,sT,λx B=> .inl ?_,λx B=>?_,eq_of_beq (al (al (al c))),ar (al (al c)),SW (ar (al c)),ar c⟩,
  λm s=>ux (Xce.mp (ar (al (al (al (al (al (al i))))))) m s),eq_of_beq (ar b),λx B=>?_,dict (congrArg (·.2.2.2.2.1) E) (Xcj jH),dict (congrArg (·.2.2.2.2.2) E) (Xcj vD)⟩
 ·haveI e:=(Xgo.mp z) f t;haveI I:=Xce.mp yS f t;cases d:CT Qt f.cls f.name with
  |none=>replace I:=d▸ I;exact fT I
  |some r=>
   refine(DS r.1 r.2.1 r.2.2 rfl (Uy (e.trans (congrArg (Option.map _) d)) λo g e=>Ku e λD V e=>?_));haveI u:=kQ V;haveI j:=ND X A (X _ _ g) (by refine rL (show o.cls=_ from congrArg (·.2) e) ?_;simp)
   refine(BM o D ⟨GV (X _ _ g) j,u,⟨congrArg (·.1.params) e,congrArg (·.1.body) e,congrArg (·.1.scope) e,congrArg (·.1.globals) e,congrArg (·.1.closure) e,congrArg (·.1.defaults) e,congrArg (·.1.builtins) e,congrArg (·.1.qual) e⟩,?_⟩)
   haveI:=codeRec_of (XM X) (Xce.mp (ar (al (al (al i)))) f t);haveI p:J0 (G3 K) f.a=D.code:=by unfold J0;refine rL (Sb j ..) (rL (g ..) (rL (Xh4 ..) (rL (V ..) ?_)));rfl
   replace this:=p▸ this;exact this
 ·haveI e:=(Xgo.mp C) x B;haveI v:=Xce.mp zJ x B;haveI g:=X _ _ e;exact GV g (ND X A g (by refine rL (eq_of_beq v) ?_;simp))
 ·haveI:=Xce.mp (ar (al (al (al (al (al i)))))) x B;exact(AH (eq_of_beq (al this)) (ar this))
 ·haveI:=Xce.mp (ar (al (al (al (al i))))) x B;exact .inr (DR (eq_of_beq (al (al this))) (eq_of_beq (ar (al this))) (Xez.mp (ar this)) (jJ x B))
 ·haveI e:=(Xgo.mp H) x B;show nsIn (G3 K) mainGlobals x.1=_;exact rL w8 e
theorem sW(q:aR v=true):∃x t,v= .str x t:=by cases v<;>first|exact(BM _ _ rfl)|exact fT q
theorem aK(q:UD v=true):∃x t,v= .int x t:=by cases v<;>first|exact(BM _ _ rfl)|exact fT q
theorem sU(q:aJ v=true):∃x,v= .bool x:=by cases v<;>first|exact⟨_,rfl⟩|exact fT q
theorem SX(X:K.In h)(e:Oe K c Q=true):CodeHd h c Q/\∃o,h.get? c=some o/\o.cls= .type "code":=by refine IS e λo g e=>IS (ar e) λp u q=>?_;have N:=eq_of_beq (al e);haveI a1:=eq_of_beq (al (al (al (al (al q)))));exact B8 (sW (ar (al (al (al (al q)))))) λ_ _ V=>B8 (aK (ar (al (al (al q))))) λ_ _ a=>AK (sU (ar (al (al q)))) λ_ t=>B8 (aK (ar (al q))) λ_ _ i=>⟨⟨o,p,_,_,_,_,_,_,_,X _ _ g,N,XR u,a1,by refine rL Array.getD_eq_getD_getElem? (rL a1 ?_);rfl,V,a,t,i,Xez.mp (ar q)⟩,o,X _ _ g,N⟩
theorem wj(X:K.In h)(y:MC K=true)(T:Top p i m mg mb h):OH (JZ P w K mg mb h):=by
 have A:=ar y;have u:∀{c Q:Addr},Oe K c Q=true->CodeHd (baseOf h) c Q:=λ{c Q}q=>by refine AB λJ=>Ax (SX X q) λd f=>AJ f λo' g v=>?_;obtain⟨o,vs,G,H,L,M,Gn,text,Y,e,r⟩:=d;refine J ?_;rw[e]at g;obtain rfl:=sS g;exact(DA o vs G H (DA L M Gn text (AG Y (GV e (ND X A e (by refine rL v ?_;simp))) r)))
 refine AB λJ=>O1 T.bmain λl E s t j V I k=>J ?_;have n:=ND X A j (by refine rL V ?_;simp);haveI N:l≠mainGlobals:=λq=>by
  obtain⟨o,es,ep,e,u⟩:=Dd T.g;rw[q,e]at j;obtain rfl:=sS j;replace k:=u▸ k;cases k
 haveI C:∀{Q:Addr},Q∈CV->(baseOf h).BuiltinsAt mg Q:=λ{Q}O=>(W9 l E s t N (λz=>n (z▸ O)) (GV j n) (AX V I k));haveI D:∀{a c:Addr},J0 K a= .ref c->∀b F,(baseOf h).get? a=some b->b.data= .func F->F.code= .ref c:=λ{a c}q b F e u=>by
  unfold J0 at q;cases g:K.lookup a with
  |none=>rw[g]at q;exact nomatch q
  |some o=>
   rw[g,show o=b from Xcl ((X _ _ g).symm.trans (Wi h _ _ e)),Xh4,u]at q;exact q
 refine⟨λU U=>Iff.rfl,λU=>Iff.rfl,λx B=>?_,λx B=>?_,λx B=>?_⟩
 all_goals simp only[FC,Xcs,Xcu,Xe2]at B
 ·rcases B with rfl|rfl
  ·exact u (ar (al (al (al (al A)))))
  ·exact u (ar (al (al (al A))))
 ·rcases B with rfl|rfl
  ·exact C (by decide)
  ·exact C (by decide)
 ·rcases B with rfl|rfl
  ·exact D (eq_of_beq (ar (al (al A))))
  ·exact D (eq_of_beq (ar (al A)))
theorem wi(X:K.In h)(y:MC K=true):∃o,(JZ P w K mg mb h).base.get? sysModules=some o:=AK (Xeq.mp (ar (ar y))) λo e=>⟨o,GV (X _ _ e) (by decide)⟩
end
theorem zC{m:Type}{l:List m}(h:l.length=6):∃a b c d e f,l=[a,b,c,d,e,f]:=by
 have p:∀{l:List m}{n:Nat},l.length=n+1->∃a r,l=a::r/\r.length=n:=λ{l n}h=>by
  cases l with
  |nil=>cases h
  |cons a r=>exact(Di a r rfl (Nat.succ.inj h))
 exact AB λJ=>Ce (p h) λa O Q g=>Ce (p g) λb i N Y=>Ce (p Y) λc V A T=>(Ce (p T) λd j z H=>Ce (p H) λe t u M=>Ce (p M) λf k L D=>J (DA a b c d (BM e f (by exact rL Q (rL N (rL A (rL z (rL u (rL L (rL (List.length_eq_zero_iff.mp D) rfl))))))))))
theorem kB{K:Frag}(e:K.lookup a=some o)(h:o.data= .cls L):clsIn K a=some L:=by
 unfold clsIn;refine rL e ?_;obtain⟨_,_,d,_⟩:=o;cases h;rfl
theorem dX{K:Frag}(h:Oc K=true):Ll K/\∀h':Heap,K.In h'->RW h' 516 NV:=by
 have h2:=al (al (al (al (al (al (al (al (al (al h)))))))));have h7:=Xce.mp (ar (al (al (al (al (al h))))));refine IS (al h2) λo e q=>IS (ar q) λcd e' q'=>?_;have hd:=kO e';refine(AH ⟨⟨cd,kB e hd,eq_of_beq (al (al q')),ar (al q')⟩,eq_of_beq (ar h2),ar (al (al (al (al (al (al (al (al (al h))))))))),eq_of_beq (ar (al (al (al (al (al (al (al (al h))))))))),eq_of_beq (ar (al (al (al (al (al (al (al h)))))))),eq_of_beq (ar (al (al (al (al (al (al h))))))),λx hx=>?_,eq_of_beq (ar (al (al (al (al h))))),eq_of_beq (ar (al (al (al h)))),eq_of_beq (ar (al (al h))),eq_of_beq (ar (al h)),eq_of_beq (ar h)⟩ λh' X=>?_)
 ·have hm:x∈(["reason","thing"]:List Str):=hx.elim (λe=>e▸ .head _) λe=>e▸ .tail _ (.head _);exact(AH (eq_of_beq (al (h7 x hm))) (eq_of_beq (ar (h7 x hm))))
 ·have g:=X 516 _ e;obtain⟨tc,od,da,⟨sl⟩⟩:=o;refine AB λkk=>Dw (zC (l:=sl) (eq_of_beq (ar (al (al q))))) λk0 k1 k2 k3 Ap=>B8 Ap λk4 k5 q1=>?_;cases q1;have c6:=eq_of_beq (ar (al q));have c1:tc= .type "type":=eq_of_beq (al (al (al q)));have hd:da= .cls cd:=hd;subst c6;subst c1;subst hd;obtain⟨nm,bs,mro,N,q1,Gg,sn,sub,ab,col,del⟩:=cd;have c2:=eq_of_beq (al (al q'));have c4:del=false:=Aq (ar q');clear q' hd e q e';subst c2;subst c4;exact kk ⟨(DA nm q1 N bs (DA Gg sn sub ab (DA col od k0 k1 (BM k2 k3 ⟨k5,g⟩)))),by decide+kernel,by decide+kernel,by decide+kernel,by decide+kernel⟩
theorem oM(Y:X8 c.K=true)(T:Oc c.K=true):Fv c:=by have t:=Xce.mp (al (al Y)) (496,493) (by decide);exact⟨(dX T).1,(dX T).2,eq_of_beq (al (al (al t))),ar (al (al t)),SW (ar (al t)),ar t,SW (ar (al Y))⟩
def Gr(sc:Scope)(L:Addr)(q:Str)(a:Addr)(code:Value)(vars:List Str):Fm where
 env:=DX sc L q a code
 Cm:=DX sc L q a code
 outer:=[]
 L:=L
 slots:=EW L [] sc.names vars
 np:=1
 A:=callerA.deeper (DX sc L q a code)
 CZ:=λu0=>False
theorem u2{code:Value}(hk:sc.kind= .function):AU (Gr sc L q a code vars) 60:=
 ⟨rfl,by show callerA.depth+1+6*60+120<=990;decide,by show callerA.units+3+60*60+400<=9900;decide,rfl,rfl,hk,rfl,hk,rfl,rfl,λb⟨e,he,_⟩=>by cases he⟩
noncomputable def GD(x:Val)(nl nc:Nat):St:= .V x::(List.replicate nl .U++List.replicate nc .O)
theorem UQ:(GD x nl nc).at i=if i=0 then .V x else if i<nl+1 then .U else .O:=by
 unfold GD St.at;cases i with
 |zero=>rfl
 |succ i=>
  refine rL List.getD_cons_succ (rL Xdr (rL (Xcm (by grind)) ?_));by_cases h:i<nl
  ·refine rL (Xck (by exact lin [i,nl] 0x81c237b6d1262ea446e17a381 rfl h)) (rL (Xf9 (by simpa using h)) (rL Xfk (rL (Xck h) ?_)));rfl
  ·refine rL (Xcm (by exact Nat.not_lt_of_le (lin [nl,i] 0x6684b65ad4203f081 rfl (Xdh h)))) (rL (Xfy (by simp;exact lin [nl,i] 21743898625 rfl (Xdh h))) (rL Xfk ?_));split<;>rfl
section
variable {c:Cx}(C:c.Ok){s:Shared}(st:AS c.base s.heap)(hsz:c.base.objs.size<=s.heap.objs.size)(Fc:∀a,c.tb a->∃o,s.heap.get? a=some o)(Ka:∀(M:Addr->Prop)(h':Heap),AS s.heap h'->c.gi M h')
 {sc:Scope} (hk:sc.kind= .function) {vars:List Str} (ZS:vars.Nodup) (EX:∀x∈vars,sc.names.lookup x=some .local) {q:Str} {a:Addr} {code:Value} {h':Heap} {m:Str->Option Value} (FX:h'.Ns s.heap.objs.size m) (k':AS s.heap h')
include C st hsz Fc Ka hk ZS EX FX k'
theorem u9(hp:vars[0]? =some p)(hm:m p=some v)(hv:AZ (c.prog,c.w) c.fl c.tb s.heap x v)(nl nc:Nat)(hl:vars.length=nl+1):
  AF c (Gr sc s.heap.objs.size q a code vars) (λb=>b=s.heap.objs.size\/c.tb b) (GD x nl nc) (λu0=>[]) h':=by
 have Hb:s.heap.get? s.heap.objs.size=none:=Bg;have slots:∀i,(Gr sc s.heap.objs.size q a code vars).slots i= .d s.heap.objs.size ((vars[i]?).getD (Str.ofString "")):=λi=>by
  show EW s.heap.objs.size [] sc.names vars i=_;unfold EW;cases hx:vars[i]? with
  |none=>rfl
  |some y=>
   dsimp only;refine rL (Xcm (by refine rL (EX y (Xc0 hx) ..) ?_;simp)) ?_;rfl
 have Ry:∃o,h'.get? s.heap.objs.size=some o:=Aj FX λo _ _ e _=>(AN o e);have NH:¬c.tb s.heap.objs.size:=λz=>AK (Fc _ z) λo e=>nG Hb e;have bn:c.base.get? s.heap.objs.size=none:=Dn (λo e=>st _ _ e) Hb;have Q9:∀j,¬((GD x nl nc).at j).Az:=λj z=>by
  replace z:=UQ▸ z;split at z
  ·exact z
  ·split at z<;>exact z
 have on:∀{j},((GD x nl nc).at j).on->j<nl+1:=λ{j}z=>by
  replace z:=UQ▸ z;split at z
  ·lia
  ·split at z
   ·assumption
   ·exact z.elim
 refine⟨λi=>?_,λi=>?_,λi=>?_,λi j Dq hi hj=>?_,λi j hj=>absurd hj (Q9 j),λi j u0 hi=>absurd hi (Q9 i),.inl rfl,(AN m FX),hsz,λj hj=>absurd hj (Q9 j),λb hb=> .inr hb,λi=>?_,λj hj=>absurd hj (Q9 j),NH,st.trans k',λb hb=>?_,?_,λb hb=>hb.elim,λb hb=>hb.elim,Ka _ _ k'⟩
 ·refine rL UQ ?_;by_cases e:i=0
  ·subst e;refine rL (Xck rfl) (AG v ?_ (AZ.mono (λb o nb e=>⟨k' b o e,λz=>?_⟩) x hv))
   ·exact rL (slots ..) (rL (hp ..) (AG m FX hm))
   ·rcases z with z|z|z
    ·exact z
    ·exact nH z Hb e
    ·exact nb z
  ·refine rL (Xcm e) ?_;split
   ·exact rL (slots ..) (AN m FX)
   ·exact trivial
 ·exact rL (slots ..) (.inl rfl)
 ·exact rL (slots ..) Ry
 ·refine rL (slots ..) (rL (slots ..) ?_);have h1:=on hi;have h2:=on hj;refine .inr λe=>Dq ?_;have e1:vars[i]? =some (vars[i]'(by lia)):=by simp
  have e2:vars[j]? =some (vars[j]'(by lia)):=by simp
  replace e:=e2▸ e1▸ e;simp only[Option.getD_some]at e;exact(List.getElem_inj ZS).mp e
 ·exact rL (slots ..) NH
 ·rcases hb with hb|hb
  ·exact hb▸ bn
  ·exact C.Ib b hb
 ·obtain⟨o,es,ep,e,hd⟩:=Dd FX;exact(AX (by refine rL (show(Gr sc s.heap.objs.size q a code vars).Cm.scope.kind= .function from hk) ?_;simp) ⟨_,o,rfl,bn,e,λvs z=>by replace z:=hd▸ z;cases z⟩ trivial)
end
theorem u7(EX:∀x∈vars,sc.names.lookup x=some .local){code:Value}:Aw (CP vars sc.names) sc.names (Gr sc L q a code vars):=by
 refine⟨λx i b hx=>Ax (T3 hx) λh1 h2=>?_,λx hx=>hx⟩;have hl:=EX x (Xc0 h1);have:b=false:=by refine rL h2 (rL hl ?_);rfl
 refine rL this ⟨hl,?_⟩;show EW L [] sc.names vars i=_;unfold EW;refine rL h1 ?_;dsimp only;refine rL (Xcm (by refine rL (hl ..) ?_;simp)) ?_;rfl
theorem u4{code:Value}:DB ((List.range nc).map (·+vars.length)) (Gr sc L q a code vars):=by intro i hi;refine AJ (Xdc.mp hi) λk _ BV=>?_;obtain rfl:=BV;show(EW L [] sc.names vars (k+vars.length)).at=L;unfold EW;refine rL (Xeb (by exact lin [vars.length,k] 233473 rfl)) ?_;rfl
theorem zf(L:env.scope.kind= .function)(ha:env.kindOf a=some .local)(V:env.kindOf b=some .local)(u:env.kindOf d=some .local)(e:(pb.line==pa.line)=true)(U:(pd.line==pa.line)=true)(j:(([a,b,d]).eraseDups.length !=3)=false)
  (Y:Av I=false) (T:Av n=false) (H:Av r=false) (t:([I,n,r].all (foldedForSure 8))=false) (y:([I,n,r].all (constantsAlone 8))=false):swappedStores [.Tuple [.Name a pa,.Name b pb,.Name d pd] tk tp] (.Tuple [I,n,r] vk vp) env=pure (some [a,b,d]):=
 eZ (by refine rL (Wr L) ?_;rfl) (by show(Av I||(Av n||(Av r||false)))=false;refine rL Y (rL T (rL H ?_));rfl) (by show[Eb env pa.line _,Eb env pa.line _,Eb env pa.line _]=_;refine rL (Nl ha (Xf3 _)) (rL (Nl V e) (rL (Nl u U) ?_));rfl) j t y
section
variable {c:Cx}(C:c.Ok){φ:Fm}{n:Nat}(O:AU φ n)
include C O
theorem eU(en:Aw Γ N φ)(B:Γ.lookup x=some (i,b))(S:AF c φ W σ M s.heap)(A:(σ.at i).on)(m:φ.np<=i)(r:σ.at t= .P o)(p:t≠i){Q:Unit->Shared->Prop}(k:∀h,B4 s h->Nx φ.F W s.heap W h.heap->AF c φ W ((σ.set t .O).set i (.N o)) (λj=>if j=i then M t else M j) h.heap->Q () h):wpAny (Mo c) φ.A (storeName φ.env x (.ref ((M t).headD 0))) Q E s:=by
 refine Vg C O en B S A λu v T I z=>k _ (AX rfl rfl rfl) (AH (Ch.sameBut T (S.sw i)) λU q=> .inl q) ?_;haveI H:=LV.IT A;have d:St.at (σ.set i .O) t= .P o:=by rw[Ca p];exact r
 have g:St.at (σ.set i .O) t≠.O:=by rw[d];simp
 haveI lt:=z.lv t;rw[d]at lt;have L:(St.at (σ.set i .O) t).Az:=by rw[d];exact trivial
 haveI P:=(z.drop t).NN (l:= .N o) (by rw[Xem,Xem];exact FL H) (by rw[F8 C O g,Xcm (Ne.symm p),F8 C O H,Xck rfl]) (M t) (AX I lt.1 lt.2) (λU j a f=>?_) λU=>?_
 ·haveI e:(σ.set t .O).set i (.N o)=((σ.set i .O).set t .O).set i (.N o):=by rw[show(σ.set i .O).set t .O=(σ.set t .O).set i .O from set_comm C O (Ne.symm p),Xhd]
  rw[e];exact P
 ·rw[F8 C O g]at f;by_cases e:j=t
  ·rw[Xck e]at f;exact f.elim
  ·rw[Xcm e,F8 C O H,Xcm a]at f;exact(AH (S.sa i j (Ne.symm a) A f) (S.sa j i a f A))
 ·refine(DR (λj=>z.so j t L) (λj a b V q=>?_) (z.Lo t L) (z.EO t L));rw[F8 C O g]at a;by_cases e:j=t
  ·rw[Xck e]at a;exact a.elim
  ·rw[Xcm e]at a;exact z.oo j t e a L b q V
end
theorem WR.wide{h:Heap}(W:WR c X w d md b S h):WR c (λa=>X a\/a=w\/a=d\/a=md) w d md b S h:=by
 refine AB λg=>Ay W.gd λv m pr D=>Bh W.gm λj s i t=>?_;have off:∀{a},¬X a->a≠w->a≠d->a≠md->¬(X a\/a=w\/a=d\/a=md):=λy n2 n3 n4 z=>z.elim y λz=>z.elim n2 λz=>z.elim n3 n4;haveI p:∀{a:Addr},h.get? a=some (dictOf [] 0)->a≠w:=λe q=>by rw[q,W.gw]at e;exact nomatch e
 refine g ⟨W.gw,(Cf v m pr ({D with x:=⟨off D.x.1 (p D.gn) D.nd D.nm,off D.x.2 (p D.gp) D.pd D.pm⟩})),(BS j s (λl k=>⟨(i l k).1,AB λg=>Aj ((i l k).2) λa r u q V=>g ?_⟩) t),W.ne,W.bd,W.bm,W.sy⟩;refine(DS a r u q ({V with na:=off V.na (λz=>?_) (λz=>?_) λz=>?_,nd:=off V.nd (Ne.symm (QB V.gd.ns W.gw)) V.dd V.dm}))
 ·exact V.dd (by have:=V.g;rw[z,W.gw]at this;exact nomatch this)
 ·refine Aj W.ME λo _ _ e f=>?_;rw[<-z,V.g]at e;cases e;cases f
 ·refine Aj W.N6 λo _ _ e f=>?_;rw[<-z,V.g]at e;cases e;cases f
section
variable {c:Cx}(C:c.Ok)(G:Co c)(HU:∃o,c.base.get? sysModules=some o)(BG:FI c){φ:Fm}{n:Nat}(O:AU φ (n+1)){N:List (Str×NameKind)}{Γ:CO}(en:Aw Γ N φ)
include C G HU BG O en
theorem Xbg{i j k t u:Nat}(ha:Γ.lookup a=some (i,false))(V:Γ.lookup b=some (j,false))(hd:Γ.lookup d=some (k,false))(hl:(pb.line==pa.line)=true)(Mh:(pd.line==pa.line)=true)(qZ:(([a,b,d]).eraseDups.length !=3)=false)
  (s1:Av I=false) (s2:Av B=false) (hW:N.lookup ("World":Str)=some .globalImplicit) (hf:([I,B,.Call (.Name "World" wp) [.Dict [] [] dp] [] cp].all (foldedForSure 8))=false) (hc:([I,B,.Call (.Name "World" wp) [.Dict [] [] dp] [] cp].all (constantsAlone 8))=false)
  (h1:Ac c φ (eval I φ.env) σ (.M (.list xs)) AA) (Tr:AA.at t= .O) (Ts:t<AA.length) (h2:Ac c φ (eval B φ.env) (AA.set t (.P (.list xs))) U f) (ht:f.at t= .P (.list xs)) (rY:f.at u= .O) (Zg:u<f.length)
  (V2:(f.at i).on) (x4:(f.at j).on) (x6:(f.at k).on) (cB:φ.np<=i) (cC:φ.np<=k) (vy:φ.np<=t) (vz:φ.np<=u) (ne:(i≠j/\i≠k/\i≠t/\i≠u)/\(j≠k/\j≠t/\j≠u)/\(k≠t/\k≠u)/\t≠u):
  BP c φ (exec (.Assign [.Tuple [.Name a pa,.Name b pb,.Name d pd] tk tp] (.Tuple [I,B,.Call (.Name "World" wp) [.Dict [] [] dp] [] cp] vk vp) pos) φ.env) σ .next
   ((((((f.set u (.P (.Z 0))).set u .O).set k (.N (.Z 0))).set j (.V U.fz)).set t .O).set i (.N (.list xs))):=by
 intro W M s E S;refine AB λkk=>FE ne λG9 Tw rl Ut=>?_;obtain⟨nij,nik,vc,bj⟩:=G9;obtain⟨njk,vd,bo⟩:=Tw;obtain⟨bp,bq⟩:=rl;refine kk (Xfx (Xht (Xc5 (NK C O h1 S λDC BL Xag D K1=>Xc5 (AB λkk=>?_) (Bn s2)) (Bn s1))) rfl (zf O.ek (JP C O en ha) (JP C O en V) (JP C O en hd) hl Mh qZ s1 s2 rfl hf hc));obtain⟨A,J8,pw,hO,q1,q2,q3,q4,q5⟩:=K1;refine kk ?_;rw[J8];haveI ST:AF c φ DC (AA.set t (.P (.list xs))) (λm=>if m=t then [A]else M m) BL.heap:=D.S.NN Ts Tr [A] (AH (λb V=>Xcc.mp V▸ pw) hO) (λz=>z.elim) λu0=>(DR (λm z=>q2 m (Xcc.mp z)) (λm hm b V z=>q1 m hm (Xcc.mp V▸ z)) (λz=>Xdb q3 (Xcc.mp z)) λb V=>Xcc.mp V▸ q4);refine one C O h2 ST λQ g v r Rf=>Xc5 (Hw C O en hW (G.gl ("World",.ref 800) (Ai 9)) (by decide) r.S.base rfl (Xc5 (Xgu (args_nil ⟨λb o e=>Xcf _ (r.S.base b o e),?_⟩)) rfl)) rfl;have p:=r.S;haveI k0:AS g.heap (g.heap.push (dictOf [] 0)):=λu0 u0 e=>Xcf _ e;haveI iF:=p.grown C O k0;have vi:¬Ex φ (Al Q g.heap) g.heap.objs.size:=λz=>AK (Ex.al C O p _ z) λo e=>absurd (Xdt e) (Xd2 _);have iT:∀b,Ex φ (Al Q g.heap) b->∃o,(g.heap.push (dictOf [] 0)).get? b=some o:=λb z=>AK (Ex.al C O p b z) λo e=>⟨o,k0 _ _ e⟩;have Ti:(g.heap.objs.size==sysModules)=false:=by refine AK HU λo e=>?_;haveI h2:=Xdt (p.base _ _ e);simp only[Xd8,ne_eq];exact λq=>Xd2 _ (Xdg h2 (Xcg q))
 refine Xa1 C G HU O.hand (by haveI:=O.depth;exact lin [φ.A.depth,n] 0x34edc1ba746be74879377a086475ec6381 rfl this) (by haveI:=O.units;exact lin [φ.A.units,n] 0x4227a8afc8187ff389869640000000001bc89d6495906381 rfl this) iF.base iT (Xcn _ rfl) vi Ti λw dd md x Y fw fd fm JQ WW=>?_;refine args_nil ⟨Xch rfl,?_⟩;have L:∀b∈[w,dd,md],g.heap.get? b=none:=λb V=>by
  haveI:(g.heap.push (dictOf [] 0)).get? b=none:=by
   simp only[Xcs,Xcu,Xe2]at V;rcases V with rfl|rfl|rfl
   ·exact fw
   ·exact fd
   ·exact fm
  exact Dn (λo e=>k0 _ _ e) this
 have kk:=k0.trans JQ;let y:Addr->Prop:=λb=>Al Q g.heap b\/b=w\/b=dd\/b=md;have Z4:∀b,y b->Q b\/g.heap.get? b=none:=λb z=>z.elim (λz=> .inl z.1) λz=> .inr (L b (by simpa using z));haveI Lp:=p.same C O (.keeps kk) Z4 (λi=> .inl ⟨p.sw i,p.al i⟩) (λj hj b V=> .inl ⟨p.Bc j hj b V,p.DM C j hj b V⟩) (.inl ⟨p.LW,let⟨m,o,_,_,e,_⟩:=p.LN;⟨o,e⟩⟩) λa ha=> .inl ⟨p.tW a ha,C.I8 p.gi a ha⟩;have Om:∀{b:Addr},(∃o,g.heap.get? b=some o)->b∉[w,dd,md]:=λ⟨o,e⟩V=>nG (L _ V) e;haveI wa3:c.wa (Ex φ y) x [w,dd,md] 0:=(BG _ _ _ _).mpr ⟨w,dd,md,rfl,WW.wide.wk (λb z=>by
  rcases z with z|z|z
  ·exact .inl (.inl z)
  ·exact .inl (.inr z)
  ·exact .inr z) λu0 z=>z⟩
 haveI iB:AF c φ y (f.set u (.P (.Z 0))) (λm=>if m=u then [w,dd,md]else if m=t then [A]else M m) x:=Lp.NN Zg rY [w,dd,md] ⟨λb V=> .inr (by simpa using V),wa3⟩ (λz=>z.elim) λu0=>⟨λm=>Om (p.al m),λm hm b V z=>Om (p.DM C m hm b z) V,Om (let⟨m,o,_,_,e,_⟩:=p.LN;⟨o,e⟩),λb V z=>Om (C.I8 p.gi b z) V⟩;let tup:Obj:={cls:= .type "tuple",data:= .seq [.ref A,v,.ref w].toArray};refine Xep O.hand (s:={g with heap:=x.push tup,toks:=Y}) (t:=x.objs.size) (items:=[.ref A,v,.ref w].toArray) ⟨_,Xcn _ rfl,rfl,0,rfl⟩ λh' hk=>?_;have keep:=λb o e=>hk b o (λq=>by haveI:=Xdt e;rw[q]at this;haveI e2:(x.push tup).objs.size=x.objs.size+1:=Xd0 _ _;haveI e3:=e2;rw[e3]at this;exact Xd2 _ (Xhv this)) (Xcf _ e)
 haveI SA:=iB.kept C O (.keeps keep);have cO:Nx φ.F Q g.heap y h':=⟨.keeps λb o e=>keep b o (kk b o e),Z4⟩;haveI RA:=Rf.nx O cO;haveI OU:∀{m:Nat},m≠u->St.at (f.set u (.P (.Z 0))) m=f.at m:=λhm=>Ca hm;refine Xcd (Xdj (HN C O (?_)));haveI rj:(Value.ref w)= .ref (((λm=>if m=u then [w,dd,md]else if m=t then [A]else M m) u).headD 0):=by simp
 rw[rj];refine eU C O en hd (s:={g with heap:=h',toks:=Y}) SA (by rw[OU bq];exact x6) cC (by rw[FN,Xck ⟨rfl,Zg⟩]) (Ne.symm bq) λLF zN T Ri=>?_;haveI H:∀{τ:St}{a b:Nat}{l:LV},l.on->(τ.at b).on->(St.at (τ.set a l) b).on:=λhx h=>Qa C O hx h;haveI x5:(St.at (((f.set u (.P (.Z 0))).set u .O).set k (.N (.Z 0))) j).on:=H trivial (by rw[Ca bo,OU bo];exact x4);refine Xcd (Xdj (HN C O (FA C O en V Ri x5 (RA.nx O T) λzi J=>?_)));haveI Rj:=J.S;haveI rU:St.at ((((f.set u (.P (.Z 0))).set u .O).set k (.N (.Z 0))).set j (.V U.fz)) t= .P (.list xs):=by rw[Ca (Ne.symm vd),Ca (Ne.symm bp),Ca Ut,OU Ut];exact ht
 haveI x3:(St.at ((((f.set u (.P (.Z 0))).set u .O).set k (.N (.Z 0))).set j (.V U.fz)) i).on:=H trivial (H trivial (by rw[Ca bj,OU bj];exact V2));refine Xcd (Xdj (HN C O (?_)));haveI pR:(Value.ref A)= .ref (((λm=>if m=k then(λm=>if m=u then [w,dd,md]else if m=t then [A]else M m) u else(λm=>if m=u then [w,dd,md]else if m=t then [A]else M m) m) t).headD 0):=by simp[Ne.symm bp,Ut]
 rw[pR];refine eU C O en ha Rj x3 cB rU (Ne.symm vc) λXb5 VR wQ Lq=>Xcp ⟨_,_,(((D.sm.trans r.sm).trans (.of)).trans zN).trans (J.sm.trans VR),(((D.nx.trans r.nx).trans cO).trans T).trans (J.nx.trans wQ),Lq,λm hm=>?_,rfl⟩;haveI h1:m≠i:=Xdb (Xdg hm cB);haveI h2:m≠k:=Xdb (Xdg hm cC);haveI h3:m≠t:=Xdb (Xdg hm vy);haveI h4:m≠u:=Xdb (Xdg hm vz);simp[h1,h2,h3,h4]
end
noncomputable def uQ:PE:= .call 40 [.list [.call 40 [.list [.str (Str.ofString "a"),.str (Str.ofString "b")],.list [],.none,.list [],.none]],.list [],.none,.list [],.none]
def MQ:List PS:=[
 .FV 4 (.B .Add (.int 1) (.B .Mult (.W 2) (.B .Add (.int 1) (.call 18 [.W 1,.int 2]))))
  [.SS 1 (.int 2) (.int 0),.X (.not (.call 31 [.W 1,.W 3,.call 21 [.W 1,.B .Add (.int 1) (.W 2),.bool false],.W 2])) [.ret (.bool false)] []],
 .G 5 uQ,
 .ret (.K .Eq (.call 28 [.W 3,.W 5,.list [.list [.int 1,.int 2]],.bool false]) (.T [.list [.T [.str (Str.ofString "a"),.int 1],.T [.str (Str.ofString "b"),.int 2]],.int 0]))]
noncomputable def UN:PE:= .call 17 [.W 0]
noncomputable def UO:PE:= .F .toInt (.K .Gt (.F .L (.W 0)) (.int 1))
noncomputable def Er:List Str:=["script","box","large","world","turn","lone"]
noncomputable def Pu(x:Val):Int:=match x with
 | .list a=>if(a.length:Int)>1 then 1 else 0
 |_=>0
def Pw(x:Val)(bx:List Val):St:=[.V x,.N (.list bx),.V (.int (Pu x)),.N (.Z 0),.U,.U]++List.replicate 9 .O
def US(m fuel:Nat)(x:Val):Prop:=∃d y a,callF m 17 [.V x]=some (.M (.list d),[.V y])/\Bv (callF m) 1 fuel MQ (Pw x d)=some (.ret (.V (.bool true)),a)
noncomputable def CD:=(CT Qt "" "law").get (by kernel_rfl)
def az:List Stmt->List Pos×List Nat
 | .Assign [t] (.Tuple [_,_,c] k p) q::_=>((H6 9 t).1++((H6 9 c).1++[p,q]),(H6 9 t).2++[k])
 |_=>([],[])
noncomputable def tx:List Stmt->List PySem.Expr
 | .Assign _ (.Tuple [a,b,_] _ _) _::_=>[a,b]
 |_=>[]
def Ds(i:Nat):Pos:=(az CD.2.1).1.getD i default
def Pt(i:Nat):Nat:=(az CD.2.1).2.getD i 0
def Pq(i:Nat):PySem.Expr:=(tx CD.2.1).getD i (.List [] default)
theorem tu:CT Qt "" "law"=some (CD.1,.Assign [.Tuple [.Name "box" (Ds 0),.Name "large" (Ds 1),.Name "world" (Ds 2)] (Pt 0) (Ds 3)] (.Tuple [Pq 0,Pq 1,.Call (.Name "World" (Ds 4)) [.Dict [] [] (Ds 5)] [] (Ds 6)] (Pt 1) (Ds 7)) (Ds 8)::CD.2.1.tail,CD.2.2):=by kernel_rfl
theorem My:(Eo CD.1 CD.2.2 ["script"],Er.all λx=>CD.2.2.names.lookup x==some .local,Ag EA false CD.2.2.names (CP Er CD.2.2.names) [] UN (Pq 0),Ag EA false CD.2.2.names (CP Er CD.2.2.names) [] UO (Pq 1),EH EA false CD.2.2.names (CP Er CD.2.2.names) ((List.range 9).map (·+6)) MQ CD.2.1.tail)=(true,true,true,true,true):=by kernel_rfl
theorem AU.le(O:AU φ n)(h:k<=n):AU φ k:=
 ⟨O.hand,by have:=O.depth;exact lin [φ.A.depth,k,n] 0x4f64a299f8bf308a218cfc6c2f8e4e3a381 rfl h this,by have:=O.units;exact lin [φ.A.units,k,n] 0x633b7d07fa8a14934438c4500000000005299b26e49292381 rfl h this,O.frames,O.fL,O.fk,O.eL,O.ek,O.eg,O.eb,O.FM⟩
theorem u5(h:Φ 17 [.V x]=some (r,[l])):ev Φ 1 UN false (GD x 5 9)=some (r,GD x 5 9):=
 fA (g:=El Φ 17) rfl (by
  unfold El;refine rL (Xck ⟨Xih,rfl⟩) ?_;show(match Φ 17 [.V x]with|some (r,i)=>if DZ [.V x] i=true then some (r,Bk (GD x 5 9) [.V x] i)else none|none=>none)=_;refine rL h ?_;rfl)
theorem sQ{p:Prop}[Decidable p]{a b:Int}:(if decide p=true then a else b)=if p then a else b:=by by_cases h:p<;>simp[h]
theorem u6:ev Φ 1 UO false ((GD (.list xs) 5 9).set 6 (.P (.list bx)))=some (.V (.int (Pu (.list xs))),(GD (.list xs) 5 9).set 6 (.P (.list bx))):=congrArg (λi:Int=>some (RV.V (.int i),(GD (.list xs) 5 9).set 6 (.P (.list bx)))) sQ
section
variable {c:Cx}(C:c.Ok)(G:Co c)(HU:∃o,c.base.get? sysModules=some o)(BG:FI c)(AM:c.fl=Cc)(As:∀m,DU c (callF m) m BN)
include C G HU BG AM As
theorem uC(st:AS c.base s.heap)(hsz:c.base.objs.size<=s.heap.objs.size)(Fc:∀a,c.tb a->∃o,s.heap.get? a=some o)(Ka:∀(M:Addr->Prop)(h':Heap),AS s.heap h'->c.gi M h')(hv:AZ (c.prog,c.w) c.fl c.tb s.heap (.list xs) v)(hm:m<=59)
  (Tg:US m fuel (.list xs)) (hQ:∀s' M,B4 s s'->AS c.base s'.heap->c.gi M s'.heap->Q (.bool true) s'):wpAny (Mo c) callerA (call (.ref 898) [v]) Q E s:=by
 refine AB λkk=>Aj (G.fn ⟨898,"","law",none⟩ (Ai 32)) λps body sc E5 G8=>?_;cases E5.symm.trans tu;refine kk ?_;have hh:Eo CD.1 CD.2.2 ["script"]=true:=congrArg (·.1) My
 have EX:=Xce.mp (congrArg (·.2.1) My)
 have EX:=λx hx=>Xej.mp (EX x hx);have q0:CD.2.2.names.lookup ("World":Str)=some .globalImplicit:=by kernel_rfl
 have c1:=congrArg (·.2.2.1) My
 have c2:=congrArg (·.2.2.2.1) My
 have Zb:=congrArg (·.2.2.2.2) My
 dsimp only at c1 c2 Zb
 ·refine Bf (F1 hh) λBa _ _=>AB λkk=>Aj Tg λbx y σe TF rJ=>kk ?_;refine KK C st G8 (by decide) (binds:=[(("script":Str),v)]) Ba (Fy hh (.inl (AX rfl rfl rfl))) λcode h' E' Cs Nf=>?_;have hq:(Dk.qual ⟨898,"","law",none⟩)="law":=by kernel_rfl
  refine rL hq ?_;have hY:AU (Gr CD.2.2 s.heap.objs.size "law" 898 code Er) 60:=u2 Ba.kind;have O:AU (Gr CD.2.2 s.heap.objs.size "law" 898 code Er) (m+1):=hY.le (lin [m] 12140725162777768065 rfl hm);have en:Aw (CP Er CD.2.2.names) CD.2.2.names (Gr CD.2.2 s.heap.objs.size "law" 898 code Er):=u7 EX;have du:DB ((List.range 9).map (·+6)) (Gr CD.2.2 s.heap.objs.size "law" 898 code Er):=u4 (vars:=Er)
  have S:=u9 C st hsz Fc Ka Ba.kind (by decide+kernel) EX (q:="law") (a:=898) (code:=code) Cs Nf (by rfl) (show _=some v from rfl) hv 5 9 (by rfl);have gl:=KU G.toFG;have me:=Kq C G BG;have gm:∀(i:Nat)(y:Str),Er[i]? =some y->(CP Er CD.2.2.names).lookup y=some (i,false):=λi y hy=>by
   have hl:=EX y (Xc0 hy);have hm:(y,(i,false))∈CP Er CD.2.2.names:=by unfold CP;refine Xdc.mpr (AG (y,i) (Xg3.mpr hy) (rL hl ?_));rfl
   cases e:(CP Er CD.2.2.names).lookup y with
   |none=>
    rw[List.lookup_eq_none_iff]at e;have:=e _ hm;simp at this
   |some z=>
    refine AB λkk=>?_;obtain⟨j,b⟩:=z;refine Ax (T3 e) λh1 h2=>kk ?_;rw[hl]at h2;have:=(List.getElem?_inj (Xc8.mp h1).1 (by decide+kernel)).mp (h1.trans hy.symm);refine rL this (rL h2 ?_);rfl
  have X1:=Xbg C G HU BG O en (u:=7)
   (pa:=Ds 0) (pb:=Ds 1) (pd:=Ds 2) (tp:=Ds 3) (tk:=Pt 0) (vk:=Pt 1) (vp:=Ds 7) (pos:=Ds 8) (wp:=Ds 4) (cp:=Ds 6) (dp:=Ds 5)
   (gm 1 _ (by rfl)) (gm 2 _ (by rfl)) (gm 3 _ (by rfl)) (by kernel_rfl) (by kernel_rfl) (by kernel_rfl) (by kernel_rfl) (by kernel_rfl) q0 (by kernel_rfl) (by kernel_rfl)
   ((AY C AM.symm gl (As m) me UN O en (λi hi=>by cases hi) (λh=>fT h) c1 (u5 TF)).1 rfl) rfl (Xch rfl)
   ((AY C AM.symm gl (As m) me UO O en (λi hi=>by cases hi) (λh=>fT h) c2 u6).1 rfl) rfl rfl (Xch rfl) (by trivial) (by trivial) (by trivial) (by show 1<=1;exact lin [] 5505473 rfl) (by show 1<=3;exact lin [] 14942657 rfl) (by show 1<=6;exact lin [] 29098433 rfl) (by show 1<=7;exact lin [] 33817025 rfl) (by decide)
  have X2:=Gd C AM.symm gl (As m) me MQ O en du (λh=>fT h) Zb rJ;have X:=Jq C O en X1 (λu0=>X2) λr q=>cP q;refine Xcv (X _ _ _ _ S) (λf s' p=>AB λkk=>B8 p λW' E4 Ap=>?_) λu0 u0 x=>x;obtain⟨sm,nx,S',_,fl⟩:=Ap;refine AJ fl λu BV R=>?_;obtain rfl:=BV;obtain rfl:=R;exact kk (hQ s' _ (AX sm.1 sm.2.1 sm.2.2) S'.base S'.gi)
end
theorem aH:∀{vs:List Value}{T:List Int},WellAll f h vs (T.map .int)->∀P a M,AO P a M h (T.map .int) vs
 |vs,[],r,P,a,M=>by cases r;rfl
 |vs,z::T,r,P,a,M=>by
  replace r:=Xde▸ r;cases r with
  |cons Y V=>
   cases Y with
   |int i t=>
    exact Ij.mk _ _ rfl (Exists.intro t rfl) (aH V P a M)
theorem Xax{f:Params}{h:Heap}{n:List Value}{xs:List WData}(w:WellAll f h n [.list xs]):∃a vs,n=[.ref a]/\h.get? a=some {cls:= .type "list",data:= .seq (List.toArray vs)}/\WellAll f h vs xs:=by
 cases w with
 |cons Y V=>
  cases V;cases Y with
  |list D k=>exact(CN _ _ rfl D k)
set_option tactic.hygienic true in
theorem wV(plain:∃m fuel,m<=59/\∀zs:List Int,zs.length<=63->US m fuel (.list (zs.map .int))):PySem.Challenge.rw_nz0050_01.Holds:=by
 refine wX ?_;intro w s0 s1 mg mb G Y fa o pm cd doc dV kV ho hd IB hD PU hg args vals as Tn qr rG Zi hlo;refine AJ Y λK X ob=>?_;haveI ZC:(MC K&&Oc (G3 K))=true:=congrArg (·.1) ob
 have hc:=al ZC;let c:=JZ QF.prog w K mg mb s1.heap;have C:c.Ok:=wc X hc G.T;have GW:Co c:=wW X ob;haveI TG:OH c:=wj X hc G.T;haveI gs:=GW.blt ("sorted",.builtin "sorted") (by first|decide|simp[HO]);haveI SA:=zV C TG gs;haveI WA:FI c:=wm;haveI GX:Fv c:=oM (ar (al hc)) (ar ZC);haveI As:=jf C GW rfl SA WA (pB C GW GX rfl WA SA);haveI Tg:UP.name="law":=by kernel_rfl
 haveI qe:fa=898:=by
  replace PU:=Tg▸ PU;rcases GW.gl ("law",.ref 898) (Ai 42)with⟨e,_⟩|⟨e,hv,_⟩
  ·haveI:=mg_of C.BE C.tg e;replace this:=PU▸ (show c.mg=mg from rfl)▸ this;exact Value.ref.inj (Xcl this)
  ·haveI:bootBuiltins "law"=none:=by decide+kernel
   replace hv:=this▸ (show(("law",.ref 898):Str×Value).1="law" from rfl)▸ hv;exact nS hv
 clear ho PU;subst qe;haveI hp:=Xdn.mp Tn;refine Ax hp λPV ZV=>?_;obtain⟨zs,ez,hz⟩:∃zs:List Int,args=[.list (zs.map .int)]/\zs.length<=63:=by
  clear Tn qr rG Zi;cases args with
  |nil=>exact fT PV
  |cons d rest=>
   cases rest with
   |cons _ _=>exact fT (ar PV)
   |nil=>
    refine AJ (hasW_list (al PV)) λys BV hi=>?_;obtain rfl:=BV;refine AK (items_int hi) λzs BV=>?_;obtain rfl:=BV;refine(AG zs rfl ?_);haveI rC:WTm.holds QF.records (.and (.not (.lt (.lit (.int 63)) (.len (.arg 0)))) (.lit (.bool true))) {args:=[.list (zs.map .int)]}=true:=ZV;haveI:=Xgg (Aq ((holdsW_of_value rfl).symm.trans (holds_andW rC).1));rw[EN]at this
    lia
 clear Tn PV ZV;subst ez;refine GN (Xax Zi) λa vs BV g1 g4=>?_;obtain rfl:=BV;refine Ce plain λm fuel hm pl=>?_;haveI hsz:c.base.objs.size<=s1.heap.objs.size:=Xcg (hideAll_size _ _);have c3:=ar hc;have tab:∀Pa∈CV,s1.heap.get? Pa=some (tabObj #[]):=λPa pX=>QT X c3 pX;have Fc:∀b,c.tb b->b∈CV:=λb hb=>by rcases hb with rfl|rfl<;>simp[CV]
 haveI Ka:∀(M:Addr->Prop)(h':Heap),AS s1.heap h'->c.gi M h':=λM h' st x hx=>by
  refine(AG (#[]) (st _ _ (tab _ ?_)) .nil);simp only[FC,Xcs,Xcu,Xe2]at hx;rcases hx with rfl|rfl<;>simp[CV]
 haveI hv:AZ (c.prog,c.w) c.fl c.tb s1.heap (.list (zs.map .int)) (.ref a):=by
  refine OA.mk a vs 0 rfl (λz=>?_) g1 (by simp;exact lin [zs.length] 0x13fc8090000000000895447801 rfl hz) (aH g4 _ _ _);replace g1:=(tab _ (Fc _ z))▸ g1;cases g1
 refine uC C GW (wi X hc) WA rfl As (Wi s1.heap) hsz (λb hb=>(AN _ (tab b (Fc b hb)))) Ka hv hm (pl zs hz) λs' M sm Nf PG=>?_;have grown:∀b∈CV,∃ps,s'.heap.get? b=some (tabObj ps):=λb hb=>by
  simp only[CV,Xcs,Xcu,Xe2]at hb;rcases hb with rfl|rfl
  ·exact AJ (PG (881,880,878,"_law_due") (.head _)) λps e _=>(AN ps e)
  ·exact AJ (PG (876,875,873,"_law_bound") (by first|decide|simp[FC])) λps e _=>(AN ps e)
 haveI qX:∀b∈CV,∃cc,CodeHd s1.heap cc b:=λb hb=>by
  simp only[CV,Xcs,Xcu,Xe2]at hb;rcases hb with rfl|rfl
  ·exact(AN 880 ((SX X (ar (al (al (al (al c3)))))).1))
  ·exact(AN 875 ((SX X (ar (al (al (al c3))))).1))
 haveI rE:QF.claim.post [.list (zs.map .int)] (.bool true) [.list (zs.map .int)]=true:=by first|rfl|kernel_rfl! |simp[WShape.has,WShape.arms,WTm.holds,WTm.value,same]
 refine(DR (.inl ⟨.bool true,.bool true,[],rfl,λu0=>rfl,.bool true,rE,λu0=>⟨.nil,λb hb=>by cases hb⟩⟩) ⟨λb o e=>?_,λb o e=>?_⟩ sm.2.2 (.of_eq (sm.1.trans hg)))
 ·by_cases hb:b∈CV
  ·replace e:=(tab b hb)▸ e;cases e;exact AK (grown b hb) λps gp=> .inr (.inl (AX (((qX b hb).choose_spec.tab (tab b hb)).isCodeTable) rfl (Di (#[]) ps rfl (rL gp (rL Array.empty_append rfl)))))
  ·exact .inl (Nf _ _ (GV e hb))
 ·by_cases hb:b∈CV
  ·exact AK (grown b hb) λps gp=>(AN _ gp)
  ·exact(AN _ (Nf _ _ (GV e hb)))
set_option genCtorIdx false in
inductive Spot where
 |Y (n:Nat)
 |GG (req:List Spot)(rest:Option (Option Nat))(post:List Spot)
structure AI where
 req:List Spot
 opt:List Nat
 rest:Option (Option Nat)
 post:List Spot
 block:Option Nat
def B6(n:Nat):Str:="v"++Ak n
def IY:Option (Option Nat)->Val
 |none=> .none
 |some none=> .str ""
 |some (some n)=> .str (B6 n)
def Uj:Option Nat->Val
 |none=> .none
 |some n=> .str (B6 n)
mutual
noncomputable def Spot.val:Spot->Val
 | .Y n=> .str (B6 n)
 | .GG r a p=> .I 49 [.list (Spot.vals r),.list [],IY a,.list (Spot.vals p),.none]
noncomputable def Spot.vals:List Spot->List Val
 | []=>[]
 |s::ss=>s.val::Spot.vals ss
end
def BK(n:Nat):Val:= .T [.str (B6 n),.none]
def AI.val(l:AI):Val:= .I 49 [.list (Spot.vals l.req),.list (l.opt.map BK),IY l.rest,.list (Spot.vals l.post),Uj l.block]
noncomputable def BY:Option (Option Nat)->List Nat
 |some (some n)=>[n]
 |_=>[]
noncomputable def CL:Option Nat->List Nat
 |some n=>[n]
 |none=>[]
mutual
noncomputable def Spot.names:Spot->List Nat
 | .Y n=>[n]
 | .GG r a p=>Spot.AQ r++BY a++Spot.AQ p
noncomputable def Spot.AQ:List Spot->List Nat
 | []=>[]
 |s::ss=>s.names++Spot.AQ ss
end
def AI.names(l:AI):List Nat:=Spot.AQ l.req++l.opt++BY l.rest++Spot.AQ l.post++CL l.block
theorem Jo:∀ss:List Spot,Spot.vals ss=ss.map Spot.val
 | []=>rfl
 |s::ss=>congrArg (s.val::·) (Jo ss)
theorem D0(ss:List Spot):(Spot.vals ss).length=ss.length:=rL (Jo ..) (rL (EN ..) rfl)
theorem ve:((List.range 100).all λi=>(List.range 100).all λj=>i==j|| !(B6 i==B6 j))=true:=by decide+kernel
theorem bu(a:i<100)(G:j<100)(h:B6 i=B6 j):i=j:=by have:=Xce.mp (Xce.mp ve i (Xe7.mpr a)) j (Xe7.mpr G);rw[h]at this;simpa using this
noncomputable def NQ:Option (Option Nat)->Nat->Option Nat
 |none,k=>some k
 |some _,_=>none
def AI.counts(l:AI):Nat×Option Nat:=(l.req.length+l.post.length,NQ l.rest (l.req.length+l.post.length+l.opt.length))
theorem UU(l:AI):G0 l.val=some l.counts:=by
 obtain⟨r,o,E,p,b⟩:=l;unfold AI.counts;rw[<-D0 r,<-D0 p,<-EN (as:=o)];rcases E with _|_|n<;>exact rfl
def DP(a b:Str):Bool:=L8 a b&&a !=b
theorem Je:DP a b=true ↔ a.cps.toList<b.cps.toList:=by
 unfold DP L8;simp only[Xd5,Xfv,decide_eq_false_iff_not,Xez]
 constructor
 ·rintro⟨Y,T⟩;by_cases h:a.cps.toList<b.cps.toList
  ·exact h
  ·have e:=List.le_antisymm (Xio.mp Y) (Xio.mp h);exact absurd (by cases a;cases b;simp only at e;congr 1;exact Xgv.mp e) T
 ·intro h;exact⟨λq=>List.lt_asymm h q,λq=>by subst q;exact List.lt_irrefl _ h⟩
theorem dh(Y:DP a b=true)(T:DP b c=true):DP a c=true:=Je.mpr (List.lt_trans (Je.mp Y) (Je.mp T))
theorem dc(Y:DP a b=true):DP b a=false:=by
 cases h:DP b a with
 |false=>rfl
 |true=>exact absurd (Je.mp h) (List.lt_asymm (Je.mp Y))
theorem dg{a b:Str}(h:a≠b)(Y:DP a b=false):DP b a=true:=by
 have n:¬a.cps.toList<b.cps.toList:=λq=>by rw[Je.mpr q]at Y;exact tF Y
 refine Je.mpr ?_;by_cases q:b.cps.toList<a.cps.toList
 ·exact q
 ·have e:=List.le_antisymm (Xio.mp q) (Xio.mp n);exact absurd (by clear h Y n q;cases a;cases b;simp only at e;congr 1;exact Xgv.mp e) h
theorem F5{m:Type}{k G:Str}{x C:m}{r:List (Str×m)}:CB k x ((G,C)::r)=if DP k G then(k,x)::(G,C)::r else(G,C)::CB k x r:=rfl
theorem Zy{m:Type}{k G:Str}{x C:m}(h:k≠G):∀l:List (Str×m),CB k x (CB G C l)=CB G C (CB k x l)
 | []=>by
  show CB k x [(G,C)]=CB G C [(k,x)];refine rL F5 (rL F5 ?_);cases Y:DP k G with
  |true=>refine rL (Xck rfl) (rL (dc Y) ?_);rfl
  |false=>refine rL (dg h Y) ?_;rfl
 | (y,z)::r=>by
  refine rL F5 (rL F5 ?_);cases Y:DP G y with
  |true=>
   cases T:DP k y with
   |true=>
    simp only[Xf2];refine rL F5 (rL F5 ?_);cases H:DP k G with
    |true=>simp[dc H,F5,Y]
    |false=>simp[dg h H,F5,T]
   |false=>
    simp only[Xf2,Xdu,if_false];have H:DP k G=false:=by
     cases q:DP k G with
     |false=>rfl
     |true=>rw[dh q Y]at T;exact tF T
    simp[F5,H,T,Y]
  |false=>
   cases T:DP k y with
   |true=>
    simp only[Xf2,Xdu,if_false];have H:DP G k=false:=by
     cases q:DP G k with
     |false=>rfl
     |true=>rw[dh q T]at Y;exact tF Y
    simp[F5,H,T,Y]
   |false=>
    simp only[Xdu,if_false];refine rL F5 (rL F5 (rL Y (rL T ?_)));simp only[Xdu,if_false];exact rL (Zy h r) rfl
theorem zQ{m:Type}{ps j:List (Str×m)}(h:ps.Perm j)(nd:(ps.map (·.1)).Nodup):Cy ps=Cy j:=by
 unfold Cy;have b:∀{ps j:List (Str×m)},ps.Perm j->(ps.map (·.1)).Nodup->∀v,ps.foldl (λv p=>CB p.1 p.2 v) v=j.foldl (λv p=>CB p.1 p.2 v) v:=by
  intro ps j h;induction h with
  |nil=>intro _ _;rfl
  |cons p _ Q=>intro nd v;exact Q (Xc6.mp nd).2 _
  |swap p q l=>
   intro nd v;have H:p.1≠q.1:=λe=>(Xc6.mp nd).1 (by simp[e]);show l.foldl _ (CB p.1 p.2 (CB q.1 q.2 v))=l.foldl _ (CB q.1 q.2 (CB p.1 p.2 v));exact rL (Zy H ..) rfl
  |trans Y _ i a=>intro nd v;exact(i nd v).trans (a ((Y.map _).nodup nd) v)
 exact b h nd []
theorem N2{n:Nat}(l:AI):callF (n+1) 0 [.V l.val]=some (.V (.int l.counts.1),[.V l.val]):=by have:= @bB n (Spot.vals l.req) (l.opt.map BK) (IY l.rest) (Uj l.block) (Spot.vals l.post);rw[D0,D0]at this;exact this
theorem Py{n:Nat}(l:AI):callF (n+2) 1 [.V l.val]=some (.V (C8 l.counts.2),[.V l.val]):=bU (UU l)
def AI.small(l:AI):Prop:=l.req.length+l.post.length+l.opt.length<900
theorem N0{l:AI}(h:l.small):l.counts.1<1000:=by unfold AI.small at h;show l.req.length+l.post.length<1000;exact lin [l.req.length,l.post.length,l.opt.length] 0x8050208de1bd6af6f410c8f04381 rfl h
theorem N1{l:AI}(h:l.small):∀k,l.counts.2=some k->k<1000:=λk e=>by
 unfold AI.small at h;have e:NQ l.rest (l.req.length+l.post.length+l.opt.length)=some k:=e;cases a:l.rest with
 |none=>replace e:=a▸ e;haveI e:=sS (show some (l.req.length+l.post.length+l.opt.length)=some k from e);exact lin [k,l.req.length,l.post.length,l.opt.length] 0x45c28b11b83c63aeaa2c0051f88eb03f081 rfl h (Xcg e.symm)
 |some _=>rw[a]at e;exact nS e
theorem mO{n:Nat}{l:AI}(h:l.small):callF (n+3) 4 [.V l.val]=some (.V (.str (CA l.counts)),[.V l.val]):=qC [aC (@N2 (n+1) l),aC (@Py n l),aC (@Wv (n+1) l.counts.1 l.counts.2 (N0 h) (N1 h))]
theorem Mz{n:Nat}(l:AI):callF (n+1) 22 [.V l.val]=some (.V (.T [.int l.counts.1,C8 l.counts.2]),[.V l.val]):=by
 obtain⟨r,o,E,p,b⟩:=l;have N:=D0 r;have A:=D0 p;have z:=EN (f:=BK) (as:=o);unfold AI.counts AI.val;dsimp only;refine rR N (rR A (rR z ?_));rcases E with _|_|k<;>exact qC []
noncomputable def AI.more(l:AI)(st:Bool):Bool:=l.rest.isSome||(st&&decide (0<l.opt.length))
def AI.arity(l:AI)(st:Bool):Int:=if l.more st then -(l.counts.1) - 1 else l.counts.1
theorem ij{n:Nat}(l:AI)(st:Bool):callF (n+3) 6 [.V l.val,.V (.bool st)]=some (.V (.int (l.arity st)),[.V l.val,.V (.bool st)]):=by
 have Q:= @N2 (n+1) l;have Y:= @Py n l;have y:l.counts.2=NQ l.rest (l.counts.1+l.opt.length):=rfl;replace Y:=y▸ Y;unfold AI.arity AI.more;generalize l.rest=E at Y ⊢;cases E with
 |none=>
  have U:B7 .Gt (.int (l.counts.1+l.opt.length)) (.int l.counts.1)=some (.bool (decide (0<l.opt.length))):=
   congrArg (λb=>some (Val.bool b)) (decide_eq_decide.mpr (by omega))
  generalize decide (0<l.opt.length)=b at U ⊢;cases st
  ·exact qC [aC Q,aC Y]
  ·cases b<;>exact qC [aC Q,aC Y,aM U]
 |some E=>cases st<;>exact qC [aC Q,aC Y]
theorem xy{n k:Nat}(l:AI)(st:Bool):callF (n+1) 14 [.N (.Z k),.V (Hg l.val st),.V (.list [])]=some (.V (.bool st),[.N (.Z k),.V (Hg l.val st),.V (.list [])]):=qC []
section
variable {Φ:BZ}{np fuel:Nat}
theorem mF(h:Ae Φ np fuel s σ=some (.next,AA)):Bv Φ np fuel (s::ss) σ=Bv Φ np fuel ss AA:=
 fX h rfl
theorem mG(h:Ae Φ np fuel s σ=some (.ret r,AA)):Bv Φ np fuel (s::ss) σ=some (.ret r,AA):=
 Xy h
theorem Ot{step:Val->St->Option (FR×St)}(I:Nat->St->Prop):∀xs k,(∀i c σ,I (k+i) σ->∃A0,step xs[i] σ=some (.next,A0)/\I (k+i+1) A0)->∀σ,I k σ->∃A0,Em step xs σ=some (.next,A0)/\I (k+xs.length) A0
 | [],k,_,σ,Q=>(AG σ rfl Q)
 |x::xs,k,h,σ,Q=>by
  refine AB λJ=>AJ (h 0 (Nat.zero_lt_succ _) σ Q) λB N Y=>?_;obtain⟨a,A,T⟩:=Ot I xs (k+1) (λi c σ O=>by refine AJ (h (i+1) (Nat.succ_lt_succ c) σ (by refine rL (show k+(i+1)=k+1+i by exact Xdl (lin [k,i] 0x39aba703288f16081 rfl) (lin [k,i] 0x87d1e9d4c17a381 rfl)) ?_;exact O)) λA0 e b=>?_;exact(AG A0 e (by refine rL (show k+1+i+1=k+(i+1)+1 by exact Xdl (lin [k,i] 0xaa4e59c8f14da0e488dd581 rfl) (lin [k,i] 0xabd00ba75dd99f7b5a84381 rfl)) ?_;exact b))) B Y
  refine J (AG a ?_ (by refine rL Xd4 (rL (show k+(xs.length+1)=k+1+xs.length by exact Xdl (lin [k,xs.length] 0x39aba703288f16081 rfl) (lin [k,xs.length] 0x87d1e9d4c17a381 rfl)) ?_);exact T));haveI N:step x σ=some (.next,B):=N;exact(lH N).trans A
theorem Sn{step:Val->St->Option (Option Val×St)}(I:List Val->St->Prop):∀xs acc,(∀i b ys σ,ys.length=acc.length+i->I ys σ->∃y A0,step xs[i] σ=some (some y,A0)/\I (ys++[y]) A0)->∀σ,I acc σ->∃ys A0,DJ step xs σ=some (ys,A0)/\I (acc++ys) A0/\ys.length=xs.length
 | [],acc,_,σ,Q=>(CN [] σ rfl (rL (Xcz ..) Q) rfl)
 |x::xs,acc,h,σ,Q=>by refine AB λJ=>Ce (h 0 (Nat.zero_lt_succ _) acc σ rfl Q) λy B N Y=>J (GN (Sn I xs (acc++[y]) (λi b ys σ c O=>h (i+1) (Nat.succ_lt_succ b) ys σ (by refine rL c (rL Xci (rL Xdp ?_));exact Xdl (lin [acc.length,i] 0x87d1e9d4c17a381 rfl) (lin [acc.length,i] 0x39aba703288f16081 rfl)) O) B Y) λys a A T l=>?_);refine(CN (y::ys) a ?_ (by rw[Xc7]at T;exact T) (rL Xd4 (rL Xd4 (rL l rfl))));haveI N:=N;exact Sm N A
theorem JA(I:Nat->St->Prop)(Y:ev Φ np it false σ=some (r,AA))(T:Ed r.fz=some xs)(Q:I 0 AA)
  (c:∀i b σ,I i σ->Bb np k (σ.at k)=true/\∃A0,Bv Φ np fuel body (σ.set k (.V xs[i]))=some (.next,A0)/\I (i+1) A0):∃A0,Ae Φ np fuel (.FF k it body) σ=some (.next,A0)/\I xs.length A0:=by
 obtain⟨A0,e,O⟩:=Ot (step:=Jj np (λσ=>Bv Φ np fuel body σ) k) I xs 0 (λi b σ O=>by rw[Xd3]at O ⊢;refine AB λJ=>Ax (c i b σ O) λy w=>AJ w λA0 e a=>J ?_;exact(AG A0 (by unfold Jj;exact rL (Xck y) e) a)) AA Q
 rw[Xd3]at O;exact(AG A0 (fR Y (fI T e)) O)
theorem T7{m:Nat}(I:Nat->St->Prop)(Y:ev Φ np it false σ=some (r,AA))(T:r.fz= .int (m:Int))(D:m<=100000)(Q:I 0 AA)
  (d:∀i(b:i<m)σ,I i σ->Bb np k (σ.at k)=true/\∃A0,Bv Φ np fuel body (σ.set k (.V (.int (i:Int))))=some (.next,A0)/\I (i+1) A0):∃A0,Ae Φ np fuel (.FV k it body) σ=some (.next,A0)/\I m A0:=by
 have c:(DO m).length=m:=by unfold DO;simp
 obtain⟨A0,e,O⟩:=Ot (step:=Jj np (λσ=>Bv Φ np fuel body σ) k) I (DO m) 0 (λi b σ O=>by
  rw[Xd3]at O ⊢;refine AB λJ=>Ax (d i (lin [i,m,(DO ↑m).length] 0x7355e6fbf0f06ac203f081 rfl (Xcg c) b) σ O) λy w=>AJ w λA0 e a=>J ?_;haveI B:(DO m)[i]= .int i:=by unfold DO;simp
  exact(AG A0 (by refine rL B ?_;unfold Jj;exact rL (Xck y) e) a)) AA Q
 rw[Xd3,c]at O;exact(AG A0 (fR Y (fV T ((Xck (by lia)).trans e))) O)
theorem YW{ps:List (Val×Val)}(I:Nat->St->Prop)(L:k₁≠k₂)(Y:ev Φ np it false σ=some (r,AA))(T:Ed r.fz=some (ps.map λp=> .T [p.1,p.2]))(Q:I 0 AA)
  (c:∀i b σ,I i σ->Bb np k₁ (σ.at k₁)=true/\Bb np k₂ (σ.at k₂)=true/\∃A0,Bv Φ np fuel body ((σ.set k₁ (.V ps[i].1)).set k₂ (.V ps[i].2))=some (.next,A0)/\I (i+1) A0):∃A0,Ae Φ np fuel (.Gf k₁ k₂ it body) σ=some (.next,A0)/\I ps.length A0:=by
 obtain⟨A0,e,O⟩:=Ot (step:=Ve np (λσ=>Bv Φ np fuel body σ) k₁ k₂) I (ps.map λp=> .T [p.1,p.2]) 0 (λi b σ O=>by rw[Xd3]at O ⊢;rw[EN]at b;refine AB λJ=>Bf (c i b σ O) λy f w=>AJ w λA0 e a=>J ?_;exact(AG A0 (rL (Xei ..) ((Xck (by refine rL y (rL f ?_);rfl)).trans e)) a)) AA Q
 rw[Xd3,EN]at O;exact(AG A0 (fR Y (fI T ((Xcm L).trans e))) O)
theorem dZ{step:Val->St->Option (Option Val×St)}(I:List Val->St->Prop)(c:Gp (σ.at k)=true)(L:k<σ.length)(B:xs.length<=1000000)(Q:I [] (σ.set k .U))
  (f:∀i b ys σ,ys.length=i->I ys σ->∃y A0,step xs[i] σ=some (some y,A0)/\I (ys++[y]) A0) (d:∀ys σ,I ys σ->EB (σ.at k)=true):
  ∃ys A0,H7 step [k] xs σ=some (.M (.list ys),A0.set k .O)/\I ys A0/\ys.length=xs.length:=by refine AB λJ=>GN (Sn I xs [] (λi b ys σ a O=>f i b ys σ (by simpa using a) O) (σ.set k .U) Q) λys A0 e O a=>J ?_;rw[Xfb]at O;refine(CN ys A0 ?_ O a);unfold H7;refine rL (Xck (AH (by simp[c,L]) B)) ?_;simp only[Xel,List.foldl_nil,e];exact rL (Xck (by simp[d _ _ O])) rfl
theorem kL{elt it:PE}(I:List Val->St->Prop)(Y:ev Φ np it false σ=some (r,AA))(T:Ed r.fz=some xs)(g:Gp (AA.at k)=true)(L:k<AA.length)(B:xs.length<=1000000)(Q:I [] (AA.set k .U))
  (f:∀ys σ,I ys σ->EB (σ.at k)=true)
  (h:∀i d ys σ,ys.length=i->I ys σ->∃r A0,ev Φ np elt false (σ.set k (.V xs[i]))=some (r,A0)/\I (ys++[r.fz]) A0):
  ∃ys A0,ev Φ np (.C elt k it) b σ=some (.M (.list ys),A0.set k .O)/\I ys A0/\ys.length=xs.length:=by
 refine AB λJ=>?_;obtain⟨ys,A0,e,O,c⟩:=dZ (step:=Ji (λσ=>ev Φ np elt false σ) k) I g L B Q (λi d ys σ c O=>by refine AB λJ=>Ce (h i d ys σ c O) λr A0 e a=>J (Di r.fz A0 ?_ a);unfold Ji;exact rL (Xck (f _ _ O)) (congrArg J4 e)) f
 exact J (CN ys A0 (fR Y (fI T e)) O c)
theorem MD{elt it:PE}{k m:Nat}(I:List Val->St->Prop)(Y:ev Φ np it false σ=some (r,AA))(T:r.fz= .int (m:Int))(D:m<=100000)(g:Gp (AA.at k)=true)(L:k<AA.length)(Q:I [] (AA.set k .U))
  (d:∀ys σ,I ys σ->EB (σ.at k)=true)
  (h:∀i(f:i<m)ys σ,ys.length=i->I ys σ->∃r A0,ev Φ np elt false (σ.set k (.V (.int (i:Int))))=some (r,A0)/\I (ys++[r.fz]) A0):
  ∃ys A0,ev Φ np (.R elt k it) b σ=some (.M (.list ys),A0.set k .O)/\I ys A0/\ys.length=m:=by
 have a:(DO m).length=m:=by unfold DO;simp
 refine AB λJ=>?_;obtain⟨ys,A0,e,O,U⟩:=dZ (step:=Ji (λσ=>ev Φ np elt false σ) k) I g L (lin [(DO ↑m).length,m] 0x2d905100000000007b98e45890000000000895447801 rfl D (Xcg a)) Q (λi f ys σ a O=>by
  refine AB λJ=>Ce (h i (by lia) ys σ a O) λr A0 e c=>J (Di r.fz A0 ?_ c);haveI B:(DO m)[i]= .int i:=by unfold DO;simp
  refine rL B ?_;unfold Ji;exact rL (Xck (d _ _ O)) (congrArg J4 e)) d
 exact J (CN ys A0 (fR Y (fV T ((Xck (by lia)).trans e))) O (U.trans a))
end
noncomputable def V1(f:Val->Bool)(b:Bool):Val->Bool
 | .none| .int _=>true
 | .str s=>PyData.strOk s
 | .list a| .T a=>b&&(decide (a.length<=900)&&a.all f)
 |_=>false
noncomputable def De:Nat->Val->Bool
 |0=>V1 (λU=>false) false
 |d+1=>V1 (De d) true
theorem Kv:De (d+1) (.list xs)=true ↔ xs.length<=900/\∀x∈xs,De d x=true:=
 ⟨λh=>⟨Xcj (al (ar (a:=true) h)),Xce.mp (ar (ar (a:=true) h))⟩,λh=>(Xdn.mpr ⟨Xcy h.1,Xce.mpr h.2⟩)⟩
theorem cT:De (d+1) (.T xs)=true ↔ xs.length<=900/\∀x∈xs,De d x=true:=Kv
def LY(d:Nat)(v:Val):Prop:=v.plain=true/\v.toPy.canLay0=true/\v.toPy.depth<=d/\PyData.eqv v.toPy v.toPy=true
theorem YL:∀{xs:List Val},(∀x∈xs,LY d x)->Val.QN xs=true/\PyData.canLayAll0 (Val.Ic xs)=true/\PyData.depthAll (Val.Ic xs)<=d/\PyData.eqvAll (Val.Ic xs) (Val.Ic xs)=true
 | [],_=>(DR rfl rfl (Xdd _) rfl)
 |x::xs,h=>AB λJ=>FE (h x (Xfo ..)) λa1 a2 a3 p=>FE (YL λy a=>h y (Xeu _ a)) λM H i b=>J (DR (Xdn.mpr ⟨a1,M⟩) (Xdn.mpr ⟨a2,H⟩) (Xh9.mpr ⟨a3,i⟩) (Xdn.mpr ⟨p,b⟩))
theorem cU(t:b=true->e=d+1/\∀x,f x=true->LY d x):∀{v:Val},V1 f b v=true->LY e v
 | .none,_=>(DR rfl rfl (Xdd _) rfl)
 | .int i,_=>(DR rfl rfl (Xdd _) (Xf3 i))
 | .str s,h=>(DR rfl h (Xdd _) (Xf3 s))
 | .list g,h| .T g,h=>FE (YL λx B=>(t (al h)).2 x (Xce.mp (ar (ar h)) x B)) λa b c e=>(DR a b ((t (al h)).1▸ Xh3 c) e)
 | .bool _,h| .dict _ _,h| .I _ _,h| .any,h=>fT h
theorem QI:∀{d:Nat}{v:Val},De d v=true->LY d v
 |0,_,h=>cU (d:=0) (λq=>fT q) h
 |d+1,_,h=>cU (λU=>⟨rfl,λU=>QI⟩) h
theorem YM(h:LY d v)(u:d<=64):(v.plain&&v.plain&&SeqAt.shaped v.toPy&&SeqAt.shaped v.toPy)=true:=by
 have:SeqAt.shaped v.toPy=true:=by unfold SeqAt.shaped;refine rL h.2.1 (rL (Xcy (Xcq h.2.2.1 u)) ?_);rfl
 refine rL h.1 (rL this ?_);rfl
theorem Q8(h:De d v=true)(u:d<=64):B7 .NotEq v v=some (.bool false):=by
 have t:=QI h;have e:∀x:Val,x=v->B7 .NotEq x v=some (.bool false)->B7 .NotEq v v=some (.bool false):=λx B h=>by subst B;exact h
 have:(if v.plain&&v.plain&&SeqAt.shaped v.toPy&&SeqAt.shaped v.toPy then some (Val.bool (!PyData.eqv v.toPy v.toPy))else none)=some (.bool false):=by refine rL (Xck (YM t u)) (rL t.2.2.2 ?_);rfl
 cases v with
 |bool b=>exact fT t.1
 |_=>exact this
theorem Xm(h:De d v=true)(u:d<=64):B7 .Eq v v=some (.bool true):=by
 have t:=QI h;have:(if v.plain&&v.plain&&SeqAt.shaped v.toPy&&SeqAt.shaped v.toPy then some (Val.bool (PyData.eqv v.toPy v.toPy))else none)=some (.bool true):=rL (Xck (YM t u)) (rL t.2.2.2 rfl);cases v with
 |bool b=>exact fT t.1
 |_=>exact this
theorem vf:((List.range 100).all λi=>PyData.strOk (B6 i)&& !(B6 i=="")&&decide ((B6 i).cps.size<=100))=true:=by decide+kernel
theorem Ha(h:i<100):PyData.strOk (B6 i)=true/\B6 i≠""/\(B6 i).cps.size<=100:=by have:=Xce.mp vf i (Xe7.mpr h);simp only[Xd5,Xfv,Xd8,Xhs]at this;exact(AX this.1.1 this.1.2 this.2)
theorem Nk:PyData.strOk ""=true:=by decide+kernel
theorem Uq(ha:PyData.strOk a=true)(V:PyData.strOk b=true):B7 .NotEq (.str a) (.str b)=some (.bool (!(a==b))):=Xck (show(true&&true&&(PyData.strOk a&&true)&&(PyData.strOk b&&true))=true by refine rL ha (rL V ?_);rfl)
theorem NB(h:i<100):B7 .NotEq (.str (B6 i)) (.str "")=some (.bool true):=by refine rL (Uq (Ha h).1 Nk) (rL (Xd8.mpr (Ha h).2.1) ?_);rfl
theorem NA:B7 .NotEq (.str "") (.str "")=some (.bool false):=by refine rL (Uq Nk Nk) ?_;simp
section
mutual
noncomputable def Spot.depth:Spot->Nat
 | .Y _=>0
 | .GG r _ p=>1+max (Spot.CE r) (Spot.CE p)
noncomputable def Spot.CE:List Spot->Nat
 | []=>0
 |s::ss=>max s.depth (Spot.CE ss)
end
def AI.depth(l:AI):Nat:=max (Spot.CE l.req) (Spot.CE l.post)
noncomputable def gl(r:List Spot)(re:Option (Option Nat))(p:List Spot):AI:=⟨r,[],re,p,none⟩
theorem MY(r:List Spot)(re:Option (Option Nat))(p:List Spot):(Spot.GG r re p).val=(gl r re p).val:=rfl
theorem JC(r:List Spot)(re:Option (Option Nat))(p:List Spot):(Spot.GG r re p).names=(gl r re p).names:=by show _=_++[]++_++_++[];refine rL (Xcz ..) (rL (Xcz ..) ?_);rfl
theorem HQ(r:List Spot)(re:Option (Option Nat))(p:List Spot):(Spot.GG r re p).depth=(gl r re p).depth+1:=Nat.add_comm 1 _
theorem Og(h:s∈ss):s.depth<=Spot.CE ss:=by
 induction h with
 |head l=>exact Xgc ..
 |tail _ _ ih=>exact Xcq ih (Xh7 ..)
def AL(n:Nat):Val:= .str (B6 n)
theorem Gy:∀ss:List Spot,Spot.AQ ss=ss.flatMap Spot.names
 | []=>rfl
 |s::ss=>congrArg (s.names++·) (Gy ss)
theorem bY(h:s∈ss):s.names.length<=(Spot.AQ ss).length:=by
 induction h with
 |head l=>show _<=(s.names++Spot.AQ l).length;exact rL Xci (Xd7 ..)
 | @tail t l _ ih=>show _<=(t.names++Spot.AQ l).length;exact rL Xci (Xcq ih (Nat.le_add_left ..))
theorem bZ(h:s∈ss)(g:n∈s.names):n∈Spot.AQ ss:=rL (Gy ..) (Xf6.mpr (AG s h g))
theorem Qy(h:i<(Spot.vals ss).length)(a:i<ss.length):(Spot.vals ss)[i]=ss[i].val:=by have:=Jo ss;simp[this]
theorem Qs{ss:List Spot}{i:Nat}(h:i<ss.length):Spot.AQ (ss.take (i+1))=Spot.AQ (ss.take i)++ss[i].names:=by refine rL (Gy ..) (rL (Gy ..) (rL (Xdi h ..) (rL (Xe3 ..) ?_)));simp
theorem er(ss:List Spot)(i:Nat):(Spot.AQ (ss.take i)).length<=(Spot.AQ ss).length:=by refine rL (Gy ..) (rL (Gy ..) ?_);have:ss.flatMap Spot.names=(ss.take i).flatMap Spot.names++(ss.drop i).flatMap Spot.names:=rR (Xe3 ..) (rL (Xed ..) rfl);exact rL this (rL Xci (lin [(List.flatMap Spot.names (List.take i ss)).length,(List.flatMap Spot.names (List.drop i ss)).length] 21245953 rfl))
structure AI.Ok(l:AI):Prop where
 lt:∀n∈l.names,n<100
 DY:l.names.length<=900
def Spot.Ok(s:Spot):Prop:=(∀n∈s.names,n<100)/\s.names.length<=900
theorem AI.Ok.req{l:AI}(h:l.Ok)(b:s∈l.req):s.Ok:=
 ⟨λn g=>h.lt n (by unfold AI.names;simp only[Xc2];exact .inl (.inl (.inl (.inl (bZ b g))))),by have a:=h.DY;have c:=bY b;unfold AI.names at a;simp only[Xci]at a;exact lin [s.names.length,(Spot.AQ l.req).length,l.opt.length,(BY l.rest).length,(Spot.AQ l.post).length,(CL l.block).length] 0x80520a495ef0108eb08067a5801 rfl c a⟩
theorem AI.Ok.post{l:AI}(h:l.Ok)(b:s∈l.post):s.Ok:=
 ⟨λn g=>h.lt n (by unfold AI.names;simp only[Xc2];exact .inl (.inr (bZ b g))),by have a:=h.DY;have c:=bY b;unfold AI.names at a;simp only[Xci]at a;exact lin [s.names.length,(Spot.AQ l.post).length,(Spot.AQ l.req).length,l.opt.length,(BY l.rest).length,(CL l.block).length] 0x805207419fd3914eb08067a5801 rfl c a⟩
theorem Yv(h:(Spot.GG r re p).Ok):(gl r re p).Ok:=⟨by refine rR (JC ..) ?_;exact h.1,by refine rR (JC ..) ?_;exact h.2⟩
section
variable {Φ:BZ}{np fuel:Nat}
theorem SY{ps:List (Val×Val)}(I:Nat->St->Prop)(L:k₁≠k₂)(Y:ev Φ np it false σ=some (r,AA))(T:Ed r.fz=some (ps.map λp=> .T [p.1,p.2]))(l:Gp (AA.at k₁)=true)(J:Gp (AA.at k₂)=true)(a:k₁<AA.length)(U:k₂<AA.length)(B:ps.length<=1000000)(k:I 0 ((AA.set k₁ .U).set k₂ .U))
  (j:∀i σ,I i σ->EB (σ.at k₁)=true/\EB (σ.at k₂)=true)
  (n:∀i d σ,I i σ->∃r A0,ev Φ np elt false ((σ.set k₁ (.V ps[i].1)).set k₂ (.V ps[i].2))=some (r,A0)/\r.fz=g i/\I (i+1) A0):
  ∃A0,ev Φ np (.CC elt k₁ k₂ it) b σ=some (.M (.list ((List.range ps.length).map g)),(A0.set k₁ .O).set k₂ .O)/\I ps.length A0:=by
 refine AB λh=>?_;obtain⟨Q,A0,e,O,a⟩:=Sn (step:=Vd (λσ=>ev Φ np elt false σ) k₁ k₂) (λQ σ=>I Q.length σ/\Q=(List.range Q.length).map g) (ps.map λp=> .T [p.1,p.2]) [] (λi d Q σ a⟨O,o⟩=>by
  rw[EN]at d;refine AB λh=>?_;obtain rfl:Q.length=i:=by simpa using a
  refine Ax (j _ _ O) λy f=>GN (n _ d σ O) λr A0 e m c=>h (CN r.fz A0 ?_ (by refine rL Xci (rL Xdp ?_);exact c) ?_)
  ·exact rL (Xei ..) ((Xck (by refine rL y (rL f ?_);rfl)).trans (congrArg J4 e))
  ·refine rL Xci (rL Xdp (rL List.range_succ (rL Xco (rR o (rL m ?_)))));rfl) _ (AH k rfl)
 refine h ?_;rw[Xfb]at O;rw[EN]at a;replace O:=a▸ O;refine(AG A0 (fR Y (fI T ((Xcm L).trans ?_))) O.1);unfold H7;refine rL (Xck (AH (by simp[l,J,a, *]) (by simpa using B))) ?_;simp only[Xel,List.foldl_nil,e];exact rL (Xck (by simp[j _ _ O.1])) (rL O.2 rfl)
end
theorem VA{m:Type}(l:List Nat)(g:Nat->m):(List.range l.length).map (λi=>g (l.getD i 0))=l.map g:=by
 apply List.ext_getElem
 ·simp
 ·intro i Y T;have:i<l.length:=by simpa using T
  simp[this]
end
def Af(l:LV):Prop:=l= .U\/∃x,l= .V x
theorem Af.Ei(h:Af l):Bb np x l=true:=by rcases h with rfl|⟨x,rfl⟩<;>rfl
theorem Af.put(h:Af l):EB l=true:=by rcases h with rfl|⟨x,rfl⟩<;>rfl
theorem CG(x:Val):Af (.V x):= .inr ⟨x,rfl⟩
theorem CX:Af .U:= .inl rfl
def cW(n:Nat):Val×Val:=(.str (B6 n),.none)
theorem QJ(l:List Nat):(l.map cW).map (λp=>Val.T [p.1,p.2])=l.map BK:=by simp[cW,BK,Xhx]
noncomputable def DG(P:Val)(acc:List Val)(m:LV):St:=[.V P,.N (.list acc),m,.O,.O]
theorem Hz{Φ:BZ}{np:Nat}{m:Type}{elt it:PE}{k:Nat}{σ:St}{r:RV}{b:Bool}{vs:List Val}(as:List m)(f:m->Val)(R:m->RV)(Ab:LV->St)(Y:ev Φ np it false σ=some (r,Ab .O))(T:Ed r.fz=some vs)(H:vs=as.map f)(y:∀z,(Ab z).at k=z)(c:∀z w,(Ab z).set k w=Ab w)
  (L:k<(Ab .O).length) (B:as.length<=1000000) (I:∀a∈as,ev Φ np elt false (Ab (.V (f a)))=some (R a,Ab (.V (f a)))):ev Φ np (.C elt k it) b σ=some (.M (.list (as.map λa=>(R a).fz)),Ab .O):=by
 refine AB λJ=>?_;subst H;obtain⟨Q,o,e,O,h⟩:=kL (λQ σ=>∃z,Af z/\σ=Ab z/\Q=(as.take Q.length).map λa=>(R a).fz) Y T (by refine rL (y ..) ?_;rfl) L (rL (EN ..) B) (BS .U CX (c _ _) rfl) (λQ σ q=>by
   exact Bh q λz j C _=>rL (C ..) (rL (y ..) j.put)) (λi d Q σ g q=>by
   refine AB λJ=>Bh q λz j C p=>?_;have l:i<as.length:=by rw[EN]at d;exact d
   refine J (Di (R as[i]) (Ab (.V (f as[i]))) ?_ (BS _ (CG _) rfl ?_))
   ·exact rL (C ..) (rL (c ..) (rL (Xei ..) (I _ (Xd6 l))))
   ·replace p:=g▸ p;refine rL Xci (rL Xdp (rL g (rL (Xdi l) (rL Xco (rR p ?_)))));rfl)
 refine Bh O λz _ C p=>?_;rw[EN]at h;replace p:=Xdx▸ h▸ p;exact J (rL (e ..) (rL (C ..) (rL (c ..) (rL (p ..) rfl))))
def Jy(n:Nat)(s:Spot):Prop:=callF n 7 [.V s.val]=some (.V (.list (s.names.map AL)),[.V s.val])
theorem be(f:Af m)(d:∀acc m,ev (callF n) 1 it false (DG P acc m)=some (.V (.list (Spot.vals ss)),DG P acc m))(I:∀s∈ss,Jy n s)(j:acc.length+(Spot.AQ ss).length<=900):
  ∃a,Af a/\Ae (callF n) 1 200 (.FF 2 it [.ext 1 (.call 7 [(.W 2)])]) (DG P acc m)=some (.next,DG P (acc++(Spot.AQ ss).map AL) a):=by
 obtain⟨o,e,a,t,rfl⟩:=JA (fuel:=200) (k:=2) (body:=[.ext 1 (.call 7 [(.W 2)])]) (λi h=>∃m,Af m/\h=DG P (acc++(Spot.AQ (ss.take i)).map AL) m) (d acc m) rfl (AG m f (by simp[Spot.AQ])) (λi b h⟨m,f,C⟩=>by
  subst C;have l:i<ss.length:=by rw[D0]at b;exact b
  refine(AH f.Ei (AG _ ?_ (AG (.V ss[i].val) (CG _) rfl)));haveI g:=I ss[i] (Xd6 l);unfold Jy at g;refine rL (Qy b l) ?_;haveI V:(acc++(Spot.AQ (ss.take i)).map AL).length+(ss[i].names.map AL).length<=100000:=by haveI Y:=Qs l;haveI T:=er ss (i+1);rw[Y,Xci]at T;exact rL (Xci ..) (rL (EN ..) (rL (EN ..) (lin [acc.length,(Spot.AQ (List.take i ss)).length,ss[i].names.length,(Spot.AQ ss).length] 0x6e3ce62a317f2c8f59000000000458600ec44381 rfl j T)))
  exact rL (Qs l ..) (rL (Xco ..) (rR (Xc7 ..) (qR [aC g,aP V]))))
 exact(AG a t (by rw[D0,Xdx]at e;exact e))
theorem T9{i:Nat}{l:List Nat}(h:i<l.length):l[i]=l.getD i 0:=by simp[h]
theorem Jc{k:Nat}{a o p b:List Nat}:k∈a++o++BY (some (some k))++p++b:=Xcr _ (Xcr _ (Xdf _ (.head _)))
theorem Wq{k:Nat}{a:List Nat}:k∈a++CL (some k):=Xdf _ (.head _)
theorem vT{op:List Nat}{x y:Nat}(d:ev (callF n) 1 it false (DG P acc m)=some (.V (.list (op.map BK)),DG P acc m))(g:op.length<=900):
  ev (callF n) 1 (.CC (.W 3) 3 4 it) false (DG P acc m)=some (.M (.list (op.map AL)),DG P acc m):=by
 obtain⟨o,e,a,b,ha,V,rfl⟩:=SY (elt:= .W 3) (k₁:=3) (k₂:=4) (λU c=>∃a b,Af a/\Af b/\c=[.V P,.N (.list acc),m,a,b]) (by decide) d (by rw[QJ];rfl) rfl rfl (Xch rfl) (Xch rfl) (by simp;exact lin [op.length] 0x11cd18090000000000895447801 rfl g) (CN .U .U CX CX rfl) (λi c⟨a,b,ha,V,C⟩=>rL C ⟨ha.put,V.put⟩) (λi f c⟨a,b,ha,V,C⟩=>by
  subst C;have l:i<op.length:=by simpa using f
  refine(CN (.V (AL op[i])) [.V P,.N (.list acc),m,.V (AL op[i]),.V .none] ?_ ?_ (CN _ _ (CG _) (CG _) rfl))
  ·exact rL (Xei ..) rfl
  ·exact congrArg AL (T9 l))
 rw[EN,VA]at e;exact e
theorem bf{l:AI}(b:l.Ok)(I:∀s∈l.req++l.post,Jy n s):callF (n+1) 8 [.V l.val]=some (.V (.list (l.names.map AL)),[.V l.val]):=by
 obtain⟨rq,C,E,B,O⟩:=l;haveI q:=b.DY;haveI g:=b.lt;unfold AI.names at q g;simp only[Xci]at q;generalize d:AI.val ⟨rq,C,E,B,O⟩=P;have r:∀v m,ev (callF n) 1 (.A (.W 0) 49 0) false (DG P v m)=some (.V (.list (Spot.vals rq)),DG P v m)/\ev (callF n) 1 (.A (.W 0) 49 1) false (DG P v m)=some (.V (.list (C.map BK)),DG P v m)/\ev (callF n) 1 (.A (.W 0) 49 3) false (DG P v m)=some (.V (.list (Spot.vals B)),DG P v m):=by intro v m;subst d;exact(AX rfl rfl rfl)
 refine AJ (be (acc:=[]) CX (λa p=>(r a p).1) (λs h=>I s (Xcr _ h)) (by simp;exact lin [(Spot.AQ rq).length,C.length,(BY E).length,(Spot.AQ B).length,(CL O).length] 0xe41f63789f32c6c67a5801 rfl q)) λH f N=>?_;haveI A:Ae (callF n) 1 200 (.ext 1 (.CC (.W 3) 3 4 (.A (.W 0) 49 1))) (DG P ([]++(Spot.AQ rq).map AL) H)=some (.next,DG P ((Spot.AQ rq).map AL++C.map AL) H):=by haveI:=vT (x:=0) (y:=0) (r ([]++(Spot.AQ rq).map AL) H).2.1 (lin [C.length,(Spot.AQ rq).length,(BY E).length,(Spot.AQ B).length,(CL O).length] 0xe41f6378928472c67a5801 rfl q);haveI V:([]++(Spot.AQ rq).map AL).length+(C.map AL).length<=100000:=rL (Xfb ..) (rL (EN ..) (rL (EN ..) (lin [(Spot.AQ rq).length,C.length,(BY E).length,(Spot.AQ B).length,(CL O).length] 0x4028d3f9ecc647e7440000000001ee63916081 rfl q)));exact qS [aE this,aP V]
 haveI z:Ae (callF n) 1 200 (.X (.and (.E (.A (.W 0) 49 2) true) (.K .NotEq (.A (.W 0) 49 2) (.str ""))) [.PP 1 (.A (.W 0) 49 2)] []) (DG P ((Spot.AQ rq).map AL++C.map AL) H)=some (.next,DG P ((Spot.AQ rq).map AL++C.map AL++(BY E).map AL) H):=by
  refine rR d ?_;haveI Y:((Spot.AQ rq).map AL++C.map AL).length<=100000:=rL (Xci ..) (rL (EN ..) (rL (EN ..) (lin [(Spot.AQ rq).length,C.length,(BY E).length,(Spot.AQ B).length,(CL O).length] 0x4028d3f9ecc647e7440000000001ee63916081 rfl q)));clear b I q d;rcases E with _|_|k
  ·exact rL (show BY none=[]from rfl) (rL (Xhg ..) (rL (Xcz ..) (qS [])))
  ·exact rL (show BY (some none)=[]from rfl) (rL (Xhg ..) (rL (Xcz ..) (qS [aM NA])))
  ·exact qS [aM (NB (g k Jc)),aP Y]
 refine AJ (be (acc:=(Spot.AQ rq).map AL++C.map AL++(BY E).map AL) f (λa p=>(r a p).2.2) (λs h=>I s (Xdf _ h)) (by simp;exact lin [(Spot.AQ rq).length,C.length,(BY E).length,(Spot.AQ B).length,(CL O).length] 0xa26758909f55e602cc9c5fda04381 rfl q)) λG w u=>?_;haveI L:Ae (callF n) 1 200 (.X (.E (.A (.W 0) 49 4) true) [.PP 1 (.A (.W 0) 49 4)] []) (DG P ((Spot.AQ rq).map AL++C.map AL++(BY E).map AL++(Spot.AQ B).map AL) G)=some (.next,DG P ((Spot.AQ rq).map AL++C.map AL++(BY E).map AL++(Spot.AQ B).map AL++(CL O).map AL) G):=by
  refine rR d ?_;haveI Y:((Spot.AQ rq).map AL++C.map AL++(BY E).map AL++(Spot.AQ B).map AL).length<=100000:=by simp only[Xci,EN];exact lin [(Spot.AQ rq).length,C.length,(BY E).length,(Spot.AQ B).length,(CL O).length] 0x144ceb1213eabcc02c84000000009c6d8327d999581 rfl q
  clear b I g q d;cases O with
  |none=>
   exact rL (show CL none=[]from rfl) (rL (Xhg ..) (rL (Xcz ..) (qS [])))
  |some k=>exact qS [aP Y]
 haveI e:(AI.names ⟨rq,C,E,B,O⟩).map AL=(Spot.AQ rq).map AL++C.map AL++(BY E).map AL++(Spot.AQ B).map AL++(CL O).map AL:=by unfold AI.names;exact rL Xco (rL Xco (rL Xco (rL Xco rfl)))
 exact e▸ qC [aS N,aS A,aS z,aS u,aS L]
theorem vR(d:Nat)(a:∀n(l:AI),l.depth<=d->l.Ok->callF (n+2*d+2) 8 [.V l.val]=some (.V (.list (l.names.map AL)),[.V l.val]))(s:Spot)(b:s.Ok)(u:s.depth<=d+1):Jy (n+2*d+3) s:=by
 unfold Jy;cases s with
 |Y k=>exact qC []
 |GG r E p=>
  rw[HQ]at u;exact rL (MY ..) (rL (JC ..) (qC [aC (a n (gl r E p) (lin [(gl r E p).depth,d] 0xf17522374899001 rfl u) (Yv b))]))
theorem vS:Jy (n+1) (.Y k):=qC []
theorem Px{l:AI}(h:l.Ok)(hs:s∈l.req++l.post):s.Ok/\s.depth<=l.depth:=by
 unfold AI.depth;rcases Xc2.mp hs with q|q
 ·exact⟨h.req q,by haveI:=Og q;exact lin [s.depth,max (Spot.CE l.req) (Spot.CE l.post),Spot.CE l.req] 0x2e835b20099001 rfl this (Xgc (Spot.CE l.req) (Spot.CE l.post))⟩
 ·exact⟨h.post q,by haveI:=Og q;exact lin [s.depth,max (Spot.CE l.req) (Spot.CE l.post),Spot.CE l.post] 0x2e835b20099001 rfl this (Xh7 (Spot.CE l.req) (Spot.CE l.post))⟩
theorem bc:∀d n(l:AI),l.depth<=d->l.Ok->callF (n+2*d+2) 8 [.V l.val]=some (.V (.list (l.names.map AL)),[.V l.val])
 |0,n,l,u,a=>bf a λs I=>by
  refine Ax (Px a I) λY T=>?_;cases s with
  |Y k=>exact vS
  |GG r E p=>rw[HQ]at T;exact Hb (lin [l.depth,(gl r E p).depth] 0x283e3a203602400c01c1 rfl u T)
 |d+1,n,l,u,a=>by haveI:=bf (n:=n+2*d+3) a λs I=>Ax (Px a I) λY T=>vR d (bc d) s Y (lin [s.depth,d,l.depth] 0x7354e69317706a217d9001 rfl u T);exact this
noncomputable def Dc(P:Val)(acc:List Val)(m:LV):St:=[.V P,.V (.list acc),m,.O,.O]
def RQ(n:Nat):Spot->Prop
 | .Y _=>True
 | .GG r E p=>callF n 25 [.V (Spot.GG r E p).val]=some (.V (.list ((Spot.GG r E p).names.map AL)),[.V (Spot.GG r E p).val])
theorem EF(h:a.length+b.length<=1000000):Bq .Add (.list a) (.list b)=some (.M (.list (a++b))):=by
 show(if a.length+b.length<=1000000 then some (RV.M (.list (a++b)))else none)=_;exact rL (Xck h) rfl
theorem bE(f:Af m)(d:∀acc m,ev (callF n) 1 it false (Dc P acc m)=some (.V (.list (Spot.vals ss)),Dc P acc m))(I:∀s∈ss,RQ n s)(u:acc.length+(Spot.AQ ss).length<=900):
  ∃a,Af a/\Ae (callF n) 1 200 (.FF 2 it [.G 1 (.B .Add (.W 1) (.D (.J (.W 2) 0) (.list [(.W 2)]) (.call 25 [(.W 2)])))]) (Dc P acc m)=some (.next,Dc P (acc++(Spot.AQ ss).map AL) a):=by
 obtain⟨v,e,a,t,rfl⟩:=JA (fuel:=200) (k:=2) (body:=[.G 1 (.B .Add (.W 1) (.D (.J (.W 2) 0) (.list [(.W 2)]) (.call 25 [(.W 2)])))]) (λi o=>∃m,Af m/\o=Dc P (acc++(Spot.AQ (ss.take i)).map AL) m) (d acc m) rfl (AG m f (by simp[Spot.AQ])) (λi b o⟨m,f,C⟩=>by
  subst C;have l:i<ss.length:=by rw[D0]at b;exact b
  refine(AH f.Ei (AG _ ?_ (AG (.V ss[i].val) (CG _) rfl)));haveI j:=I ss[i] (Xd6 l);refine rL (Qy b l) ?_;haveI Y:=Qs l;haveI T:=er ss (i+1);rw[Y,Xci]at T;refine rL (Qs l) ?_;generalize O:(Spot.AQ (ss.take i)).map AL=q at*;haveI c:q.length=(Spot.AQ (ss.take i)).length:=rR (O ..) (rL (EN ..) rfl);have V:(acc++q).length+(ss[i].names.map AL).length<=1000000:=rL (Xci ..) (rL (EN ..) (rL (c ..) (lin [acc.length,(Spot.AQ (List.take i ss)).length,ss[i].names.length,(Spot.AQ ss).length] 0x6e3ce62a317f2c8f59000000002b73aaaec44381 rfl u T)));refine rL (Xco ..) (rL (O ..) (rR (Xc7 ..) ?_));cases h:ss[i]with
  |Y k=>
   replace V:=h▸ V;exact qR [aB (EF V)]
  |GG r E p=>
   rw[h]at j V;exact qR [aC j,aB (EF V)])
 exact(AG a t (by rw[D0,Xdx]at e;exact e))
theorem uP{op:List Nat}(d:ev (callF n) 1 it false (Dc P acc m)=some (.V (.list (op.map BK)),Dc P acc m))(g:op.length<=900):
  ev (callF n) 1 (.CC (.W 3) 3 4 it) false (Dc P acc m)=some (.M (.list (op.map AL)),Dc P acc m):=by
 obtain⟨o,e,a,b,ha,V,rfl⟩:=SY (elt:= .W 3) (k₁:=3) (k₂:=4) (λU c=>∃a b,Af a/\Af b/\c=[.V P,.V (.list acc),m,a,b]) (by decide) d (by rw[QJ];rfl) rfl rfl (Xch rfl) (Xch rfl) (by simp;exact lin [op.length] 0x11cd18090000000000895447801 rfl g) (CN .U .U CX CX rfl) (λi c⟨a,b,ha,V,C⟩=>by subst C;exact⟨ha.put,V.put⟩) (λi f c⟨a,b,ha,V,C⟩=>by
  subst C;have l:i<op.length:=by simpa using f
  refine(CN (.V (AL op[i])) [.V P,.V (.list acc),m,.V (AL op[i]),.V .none] ?_ ?_ (CN _ _ (CG _) (CG _) rfl))
  ·exact rL (Xei ..) rfl
  ·exact congrArg AL (T9 l))
 rw[EN,VA]at e;exact e
theorem bF{l:AI}(c:l.Ok)(I:∀s∈l.req++l.post,RQ n s):callF (n+1) 25 [.V l.val]=some (.V (.list (l.names.map AL)),[.V l.val]):=by
 obtain⟨rq,C,E,B,O⟩:=l;have q:=c.DY;haveI g:=c.lt;unfold AI.names at q g;simp only[Xci]at q;generalize d:AI.val ⟨rq,C,E,B,O⟩=P;have r:∀v m,ev (callF n) 1 (.A (.W 0) 49 0) false (Dc P v m)=some (.V (.list (Spot.vals rq)),Dc P v m)/\ev (callF n) 1 (.A (.W 0) 49 1) false (Dc P v m)=some (.V (.list (C.map BK)),Dc P v m)/\ev (callF n) 1 (.A (.W 0) 49 3) false (Dc P v m)=some (.V (.list (Spot.vals B)),Dc P v m):=by intro v m;subst d;exact(AX rfl rfl rfl)
 refine AJ (bE (acc:=[]) CX (λa p=>(r a p).1) (λs h=>I s (Xcr _ h)) (by simp;exact lin [(Spot.AQ rq).length,C.length,(BY E).length,(Spot.AQ B).length,(CL O).length] 275783315152489343243409409 rfl q)) λH f N=>?_;haveI A:Ae (callF n) 1 200 (.G 1 (.B .Add (.W 1) (.CC (.W 3) 3 4 (.A (.W 0) 49 1)))) (Dc P ([]++(Spot.AQ rq).map AL) H)=some (.next,Dc P ((Spot.AQ rq).map AL++C.map AL) H):=qS [aE (uP (r ([]++(Spot.AQ rq).map AL) H).2.1 (lin [C.length,(Spot.AQ rq).length,(BY E).length,(Spot.AQ B).length,(CL O).length] 275783315148919967722395649 rfl q)),aB (EF (a:=[]++(Spot.AQ rq).map AL) (b:=C.map AL) (rL (Xfb ..) (rL (EN ..) (rL (EN ..) (lin [(Spot.AQ rq).length,C.length,(BY E).length,(Spot.AQ B).length,(CL O).length] 1430804315929825231872519138829357279823880321 rfl q)))))];haveI z:Ae (callF n) 1 200 (.G 1 (.B .Add (.W 1) (.D (.and (.E (.A (.W 0) 49 2) true) (.K .NotEq (.A (.W 0) 49 2) (.str ""))) (.list [(.A (.W 0) 49 2)]) (.list [])))) (Dc P ((Spot.AQ rq).map AL++C.map AL) H)=some (.next,Dc P ((Spot.AQ rq).map AL++C.map AL++(BY E).map AL) H):=by
  refine rR d ?_;haveI Y:((Spot.AQ rq).map AL++C.map AL).length+((BY E).map AL).length<=1000000:=by simp only[Xci,EN];exact lin [(Spot.AQ rq).length,C.length,(BY E).length,(Spot.AQ B).length,(CL O).length] 0x905bdcf254be21c859000000002b73aaaec44381 rfl q
  clear c I q d;rcases E with _|_|k
  ·exact qS [aB (EF Y)]
  ·exact qS [aM NA,aB (EF Y)]
  ·exact qS [aM (NB (g k Jc)),aB (EF Y)]
 refine AJ (bE (acc:=(Spot.AQ rq).map AL++C.map AL++(BY E).map AL) f (λa p=>(r a p).2.2) (λs h=>I s (Xdf _ h)) (by simp;exact lin [(Spot.AQ rq).length,C.length,(BY E).length,(Spot.AQ B).length,(CL O).length] 0xa26758909f55e602cc9c5fda04381 rfl q)) λG w u=>?_;have e:(AI.names ⟨rq,C,E,B,O⟩).map AL=(Spot.AQ rq).map AL++C.map AL++(BY E).map AL++(Spot.AQ B).map AL++(CL O).map AL:=by unfold AI.names;exact rL Xco (rL Xco (rL Xco (rL Xco rfl)))
 haveI Y:((Spot.AQ rq).map AL++C.map AL++(BY E).map AL++(Spot.AQ B).map AL).length+((CL O).map AL).length<=1000000:=by simp only[Xci,EN];exact lin [(Spot.AQ rq).length,C.length,(BY E).length,(Spot.AQ B).length,(CL O).length] 0x2dad10e8acd028b064290000000dbf9906273b1998181 rfl q
 refine rL e ?_;clear c I g q e r;subst d;cases O<;>exact qC [aS N,aS A,aS z,aS u,aB (EF Y)]
theorem bD:∀d n(l:AI),l.depth<=d->l.Ok->callF (n+d+1) 25 [.V l.val]=some (.V (.list (l.names.map AL)),[.V l.val])
 |0,n,l,u,a=>bF a λs I=>by
  refine Ax (Px a I) λY T=>?_;cases s with
  |Y k=>exact trivial
  |GG r E p=>rw[HQ]at T;exact Hb (lin [l.depth,(gl r E p).depth] 0x283e3a203602400c01c1 rfl u T)
 |d+1,n,l,u,a=>by
  haveI:=bF a λs I=>by
   refine Ax (Px a I) λY T=>?_;cases s with
   |Y k=>exact trivial
   |GG r E p=>
    rw[HQ]at T;unfold RQ;dsimp only;exact rL (MY ..) (rL (JC ..) (bD d n (gl r E p) (lin [(gl r E p).depth,d,l.depth] 0x7355e6fbeb2d6a2b099001 rfl u T) (Yv Y)))
  exact this
theorem Q1{n k:Nat}(xs:List Val):callF (n+2) 41 [.N (.Z k),.V (.list xs)]=some (.V (Dv xs),[.N (.Z k),.V (.list xs)]):=qC []
theorem yB{n k:Nat}(P:Val)(b:Bool):callF (n+2) 42 [.N (.Z k),.V P,.V .none,.V .none,.V .none,.V (.T []),.V .none,.V .none,.V (.bool b),.V .none]=some (.V (Hg P b),[.N (.Z k),.V P,.V .none,.V .none,.V .none,.V (.T []),.V .none,.V .none,.V (.bool b),.V .none]):=qC []
theorem xv{n k:Nat}(l:AI)(st:Bool):callF (n+4) 15 [.N (.Z k),.V (Hg l.val st),.V (.list [])]=some (.V (.int (l.arity st)),[.N (.Z k),.V (Hg l.val st),.V (.list [])]):=qC [aC (@ij n l st)]
def Du(sg:Str)(s:Spot):Val:= .list [.str sg,s.val]
def DH(sg:Str):Spot->List Val
 | .Y k=>[.str sg,AL k]
 | .GG _ _ _=>[.str sg]
noncomputable def Am(st:Bool):Str:=if st then "req" else "opt"
def Fh:Option (Option Nat)->List Val
 |none=>[]
 |some none=>[.list [.str "rest",.str ""]]
 |some (some k)=>[.list [.str "rest",AL k]]
def GJ:Option (Option Nat)->List (List Val)
 |none=>[]
 |some none=>[[.str "rest"]]
 |some (some k)=>[[.str "rest",AL k]]
def Fz:Option Nat->List (List Val)
 |none=>[]
 |some k=>[[.str "block",AL k]]
def AI.rows(l:AI)(st:Bool):List Val:=l.req.map (Du (Am st))++l.opt.map (λk=> .list [.str "opt",AL k])++Fh l.rest++l.post.map (Du (Am st))++(Fz l.block).map .list
def AI.told(l:AI)(st:Bool):List (List Val):=l.req.map (DH (Am st))++l.opt.map (λk=>[.str "opt",AL k])++GJ l.rest++l.post.map (DH (Am st))++Fz l.block
noncomputable def DN(k:Nat)(sf P:Val)(sg:Str)(acc:List Val)(a b:LV):St:=[.N (.Z k),.V sf,.V (.list []),.V P,.N (.list acc),.V (.str sg),a,b,.U,.O,.O,.O]
section
variable {n k:Nat}{sf P:Val}{sg:Str}{acc:List Val}{a b:LV}
theorem d3(ha:Af a)(d:∀acc a,ev (callF n) 3 it false (DN k sf P sg acc a b)=some (.V (.list (Spot.vals ss)),DN k sf P sg acc a b))(h:acc.length+ss.length<=10000):
  ∃L,Af L/\Ae (callF n) 3 200 (.FF 6 it [.PP 4 (.list [(.W 5),(.W 6)])]) (DN k sf P sg acc a b)=some (.next,DN k sf P sg (acc++ss.map (Du sg)) L b):=by
 refine AB λJ=>?_;obtain⟨o,e,L,t,rfl⟩:=JA (fuel:=200) (k:=6) (body:=[.PP 4 (.list [(.W 5),(.W 6)])]) (λi g=>∃a,Af a/\g=DN k sf P sg (acc++(ss.take i).map (Du sg)) a b) (d acc a) rfl (AG a ha (by simp)) (λi c g⟨a,ha,C⟩=>by
  subst C;have l:i<ss.length:=by rw[D0]at c;exact c
  refine(AH ha.Ei (AG _ (rL (Qy c l) (rL (Xdi l) (rL Xco ?_))) (AG (.V ss[i].val) (CG _) rfl)));have O:((ss.take i).map (Du sg)).length<=i:=rL (EN ..) (rL (Xdk ..) (lin [min i ss.length,i] 21743898625 rfl (Xe0 i ss.length)));generalize(ss.take i).map (Du sg)=q at*;have V:(acc++q).length<=100000:=rL Xci (lin [acc.length,q.length,ss.length,i] 0x1b76b371e4baad5210000000003e936f43a3440000000001ee63916081 rfl h l O);exact rR (Xc7 ..) (qR [aP V]))
 exact J (AG L t (by rw[D0,Xdx]at e;exact e))
theorem xq{op:List Nat}(ha:Af a)(V:Af b)(d:ev (callF n) 3 it false (DN k sf P sg acc a b)=some (.V (.list (op.map BK)),DN k sf P sg acc a b))(j:acc.length+op.length<=10000):
  ∃L b',Af L/\Af b'/\Ae (callF n) 3 200 (.Gf 6 7 it [.PP 4 (.list [(.str "opt"),(.W 6)])]) (DN k sf P sg acc a b)=some (.next,DN k sf P sg (acc++op.map λk=> .list [.str "opt",AL k]) L b'):=by
 obtain⟨o,e,L,b',t,U,rfl⟩:=YW (fuel:=200) (k₁:=6) (k₂:=7) (body:=[.PP 4 (.list [(.str "opt"),(.W 6)])]) (λi g=>∃a b,Af a/\Af b/\g=DN k sf P sg (acc++(op.take i).map λk=> .list [.str "opt",AL k]) a b) (by decide) d (by rw[QJ];rfl) (CN a b ha V (by simp)) (λi h g⟨a,b,ha,V,C⟩=>by
  subst C;have l:i<op.length:=by simpa using h
  refine(AX ha.Ei V.Ei (AG _ ?_ (CN (.V (AL op[i])) (.V .none) (CG _) (CG _) rfl)));refine rL (Xdi l) (rL Xco ?_);have m:((op.take i).map λk=>Val.list [.str "opt",AL k]).length<=i:=rL (EN ..) (rL (Xdk ..) (lin [min i op.length,i] 21743898625 rfl (Xe0 i op.length)));generalize(op.take i).map (λk=>Val.list [.str "opt",AL k])=q at*;have V:(acc++q).length<=100000:=rL Xci (lin [acc.length,q.length,op.length,i] 740419229778652650931693414596846127342777025089422786527008671228033 rfl j l m);exact rR (Xc7 ..) (rL (Xei ..) (qR [aP V])))
 exact(CN L b' t U (by rw[EN,Xdx]at e;exact e))
end
noncomputable def Dr:Val->Bool
 | .str s=> !(s=="")
 |_=>false
def Hl:Val->List Val
 | .list c=>c.filter Dr
 |_=>[]
def Io(r:Val):Prop:=∃a v,r= .list [.str a,v]/\PyData.strOk a=true/\((∃s,v= .str s/\PyData.strOk s=true)\/∃c,v= .I 49 c)
noncomputable def KG:PE:= .and (.J (.W 10) 0) (.K .NotEq (.W 10) (.str ""))
noncomputable def Et(k:Nat)(sf P:Val)(x:LV)(sg:LV)(a b c:LV)(d e f:LV):St:=[.N (.Z k),.V sf,.V (.list []),.V P,x,sg,a,b,c,d,e,f]
theorem lF{step:Val->St->Option (Option Val×St)}(Y:step x σ=some (r,AA))(T:step y AA=some (s,c)):DJ step [x,y] σ=some (r.toList++(s.toList++[]),c):=
 Sm Y (Sm T rfl)
def Mv(x:Val):Option Val:=if Dr x=true then some x else none
theorem zl(x y:Val):Hl (.list [x,y])=(Mv x).toList++((Mv y).toList++[]):=by
 show List.filter Dr [x,y]=_;unfold Mv;refine rL List.filter_cons (rL List.filter_cons (rL List.filter_nil ?_));cases Dr x<;>cases Dr y<;>rfl
theorem d4(u:Af d)(h:(∃s,v= .str s/\PyData.strOk s=true)\/∃xs,v= .I 49 xs):
  Qk (λσ=>ev Φ 3 KG true σ) (λσ=>ev Φ 3 (.W 10) false σ) 10 v (Et k sf P x sg a b c (.V r) d f)=some (Mv v,Et k sf P x sg a b c (.V r) (.V v) f):=by
 refine(Xck u.put).trans ?_;rcases h with⟨s,rfl,h⟩|⟨xs,rfl⟩
 ·have e:ev Φ 3 KG true ((Et k sf P x sg a b c (.V r) d f).set 10 (.V (.str s)))=some (.V (.bool (Dr (.str s))),Et k sf P x sg a b c (.V r) (.V (.str s)) f):=qE [aM (Uq h Nk)];show(match ev Φ 3 KG true ((Et k sf P x sg a b c (.V r) d f).set 10 (.V (.str s)))with|some (.V (.bool true),B)=>J4 (ev Φ 3 (.W 10) false B)|some (.V (.bool false),B)=>some (none,B)|_=>none)=_;refine rL e ?_;unfold Mv;cases Dr (.str s)<;>exact rfl
 ·exact rfl
theorem xr{Φ:BZ}{k:Nat}(h:Io r):
  ev Φ 3 (.GZ (.W 10) KG 10 (.W 9)) false (Et k sf P x sg a b c (.V r) .O f)=some (.M (.list (Hl r)),Et k sf P x sg a b c (.V r) .O f):=by
 refine AB λJ=>GN h λt v G g H=>J (rL G ?_);have e:=lF (d4 (Φ:=Φ) (k:=k) (sf:=sf) (P:=P) (r:= .list [.str t,v]) (x:=x) (sg:=sg) (a:=a) (b:=b) (c:=c) (f:=f) CX (.inl (AG t rfl g))) (d4 (CG _) H);show(match DJ (Qk (λd=>ev Φ 3 KG true d) (λd=>ev Φ 3 (.W 10) false d) 10) [.str t,v] (Et k sf P x sg a b c (.V (.list [.str t,v])) .U f)with|some (Q,o)=>(if([10].all λk=>EB (o.at k))=true then some (RV.M (.list Q),[10].foldl (λ(d:St)k=>d.set k .O) o)else none)|none=>none)=_;exact rL (e ..) (rL (zl ..) rfl)
theorem xu(h:∀r∈d,Io r)(e:d.length<=100000):
  ev (callF n) 3 (.C (.GZ (.W 10) KG 10 (.W 9)) 9 (.W 4)) false (Et k sf P (.N (.list d)) sg a b c .O .O .O)=some (.M (.list (d.map λr=> .list (Hl r))),Et k sf P (.V (.list d)) sg a b c .O .O .O):=Hz d id _ (λz=>Et k sf P (.V (.list d)) sg a b c z .O .O) rfl rfl (Xii d).symm (λU=>rfl) (λU U=>rfl) (by decide:9<12) (lin [d.length] 0x7b98e38090000000000895447801 rfl e) λr f=>xr (h r f)
theorem xt{ts:List (List Val)}(c:ts.length<=100000):
  ev (callF (n+2)) 3 (.C (.Q 41 0 [(.W 11)]) 11 (.W 8)) false (Et k sf P x sg a b (.V (.list (ts.map .list))) .O .O .O)=some (.M (.list (ts.map Dv)),Et k sf P x sg a b (.V (.list (ts.map .list))) .O .O .O):=Hz ts .list (λx=> .V (Dv x)) (λz=>Et k sf P x sg a b (.V (.list (ts.map .list))) .O .O z) rfl rfl rfl (λU=>rfl) (λU U=>rfl) (by decide:11<12) (Xcq c (by decide)) λx U=>qE [aC (@Q1 n k x)]
theorem Qb(st:Bool):PyData.strOk (Am st)=true/\Dr (.str (Am st))=true:=by cases st<;>decide+kernel
theorem Ii:(PyData.strOk "opt"=true/\Dr (.str "opt")=true)/\(PyData.strOk "rest"=true/\Dr (.str "rest")=true)/\(PyData.strOk "block"=true/\Dr (.str "block")=true)/\Dr (.str "")=false:=by decide+kernel
theorem tI(h:k<100):Dr (AL k)=true:=by haveI:=(Ha h).2.1;exact Xfv _ |>.mpr (Xd8.mpr this)
def Rc(r:Val)(t:List Val):Prop:=Io r/\Hl r=t
theorem QV(ha:PyData.strOk a=true/\Dr (.str a)=true)(L:k<100):Rc (.list [.str a,AL k]) [.str a,AL k]:=
 ⟨⟨a,AL k,rfl,ha.1,.inl ⟨B6 k,rfl,(Ha L).1⟩⟩,by show List.filter Dr [_,_]=_;refine rL (Xex ha.2) (rL (Xex (tI L)) ?_);rfl⟩
theorem dU(ha:PyData.strOk a=true/\Dr (.str a)=true)(I:s.Ok):Rc (Du a s) (DH a s):=by
 cases s with
 |Y k=>exact QV ha (I.1 k (Xey k))
 |GG r E p=>exact⟨⟨a,_,rfl,ha.1,.inr ⟨_,rfl⟩⟩,by haveI q:Dr (Spot.GG r E p).val=false:=rfl;show List.filter Dr [_,_]=_;refine rL (Xex ha.2) (rL (Xgh (q▸ Xeh)) ?_);rfl⟩
theorem yc{l:AI}(h:l.Ok)(st:Bool):(∀r∈l.rows st,Io r)/\(l.rows st).map Hl=l.told st:=by
 haveI g:=h.lt;have Y:∀J:List Spot,(∀s∈J,s.Ok)->(∀r∈J.map (Du (Am st)),Io r)/\(J.map (Du (Am st))).map Hl=J.map (DH (Am st)):=λJ I=>by
  constructor
  ·intro r a;refine AJ (Xdc.mp a) λs Y u=>?_;obtain rfl:=u;exact(dU (Qb st) (I s Y)).1
  ·exact rL Xdz (Xfh λs c=>(dU (Qb st) (I s c)).2)
 haveI O:=Y l.req λs I=>h.req I;haveI e:=Y l.post λs I=>h.post I;unfold AI.names at g;have d:∀k∈l.opt,Rc (.list [.str "opt",AL k]) [.str "opt",AL k]:=λk L=>QV Ii.1 (g k (by simp[L]));have a:(∀r∈Fh l.rest,Io r)/\(Fh l.rest).map Hl=GJ l.rest:=by
  rcases q:l.rest with _|_|k
  ·exact(AH (λr a=>(Xcu a).elim) rfl)
  ·exact(AH (λr a=>(CN _ _ (Xcc.mp a) Ii.2.1.1 (.inl ⟨_,rfl,Nk⟩))) rfl)
  ·have:=QV Ii.2.1 (g k (q▸ Jc));exact(AH (λr a=>rL (Xcc.mp a) this.1) (congrArg (λz=>[z]) this.2))
 have V:(∀r∈(Fz l.block).map Val.list,Io r)/\((Fz l.block).map Val.list).map Hl=Fz l.block:=by
  rcases q:l.block with _|k
  ·exact(AH (λr a=>(Xcu a).elim) rfl)
  ·have:=QV Ii.2.2.1 (g k (q▸ Wq));exact(AH (λr a=>rL (Xcc.mp a) this.1) (congrArg (λz=>[z]) this.2))
 constructor
 ·intro r b;unfold AI.rows at b;simp only[Xc2]at b;rcases b with(((q|q)|q)|q)|q
  ·exact O.1 r q
  ·refine AJ (Xdc.mp q) λk L u=>?_;obtain rfl:=u;exact(d k L).1
  ·exact a.1 r q
  ·exact e.1 r q
  ·exact V.1 r q
 ·unfold AI.rows AI.told;simp only[Xco];refine rL O.2 (rL a.2 (rL e.2 (rL V.2 ?_)))
  congr 4
  exact rL Xdz (Xfh λk L=>(d k L).2)
structure AI.Short(l:AI):Prop where
 req:l.req.length<=100
 post:l.post.length<=50
 opt:l.opt.length<=40
theorem yZ{l:AI}(h:l.Short)(st:Bool):(l.rows st).length<=1000:=by
 haveI:=h.req;haveI:=h.post;haveI:=h.opt;unfold AI.rows;haveI Y:(Fh l.rest).length<=1:=by rcases l.rest with _|_|_<;>first|exact Xc4 _|exact Xdd _
 haveI T:((Fz l.block).map Val.list).length<=1:=by cases l.block<;>first|exact Xc4 _|exact Xdd _
 simp only[Xci,EN]at*
 lia
theorem yA{n k:Nat}{l:AI}(m:l.Ok)(I:l.Short)(st:Bool):callF (n+3) 16 [.N (.Z k),.V (Hg l.val st),.V (.list [])]=some (.V (Dv ((l.told st).map Dv)),[.N (.Z k),.V (Hg l.val st),.V (.list [])]):=by
 haveI g:=yc m st;haveI d:=yZ I st;obtain⟨rq,C,E,B,O⟩:=l;generalize f:AI.val ⟨rq,C,E,B,O⟩=P;haveI V:rq.length<=100:=I.req;haveI M:B.length<=50:=I.post;haveI h:C.length<=40:=I.opt;generalize e:Hg P st=s;have j:∀v a b,ev (callF (n+2)) 3 (.A (.W 3) 49 0) false (DN k s P (Am st) v a b)=some (.V (.list (Spot.vals rq)),DN k s P (Am st) v a b)/\ev (callF (n+2)) 3 (.A (.W 3) 49 1) false (DN k s P (Am st) v a b)=some (.V (.list (C.map BK)),DN k s P (Am st) v a b)/\ev (callF (n+2)) 3 (.A (.W 3) 49 3) false (DN k s P (Am st) v a b)=some (.V (.list (Spot.vals B)),DN k s P (Am st) v a b):=by intro v a b;exact f▸ (AX rfl rfl rfl)
 refine AJ (d3 (acc:=[]) (b:= .U) CX (λx y=>(j x y _).1) (by simp;exact lin [rq.length] 2511007307206256748327790540801 rfl V)) λa1 G N=>GN (xq G CX (j ([]++rq.map (Du (Am st))) a1 .U).2.1 (by simp;exact lin [rq.length,C.length] 43798399824721042641949891087420504498305 rfl V h)) λa2 H T g2 A=>?_;have z:Ae (callF (n+2)) 3 200 (.X (.E (.A (.W 3) 49 2) true) [.PP 4 (.list [(.str "rest"),(.A (.W 3) 49 2)])] []) (DN k s P (Am st) ([]++rq.map (Du (Am st))++C.map λk=> .list [.str "opt",AL k]) a2 H)=some (.next,DN k s P (Am st) ([]++rq.map (Du (Am st))++C.map (λk=> .list [.str "opt",AL k])++Fh E) a2 H):=by
  refine rR f ?_;have Y:([]++rq.map (Du (Am st))++C.map λk=>Val.list [.str "opt",AL k]).length<=100000:=by simp only[Xci,EN,Xg4];exact lin [rq.length,C.length] 3229168422277033031905681570234235357786803329 rfl V h
  clear m I g d f;rcases E with _|_|k
  ·exact rL (show Fh none=[]from rfl) (rL (Xcz ..) (qS []))
  ·exact qS [aP Y]
  ·exact qS [aP Y]
 have J:(Fh E).length<=1:=by clear m I g d f z;rcases E with _|_|_<;>first|exact Xc4 _|exact Xdd _
 refine AJ (d3 (acc:=[]++rq.map (Du (Am st))++C.map (λk=> .list [.str "opt",AL k])++Fh E) (b:=H) T (λx y=>(j x y _).2.2) (by simp;exact lin [rq.length,C.length,(Fh E).length,B.length] 2448121964231608803377561205474866226484873862569012244792193 rfl V M h J)) λp f4 u=>?_;haveI L:Ae (callF (n+2)) 3 200 (.X (.E (.A (.W 3) 49 4) true) [.PP 4 (.list [(.str "block"),(.A (.W 3) 49 4)])] []) (DN k s P (Am st) ([]++rq.map (Du (Am st))++C.map (λk=> .list [.str "opt",AL k])++Fh E++B.map (Du (Am st))) p H)=some (.next,DN k s P (Am st) (AI.rows ⟨rq,C,E,B,O⟩ st) p H):=by
  refine rR f ?_;unfold AI.rows;haveI Y:([]++rq.map (Du (Am st))++C.map (λk=>Val.list [.str "opt",AL k])++Fh E++B.map (Du (Am st))).length<=100000:=by simp only[Xci,EN,Xg4];exact lin [rq.length,C.length,(Fh E).length,B.length] 180495136178868053855420832557250937146276826885532852903775159681 rfl V M h J
  cases O with
  |none=>exact rL (show(Fz none).map Val.list=[]from rfl) (rL (Xcz ..) (qS []))
  |some k=>exact qS [aP Y]
 haveI q:=xu (n:=n+2) (k:=k) (sf:=s) (P:=P) (sg:= .V (.str (Am st))) (a:=p) (b:=H) (c:= .U) g.1 (by lia);haveI D:(AI.rows ⟨rq,C,E,B,O⟩ st).map (λr=>Val.list (Hl r))=(AI.told ⟨rq,C,E,B,O⟩ st).map Val.list:=by refine rR g.2 (rL Xdz ?_);rfl
 replace q:=D▸ q;haveI i:(AI.told ⟨rq,C,E,B,O⟩ st).length<=100000:=by refine rR (g.2 ..) (rL (EN ..) ?_);lia
 haveI Q:=xt (n:=n) (k:=k) (sf:=s) (P:=P) (ts:=AI.told ⟨rq,C,E,B,O⟩ st) (x:= .V (.list (AI.rows ⟨rq,C,E,B,O⟩ st))) (sg:= .V (.str (Am st))) (a:=p) (b:=H) i;haveI t:ev (callF (n+2)) 3 (.A (.W 1) 193 6) false ([.N (.Z k),.V s,.V (.list [])]++List.replicate 6 .U++List.replicate 3 .O)=some (.V P,[.N (.Z k),.V s,.V (.list []),.U,.U,.U,.U,.U,.U,.O,.O,.O]):=e▸ rfl;haveI w:ev (callF (n+2)) 3 (.E (.W 3) true) true [.N (.Z k),.V s,.V (.list []),.V P,.N (.list []),.U,.U,.U,.U,.O,.O,.O]=some (.V (.bool true),[.N (.Z k),.V s,.V (.list []),.V P,.N (.list []),.U,.U,.U,.U,.O,.O,.O]):=f▸ rfl;have o:ev (callF (n+2)) 3 (.D (.A (.W 1) 193 13) (.str "req") (.str "opt")) false [.N (.Z k),.V s,.V (.list []),.V P,.N (.list []),.U,.U,.U,.U,.O,.O,.O]=some (.V (.str (Am st)),[.N (.Z k),.V s,.V (.list []),.V P,.N (.list []),.U,.U,.U,.U,.O,.O,.O]):=by
  refine rR e ?_;clear g d e j N A z u L q D i Q;cases st<;>exact rfl
 exact qC [aE t,aE w,aE o,aS N,aS A,aS z,aS u,aS L,aE q,aE Q,aC (@Q1 n k ((AI.told ⟨rq,C,E,B,O⟩ st).map Dv))]
noncomputable def Dh(k:Nat)(P:Val)(st:Bool)(pr a b c:Val)(due:List Val)(sg:Str)(sp:LV):St:=[.N (.Z k),.V P,.V (.bool st),.V pr,.V a,.V b,.V c,.N (.list due),.V (.str sg),sp,.O,.O,.O,.O]
noncomputable def Jn(k:Nat)(P:Val)(st:Bool)(pr a b c:Val)(due:List Val)(sg:Str)(sp:LV):St:=[.N (.Z k),.V P,.V (.bool st),.V pr,.V a,.V b,.V c,.V (.list due),.V (.str sg),sp,.O,.O,.O,.O]
section
variable {n k:Nat}{P pr a b c:Val}{st:Bool}{sg:Str}{acc:List Val}{sp:LV}
theorem fE(v:Af sp)(f:∀acc sp,ev (callF n) 3 it false (Dh k P st pr a b c acc sg sp)=some (.V (.list (Spot.vals ss)),Dh k P st pr a b c acc sg sp))(j:acc.length+ss.length<=10000):
  ∃s,Af s/\Ae (callF n) 3 200 (.FF 9 it [.PP 7 (.D (.J (.W 9) 0) (.list [(.W 8),(.W 9)]) (.list [(.W 8)]))]) (Dh k P st pr a b c acc sg sp)=some (.next,Dh k P st pr a b c (acc++(ss.map (DH sg)).map .list) sg s):=by
 obtain⟨o,e,L,t,rfl⟩:=JA (fuel:=200) (k:=9) (body:=[.PP 7 (.D (.J (.W 9) 0) (.list [(.W 8),(.W 9)]) (.list [(.W 8)]))]) (λi h=>∃sp,Af sp/\h=Dh k P st pr a b c (acc++((ss.take i).map (DH sg)).map .list) sg sp) (f acc sp) rfl (AG sp v (by simp)) (λi d h⟨sp,v,C⟩=>by
  subst C;have l:i<ss.length:=by rw[D0]at d;exact d
  refine(AH v.Ei (AG _ (rL (Qy d l) (rL (Xdi l) (rL Xco (rL Xco ?_)))) (AG (.V ss[i].val) (CG _) rfl)));have O:(((ss.take i).map (DH sg)).map Val.list).length<=i:=rL (EN ..) (rL (EN ..) (rL (Xdk ..) (lin [min i ss.length,i] 21743898625 rfl (Xe0 i ss.length))));generalize((ss.take i).map (DH sg)).map Val.list=q at*;haveI V:(acc++q).length<=100000:=rL Xci (lin [acc.length,q.length,ss.length,i] 0x1b76b371e4baad5210000000003e936f43a3440000000001ee63916081 rfl j l O);refine rR (Xc7 ..) ?_;cases m:ss[i]<;>exact qR [aP V])
 exact(AG L t (by rw[D0,Xdx]at e;exact e))
theorem zw{op:List Nat}(d:ev (callF n) 3 it false (Jn k P st pr a b c acc sg sp)=some (.V (.list (op.map BK)),Jn k P st pr a b c acc sg sp))(h:op.length<=900):
  ev (callF n) 3 (.CC (.list [(.str "opt"),(.W 11)]) 11 12 it) false (Jn k P st pr a b c acc sg sp)=some (.M (.list (op.map λk=> .list [.str "opt",AL k])),Jn k P st pr a b c acc sg sp):=by
 obtain⟨o,e,x,y,B,p,rfl⟩:=SY (elt:= .list [(.str "opt"),(.W 11)]) (λU f=>∃x y,Af x/\Af y/\f=[.N (.Z k),.V P,.V (.bool st),.V pr,.V a,.V b,.V c,.V (.list acc),.V (.str sg),sp,.O,x,y,.O]) (by decide) d (by rw[QJ];rfl) rfl rfl (by decide:11<14) (by decide:12<14) (by simp;exact lin [op.length] 22565635943629417201730098329601 rfl h) (CN .U .U CX CX rfl) (λi f⟨x,y,ha,V,C⟩=>rL C ⟨ha.put,V.put⟩) (λi g f⟨x,y,ha,V,C⟩=>by
  refine rL C ?_;have l:i<op.length:=by simpa using g
  refine(CN (.M (.list [.str "opt",AL op[i]])) [.N (.Z k),.V P,.V (.bool st),.V pr,.V a,.V b,.V c,.V (.list acc),.V (.str sg),sp,.O,.V (AL op[i]),.V .none,.O] ?_ ?_ (CN _ _ (CG _) (CG _) rfl))
  ·exact rL (Xei ..) rfl
  ·exact congrArg (λz=>Val.list [.str "opt",AL z]) (T9 l))
 rw[EN,VA op λj=>Val.list [.str "opt",AL j]]at e;exact e
end
theorem wx(h:j<100):De 1 (BK j)=true:=by show(PyData.strOk (B6 j)&&(true&&true))=true;refine rL ((Ha h).1) ?_;rfl
theorem vY{op:List Nat}(h:∀j∈op,j<100)(d:op.length<=900):B7 .NotEq (.list (op.map BK)) (.list [])=some (.bool (decide (0<op.length))):=by
 have Y:De 2 (.list (op.map BK))=true:=Kv.mpr ⟨by simpa using d,λx B=>by refine AJ (Xdc.mp B) λj G u=>?_;obtain rfl:=u;exact wx (h j G)⟩
 have t:=QI Y;have I:SeqAt.shaped (Val.list (op.map BK)).toPy=true:=by unfold SeqAt.shaped;refine rL t.2.1 (rL (Xcy (Xcq t.2.2.1 (by decide))) ?_);rfl
 show(if(Val.list (op.map BK)).plain&&(Val.list []).plain&&SeqAt.shaped (Val.list (op.map BK)).toPy&&SeqAt.shaped (Val.list []).toPy then some (Val.bool (!PyData.eqv (Val.list (op.map BK)).toPy (Val.list []).toPy))else none)=_;refine rL (Xck (by refine rL (t.1 ..) (rL (I ..) ?_);rfl)) ?_;cases op with
 |nil=>rfl
 |cons x e=>rfl
theorem vX(i j:Int):B7 .NotEq (.int i) (.int j)=some (.bool (!(i==j))):=rfl
theorem dR(re:Option (Option Nat)):(GJ re).length<=1:=by rcases re with _|_|_<;>first|exact Xc4 _|exact Xdd _
theorem Ws(O:Option Nat):(Fz O).length<=1:=by cases O<;>first|exact Xc4 _|exact Xdd _
theorem vW(st:Bool):B7 .NotEq (.bool st) (.bool st)=some (.bool false):=by cases st<;>rfl
theorem f9{l:AI}(I:l.Short)(st:Bool):(l.told st).length<=895:=by
 haveI:=I.req;haveI:=I.post;haveI:=I.opt;unfold AI.told;haveI Y:(GJ l.rest).length<=1:=dR _;haveI T:(Fz l.block).length<=1:=Ws _;simp only[Xci,EN]at*
 lia
theorem zv{l:AI}(e:l.Ok)(I:l.Short)(st:Bool):De 2 (.list ((l.told st).map .list))=true:=by
 haveI g:=e.lt;haveI T:∀{a:Str}{j:Nat},PyData.strOk a=true->j<100->De 1 (.list [.str a,AL j])=true:=λ{a j}ha G=>by show(PyData.strOk a&&(PyData.strOk (B6 j)&&true))=true;refine rL ha (rL ((Ha G).1) ?_);rfl
 haveI Y:∀{a:Str},PyData.strOk a=true->De 1 (.list [.str a])=true:=λ{a}ha=>by show(PyData.strOk a&&true)=true;refine rL ha ?_;rfl
 have v:∀s:Spot,s.Ok->De 1 (.list (DH (Am st) s))=true:=λs I=>by
  cases s with
  |Y j=>exact T (Qb st).1 (I.1 j (Xey j))
  |GG r E p=>exact Y (Qb st).1
 refine Kv.mpr ⟨by refine rL (EN ..) ?_;haveI:=f9 I st;exact lin [(l.told st).length] 0x8d9e4067a5801 rfl this,λx B=>?_⟩;refine AJ (Xdc.mp B) λt f u=>rR u ?_;unfold AI.told at f;simp only[Xc2]at f;unfold AI.names at g;rcases f with(((q|q)|q)|q)|q
 ·refine AJ (Xdc.mp q) λs z u=>?_;obtain rfl:=u;exact v s (e.req z)
 ·refine AJ (Xdc.mp q) λj z u=>?_;obtain rfl:=u;exact T Ii.1.1 (g j (by simp[z]))
 ·rcases d:l.rest with _|_|j
  ·replace q:=d▸ q;exact(Xcu q).elim
  ·replace q:=d▸ q;exact rL (Xcc.mp q) (Y Ii.2.1.1)
  ·replace q:=d▸ q;exact rL (Xcc.mp q) (T Ii.2.1.1 (g j (d▸ Jc)))
 ·refine AJ (Xdc.mp q) λs z u=>?_;obtain rfl:=u;exact v s (e.post z)
 ·rcases V:l.block with _|j
  ·replace q:=V▸ q;exact(Xcu q).elim
  ·replace q:=V▸ q;exact rL (Xcc.mp q) (T Ii.2.2.1.1 (g j (V▸ Wq)))
theorem oK{st:Bool}{ts:List (List Val)}(h:callF n 16 [.N (.Z k),.V pr,.V (.list [])]=some (.V (Dv (ts.map Dv)),[.N (.Z k),.V pr,.V (.list [])]))(d:ts.length<=100000):
  ev (callF n) 3 (.C (.A (.W 13) 114 6) 13 (.A (.call 16 [(.W 0),(.W 3),(.list [])]) 114 6)) false [.N (.Z k),.V P,.V (.bool st),.V pr,.V a,.V b,.V c,.N (.list due),.V sg,sp,.O,.O,.O,.O]=some (.M (.list (ts.map .list)),[.N (.Z k),.V P,.V (.bool st),.V pr,.V a,.V b,.V c,.N (.list due),.V sg,sp,.O,.O,.O,.O]):=Hz ts Dv (λx=> .V (.list x)) (λz=>[.N (.Z k),.V P,.V (.bool st),.V pr,.V a,.V b,.V c,.N (.list due),.V sg,sp,.O,.O,.O,z]) (r:= .V (.list (ts.map Dv))) (qE [aC h]) rfl rfl (λU=>rfl) (λU U=>rfl) (by decide:13<14) (Xcq d (by decide)) λx U=>rfl
theorem zu{n k:Nat}{l:AI}(g:l.Ok)(I:l.Short)(st:Bool):callF (n+5) 30 [.N (.Z k),.V l.val,.V (.bool st)]=some (.V (.bool true),[.N (.Z k),.V l.val,.V (.bool st)]):=by
 haveI o:= @xy (n+3) k l st;haveI x:= @xv n k l st;haveI Q:= @yA (n+1) k l g I st;haveI N:= @yB (n+2) k l.val st;haveI u:= @Mz (n+3) l;haveI U:=f9 I st;haveI rA:=zv g I st;haveI w:=g.lt;haveI y:l.arity st=if l.more st then -(l.counts.1:Int) - 1 else l.counts.1:=rfl
 haveI D:l.more st=(l.rest.isSome||(st&&decide (0<l.opt.length))):=rfl;generalize q:l.told st=T at*;unfold AI.told at q;generalize l.counts.1=i at*;generalize C8 l.counts.2=d at*;generalize l.arity st=ar at*;generalize l.more st=e at*;obtain⟨rq,C,E,B,O⟩:=l;unfold AI.names at w;generalize p:AI.val ⟨rq,C,E,B,O⟩=P at*;generalize f:Hg P st=m at*;haveI V:rq.length<=100:=I.req;haveI M:B.length<=50:=I.post;haveI h:C.length<=40:=I.opt;haveI rB:∀j∈C,j<100:=λj hj=>w j (by simp[hj]);simp only at q D;have r:∀v H,ev (callF (n+4)) 3 (.A (.W 1) 49 0) false (Dh k P st m (.int i) d (.bool e) v (Am st) H)=some (.V (.list (Spot.vals rq)),Dh k P st m (.int i) d (.bool e) v (Am st) H)/\ev (callF (n+4)) 3 (.A (.W 1) 49 3) false (Dh k P st m (.int i) d (.bool e) v (Am st) H)=some (.V (.list (Spot.vals B)),Dh k P st m (.int i) d (.bool e) v (Am st) H)/\ev (callF (n+4)) 3 (.A (.W 1) 49 1) false (Jn k P st m (.int i) d (.bool e) v (Am st) H)=some (.V (.list (C.map BK)),Jn k P st m (.int i) d (.bool e) v (Am st) H):=by intro v H;clear u f N;subst p;exact(AX rfl rfl rfl)
 haveI FY:=vY rB (lin [C.length] 0x65ac067a5801 rfl h);haveI A:Ae (callF (n+4)) 3 200 (.G 6 (.or (.E (.A (.W 1) 49 2) true) (.and (.W 2) (.K .NotEq (.A (.W 1) 49 1) (.list []))))) [.N (.Z k),.V P,.V (.bool st),.V m,.V (.int i),.V d,.U,.U,.U,.U,.O,.O,.O,.O]=some (.next,[.N (.Z k),.V P,.V (.bool st),.V m,.V (.int i),.V d,.V (.bool e),.U,.U,.U,.O,.O,.O,.O]):=by
  refine rL D (rR p ?_);clear q r f o N D p g I w;rcases E with _|_|j<;>cases st<;>first|exact rfl|exact qS [aM FY]
 haveI e3:Ae (callF (n+4)) 3 200 (.K6 7 8 10 (.list []) (.D (.W 2) (.str "req") (.str "opt"))) [.N (.Z k),.V P,.V (.bool st),.V m,.V (.int i),.V d,.V (.bool e),.U,.U,.U,.O,.O,.O,.O]=some (.next,Dh k P st m (.int i) d (.bool e) [] (Am st) .U):=
  by clear q r f o N D A;cases st<;>rfl
 refine AJ (fE (acc:=[]) CX (λa s=>(r a s).1) (by simp;exact lin [rq.length] 2511007307206256748327790540801 rfl V)) λz f4 e4=>?_;haveI e5:Ae (callF (n+4)) 3 200 (.FK 7 (.B .Add (.W 7) (.CC (.list [(.str "opt"),(.W 11)]) 11 12 (.A (.W 1) 49 1)))) (Dh k P st m (.int i) d (.bool e) ([]++(rq.map (DH (Am st))).map .list) (Am st) z)=some (.next,Dh k P st m (.int i) d (.bool e) ((rq.map (DH (Am st))).map .list++C.map λk=> .list [.str "opt",AL k]) (Am st) z):=by
  haveI g:=zw (r ((rq.map (DH (Am st))).map .list) z).2.2 (lin [C.length] 111789517461505 rfl h);haveI hl:((rq.map (DH (Am st))).map Val.list).length+(C.map λk=>Val.list [.str "opt",AL k]).length<=1000000:=by simp;exact lin [rq.length,C.length] 43798399824721042641949891108441831858305 rfl V h
  exact qS [aE g,aB (EF hl)]
 haveI e6:Ae (callF (n+4)) 3 200 (.X (.E (.A (.W 1) 49 2) true) [.PP 7 (.B .Add (.list [(.str "rest")]) (.B .Mult (.list [(.A (.W 1) 49 2)]) (.F .toInt (.K .NotEq (.A (.W 1) 49 2) (.str "")))))] []) (Dh k P st m (.int i) d (.bool e) ((rq.map (DH (Am st))).map .list++C.map λk=> .list [.str "opt",AL k]) (Am st) z)=some (.next,Dh k P st m (.int i) d (.bool e) ((rq.map (DH (Am st))).map .list++C.map (λk=> .list [.str "opt",AL k])++(GJ E).map .list) (Am st) z):=by
  have Y:((rq.map (DH (Am st))).map Val.list++C.map λk=>Val.list [.str "opt",AL k]).length<=100000:=by simp;exact lin [rq.length,C.length] 43798399824721042641949891089331534258305 rfl V h
  refine rR p ?_;clear q r f o N D A p g I;rcases E with _|_|j
  ·exact rL (show GJ none=[]from rfl) (rL (Xhg ..) (rL (Xcz ..) (qS [])))
  ·exact qS [aM NA,aP Y]
  ·exact qS [aM (NB (w j Jc)),aP Y]
 haveI J:=dR E;refine AJ (fE (acc:=(rq.map (DH (Am st))).map .list++C.map (λk=> .list [.str "opt",AL k])++(GJ E).map .list) f4 (λa s=>(r a s).2.1) (by simp;exact lin [rq.length,C.length,(GJ E).length,B.length] 2448121964231608803377561205474866226484873862569012244792193 rfl V M h J)) λt f7 e7=>?_;have e8:Ae (callF (n+4)) 3 200 (.FK 7 (.B .Add (.W 7) (.D (.E (.A (.W 1) 49 4) false) (.list []) (.list [(.list [(.str "block"),(.A (.W 1) 49 4)])])))) (Dh k P st m (.int i) d (.bool e) ((rq.map (DH (Am st))).map .list++C.map (λk=> .list [.str "opt",AL k])++(GJ E).map .list++(B.map (DH (Am st))).map .list) (Am st) t)=some (.next,Dh k P st m (.int i) d (.bool e) (T.map .list) (Am st) t):=by
  have Y:((rq.map (DH (Am st))).map Val.list++C.map (λk=>Val.list [.str "opt",AL k])++(GJ E).map Val.list++(B.map (DH (Am st))).map Val.list).length+((Fz O).map Val.list).length<=1000000:=by have:=Ws O;simp only[Xci,EN];exact lin [rq.length,C.length,(GJ E).length,B.length,(Fz O).length] 0xfb21bda9ccdcc49ffe74babf7afcc2fea90000000dbf9906273b1998181 rfl V M h J this
  refine rR p (rR q (rL Xco (rL Xco (rL Xco (rL Xco (rL (Xdz (l:=C)) ?_))))));clear q D p g I w r;cases O<;>exact qS [aB (EF Y)]
 haveI e9:Ae (callF (n+4)) 3 200 (.X (.or (.K .NotEq (.call 14 [(.W 0),(.W 3),(.list [])]) (.W 2)) (.K .NotEq (.call 15 [(.W 0),(.W 3),(.list [])]) (.D (.W 6) (.B .Sub (.B .Sub (.int 0) (.W 4)) (.int 1)) (.W 4)))) [.ret (.bool false)] []) (Dh k P st m (.int i) d (.bool e) (T.map .list) (Am st) t)=some (.next,Dh k P st m (.int i) d (.bool e) (T.map .list) (Am st) t):=by
  haveI hb:=vW st;haveI G:B7 .NotEq (.int ar) (.int (if e then -(i) - 1 else i))=some (.bool false):=by refine rL (y ..) (rL (vX ..) ?_);simp
  haveI hz:(0) - i - 1= -(i:Int) - 1:=by lia
  clear y D r A e3 e4 e5 e6 e7 e8;cases e with
  |true=>
   replace G:=hz▸ G;exact qS [aC o,aM hb,aC x,aM G]
  |false=>exact qS [aC o,aM hb,aC x,aM G]
 haveI L:Ae (callF (n+4)) 3 200 (.ret (.K .Eq (.C (.A (.W 13) 114 6) 13 (.A (.call 16 [(.W 0),(.W 3),(.list [])]) 114 6)) (.W 7))) (Dh k P st m (.int i) d (.bool e) (T.map .list) (Am st) t)=some (.ret (.V (.bool true)),Jn k P st m (.int i) d (.bool e) (T.map .list) (Am st) t):=by haveI hg:=oK (P:=P) (a:= .int (i:Int)) (b:=d) (c:= .bool e) (sg:= .str (Am st)) (st:=st) (due:=T.map .list) (sp:=t) Q (lin [T.length] 0x11b3c80900000000000dbba7801 rfl U);haveI he:=Xm rA (by decide);exact qS [aE hg,aM he]
 exact qC [aC N,aC u,aS A,aS e3,aS e4,aS e5,aS e6,aS e7,aS e8,aS e9,aS L]
noncomputable def itemsOf:Val->List Val
 | .list a=>a
 |v=>[v]
noncomputable def Au(c:Nat×Option Nat)(xs:List Val):List Val:=if xs.length<c.1 then xs++List.replicate (c.1 - xs.length) .none else match c.2 with
 |none=>xs
 |some m=>xs.take m
mutual
noncomputable def AP:Val->Val
 | .list a=>Dv (Vr a)
 | .none=> .none
 | .bool b=> .bool b
 | .int i=> .int i
 | .str s=> .str s
 | .T a=> .T a
 | .dict d a=> .dict d a
 | .I c a=> .I c a
 | .any=> .any
noncomputable def Vr:List Val->List Val
 | []=>[]
 |x::a=>AP x::Vr a
end
theorem f0:∀xs:List Val,Vr xs=xs.map AP
 | []=>rfl
 |x::xs=>congrArg (AP x::·) (f0 xs)
theorem LJ(xs:List Val):AP (.list xs)=Dv (xs.map AP):=congrArg Dv (f0 xs)
noncomputable def NJ:Nat->Val->Bool
 |_,.none|_,.int _=>true
 |d+1,.list a=>decide (a.length<=400)&&a.all (NJ d)
 |_,_=>false
theorem wy:NJ (d+1) (.list xs)=true ↔ xs.length<=400/\∀x∈xs,NJ d x=true:=
 ⟨λh=>⟨Xcj (al h),Xce.mp (ar h)⟩,λh=>(Xdn.mpr ⟨Xcy h.1,Xce.mpr h.2⟩)⟩
inductive Ah:Nat->Val->Prop
 |none {d}:Ah d .none
 |int {d i}:Ah d (.int i)
 |list {d xs}:xs.length<=400->(∀x∈xs,Ah d x)->Ah (d+1) (.list xs)
theorem Ah.mono(h:Ah d v)(ZF:d<=e):Ah e v:=by
 induction h generalizing e with
 |none=>exact .none
 |int=>exact .int
 |list hl _ ih=>
  refine AB λkk=>?_;obtain⟨e,rfl⟩:∃k,e=k+1:=⟨e - 1,by exact Xdl (lin [e,e - 1] 0xf17520a217d9001 rfl (sA e 1)) (lin [e - 1,e] 0x66867e31ac203f081 rfl (sB (lin [e,d_1] 19665657004481 rfl ZF)))⟩;exact kk (.list hl λx hx=>ih x hx (lin [d_1,e] 0xf17522374899001 rfl ZF))
theorem Ah.De(h:Ah d v):De d v=true:=by
 induction h with
 | @none d=>cases d<;>rfl
 | @int d i=>cases d<;>rfl
 |list a _ b=>exact Kv.mpr ⟨by exact lin [xs.length] 0x3f4ec067a5801 rfl a,b⟩
theorem Ah.items(h:Ah (d+1) v):∀x∈itemsOf v,Ah (d+1) x:=by
 cases h with
 |none=>intro x a;cases Xcc.mp a;exact .none
 |int=>intro x a;cases Xcc.mp a;exact .int
 |list b h=>intro x a;exact(h x a).mono (lin [d] 24784897 rfl)
theorem Ah.Pn(h:Ah d v):(itemsOf v).length<=400:=by
 cases h with
 |none=>decide
 |int=>exact Xch rfl
 |list a h=>exact a
theorem zq:∀{d:Nat}{v:Val}n,Ah d v->callF (n+d+3) 27 [.N (.Z k),.V v]=some (.V (AP v),[.N (.Z k),.V v]):=by
 intro d v n h;induction h generalizing n with
 |none=>exact qC []
 |int=>exact qC []
 | @list d a c h Q=>
  have e:=Hz (Φ:=callF (n+d+3)) (np:=2) (elt:= .call 27 [(.W 0),(.W 2)]) (it:= .W 1) (b:=false) (σ:=[.N (.Z k),.V (.list a),.O]) a id (λx=> .V (AP x)) (λz=>[.N (.Z k),.V (.list a),z]) rfl rfl (Xii a).symm (λU=>rfl) (λU U=>rfl) (by decide:2<3) (lin [a.length] 0x7e9d8090000000000895447801 rfl c) λx B=>qE [aC (Q x B n)];exact rL (LJ ..) (qC [aE e,aC (@Q1 (n+d+1) k (a.map AP))])
theorem xo:∀{d:Nat}{v:Val}n,Ah d v->callF (n+d+1) 26 [.V (AP v)]=some (.V v,[.V (AP v)]):=by
 intro d v n h;induction h generalizing n with
 |none=>exact qC []
 |int=>exact qC []
 | @list d a b h Q=>
  refine rL (LJ ..) ?_;have e:ev (callF (n+d+1)) 1 (.C (.call 26 [(.W 1)]) 1 (.A (.W 0) 114 6)) false [.V (Dv (a.map AP)),.O]=some (.M (.list (a.map λx=>x)),[.V (Dv (a.map AP)),.O]):=Hz a AP (λx=> .V x) (λz=>[.V (Dv (a.map AP)),z]) rfl rfl rfl (λU=>rfl) (λU U=>rfl) (by decide:1<2) (lin [a.length] 0x7e9d8090000000000895447801 rfl b) λx B=>qE [aC (Q x B n)];rw[List.map_id']at e;exact qC [aE e]
theorem AI.Short.small{l:AI}(h:l.Short):l.small:=by haveI a:=h.req;haveI f:=h.post;haveI i:=h.opt;unfold AI.small;exact lin [l.req.length,l.post.length,l.opt.length] 0x2dd3ea4e7365f3b8877ce4c9444a999581 rfl a f i
theorem AI.Short.c1{l:AI}(h:l.Short):l.counts.1<=150:=by haveI a:=h.req;haveI f:=h.post;show l.req.length+l.post.length<=150;exact lin [l.req.length,l.post.length] 0x505fc07ca7b0ade116081 rfl a f
theorem eI{m:Nat}(h:m<=1000):Cw (m:Int)=true:=by unfold Cw;exact Xcy (by refine rL (Int.natAbs_natCast ..) ?_;lia)
theorem nB(m:Nat):(List.replicate m [Val.none]).flatten=List.replicate m Val.none:=by
 induction m with
 |zero=>rfl
 |succ m Q=>simp[Xe1,Q]
theorem Sa(l:AI):l.counts.2=none\/∃m,l.counts.2=some m/\l.counts.1<=m:=by
 show NQ l.rest (l.req.length+l.post.length+l.opt.length)=none\/_;rcases q:l.rest with _|r
 ·right
  refine⟨l.req.length+l.post.length+l.opt.length,?_,?_⟩
  ·show NQ l.rest _=_;refine rL q ?_;rfl
  ·show l.req.length+l.post.length<=_;exact lin [l.req.length,l.post.length,l.opt.length] 0xce198f76081 rfl
 ·left;rfl
theorem YQ{l:AI}(I:l.Short)(B:xs.length<=900):callF (n+3) 9 [.V (.list xs),.V l.val]=some (.V (.list (Au l.counts xs)),[.V (.list xs),.V l.val]):=by
 haveI Q:= @N2 (n+1) l;haveI Y:= @Py n l;haveI y:=I.c1;haveI t:=Sa l;generalize h:l.counts=c at*;obtain⟨i,a⟩:=c;simp only at Q Y y t;generalize l.val=P at*;by_cases q:xs.length<i
 ·haveI b:decide (i - (xs.length:Int)>0)=true:=Xcy (by lia);haveI k:(i - (xs.length:Int)).toNat=i - xs.length:=by lia
  haveI d:Cw (i - xs.length)=true:=(show i - xs.length=((i - xs.length:Nat):Int) by lia)▸ eI (lin [i - xs.length,i] 0xb6415bc22c6b29801 rfl y (Xgt i xs.length));haveI U:B7 .Gt (.int (i - xs.length)) (.int 0)=some (.bool true):=by refine rR b ?_;rfl
  haveI D:Bq .Mult (.list [.none]) (.int (i - xs.length))=some (.M (.list (List.replicate (i - xs.length) .none))):=by
   show(if [Val.none].length*(i - (xs.length:Int)).toNat<=1000000/\Cw (i - xs.length)=true then some (RV.M (.list (List.replicate ((i:Int) - (xs.length:Int)).toNat [Val.none]).flatten))else none)=_;exact rL (Xck ⟨by rw[k];simp;exact lin [i,xs.length] 0x6ae7e1584000000000337f9b0001 rfl y,d⟩ ..) (rL (k ..) (rL (nB ..) rfl))
  have ha:Bq .Add (.list xs) (.list (List.replicate (i - xs.length) .none))=some (.M (.list (xs++List.replicate (i - xs.length) .none))):=EF (by simp;exact lin [xs.length,i - xs.length,i] 0x1cfbad02248e32d7614400000000134fda116081 rfl B y (Xgt i xs.length));exact rL (show Au (i,a) xs=_ from Xck q) (qC [aC Y,aC Q,aM U,aB D,aB ha])
 ·haveI b:decide ((i:Int) - (xs.length:Int)>0)=false:=Xc1 (by lia);have U:B7 .Gt (.int ((i:Int) - (xs.length:Int))) (.int 0)=some (.bool false):=by refine rR b ?_;rfl
  refine rL (show Au (i,a) xs=_ from Xcm q) ?_;clear h t;cases a<;>exact qC [aC Y,aC Q,aM U]
theorem YO{c1:Nat}:∀m k xs,c1 - xs.length=m->c1<=1000/\xs.length<=10000->m<k->
  F0 (λσ=>ev Φ 2 (.K .Lt (.F .L (.W 1)) (.W 2)) true σ) (λσ=>Bv Φ 2 200 [.G 1 (.B .Add (.W 1) (.list [.none]))] σ) k [.V P,.V (.list xs),.V (.int c1),.V mo]=some (.next,[.V P,.V (.list (xs++List.replicate m .none)),.V (.int c1),.V mo])
 |m,0,xs,_,_,L=>absurd L (Nat.not_lt_of_le (lin [m] 65 rfl))
 |0,k+1,xs,D,_,L=>by
  haveI Q:decide (xs.length<(c1:Int))=false:=Xc1 (by lia);have U:B7 .Lt (.int xs.length) (.int c1)=some (.bool false):=by refine rR Q ?_;rfl
  haveI a:ev Φ 2 (.K .Lt (.F .L (.W 1)) (.W 2)) true [.V P,.V (.list xs),.V (.int c1),.V mo]=some (.V (.bool false),[.V P,.V (.list xs),.V (.int c1),.V mo]):=qE [aM U];exact rL (lJ a ..) (rL (List.replicate_zero ..) (rL (Xcz ..) rfl))
 |m+1,k+1,xs,D,V,L=>by
  haveI Q:decide (xs.length<(c1:Int))=true:=Xcy (by lia);haveI U:B7 .Lt (.int xs.length) (.int c1)=some (.bool true):=by refine rR Q ?_;rfl
  haveI ha:Bq .Add (.list xs) (.list [.none])=some (.M (.list (xs++[.none]))):=EF (by simp;exact lin [xs.length] 0xc5c53809000000000089543e801 rfl V.2);haveI b:=YO (Φ:=Φ) (P:=P) (mo:=mo) m k (xs++[.none]) (by simp;lia) ⟨V.1,by simp;lia⟩ (lin [m,k] 0x131983f4daaf577ac203f081 rfl L);haveI a:ev Φ 2 (.K .Lt (.F .L (.W 1)) (.W 2)) true [.V P,.V (.list xs),.V (.int c1),.V mo]=some (.V (.bool true),[.V P,.V (.list xs),.V (.int c1),.V mo]):=qE [aM U];haveI t:Bv Φ 2 200 [.G 1 (.B .Add (.W 1) (.list [.none]))] [.V P,.V (.list xs),.V (.int c1),.V mo]=some (.next,[.V P,.V (.list (xs++[.none])),.V (.int c1),.V mo]):=qR [aB ha];refine rL (lK a t ..) (rL (b ..) (rL (Xc7 ..) ?_));rfl
theorem au{l:AI}(I:l.Short)(B:xs.length<=900):∃w,callF (n+2) 23 [.V l.val,.V (.list xs)]=some (.V (.list (Au l.counts xs)),[.V l.val,.V w]):=by
 haveI p:= @Mz n l;haveI y:=I.c1;haveI t:=Sa l;generalize h:l.counts=c at*;obtain⟨i,a⟩:=c;simp only at p y t;generalize l.val=P at*;have N:Ae (callF (n+1)) 2 200 (.Ec 2 3 (.call 22 [(.W 0)])) ([.V P,.V (.list xs)]++List.replicate 2 .U++List.replicate 0 .O)=some (.next,[.V P,.V (.list xs),.V (.int i),.V (C8 a)]):=qS [aC p];have A:Ae (callF (n+1)) 2 200 (.Jp (.K .Lt (.F .L (.W 1)) (.W 2)) [.G 1 (.B .Add (.W 1) (.list [.none]))]) [.V P,.V (.list xs),.V (.int i),.V (C8 a)]=some (.next,[.V P,.V (.list (xs++List.replicate (i - xs.length) .none)),.V (.int i),.V (C8 a)]):=YO (i - xs.length) 200 xs rfl ⟨by exact lin [i] 417934790006785 rfl y,by exact lin [xs.length] 0x11cd18090000000000015f97801 rfl B⟩ (lin [i - xs.length,i] 0xcd09873a71d8eab03f081 rfl y (Xgt i xs.length));haveI z:Ae (callF (n+1)) 2 200 (.ret (.D (.E (.W 3) false) (.W 1) (.H8 (.W 1) (.W 3)))) [.V P,.V (.list (xs++List.replicate (i - xs.length) .none)),.V (.int i),.V (C8 a)]=some (.ret (.V (.list (Au (i,a) xs))),[.V P,.V (.list (xs++List.replicate (i - xs.length) .none)),.V (.int i),.V (C8 a)]):=by
  clear h p N A;rcases t with rfl|⟨m,rfl,D⟩
  ·haveI:Au (i,none) xs=xs++List.replicate (i - xs.length) Val.none:=by
    unfold Au;by_cases q:xs.length<i
    ·exact rL (Xck q) rfl
    ·refine rL (Xcm q) (rL (show i - xs.length=0 by exact Xdl (lin [i - xs.length] 463931971585 rfl (sC (lin [i,xs.length] 21743898625 rfl (Xdh q)))) (lin [i - xs.length] 65 rfl)) ?_);simp
   exact rL this rfl
  ·haveI:Au (i,some m) xs=(xs++List.replicate (i - xs.length) Val.none).take m:=by
    unfold Au;by_cases q:xs.length<i
    ·exact rL (Xck q) (rL (List.take_of_length_le (by simp;lia)) rfl)
    ·refine rL (Xcm q) (rL (show i - xs.length=0 by exact Xdl (lin [i - xs.length] 463931971585 rfl (sC (lin [i,xs.length] 21743898625 rfl (Xdh q)))) (lin [i - xs.length] 65 rfl)) ?_);simp
   exact rL this rfl
 exact⟨.list (xs++List.replicate (i - xs.length) .none),qC [aS N,aS A,aS z]⟩
theorem se(h:Ah d v):callF (n+1) 10 [.V (AP v)]=some (.V (.list ((itemsOf v).map AP)),[.V (AP v)]):=by
 refine rL (Wy rfl rfl (by decide) (by decide) (by decide)) ?_;cases h with
 |none=>exact rfl
 |int=>exact rfl
 |list a h=>
  exact rL (LJ ..) rfl
theorem YN:Au c (xs.map AP)=(Au c xs).map AP:=by
 unfold Au;refine rL (EN ..) ?_;by_cases q:xs.length<c.1
 ·refine rL (Xck q) (rL (Xck q) (rL Xco (rL List.map_replicate ?_)));rfl
 ·refine rL (Xcm q) (rL (Xcm q) ?_);cases c.2 with
  |none=>rfl
  |some m=>simp
abbrev Bd:=List (Str×Val)
noncomputable def dk(D:Bd):List Str:=D.map (·.1)
noncomputable def dv(D:Bd):List Val:=D.map (·.2)
theorem I3(D E:Bd):dk (D++E)=dk D++dk E:=by simp[dk]
theorem Xc:∀{D:Bd},k∉dk D->Cr k x (dk D) (dv D)=(dk (D++[(k,x)]),dv (D++[(k,x)]))
 | [],_=>rfl
 | (G,y)::D,h=>by
  have Y:G≠k:=λe=>h (by simp[dk,e]);have T:=λe=>h (by simp only[dk,Xde,Xcs];exact .inr e);have Q:=Xc (x:=x) T;show(if G=k then(G::dk D,x::dv D)else(G::(Cr k x (dk D) (dv D)).1,y::(Cr k x (dk D) (dv D)).2))=_;refine rL (Xcm Y) (rL Q ?_);rfl
theorem NO(L:k∉dk D)(a:D.length<=100000):(dk D).length<=100000/\Cr k x (dk D) (dv D)=(dk (D++[(k,x)]),dv (D++[(k,x)])):=⟨by unfold dk;refine rL (EN ..) ?_;exact a,Xc L⟩
def EC(re:Option (Option Nat))(ys:List Val):Bd:=match re with
 |some (some k)=>[(B6 k,.list ys)]
 |_=>[]
def Df(op:List Nat)(ys:List Val):Bd:=op.zipWith (λk v=>(B6 k,v)) ys
noncomputable def Bi(a b:Nat)(xs:List Val):List Val:=(xs.drop a).take (xs.length - b - a)
noncomputable def EU(b:Nat)(xs:List Val):List Val:=xs.drop (xs.length - b)
mutual
noncomputable def Spot.bd(o:Bool):Spot->Val->Bd
 | .Y n,v=>[(B6 n,v)]
 | .GG r a p,v=>
  (if o then EC a (Bi r.length p.length (Au (gl r a p).counts (itemsOf v)))else [])++Spot.Bx o r (Au (gl r a p).counts (itemsOf v))++
   (if o then []else EC a (Bi r.length p.length (Au (gl r a p).counts (itemsOf v))))++Spot.Bx o p (EU p.length (Au (gl r a p).counts (itemsOf v)))
noncomputable def Spot.Bx(o:Bool):List Spot->List Val->Bd
 | [],_=>[]
 |_::_,[]=>[]
 |s::ss,v::vs=>s.bd o v++Spot.Bx o ss vs
end
noncomputable def AI.given(l:AI)(xs:List Val):Nat:=min l.opt.length (xs.length - l.req.length - l.post.length)
def AI.IX(l:AI)(xs:List Val):Bd:=EC l.rest (Bi (l.req.length+l.given xs) l.post.length xs)
def AI.bd(o:Bool)(l:AI)(xs:List Val):Bd:=
 (if o then l.IX xs else [])++Spot.Bx o l.req xs++Df (l.opt.take (l.given xs)) (xs.drop l.req.length)++(if o then []else l.IX xs)++Spot.Bx o l.post (EU l.post.length xs)
theorem M6:(Spot.GG r re p).bd false v=Spot.Bx false r (Au (gl r re p).counts (itemsOf v))++EC re (Bi r.length p.length (Au (gl r re p).counts (itemsOf v)))++Spot.Bx false p (EU p.length (Au (gl r re p).counts (itemsOf v))):=rfl
theorem S8:(Spot.GG r re p).bd true v=EC re (Bi r.length p.length (Au (gl r re p).counts (itemsOf v)))++Spot.Bx true r (Au (gl r re p).counts (itemsOf v))++Spot.Bx true p (EU p.length (Au (gl r re p).counts (itemsOf v))):=by show(_++_)++[]++_=_;refine rL (Xcz ..) ?_;rfl
theorem Q0{l:AI}:l.bd false xs=Spot.Bx false l.req xs++Df (l.opt.take (l.given xs)) (xs.drop l.req.length)++l.IX xs++Spot.Bx false l.post (EU l.post.length xs):=rfl
theorem b8{l:AI}:l.bd true xs=l.IX xs++Spot.Bx true l.req xs++Df (l.opt.take (l.given xs)) (xs.drop l.req.length)++Spot.Bx true l.post (EU l.post.length xs):=by show(_++_++_)++[]++_=_;refine rL (Xcz ..) ?_;rfl
theorem Yw:(gl r re p).IX xs=EC re (Bi r.length p.length xs):=by show EC re (Bi (r.length+min 0 _) p.length xs)=_;refine rL (Nat.zero_min ..) ?_;rfl
theorem Yu(o:Bool)(r:List Spot)(re:Option (Option Nat))(p:List Spot)(v:Val):(Spot.GG r re p).bd o v=(gl r re p).bd o (Au (gl r re p).counts (itemsOf v)):=by
 cases o with
 |false=>refine rL M6 (rL Q0 ?_);show _=_++(List.zipWith _ [] _)++_++_;refine rL (List.zipWith_nil_left ..) (rL (Xcz ..) (rL (Yw ..) ?_));rfl
 |true=>refine rL S8 (rL b8 ?_);show _=_++_++(List.zipWith _ [] _)++_;refine rL (List.zipWith_nil_left ..) (rL (Xcz ..) (rL (Yw ..) ?_));rfl
theorem Wj:∀{ss:List Spot}{xs:List Val}{i:Nat}(h:i<ss.length)(a:i<xs.length),Spot.Bx o (ss.take (i+1)) xs=Spot.Bx o (ss.take i) xs++(ss[i]).bd o xs[i]
 |s::ss,x::xs,0,_,_=>Xcz _
 |s::ss,x::xs,i+1,h,a=>by have:=Wj (o:=o) (Nat.lt_of_succ_lt_succ h) (Nat.lt_of_succ_lt_succ a);show s.bd o x++Spot.Bx o (ss.take (i+1)) xs=s.bd o x++Spot.Bx o (ss.take i) xs++_;refine rL (this ..) (rL (Xc7 ..) ?_);rfl
def Bs(E:Bd)(ns:List Nat):Prop:=(∀k∈dk E,∃n∈ns,k=B6 n)/\E.length<=ns.length
theorem Bs.nil:Bs [] []:=⟨λk h=>by simp[dk]at h,Xc4 _⟩
theorem Bs.empty:Bs [] ns:=⟨λk h=>by simp[dk]at h,Xdd _⟩
theorem Bs.app{ns a:List Nat}(h:Bs E ns)(b:Bs F a):Bs (E++F) (ns++a):=by
 refine⟨λk c=>?_,by simp only[Xci];have d:=h.2;have f:=b.2;exact lin [List.length E,List.length F,ns.length,a.length] 0x2b663e552362a9f6081 rfl d f⟩;rw[I3]at c;rcases Xc2.mp c with q|q
 ·exact AJ (h.1 k q) λn g e=>⟨n,Xcr _ g,e⟩
 ·exact AJ (b.1 k q) λn g e=>⟨n,Xdf _ g,e⟩
theorem Bs.perm{ns a:List Nat}(h:Bs E ns)(r:E.Perm F)(g:ns.Perm a):Bs F a:=by refine⟨λk c=>?_,by exact rR r.length_eq (rR g.length_eq h.2)⟩;exact AJ (h.1 k ((r.map _).mem_iff.mpr c)) λn b e=>⟨n,g.mem_iff.mp b,e⟩
theorem Bs.rest(re:Option (Option Nat))(ys:List Val):Bs (EC re ys) (BY re):=by
 rcases re with _|_|k
 ·exact .nil
 ·exact .nil
 ·exact⟨λx a=>⟨k,Xey k,Xcc.mp a⟩,Xc4 _⟩
theorem Bs.opt:∀(op:List Nat)(ys:List Val),Bs (Df op ys) op
 | [],_=> .nil
 |k::op,[]=> .empty
 |k::op,y::ys=>by have:=Bs.opt op ys;have a:Bs [(B6 k,y)] [k]:=⟨λx b=>⟨k,Xey k,Xcc.mp b⟩,Xc4 _⟩;exact a.app this
theorem Bs.sub(h:Bs E ns)(f:∀n∈ns,n∈a)(d:ns.length<=a.length):Bs E a:=
 ⟨λk c=>AJ (h.1 k c) λn b e=>⟨n,f n b,e⟩,Xcq h.2 d⟩
mutual
theorem Wm(o:Bool):∀(s:Spot)(v:Val),Bs (s.bd o v) s.names
 | .Y n,v=>⟨λx B=>⟨n,Xey n,Xcc.mp B⟩,Xc4 _⟩
 | .GG r E p,v=>by
  have Y:=Lz o r (Au (gl r E p).counts (itemsOf v));have T:=Lz o p (EU p.length (Au (gl r E p).counts (itemsOf v)));have H:=Bs.rest E (Bi r.length p.length (Au (gl r E p).counts (itemsOf v)));cases o with
  |false=>
   exact rL M6 ((Y.app H).app T)
  |true=>
   exact rL S8 (((Y.app H).perm Xfq (.refl _)).app T)
theorem Lz(o:Bool):∀(ss:List Spot)(vs:List Val),Bs (Spot.Bx o ss vs) (Spot.AQ ss)
 | [],_=> .nil
 |s::ss,[]=> .empty
 |s::ss,v::vs=>(Wm o s v).app (Lz o ss vs)
end
structure Fr(D:Bd)(ns:List Nat):Prop where
 nd:ns.Nodup
 lt:∀n∈ns,n<100
 nw:∀n∈ns,B6 n∉dk D
 DY:D.length+ns.length<=900
theorem Fr.perm(h:Fr D ns)(p:ns.Perm a):Fr D a:=
 ⟨p.nodup_iff.mp h.nd,λn g=>h.lt n (p.mem_iff.mpr g),λn g=>h.nw n (p.mem_iff.mpr g),by exact rR p.length_eq h.DY⟩
theorem Fr.left(h:Fr D (ns++a)):Fr D ns:=
 ⟨(Xgn.mp h.nd).1,λn g=>h.lt n (Xcr _ g),λn g=>h.nw n (Xcr _ g),by have:=h.DY;simp only[Xci]at this;exact lin [List.length D,ns.length,a.length] 0x6562ad4e711e93496081 rfl this⟩
theorem Fr.right(h:Fr D (ns++a)):Fr D a:=(h.perm Xfq).left
theorem Fr.step(h:Fr D (ns++b))(r:Bs E ns):Fr (D++E) b:=by
 refine⟨h.right.nd,h.right.lt,λn g=>?_,by have c:=h.DY;have f:=r.2;simp only[Xci]at*;exact lin [List.length D,List.length E,b.length,ns.length] 0x8050e55e436779bcccb6cc44381 rfl f c⟩;refine rL (I3 ..) ?_;intro q;rcases Xc2.mp q with q|q
 ·exact h.right.nw n g q
 ·refine AJ (r.1 _ q) λm a e=>?_;have:=bu (h.right.lt n g) (h.left.lt m a) e;subst this;exact(Xgn.mp h.nd).2.2 n a n g rfl
def Ar(E:Bd):Bd:=E.map λp=>(p.1,AP p.2)
theorem Sj(E:Bd):dk (Ar E)=dk E:=by simp[dk,Ar,Xhx]
theorem Vo(E F:Bd):Ar (E++F)=Ar E++Ar F:=by simp[Ar]
theorem Bs.th(h:Bs E ns):Bs (Ar E) ns:=⟨by refine rL (Sj ..) ?_;exact h.1,by simpa[Ar]using h.2⟩
section
mutual
noncomputable def Spot.Sh:Spot->Prop
 | .Y _=>True
 | .GG r _ p=>r.length<=100/\p.length<=50/\Spot.Hq r/\Spot.Hq p
noncomputable def Spot.Hq:List Spot->Prop
 | []=>True
 |s::ss=>s.Sh/\Spot.Hq ss
end
theorem WV(h:Spot.Hq ss)(q:s∈ss):s.Sh:=by
 induction q with
 |head l=>exact h.1
 |tail _ _ Q=>exact Q h.2
structure AI.EP(l:AI):Prop where
 s:l.Short
 r:Spot.Hq l.req
 p:Spot.Hq l.post
theorem AI.EP.VT{l:AI}(h:l.EP){s:Spot}(a:s∈l.req++l.post):s.Sh:=by
 rcases Xc2.mp a with q|q
 ·exact WV h.r q
 ·exact WV h.p q
theorem MX(h:(Spot.GG r re p).Sh):(gl r re p).EP:=⟨⟨h.1,h.2.1,Xdd _⟩,h.2.2.1,h.2.2.2⟩
theorem vQ(h:i<ss.length):Spot.AQ ss=Spot.AQ (ss.take i)++(ss[i].names++Spot.AQ (ss.drop (i+1))):=by
 refine rL (Gy ..) (rL (Gy ..) (rL (Gy ..) ?_));haveI e:ss=ss.take i++ss[i]::ss.drop (i+1):=rR (Xen h ..) (rL (Xed ..) rfl)
 conv=>lhs;rw[e]
 exact rL Xe3 (rL Xft rfl)
theorem aX{xs:List Val}(h:off+i<xs.length):∃a:i<(xs.drop off).length,(xs.drop off)[i]=xs[off+i]:=⟨by simp;exact lin [i,xs.length - off,off,xs.length] 0x24b15911a6909b7e8fac203f081 rfl h (sA xs.length off),by simp⟩
def Lh(n:Nat)(s:Spot):Prop:=∀k D v,Ah 4 v->Fr D s.names->callF n 11 [.N (.Z k),.V s.val,.V (AP v),.N (.dict (dk D) (dv D))]=some (.V .none,[.N (.Z k),.V s.val,.V (AP v),.N (.dict (dk (D++Ar (s.bd false v))) (dv (D++Ar (s.bd false v))))])
theorem Qw{x:Option (FR×St)}{F:Bd->St}{D:Bd}(h:x=some (.next,F D)):x=some (.next,F (D++[])):=rL (Xcz ..) h
def OD(n:Nat)(l:AI):Prop:=∀k D xs,(∀x∈xs,Ah 4 x)->xs.length<=800->l.req.length+l.post.length<=xs.length->Fr D l.names->
 callF n 12 [.N (.Z k),.V l.val,.V (.list (xs.map AP)),.N (.dict (dk D) (dv D))]=some (.V (.int (l.given xs)),[.N (.Z k),.V l.val,.V (.list (xs.map AP)),.N (.dict (dk (D++Ar (l.bd false xs))) (dv (D++Ar (l.bd false xs))))])
def BH(k:Nat)(P:Val)(A:List Val)(f b g:Val)(D:Bd)(a bh:LV):St:=[.N (.Z k),.V P,.V (.list A),.N (.dict (dk D) (dv D)),.V f,.V b,.V g,a,bh]
section
variable {n k:Nat}{P f b g:Val}{A xs:List Val}{D:Bd}{bh:LV}
theorem cj{cnt sp ix:PE}(ha:Af a)
  (I:∀D a,ev (callF n) 4 cnt false (BH k P A f b g D a bh)=some (.V (.int (ss.length:Int)),BH k P A f b g D a bh))
  (v:∀D a,ev (callF n) 4 sp false (BH k P A f b g D a bh)=some (.V (.list (Spot.vals ss)),BH k P A f b g D a bh))
  (j:∀D i,i<ss.length->ev (callF n) 4 ix false (BH k P A f b g D (.V (.int (i:Int))) bh)=some (.V (.int ((off+i:Nat):Int)),BH k P A f b g D (.V (.int (i:Int))) bh))
  (H:A=xs.map AP) (m:∀x∈xs,Ah 4 x) (w:off+ss.length<=xs.length) (o:ss.length<=1000) (J:∀s∈ss,Lh n s) (h:Fr D (Spot.AQ ss)):
  ∃L,Af L/\Ae (callF n) 4 200 (.FV 7 cnt [.ex (.call 11 [(.W 0),(.S sp (.W 7)),(.S (.W 2) ix),(.W 3)])]) (BH k P A f b g D a bh)=some (.next,BH k P A f b g (D++Ar (Spot.Bx false ss (xs.drop off))) L bh):=by
 refine AB λV=>?_;obtain⟨Y,e,L,p,rfl⟩:=T7 (fuel:=200) (k:=7) (body:=[.ex (.call 11 [(.W 0),(.S sp (.W 7)),(.S (.W 2) ix),(.W 3)])]) (λi d=>∃a,Af a/\d=BH k P A f b g (D++Ar (Spot.Bx false (ss.take i) (xs.drop off))) a bh) (I D a) rfl (lin [ss.length] 0x13c7580900000000000dbba7801 rfl o) (AG a ha (congrArg (λD=>BH k P A f b g D a bh) (Xcz D).symm)) (λi c d⟨a,ha,C⟩=>by
  refine rL C (AH ha.Ei (AG _ ?_ (AG (.V (.int i)) (CG _) rfl)));obtain⟨l,Q⟩:=aX (off:=off) (i:=i) (lin [off,i,xs.length,ss.length] 0x36bd0d59372e2f47da108f04381 rfl w c);haveI u:Fr (D++Ar (Spot.Bx false (ss.take i) (xs.drop off))) ss[i].names:=by replace h:=(vQ c)▸ h;exact(h.step (Lz false (ss.take i) (xs.drop off)).th).left
  haveI E:=J ss[i] (Xd6 c) k _ xs[off+i] (m _ (Xd6 _)) u;refine rL (Wj c l ..) (rL (Vo ..) (rR (Xc7 ..) (rL (Q ..) ?_)));generalize D++Ar (Spot.Bx false (ss.take i) (xs.drop off))=U at*;haveI M:Ee (.list (Spot.vals ss)) (.int i)=some ss[i].val:=by
   show(if 0<=(i:Int)then(Spot.vals ss)[(i:Int).toNat]? else none)=_;refine rL (Xck (Xee _) ..) (rL (Xea ..) (rL (Jo ..) ?_));simp[c]
  haveI q:Ee (.list A) (.int ((off+i:Nat):Int))=some (AP xs[off+i]):=by
   show(if 0<=((off+i:Nat):Int)then A[((off+i:Nat):Int).toNat]? else none)=_;refine rL (Xck (Xee _) ..) (rL (Xea ..) (rL (H ..) ?_));simp[show off+i<xs.length by exact lin [off,i,xs.length,ss.length] 0x36bd0d59372e2f47da108f04381 rfl w c]
  haveI N:=qE (Φ:=callF n) (np:=4) (e:= .S sp (.W 7)) (t:=false) (σ:=BH k P A f b g U (.V (.int (i:Int))) bh) (z:=(.V ss[i].val,BH k P A f b g U (.V (.int (i:Int))) bh)) [aZ (v U (.V (.int (i:Int)))),aI M] (by kernel_rfl);haveI T:ev (callF n) 4 (.W 2) false (BH k P A f b g U (.V (.int (i:Int))) bh)=some (.V (.list A),BH k P A f b g U (.V (.int (i:Int))) bh):=rfl;haveI B:=qE (Φ:=callF n) (np:=4) (e:= .S (.W 2) ix) (t:=false) (σ:=BH k P A f b g U (.V (.int (i:Int))) bh) (z:=(.V (AP xs[off+i]),BH k P A f b g U (.V (.int (i:Int))) bh)) [aZ T,aZ (j U i c),aI q] (by kernel_rfl);haveI G:=qE (Φ:=callF n) (np:=4) (e:= .call 11 [(.W 0),(.S sp (.W 7)),(.S (.W 2) ix),(.W 3)]) (t:=false) (σ:=BH k P A f b g U (.V (.int (i:Int))) bh) (z:=(.V .none,BH k P A f b g (U++Ar (ss[i].bd false xs[off+i])) (.V (.int (i:Int))) bh)) [aZ N,aZ B,aC E] (by kernel_rfl);exact qR [aZ G])
 exact V (AG L p (by replace e:=Xdx▸ e;exact e))
theorem cV:∀{op:List Nat}{ys:List Val}{i:Nat}h(a:i<ys.length),Df (op.take (i+1)) ys=Df (op.take i) ys++[(B6 op[i],ys[i])]
 |j::op,y::ys,0,_,_=>by simp[Df]
 |j::op,y::ys,i+1,h,a=>by
  haveI Y:i<op.length:=by simpa using h
  haveI T:i<ys.length:=by simpa using a
  haveI:=cV Y T;simp only[Df,List.take_succ_cons,List.zipWith_cons_cons,List.getElem_cons_succ,Xh2]at this ⊢;exact rL this rfl
theorem xb{op:List Nat}{m fr:Nat}{a:LV}(ha:Af a)(w:∀D a,ev (callF n) 4 (.A (.W 1) 49 1) false (BH k P A (.int (fr:Int)) b (.int (m:Int)) D a bh)=some (.V (.list (op.map BK)),BH k P A (.int (fr:Int)) b (.int (m:Int)) D a bh))
  (t:A=xs.map AP) (B:m<=op.length) (j:fr+m<=xs.length) (E:xs.length<=900) (z:Fr D op):
  ∃L,Af L/\Ae (callF n) 4 200 (.FV 7 (.W 6) [.SS 3 (.S (.S (.A (.W 1) 49 1) (.W 7)) (.int 0)) (.S (.W 2) (.B .Add (.W 4) (.W 7)))]) (BH k P A (.int fr) b (.int m) D a bh)=some (.next,BH k P A (.int fr) b (.int m) (D++Ar (Df (op.take m) (xs.drop fr))) L bh):=by
 refine AB λJ=>?_;obtain⟨G,e,L,p,rfl⟩:=T7 (Φ:=callF n) (np:=4) (fuel:=200) (k:=7) (it:= .W 6) (σ:=BH k P A (.int (fr:Int)) b (.int (m:Int)) D a bh) (body:=[.SS 3 (.S (.S (.A (.W 1) 49 1) (.W 7)) (.int 0)) (.S (.W 2) (.B .Add (.W 4) (.W 7)))]) (λi r=>∃a,Af a/\r=BH k P A (.int fr) b (.int m) (D++Ar (Df (op.take i) (xs.drop fr))) a bh) rfl rfl (lin [m,fr,xs.length] 0x1687b498d08558900000000000dbba7801 rfl j E) (AG a ha (by simp[Df,Ar])) (λi d r⟨a,ha,C⟩=>by
  refine rL C (AH ha.Ei (AG _ ?_ (AG (.V (.int (i:Int))) (CG _) rfl)));obtain⟨l,q⟩:=aX (xs:=xs) (off:=fr) (i:=i) (lin [fr,i,xs.length,m] 0x36bd0d59372e2f47da108f04381 rfl j d);haveI h:i<op.length:=lin [i,op.length,m] 0x7355e6fbf0f06ac203f081 rfl B d;haveI v:op=op.take i++(op[i]::op.drop (i+1)):=rR (Xen h ..) (rL (Xed ..) rfl);haveI u:Fr (D++Ar (Df (op.take i) (xs.drop fr))) [op[i]]:=by
   haveI c:Fr D (op.take i++([op[i]]++op.drop (i+1))):=by haveI:op.take i++([op[i]]++op.drop (i+1))=op:=v.symm;exact rL this z
   exact(c.step (Bs.opt (op.take i) (xs.drop fr)).th).left
  refine rL (cV h l ..) (rL (Vo ..) (rR (Xc7 ..) (rL (q ..) ?_)));generalize D++Ar (Df (op.take i) (xs.drop fr))=U at*;haveI H:Ee (.list (op.map BK)) (.int (i:Int))=some (BK op[i]):=by
   show(if 0<=(i:Int)then(op.map BK)[(i:Int).toNat]? else none)=_;refine rL (Xck (Xee _) ..) (rL (Xea ..) ?_);simp[h]
  haveI o:Ee (.list A) (.int ((fr:Int)+(i:Int)))=some (AP xs[fr+i]):=by
   refine rR (Xif ..) ?_;show(if 0<=((fr+i:Nat):Int)then A[((fr+i:Nat):Int).toNat]? else none)=_;refine rL (Xck (Xee _) ..) (rL (Xea ..) (rL (t ..) ?_));simp[show fr+i<xs.length by exact lin [fr,i,xs.length,m] 0x36bd0d59372e2f47da108f04381 rfl j d]
  exact qR [aI o,aE (w U (.V (.int (i:Int)))),aI H,aI (x:=BK op[i]) (y:= .int 0) rfl,aD (NO (x:=AP xs[fr+i]) (u.nw _ (.head _)) (Xcq (Xd7 _ _) (Xcq u.DY (by decide))))])
 exact J (AG L p e)
end
end
theorem Yo(l:AI)(xs:List Val)(h:l.req.length+l.post.length<=xs.length):l.given xs<=l.opt.length/\l.req.length+l.given xs+l.post.length<=xs.length:=by unfold AI.given;lia
theorem o9(l:AI)(xs:List Val)(h:l.req.length+l.post.length<=xs.length):(if xs.length - l.req.length - l.post.length<(l.opt.length:Int)then xs.length - l.req.length - (l.post.length:Int)else l.opt.length)=(l.given xs):=by unfold AI.given;split<;>lia
theorem oA(l:AI)(xs:List Val)(h:l.req.length+l.post.length<=xs.length):(if xs.length - l.post.length - l.req.length<(l.opt.length:Int)then xs.length - l.post.length - (l.req.length:Int)else l.opt.length)=(l.given xs):=by unfold AI.given;split<;>lia
theorem vA:Bi a b (xs.map AP)=(Bi a b xs).map AP:=by unfold Bi;simp
theorem dH(M:l.Short)(hp:∀s∈l.req++l.post,Lh (n+2) s):OD (n+3) l:=by
 intro k D c J Kd o z;haveI hg:=Yo l c o;haveI H:=o9 l c o;haveI I:=z.lt;haveI V:D++Ar (l.bd false c)=D++Ar (Spot.Bx false l.req (c.drop 0))++Ar (Df (l.opt.take (l.given c)) (c.drop l.req.length))++Ar (l.IX c)++Ar (Spot.Bx false l.post (c.drop (c.length - l.post.length))):=by unfold AI.bd EU;simp[Vo,Xc7]
 refine rL V ?_;haveI N:l.IX c=EC l.rest (Bi (l.req.length+l.given c) l.post.length c):=rfl;refine rL N ?_;generalize l.given c=g at*;obtain⟨rq,C,E,B,bl⟩:=l;simp only at hp o hg H V ⊢;haveI To:rq.length<=100:=M.req;haveI PX:B.length<=50:=M.post;haveI ZX:C.length<=40:=M.opt;clear V N;unfold AI.names at z I;simp only[Xc7]at z;generalize L:AI.val ⟨rq,C,E,B,bl⟩=P;generalize G:c.map AP=A;have t:A.length=c.length:=rR (G ..) (rL (EN ..) rfl);generalize e:Val.int (rq.length:Int)=f;generalize v:Val.int B.length=b;have y:∀r d D a,ev (callF (n+2)) 4 (.A (.W 1) 49 0) false (BH k P A f b r D a d)=some (.V (.list (Spot.vals rq)),BH k P A f b r D a d)/\ev (callF (n+2)) 4 (.A (.W 1) 49 1) false (BH k P A f b r D a d)=some (.V (.list (C.map BK)),BH k P A f b r D a d)/\ev (callF (n+2)) 4 (.A (.W 1) 49 3) false (BH k P A f b r D a d)=some (.V (.list (Spot.vals B)),BH k P A f b r D a d)/\ev (callF (n+2)) 4 (.A (.W 1) 49 2) false (BH k P A f b r D a d)=some (.V (IY E),BH k P A f b r D a d):=by intro r d D a;exact rR L (DR rfl rfl rfl rfl)
 have e1:Ae (callF (n+2)) 4 200 (.EG 4 5 (.F .L (.A (.W 1) 49 0)) (.F .L (.A (.W 1) 49 3)) false) ([.N (.Z k),.V P,.V (.list A),.N (.dict (dk D) (dv D))]++List.replicate 5 .U++List.replicate 0 .O)=some (.next,[.N (.Z k),.V P,.V (.list A),.N (.dict (dk D) (dv D)),.V f,.V b,.U,.U,.U]):=rR L (rR e (rR v (rR (D0 rq) (rR (D0 B) (qS [])))));have e2:Ae (callF (n+2)) 4 200 (.G 6 (.min (.F .L (.A (.W 1) 49 1)) (.B .Sub (.B .Sub (.F .L (.W 2)) (.W 4)) (.W 5)))) [.N (.Z k),.V P,.V (.list A),.N (.dict (dk D) (dv D)),.V f,.V b,.U,.U,.U]=some (.next,BH k P A f b (.int g) D .U .U):=rR H (rR L (rR e (rR v (rR (EN (f:=BK)) (rR t (qS []))))));refine AJ (cj (g:= .int (g:Int)) (bh:= .U) (cnt:= .W 4) (sp:= .A (.W 1) 49 0) (ix:= .W 7) (ss:=rq) (off:=0) CX (λD a=>by exact rR e rfl) (λD a=>(y _ _ D a).1) (λD i hi=>rL (Xd3 ..) rfl) G.symm J (lin [rq.length,c.length,B.length] 0xd14dd1ac2000201 rfl o) (lin [rq.length] 0xfd8c06b29801 rfl To) (λs h=>hp s (Xcr _ h)) z.left) λa3 f3 e3=>?_;have w:=z.step (Lz false rq (c.drop 0)).th;generalize D++Ar (Spot.Bx false rq (c.drop 0))=D3 at*;refine AJ (xb (n:=n+2) (k:=k) (P:=P) (b:=b) (A:=A) (xs:=c) (D:=D3) (bh:= .U) (op:=C) (m:=g) (fr:=rq.length) f3 (λD a=>by haveI:=(y (.int (g:Int)) .U D a).2.1;replace this:=e▸ this;exact this) G.symm hg.1 (lin [rq.length,g,c.length,B.length] 0x75236c56f6cb6081 rfl hg.2) (lin [c.length] 0x7e96c067a5801 rfl Kd) w.left) λp f4 Q=>?_;rw[e]at Q;have O:=w.step (((Bs.opt (C.take g) (c.drop rq.length)).sub (λn h=>Xet h) (rL Xdk (lin [min g C.length,C.length] 21743898625 rfl (Xf1 g C.length)))).th);generalize D3++Ar (Df (C.take g) (c.drop rq.length))=q at*;have e5:Ae (callF (n+2)) 4 200 (.G 8 (.B .Sub (.F .L (.W 2)) (.W 5))) (BH k P A f b (.int (g:Int)) q p .U)=some (.next,BH k P A f b (.int (g:Int)) q p (.V (.int ((c.length - B.length:Nat):Int)))):=by
  haveI hz:(c.length:Int) - (B.length:Int)=((c.length - B.length:Nat):Int):=by lia
  exact rR hz (rR v (rR t (qS [])))
 have e6:Ae (callF (n+2)) 4 200 (.X (.and (.E (.A (.W 1) 49 2) true) (.K .NotEq (.A (.W 1) 49 2) (.str ""))) [.SS 3 (.A (.W 1) 49 2) (.Q 41 0 [(.GK (.W 2) (.B .Add (.W 4) (.W 6)) (.W 8))])] []) (BH k P A f b (.int (g:Int)) q p (.V (.int ((c.length - B.length:Nat):Int))))=some (.next,BH k P A f b (.int (g:Int)) (q++Ar (EC E (Bi (rq.length+g) B.length c))) p (.V (.int ((c.length - B.length:Nat):Int)))):=by
  haveI u:=(y (.int (g:Int)) (.V (.int ((c.length - B.length:Nat):Int))) q p).2.2.2;generalize Y:LV.V (.int ((c.length - B.length:Nat):Int))=d at*;clear M z L w;rcases E with _|_|j
  ·exact Qw (F:=λD=>BH k P A f b (.int (g:Int)) D p d) (qS [aE u])
  ·exact Qw (F:=λD=>BH k P A f b (.int (g:Int)) D p d) (qS [aE u,aE u,aM NA])
  ·haveI hj:=I j Jc;haveI U:= @Q1 n k (Bi (rq.length+g) B.length A);haveI T:=O.left;haveI Tq:ev (callF (n+2)) 4 (.GK (.W 2) (.B .Add (.W 4) (.W 6)) (.W 8)) false (BH k P A f b (.int (g:Int)) q p d)=some (.M (.list (Bi (rq.length+g) B.length A)),BH k P A f b (.int (g:Int)) q p d):=by
    clear e1 e2 e3 Q y e5 u;subst Y e;haveI h1:(rq.length:Int)+(g:Int)<=((c.length - B.length:Nat):Int):=by lia
    haveI h2:0<=(rq.length:Int)+(g:Int):=by lia
    haveI h3:((c.length - B.length:Nat):Int)<=(A.length:Int):=by lia
    haveI h4:((rq.length:Int)+(g:Int)).toNat=rq.length+g:=by lia
    show(if 0<=(rq.length:Int)+(g:Int)/\(rq.length:Int)+(g:Int)<=((c.length - B.length:Nat):Int)/\((c.length - B.length:Nat):Int)<=(A.length:Int)then some (RV.M (.list ((A.drop ((rq.length:Int)+(g:Int)).toNat).take (((c.length - B.length:Nat):Int).toNat - ((rq.length:Int)+(g:Int)).toNat))),BH k P A (.int (rq.length:Int)) b (.int (g:Int)) q p (.V (.int ((c.length - B.length:Nat):Int))))else none)=_;rw[Xck (AX h2 h1 h3),h4,Bi,t,Xea,show c.length - B.length - (rq.length+g)=c.length - B.length - (rq.length+g)from rfl]
   haveI:Ar (EC (some (some j)) (Bi (rq.length+g) B.length c))=[(B6 j,Dv (Bi (rq.length+g) B.length A))]:=by refine rR G (rL vA ?_);show[(B6 j,AP (.list (Bi (rq.length+g) B.length c)))]=_;exact rL (LJ ..) rfl
   exact rL this (qS [aE u,aE u,aM (NB hj),aE Tq,aC U,aE u,aD (NO (x:=Dv (Bi (rq.length+g) B.length A)) (T.nw _ (.head _)) (Xcq (Xd7 _ _) (Xcq T.DY (by decide))))])
 haveI qc:=O.step (Bs.rest E (Bi (rq.length+g) B.length c)).th;generalize q++Ar (EC E (Bi (rq.length+g) B.length c))=D6 at*;exact AJ (cj (n:=n+2) (k:=k) (P:=P) (f:=f) (b:=b) (g:= .int (g:Int)) (A:=A) (xs:=c) (D:=D6) (bh:= .V (.int ((c.length - B.length:Nat):Int))) (cnt:= .W 5) (sp:= .A (.W 1) 49 3) (ix:= .B .Add (.W 8) (.W 7)) (ss:=B) (off:=c.length - B.length) f4 (λD a=>rR v rfl) (λD a=>(y _ _ D a).2.2.1) (λD i hi=>rfl) G.symm J (lin [c.length - B.length,B.length,c.length] 0x33866236cb6081 rfl (sB (a:=c.length) (b:=B.length) (lin [B.length,c.length,rq.length] 0xb64a6899001 rfl o))) (lin [B.length] 0x7efc06b29801 rfl PX) (λs h=>hp s (Xdf _ h)) qc.left) λa7 f7 e7=>qC [aS e1,aS e2,aS e3,aS Q,aS e5,aS e6,aS e7]
theorem Oz(h:∀x∈xs,Ah d x):∀x∈Au c xs,Ah d x:=by
 intro x B;obtain⟨i,a⟩:=c;by_cases q:xs.length<i
 ·replace B:=(show Au (i,a) xs=_ from Xck q)▸ B;rcases Xc2.mp B with q|q
  ·exact h x q
  ·exact rL (List.eq_of_mem_replicate q) .none
 ·replace B:=(show Au (i,a) xs=_ from Xcm q)▸ B;cases a with
  |none=>exact h x B
  |some m=>exact h x (Xet B)
theorem Oy:(Au c xs).length<=max xs.length c.1:=by
 obtain⟨c1,c2⟩:=c;show _<=max xs.length c1;by_cases q:xs.length<c1
 ·refine rL (show Au (c1,c2) xs=_ from Xck q) ?_;simp only[Xci,List.length_replicate];lia
 ·refine rL (show Au (c1,c2) xs=_ from Xcm q) ?_;cases c2 with
  |none=>exact Xgc ..
  |some m=>exact Xcq (rL Xdk (Xf1 m xs.length)) (Xgc xs.length c1)
set_option tactic.hygienic true in
theorem Sy{l:AI}:l.req.length+l.post.length<=(Au l.counts xs).length:=by
 have y:=Sa l;show l.counts.1<=_;by_cases q:xs.length<l.counts.1
 ·refine rL (show Au l.counts xs=_ from Xck q) ?_;simp only[Xci,List.length_replicate];exact lin [l.counts.fst,xs.length,l.counts.fst - xs.length] 7368360376111105 rfl (sA l.counts.fst xs.length)
 ·refine rL (show Au l.counts xs=_ from Xcm q) ?_;rcases y with h|⟨B,h,D⟩
  ·exact rL h (Xdh q)
  ·refine rL h ?_;show _<=(xs.take B).length;refine rL Xdk ?_;lia
theorem dI:Lh (n+1) (.Y j):=by intro k D v H t;exact rL (show Ar ((Spot.Y j).bd false v)=[(B6 j,AP v)]from rfl) (qC [aD (NO (x:=AP v) (t.nw j (.head _)) (Xcq (Xd7 _ _) (Xcq t.DY (by decide))))])
theorem yD(hd:(gl r re p).EP)(h:OD (n+3) (gl r re p)):Lh (n+4) (.GG r re p):=by intro k D v hv hf;rw[JC]at hf;refine rL (MY ..) (rL (Yu ..) ?_);have hit:=Ah.items hv;have qm:=hv.Pn;have hc:=hd.s.c1;have og:=se (n:=n+2) hv;have h9:=YQ (n:=n) hd.s (xs:=(itemsOf v).map AP) (rL (EN ..) (lin [(itemsOf v).length] 0x3f4ec067a5801 rfl qm));rw[YN]at h9;have KW:=h k D (Au (gl r re p).counts (itemsOf v)) (Oz hit) (by have:=Oy (c:=(gl r re p).counts) (xs:=itemsOf v);lia) Sy hf;have rg:Ih (gl r re p).val 49=some true:=rfl;generalize(gl r re p).val=P at*;generalize(Au (gl r re p).counts (itemsOf v)).map AP=F at*;generalize D++Ar ((gl r re p).bd false (Au (gl r re p).counts (itemsOf v)))=D' at*;exact qC [aY rg,aC og,aC h9,aC KW]
theorem yC(d:Nat)(a:∀n l,l.depth<=d->l.EP->OD (n+2*d+4) l){s:Spot}(I:s.Sh)(u:s.depth<=d+1):Lh (n+2*d+5) s:=by
 cases s with
 |Y j=>exact dI
 |GG r E p=>
  rw[HQ]at u;have:=a n (gl r E p) (lin [(gl r E p).depth,d] 0xf17522374899001 rfl u) (MX I);exact yD (MX I) this
theorem Qf{l:AI}(hs:s∈l.req++l.post):s.depth<=l.depth:=by
 unfold AI.depth;rcases Xc2.mp hs with q|q
 ·have:=Og q;exact lin [s.depth,max (Spot.CE l.req) (Spot.CE l.post),Spot.CE l.req] 0x2e835b20099001 rfl this (Xgc (Spot.CE l.req) (Spot.CE l.post))
 ·have:=Og q;exact lin [s.depth,max (Spot.CE l.req) (Spot.CE l.post),Spot.CE l.post] 0x2e835b20099001 rfl this (Xh7 (Spot.CE l.req) (Spot.CE l.post))
theorem dG:∀d n l,l.depth<=d->l.EP->OD (n+2*d+4) l
 |0,n,l,u,a=>dH a.s λs I=>by
  have:=Qf I;cases s with
  |Y j=>exact dI
  |GG r E p=>rw[HQ]at this;exact Hb (lin [l.depth,(gl r E p).depth] 0x283e3a203602400c01c1 rfl u this)
 |d+1,n,l,u,a=>by have:=dH a.s λs I=>yC (n:=n) d (dG d) (a.VT I) (by have:=Qf I;exact lin [s.depth,d,l.depth] 0x7354e69317706a217d9001 rfl u this);exact this
abbrev Pr:=List (Spot×Val)
def Cz(p:Spot×Val):Val:= .T [p.1.val,p.2]
def FO(pr:Pr):Bd:=pr.flatMap λp=>p.1.bd true p.2
def Ff(pr:Pr):List Nat:=pr.flatMap λp=>p.1.names
theorem Wk:∀pr:Pr,Bs (FO pr) (Ff pr)
 | []=> .nil
 |p::pr=>(Wm true p.1 p.2).app (Wk pr)
theorem S7:∀ss vs,FO (ss.zip vs)=Spot.Bx true ss vs
 | [],_=>rfl
 |_::_,[]=>rfl
 |s::ss,v::vs=>congrArg (s.bd true v++·) (S7 ss vs)
theorem Wl:∀op vs,FO ((op.map Spot.Y).zip vs)=Df op vs
 | [],_=>rfl
 |_::_,[]=>rfl
 |s::J,v::vs=>congrArg ((B6 s,v)::·) (Wl J vs)
theorem Ul:∀{ss:List Spot}{vs:List Val},ss.length<=vs.length->Ff (ss.zip vs)=Spot.AQ ss
 | [],_,_=>rfl
 |_::_,[],h=>absurd h (Xgx _)
 |s::ss,v::vs,h=>congrArg (s.names++·) (Ul (Nat.le_of_succ_le_succ h))
theorem ba:∀{op:List Nat}{vs:List Val},op.length<=vs.length->Ff ((op.map Spot.Y).zip vs)=op
 | [],_,_=>rfl
 |_::_,[],h=>absurd h (Xgx _)
 |s::J,v::vs,h=>congrArg (s::·) (ba (Nat.le_of_succ_le_succ h))
section
variable {Φ:BZ}{np fuel:Nat}
theorem Uf{Ab:LV->St}{k:Nat}{cnt eA eB:PE}{pr:Pr}(c:∀z w,(Ab z).set k w=Ab w)(y:∀z,(Ab z).at k=z)(L:k<(Ab .O).length)(a:pr.length<=10000)
  (j:ev Φ np cnt false (Ab .O)=some (.V (.int (pr.length:Int)),Ab .O))
  (r:∀i(h:i<pr.length),ev Φ np eA false (Ab (.V (.int (i:Int))))=some (.V pr[i].1.val,Ab (.V (.int (i:Int)))))
  (g:∀i(h:i<pr.length),ev Φ np eB false (Ab (.V (.int (i:Int))))=some (.V pr[i].2,Ab (.V (.int (i:Int))))):
  ev Φ np (.R (.T [eA,eB]) k cnt) false (Ab .O)=some (.M (.list (pr.map Cz)),Ab .O):=by
 refine AB λJ=>?_;obtain⟨Q,o,e,⟨z,d,C,p⟩,l⟩:=MD (elt:= .T [eA,eB])
  (λQ f=>∃z,Af z/\f=Ab z/\Q=(pr.take Q.length).map Cz) j rfl (lin [List.length pr] 0xc5c5380900000000000dbba7801 rfl a) (by refine rL (y ..) ?_;rfl) L (BS .U CX (c _ _) rfl) (λQ f⟨z,d,C,_⟩=>rL C (rL (y ..) d.put)) (λi b Q f a⟨z,d,C,p⟩=>by
   subst C;refine(Di (.V (Cz pr[i])) (Ab (.V (.int i))) ?_ (BS _ (CG _) rfl ?_))
   ·exact rL (c ..) (qE [aZ (r i b),aZ (g i b)])
   ·replace p:=a▸ p;refine rL Xci (rL Xdp (rL a (rL (Xdi b) (rL Xco (rR p ?_)))));rfl)
 exact J (rL (e ..) (rL (p ..) (rL (l ..) (rL (Xdx ..) (rL (C ..) (rL (c ..) rfl))))))
end
def RS(n:Nat)(l:AI):Prop:=∀D a,(∀x∈a,Ah 4 x)->a.length<=800->l.req.length+l.post.length<=a.length->Fr D l.names->
 callF n 24 [.N (.dict (dk D) (dv D)),.V l.val,.V (.list a)]=some (.V (.int (l.given a)),[.N (.dict (dk (D++l.bd true a)) (dv (D++l.bd true a))),.V l.val,.V (.list a)])
def O9(n:Nat):Spot->Prop
 | .Y _=>True
 | .GG r E p=>(gl r E p).EP/\RS n (gl r E p)
def DE(P:Val)(xs:List Val)(f b g q:Val)(D:Bd)(sp it:LV):St:=[.N (.dict (dk D) (dv D)),.V P,.V (.list xs),.V f,.V b,.V g,.V q,sp,it,.O,.O,.O]
noncomputable def Ue:List PS:=[.X (.J (.W 7) 0) [.SS 0 (.W 7) (.W 8)] [.ex (.call 24 [(.W 0),(.W 7),(.call 23 [(.W 7),(.D (.J (.W 8) 1) (.W 8) (.list [(.W 8)]))])])]]
theorem uX(I:O9 (n+2) s)(H:Ah 4 v)(t:Fr D s.names):
  Bv (callF (n+2)) 3 200 Ue (DE P xs f b g q D (.V s.val) (.V v))=some (.next,DE P xs f b g q (D++s.bd true v) (.V s.val) (.V v)):=by
 unfold Ue;cases s with
 |Y j=>
  exact rL (show(Spot.Y j).bd true v=[(B6 j,v)]from rfl) (qR [aD (NO (x:=v) (t.nw j (.head _)) (Xcq (Xd7 _ _) (Xcq t.DY (by decide))))])
 |GG r E p=>
  obtain⟨u,I⟩:=I;rw[JC]at t;refine rL (MY ..) (rL (Yu ..) ?_);haveI d:=Ah.items H;haveI a:=H.Pn;haveI y:=u.s.c1;refine AK (au (n:=n) u.s (lin [(itemsOf v).length] 0x3f4ec067a5801 rfl a)) λw e=>?_;have z:=I D (Au (gl r E p).counts (itemsOf v)) (Oz d) (by haveI:=Oy (c:=(gl r E p).counts) (xs:=itemsOf v);lia) Sy t;haveI i:Ih (gl r E p).val 0=some false:=rfl;generalize(gl r E p).val=Q at*;have l:∃k,k.fz= .list (itemsOf v)/\ev (callF (n+2)) 3 (.D (.J (.W 8) 1) (.W 8) (.list [(.W 8)])) false (DE P xs f b g q D (.V Q) (.V v))=some (k,DE P xs f b g q D (.V Q) (.V v)):=by
   clear d a e z;cases H with
   |none=>exact(AG (.M (.list [.none])) rfl rfl)
   |int=>exact(AG (.M (.list [_])) rfl rfl)
   |list A h=>exact(AG (.V (.list _)) rfl rfl)
  refine AB λJ=>AJ l λk m o=>J ?_;generalize Au (gl r E p).counts (itemsOf v)=F at*;generalize D++(gl r E p).bd true F=U at*;replace e:=m▸ e;exact qR [aY i,aE o,aC e,aC z]
theorem uW(Y:Af sp)(T:Af it)(I:∀p∈pr,O9 (n+2) p.1/\Ah 4 p.2)(t:Fr D (Ff pr)):
  ∃s a,Af s/\Af a/\Ae (callF (n+2)) 3 200 (.Gf 7 8 (.W 6) Ue) (DE P xs f b g (.list (pr.map Cz)) D sp it)=some (.next,DE P xs f b g (.list (pr.map Cz)) (D++FO pr) s a):=by
 obtain⟨o,e,s,a,d,j,rfl⟩:=YW (np:=3) (k₁:=7) (k₂:=8) (it:= .W 6) (σ:=DE P xs f b g (.list (pr.map Cz)) D sp it) (ps:=pr.map λp=>(p.1.val,p.2)) (λi c=>∃sp it,Af sp/\Af it/\c=DE P xs f b g (.list (pr.map Cz)) (D++FO (pr.take i)) sp it) (by decide) rfl (congrArg some (by refine rL Xdz ?_;rfl)) (CN sp it Y T (by simp[FO])) (λi k c⟨sp,it,Y,T,C⟩=>by
  subst C;have l:i<pr.length:=by simpa using k
  haveI B:=I pr[i] (Xd6 l);haveI u:Fr (D++FO (pr.take i)) pr[i].1.names:=by
   haveI:Ff pr=Ff (pr.take i)++(pr[i].1.names++Ff (pr.drop (i+1))):=by
    haveI e:pr=pr.take i++pr[i]::pr.drop (i+1):=rR (Xen l ..) (rL (Xed ..) rfl);unfold Ff
    conv=>lhs;rw[e]
    exact rL Xe3 (rL Xft rfl)
   rw[this]at t;exact(t.step (Wk (pr.take i))).left
  haveI m:=uX (P:=P) (xs:=xs) (f:=f) (b:=b) (g:=g) (q:= .list (pr.map Cz)) B.1 B.2 u;have V:FO (pr.take (i+1))=FO (pr.take i)++pr[i].1.bd true pr[i].2:=by refine rL (Xdi l) ?_;unfold FO;exact rL (Xe3 ..) (rL (Xft ..) (rL (List.flatMap_nil ..) (rL (Xcz ..) rfl)))
  refine(AX Y.Ei T.Ei (AG _ ?_ (CN (.V pr[i].1.val) (.V pr[i].2) (CG _) (CG _) rfl)));refine rL (V ..) (rR (Xc7 ..) ?_);haveI U:∀h,(pr.map λp=>(p.1.val,p.2))[i]=(pr[i].1.val,pr[i].2):=λh=>by simp
  exact rL (U ..) m)
 exact(CN s a d j (by rw[EN,Xdx]at e;exact e))
theorem LS{ss:List Spot}{vs:List Val}(h:i<(ss.zip vs).length):∃(Y:i<ss.length)(T:i<vs.length),(ss.zip vs)[i]=(ss[i],vs[i]):=by haveI:=h;replace this:=Xg5▸ this;exact⟨by lia,by lia,by simp⟩
theorem ay{n:Nat}{l:AI}(hs:l.Short)(hp:∀s∈l.req++l.post,O9 (n+2) s):RS (n+3) l:=by
 intro D d N Kd m hf;haveI U:=Yo l d m;haveI ZL:=oA l d m;haveI DK:=hf.lt;haveI ZZ:l.IX d=EC l.rest (Bi (l.req.length+l.given d) l.post.length d):=rfl;haveI V:D++l.bd true d=D++EC l.rest (Bi (l.req.length+l.given d) l.post.length d)++FO (l.req.zip d++((l.opt.take (l.given d)).map Spot.Y).zip (d.drop l.req.length)++l.post.zip (d.drop (d.length - l.post.length))):=by haveI Y:=S7 l.req d;haveI T:=Wl (l.opt.take (l.given d)) (d.drop l.req.length);haveI H:=S7 l.post (d.drop (d.length - l.post.length));unfold AI.bd EU;refine rL ZZ (rR Y (rR T (rR H ?_)));unfold FO;simp[Xc7]
 refine rL V ?_;generalize l.given d=g at*;obtain⟨rq,C,E,B,bl⟩:=l;simp only at hp m U ZL ⊢;haveI To:rq.length<=100:=hs.req;haveI PX:B.length<=50:=hs.post;haveI ZX:C.length<=40:=hs.opt;clear V ZZ;unfold AI.names at hf DK;generalize G:AI.val ⟨rq,C,E,B,bl⟩=P;generalize t:Val.int rq.length=f;generalize y:Val.int (d.length - B.length:Nat)=b;generalize J:Val.int g=o;haveI e1:Ae (callF (n+2)) 3 200 (.EG 3 4 (.F .L (.A (.W 1) 49 0)) (.B .Sub (.F .L (.W 2)) (.F .L (.A (.W 1) 49 3))) false) ([.N (.dict (dk D) (dv D)),.V P,.V (.list d)]++List.replicate 6 .U++List.replicate 3 .O)=some (.next,[.N (.dict (dk D) (dv D)),.V P,.V (.list d),.V f,.V b,.U,.U,.U,.U,.O,.O,.O]):=by
  refine rR G (rR t (rR y (rL (show(d.length - B.length:Nat)=d.length - (B.length:Int) by lia) (rR (D0 rq) (rR (D0 B) ?_)))))
  kernel_rfl!
 haveI e2:Ae (callF (n+2)) 3 200 (.G 5 (.min (.F .L (.A (.W 1) 49 1)) (.B .Sub (.W 4) (.W 3)))) [.N (.dict (dk D) (dv D)),.V P,.V (.list d),.V f,.V b,.U,.U,.U,.U,.O,.O,.O]=some (.next,[.N (.dict (dk D) (dv D)),.V P,.V (.list d),.V f,.V b,.V o,.U,.U,.U,.O,.O,.O]):=by
  refine rR G (rR t (rR y (rR J (rR ZL (rR (EN (f:=BK)) (rL (show(d.length - B.length:Nat)=d.length - (B.length:Int) by lia) ?_))))))
  kernel_rfl!
 haveI A:(rq.zip d).length=rq.length:=Xg5▸ Xdl (lin [min rq.length d.length,rq.length] 21743898625 rfl (Xe0 rq.length d.length)) (lin [rq.length,min rq.length d.length] 21743898625 rfl (mA (lin [rq.length,d.length,B.length] 0xba0c4899001 rfl m)));haveI r:(((C.take g).map Spot.Y).zip (d.drop rq.length)).length=g:=by simp only[Xg5,EN,Xdk,Xeo];lia
 haveI O:(B.zip (d.drop (d.length - B.length))).length=B.length:=by simp only[Xg5,Xeo];lia
 haveI u:∀j(L:j<d.length),Ee (.list d) (.int j)=some d[j]:=by
  intro j L;show(if 0<=(j:Int)then d[(j:Int).toNat]? else none)=_;exact rL (Xck (Xee _) ..) (rL (Xea ..) (rL (Xdw L ..) rfl))
 haveI Pc:∀ss(j:Nat)L,Ee (.list (Spot.vals ss)) (.int j)=some ss[j].val:=by
  intro ss j L;show(if 0<=(j:Int)then(Spot.vals ss)[(j:Int).toNat]? else none)=_;refine rL (Xck (Xee _) ..) (rL (Xea ..) (rL (Jo ..) ?_));simp[L]
 haveI e3:Ae (callF (n+2)) 3 200 (.G 6 (.R (.T [(.S (.A (.W 1) 49 0) (.W 9)),(.S (.W 2) (.W 9))]) 9 (.W 3))) [.N (.dict (dk D) (dv D)),.V P,.V (.list d),.V f,.V b,.V o,.U,.U,.U,.O,.O,.O]=some (.next,DE P d f b o (.list ((rq.zip d).map Cz)) D .U .U):=by
  haveI hc:=Uf (Φ:=callF (n+2)) (np:=3) (Ab:=λz=>[.N (.dict (dk D) (dv D)),.V P,.V (.list d),.V f,.V b,.V o,.U,.U,.U,z,.O,.O]) (k:=9) (cnt:= .W 3) (eA:= .S (.A (.W 1) 49 0) (.W 9)) (eB:= .S (.W 2) (.W 9)) (pr:=rq.zip d) (λz w=>rfl) (λz=>rfl) (Xch rfl) (lin [(rq.zip d).length,rq.length] 0x16c82a7b25890000000000015f97801 rfl To (Xcg A)) (by refine rL A (rR t ?_);kernel_rfl!)
   (λi h=>by obtain⟨Y,T,H⟩:=LS h;haveI M:=Pc rq i Y;exact rL H (rR G (qE [aI M])))
   (λi h=>by obtain⟨Y,T,H⟩:=LS h;haveI M:=u i T;exact rL H (qE [aI M]))
  exact fR hc rfl
 haveI e4:Ae (callF (n+2)) 3 200 (.G 6 (.B .Add (.W 6) (.R (.T [(.S (.S (.A (.W 1) 49 1) (.W 10)) (.int 0)),(.S (.W 2) (.B .Add (.W 3) (.W 10)))]) 10 (.W 5)))) (DE P d f b o (.list ((rq.zip d).map Cz)) D .U .U)=some (.next,DE P d f b o (.list ((rq.zip d++((C.take g).map Spot.Y).zip (d.drop rq.length)).map Cz)) D .U .U):=by
  haveI hc:=Uf (Φ:=callF (n+2)) (np:=3) (Ab:=λz=>[.N (.dict (dk D) (dv D)),.V P,.V (.list d),.V f,.V b,.V o,.V (.list ((rq.zip d).map Cz)),.U,.U,.O,z,.O]) (k:=10) (cnt:= .W 5) (eA:= .S (.S (.A (.W 1) 49 1) (.W 10)) (.int 0)) (eB:= .S (.W 2) (.B .Add (.W 3) (.W 10))) (pr:=((C.take g).map Spot.Y).zip (d.drop rq.length)) (λz w=>rfl) (λz=>rfl) (Xch rfl) (lin [((List.map Spot.Y (List.take g C)).zip (List.drop rq.length d)).length,g,C.length] 0xcd0973a70b5b2d890000000000015f97801 rfl U.1 ZX (Xcg r)) (by refine rL r (rR J ?_);kernel_rfl!)
   (λi h=>by
    obtain⟨Y,T,H⟩:=LS h;haveI h5:i<C.length:=by simp only[EN,Xdk]at Y;exact lin [i,C.length,g,((List.map Spot.Y (List.take g C)).zip (List.drop rq.length d)).length] 0x615015edbac3e70f06ac203f081 rfl U.1 (Xcg r) h
    haveI M:Ee (.list (C.map BK)) (.int (i:Int))=some (.T [.str (B6 C[i]),.none]):=by
     show(if 0<=(i:Int)then(C.map BK)[(i:Int).toNat]? else none)=_;refine rL (Xck (Xee _) ..) (rL (Xea ..) ?_);simp[h5,BK]
    exact rL (H ..) (rR (G ..) (rL (Xei ..) (rL (List.getElem_take ..) (qE [aI M])))))
   (λi h=>by
    obtain⟨Y,T,H⟩:=LS h;haveI h5:rq.length+i<d.length:=by simp only[Xeo]at T;exact lin [rq.length,i,d.length,g,B.length,((List.map Spot.Y (List.take g C)).zip (List.drop rq.length d)).length] 0x73766776ec2a7d3230f345d5a108f04381 rfl U.2 (Xcg r) h
    haveI M:=u (rq.length+i) h5;exact rL H (rR t (rL List.getElem_drop (qE [aI M]))))
  exact rL Xco (qS [aE hc,aB (EF (a:=(rq.zip d).map Cz) (b:=(((C.take g).map Spot.Y).zip (d.drop rq.length)).map Cz) (rL (EN ..) (rL (EN ..) (lin [(rq.zip d).length,((List.map Spot.Y (List.take g C)).zip (List.drop rq.length d)).length,d.length,rq.length,g,B.length] 0x14947404051ac7f3709aebaa2d4400000000134fda116081 rfl Kd U.2 (Xcg A) (Xcg r)))))])
 haveI e5:Ae (callF (n+2)) 3 200 (.G 6 (.B .Add (.W 6) (.R (.T [(.S (.A (.W 1) 49 3) (.W 11)),(.S (.W 2) (.B .Add (.W 4) (.W 11)))]) 11 (.F .L (.A (.W 1) 49 3))))) (DE P d f b o (.list ((rq.zip d++((C.take g).map Spot.Y).zip (d.drop rq.length)).map Cz)) D .U .U)=some (.next,DE P d f b o (.list ((rq.zip d++((C.take g).map Spot.Y).zip (d.drop rq.length)++B.zip (d.drop (d.length - B.length))).map Cz)) D .U .U):=by
  haveI ru:(rq.zip d++((C.take g).map Spot.Y).zip (d.drop rq.length)).length<=1000:=rL (Xci ..) (rL (A ..) (rL (r ..) (lin [rq.length,g,d.length,B.length] 0x1078fb3c3b75d516f11d96081 rfl Kd U.2)));generalize rq.zip d++((C.take g).map Spot.Y).zip (d.drop rq.length)=pq at*;haveI hc:=Uf (Φ:=callF (n+2)) (np:=3) (Ab:=λz=>[.N (.dict (dk D) (dv D)),.V P,.V (.list d),.V f,.V b,.V o,.V (.list (pq.map Cz)),.U,.U,.O,.O,z]) (k:=11) (cnt:= .F .L (.A (.W 1) 49 3)) (eA:= .S (.A (.W 1) 49 3) (.W 11)) (eB:= .S (.W 2) (.B .Add (.W 4) (.W 11))) (pr:=B.zip (d.drop (d.length - B.length))) (λz w=>rfl) (λz=>rfl) (Xch rfl) (lin [(B.zip (List.drop (d.length - B.length) d)).length,B.length] 0x16c8297e05890000000000015f97801 rfl PX (Xcg O)) (by refine rL (O ..) (rR (G ..) (rR (D0 B ..) ?_));kernel_rfl!)
   (λi h=>by obtain⟨Y,T,H⟩:=LS h;haveI M:=Pc B i Y;exact rL (H ..) (rR (G ..) (qE [aI M])))
   (λi h=>by
    obtain⟨Y,T,H⟩:=LS h;haveI h5:(d.length - B.length)+i<d.length:=by simp only[Xeo]at T;exact lin [d.length - B.length,i,d.length,B.length] 0x250fbab86690a8c05a108f04381 rfl Y (sB (a:=d.length) (b:=B.length) (lin [B.length,d.length,rq.length] 0xb64a6899001 rfl m))
    haveI M:=u ((d.length - B.length)+i) h5;exact rL (H ..) (rR (y ..) (rL (List.getElem_drop ..) (qE [aI M]))))
  exact rL (Xco ..) (qS [aE hc,aB (EF (a:=pq.map Cz) (b:=(B.zip (d.drop (d.length - B.length))).map Cz) (rL (EN ..) (rL (EN ..) (lin [pq.length,(B.zip (List.drop (d.length - B.length) d)).length,B.length] 0x70a55369b2d0d5baad4400000000134fda116081 rfl PX (Xcg O) ru))))])
 haveI rF:∀p∈rq.zip d++((C.take g).map Spot.Y).zip (d.drop rq.length)++B.zip (d.drop (d.length - B.length)),O9 (n+2) p.1/\Ah 4 p.2:=by
  intro p ZU;simp only[Xc2]at ZU;rcases ZU with(q|q)|q
  ·haveI:=Xgb q;exact⟨hp _ (Xcr _ this.1),N _ this.2⟩
  ·haveI:=Xgb q;exact AJ (Xdc.mp this.1) λj _ e=>⟨by refine rR (e ..) ?_;trivial,N _ (Xd1 this.2)⟩
  ·haveI:=Xgb q;exact⟨hp _ (Xdf _ this.1),N _ (Xd1 this.2)⟩
 haveI JI:Ff (rq.zip d++((C.take g).map Spot.Y).zip (d.drop rq.length)++B.zip (d.drop (d.length - B.length)))=Spot.AQ rq++(C.take g++Spot.AQ B):=by haveI Y:=Ul (ss:=rq) (vs:=d) (lin [rq.length,d.length,B.length] 0xba0c4899001 rfl m);haveI T:=ba (op:=C.take g) (vs:=d.drop rq.length) (by simp only[Xdk,Xeo];exact lin [min g C.length,d.length - rq.length,rq.length,g,B.length,d.length] 0x24b18451568d1b4886ab899001 rfl U.2 (Xe0 g C.length) (sA d.length rq.length));haveI H:=Ul (ss:=B) (vs:=d.drop (d.length - B.length)) (by simp only[Xeo];exact lin [B.length,d.length - (d.length - B.length),d.length,d.length - B.length] 0x1cd6594b88c2b099001 rfl (sA d.length (d.length - B.length)) (sB (a:=d.length) (b:=B.length) (lin [B.length,d.length,rq.length] 0xb64a6899001 rfl m)));haveI na:∀a b:Pr,Ff (a++b)=Ff a++Ff b:=λa b=>Xe3;exact rL (na ..) (rL (na ..) (rL (Y ..) (rL (T ..) (rL (H ..) (rL (Xc7 ..) rfl)))))
 haveI v:(Spot.AQ rq++C++BY E++Spot.AQ B++CL bl).Perm ((BY E++(Spot.AQ rq++(C.take g++Spot.AQ B)))++(C.drop g++CL bl)):=by rw[List.perm_iff_count];intro a;haveI ho:List.count a C=List.count a (C.take g)+List.count a (C.drop g):=rR (List.count_append ..) (rL (Xed ..) rfl);simp only[List.count_append];exact Xdl (lin [List.count a (Spot.AQ rq),List.count a C,List.count a (BY E),List.count a (Spot.AQ B),List.count a (CL bl),List.count a (List.take g C),List.count a (List.drop g C)] 0x18e037f4b8d9eec3c2195becbb1998181 rfl (Xcg ho)) (lin [List.count a (BY E),List.count a (Spot.AQ rq),List.count a (List.take g C),List.count a (Spot.AQ B),List.count a (List.drop g C),List.count a (CL bl),List.count a C] 0x18d4dd9ab9a73a12e5c70298a3e704381 rfl (Xcg ho.symm))
 haveI ZH:=(hf.perm v).left;haveI e6:Ae (callF (n+2)) 3 200 (.X (.and (.E (.A (.W 1) 49 2) true) (.K .NotEq (.A (.W 1) 49 2) (.str ""))) [.SS 0 (.A (.W 1) 49 2) (.GK (.W 2) (.B .Add (.W 3) (.W 5)) (.W 4))] []) (DE P d f b o (.list ((rq.zip d++((C.take g).map Spot.Y).zip (d.drop rq.length)++B.zip (d.drop (d.length - B.length))).map Cz)) D .U .U)=some (.next,DE P d f b o (.list ((rq.zip d++((C.take g).map Spot.Y).zip (d.drop rq.length)++B.zip (d.drop (d.length - B.length))).map Cz)) (D++EC E (Bi (rq.length+g) B.length d)) .U .U):=by
  generalize Val.list ((rq.zip d++((C.take g).map Spot.Y).zip (d.drop rq.length)++B.zip (d.drop (d.length - B.length))).map Cz)=Q;haveI hr:ev (callF (n+2)) 3 (.A (.W 1) 49 2) false (DE P d f b o Q D .U .U)=some (.V (IY E),DE P d f b o Q D .U .U):=G▸ rfl;clear hs hf G v;rcases E with _|_|j
  ·exact Qw (F:=λD=>DE P d f b o Q D .U .U) (qS [aE hr])
  ·exact Qw (F:=λD=>DE P d f b o Q D .U .U) (qS [aE hr,aE hr,aM NA])
  ·haveI L:=DK j Jc;haveI ZI:=ZH.left;haveI Tq:ev (callF (n+2)) 3 (.GK (.W 2) (.B .Add (.W 3) (.W 5)) (.W 4)) false (DE P d f b o Q D .U .U)=some (.M (.list (Bi (rq.length+g) B.length d)),DE P d f b o Q D .U .U):=by
    haveI Y:(rq.length:Int)+(g:Int)<=((d.length - B.length:Nat):Int):=by lia
    haveI T:0<=(rq.length:Int)+(g:Int):=by lia
    haveI H:((d.length - B.length:Nat):Int)<=(d.length:Int):=by lia
    haveI M:((rq.length:Int)+(g:Int)).toNat=rq.length+g:=by lia
    refine rR (t ..) (rR (y ..) (rR (J ..) ((Xck (c:=0<=(rq.length:Int)+(g:Int)/\(rq.length:Int)+(g:Int)<=((d.length - B.length:Nat):Int)/\((d.length - B.length:Nat):Int)<=(d.length:Int)) (AX T Y H)).trans (rL (M ..) (rL (Xea ..) ?_)))));rfl
   exact qS [aE hr,aE hr,aM (NB L),aE Tq,aE hr,aD (NO (x:= .list (Bi (rq.length+g) B.length d)) (ZI.nw _ (.head _)) (Xcq (Xd7 _ _) (Xcq ZI.DY (by decide))))]
 haveI I:=ZH.step (Bs.rest E (Bi (rq.length+g) B.length d));replace I:=JI▸ I;generalize rq.zip d++((C.take g).map Spot.Y).zip (d.drop rq.length)++B.zip (d.drop (d.length - B.length))=pr at*;exact AB λkk=>GN (uW (P:=P) (xs:=d) (f:=f) (b:=b) (g:=o) CX CX rF I) λsp it f7 g7 e7=>kk (qC [aS e1,aS e2,aS e3,aS e4,aS e5,aS e6,aS e7])
theorem aw:∀d n l,l.depth<=d->l.EP->RS (n+d+3) l
 |0,n,l,u,a=>ay a.s λs I=>by
  haveI:=Qf I;cases s with
  |Y j=>trivial
  |GG r E p=>rw[HQ]at this;exact Hb (lin [l.depth,(gl r E p).depth] 0x283e3a203602400c01c1 rfl u this)
 |d+1,n,l,u,a=>by
  haveI:=ay a.s λs I=>by
   haveI:=Qf I;cases s with
   |Y j=>trivial
   |GG r E p=>
    rw[HQ]at this;exact⟨MX (a.VT I),aw d n (gl r E p) (lin [(gl r E p).depth,d,l.depth] 0x7355e6fbeb2d6a2b099001 rfl u this) (MX (a.VT I))⟩
  exact this
mutual
theorem j5:∀(s:Spot)v,(s.bd true v).Perm (s.bd false v)
 | .Y n,v=> .refl _
 | .GG r E p,v=>by haveI Y:=M4 r (Au (gl r E p).counts (itemsOf v));haveI T:=M4 p (EU p.length (Au (gl r E p).counts (itemsOf v)));exact rL S8 (rL M6 ((Xfq.trans (Y.append_right _)).append T))
theorem M4:∀ss vs,(Spot.Bx true ss vs).Perm (Spot.Bx false ss vs)
 | [],_=> .refl _
 |s::ss,[]=> .refl _
 |s::ss,v::vs=>(j5 s v).append (M4 ss vs)
end
theorem Pz(l:AI)(xs:List Val):(l.bd true xs).Perm (l.bd false xs):=by haveI Y:=M4 l.req xs;haveI T:=M4 l.post (EU l.post.length xs);exact rL b8 (rL Q0 (List.Perm.append (rL (Xc7 ..) (Xfq.trans ((Y.append_right _).append_right _))) T))
theorem v8(h:∀x∈xs,Ah d x)(c:xs.length<=400):Ah (d+1) (.list (Bi a b xs)):=by unfold Bi;exact .list (rL Xdk (rL Xeo (lin [min (xs.length - b - a) (xs.length - a),xs.length,xs.length - a] 0x68a78d081834f2c5611801 rfl c (Xf1 (xs.length - b - a) (xs.length - a)) (Xgt xs.length a)))) λx B=>h x (Xd1 (Xet B))
theorem dS(h:∀x∈xs,Ah 4 x)(d:xs.length<=400):∀p∈EC re (Bi a b xs),Ah 5 p.2:=by
 intro p c;rcases re with _|_|k
 ·exact(Xcu c).elim
 ·exact(Xcu c).elim
 ·cases Xcc.mp c;exact v8 h d
mutual
theorem j4:∀(s:Spot)v,s.Sh->Ah 4 v->∀p∈s.bd false v,Ah 5 p.2
 | .Y n,v,_,H=>by
  intro p e;cases Xcc.mp e;exact H.mono (lin [] 24380993 rfl)
 | .GG r E p,v,I,H=>by
  haveI h:∀x∈Au (gl r E p).counts (itemsOf v),Ah 4 x:=Oz (Ah.items H);haveI i:(Au (gl r E p).counts (itemsOf v)).length<=400:=by
   haveI Y:=Oy (c:=(gl r E p).counts) (xs:=itemsOf v);haveI T:=H.Pn;haveI d:=(MX I).s.c1
   omega
  haveI Y:=M3 r (Au (gl r E p).counts (itemsOf v)) I.2.2.1 h;haveI T:=M3 p (EU p.length (Au (gl r E p).counts (itemsOf v))) I.2.2.2 λx B=>h x (Xd1 B);haveI d:=dS (re:=E) (a:=r.length) (b:=p.length) h i;intro q hq;rw[M6]at hq;rcases Xc2.mp hq with hq|hq
  ·exact(Xc2.mp hq).elim (Y q) (d q)
  ·exact T q hq
theorem M3:∀ss vs,Spot.Hq ss->(∀x∈vs,Ah 4 x)->∀p∈Spot.Bx false ss vs,Ah 5 p.2
 | [],_,_,_=>λp a=>(Xcu a).elim
 |s::ss,[],_,_=>λp a=>(Xcu a).elim
 |s::ss,v::vs,I,H=>by
  intro p a;rcases Xc2.mp a with q|q
  ·exact j4 s v I.1 (H v (Xfo ..)) p q
  ·exact M3 ss vs I.2 (λx B=>H x (Xeu _ B)) p q
end
theorem xO(h:∀x∈ys,Ah 4 x):∀p∈Df op ys,Ah 5 p.2:=by intro p a;unfold Df at a;rw[List.mem_iff_getElem]at a;obtain⟨i,b,e⟩:=a;rw[List.getElem_zipWith]at e;subst e;exact(h _ (Xd6 _)).mono (lin [] 24380993 rfl)
theorem b3{l:AI}(u:l.EP)(o:Bool)(h:∀x∈xs,Ah 4 x)(d:xs.length<=400):∀p∈l.bd o xs,Ah 5 p.2:=by
 haveI Y:=M3 l.req xs u.r h;haveI T:=M3 l.post (EU l.post.length xs) u.p λx B=>h x (Xd1 B);haveI H:=dS (re:=l.rest) (a:=l.req.length+l.given xs) (b:=l.post.length) h d;haveI M:=xO (op:=l.opt.take (l.given xs)) (ys:=xs.drop l.req.length) λx B=>h x (Xd1 B);haveI c:∀q∈l.bd false xs,Ah 5 q.2:=λq hq=>by
  rw[Q0]at hq;rcases Xc2.mp hq with hq|hq
  ·rcases Xc2.mp hq with hq|hq
   ·exact(Xc2.mp hq).elim (Y q) (M q)
   ·exact H q hq
  ·exact T q hq
 intro q hq;cases o with
 |false=>exact c q hq
 |true=>exact c q ((Pz l xs).mem_iff.mp hq)
theorem cX:∀op ys,(dk (Df op ys)).Sublist (op.map B6)
 | [],_=> .slnil
 |_::_,[]=>Xh8 _
 |k::op,y::ys=>(cX op ys).cons₂ _
theorem dT(re:Option (Option Nat))(ys:List Val):(dk (EC re ys)).Sublist ((BY re).map B6):=by
 rcases re with _|_|k<;>exact List.Sublist.refl _
mutual
theorem j6:∀(s:Spot)v,(dk (s.bd false v)).Sublist (s.names.map B6)
 | .Y n,v=> .refl _
 | .GG r E p,v=>by haveI Y:=M5 r (Au (gl r E p).counts (itemsOf v));haveI T:=M5 p (EU p.length (Au (gl r E p).counts (itemsOf v)));haveI H:=dT E (Bi r.length p.length (Au (gl r E p).counts (itemsOf v)));refine rL (M6 ..) (rL (I3 ..) (rL (I3 ..) ?_));show List.Sublist _ ((Spot.AQ r++BY E++Spot.AQ p).map B6);exact rL Xco (rL Xco ((Y.append H).append T))
theorem M5:∀ss vs,(dk (Spot.Bx false ss vs)).Sublist ((Spot.AQ ss).map B6)
 | [],_=> .slnil
 |s::ss,[]=>Xh8 _
 |s::ss,v::vs=>by show(dk (s.bd false v++Spot.Bx false ss vs)).Sublist ((s.names++Spot.AQ ss).map B6);exact rL (I3 ..) (rL (Xco ..) ((j6 s v).append (M5 ss vs)))
end
theorem UW(l:AI)(xs:List Val):(dk (l.bd false xs)).Sublist (l.names.map B6):=by haveI Y:=M5 l.req xs;haveI T:=M5 l.post (EU l.post.length xs);haveI H:=dT l.rest (Bi (l.req.length+l.given xs) l.post.length xs);haveI M:=(cX (l.opt.take (l.given xs)) (xs.drop l.req.length)).trans ((List.take_sublist _ _).map B6);refine rL (Q0 ..) (rL (I3 ..) (rL (I3 ..) (rL (I3 ..) ?_)));unfold AI.names;refine rL Xco (rL Xco (rL Xco (rL Xco ?_)));haveI:=(((Y.append M).append H).append T).append (Xh8 ((CL l.block).map B6));rw[Xcz]at this;exact this
theorem bw:∀{ns:List Nat},ns.Nodup->(∀n∈ns,n<100)->(ns.map B6).Nodup
 | [],_,_=> .nil
 |n::ns,h,a=>by have b:=Xc6.mp h;rw[Xde,Xc6];refine⟨λq=>AJ (Xdc.mp q) λm D e=>?_,bw b.2 λm D=>a m (Xeu _ D)⟩;haveI:=bu (a m (Xeu _ D)) (a n (Xfo ..)) e;subst this;exact b.1 D
theorem UV{l:AI}(h:l.names.Nodup)(a:∀n∈l.names,n<100):(dk (l.bd false xs)).Nodup:=(bw h a).sublist (UW l xs)
theorem UT{l:AI}:(l.bd false xs).length<=l.names.length:=by haveI:=(UW l xs).length_le;simpa[dk]using this
noncomputable def He(p:Str×Val):Str×Val:=(p.1,.T [.str p.1,p.2])
def HK(E:Bd)(g:Nat):Val:= .T [.list ((Cy (E.map He)).map (·.2)),.int (g:Int)]
theorem cm(E:Bd):(E.map He).map (·.1)=dk E:=by simp[He,dk,Xhx]
theorem iY(h:E.Perm F)(nd:(dk E).Nodup)(g:Nat):HK E g=HK F g:=by unfold HK;exact rL (zQ (h.map He) (rL (cm ..) nd)) rfl
theorem aG{m:Type}(k:Str)(x:m):∀l:List (Str×m),(CB k x l).Perm ((k,x)::l)
 | []=> .refl _
 | (G,C)::r=>by
  refine rL F5 ?_;split
  ·exact .refl _
  ·exact((aG k x r).cons _).trans (.swap _ _ _)
theorem eN{m:Type}(ps:List (Str×m)):(Cy ps).Perm ps:=by
 unfold Cy;haveI a:∀(ps v:List (Str×m)),(ps.foldl (λv p=>CB p.1 p.2 v) v).Perm (ps++v):=by
  intro ps;induction ps with
  |nil=>intro v;exact .refl _
  |cons p ps Q=>
   intro v;exact(Q _).trans (((aG p.1 p.2 v).append_left ps).trans List.perm_middle)
 haveI:=a ps [];rwa [Xcz]at this
theorem iX(L:∀k∈dk E,PyData.strOk k=true)(H:∀p∈E,Ah 5 p.2)(a:E.length<=800):De 8 (HK E g)=true:=by
 unfold HK;refine cT.mpr ⟨Xch rfl,λx B=>?_⟩;simp only[Xcs,Xcu,Xe2]at B;rcases B with rfl|rfl
 ·refine Kv.mpr ⟨by refine rL (EN ..) (rL ((eN _).length_eq) (rL (EN ..) ?_));exact lin [List.length E] 0x7e96c067a5801 rfl a,λx B=>?_⟩;refine AJ (Xdc.mp B) λp b u=>?_;obtain rfl:=u;refine AJ (Xdc.mp ((eN _).mem_iff.mp b)) λq O u=>rR u (cT.mpr ⟨Xch rfl,λx B=>?_⟩);simp only[Xcs,Xcu,Xe2]at B;rcases B with rfl|rfl
  ·exact L q.1 (Xc3 O)
  ·exact(H q O).De
 ·exact rfl
theorem jt{n k a:Nat}{c:Nat×Option Nat}(h:Dm a c=false):callF (n+1) 5 [.N (.Z k),.V (.int (a:Int)),.V (.int c.1),.V (C8 c.2)]=some (.V .none,[.N (.Z k),.V (.int (a:Int)),.V (.int c.1),.V (C8 c.2)]):=by
 obtain⟨i,b⟩:=c;have h:(decide (a<i)||(match (generalizing:=false) b with|some m=>decide (a>m)|none=>false))=false:=h;have Y:¬a<i:=Xgg (Xg1.mp h).1;have Q:B7 .Lt (.int a) (.int i)=some (.bool false):=by show some (Val.bool (decide (a<(i:Int))))=_;exact rL (Xc1 λz=>Y (Xgj.mp z)) rfl
 cases b with
 |none=>exact qC [aM Q]
 |some m=>
  haveI d:B7 .Gt (.int a) (.int m)=some (.bool false):=by show some (Val.bool (decide (a>(m:Int))))=_;haveI:=Xgg (Xg1.mp h).2;exact rL (Xc1 λz=>this (Xgj.mp z)) rfl
  exact qC [aM Q,aM d]
noncomputable def AI.places(l:AI):Nat:=l.req.length+l.post.length+l.opt.length+(if l.rest.isSome then 1 else 0)
theorem xm{n:Nat}(l:AI):callF (n+2) 2 [.V l.val]=some (.V (.int l.places),[.V l.val]):=by
 haveI Q:= @N2 n l;obtain⟨rq,C,E,B,O⟩:=l;unfold AI.places;refine rR (EN (f:=BK) (as:=C)) ?_;rcases E with _|_|j<;>exact qC [aC Q]
def AI.spread(l:AI)(xs:List Val):List Val:=match xs with
 | [.list ys]=>if 1<l.places then ys else xs
 |_=>xs
def AI.args(l:AI)(st:Bool)(xs:List Val):List Val:=if st then xs else Au l.counts (l.spread xs)
set_option tactic.hygienic true in
theorem VU{l:AI}{xs:List Val}(h:∀x∈xs,Ah 4 x)(a:xs.length<=400):(∀x∈l.spread xs,Ah 4 x)/\(l.spread xs).length<=400:=by
 unfold AI.spread;rcases xs with _|⟨x,_|⟨y,r⟩⟩
 ·exact⟨h,a⟩
 ·cases x with
  |list Q=>
   dsimp only;by_cases q:1<l.places
   ·refine rL (Xck q) ?_;haveI:=h (.list Q) (.head _);exact⟨Ah.items this,this.Pn⟩
   ·exact rL (Xcm q) ⟨h,a⟩
  |_=>exact⟨h,a⟩
 ·cases x<;>exact⟨h,a⟩
theorem OR{l:AI}{st:Bool}(I:l.Short)(h:∀x∈xs,Ah 4 x)(a:xs.length<=400):(∀x∈l.args st xs,Ah 4 x)/\(l.args st xs).length<=400:=by
 haveI Y:=VU (l:=l) h a;haveI y:=I.c1;unfold AI.args;cases st with
 |true=>exact⟨h,a⟩
 |false=>exact⟨Oz Y.1,by haveI:=Oy (c:=l.counts) (xs:=l.spread xs);simp only[Xdu,if_false];lia⟩
theorem Wg{l:AI}{st:Bool}(h:(st&&Dm xs.length l.counts)=false):l.req.length+l.post.length<=(l.args st xs).length:=by
 unfold AI.args;cases st with
 |true=>
  exact Xdh (Xgg (Xg1.mp (show(decide (xs.length<l.counts.1)||_)=false from h)).1)
 |false=>exact Sy
theorem zS{l:AI}(h:∀x∈xs,Ah 4 x):Ae (callF (n+2)) 4 200 (.X (.and (.K .Eq (.F .L (.W 2)) (.int 1)) (.and (.J (.S (.W 2) (.int 0)) 114) (.K .Gt (.call 2 [(.W 1)]) (.int 1)))) [.G 2 (.F .toList (.A (.S (.W 2) (.int 0)) 114 6))] []) [.N (.Z k),.V l.val,.V (.list (xs.map AP)),.V (.bool false),a4,a5]=some (.next,[.N (.Z k),.V l.val,.V (.list ((l.spread xs).map AP)),.V (.bool false),a4,a5]):=by
 haveI T:= @xm n l;have w:∀Q:List Val,Q.length≠1->Ae (callF (n+2)) 4 200 (.X (.and (.K .Eq (.F .L (.W 2)) (.int 1)) (.and (.J (.S (.W 2) (.int 0)) 114) (.K .Gt (.call 2 [(.W 1)]) (.int 1)))) [.G 2 (.F .toList (.A (.S (.W 2) (.int 0)) 114 6))] []) [.N (.Z k),.V l.val,.V (.list (Q.map AP)),.V (.bool false),a4,a5]=some (.next,[.N (.Z k),.V l.val,.V (.list (Q.map AP)),.V (.bool false),a4,a5]):=by
  intro Q a;haveI Y:B7 .Eq (.int Q.length) (.int 1)=some (.bool false):=by haveI:= @Ek Q.length 1;replace this:=(Xc1 a)▸ this;exact this
  replace Y:=(EN (f:=AP))▸ Y;exact qS [aM Y]
 haveI Y:= @Ek 1 1
 match xs,h with
 | [],_=>exact w [] (by decide)
 |x::y::r,_=>
  haveI e:l.spread (x::y::r)=x::y::r:=by cases x<;>rfl
  exact rL e (w (x::y::r) (by simp))
 | [x],h=>
  have B:=h x (.head _);cases B with
  |none=>exact rfl
  |int=>exact rfl
  | @list d Q a p=>
   haveI U:B7 .Gt (.int l.places) (.int 1)=some (.bool (decide (1<l.places))):=by
    show some (Val.bool (decide ((l.places:Int)>1)))=_
    congr 2
    by_cases q:1<l.places
    ·exact rL (Xcy q) (rL (Xcy (by lia)) rfl)
    ·exact rL (Xc1 q) (rL (Xc1 (by lia)) rfl)
   haveI v:l.spread [.list Q]=if 1<l.places then Q else [.list Q]:=rfl
   by_cases q:1<l.places
   ·refine rL (v ..) (rL (Xck q ..) ?_);replace U:=(Xcy q)▸ U;exact rL (List.map_singleton ..) (rL (LJ ..) (qS [aM Y,aC T,aM U]))
   ·refine rL (v ..) (rL (Xcm q ..) ?_);replace U:=(Xc1 q)▸ U;exact rL (List.map_singleton ..) (rL (LJ ..) (qS [aM Y,aC T,aM U]))
theorem j8{n k:Nat}{l:AI}{st:Bool}{xs:List Val}(d:l.EP)(u:l.depth<=2)(t:Fr [] l.names)(h:∀x∈xs,Ah 4 x)(B:xs.length<=400)(V:(st&&Dm xs.length l.counts)=false):
  ∃w,callF (n+9) 13 [.N (.Z k),.V l.val,.V (.list (xs.map AP)),.V (.bool st)]=some (.V (.T [.dict (dk (Ar (l.bd false (l.args st xs)))) (dv (Ar (l.bd false (l.args st xs)))),.int (l.given (l.args st xs))]),[.N (.Z k),.V l.val,.V w,.V (.bool st)]):=by
 haveI c:=OR (st:=st) d.s h B;haveI a:=dG 2 n l u d k [] (l.args st xs) c.1 (lin [(l.args st xs).length] 0x3f4ec06421801 rfl c.2) (Wg V) t;rw[Xfb]at a;generalize r:Ar (l.bd false (l.args st xs))=E at*;haveI N:Ae (callF (n+8)) 4 200 (.EG 2 4 (.F .toList (.W 2)) .Gb true) ([.N (.Z k),.V l.val,.V (.list (xs.map AP)),.V (.bool st)]++List.replicate 2 .U++List.replicate 0 .O)=some (.next,[.N (.Z k),.V l.val,.V (.list (xs.map AP)),.V (.bool st),.N (.dict [] []),.U]):=rfl;have A:Ae (callF (n+8)) 4 200 (.X (.W 3) [.ex (.call 5 [(.W 0),(.F .L (.W 2)),(.call 0 [(.W 1)]),(.call 1 [(.W 1)])])] [.X (.and (.K .Eq (.F .L (.W 2)) (.int 1)) (.and (.J (.S (.W 2) (.int 0)) 114) (.K .Gt (.call 2 [(.W 1)]) (.int 1)))) [.G 2 (.F .toList (.A (.S (.W 2) (.int 0)) 114 6))] [],.G 2 (.call 9 [(.W 2),(.W 1)])]) [.N (.Z k),.V l.val,.V (.list (xs.map AP)),.V (.bool st),.N (.dict [] []),.U]=some (.next,[.N (.Z k),.V l.val,.V (.list ((l.args st xs).map AP)),.V (.bool st),.N (.dict [] []),.U]):=by
  cases st with
  |true=>
   haveI Q:= @N2 (n+7) l;haveI Y:= @Py (n+6) l;haveI D:= @jt (n+7) k xs.length l.counts (by simpa using V);haveI ha:l.args true xs=xs:=rfl;refine rL ha ?_;rw[<-EN (f:=AP)]at D;exact qS [aC Q,aC Y,aC D]
  |false=>
   haveI I:=zS (n:=n+6) (k:=k) (l:=l) (a4:= .N (.dict [] [])) (a5:= .U) h;haveI e:=YQ (n:=n+5) d.s (xs:=(l.spread xs).map AP) (by haveI:=(VU (l:=l) h B).2;exact rL (EN ..) (lin [(l.spread xs).length] 0x3f4ec067a5801 rfl this));rw[YN]at e;haveI ha:l.args false xs=Au l.counts (l.spread xs):=rfl;exact rL ha (qS [aS I,aC e])
 haveI z:Ae (callF (n+8)) 4 200 (.G 5 (.call 12 [(.W 0),(.W 1),(.W 2),(.W 4)])) [.N (.Z k),.V l.val,.V (.list ((l.args st xs).map AP)),.V (.bool st),.N (.dict [] []),.U]=some (.next,[.N (.Z k),.V l.val,.V (.list ((l.args st xs).map AP)),.V (.bool st),.N (.dict (dk E) (dv E)),.V (.int (l.given (l.args st xs)))]):=by haveI b:=a;exact qS [aC b]
 exact⟨.list ((l.args st xs).map AP),qC [aS A,aS z]⟩
theorem XV:∀{D:Bd}{i:Nat}h,(dk D).Nodup->I2 D[i].1 (dk D) (dv D)=some D[i].2
 |p::D,0,_,_=>Xck rfl
 |p::D,i+1,h,b=>by
  have a:i<D.length:=by simpa using h
  have n:=Xc6.mp (show(p.1::dk D).Nodup from b);have Q:=XV a n.2;have H:p.1≠D[i].1:=λe=>n.1 (rL e (Xc3 (Xd6 a)));show I2 D[i].1 (p.1::dk D) (p.2::dv D)=some D[i].2;show(if p.1=D[i].1 then some p.2 else I2 D[i].1 (dk D) (dv D))=_;exact rL (Xcm H) (rL Q rfl)
theorem XX(b:p∈D)(nd:(dk D).Nodup):I2 p.1 (dk D) (dv D)=some p.2:=by obtain⟨i,a,e⟩:=List.getElem_of_mem b;exact e▸ XV a nd
theorem cq:∀E:Bd,H5 (E.map λp=> .T [.str p.1,p.2])=some (E.map He)
 | []=>rfl
 |p::E=>by
  show(match H5 (E.map λp=> .T [.str p.1,p.2])with|some v=>some (He p::v)|none=>none)=_;refine rL (cq E) ?_;rfl
theorem ey{st:Bool}(h:∀x∈xs,Ah 4 x)(B:xs.length<=400):
  ev (callF (n+7)) 4 (.C (.call 27 [.W 0,.W 7]) 7 (.W 2)) false [.N (.Z k),.V P,.V (.list xs),.V (.bool st),d,e,f,.O,.O]=some (.M (.list (xs.map AP)),[.N (.Z k),.V P,.V (.list xs),.V (.bool st),d,e,f,.O,.O]):=Hz xs id (λx=> .V (AP x)) (λz=>[.N (.Z k),.V P,.V (.list xs),.V (.bool st),d,e,f,z,.O]) rfl rfl (Xii xs).symm (λU=>rfl) (λU U=>rfl) (by decide:7<9) (lin [xs.length] 0x7e9d8090000000000895447801 rfl B) λx D=>qE [aC (zq (k:=k) n (h x D))]
theorem We{st:Bool}(h:∀x∈xs,Ah 4 x)(B:xs.length<=400):
  By (callF (n+7)) 4 Iu ([.N (.Z k),.V P,.V (.list xs),.V (.bool st)]++List.replicate 3 .U++List.replicate 2 .O)=some ([.N 0,.V P,.V (.list (xs.map AP)),.V (.bool st)],[.N (.Z k),.V P,.V (.list xs),.V (.bool st),.U,.U,.U,.O,.O]):=by have a:=ey (n:=n) (k:=k) (P:=P) (st:=st) (d:= .U) (e:= .U) (f:= .U) h B;unfold Iu;exact KR (F:=[aE a]) (J6 _ _ (It [aE a])) (by kernel_rfl)
theorem Wx:callF (n+1) 28 args=(match Hf n (callF n) args with
   |some (some (x,i))=>some (.V (.str x),i)
   |some none=>KO (callF n) 200 28 args
   |none=>none):=by
 show I5 n (callF n) 200 28 args=_;unfold I5;refine rL (show Jb 28=none from rfl) ?_;dsimp only;refine rL (Xcm (by decide)) (rL (Xcm (by decide)) (rL (Xck rfl) ?_))
 all_goals(rcases Hf n (callF n) args with _|_|_<;>rfl)
theorem d5(a:args.length=4)(h:By Φ 4 Iu (args++List.replicate 3 .U++List.replicate 2 .O)=some (as,A0)):Hf l Φ args=QS l as A0:=by unfold Hf;exact rL (Xck a) (rL h rfl)
theorem dP{st:Bool}(h:G0 P=some j):QS l [.N 0,.V P,.V (.list ys),.V (.bool st)] A0=
  if(st&&Dm ys.length j)=true then(if(decide (10<=l)&&Fj ys.length j&&Mt (A0.at 0)&&Ms (A0.at 6))=true then some (some (Eh ys.length j,A0.take 4))else none)else some none:=by
 show(match G0 P with|some j=>_|none=>none)=_;exact rL h rfl
theorem fW{d:List Str}{ys:List Val}(L:∀k∈d,k.cps.size<=100):Ed (.dict d ys)=some (d.map .str):=
 Xck (Xce.mpr λx B=>Xcy (Xcq (L x B) (by decide)))
theorem eM{e:PE}{σ A0:St}{E:Bd}(h:ev Φ np e false σ=some (.M (.list (E.map λp=>Val.T [.str p.1,p.2])),A0))(a:E.length<64)(nd:(dk E).Nodup):ev Φ np (.Fo e) false σ=some (.M (.list ((Cy (E.map He)).map λp=>p.2)),A0):=fR h (by
 show(match H5 (E.map λp=>Val.T [.str p.1,p.2])with|some v=>if List.length v<64/\(List.map (λ(x:Str×Val)=>x.1) v).Nodup then some (RV.M (.list ((Cy v).map λ(p:Str×Val)=>p.2)),A0)else none|none=>none)=_;exact rL (cq ..) (Xck ⟨by refine rL (EN ..) ?_;exact a,by refine rL (cm ..) ?_;exact nd⟩))
theorem xe{st:Bool}(nd:(dk E).Nodup)(r:∀p∈E,Ah 5 p.2)(L:∀k∈dk E,k.cps.size<=100)(a:E.length<64):
  ev (callF (n+6)) 4 (.Fo (.C (.T [(.W 8),(.call 26 [(.S (.W 4) (.W 8))])]) 8 (.W 4))) false [.N (.Z k),.V P,.V (.list xs),.V (.bool st),.V (.dict (dk (Ar E)) (dv (Ar E))),.V (.int g),f,.O,.O]=some (.M (.list ((Cy (E.map He)).map (·.2))),[.N (.Z k),.V P,.V (.list xs),.V (.bool st),.V (.dict (dk (Ar E)) (dv (Ar E))),.V (.int g),f,.O,.O]):=by
 have d:Ed (.dict (dk (Ar E)) (dv (Ar E)))=some ((dk E).map .str):=rL (Sj ..) (fW L);have e:=Hz (Φ:=callF (n+6)) (np:=4) (elt:= .T [(.W 8),(.call 26 [(.S (.W 4) (.W 8))])]) (b:=false) E (λp=> .str p.1) (λp=> .V (.T [.str p.1,p.2])) (λz=>[.N (.Z k),.V P,.V (.list xs),.V (.bool st),.V (.dict (dk (Ar E)) (dv (Ar E))),.V (.int g),f,.O,z]) (it:= .W 4) (σ:=[.N (.Z k),.V P,.V (.list xs),.V (.bool st),.V (.dict (dk (Ar E)) (dv (Ar E))),.V (.int (g:Int)),f,.O,.O]) rfl d (by unfold dk;refine rL Xdz ?_;rfl) (λU=>rfl) (λU U=>rfl) (by decide:8<9) (lin [List.length E] 0x16d732374890000000000895447801 rfl a) λp c=>by have h:Ee (.dict (dk (Ar E)) (dv (Ar E))) (.str p.1)=some (AP p.2):=XX (p:=(p.1,AP p.2)) (Xdc.mpr (AG p c rfl)) (rL (Sj ..) nd);exact qE [aI h,aC (xo n (r p c))]
 exact eM e a nd
theorem Vk{l:AI}(a:∀n∈l.names,n<100):∀k∈dk (l.bd o xs),PyData.strOk k=true/\k.cps.size<=100:=by
 intro k L;have D:k∈dk (l.bd false xs):=by
  cases o with
  |false=>exact L
  |true=>exact((Pz l xs).map _).mem_iff.mp L
 exact AB λJ=>AJ (Xdc.mp ((UW l xs).subset D)) λn g e=>J (e▸ ⟨(Ha (a n g)).1,(Ha (a n g)).2.2⟩)
theorem lE(a:args.length=np)(h:Bv Φ np 200 body (args++List.replicate nl .U++List.replicate nc .O)=some (.ret r,σ)):G6 Φ 200 ⟨np,nl,nc,body⟩ args=some (r,σ.take np):=by unfold G6;exact rL (Xck a) (rL h rfl)
theorem jQ{l:AI}{st:Bool}(c:l.EP)(u:l.depth<=2)(t:Fr [] l.names)(q:l.names.length<64)(h:∀x∈xs,Ah 4 x)(B:xs.length<=400)(V:(st&&Dm xs.length l.counts)=false):
  callF (n+10) 28 [.N (.Z k),.V l.val,.V (.list xs),.V (.bool st)]=some (.V (HK (l.bd false (l.args st xs)) (l.given (l.args st xs))),[.N (.Z k),.V l.val,.V (.list xs),.V (.bool st)]):=by
 have ha:=We (n:=n+2) (k:=k) (P:=l.val) (st:=st) h B;have b:=UU l;obtain⟨w,i⟩:=j8 (n:=n) (k:=k) c u t h B V;have a:=OR (st:=st) c.s h B;have r:=b3 c false a.1 a.2;have p:=UV (xs:=l.args st xs) t.nd t.lt;have m:=UT (l:=l) (xs:=l.args st xs);have M:=Vk (o:=false) (xs:=l.args st xs) t.lt;generalize l.given (l.args st xs)=g at*;generalize l.bd false (l.args st xs)=E at*;have j:Hf (n+9) (callF (n+9)) [.N (.Z k),.V l.val,.V (.list xs),.V (.bool st)]=some none:=(d5 rfl ha).trans ((dP b).trans (Xcm (by refine rL (EN ..) (rL (V ..) ?_);decide)));refine rL Wx (rL j ?_);unfold KO;refine rL (show FT 28=some EV from rfl) ?_;generalize l.val=P at*;have I:=xe (n:=n+3) (k:=k) (g:=g) (P:=P) (xs:=xs) (st:=st) (E:=E) (f:= .U) p r (λk L=>(M k L).2) (lin [List.length E,l.names.length] 0xe6aaa6e90c41f1d389b03f081 rfl q m);have N:Ae (callF (n+9)) 4 200 (.Ec 4 5 (.call 13 [(.W 0),(.W 1),(.C (.call 27 [(.W 0),(.W 7)]) 7 (.W 2)),(.W 3)])) [.N (.Z k),.V P,.V (.list xs),.V (.bool st),.U,.U,.U,.O,.O]=some (.next,[.N (.Z k),.V P,.V (.list xs),.V (.bool st),.V (.dict (dk (Ar E)) (dv (Ar E))),.V (.int (g:Int)),.U,.O,.O]):=qS [aE (ey (n:=n+2) (k:=k) (P:=P) (st:=st) (d:= .U) (e:= .U) (f:= .U) h B),aC i];have A:Ae (callF (n+9)) 4 200 (.ret (.T [.Fo (.C (.T [(.W 8),(.call 26 [(.S (.W 4) (.W 8))])]) 8 (.W 4)),(.W 5)])) [.N (.Z k),.V P,.V (.list xs),.V (.bool st),.V (.dict (dk (Ar E)) (dv (Ar E))),.V (.int (g:Int)),.U,.O,.O]=some (.ret (.V (HK E g)),[.N (.Z k),.V P,.V (.list xs),.V (.bool st),.V (.dict (dk (Ar E)) (dv (Ar E))),.V (.int (g:Int)),.U,.O,.O]):=qS [aE I];have T:Bv (callF (n+9)) 4 200 EV.body ([.N (.Z k),.V P,.V (.list xs),.V (.bool st)]++List.replicate 3 .U++List.replicate 2 .O)=some (.ret (.V (HK E g)),[.N (.Z k),.V P,.V (.list xs),.V (.bool st),.V (.dict (dk (Ar E)) (dv (Ar E))),.V (.int (g:Int)),.U,.O,.O]):=by unfold EV;exact(mF N).trans (mG A)
 exact lE (Φ:=callF (n+9)) (np:=4) (nl:=3) (nc:=2) (body:=EV.body) (args:=[.N (.Z k),.V P,.V (.list xs),.V (.bool st)]) rfl T
theorem jO{l:AI}{xs:List Val}(b:l.small)(h:∀x∈xs,Ah 4 x)(B:xs.length<=400)(V:Dm xs.length l.counts=true):
  callF (n+11) 28 [.N (.Z k),.V l.val,.V (.list xs),.V (.bool true)]=some (.V (.str (Eh xs.length l.counts)),[.N (.Z k),.V l.val,.V (.list xs),.V (.bool true)]):=by
 have ha:=We (n:=n+3) (k:=k) (P:=l.val) (st:=true) h B;have a:=UU l;have M:Fj xs.length l.counts=true:=by
  unfold Fj;have Y:=N0 b;have T:=N1 b;refine rL (Xcy (by exact lin [xs.length] 0x473898788eb03f081 rfl B)) (rL (Xcy Y) ?_);cases q:l.counts.2 with
  |none=>rfl
  |some m=>simp[T m q]
 have c:Hf (n+10) (callF (n+10)) [.N (.Z k),.V l.val,.V (.list xs),.V (.bool true)]=some (some (Eh xs.length l.counts,[.N (.Z k),.V l.val,.V (.list xs),.V (.bool true)])):=(d5 rfl ha).trans ((dP a).trans ((Xck (rL (EN ..) V)).trans ((Xck (by refine rL (EN ..) (rL (M ..) (rL (Xcy (show 10<=n+10 by exact lin [n] 27633651521 rfl) ..) ?_));rfl)).trans (by refine rL (EN ..) ?_;rfl))));exact rL Wx (rL c rfl)
def G4(P:Val)(xs:List Val)(st:Bool)(c1:Nat)(c2:Option Nat)(a b c d:LV):St:=[.V P,.V (.list xs),.V (.bool st),.V (.int (c1:Int)),.V (C8 c2),a,b,c,d,.O]
noncomputable def Xh:PE:= .and (.W 2) (.or (.K .Lt (.F .L (.W 1)) (.W 3)) (.and (.E (.W 4) true) (.K .Gt (.F .L (.W 1)) (.W 4))))
section
variable {Φ:BZ}{P:Val}{xs:List Val}{st:Bool}{c1:Nat}{c2:Option Nat}{a b c d:LV}
theorem bJ(i j:Nat):B7 .Lt (.int (i:Int)) (.int (j:Int))=some (.bool (decide (i<j))):=by
 show some (Val.bool (decide (i<(j:Int))))=_
 congr 2
 by_cases q:i<j
 ·exact rL (Xcy q) (rL (Xcy (by lia)) rfl)
 ·exact rL (Xc1 q) (rL (Xc1 (by lia)) rfl)
theorem MZ(i j:Nat):B7 .Gt (.int (i:Int)) (.int (j:Int))=some (.bool (decide (i>j))):=by
 show some (Val.bool (decide (i>(j:Int))))=_
 congr 2
 by_cases q:i>j
 ·exact rL (Xcy q) (rL (Xcy (by lia)) rfl)
 ·exact rL (Xc1 q) (rL (Xc1 (by lia)) rfl)
theorem Xi:ev Φ 3 Xh true (G4 P xs st c1 c2 a b c d)=some (.V (.bool (st&&Dm xs.length (c1,c2))),G4 P xs st c1 c2 a b c d):=by
 unfold Xh Dm;haveI Q:=bJ xs.length c1;cases st with
 |false=>exact rfl
 |true=>
  cases c2 with
  |none=>
   generalize decide (xs.length<c1)=q at Q ⊢;cases q<;>exact qE [aM Q]
  |some m=>
   haveI k:=MZ xs.length m;dsimp only;generalize decide (xs.length<c1)=q at Q ⊢;generalize decide (xs.length>m)=s at k ⊢;cases q with
   |true=>exact qE [aM Q]
   |false=>cases s<;>exact qE [aM Q,aM k]
end
theorem ei:(Str.ofString "None").cps.size=4/\(Str.ofString "ArgumentError: wrong number of arguments (given ").cps.size<=100/\(Str.ofString ", expected ").cps.size<=100/\(Str.ofString ")").cps.size<=100:=by decide+kernel
theorem jS(h:c.1<1000)(D:∀k,c.2=some k->k<1000):(CA c).cps.size<=100:=by
 obtain⟨c1,c2⟩:=c;haveI Y:=F6 h;haveI:=Vn;haveI:=Nm;cases c2 with
 |none=>simp only[CA,Ci];simp only at Y;lia
 |some m=>
  haveI T:=F6 (D m rfl);simp only at Y;by_cases q:c1=m
  ·simp only[CA,q,Xf2];exact lin [(Ak m).cps.size] 28295323736065 rfl T
  ·simp only[CA,q,if_false,Ci];exact lin [(Ak c1).cps.size,(Str.ofString "..").cps.size,(Ak m).cps.size] 53618349012525411452809613123273601 rfl (Xcg this) Y T
theorem ka{l:AI}(s:l.small)(t:xs.length<=400)(V:Dm xs.length l.counts=true):
  callF (n+2) 29 [.V l.val,.V (.list xs),.V (.bool true)]=some (.V (.str (Eh xs.length l.counts)),[.V l.val,.V (.list xs),.V (.bool true)]):=by
 haveI p:= @Mz n l;haveI E:=N0 s;haveI e:=N1 s;generalize l.counts=T at*;obtain⟨c1,c2⟩:=T;simp only at p E e;generalize l.val=P at*;have Q:Ae (callF (n+1)) 3 200 (.Ec 3 4 (.call 22 [(.W 0)])) ([.V P,.V (.list xs),.V (.bool true)]++List.replicate 6 .U++List.replicate 1 .O)=some (.next,G4 P xs true c1 c2 .U .U .U .U):=qS [aC p];have g:=Xi (Φ:=callF (n+1)) (P:=P) (xs:=xs) (st:=true) (c1:=c1) (c2:=c2) (a:= .U) (b:= .U) (c:= .U) (d:= .U);rw[V,Bool.true_and]at g;haveI f:=GL E;haveI j:=GL (n:=xs.length) (lin [xs.length] 82112310703137484929 rfl t);haveI r:∃w,Ae (callF (n+1)) 3 200 (.G 5 (.D (.K .Eq (.W 4) (.W 3)) (.F .H (.W 3)) (.B .Add (.B .Add (.F .H (.W 3)) (.str "..")) (.F .H (.W 4))))) (G4 P xs true c1 c2 .U .U .U .U)=some (.next,G4 P xs true c1 c2 (.V w) .U .U .U)/\(∀m,c2=some m->w= .str (CA (c1,c2))):=by
  cases c2 with
  |none=>
   haveI Y:B7 .Eq .none (.int c1)=some (.bool false):=rfl;haveI x:=Oo E;haveI hd2:Bq .Add (.str (Ak c1++"..")) (.str "None")=some (.V (.str (Ak c1++".."++"None"))):=Ey (by refine rL (Ci ..) ?_;haveI G:=F6 E;haveI C:=Nm;haveI H:=ei.1;exact lin [(Ak c1).cps.size,(Str.ofString "..").cps.size,(Str.ofString "None").cps.size] 198514420352013274965650290087613051387735393452929 rfl G (Xcg C) (Xcg H));exact(AG (.str (Ak c1++".."++"None")) (qS [aM Y,aF f,aB x,aB hd2]) λm h=>nS h)
  |some m=>
   haveI D:=e m rfl;haveI Y:= @Ek m c1;haveI M:=GL D;by_cases q:m=c1
   ·clear E V p Q g;subst q;rw[Xcy rfl]at Y;exact(AG (.str (CA (m,some m))) (rL SH (qS [aM Y,aF f])) λm h=>by obtain rfl:=Xcl h;rfl)
   ·rw[Xc1 q]at Y;haveI y:¬c1=m:=λh=>q h.symm;exact(AG (.str (CA (c1,some m))) (rL (SG y) (qS [aM Y,aF f,aB (Oo E),aF M,aB (Sl E D)])) λm h=>by obtain rfl:=Xcl h;rfl)
 obtain⟨w,r,hw⟩:=r;have v:Ae (callF (n+1)) 3 200 (.G 5 (.D (.E (.W 4) false) (.B .Add (.F .H (.W 3)) (.str "+")) (.W 5))) (G4 P xs true c1 c2 (.V w) .U .U .U)=some (.next,G4 P xs true c1 c2 (.V (.str (CA (c1,c2)))) .U .U .U):=by
  clear V e p Q g r;cases c2 with
  |none=>exact qS [aF f,aB (V5 E)]
  |some m=>
   haveI:=hw m rfl;exact this▸ rfl
 haveI k:=jS (c:=(c1,c2)) E e;haveI o:ev (callF (n+1)) 3 (.B .Add (.B .Add (.B .Add (.B .Add (.str "ArgumentError: wrong number of arguments (given ") (.F .H (.F .L (.W 1)))) (.str ", expected ")) (.W 5)) (.str (Str.ofString ")"))) false (G4 P xs true c1 c2 (.V (.str (CA (c1,c2)))) .U .U .U)=some (.V (.str (Eh xs.length (c1,c2))),G4 P xs true c1 c2 (.V (.str (CA (c1,c2)))) .U .U .U):=by refine AB λJ=>FE ei λL A z I=>J ?_;haveI U:FD .L (.list xs)=some (.V (.int xs.length)):=rfl;haveI i:=F6 (n:=xs.length) (lin [xs.length] 82112310703137484929 rfl t);unfold Eh;generalize CA (c1,c2)=B at*;haveI a1:=Ey (lin [(Str.ofString "ArgumentError: wrong number of arguments (given ").cps.size,(Ak xs.length).cps.size] 11094406523427918733992848149069303996545 rfl A i);haveI a2:Bq .Add (.str (Str.ofString "ArgumentError: wrong number of arguments (given "++Ak xs.length)) (.str (Str.ofString ", expected "))=some (.V (.str (Str.ofString "ArgumentError: wrong number of arguments (given "++Ak xs.length++Str.ofString ", expected "))):=Ey (rL (Ci ..) (lin [(Str.ofString "ArgumentError: wrong number of arguments (given ").cps.size,(Ak xs.length).cps.size,(Str.ofString ", expected ").cps.size] 482457396027933614267908293071578606501665295319937 rfl A z i));haveI a3:Bq .Add (.str (Str.ofString "ArgumentError: wrong number of arguments (given "++Ak xs.length++Str.ofString ", expected ")) (.str B)=some (.V (.str (Str.ofString "ArgumentError: wrong number of arguments (given "++Ak xs.length++Str.ofString ", expected "++B))):=Ey (by rw[Ci,Ci];exact lin [(Str.ofString "ArgumentError: wrong number of arguments (given ").cps.size,(Ak xs.length).cps.size,(Str.ofString ", expected ").cps.size,B.cps.size] 206560904466404157524129071159244689272231661647113019855574401 rfl A z i k);haveI u:Bq .Add (.str (Str.ofString "ArgumentError: wrong number of arguments (given "++Ak xs.length++Str.ofString ", expected "++B)) (.str (Str.ofString ")"))=some (.V (.str (Str.ofString "ArgumentError: wrong number of arguments (given "++Ak xs.length++Str.ofString ", expected "++B++Str.ofString ")"))):=Ey (by rw[Ci,Ci,Ci];exact lin [(Str.ofString "ArgumentError: wrong number of arguments (given ").cps.size,(Ak xs.length).cps.size,(Str.ofString ", expected ").cps.size,B.cps.size,(Str.ofString ")").cps.size] 8982619834318285146583908866435178857814662062025018342499056740055220609 rfl A z I i k);exact qE [aF U,aF j,aB a1,aB a2,aB a3,aB u]
 exact qC [aC p,aE g,aS r,aS v,aZ o]
def Gc(P:Val)(xs:List Val)(st:Bool)(c1:Nat)(c2:Option Nat)(sp:Val)(F G z:LV):St:=[.V P,.V (.list xs),.V (.bool st),.V (.int (c1:Int)),.V (C8 c2),.U,.V sp,F,G,z]
theorem kg{st:Bool}(nd:(dk E).Nodup)(L:∀k∈dk E,k.cps.size<=100)(a:E.length<64):
  ev (callF n) 3 (.Fo (.C (.T [(.W 9),(.S (.W 7) (.W 9))]) 9 (.W 7))) false (Gc P xs st c1 c2 sp (.N (.dict (dk E) (dv E))) (.V (.int g)) .O)=some (.M (.list ((Cy (E.map He)).map (·.2))),Gc P xs st c1 c2 sp (.V (.dict (dk E) (dv E))) (.V (.int g)) .O):=by
 have e:=Hz (Φ:=callF n) (np:=3) (elt:= .T [(.W 9),(.S (.W 7) (.W 9))]) (b:=false) E (λp=> .str p.1) (λp=> .V (.T [.str p.1,p.2])) (λz=>Gc P xs st c1 c2 sp (.V (.dict (dk E) (dv E))) (.V (.int g)) z) (it:= .W 7) (σ:=Gc P xs st c1 c2 sp (.N (.dict (dk E) (dv E))) (.V (.int (g:Int))) .O) rfl (fW L) (by unfold dk;refine rL Xdz ?_;rfl) (λU=>rfl) (λU U=>rfl) (by decide:9<10) (lin [List.length E] 0x16d732374890000000000895447801 rfl a) λp c=>
  qE [aI (show Ee (.dict (dk E) (dv E)) (.str p.1)=some p.2 from XX c nd)]
 exact eM e a nd
theorem kh{l:AI}{st:Bool}(h:∀x∈xs,Ah 4 x):Ae (callF n) 3 200 (.X (.and (.not (.W 2)) (.and (.K .Eq (.F .L (.W 1)) (.int 1)) (.and (.J (.S (.W 1) (.int 0)) 1) (.K .Gt (.W 6) (.int 1))))) [.G 1 (.S (.W 1) (.int 0))] []) (Gc l.val xs st c1 c2 (.int l.places) .U .U .O)=some (.next,Gc l.val (if st then xs else l.spread xs) st c1 c2 (.int l.places) .U .U .O):=by
 cases st with
 |true=>exact rfl
 |false=>
  have w:∀Q:List Val,Q.length≠1->Ae (callF n) 3 200 (.X (.and (.not (.W 2)) (.and (.K .Eq (.F .L (.W 1)) (.int 1)) (.and (.J (.S (.W 1) (.int 0)) 1) (.K .Gt (.W 6) (.int 1))))) [.G 1 (.S (.W 1) (.int 0))] []) (Gc l.val Q false c1 c2 (.int l.places) .U .U .O)=some (.next,Gc l.val Q false c1 c2 (.int l.places) .U .U .O):=by
   intro Q a;have Y:B7 .Eq (.int Q.length) (.int 1)=some (.bool false):=by have:= @Ek Q.length 1;rw[Xc1 a]at this;exact this
   exact qS [aM Y]
  have Y:= @Ek 1 1;simp only[Xdu,if_false]
  match xs,h with
  | [],_=>exact w [] (by decide)
  |x::y::r,_=>
   have e:l.spread (x::y::r)=x::y::r:=by cases x<;>rfl
   exact rL e (w (x::y::r) (by simp))
  | [x],h=>
   have B:=h x (.head _);cases B with
   |none=>exact rfl
   |int=>exact rfl
   | @list d Q a p=>
    have U:=MZ l.places 1;have v:l.spread [.list Q]=if 1<l.places then Q else [.list Q]:=rfl
    by_cases q:1<l.places
    ·refine rL v (rL (Xck q) ?_);rw[Xcy q]at U;exact qS [aM Y,aM U]
    ·refine rL v (rL (Xcm q) ?_);rw[Xc1 q]at U;exact qS [aM Y,aM U]
theorem ke{n:Nat}{l:AI}{st:Bool}{xs:List Val}{c1:Nat}{c2:Option Nat}:∀a b c d,ev (callF (n+5)) 3 (.B .Add (.B .Add (.B .Add (.F .L (.A (.W 0) 49 0)) (.F .L (.A (.W 0) 49 1))) (.F .L (.A (.W 0) 49 3))) (.F .toInt (.E (.A (.W 0) 49 2) true))) false (G4 l.val xs st c1 c2 a b c d)=some (.V (.int l.places),G4 l.val xs st c1 c2 a b c d):=by
 intro a b c d;obtain⟨rq,C,E,B,O⟩:=l;have e:∀z:Nat,(rq.length+B.length+C.length+z:Nat)=(((Spot.vals rq).length)+((C.map BK).length)+((Spot.vals B).length))+(z):=λz=>by refine rL (D0 ..) (rL (D0 ..) (rL (EN ..) ?_));lia
 rcases E with _|_|j
 ·show _=some (RV.V (.int (rq.length+B.length+C.length+0:Nat)),_);exact rL (e ..) (qE [])
 ·show _=some (RV.V (.int (rq.length+B.length+C.length+1:Nat)),_);exact rL (e ..) (qE [])
 ·show _=some (RV.V (.int (rq.length+B.length+C.length+1:Nat)),_);exact rL (e ..) (qE [])
theorem kZ{st:Bool}(s:(if st=true then j else Au (c1,c2) j)=ys)(e:callF (n+5) 23 [.V P,.V (.list j)]=some (.V (.list (Au (c1,c2) j)),[.V P,.V w])):
  ev (callF (n+5)) 3 (.D (.W 2) (.W 1) (.call 23 [(.W 0),(.W 1)])) false (Gc P j st c1 c2 sp (.N (.dict [] [])) .U .O)=some (.V (.list ys),Gc P j st c1 c2 sp (.N (.dict [] [])) .U .O):=by
 subst s;cases st with
 |true=>exact rfl
 |false=>exact qE [aC e]
theorem ie(l:AI)(st:Bool)(xs:List Val):(if st=true then xs else Au l.counts (if st=true then xs else l.spread xs))=l.args st xs:=by cases st<;>rfl
theorem ii{l:AI}{st:Bool}(h:∀x∈xs,Ah 4 x)(B:xs.length<=400):(if st=true then xs else l.spread xs).length<=900:=by
 cases st with
 |true=>exact Xcq B (by decide)
 |false=>exact Xcq (VU h B).2 (by decide)
theorem kb{n:Nat}{l:AI}{st:Bool}{xs:List Val}(u:l.EP)(J:l.depth<=2)(t:Fr [] l.names)(q:l.names.length<64)(h:∀x∈xs,Ah 4 x)(D:xs.length<=400)(V:(st&&Dm xs.length l.counts)=false):
  ∃w,callF (n+6) 29 [.V l.val,.V (.list xs),.V (.bool st)]=some (.V (HK (l.bd true (l.args st xs)) (l.given (l.args st xs))),[.V l.val,.V w,.V (.bool st)]):=by
 have s:= @Mz (n+4) l;have f:=OR (st:=st) u.s h D;have z:=aw 2 n l J u [] (l.args st xs) f.1 (lin [(l.args st xs).length] 0x3f4ec06421801 rfl f.2) (Wg V) t;rw[Xfb]at z;have i:=Pz l (l.args st xs);have G:=(i.map _).nodup_iff.mpr (UV t.nd t.lt);have m:(l.bd true (l.args st xs)).length<64:=by refine rL i.length_eq ?_;have:=UT (l:=l) (xs:=l.args st xs);exact lin [List.length (AI.bd false l (l.args st xs)),l.names.length] 0xe6aaa6e90c41f1d389b03f081 rfl q this
 have M:=Vk (o:=true) (xs:=l.args st xs) t.lt;have v:=kh (n:=n+5) (l:=l) (st:=st) (c1:=l.counts.1) (c2:=l.counts.2) h;have C:=Xi (Φ:=callF (n+5)) (P:=l.val) (xs:=xs) (st:=st) (c1:=l.counts.1) (c2:=l.counts.2) (a:= .U) (b:= .U) (c:= .U) (d:= .U);rw[V]at C;have y:= @ke n l st xs l.counts.1 l.counts.2;have ha:=ie l st xs;have e:∃w,callF (n+5) 23 [.V l.val,.V (.list (if st=true then xs else l.spread xs))]=some (.V (.list (Au l.counts (if st=true then xs else l.spread xs))),[.V l.val,.V w]):=au (n:=n+3) u.s (ii h D);obtain⟨w,e⟩:=e;generalize O:(if st=true then xs else l.spread xs)=r at*;have B:(if st=true then r else Au l.counts r)=l.args st xs:=by
  subst O;refine rR ha ?_;clear V f z i G m M C y v ha e;cases st<;>rfl
 generalize l.given (l.args st xs)=g at*;generalize Q:l.bd true (l.args st xs)=E at*;generalize l.args st xs=U at*;generalize l.counts=T at*;clear V ha;obtain⟨j,p⟩:=T;simp only at*;generalize Val.int (l.places:Int)=H at*;generalize l.val=P at*;have A:=z;have I:=kZ (sp:=H) B e;have N:=kg (n:=n+5) (g:=g) (c1:=j) (c2:=p) (P:=P) (sp:=H) (xs:=r) (st:=st) G (λk L=>(M k L).2) m;exact⟨.list r,qC [aC s,aE C,aE (y .U .U .U .U),aS v,aE I,aC A,aE N]⟩
theorem vV:((List.range 1000).all λn=>PyData.strOk (Ak n))=true:=by decide+kernel
theorem Um(h:n<1000):PyData.strOk (Ak n)=true:=Xce.mp vV n (Xe7.mpr h)
theorem Jk(B:PyData.strOk x=true)(p:PyData.strOk y=true):PyData.strOk (x++y)=true:=by unfold PyData.strOk at*;show(Str.append x y).cps.all _=true;unfold Str.append;simp only[Array.all_append,B,p,Bool.and_self]
theorem cw:PyData.strOk "+"=true/\PyData.strOk ".."=true/\PyData.strOk "ArgumentError: wrong number of arguments (given "=true/\PyData.strOk ", expected "=true/\PyData.strOk ")"=true:=by decide+kernel
theorem Wt(h:c.1<1000)(D:∀k,c.2=some k->k<1000):PyData.strOk (CA c)=true:=by
 obtain⟨i,a⟩:=c;have Y:=Um h;refine Bf cw λH z _=>?_;cases a with
 |none=>exact Jk Y H
 |some m=>
  have T:=Um (D m rfl);by_cases q:i=m
  ·simp only[CA,q,Xf2];exact T
  ·simp only[CA,q,if_false];exact Jk (Jk Y z) T
theorem iu(g:n<1000)(h:c.1<1000)(D:∀k,c.2=some k->k<1000):PyData.strOk (Eh n c)=true:=by refine Ny cw λ_ _ a G o=>?_;unfold Eh;exact Jk (Jk (Jk (Jk a (Um g)) G) (Wt h D)) o
structure AI.Good(l:AI):Prop where
 deep:l.EP
 d2:l.depth<=2
 fr:Fr [] l.names
 DY:l.names.length<64
theorem AI.Good.ok{l:AI}(h:l.Good):l.Ok:=⟨h.fr.lt,by have:=h.DY;exact lin [l.names.length] 0xb6b991ba467a5801 rfl this⟩
theorem yW{l:AI}{st:Bool}(a:l.Good)(h:∀x∈xs,Ah 4 x)(B:xs.length<=400):
  ∃r w,callF (n+11) 28 [.N (.Z k),.V l.val,.V (.list xs),.V (.bool st)]=some (.V r,[.N (.Z k),.V l.val,.V (.list xs),.V (.bool st)])/\
   callF (n+11) 29 [.V l.val,.V (.list xs),.V (.bool st)]=some (.V r,[.V l.val,.V w,.V (.bool st)])/\B7 .NotEq r r=some (.bool false):=by
 cases V:(st&&Dm xs.length l.counts)with
 |true=>
  obtain⟨rfl,U⟩:st=true/\Dm xs.length l.counts=true:=by simpa using V
  exact(CN _ _ (jO a.deep.s.small h B U) (ka a.deep.s.small B U) (Q8 (d:=0) (iu (lin [xs.length] 0x473898788eb03f081 rfl B) (N0 a.deep.s.small) (N1 a.deep.s.small)) (by decide)))
 |false=>
  obtain⟨w,b⟩:=kb a.deep a.d2 a.fr a.DY h B V;have I:=jQ (n:=n+1) (k:=k) a.deep a.d2 a.fr a.DY h B V;have c:=OR (st:=st) a.deep.s h B;have Y:=iY (Pz l (l.args st xs)).symm (UV a.fr.nd a.fr.lt) (l.given (l.args st xs));rw[<-Y]at b;refine(CN _ w I b (Q8 (iX (λk L=>(Vk a.fr.lt k L).1) (b3 a.deep false c.1 c.2) ?_) (by decide)));have:=UT (l:=l) (xs:=l.args st xs);have:=a.DY
  lia
def C9(bx:List Val)(k:Nat)(P:Val)(g:Int)(c1:Nat)(c2:Option Nat)(cn:Str)(r a b x y:LV):St:=[.N (.list bx),.N (.Z k),.V P,.V (.int g),.V (.int (c1:Int)),.V (C8 c2),.V (.str cn),r,a,b,x,y]
def Lk(r:Val):Prop:=∃a,r= .list a/\(∀x∈a,Ah 4 x)/\a.length<=400
section
variable {N k:Nat}{bx:List Val}{P:Val}{g:Int}{c1:Nat}{c2:Option Nat}{cn:Str}
theorem yY{o:Nat}(Y:ev (callF N) 4 (.F .L (.A (.W 2) 49 1)) false (C9 bx k P g c1 c2 cn .U .U .U .O .O)=some (.V (.int (o:Int)),C9 bx k P g c1 c2 cn .U .U .U .O .O)):
  ∃R,ev (callF N) 4 (.R (.R (.B .Add (.int 10) (.W 11)) 11 (.W 10)) 10 (.min (.int 9) (.B .Add (.B .Add (.W 4) (.F .L (.A (.W 2) 49 1))) (.int 2)))) false (C9 bx k P g c1 c2 cn .U .U .U .O .O)=some (.M (.list R),C9 bx k P g c1 c2 cn .U .U .U .O .O)/\(∀r∈R,Lk r)/\R.length<=9:=by
 haveI D:∃m:Nat,m<=9/\ev (callF N) 4 (.min (.int 9) (.B .Add (.B .Add (.W 4) (.F .L (.A (.W 2) 49 1))) (.int 2))) false (C9 bx k P g c1 c2 cn .U .U .U .O .O)=some (.V (.int m),C9 bx k P g c1 c2 cn .U .U .U .O .O):=by
  refine(AG (min 9 (c1+o+2)) (lin [min 9 (c1+o+2)] 25512181573633 rfl (Xe0 9 (c1+o+2))) ?_);refine rL (show(min 9 (c1+o+2))=if c1+(o:Int)+2<9 then c1+(o:Int)+2 else 9 by split<;>lia) ?_;exact qE [aE Y]
 refine AJ D λm b D=>?_;obtain⟨Q,w,e,⟨⟨z,c,C⟩,p⟩,u⟩:=MD
  (λQ a=>(∃z,Af z/\a=C9 bx k P g c1 c2 cn .U .U .U z .O)/\∀r∈Q,Lk r) D rfl (lin [m] 0x2e680900000000000dbba7801 rfl b) rfl (by decide:10<12) (AH ⟨.U,CX,rfl⟩ λr h=>by cases h) (λQ a⟨⟨z,c,C⟩,_⟩=>by subst C;exact c.put) (λi n Q a t⟨⟨z,c,C⟩,p⟩=>by
   subst C;obtain⟨T,s,E,⟨⟨y,v,d⟩,l⟩,M⟩:=MD (elt:= .B .Add (.int 10) (.W 11)) (it:= .W 10) (σ:=C9 bx k P g c1 c2 cn .U .U .U (.V (.int (i:Int))) .O) (AA:=C9 bx k P g c1 c2 cn .U .U .U (.V (.int (i:Int))) .O) (r:= .V (.int (i:Int)))
    (λQ a=>(∃z,Af z/\a=C9 bx k P g c1 c2 cn .U .U .U (.V (.int (i:Int))) z)/\∀r∈Q,Ah 4 r) rfl rfl (lin [i,m] 0x19a19f8c68ae758900000000000dbba7801 rfl b n) rfl (by decide:11<12) ⟨⟨.U,CX,rfl⟩,λr h=>by cases h⟩ (λQ a⟨⟨z,c,C⟩,_⟩=>by subst C;exact c.put) (λj G Q a t⟨⟨z,c,C⟩,p⟩=>by
     subst C;refine⟨.V (.int (10+(j:Int))),C9 bx k P g c1 c2 cn .U .U .U (.V (.int (i:Int))) (.V (.int (j:Int))),by exact rfl,⟨_,CG _,rfl⟩,λr f=>?_⟩;rcases Xc2.mp f with q|q
     ·exact p r q
     ·simp only[RV.fz,Xcc]at q;exact rL q .int)
   refine⟨_,_,E,⟨.V (.int (i:Int)),CG _,by refine rL d ?_;rfl⟩,λr f=>?_⟩;rcases Xc2.mp f with q|q
   ·exact p r q
   ·simp only[RV.fz,OV.fz,Xcc]at q;refine rL q ?_;exact⟨T,rfl,l,by exact lin [T.length,m,i] 0xe6a9d9d8d132b4573ac5611801 rfl b n (Xcg M)⟩)
 refine⟨Q,?_,p,by exact lin [Q.length,m] 0xb6414573ac4852801 rfl b (Xcg u)⟩;refine rL e (rL C ?_);rfl
end
noncomputable def Ea:List Val:=[.list [.list [.int 1,.int 2,.int 3]],.list [.list [.list [.int 4,.int 5],.int 6]]]
noncomputable def Jd:List Val:=[.list [.list [.int 7],.list [],.list [.int 8,.int 9]],.list [.none],.list [.list []],.list [.int 3,.list [.int 4,.list [.int 5,.int 6]]]]
theorem yT{r:Val}(h:∃xs,r= .list xs/\xs.all (NJ 4)=true/\xs.length<=400):Lk r:=by
 refine Bh h λxs e h b=>(BS xs e (λx B=>?_) b);haveI a:∀d v,NJ d v=true->Ah d v:=by
  intro d;induction d with
  |zero=>intro v h;cases v<;>first|exact .none|exact .int|exact fT h
  |succ d Q=>
   intro v h;cases v with
   |none=>exact .none
   |int i=>exact .int
   |list xs=>have:=wy.mp h;exact .list this.1 λx B=>Q x (this.2 x B)
   |_=>exact fT h
 exact a 4 x (Xce.mp h x B)
theorem dW:∀r∈Ea++Jd,Lk r:=by
 intro r a;simp only[Ea,Jd,Xh2,Xfb,Xcs,Xcu,Xe2]at a;rcases a with rfl|rfl|rfl|rfl|rfl|rfl<;>exact yT (BS _ rfl (by decide) (by decide))
theorem z8{n k:Nat}{bx:List Val}{g:Int}{l:AI}(p:l.Good)(hg:g=0\/g=1):
  callF (n+12) 31 [.N (.list bx),.N (.Z k),.V l.val,.V (.int g)]=some (.V (.bool true),[.N (.list bx),.N (.Z k),.V l.val,.V (.int g)]):=by
 haveI u:= @Mz (n+10) l;haveI h4:= @mO (n+8) l p.deep.s.small;haveI h8:=bc 2 (n+5) l p.d2 p.ok;haveI ou:=bD 2 (n+8) l p.d2 p.ok;haveI pE:=λt=>zu (n:=n+6) (k:=k) p.ok p.deep.s t;haveI E:=N0 p.deep.s.small;haveI s:=N1 p.deep.s.small;haveI U:=λt G h hx=>yW (n:=n) (k:=k) (st:=t) (xs:=G) p h hx;have y:∀c1 c2 cn,ev (callF (n+11)) 4 (.F .L (.A (.W 2) 49 1)) false (C9 bx k l.val g c1 c2 cn .U .U .U .O .O)=some (.V (.int l.opt.length),C9 bx k l.val g c1 c2 cn .U .U .U .O .O):=by intro c1 c2 cn;exact(EN (f:=BK))▸ qE []
 haveI FZ:De 1 (.list (l.names.map AL))=true:=Kv.mpr (AH (by refine rL (EN ..) ?_;haveI:=p.DY;exact lin [l.names.length] 0xb6b991ba467a5801 rfl this) (λx hx=>by refine AJ (Xdc.mp hx) λj hj BV=>?_;obtain rfl:=BV;exact(Ha (p.fr.lt j hj)).1))
 haveI T:=Wt E s;generalize l.counts=cc at*;obtain⟨c1,c2⟩:=cc;simp only at u E s;generalize l.opt.length=o at*;generalize l.names.map AL=nms at*;generalize l.val=P at*;haveI z:=GL E;haveI e1:∃cn,Ae (callF (n+11)) 4 200 (.G 6 (.D (.E (.W 5) false) (.B .Add (.F .H (.W 4)) (.str "+")) (.B .Add (.B .Add (.F .H (.W 4)) (.str "..")) (.F .H (.W 5))))) [.N (.list bx),.N (.Z k),.V P,.V (.int g),.V (.int c1),.V (C8 c2),.U,.U,.U,.U,.O,.O]=some (.next,C9 bx k P g c1 c2 cn .U .U .U .O .O)/\ev (callF (n+11)) 4 (.D (.K .Eq (.W 5) (.W 4)) (.F .H (.W 4)) (.W 6)) false (C9 bx k P g c1 c2 cn .U .U .U .O .O)=some (.V (.str (CA (c1,c2))),C9 bx k P g c1 c2 cn .U .U .U .O .O):=by
  cases c2 with
  |none=>
   have Y:B7 .Eq .none (.int c1)=some (.bool false):=rfl;refine(AG (Ak c1++"+") ?_ ?_)
   ·exact qS [aF z,aB (V5 E)]
   ·exact rfl
  |some m=>
   haveI hm:=s m rfl;haveI HT:=GL hm;haveI Y:= @Ek m c1;refine(AG (Ak c1++".."++Ak m) ?_ ?_)
   ·exact qS [aF z,aB (Oo E),aF HT,aB (Sl E hm)]
   ·by_cases q:m=c1
    ·clear s T u h4;subst q;rw[Xcy rfl]at Y;exact rL SH (qE [aM Y,aF z])
    ·rw[Xc1 q]at Y;haveI q':¬c1=m:=λh=>q h.symm;exact rL (SG q') (qE [aM Y])
 obtain⟨cn,e1,I⟩:=e1;have e2:Ae (callF (n+11)) 4 200 (.X (.or (.K .NotEq (.call 4 [(.W 2)]) (.D (.K .Eq (.W 5) (.W 4)) (.F .H (.W 4)) (.W 6))) (.K .NotEq (.call 8 [(.W 2)]) (.call 25 [(.W 2)]))) [.ret (.bool false)] []) (C9 bx k P g c1 c2 cn .U .U .U .O .O)=some (.next,C9 bx k P g c1 c2 cn .U .U .U .O .O):=by haveI v1:=Q8 (d:=0) (v:= .str (CA (c1,c2))) T (by decide);haveI v2:=Q8 FZ (by decide);exact qS [aC h4,aE I,aM v1,aC h8,aC ou,aM v2]
 refine Bh (yY (cn:=cn) (y c1 c2 cn)) λR hR O Q=>?_;haveI e4:∃c,Ae (callF (n+11)) 4 200 (.G 7 (.B .Add (.B .Add (.W 7) (.list [(.list [(.list [(.int 1),(.int 2),(.int 3)])]),(.list [(.list [(.list [(.int 4),(.int 5)]),(.int 6)])])])) (.D (.K .Eq (.W 3) (.int 1)) (.list [(.list [(.list [(.int 7)]),(.list []),(.list [(.int 8),(.int 9)])]),(.list [.none]),(.list [(.list [])]),(.list [(.int 3),(.list [(.int 4),(.list [(.int 5),(.int 6)])])])]) (.list [])))) (C9 bx k P g c1 c2 cn (.V (.list R)) .U .U .O .O)=some (.next,C9 bx k P g c1 c2 cn (.V (.list c)) .U .U .O .O)/\(∀r∈c,Lk r)/\c.length<=20:=by
  haveI a1:Bq .Add (.list R) (.list Ea)=some (.M (.list (R++Ea))):=EF (by simp[Ea];exact lin [R.length] 0x2e68090000000000895435801 rfl Q);clear y e1 I e2 hR;rcases hg with rfl|rfl
  ·haveI Y:B7 .Eq (.int 0) (.int 1)=some (.bool false):= @Ek 0 1;haveI a2:Bq .Add (.list (R++Ea)) (.list [])=some (.M (.list (R++Ea++[]))):=EF (by simp[Ea];exact lin [R.length] 0x2e68090000000000895435801 rfl Q);refine(BS (R++Ea++[]) ?_ (λr M=>?_) (by simp[Ea];exact lin [R.length] 25512181905409 rfl Q))
   ·exact qS [aB a1,aM Y,aB a2]
   ·rw[Xcz]at M;rcases Xc2.mp M with q|q
    ·exact O r q
    ·exact dW r (Xcr _ q)
  ·haveI Y:B7 .Eq (.int 1) (.int 1)=some (.bool true):= @Ek 1 1;haveI a2:Bq .Add (.list (R++Ea)) (.list Jd)=some (.M (.list (R++Ea++Jd))):=EF (by simp[Ea,Jd];exact lin [R.length] 0x2e68090000000000895411801 rfl Q);refine(BS (R++Ea++Jd) ?_ (λr M=>?_) (by simp[Ea,Jd];exact lin [R.length] 25512181757953 rfl Q))
   ·exact qS [aB a1,aM Y,aB a2]
   ·rw[Xc7]at M;rcases Xc2.mp M with q|q
    ·exact O r q
    ·exact dW r q
 refine AB λV=>Bh e4 λc e4 L Xbu=>V ?_;haveI e5:∃a b,Ae (callF (n+11)) 4 200 (.FF 8 (.list [(.bool true),(.bool false)]) [.X (.not (.call 30 [(.W 1),(.W 2),(.W 8)])) [.ret (.bool false)] [],.FF 9 (.W 7) [.X (.K .NotEq (.call 28 [(.W 1),(.W 2),(.W 9),(.W 8)]) (.call 29 [(.W 2),(.W 9),(.W 8)])) [.ret (.bool false)] []]]) (C9 bx k P g c1 c2 cn (.V (.list c)) .U .U .O .O)=some (.next,C9 bx k P g c1 c2 cn (.V (.list c)) a b .O .O):=by
  obtain⟨A0,e,a,b,ha,hb,rfl⟩:=JA (Φ:=callF (n+11)) (np:=4) (fuel:=200) (k:=8) (it:= .list [(.bool true),(.bool false)]) (σ:=C9 bx k P g c1 c2 cn (.V (.list c)) .U .U .O .O) (AA:=C9 bx k P g c1 c2 cn (.V (.list c)) .U .U .O .O) (r:= .M (.list [.bool true,.bool false])) (body:=[.X (.not (.call 30 [(.W 1),(.W 2),(.W 8)])) [.ret (.bool false)] [],.FF 9 (.W 7) [.X (.K .NotEq (.call 28 [(.W 1),(.W 2),(.W 9),(.W 8)]) (.call 29 [(.W 2),(.W 9),(.W 8)])) [.ret (.bool false)] []]]) (xs:=[.bool true,.bool false])
   (λu0 B=>∃a b,Af a/\Af b/\B=C9 bx k P g c1 c2 cn (.V (.list c)) a b .O .O) rfl rfl (CN .U .U CX CX rfl) (λi hi B⟨a,b,ha,hb,C⟩=>by
    subst C;haveI A:∃t,[Val.bool true,Val.bool false][i]= .bool t:=by
     match i,hi with
     |0,_=>exact⟨true,rfl⟩
     |1,_=>exact⟨false,rfl⟩
    refine AK A λt A=>rL A ⟨ha.Ei,?_⟩;haveI J:=pE t;obtain⟨σ2,e2,b2,IA,rfl⟩:=JA (Φ:=callF (n+11)) (np:=4) (fuel:=200) (k:=9) (it:= .W 7) (σ:=C9 bx k P g c1 c2 cn (.V (.list c)) (.V (.bool t)) b .O .O) (AA:=C9 bx k P g c1 c2 cn (.V (.list c)) (.V (.bool t)) b .O .O) (r:= .V (.list c)) (body:=[.X (.K .NotEq (.call 28 [(.W 1),(.W 2),(.W 9),(.W 8)]) (.call 29 [(.W 2),(.W 9),(.W 8)])) [.ret (.bool false)] []]) (xs:=c)
     (λu0 B=>∃b,Af b/\B=C9 bx k P g c1 c2 cn (.V (.list c)) (.V (.bool t)) b .O .O) rfl rfl ⟨b,hb,rfl⟩ (λj hj B⟨b,hb,C⟩=>by subst C;refine⟨hb.Ei,C9 bx k P g c1 c2 cn (.V (.list c)) (.V (.bool t)) (.V c[j]) .O .O,AB λV=>Bh (L c[j] (Xd6 hj)) λG EI ho Kd=>V ?_,.V c[j],CG _,rfl⟩;exact AB λV=>GN (U t G ho Kd) λr w p0 pC FY=>V (EI▸ qR [aC p0,aC pC,aM FY]))
    exact⟨C9 bx k P g c1 c2 cn (.V (.list c)) (.V (.bool t)) b2 .O .O,qR [aC J,aS e2],_,b2,CG _,IA,rfl⟩)
  exact⟨a,b,e⟩
 exact B8 e5 λa b e5=>qC [aC u,aS e1,aS e2,aE hR,aS e4,aS e5]
noncomputable def M8(a:Int)(b c:Nat)(e:Int):List Val:=[.int a,.int (b:Int),.int (c:Int),.int e]
def Ad(a:Int)(b c:Nat)(e:Int):LV:= .N (.list (M8 a b c e))
theorem UR{b c m:Nat}(D:0<m)(u:m<=10)(V:b<=100000):
  ∃L r,r<m/\callF (n+1) 18 [Ad a b c e,.V (.int m)]=some (.V (.int r),[Ad L (b+1) c e,.V (.int m)]):=by
 have j:∀z:Int,∃r:Nat,r<m/\z.fmod m=r:=by intro z;haveI k:=Int.fmod_nonneg_of_pos z (b:=(m:Int)) (by lia);haveI T:=Int.fmod_lt_of_pos z (b:=(m:Int)) (by lia);exact(AG ((z.fmod m).toNat) (by lia) (by lia))
 haveI M:∀i:Int,0<=i->i<=1000000->Cw i=true:=λi k T=>by unfold Cw;exact Xcy (by lia)
 haveI h:¬(m:Int)=0:=by lia
 haveI G:¬m=0:=Xf4 (lin [m] 0x9f78a251001f80201 rfl D);haveI Q:Ae (callF n) 2 200 (.SS 0 (.int 1) (.B .Add (.OO 0 (.int 1)) (.int 1))) ([Ad a b c e,.V (.int m)]++List.replicate 1 .U++List.replicate 0 .O)=some (.next,[Ad a (b+1) c e,.V (.int m),.U]):=rfl;by_cases ha:a=0
 ·subst ha;have Y:B7 .Eq (.int 0) (.int 0)=some (.bool true):= @Ek 0 0;haveI g:Cw (b+1)=true:=M _ (by lia) (by lia);refine AJ (j ((4*(b+1)*(b+1)+3*((b:Int)+1)+9).fmod 61)) λr f J=>(Di 0 r f ?_);haveI p:Bq .Mult (.int 4) (.int (b+1))=some (.V (.int (4*(b+1)))):=by kernel_rfl
  haveI s:Bq .Mult (.int (4*(b+1))) (.int (b+1))=some (.V (.int (4*(b+1)*(b+1)))):=Xck (rL (g ..) (rL (Xib ..) rfl));haveI t:Bq .Mult (.int 3) (.int (b+1))=some (.V (.int (3*(b+1)))):=by kernel_rfl
  haveI d:Bq .Mod (.int ((4*(b+1)*(b+1)+3*((b:Int)+1)+9).fmod 61)) (.int m)=some (.V (.int r)):=(Xcm h).trans (rL J rfl);exact qC [aS Q,aM Y,aB p,aB s,aB t,aB (o:= .Add) (x:= .int (4*((b:Int)+1)*((b:Int)+1))) (y:= .int (3*((b:Int)+1))) rfl,aB (o:= .Add) (x:= .int (4*((b:Int)+1)*((b:Int)+1)+3*((b:Int)+1))) (y:= .int 9) rfl,aB (o:= .Mod) (x:= .int (4*((b:Int)+1)*((b:Int)+1)+3*((b:Int)+1)+9)) (y:= .int 61) (r:= .V (.int ((4*((b:Int)+1)*((b:Int)+1)+3*((b:Int)+1)+9).fmod 61))) rfl,aB d]
 ·have Y:B7 .Eq (.int a) (.int 0)=some (.bool false):=congrArg (λb=>some (Val.bool b)) (Xd8.mpr ha);refine AJ (j a) λr f J=>?_;have l:Builtin.divisionGoesByPylong a (m:Int)=false:=by
   unfold Builtin.divisionGoesByPylong;haveI:((if(m:Int)==0 then 0 else(m:Int).natAbs.log2 / 30+1)>300)=False:=by simp only[eq_iff_iff,iff_false];haveI v:(m:Int).natAbs.log2<=10:=rL (Int.natAbs_natCast ..) (Xcq (Nat.log2_le_self m) u);split<;>lia
   simp only[this,decide_false,Bool.false_and]
  refine(Di (a.fdiv (m:Int)) r f ?_);haveI B:Bq .Mod (.int a) (.int (m:Int))=some (.V (.int (r:Int))):=(Xcm h).trans (rL J rfl);haveI d:Bq .FloorDiv (.int a) (.int (m:Int))=some (.V (.int (a.fdiv (m:Int)))):=Xcm λq=>q.elim h λq=>by replace q:=l▸ q;exact fT q
  exact qC [aS Q,aM Y,aB B,aB d]
theorem av(hc:c<=500):callF (n+1) 19 [Ad a b c e]=some (.V (.str (B6 (c+1))),[Ad a b (c+1) e]):=by
 haveI h1:=GL (n:=c+1) (lin [c] 0x64257387a08646e17a381 rfl hc);haveI h2:=Ey (by
  haveI:=F6 (n:=c+1) (lin [c] 7566840041866025082790785 rfl hc);haveI hv:(Str.ofString "v").cps.size=1:=by decide+kernel
  exact lin [(Str.ofString "v").cps.size,(Ak (c+1)).cps.size] 1271851680420839968134515391081139495041 rfl this (Xcg hv))
 haveI e0:Ae (callF n) 1 200 (.SS 0 (.int 2) (.B .Add (.OO 0 (.int 2)) (.int 1))) ([Ad a b c e]++List.replicate 0 .U++List.replicate 0 .O)=some (.next,[Ad a b (c+1) e]):=rfl;exact qC [aS e0,aF h1,aB h2]
structure Dj(c c':Nat)(ns:List Nat):Prop where
 nd:ns.Nodup
 bt:∀n∈ns,c<n/\n<=c'
 le:c<=c'
 ln:ns.length<=c' - c
theorem Dj.nil:Dj c c []:=⟨.nil,(λn h=>by cases h),Xc4 _,Xch rfl⟩
theorem Dj.one:Dj c (c+1) [c+1]:=⟨by simp,(λn h=>by simp only[Xcc]at h;lia),by exact lin [c] 24784897 rfl,by simp⟩
theorem Dj.app{ns g:List Nat}(h:Dj c b ns)(a:Dj b j g):Dj c j (ns++g):=by
 refine⟨Xgn.mpr (AX h.nd a.nd λx k y p e=>?_),λn i=>?_,Xcq h.le a.le,?_⟩
 ·subst e;haveI d:=h.bt x k;haveI f:=a.bt x p;exact Hb (lin [x,b] 0x507c758402400c01c1 rfl d.2 f.1)
 ·rcases Xc2.mp i with q|q
  ·have d:=h.bt n q;haveI f:=a.le;lia
  ·haveI d:=a.bt n q;have f:=h.le;lia
 ·refine rL Xci ?_;haveI d:=h.ln;haveI f:=a.ln;haveI l:=h.le;haveI w:=a.le;exact lin [ns.length,g.length,j - c,b - c,j - b,j,c,b] 0x41e636bc5cb9037ccb5951e362386c16cb6081 rfl d f (sA j c) (sB (lin [c,b] 21743898625 rfl l)) (sB (lin [b,j] 21743898625 rfl w))
noncomputable def Bl:Nat->Nat
 |0=>1
 |d+1=>3*Bl d+1
noncomputable def Bw:Nat->Nat
 |0=>0
 |d+1=>3*Bw d+10
theorem VO:Bl (d+1)=3*Bl d+1:=rfl
theorem VP:Bw (d+1)=3*Bw d+10:=rfl
inductive i6(n d:Nat)(a e:Int)(b c:Nat):Prop
 |mk (s:Spot)(a':Int)(b' c':Nat)(h:callF n 20 [Ad a b c e,.V (.int (d))]=some (.V s.val,[Ad a' b' c' e,.V (.int (d))]))(dp:s.depth<=d)(sh:s.Sh)(dr:Dj c c' s.names)(cc:c'<=c+Bl d)(bb:b'<=b+Bw d)
def Jz(n d:Nat):Prop:=∀a e b c,b+6*Bw d<=100000->c+6*Bl d<=450->i6 n d a e b c
theorem eC(d:Nat):1<=Bl d:=by cases d<;>exact Nat.le_add_left _ _
theorem vP(ss ts:List Spot):Spot.AQ (ss++ts)=Spot.AQ ss++Spot.AQ ts:=by simp[Gy]
theorem XS(h:∀s∈ss,s.depth<=d):Spot.CE ss<=d:=by
 induction ss with
 |nil=>exact Xdd _
 |cons s ss Q=>
  haveI Y:=h s (Xfo ..);haveI T:=Q λt a=>h t (Xeu _ a);exact Xh9.mpr ⟨Y,T⟩
theorem WX(h:∀s∈ss,s.Sh):Spot.Hq ss:=by
 induction ss with
 |nil=>trivial
 |cons s ss Q=>exact⟨h s (Xfo ..),Q λt a=>h t (Xeu _ a)⟩
structure K3(d:Nat)(c c':Nat)(ss:List Spot):Prop where
 dp:∀s∈ss,s.depth<=d
 sh:∀s∈ss,s.Sh
 dr:Dj c c' (Spot.AQ ss)
theorem K3.snoc(h:K3 d c b ss)(e:s.depth<=d)(f:s.Sh)(g:Dj b j s.names):K3 d c j (ss++[s]):=by
 refine⟨λt a=>?_,λt a=>?_,?_⟩
 ·rcases Xc2.mp a with q|q
  ·exact h.dp t q
  ·simp only[Xcc]at q;subst q;exact e
 ·rcases Xc2.mp a with q|q
  ·exact h.sh t q
  ·simp only[Xcc]at q;subst q;exact f
 ·refine rL (vP ..) ?_;haveI:Spot.AQ [s]=s.names:=Xcz _;exact rL this (h.dr.app g)
structure Hs(Ab:LV->LV->St)(k d:Nat):Prop where
 a0:∀x z,(Ab x z).at 0=x
 a1:∀x z,(Ab x z).at 1= .V (.int (d:Int))
 ak:∀x z,(Ab x z).at k=z
 s0:∀x y z,(Ab x z).set 0 y=Ab y z
 sk:∀x z w,(Ab x z).set k w=Ab x w
 ln:∀x z,k<(Ab x z).length
theorem xj(f:Hs Ab k d){s:Spot}{a L e:Int}(h:callF n 20 [Ad a b c e,.V (.int (d:Int))]=some (.V s.val,[Ad L b' j e,.V (.int (d:Int))])):
  ev (callF n) np (.call 20 [(.W 0),(.W 1)]) false (Ab (Ad a b c e) z)=some (.V s.val,Ab (Ad L b' j e) z):=by haveI r:By (callF n) np [(.W 0),(.W 1)] (Ab (Ad a b c e) z)=some ([.N 0,.V (.int (d:Int))],Ab (Ad a b c e) z):=Rr (f.a0 _ _) (iR (f.a1 _ _) rfl);exact fA r ((Xx (f.a0 _ _) h).trans (congrArg (λs=>some (_,s)) (f.s0 _ _ _)))
theorem Uk(f:Hs Ab k d)(y:c<=500):
  ev (callF (n+1)) np (.call 19 [(.W 0)]) false (Ab (Ad a b c e) z)=some (.V (.str (B6 (c+1))),Ab (Ad a b (c+1) e) z):=by haveI h:=av (n:=n) (a:=a) (b:=b) (c:=c) (e:=e) y;haveI r:By (callF (n+1)) np [(.W 0)] (Ab (Ad a b c e) z)=some ([.N 0],Ab (Ad a b c e) z):=Rr (f.a0 _ _) rfl;exact fA r ((mT (f.a0 _ _) h).trans (congrArg (λs=>some (_,s)) (f.s0 _ _ _)))
theorem LG(f:Hs Ab k d){b c m:Nat}(D:0<m)(u:m<=10)(V:b<=100000)(H:Ig me=none)
  (Y:ev (callF (n+1)) np me false (Ab (Ad a b c e) z)=some (.V (.int (m:Int)),Ab (Ad a b c e) z))
  {G:Prop} (J:∀L r,r<m->ev (callF (n+1)) np (.call 18 [(.W 0),me]) t (Ab (Ad a b c e) z)=some (.V (.int (r:Nat)),Ab (Ad L (b+1) c e) z)->G):G:=by refine Ce (UR (n:=n) (a:=a) (b:=b) (c:=c) (e:=e) D u V) λL r i h=>J L r i ?_;haveI g:By (callF (n+1)) np [(.W 0),me] (Ab (Ad a b c e) z)=some ([.N 0,.V (.int (m:Int))],Ab (Ad a b c e) z):=Rr (f.a0 _ _) (iQ H Y rfl);exact fA g ((Xx (f.a0 _ _) h).trans (congrArg (λs=>some (_,s)) (f.s0 _ _ _)))
inductive i5(Ab:LV->LV->St)(d:Nat)(e:Int)(b c:Nat)(ys:List Val)(σ:St):Prop
 |mk (ss:List Spot)(a':Int)(b' c':Nat)(z:LV)(f:Af z)(Tx:σ=Ab (Ad a' b' c' e) z)(hy:ys=Spot.vals ss)(sp:K3 d c c' ss)(cc:c'<=c+ys.length*Bl d)(bb:b'<=b+ys.length*Bw d)
inductive hZ(Ab:LV->LV->St)(a e:Int)(b c:Nat)(ys:List Val)(σ:St):Prop
 |mk (ns:List Nat)(z:LV)(f:Af z)(Tx:σ=Ab (Ad a b (c+ys.length) e) z)(hy:ys=ns.map BK)(dr:Dj c (c+ys.length) ns)
theorem cz(g:Hs Ab k d){cnt:PE}{b c m:Nat}(hp:Jz n d)(D:m<=2)(V:b+8*Bw d<=100000)(O:c+8*Bl d<=450)
  (h:ev (callF n) np cnt false (Ab x0 .O)=some (.V (.int (m:Int)),Ab (Ad a b c e) .O))
  {G:Prop} (J:∀ss L b' j,ss.length=m->ev (callF n) np (.R (.call 20 [(.W 0),(.W 1)]) k cnt) false (Ab x0 .O)=some (.M (.list (Spot.vals ss)),Ab (Ad L b' j e) .O)->K3 d c j ss->j<=c+m*Bl d->b'<=b+m*Bw d->G):G:=by
 obtain⟨Q,A0,I,⟨ss,L,b',j,z,u,C,p,hS,f,U⟩,o⟩:=MD (Φ:=callF n) (np:=np) (elt:= .call 20 [(.W 0),(.W 1)]) (it:=cnt) (k:=k) (m:=m) (b:=false) (σ:=Ab x0 .O) (AA:=Ab (Ad a b c e) .O) (r:= .V (.int (m:Int)))
  (i5 Ab d e b c) h rfl (lin [m] 0xaf80900000000000dbba7801 rfl D) (by refine rL (g.ak ..) ?_;rfl) (g.ln _ _)
  ⟨[],a,b,c,.U,CX,g.sk _ _ _,rfl,⟨(λs h=>by cases h),(λs h=>by cases h),.nil⟩,by simp,by simp⟩
  (λQ E q=>by obtain⟨ss,L,b',j,z,u,C⟩:=q;subst C;exact rL (g.ak ..) u.put)
  (λi y Q E A q=>by
   refine AB λJ=>?_;obtain⟨ss,L,b',j,z,u,C,p,hS,f,U⟩:=q;subst C;haveI Y:Q.length*Bl d<=1*Bl d:=Xer _ (lin [Q.length,m,i] 0xe6a9d9d8d132b44582c480a801 rfl D y (Xcg A));haveI T:Q.length*Bw d<=1*Bw d:=Xer _ (lin [Q.length,m,i] 0xe6a9d9d8d132b44582c480a801 rfl D y (Xcg A));obtain⟨s,x,l,w,hs,hd,H,M,t,v⟩:=hp L e b' j (lin [b',Bw d,b,Q.length*Bw d] 0x3dd30b087c20855aa4000000057fd98930f940e60000000002e5955a25f081 rfl V U T) (lin [j,Bl d,c,Q.length*Bl d] 0xf74c2c21f0821895cbf07ca0a86a225f081 rfl O f Y);refine J (Di (.V s.val) (Ab (Ad x l w e) (.V (.int (i:Int)))) (rL (g.sk ..) (xj g hs)) ⟨ss++[s],x,l,w,_,CG _,rfl,?_,hS.snoc hd H M,?_,?_⟩)
   ·refine rL (p ..) (rL (Jo ..) (rL (Jo ..) (rL (Xco ..) ?_)));rfl
   ·exact rL (Xci ..) (rL (Xdp ..) (rL (Xig ..) (lin [w,c,Q.length*Bl d,Bl d,j] 0x14d0b90535e9d3e12cd51f9001 rfl f t)))
   ·exact rL (Xci ..) (rL (Xdp ..) (rL (Xig ..) (lin [l,b,Q.length*Bw d,Bw d,b'] 0x14d0b90535e9d3e12cd51f9001 rfl U v))))
 refine J ss L b' j ?_ ?_ hS (o▸ f) (o▸ U)
 ·exact rR (o ..) (rL (p ..) (rL (D0 ..) rfl))
 ·exact rL (I ..) (rL (C ..) (rL (g.sk ..) (rL (p ..) rfl)))
theorem xP(f:Hs Ab k d){cnt:PE}{b c m:Nat}(D:m<=2)(y:c<=490)
  (h:ev (callF (n+1)) np cnt false (Ab x0 .O)=some (.V (.int (m:Int)),Ab (Ad a b c e) .O))
  {G:Prop} (J:∀ns:List Nat,ns.length=m->ev (callF (n+1)) np (.R (.T [(.call 19 [(.W 0)]),.none]) k cnt) false (Ab x0 .O)=some (.M (.list (ns.map BK)),Ab (Ad a b (c+m) e) .O)->Dj c (c+m) ns->G):G:=by
 obtain⟨Q,t,E,⟨ns,z,j,C,p,hS⟩,g⟩:=MD (Φ:=callF (n+1)) (np:=np) (elt:= .T [(.call 19 [(.W 0)]),.none]) (it:=cnt) (k:=k) (m:=m) (b:=false) (σ:=Ab x0 .O) (AA:=Ab (Ad a b c e) .O) (r:= .V (.int (m:Int)))
  (hZ Ab a e b c) h rfl (lin [m] 0xaf80900000000000dbba7801 rfl D) (by refine rL (f.ak ..) ?_;rfl) (f.ln _ _)
  ⟨[],.U,CX,f.sk _ _ _,rfl,.nil⟩
  (λQ l q=>by obtain⟨ns,z,j,C⟩:=q;subst C;exact rL (f.ak ..) j.put)
  (λi o Q l s q=>by
   obtain⟨ns,z,j,C,p,hS⟩:=q;subst C;haveI Y:=Uk (n:=n) (np:=np) f (a:=a) (e:=e) (b:=b) (c:=c+Q.length) (z:= .V (.int (i:Int))) (lin [c,Q.length,m,i] 0xdbb59b8f25d56da1a6fad9c756c99096081 rfl D y o (Xcg s));refine(Di (.V (.T [.str (B6 (c+Q.length+1)),.none])) (Ab (Ad a b (c+Q.length+1) e) (.V (.int (i:Int)))) ?_ ⟨ns++[c+Q.length+1],.V (.int (i:Int)),CG _,?_,?_,?_⟩)
   ·exact rL (f.sk ..) (qE [aE Y])
   ·exact rL (Xci ..) (rL (Xdp ..) (rL (Nat.add_assoc ..) rfl))
   ·refine rL p (rL Xco ?_);rfl
   ·exact rL (Xci ..) (rL (Xdp ..) (rR (Nat.add_assoc ..) (hS.app .one))))
 refine J ns ?_ ?_ (g▸ hS)
 ·exact rR (g ..) (rL (p ..) (rL (EN ..) rfl))
 ·exact rL (E ..) (rL (C ..) (rL (f.sk ..) (rR (p ..) (rL (g ..) rfl))))
inductive iC(n d:Nat)(ig:Bool)(a e:Int)(b c:Nat):Prop
 |mk (l:AI)(a':Int)(b' c':Nat)(h:callF n 21 [Ad a b c e,.V (.int (d:Int)),.V (.bool ig)]=some (.V l.val,[Ad a' b' c' e,.V (.int (d:Int)),.V (.bool ig)]))
  (dp:l.depth<=d) (de:l.EP) (dr:Dj c c' l.names) (cc:c'<=c+3*Bl d+(if ig then 1 else 4)) (bb:b'<=b+3*Bw d+6) (g:ig=true->l.opt=[]/\l.block=none)
def OF(n d:Nat)(ig:Bool):Prop:=∀a e b c,b+10*Bw d+50<=100000->c+10*Bl d+10<=450->iC n d ig a e b c
noncomputable def F9(d:Nat)(ig:Bool)(s t a b f c y z w:LV)(bx:LV):St:=[bx,.V (.int (d:Int)),.V (.bool ig),s,t,a,b,f,c,y,z,w]
theorem Ni(d:Nat)(ig:Bool)(s t a b f c z w:LV):Hs (λx y=>F9 d ig s t a b f c y z w x) 9 d:=⟨λU U=>rfl,λU U=>rfl,λU U=>rfl,λU U U=>rfl,λU U U=>rfl,λU U=>Xch rfl⟩
theorem zW(d:Nat)(ig:Bool)(s t a b f c y w:LV):Hs (λx z=>F9 d ig s t a b f c y z w x) 10 d:=⟨λU U=>rfl,λU U=>rfl,λU U=>rfl,λU U U=>rfl,λU U U=>rfl,λU U=>Xch rfl⟩
theorem zX(d:Nat)(ig:Bool)(s t a b f c y z:LV):Hs (λx w=>F9 d ig s t a b f c y z w x) 11 d:=⟨λU U=>rfl,λU U=>rfl,λU U=>rfl,λU U U=>rfl,λU U U=>rfl,λU U=>Xch rfl⟩
section
variable {n d:Nat}{ig:Bool}{a e:Int}{b c:Nat}{G:Prop}
abbrev kE:PE:= .B .Add (.F .toInt (.W 2)) (.call 18 [(.W 0),(.B .Sub (.int 3) (.F .toInt (.W 2)))])
theorem z4(V:b<=100000)(J:∀a1 m,m<=2->ev (callF (n+1)) 3 kE false (F9 d ig .U .U .U .U .U .U .O .O .O (Ad a b c e))=some (.V (.int (m:Nat)),F9 d ig .U .U .U .U .U .U .O .O .O (Ad a1 (b+1) c e))->G):G:=by
 haveI g:=Ni d ig .U .U .U .U .U .U .O .O;cases ig with
 |true=>
  exact LG (n:=n) (np:=3) g (a:=a) (e:=e) (c:=c) (m:=2) (z:= .O) (me:= .B .Sub (.int 3) (.F .toInt (.W 2))) (t:=false) (by decide) (by decide) V rfl (qE []) λa1 r f A=>J a1 (1+r) (by exact lin [r] 0x6f103f18d115f000b01 rfl f) (rL (Xif ..) (qE [aE A]))
 |false=>
  exact LG (n:=n) (np:=3) g (a:=a) (e:=e) (c:=c) (m:=3) (z:= .O) (me:= .B .Sub (.int 3) (.F .toInt (.W 2))) (t:=false) (by decide) (by decide) V rfl (qE []) λa1 r f A=>J a1 (0+r) (by exact lin [r] 0xa2523f18d115f000201 rfl f) (rL (Xif ..) (qE [aE A]))
variable {v3 v4 v6 v7:LV}{w:Nat}
theorem z5(V:b<=100000)(y:c<=490)(J:∀op a3 i,op.length<=2->(ig=true->op=[])->i<=b+1->Dj c (c+op.length) op->Ae (callF (n+1)) 3 200 (.G 4 (.D (.W 2) (.list []) (.R (.T [(.call 19 [(.W 0)]),.none]) 10 (.call 18 [(.W 0),(.int 3)])))) (F9 d ig v3 .U .U .U .U .U .O .O .O (Ad a b c e))=some (.next,F9 d ig v3 (.V (.list (op.map BK))) .U .U .U .U .O .O .O (Ad a3 i (c+op.length) e))->G):G:=by
 cases ig with
 |true=>exact J [] a b (by decide) (λU=>rfl) (Xd9 b) .nil (qS [])
 |false=>
  haveI f:=zW d false v3 .U .U .U .U .U .O .O;refine LG f (by decide) (by decide) V rfl rfl λa3 m D A=>xP (n:=n) (np:=3) f (x0:=Ad a b c e) (cnt:= .call 18 [(.W 0),(.int 3)]) (Xfu D) y A λop g j u=>?_;subst g;exact J op a3 (b+1) (Xfu D) (λh=>nomatch h) (Xc4 _) u (qS [aE j])
theorem z7(y:c<=499)(J:∀re v,v<=c+1->Dj c v (BY re)->Ae (callF (n+1)) 3 200 (.G 6 (.D (.K .Lt (.W 5) (.int 2)) .none (.D (.K .Eq (.W 5) (.int 2)) (.str "") (.call 19 [(.W 0)])))) (F9 d ig v3 v4 (.V (.int (w:Int))) .U .U .U .O .O .O (Ad a b c e))=some (.next,F9 d ig v3 v4 (.V (.int (w:Int))) (.V (IY re)) .U .U .O .O .O (Ad a b v e))->G):G:=by
 haveI g:=bJ w 2;have h:= @Ek w 2;by_cases Q:w<2
 ·replace g:=(Xcy Q)▸ g;exact J none c (Xd9 _) .nil (qS [aM g])
 ·replace g:=(Xc1 Q)▸ g;by_cases k:w=2
  ·rw[Xcy k]at h;exact J (some none) c (Xd9 _) .nil (qS [aM g,aM h])
  ·rw[Xc1 k]at h;haveI F:=Ni d ig v3 v4 (.V (.int w)) .U .U .U .O .O;haveI f:=Uk (n:=n) (np:=3) F (a:=a) (e:=e) (b:=b) (z:= .O) (Xgm y);exact J (some (some (c+1))) (c+1) (Xc4 _) .one (qS [aM g,aM h,aE f])
theorem z6(j:Jz (n+1) d)(V:b+1+8*Bw d<=100000)(y:c+8*Bl d<=450)(J:∀B a5 o l,B.length<=1->K3 d c l B->l<=c+Bl d->o<=b+1+Bw d->Ae (callF (n+1)) 3 200 (.G 7 (.D (.K .Gt (.W 5) (.int 1)) (.R (.call 20 [(.W 0),(.W 1)]) 11 (.call 18 [(.W 0),(.int 2)])) (.list []))) (F9 d ig v3 v4 (.V (.int (w:Int))) v6 .U .U .O .O .O (Ad a b c e))=some (.next,F9 d ig v3 v4 (.V (.int (w:Int))) v6 (.V (.list (Spot.vals B))) .U .O .O .O (Ad a5 o l e))->G):G:=by
 haveI i:=MZ w 1;by_cases Q:w>1
 ·rw[Xcy Q]at i;haveI f:=zX d ig v3 v4 (.V (.int w)) v6 .U .U .O .O;refine LG f (by decide) (by decide) (Xcq (Xgm (Xd7 b _)) (Xcq (Xcg (Nat.add_right_comm b (8*Bw d) 1)) V)) rfl rfl λa5 m D A=>cz (np:=3) f (x0:=Ad a b c e) (cnt:= .call 18 [(.W 0),(.int 2)]) j (Xhe D) V y A λB k Y r g p hS t v=>?_;haveI one:=λx=>Xcq (Xer x (Xfu D)) (Xcg (Nat.one_mul x));exact J B k Y r (g▸ Xfu D) hS (Xcq t (Xff (one _) _)) (Xcq v (Xff (one _) _)) (qS [aM i,aE p])
 ·rw[Xc1 Q]at i;exact J [] a b c (by decide) ⟨λs h=>(Xcu h).elim,λs h=>(Xcu h).elim,.nil⟩ (Xd7 _ _) (Xcq (Xd9 b) (Xd7 _ _)) (qS [aM i])
theorem z3(V:b<=100000)(y:c<=500)(J:∀O k Y r,(ig=true->O=none)->r<=c+(if ig then 0 else 1)->Y<=b+1->Dj c r (CL O)->Ae (callF (n+1)) 3 200 (.G 8 (.D (.or (.W 2) (.K .Gt (.call 18 [(.W 0),(.int 3)]) (.int 0))) .none (.call 19 [(.W 0)]))) (F9 d ig v3 v4 (.V (.int (w:Int))) v6 v7 .U .O .O .O (Ad a b c e))=some (.next,F9 d ig v3 v4 (.V (.int (w:Int))) v6 v7 (.V (Uj O)) .O .O .O (Ad k Y r e))->G):G:=by
 cases ig with
 |true=>exact J none a b c (λU=>rfl) (Xc4 _) (Xd9 _) .nil (qS [])
 |false=>
  haveI F:=Ni d false v3 v4 (.V (.int w)) v6 v7 .U .O .O;refine LG (n:=n) (np:=3) F (a:=a) (e:=e) (c:=c) (z:= .O) (me:= .int 3) (t:=false) (by decide) (by decide) V rfl rfl λk m D A=>?_;haveI i:=MZ m 0;by_cases q:m>0
  ·rw[Xcy q]at i;exact J none k (b+1) c (λh=>nomatch h) (Xd9 _) (Xc4 _) .nil (qS [aE A,aM i])
  ·rw[Xc1 q]at i;haveI f:=Uk (n:=n) (np:=3) F (a:=k) (e:=e) (b:=b+1) (c:=c) (z:= .O) y;exact J (some (c+1)) k (b+1) (c+1) (λh=>nomatch h) (Xc4 _) (Xc4 _) .one (qS [aE A,aM i,aE f])
end
theorem eE(hp:Jz (n+1) d):OF (n+2) d ig:=λa e b c V y=>by
 refine z4 (n:=n) (d:=d) (ig:=ig) (a:=a) (e:=e) (b:=b) (c:=c) (lin [b,Bw d] 0x1d548810b7f6d9bf8900000000000dbba7801 rfl V) λa1 m1 k s=>cz (Ni d ig .U .U .U .U .U .U .O .O) hp k (by exact lin [b,Bw d] 0x6f5cf49f7a7d42c33c2c000000003424805724617a381 rfl V) (by exact lin [c,Bl d] 0x3909e55ea28f733a86a22cb081 rfl y) s λrq a2 H i rI h0 T N L=>?_;have f:=Xcq N (Xff (Xer _ k) _);have q:=Xcq L (Xff (Xer _ k) _);refine z5 (n:=n) (d:=d) (ig:=ig) (a:=a2) (e:=e) (b:=H) (c:=i) (v3:= .V (.list (Spot.vals rq))) (lin [H,b,Bw d] 0x525f548d593cbf38c00000001d548810b9083ba58900000000000dbba7801 rfl V q) (lin [i,c,Bl d] 0x124e23c270dc97cda341dd2c593b801 rfl y f) λC a3 o x g J Q e1=>LG (n:=n) (np:=3) (Ni d ig (.V (.list (Spot.vals rq))) (.V (.list (C.map BK))) .U .U .U .U .O .O) (a:=a3) (e:=e) (b:=o) (c:=i+C.length) (m:=4) (z:= .O) (me:= .int 4) (t:=false) (by decide) (by decide) (lin [o,b,Bw d,H] 0x3e45384ab86958d59933e98c00000001d548810b9083ba58900000000000dbba7801 rfl V q J) rfl rfl λa4 w hw A=>z7 (n:=n) (d:=d) (ig:=ig) (a:=a4) (e:=e) (b:=o+1) (c:=i+C.length) (v3:= .V (.list (Spot.vals rq))) (v4:= .V (.list (C.map BK))) (w:=w) (lin [i,C.length,c,Bl d] 0x19231532f0f7b3a70558ec28d13cfc97c56081 rfl y f x) λre v I U e3=>z6 (n:=n) (d:=d) (ig:=ig) (a:=a4) (e:=e) (b:=o+1) (c:=v) (v3:= .V (.list (Spot.vals rq))) (v4:= .V (.list (C.map BK))) (v6:= .V (IY re)) (w:=w) hp (lin [o,Bw d,b,H] 0x109fcabe835068936cbf5069782000007d48933369ccfb5385b1800000003aa9106208eda948dd581 rfl V q J) (lin [v,Bl d,c,i,C.length] 0x1dce0e724de8306df5adc969d3218055ea295db7a86a22cb081 rfl y f x I) λpo a5 D B Y p r u e4=>?_;refine z3 (n:=n) (d:=d) (ig:=ig) (a:=a5) (e:=e) (b:=D) (c:=B) (v3:= .V (.list (Spot.vals rq))) (v4:= .V (.list (C.map BK))) (v6:= .V (IY re)) (v7:= .V (.list (Spot.vals po))) (w:=w) (lin [D,b,Bw d,H,o] 0x533aaf4be4eb5a82e449d509b70c958d59933e98c00000001d548810b9083ba58900000000000dbba7801 rfl V q J u) (lin [B,c,Bl d,i,C.length,v] 0x97da1638c01102c438f2041264e115d810b497cda341dd2c5995801 rfl y f x I r) λbl a6 b6 E l j M O e5=>⟨⟨rq,C,re,po,bl⟩,a6,b6,E,qC [aE h0,aS e1,aE A,aS e3,aS e4,aS e5],Xh9.mpr ⟨XS T.dp,XS p.dp⟩,⟨⟨?_,Xcq Y (by decide),Xcq x (by decide)⟩,WX T.sh,WX p.sh⟩,(((T.dr.app Q).app U).app p.dr).app O,?_,?_,λh=>⟨g h,l h⟩⟩
 ·exact Xcq (Xcg rI) (Xcq k (by decide))
 ·cases ig with
  |true=>haveI:=g rfl;clear s h0 g e1 A e3 e4 l e5;subst this;simp only[Xf2,Xg4]at j I ⊢;exact lin [E,c,Bl d,i,B,v] 0xf7474a5450f7ba6b43d5327bdc6b24298ea83112a2a99001 rfl f r I j
  |false=>simp only[Xdu,if_false]at j ⊢;exact lin [E,c,Bl d,i,C.length,v,B] 0x332c46ef184b24b51b55a1e5232ac79f3f24298ea83de322a99001 rfl f x I r j
 ·exact lin [b6,b,Bw d,H,o,D] 0x7229f294aa59518856aded86e74ec830c8826509f3ea8466e22a99001 rfl q J u M
noncomputable def QM:PE:= .or (.K .Eq (.W 1) (.int 0)) (.or (.K .Gt (.OO 0 (.int 2)) (.OO 0 (.int 3))) (.K .Gt (.call 18 [(.W 0),(.int 3)]) (.int 0)))
theorem jd{n d:Nat}{a e:Int}{b c:Nat}(y:c<=500):ev (callF (n+1)) 2 (.call 19 [(.W 0)]) false [Ad a b c e,.V (.int (d:Int))]=some (.V (.str (B6 (c+1))),[Ad a b (c+1) e,.V (.int (d:Int))]):=by have h:=av (n:=n) (a:=a) (b:=b) (e:=e) y;exact qE [aC h]
theorem jc{n d:Nat}{a e:Int}{b c:Nat}(V:b<=100000):∃L r,r<3/\ev (callF (n+1)) 2 (.call 18 [(.W 0),(.int 3)]) false [Ad a b c e,.V (.int (d:Int))]=some (.V (.int (r:Nat)),[Ad L (b+1) c e,.V (.int (d:Int))]):=AB λJ=>Ce (UR (n:=n) (a:=a) (c:=c) (e:=e) (m:=3) (lin [] 1101692142081 rfl) (lin [] 47973569 rfl) V) λL r f h=>J (Di L r f (qE [aC h]))
theorem cy{n d:Nat}{a e:Int}{b c M:Nat}{a1:Int}(y:c<=500)(g:ev (callF (n+1)) 2 QM true [Ad a b c e,.V (.int (d:Int))]=some (.V (.bool true),[Ad a1 M c e,.V (.int (d:Int))])):
  callF (n+2) 20 [Ad a b c e,.V (.int d)]=some (.V (Spot.Y (c+1)).val,[Ad a1 M (c+1) e,.V (.int d)]):=by have f:=jd (n:=n) (d:=d) (a:=a1) (e:=e) (b:=M) y;exact qC [aE g,aE f]
theorem xi{n:Nat}{a e:Int}{b c:Nat}:ev (callF (n+1)) 2 QM true [Ad a b c e,.V (.int (0:Nat))]=some (.V (.bool true),[Ad a b c e,.V (.int (0:Nat))]):=by unfold QM;have Y:B7 .Eq (.int 0) (.int 0)=some (.bool true):= @Ek 0 0;exact rfl
theorem xl{n:Nat}:Jz (n+2) 0:=by
 intro a e b c V y;have:=eC 0;refine⟨.Y (c+1),a,b,c+1,cy (lin [c,Bl 0] 0xf05d9aaba45995801 rfl y) xi,Xdd _,trivial,?_,?_,Xd7 _ _⟩
 ·exact .one
 ·exact Xc4 _
theorem xk{n d:Nat}(N:OF (n+1) d true):Jz (n+2) (d+1):=by
 intro a e b c V y;have G:=eC d;simp only[VO,VP]at V y;have C:B7 .Eq (.int (d+1:Nat)) (.int 0)=some (.bool false):=by have:= @Ek (d+1) 0;replace this:=(Xc1 (Xf4 (lin [d] 0xd4bb01f80201 rfl)))▸ this;exact this
 have U:∃g,B7 .Gt (.int c) (.int e)=some (.bool g):=(AN _ rfl);refine AB λJ=>AK U λg U=>Ce (jc (n:=n) (d:=d+1) (a:=a) (e:=e) (b:=b) (c:=c) (lin [b,Bw d] 0x2bfecc010cfadcc5748900000000000dbba7801 rfl V)) λa1 r Q A=>?_;have u:=MZ r 0;have s:∃L v t,b<=v/\v<=b+1/\ev (callF (n+1)) 2 QM true [Ad a b c e,.V (.int (d+1:Nat))]=some (.V (.bool t),[Ad L v c e,.V (.int (d+1:Nat))]):=by
  cases g with
  |true=>exact(GP a b true (lin [b] 1 rfl) (lin [b] 24784897 rfl) (qE [aM C,aM U]))
  |false=>exact(GP a1 (b+1) (decide (r>0)) (lin [b] 24784897 rfl) (lin [b] 1827341070465 rfl) (qE [aM C,aM U,aE A,aM u]))
 refine GO s λL v t I D s=>J ?_;cases t with
 |true=>
  refine⟨.Y (c+1),L,v,c+1,cy (lin [c,Bl d] 0x1959b892826e62ba45995801 rfl y) s,Xdd _,trivial,?_,?_,?_⟩
  ·exact .one
  ·exact rL VO (lin [c,Bl d] 0x5a826e03603f081 rfl)
  ·exact VP▸ lin [v,b,Bw d] 0x32eeb4e2578423039001 rfl D
 |false=>
  refine AB λJ=>?_;obtain⟨l,a2,H,B,h,k,f,M,i,q,m⟩:=N L e v c (lin [v,Bw d,b] 0xa49c724fa135800000a70b6e93fd487e401d902c000000003424801db8d34a381 rfl V D) (lin [c,Bl d] 0x7b2b61b84a80cc473b1edb3fd77113ed34a381 rfl y G);refine Ax (m rfl) λE w=>J ?_;have j:l=gl l.req l.rest l.post:=by clear h k f M m;obtain⟨r,o,T,p,O⟩:=l;simp only at E w;subst E w;rfl
  have z:(Spot.GG l.req l.rest l.post).val=l.val:=rL (MY ..) (rR (j ..) rfl);refine⟨.GG l.req l.rest l.post,a2,H,B,?_,?_,?_,?_,?_,?_⟩
  ·have x:Bq .Sub (.int (d+1:Nat)) (.int 1)=some (.V (.int (d:Int))):=by show some (RV.V (.int (((d+1:Nat):Int) - 1)))=_;exact rL (show((d+1:Nat):Int) - 1=(d:Int) by lia) rfl
   exact z▸ qC [aE s,aB x,aC h]
  ·exact rL (HQ ..) (rR (j ..) (lin [l.depth,d] 0x6684b65ad4203f081 rfl k))
  ·exact(DR f.s.req f.s.post f.r f.p)
  ·exact rL (JC ..) (rR (j ..) M)
  ·simp only[VO,Xf2]at i ⊢;exact lin [B,c,Bl d] 0xad58ce7a44e23112a3039001 rfl i
  ·exact VP▸ lin [H,b,Bw d,v] 0x23b898fc929432306f4ea8578423039001 rfl D q
theorem cx:∀d n,Jz (n+2*d+2) d
 |0,n=>xl
 |d+1,n=>by have:=eE (ig:=true) (cx d n);have T:=xk this;exact T
theorem eD(d n:Nat)(ig:Bool):OF (n+2*d+3) d ig:=eE (cx d n)
theorem u3(T:List Int)(m:T.length<=63):∃a,callF (n+1) 17 [.V (.list (T.map .int))]=some (.M (.list (M8 a 0 0 12)),[.V (.list (T.map .int))]):=by
 have c:Cw 1000003=true:=by decide
 have s:Cw 10=true:=by decide
 have h:Cw 2=true:=by decide
 have Q:Ae (callF n) 1 200 (.G 1 (.int 0)) ([.V (.list (T.map .int))]++List.replicate 2 .U++List.replicate 0 .O)=some (.next,[.V (.list (T.map .int)),.V (.int 0),.U]):=rfl;refine AB λJ=>?_;obtain⟨u,N,a,z,t,rfl⟩:=JA (Φ:=callF n) (np:=1) (fuel:=200) (k:=2) (it:= .H8 (.W 0) (.int 24)) (σ:=[.V (.list (T.map .int)),.V (.int 0),.U]) (xs:=(T.map .int).take 24)
  (body:=[.G 1 (.B .Add (.B .Add (.B .Mult (.W 1) (.int 1000003)) (.B .Mult (.B .Mod (.F .abs (.W 2)) (.B .Pow (.int 10) (.int 30))) (.int 2))) (.F .toInt (.K .Lt (.W 2) (.int 0))))])
  (λU j=>∃a z,Af z/\j=[.V (.list (T.map .int)),.V (.int a),z]) rfl rfl (Di 0 .U CX rfl) (λi r j⟨a,z,m,C⟩=>by
   subst C;refine⟨m.Ei,?_⟩;have B:∃w:Int,((T.map Val.int).take 24)[i]= .int w:=(AN (T[i]'(by simp at r;omega)) (by simp));refine AK B λw hw=>rL hw ?_;have g:B7 .Lt (.int w) (.int 0)=some (.bool (decide (w<0))):=rfl;have b:FD .abs (.int w)=some (.V (.int (if w<0 then -w else w))):=rfl;have d:Bq .Pow (.int 10) (.int 30)=some (.V (.int (10 ^ 30))):=rfl;have e:∀q:Int,Bq .Mod (.int q) (.int (10 ^ 30))=some (.V (.int (q.fmod (10 ^ 30)))):=λq=>rfl;have p:∀q:Int,Bq .Mult (.int q) (.int 1000003)=some (.V (.int (q*1000003))):=λq=>by
    show(if(Cw q||Cw 1000003)=true then some (RV.V (Val.int (q*1000003)))else none)=_;refine rL (c ..) (rL (Xib ..) ?_);rfl
   have f:∀q:Int,Bq .Mult (.int q) (.int 2)=some (.V (.int (q*2))):=λq=>by
    show(if(Cw q||Cw 2)=true then some (RV.V (Val.int (q*2)))else none)=_;refine rL (h ..) (rL (Xib ..) ?_);rfl
   exact(AG [.V (.list (T.map .int)),.V (.int (a*1000003+(if w<0 then -w else w).fmod (10 ^ 30)*2+(if decide (w<0)=true then 1 else 0))),.V (.int w)] (qR [aB (p a),aF b,aB d,aB (e (if w<0 then -w else w)),aB (f ((if w<0 then -w else w).fmod (10 ^ 30))),aB (o:= .Add) (x:= .int (a*1000003)) (y:= .int ((if w<0 then -w else w).fmod (10 ^ 30)*2)) rfl,aM g]) (Di _ _ (CG _) rfl)))
 exact J (AN a (qC [aS N]))
noncomputable def UZ:Val:= .I 49 [.list [.I 49 [.list [.str "a",.str "b"],.list [],.none,.list [],.none]],.list [],.none,.list [],.none]
noncomputable def UY:Val:= .T [.list [.T [.str "a",.int 1],.T [.str "b",.int 2]],.int 0]
theorem uR:callF 20 28 [.N (.Z 0),.V UZ,.V (.list [.list [.int 1,.int 2]]),.V (.bool false)]=some (.V UY,[.N (.Z 0),.V UZ,.V (.list [.list [.int 1,.int 2]]),.V (.bool false)]):=by kernel_rfl
theorem kY{l:AI}(h:Dj 0 j l.names)(y:j<=43)(u:l.depth<=2)(a:l.EP):l.Good:=
 ⟨a,u,⟨h.nd,λn g=>by haveI G:=h.bt n g;exact lin [n,j] 0xcd09742f41d4f6303f081 rfl y G.2,λn g=>by simp[dk],by haveI f:=h.ln;simp only[Xg4];exact lin [l.names.length,j,j - 0] 0x75bc7ea91742f41f49a3000201 rfl y f (Xgt j 0)⟩,by haveI i:=h.ln;exact lin [l.names.length,j,j - 0] 0x75bc7ea91742f41d389b03f081 rfl y i (Xgt j 0)⟩
noncomputable def Gs(x:Val)(g:Nat)(bx:LV)(z q:LV):St:=[.V x,bx,.V (.int (g:Int)),.N (.Z 0),z,q,.O,.O,.O,.O,.O,.O,.O,.O,.O]
noncomputable def bN:List PS:=[.SS 1 (.int 2) (.int 0),.X (.not (.call 31 [.W 1,.W 3,.call 21 [.W 1,.B .Add (.int 1) (.W 2),.bool false],.W 2])) [.ret (.bool false)] []]
theorem zz(hg:g<=1)(hb:b<=10000):∃a' b' c',b'<=b+126/\Bv (callF 20) 1 100 bN (Gs x g (Ad a b c 12) z q)=some (.next,Gs x g (Ad a' b' c' 12) z q):=by
 have Z1:Bl 2=13:=rfl;haveI Z3:Bw 2=40:=rfl;haveI Z0:Bl 1=4:=rfl;haveI Z2:Bw 1=10:=rfl;haveI e0:Ae (callF 20) 1 100 (.SS 1 (.int 2) (.int 0)) (Gs x g (Ad a b c 12) z q)=some (.next,Gs x g (Ad a b 0 12) z q):=rfl;have hs:OF 20 (1+g) false:=by
  rcases Xdo.mp hg with rfl|rfl
  ·exact eD 1 15 false
  ·exact eD 2 13 false
 obtain⟨l,a',b',c',Yz,hd,hl,qW,TP,HR,_⟩:=hs a 12 b 0 (by rcases Xdo.mp hg with rfl|rfl<;>simp only[Nat.reduceAdd,Z2,Z3]<;>lia) (by rcases Xdo.mp hg with rfl|rfl<;>simp only[Nat.reduceAdd,Z0,Z1]<;>lia);have qk:=kY qW (by
  rcases Xdo.mp hg with rfl|rfl<;>simp only[Nat.reduceAdd,Z0,Z1,Xdu,if_false]at TP<;>lia) (lin [l.depth,g] 0xcd0d3881442fac4813801 rfl hg hd) hl
 haveI pF:=z8 (n:=8) (k:=0) (bx:=M8 a' b' c' 12) (g:=(g:Int)) qk (by lia);refine(DS a' b' c' (by rcases Xdo.mp hg with rfl|rfl<;>simp only[Nat.reduceAdd,Z2,Z3]at HR<;>lia) ?_);rw[show(1+g)=1+(g) by lia]at Yz;exact qR [aC Yz,aC pF]
theorem xp(zs:List Int)(hz:zs.length<=63):US 20 100 (.list (zs.map .int)):=by
 refine AB λkk=>?_;obtain⟨a0,TF⟩:=u3 zs hz;haveI hg:∃g:Nat,g<=1/\Pu (.list (zs.map .int))=g:=by
  unfold Pu;by_cases q:((zs.map Val.int).length:Int)>1
  ·exact(AG 1 (lin [] 5505473 rfl) (by simp only[q,Xf2];rfl))
  ·exact(AG 0 (lin [] 5505089 rfl) (by simp only[q,if_false];rfl))
 refine AJ hg λg hg hl=>kk ?_
 suffices h:∃σ,Bv (callF 20) 1 100 MQ (Pw (.list (zs.map .int)) (M8 a0 0 0 12))=some (.ret (.V (.bool true)),σ)from let⟨σ,h⟩:=h;(DS _ _ σ TF h)
 have hS:Pw (.list (zs.map .int)) (M8 a0 0 0 12)=Gs (.list (zs.map .int)) g (Ad a0 0 0 12) .U .U:=by unfold Pw;refine rL hl ?_;rfl
 refine rL hS ?_;generalize Val.list (zs.map .int)=x;haveI TR:∃a1 m,m<=3/\ev (callF 20) 1 (.B .Add (.int 1) (.B .Mult (.W 2) (.B .Add (.int 1) (.call 18 [.W 1,.int 2])))) false (Gs x g (Ad a0 0 0 12) .U .U)=some (.V (.int (m:Nat)),Gs x g (Ad a1 1 0 12) .U .U):=by
  refine AB λkk=>Ce (UR (n:=19) (a:=a0) (b:=0) (c:=0) (e:=12) (m:=2) (lin [] 753799791105 rfl) (lin [] 47973185 rfl) (lin [] 471863132225 rfl)) λa1 r hr oh=>kk ?_;have HT:Cw g=true:=eI (lin [g] 3247107643393 rfl hg);have qz:Bq .Mult (.int g) (.int (1+(r)))=some (.V (.int (g*(1+(r))))):=by
   show(if(Cw g||Cw (1+(r)))=true then some (RV.V (Val.int (g*(1+(r)))))else none)=_;refine rL HT ?_;rfl
  refine(Di a1 (1+g*(1+r)) ?_ ?_)
  ·rcases Xdo.mp hg with rfl|rfl<;>lia
  ·refine rL (show(1+g*(1+r):Nat)=1+(g)*(1+(r)) by push_cast;rfl) ?_;exact qE [aC oh,aB (o:= .Add) (x:= .int 1) (y:= .int (r:Int)) (r:= .V (.int (1+(r:Int)))) rfl,aB qz]
 refine AB λkk=>Ce TR λa1 m hm TR=>?_;obtain⟨A0,e1,a2,b2,c2,z,Kf,IA,rfl⟩:=T7 (Φ:=callF 20) (np:=1) (fuel:=100) (k:=4) (it:= .B .Add (.int 1) (.B .Mult (.W 2) (.B .Add (.int 1) (.call 18 [.W 1,.int 2])))) (body:=bN) (m:=m)
  (λi σ=>∃a b c z,Af z/\b<=1+i*126/\σ=Gs x g (Ad a b c 12) z .U) TR rfl (lin [m] 0x10080900000000000dbba7801 rfl hm) (RC a1 1 0 .U CX (lin [] 0x3be168821001c1 rfl) rfl) (λi hi σ⟨a,b,c,z,hz,hb,Tx⟩=>by exact rL Tx (AH hz.Ei (AB λkk=>Aj (zz (x:=x) (g:=g) (a:=a) (b:=b) (c:=c) (z:= .V (.int (i:Int))) (q:= .U) hg (by lia)) λa' b' c' HR ht=>(kk (AG _ ht (RC a' b' c' _ (CG _) (by refine rL (Xig ..) ?_;lia) rfl))))))
 refine kk ?_;haveI he:B7 .Eq UY UY=some (.bool true):=Xm (d:=8) (by decide+kernel) (by decide);haveI hb:Bv (callF 20) 1 100 MQ (Gs x g (Ad a0 0 0 12) .U .U)=some (.ret (.V (.bool true)),Gs x g (Ad a2 b2 c2 12) z (.V UZ)):=qR [aS e1,aC uR,aM he];exact(AN _ hb)
end
end Mine
theorem PySem.Challenge.cw_nz0050_01_holds : PySem.Challenge.rw_nz0050_01.Holds :=
 Mine.wV ⟨20,100,by decide,λzs hz=>Mine.xp zs hz⟩
