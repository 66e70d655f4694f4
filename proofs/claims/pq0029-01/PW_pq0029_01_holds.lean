import PyProof.Rows.All
import Wide.All
import OpenK.AllK
import Wide.FinOn
import PySem.Challenge.RW_pq0029_01
open PySem PySem.W PyProof.Rows
set_option Elab.async false
set_option maxRecDepth 100000 in
set_option maxHeartbeats 8000000 in
open_top hd for PySem.Challenge.rw_pq0029_01
set_option autoImplicit true
set_option linter.unusedVariables false
set_option maxRecDepth 100000
namespace Mine
open PySem.Calls
abbrev YI:=Heap
abbrev YF:=DictEntry
abbrev YE:=SetTable
abbrev YD:=Expr
abbrev YB:=Addr
abbrev YA:=Around
abbrev Yz:=World
abbrev Yy:=Shared
abbrev Yx:=Value
abbrev Ys:=Nat×Nat
abbrev Yq:=Sem Yx
abbrev Yp:=Array Yx
abbrev Yo:=Option Nat
abbrev Yn:=Option Yx
abbrev Yk:=List YF
abbrev Yj:=List Bool
abbrev Yi:=List (Ys)
abbrev Ye:=List Str
abbrev Yc:=List Yx
abbrev X_:=List YB
abbrev X8:=List Nat
abbrev X0:=Yx->Yy->Prop
def Z:=@wpAny_bind
def U:=@wpAny_pure
def aa:=@List.mem_map
def ah:=@List.getD_eq_getElem?_getD
def J:=@if_neg
def aj:=@List.mem_singleton
def ak:=@Heap.get?_push_of_some
def ao:=@Nat.le_refl
def B:=@if_pos
def au:=@List.getElem?_eq_getElem
def az:=@List.length_map
def aA:=@Bool.false_eq_true
def aB:=@List.mem_append
def aC:=@wpAny_holding
def aD:=@Heap.get?_push_size
def aE:=@List.prefix_refl
def aF:=@List.length_append
def aG:=@List.mem_cons
def aH:=@List.mem_of_getElem?
def aI:=@Nat.le_of_ble_eq_true
def aJ:=@Heap.lt_size
def aK:=@List.map_congr_left
def aL:=@List.map_append
def aM:=@decide_eq_true_eq
def aN:=@List.mem_append_right
def aO:=@List.getElem?_eq_none
def aP:=@List.getElem?_eq_some_iff
def aQ:=@Nat.ne_of_lt
def aR:=@List.mem_append_left
def aT:=@Option.isSome_iff_exists
def aU:=@congrArg
def aV:=@List.mem_filter
def aW:=@List.size_toArray
def aX:=@wpAny_standAt
def aY:=@List.getElem?_append_left
def aZ:=@List.mem_range
def a_:=@List.getElem?_map
def bg:=@Nat.le_trans
def br:=@F.plain_extend_loop
def bu:=@Option.map_eq_some_iff
def bx:=@List.nodup_cons
def bz:=@if_false
def bA:=@sizeLine_eq
def bB:=@Nat.zero_le
def bD:=@List.map_map
def bF:=@List.map_cons
def bJ:=@Around.under_plainId
def bL:=@wpAny_call_entry
def bN:=@Bool.and_eq_true
def bO:=@List.length_cons
def bS:=@List.getElem_of_mem
def bT:=@List.getElem_mem
def bU:=@List.length_take
def bV:=@List.mem_cons_of_mem
def bX:=@List.take_length
def bY:=@Heap.SameBut.update
def b5:=@List.pairwise_map
def b6:=@List.nodup_append
def b7:=@List.mem_flatMap
def b8:=@codeAny_builtin
def b9:=@List.mem_map_of_mem
def cu:=@Heap.get?_none_of_le
def cy:=@List.getElem?_set_ne
def cD:=@Bool.false_ne_true
def cE:=@if_true
def cF:=@List.nodup_nil
def cG:=@Array.length_toList
def cJ:=@wpAny_field
def cL:=@wpAny_specialOf
def cM:=@wpAny_newObj_type
def cO:=@Array.getElem?_toList
def cP:=@List.length_filter_le
def cQ:=@plainId_quiet
def cR:=@Heap.get?_update_ne
def cT:=@Array.getElem?_eq_getElem
def cV:=@List.dropLast_concat_getLast
def cW:=@List.length_range
def cX:=@Int.toNat_natCast
def cY:=@List.append_assoc
def cZ:=@List.getElem?_set_self
def c8:=@Bool.not_true
def c9:=@Nat.lt_of_lt_of_le
def dg:=@List.foldl_cons
def dh:=@get?_update_seq
def dz:=@List.all_eq_true
def dB:=@Bool.and_eq_true_iff
def dF:=@wpAny_Call_Name_kw
def dG:=@List.take_of_length_le
def dI:=@Option.some.inj
def dK:=@Nat.lt_succ_self
def dN:=@List.reverse_append
def dO:=@wpAny_rule
def dP:=@wpAny_setState_of
def dR:=@wpAny_callSpecial?_slot
def dU:=@Option.bind_eq_some_iff
def dX:=@wpAny_seqItems
def dY:=@List.mem_cons_self
def dZ:=@PyProof.Rows.callWith_type
def d7:=@List.append_nil
def d8:=@wpAny_typeOf
def d9:=@List.perm_middle
def d_:=@Option.map_eq_none_iff
def eB:=@List.pairwise_lt_range
def eE:=@List.Nodup.length_le_of_subset
def eH:=@List.filter_sublist
def eO:=@wpAny_truthy_bool
def eS:=@bne_self_eq_false
def eT:=@listUpdate_at
def e9:=@List.prefix_append
def fc:=@Nat.le_of_not_lt
def fh:=@F.entry_extend_loop
def fq:=@Nat.ne_of_gt
def fu:=@Option.some.injEq
def fy:=@Nat.lt_succ_of_lt
def fz:=@List.take_succ_eq_append_getElem
def fD:=@F.called_set
def fH:=@wpAny_notOrdered_dict
def fJ:=@List.Sublist.map
def fK:=@List.filter_append
def fL:=@wpAny_setField_rec
def fM:=@F.plain_list_iadd
def fQ:=@Heap.size_push
def fR:=@List.getLast?_eq_some_getLast
def fT:=@wpAny_dictEntries
def fW:=@List.filter_eq_self
def fY:=@Ne.symm
def fZ:=@List.nodup_range
def f_:=@wpAny_mono
def gf:=@List.find?_eq_none
def gg:=@Nat.lt_of_le_of_lt
def gh:=@F.slot_tuple_iterator_next
def gj:=@Heap.get?_update_self
def gk:=@List.findIdx?_eq_none_iff
def gm:=@List.length_set
def gr:=@Prod.ext
def gv:=@List.foldl_append
def gw:=@List.ext_getElem?
def gz:=@List.mem_of_mem_take
def gB:=@F.plainAttrs_dict
def gD:=@beq_iff_eq
def gH:=@Nat.lt_irrefl
def gJ:=@List.getElem?_range
def gK:=@List.length_flatMap
def gP:=@wpAny_isInstance
def gQ:=@Nat.max_eq_right
def gT:=@List.length_eq_zero_iff
def gU:=@F.plain_set_update_loop
def gY:=@slot_dict_contains
def gZ:=@List.pairwise_cons
def g9:=@List.of_mem_zip
def g_:=@Nat.max_eq_left
def h_:=@F.slot_tuple_getitem
def ia:=@List.length_singleton
def ie:=@List.pairwise_flatMap
def ir:=@List.push_toArray
def iw:=@List.filter_congr
def iy:=@Nat.le_succ_of_le
def iz:=@Array.getD_eq_getD_getElem?
def iB:=@Bool.not_false
def iC:=@List.nodup_iff_pairwise_ne
def iI:=@Nat.lt_or_ge
def iJ:=@Nat.le_total
def iK:=@wpAny_forIn_list
def iL:=@Nat.min_eq_right
def iM:=@List.drop_eq_getElem_cons
def iN:=@Option.isNone_iff_eq_none
def iO:=@List.getLastD_eq_getLast?
def iQ:=@Prod.mk.injEq
def iR:=@List.map_take
def iS:=@callWith_builtin
def iU:=@List.range_succ
def iV:=@Nat.min_eq_left
def iZ:=@List.map_id
def i7:=@wpAny_letGo
def i8:=@List.filter_cons_of_neg
def i9:=@List.filter_cons_of_pos
def i_:=@decide_eq_false_iff_not
def jc:=@List.findIdx?_eq_some_iff_getElem
def jd:=@F.slot_list_getattribute
def ji:=@Nat.mul_le_mul
def jj:=@wpAny_pyIter_list
def jk:=@Bool.not_eq_true'
def jl:=@F.slot_tuple_hash
def jm:=@wpAny_sequenceKey
def jo:=@Array.getElem?_eq_none
def jt:=@List.take_append_drop
def jz:=@Option.getD_some
def jA:=@wpAny_askSetting
def jB:=@List.getElem_inj
def jC:=@F.entry_proto_collect
def jD:=@F.plain_proto_collect
def jE:=@wpAny_typeNameOfWhole_itemiter
def jH:=@Bool.and_true
def jK:=@F.slot_NoneType_hash
def jL:=@Nat.mul_le_mul_right
def jM:=@List.length_dropLast
def jN:=@Nat.pow_le_pow_right
def jO:=@wpAny_typeNameOfWhole_keyiter
def jP:=@List.take_append_of_le_length
def jR:=@Bool.eq_iff_iff
def jS:=@wpAny_updateSeq
def jU:=@F.slot_dict_get
def jV:=@List.length_take_le
def jW:=@List.flatMap_append
def jX:=@List.filterMap_cons
def jY:=@wpAny_setEntries_of
def j4:=@Nat.zero_add
def j5:=@Nat.lt_trans
def kB:=@typeIs_str
def kD:=@wpAny_operate'
def kE:=@decide_eq_true
def kF:=@List.zip_cons_cons
def kG:=@Array.forIn_toList
def kH:=@F.entry_list_iadd
def kI:=@F.plainAttrs_list
def kJ:=@List.getElem?_append_right
def kK:=@F.entry_set_update_loop
def kL:=@List.mem_of_find?_eq_some
def kM:=@List.pairwise_iff_getElem
def kN:=@wpAny_typeNameOf_itemiter
def kR:=@wpAny_of_eq
def kT:=@Nat.le_succ
def kU:=@Heap.SameBut.refl
def kW:=@List.flatMap_cons
def kY:=@Nat.add_assoc
def kZ:=@wpAny_release
def k6:=@Int.ofNat.inj
def k7:=@wpAny_typeNameOf_keyiter
def lI:=@beq_builtin_none
def lJ:=@List.zipIdx_cons
def lK:=@Nat.le_add_right
def lM:=@List.filter_cons
def lN:=@List.getElem?_cons_zero
def lO:=@List.pairwise_singleton
def lV:=@wpAny_load
def lX:=@size_push'
def l_:=@Nat.le_of_lt
def mq:=@List.find?_cons_of_neg
def mu:=@List.length_pos_of_mem
def mw:=@wpAny_isOneOf_itemiter
def mz:=@arm_exec_Assign
def mC:=@List.forIn_cons
def mF:=@Array.size_push
def mG:=@wpAny_dictEpoch
def mH:=@Nat.not_lt_zero
def mJ:=@F.slot_dict_itemiterator_next
def mK:=@List.mem_iff_getElem?
def mL:=@wpAny_callSpecialIfBoundUnlessNone?_slot
def mO:=@F.slot_dict_keyiterator_next
def mQ:=@F.args_tuple_iterator_next_1
def mR:=@F.entry_tuple_iterator_next
def mX:=@Nat.add_mul
def mZ:=@Bool.false_and
def m6:=@List.Perm.refl
def m7:=@wpAny_runValue
def m8:=@isSubtype_type
def m9:=@wpAny_updateDictKeys
def m_:=@List.length_take_le'
def nh:=@List.getElem?_zipIdx
def nu:=@not_congr
def nH:=@markedEach_of_false
def nI:=@Bool.or_eq_true_iff
def nK:=@arm_eval_Call
def nM:=@Bool.false_or
def nN:=@evalPart_some
def nO:=@evalPart_none
def nX:=@wpAny_tupleItemsOf
def nY:=@Nat.add_sub_cancel
def nZ:=@F.slot_dict_setdefault
def n5:=@F.slot_dict_items_iter
def n6:=@wpAny_callSpecialUnlessNone?_slot
def oB:=@Nat.mul_comm
def oE:=@decide_false
def oG:=@List.map_nil
def oH:=@slot_dict_getitem
def oJ:=@eqIsQuiet_byValue
def oK:=@List.take_sublist
def oM:=@Array.toList_push
def oN:=@wpAny_pyIter_slot
def oO:=@Nat.le_of_succ_le
def oR:=@List.find?_append
def oU:=@List.count_append
def oV:=@Option.isSome_map
def oW:=@F.slot_dict_delitem
def pA:=@List.lookup_cons
def pB:=@Bool.not_eq_true
def pC:=@List.not_mem_nil
def pD:=@List.map_flatMap
def pF:=@decide_eq_decide
def pG:=@F.args_list_init_2
def pH:=@F.args_tuple_add_2
def pI:=@F.slot_str_isspace
def pL:=@wpAny_noted
def pM:=@mirror_perm
def pO:=@wpAny_Slice
def pQ:=@F.typeCall_list_1
def pR:=@F.entry_list_init
def pS:=@F.entry_tuple_add
def pT:=@F.slot_dict_items
def pU:=@F.args_zip_next_1
def pW:=@List.eq_nil_of_length_eq_zero
def pX:=@List.cons.injEq
def pZ:=@codeAny_of_tree
def p5:=@List.find?_some
def p6:=@Option.map_some
def p7:=@List.zipIdx_nil
def p8:=@List.find?_cons
def p9:=@List.filter_map
def p_:=@F.slot_dict_iter
def qa:=@F.slot_tuple_add
def qb:=@F.entry_zip_next
def ql:=@F.slot_dict_pop
def qm:=@F.plain_set_new
def qo:=@F.slot_set_iter
def qq:=@F.slot_zip_next
def qt:=@F.type_dict_get
def qu:=@List.perm_append_comm_assoc
def qE:=@Walks.list
def qG:=@call_meets
def qI:=@Nat.mod_lt
def qK:=@wpAny_listPart
def qL:=@Bool.and_false
def qM:=@wpAny_newTuple
def qN:=@List.forIn_nil
def qO:=@Array.size_map
def qP:=@wpAny_fieldsOf
def qQ:=@callType_codes
def qR:=@Array.getElem?_eq_some_iff
def qT:=@List.length_eraseIdx_of_lt
def qU:=@List.fst_mem_of_mem_zipIdx
def qV:=@Int.fmod_eq_emod_of_nonneg
def qW:=@Classical.byContradiction
def qX:=@F.called_list
def qY:=@List.getLast?_eq_some_iff
def qZ:=@loadName_read
def q8:=@Bool.and_self
def q9:=@wpAny_newList
def q_:=@Bool.true_and
def rm:=@wpAny_onRaise
def ru:=@arm_evalThenUse_ListComp
def ry:=@F.slot_list_append
def rz:=@F.slot_list_extend
def rW:=@List.getElem?_cons_succ
def rX:=@List.eraseIdx_cons_succ
def rY:=@List.pairwise_filterMap
def sr:=@dif_neg
def sH:=@name_of_addr
def sI:=@Nat.le_of_eq
def sJ:=@listItems_at
def sL:=@Nat.pow_succ
def sM:=@codeAny_mono
def sP:=@Nat.sub_self
def sR:=@wpAny_pendingKey_other
def sS:=@List.drop_eq_nil_of_le
def sU:=@wpAny_pyNext_list_item
def sV:=@wpAny_richCompare_same
def sW:=@SetTable.insertAt_perm
def sX:=@List.filter_eq_nil_iff
def sY:=@List.sum_replicate_nat
def sZ:=@wpAny_storeName_local
def s9:=@isSubtype_tuple_tuple
def s_:=@F.slot_list_pop
def tu:=@wpAny_pyNext_list_end
def tw:=@SetTable.standIn_fits
def tB:=@List.Perm.append_left
def tC:=@wpAny_isOneOf_keyiter
def tE:=@List.perm_append_comm
def tX:=@spliced_nil
def tZ:=@plainGet_of
def t_:=@Subtype.ext
def ue:=@seqEpoch_at
def ur:=@wpAny_loadName_local
def uv:=@SeqAt.eqBoolOverData
def uw:=@arm_delete_Subscript
def ux:=@wpAny_loadName_free
def uy:=@entry_dict_contains
def uA:=@List.take_succ_cons
def uB:=@F.slot_list_delitem
def uC:=@List.zipIdx_map_fst
def uD:=@Nat.mul_le_mul_left
def uE:=@Bool.and_right_comm
def uF:=@Nat.add_sub_cancel'
def uQ:=@wpAny_call
def uR:=@wpAny_Name
def uS:=@looks_nsIn
def uT:=@typeIs_int
def u7:=@wpAny_pyIter_tuple
def u9:=@wpAny_unpack_tuple
def u_:=@args_dict_contains
def vc:=@wpAny_missed_other
def ve:=@Option.isNone_some
def vf:=@Heap.IsSliceOf.new
def vg:=@List.map_filterMap
def vh:=@List.filterMap_map
def vj:=@List.getElem?_take
def vm:=@List.zipIdx_append
def vn:=@List.pairwise_pair
def vo:=@List.getElem_range
def vp:=@List.mem_filterMap
def vq:=@List.count_eq_zero
def vt:=@Nat.sub_add_cancel
def vA:=@List.filter_filter
abbrev pw:PySem.Program:=PySem.Challenge.rw_pq0029_01.row.prog
abbrev View:=YB->Option Obj
abbrev YH:=View
def View.le(g b:YH):Prop:=∀a o,g a=some o->b a=some o
theorem View.le.refl(g:YH):View.le g g:=λ_ _ e=>e
def bM:=@View.le.refl
theorem View.le.trans(x:View.le a b)(y:View.le b c):View.le a c:=λ_ _ e=>y _ _ (x _ _ e)
inductive D where
 |none|bool (b:Bool)|int (i:Int)|str (s:Str)
 |vV (l:List D)|vK (l:List D)|wc (l:List (D×D))|ref (n:Nat)|zR (a b:Int)
abbrev Yr:=List (Str×D)
abbrev Yh:=List (D×D)
abbrev Yb:=List D
mutual
def wD(w:Yz):D->Int
 | .none=>0xFCA86420
 | .int i=>(intKind pw w).hash i
 | .str s=>(strKind pw w).hash s
 | .vV l=>reduceHash (Builtin.Tuple.tupleHashOf (JY w l))
 |_=>0
def JY(w:Yz):Yb->List Int
 |[]=>[]
 |d::r=>wD w d::JY w r
end
def v9(c:String)(a:Yp)(n:Nat):Obj:={cls:=.type c,data:=.seq a n}
def wj(a:Array YF)(n:Nat):Obj:={cls:=.type "dict",data:=.dict a n}
def Nc(C d:YB):Obj:={cls:=.ref C,dict:=some d}
def DT(g:YH)(T:String)(a:YB)(b:Yc):Prop:=∃n,g a=some (v9 T b.toArray n)
def IsDict(g:YH)(a:YB)(b:Yk):Prop:=(a==sysModules)=false/\∃n,g a=some (wj b.toArray n)
mutual
def D.hk:D->Bool
 | .none=>true
 | .int _=>true
 | .str _=>true
 | .vV l=>A2 l
 |_=>false
def A2:Yb->Bool
 |[]=>true
 |d::r=>D.hk d&&A2 r
end
def wh(l:Yh):Prop:=(l.map (·.1)).Nodup
mutual
inductive Rd(w:Yz)(g:YH)(ρ:X_):Yx->D->Prop
 |none:Rd w g ρ .none .none
 |bool (b:Bool):Rd w g ρ (.bool b) (.bool b)
 |int (i:Int) (t:Tok):Rd w g ρ (.int i t) (.int i)
 |str (s:Str) (t:Tok):Rd w g ρ (.str s t) (.str s)
 |vV {a:YB} {items:Yc} {l:Yb}:DT g "tuple" a items->wR w g ρ items l->Rd w g ρ (.ref a) (.vV l)
 |vK {a:YB} {items:Yc} {l:Yb}:DT g "list" a items->wR w g ρ items l->Rd w g ρ (.ref a) (.vK l)
 |wc {a:YB} {es:Yk} {l:Yh}:IsDict g a es->yd w g ρ es l->wh l->Rd w g ρ (.ref a) (.wc l)
 |ref {n:Nat} {a:YB}:ρ[n]? =some a->Rd w g ρ (.ref a) (.ref n)
 |zR {x:YB} {a b:Int} {t u v:Tok}:g x=some {cls:=.type "range",data:=.fields #[.int a t,.int b u,.int 1 v]}->Rd w g ρ (.ref x) (.zR a b)
inductive wR(w:Yz)(g:YH)(ρ:X_):Yc->Yb->Prop
 |nil:wR w g ρ [] []
 |cons {v:Yx} {d:D} {vs:Yc} {ds:Yb}:Rd w g ρ v d->wR w g ρ vs ds->wR w g ρ (v::vs) (d::ds)
inductive yd(w:Yz)(g:YH)(ρ:X_):Yk->List (D×D)->Prop
 |nil:yd w g ρ [] []
 |cons {e:YF} {k v:D} {es:Yk} {l:Yh}:Rd w g ρ e.key k->Rd w g ρ e.val v->e.hash=wD w k->yd w g ρ es l->yd w g ρ (e::es) ((k,v)::l)
end
theorem DT.mono(k:View.le g c):DT g T a b->DT c T a b:=λ⟨n,h⟩=>⟨n,k _ _ h⟩
theorem IsDict.mono(k:View.le g b):IsDict g a c->IsDict b a c:=λ⟨l,n,h⟩=>⟨l,n,k _ _ h⟩
theorem Rk(k:c<+:b){n:Nat}(h:c[n]? =some a):b[n]? =some a:=by
 obtain⟨t,rfl⟩:=k;have d:=(aP.mp h).1;rw[aY d];exact h
def sf:=@Rk
mutual
theorem Rd.mono(k:View.le g c)(p:e<+:a):∀{v:Yx} {d:D},Rd w g e v d->Rd w c a v d
 |_,_,.none=>.none
 |_,_,.bool b=>.bool b
 |_,_,.int i t=>.int i t
 |_,_,.str s t=>.str s t
 |_,_,.vV h r=>.vV (h.mono k) (wR.mono k p r)
 |_,_,.vK h r=>.vK (h.mono k) (wR.mono k p r)
 |_,_,.wc h r f=>.wc (h.mono k) (yd.mono k p r) f
 |_,_,.ref h=>.ref (sf p h)
 |_,_,.zR h=>.zR (k _ _ h)
theorem wR.mono(k:View.le g b)(p:c<+:a):∀{v:Yc} {d:Yb},wR w g c v d->wR w b a v d
 |_,_,.nil=>.nil
 |_,_,.cons h r=>.cons (Rd.mono k p h) (wR.mono k p r)
theorem yd.mono(k:View.le g b)(p:c<+:a):∀{v:Yk} {d:Yh},yd w g c v d->yd w b a v d
 |_,_,.nil=>.nil
 |_,_,.cons h f e r=>.cons (Rd.mono k p h) (Rd.mono k p f) e (yd.mono k p r)
end
theorem wR.length:∀{a:Yc} {b:Yb},wR w g c a b->a.length=b.length
 |_,_,.nil=>rfl
 |_,_,.cons _ r=>by simp[wR.length r]
theorem wR.get:∀{c:Yc} {e:Yb},wR w g f c e->∀{i:Nat} {d:D},e[i]? =some d->∃v,c[i]? =some v/\Rd w g f v d
 |_,_,.nil,i,d,h=>by simp at h
 |_,_,.cons x r,0,d,h=>by simp at h;subst h;exact⟨_,by simp,x⟩
 |_,_,.cons x r,i+1,d,h=>by simp at h;let⟨v,a,b⟩:=wR.get r h;exact⟨v,by simpa using a,b⟩
theorem wR.append:∀{c a:Yc} {d b:Yb},wR w g e c d->wR w g e a b->wR w g e (c++a) (d++b)
 |_,_,_,_,.nil,s=>s
 |_,_,_,_,.cons h r,s=>.cons h (wR.append r s)
theorem wR.take:∀{a:Yc} {b:Yb} (n:Nat),wR w g c a b->wR w g c (a.take n) (b.take n)
 |_,_,0,_=>.nil
 |_,_,_+1,.nil=>.nil
 |_,_,n+1,.cons h r=>.cons h (wR.take n r)
theorem wR.drop:∀{a:Yc} {b:Yb} (n:Nat),wR w g c a b->wR w g c (a.drop n) (b.drop n)
 |_,_,0,r=>r
 |_,_,_+1,.nil=>.nil
 |_,_,n+1,.cons _ r=>wR.drop n r
theorem wR.set:∀{a:Yc} {b:Yb} (n:Nat) {v:Yx} {d:D},wR w g c a b->Rd w g c v d->wR w g c (a.set n v) (b.set n d)
 |_,_,0,_,_,.nil,_=>.nil
 |_,_,_+1,_,_,.nil,_=>.nil
 |_,_,0,_,_,.cons _ r,x=>.cons x r
 |_,_,n+1,_,_,.cons h r,x=>.cons h (wR.set n r x)
inductive wQ where
 |vK (l:Yb)
 |wc (l:Yh)
 |inst (C:YB) (ns:Nat)
 |ns (l:Yr)
inductive Dz(w:Yz)(g:YH)(ρ:X_):Yk->List (Str×D)->Prop
 |nil:Dz w g ρ [] []
 |cons {x:Str} {t:Tok} {v:Yx} {d:D} {es:Yk} {l:Yr}:Rd w g ρ v d->Dz w g ρ es l->Dz w g ρ (⟨(strKind pw w).hash x,.str x t,v⟩::es) ((x,d)::l)
theorem Dz.mono(k:View.le g b)(p:c<+:a):∀{v:Yk} {d:Yr},Dz w g c v d->Dz w b a v d
 |_,_,.nil=>.nil
 |_,_,.cons h r=>.cons (Rd.mono k p h) (Dz.mono k p r)
inductive yj(w:Yz)(g:YH)(ρ:X_):Obj->wQ->Prop
 |vK {xs:Yc} {n:Nat} {l:Yb}:wR w g ρ xs l->yj w g ρ (v9 "list" xs.toArray n) (.vK l)
 |wc {es:Yk} {n:Nat} {l:Yh}:yd w g ρ es l->wh l->yj w g ρ (wj es.toArray n) (.wc l)
 |inst {C d:YB} {n:Nat}:ρ[n]? =some d->yj w g ρ (Nc C d) (.inst C n)
 |ns {es:Yk} {n:Nat} {l:Yr}:Dz w g ρ es l->(l.map (·.1)).Nodup->yj w g ρ (wj es.toArray n) (.ns l)
theorem yj.mono{b a:X_}(k:View.le g d)(p:b<+:a)(h:yj w g b o c):yj w d a o c:=by
 cases h with
 |vK r=>exact .vK (r.mono k p)
 |wc r f=>exact .wc (r.mono k p) f
 |inst r=>exact .inst (sf p r)
 |ns r f=>exact .ns (r.mono k p) f
structure St where
 μ:Nat->Option wQ
abbrev X5:=D->St->Prop
def St.put(a:St)(n:Nat)(c:wQ):St:=⟨λk=>if k=n then some c else a.μ k⟩
def St.drop(a:St)(n:Nat):St:=⟨λk=>if k=n then none else a.μ k⟩
def St.le(b a:St):Prop:=∀n c,b.μ n=some c->a.μ n=some c
theorem St.le.refl(a:St):St.le a a:=λ_ _ e=>e
def cN:=@St.le.refl
theorem St.Of(a:St)(n:Nat)(c:wQ):(a.put n c).μ n=some c:=B rfl
def cj:=@St.Of
theorem St.Uk{a:St}(h:m≠n):(a.put n c).μ m=a.μ m:=J h
def dD:=@St.Uk
theorem St.UX{a:St}(h:a.μ n=none):St.le a (a.put n c):=λm d e=>by
 have:m≠n:=by rintro rfl;rw[h]at e;cases e
 rw[dD this];exact e
def iY:=@St.UX
theorem St.Ri(a:St)(n:Nat)(c d:wQ):(a.put n c).put n d=a.put n d:=by
 unfold St.put;congr 1;funext k;dsimp only;split<;>rfl
def l7:=@St.Ri
theorem St.PR{a:St}(h:a.μ n=none):(a.put n c).drop n=a:=by
 cases a with
 |mk μ=>
  unfold St.put St.drop;congr 1;funext k;dsimp only;split
  .next e=>subst e;exact h.symm
  .rfl
def uh:=@St.PR
theorem St.Og{a:St}(h:a.μ n=some c):(a.drop n).put n c=a:=by
 cases a with
 |mk μ=>
  unfold St.put St.drop;congr 1;funext k;dsimp only;split
  .next e=>subst e;exact h.symm
  .rfl
theorem St.Sq{a:St}(h:m≠n):(a.drop n).μ m=a.μ m:=J h
def kC:=@St.Sq
theorem St.Eo(a:St)(n:Nat):(a.drop n).μ n=none:=B rfl
noncomputable abbrev KF(w:Yz):Frag:=hd.heap_39 w.params
structure Base(w:Yz)(h:YI):Prop where
 k:(KF w).In h
 b:∃mb,h.Ns builtinsNs mb/\∀x:Str,x≠"__name__"->mb x=bootBuiltins x
 lim:h.NoLimit
 dig:∃mc,h.Ns cStatics mc/\mc "sys.int_max_str_digits"=none
 seer:h.NoSeer
theorem Base.keeps(x:Base w h)(k:∀b o,h.get? b=some o->c.get? b=some o):Base w c:=⟨x.k.keeps k,let⟨m,a,b⟩:=x.b;⟨m,a.keeps k,b⟩,x.lim.keeps k,let⟨m,a,b⟩:=x.dig;⟨m,a.keeps k,b⟩,x.seer.keeps k⟩
structure Gr(s:Yy)(g:YH)(ρ:X_)(s':Yy)(g':YH)(ρ':X_):Prop where
 gens:s'.gens=s.gens
 os:s'.os=s.os
 le:View.le g g'
 pre:ρ<+:ρ'
theorem Gr.refl(s:Yy)(g:YH)(a:X_):Gr s g a s g a:=⟨rfl,rfl,bM g,aE _⟩
def eU:=@Gr.refl
theorem Gr.trans(x:Gr a g d b h e)(y:Gr b h e c i f):Gr a g d c i f:=⟨y.gens.trans x.gens,y.os.trans x.os,x.le.trans y.le,x.pre.trans y.pre⟩
theorem Gr.at(l:View.le g b)(p:c<+:a):Gr s g c {s with heap:=h,toks:=n} b a:=⟨rfl,rfl,l,p⟩
theorem Gr.wV:Gr s g a {s with heap:=h,toks:=n} g a:=⟨rfl,rfl,bM g,aE _⟩
def cA:=@Gr.wV
theorem Rd.up(x:Gr s g b e c a)(r:Rd w g b v d):Rd w c a v d:=r.mono x.le x.pre
theorem wR.up(x:Gr s g b e c a)(r:wR w g b v d):wR w c a v d:=r.mono x.le x.pre
structure GS(w:Yz)(g R:YH)(ρ:X_)(σ:St)(h:YI):Prop where
 base:∃h0,Base w h0/\∀a o,h0.get? a=some o->g a=some o
 sub:∀a o,g a=some o->h.get? a=some o
 rest:∀a o,R a=some o->h.get? a=some o
 gR:∀a o,g a=some o->R a=none
 cell:∀n c,σ.μ n=some c->∃a o,ρ[n]? =some a/\h.get? a=some o/\yj w g ρ o c/\g a=none/\R a=none
 inj:∀m n a c d,σ.μ m=some c->σ.μ n=some d->ρ[m]? =some a->ρ[n]? =some a->m=n
 low:∀a∈ρ,(a==sysModules)=false
theorem GS.ok(G:GS w g R c d h):Base w h:=let⟨_,b,k⟩:=G.base;b.keeps λa o e=>G.sub _ _ (k a o e)
theorem GS.yC(G:GS w g R d f h)(k:View.le b R):GS w g b d f h where
 base:=G.base
 sub:=G.sub
 rest:=λa o e=>G.rest a o (k a o e)
 gR:=λa o e=>by
  cases q:b a with
  |none=>rfl
  |some x=>have:=k _ _ q;rw[G.gR a o e]at this;cases this
 cell:=λn c e=>let⟨a,o,i,j,l,m,p⟩:=G.cell n c e;⟨a,o,i,j,l,m,by
  cases q:b a with
  |none=>rfl
  |some x=>have:=k _ _ q;rw[p]at this;cases this⟩
 inj:=G.inj
 low:=G.low
theorem GS.keep(G:GS w g R d f h)(k:∀b o,h.get? b=some o->i.get? b=some o):GS w g R d f i where
 base:=G.base
 sub:=λa o e=>k _ _ (G.sub a o e)
 rest:=λa o e=>k _ _ (G.rest a o e)
 gR:=G.gR
 cell:=λn c e=>let⟨a,o,j,l,m,p,q⟩:=G.cell n c e;⟨a,o,j,k _ _ l,m,p,q⟩
 inj:=G.inj
 low:=G.low
def ins(g:YH)(a:YB)(o:Obj):YH:=λb=>if b=a then some o else g b
theorem Pd(g:YH)(a:YB)(o:Obj):ins g a o a=some o:=B rfl
def gM:=@Pd
theorem U7(n:b≠a):ins g a o b=g b:=J n
def lP:=@U7
theorem EF(n:g a=none):View.le g (ins g a o):=λb x e=>by
 by_cases q:b=a
 .subst q;rw[n]at e;cases e
 .rw[lP q];exact e
theorem GS.zZ(G:GS w g R b c h)(n:h.get? a=none):g a=none:=by
 cases q:g a with
 |none=>rfl
 |some o=>rw[G.sub a o q]at n;cases n
theorem GS.yt(G:GS w g R b c h)(n:h.get? a=none):R a=none:=by
 cases q:R a with
 |none=>rfl
 |some o=>rw[G.rest a o q]at n;cases n
theorem GS.VG(G:GS w g R i j h)(k:∀b o,h.get? b=some o->h'.get? b=some o)(n:h.get? a=none)(e:h'.get? a=some o):GS w (ins g a o) R i j h'/\View.le g (ins g a o):=by
 have l:=G.zZ n;have d:=EF (o:=o) l;refine⟨⟨?_,?_,λb x q=>k _ _ (G.rest b x q),?_,?_,G.inj,G.low⟩,d⟩
 .let⟨p,b,q⟩:=G.base
  exact⟨p,b,λc x e=>d _ _ (q c x e)⟩
 .intro b x q
  by_cases z:b=a
  .subst z;rw[gM]at q;cases q;exact e
  .rw[lP z]at q;exact k _ _ (G.sub b x q)
 .intro b x q
  by_cases z:b=a
  .subst z;exact G.yt n
  .rw[lP z]at q;exact G.gR b x q
 .intro m c q
  let⟨b,x,r,f,s,t,u⟩:=G.cell m c q;have v:b≠a:=by rintro rfl;rw[n]at f;cases f
  exact⟨b,x,r,k _ _ f,s.mono d (aE _),by rw[lP v];exact t,u⟩
theorem GS.lt(G:GS w g R b d h)(e:d.μ n=some c):n<b.length:=by
 let⟨a,o,q,_⟩:=G.cell n c e;exact(aP.mp q).1
theorem GS.yu(G:GS w g R a b h):b.μ a.length=none:=by
 cases e:b.μ a.length with
 |none=>rfl
 |some c=>exact absurd (G.lt e) (gH _)
theorem GS.restrict(G:GS w g R i f h)(b:St.le j f):GS w g R i j h:=⟨G.base,G.sub,G.rest,G.gR,λn c e=>G.cell n c (b n c e),λm n a c d e1 k=>G.inj m n a c d (b _ _ e1) (b _ _ k),G.low⟩
theorem GS.big(G:GS w g R a b h):3<h.objs.size:=aJ (G.ok.k 3 ((KF w).lookup 3 |>.get!) rfl)
theorem GS.high(G:GS w g R b c h)(e:h.objs.size<=a):(a==sysModules)=false:=by
 have:=G.big;have e1:sysModules=1:=rfl;have:a≠sysModules:=by rw[e1];exact fq (by omega)
 simpa using this
theorem GS.upd(G:GS w g R j i h)(l:i.μ m=some c)(r:j[m]? =some a)(k:∀b o,b≠a->h.get? b=some o->s.get? b=some o)(e:s.get? a=some t)(E:yj w g j t u):GS w g R j (i.put m u) s:=by
 let⟨a',o,v,h2,h3,y,A⟩:=G.cell m c l;rw[r]at v;cases v;have F:∀b x,g b=some x->b≠a:=by rintro b x q rfl;rw[y]at q;cases q
 have H:∀b x,R b=some x->b≠a:=by rintro b x q rfl;rw[A]at q;cases q
 refine⟨G.base,λb x q=>k _ _ (F b x q) (G.sub b x q),λb x q=>k _ _ (H b x q) (G.rest b x q),G.gR,?_,?_,G.low⟩
 .intro n d q
  by_cases z:n=m
  .subst z
   simp only[St.put,cE]at q;cases q;exact⟨a,t,r,e,E,y,A⟩
  .simp only[St.put,J z]at q
   let⟨b,x,C,I,L,M,N⟩:=G.cell n d q;have:b≠a:=by rintro rfl;exact z (G.inj n m b _ _ q l C r)
   exact⟨b,x,C,k _ _ this I,L,M,N⟩
 .intro p q b P Q e1 S T V
  have f:∀n d,(i.put m u).μ n=some d->∃W,i.μ n=some W:=by
   intro n d q;by_cases z:n=m
   .subst z;exact⟨c,l⟩
   .simp only[St.put,J z]at q;exact⟨d,q⟩
  let⟨d1,X⟩:=f p P e1;let⟨d2,Y⟩:=f q Q S;exact G.inj p q b _ _ X Y T V
theorem GS.forget(G:GS w g R e c h)(m:Nat):GS w g R e (c.drop m) h:=by
 have a:∀n d,(c.drop m).μ n=some d->c.μ n=some d:=by
  intro n d q;by_cases z:n=m
  .subst z;simp[St.drop]at q
  .simpa[St.drop,z]using q
 exact⟨G.base,G.sub,G.rest,G.gR,λn d q=>G.cell n d (a n d q),λp q b i j e1 f=>G.inj p q b _ _ (a _ _ e1) (a _ _ f),G.low⟩
theorem GS.Ba(G:GS w g R f i h)(l:i.μ m=some c)(p:f[m]? =some a):∃o j,yj w g f o c/\View.le g j/\j a=some o/\GS w j R f (i.drop m) h:=by
 let⟨P,o,r,v,y,A,C⟩:=G.cell m c l;rw[p]at r;cases r;have k:=EF (o:=o) A;have E:=G.forget m;refine⟨o,ins g a o,y,k,gM _ _ _,⟨?_,?_,G.rest,?_,?_,E.inj,G.low⟩⟩
 .let⟨F,b,q⟩:=G.base
  exact⟨F,b,λc x e=>k _ _ (q c x e)⟩
 .intro b x q
  by_cases z:b=a
  .subst z;rw[gM]at q;cases q;exact v
  .rw[lP z]at q;exact G.sub b x q
 .intro b x q
  by_cases z:b=a
  .subst z;exact C
  .rw[lP z]at q;exact G.gR b x q
 .intro n d q
  have s:n≠m:=by rintro rfl;simp[St.drop]at q
  have t:i.μ n=some d:=by simpa[St.drop,s]using q
  let⟨b,x,u,H,I,L,M⟩:=G.cell n d t;have N:b≠a:=by rintro rfl;exact s (G.inj n m b _ _ t l u p)
  exact⟨b,x,u,H,I.mono k (aE _),by rw[lP N];exact L,M⟩
structure we(n:Nat)(A:YA):Prop where
 handled:A.handled=none
 depth:A.depth+n<990
 units:A.units+10*n+400<9900
theorem we.mono(x:we n A)(h:m<=n):we m A:=⟨x.handled,by have:=x.depth;omega,by have:=x.units;omega⟩
theorem we.lim(x:we n A):A.depth<recursionLimit:=by have:=x.depth;show A.depth<1000;omega
theorem we.cl(x:we n A):A.units<cLine:=by have:=x.units;show A.units<9900;omega
theorem we.in1(x:we (n+1) A):we n A.in1:=⟨x.handled,by have:=x.depth;show A.depth+n<990;omega,by have:=x.units;show A.units+1+10*n+400<9900;omega⟩
theorem we.deeper(x:we (n+1) A)(a:Env):we n (A.deeper a):=⟨x.handled,by have:=x.depth;show A.depth+1+n<990;omega,by have:=x.units;show A.units+3+10*n+400<9900;omega⟩
abbrev Md:=Yr
structure Fm(w:Yz)(g R:YH)(ρ:X_)(env:Env)(md:Md):Prop where
 fn:env.scope.kind= .function
 gl:env.globals=mainGlobals
 bi:env.builtins=builtinsNs
 loc:∃(o:Obj) (es:Array YF) (ep:Nat) (m:Str->Yn),R env.locals=some o/\o.data= .dict es ep/\StrKeys es/\(∀x,nsFind es x=m x)/\
  ∀x d,md.lookup x=some d->env.kindOf x=some .local->∃v,m x=some v/\Rd w g ρ v d
 FP:∀x d,md.lookup x=some d->(env.kindOf x=some .cell\/env.kindOf x=some .free)->∃c o v,env.cells.lookup x=some c/\R c=some o/\o.data= .cell (some v)/\Rd w g ρ v d
 own:∀x,env.kindOf x=some .cell->∃c o v,env.cells.lookup x=some c/\R c=some o/\o.data= .cell v
 apart:env.cells.Pairwise λx y=>x.2≠y.2
 ne:∀x c,(x,c)∈env.cells->c≠env.locals
 Qh:env.kindOf "__classdict__"=none
 all:∀x c,env.cells.lookup x=some c->(∃o,R c=some o)\/(x="__class__"/\∃o,g c=some o)
 Qi:∀x,env.kindOf x=some .free->∃c,env.cells.lookup x=some c
theorem Fm.mono(F:Fm w g R t n u)(k:View.le g y)(p:t<+:s):Fm w y R s n u where
 fn:=F.fn
 gl:=F.gl
 bi:=F.bi
 loc:=let⟨o,z,A,m,f,i,j,l,C⟩:=F.loc;⟨o,z,A,m,f,i,j,l,λx d a b=>let⟨v,q,r⟩:=C x d a b;⟨v,q,r.mono k p⟩⟩
 FP:=λx d a b=>let⟨c,o,v,f,i,j,l⟩:=F.FP x d a b;⟨c,o,v,f,i,j,l.mono k p⟩
 own:=F.own
 apart:=F.apart
 ne:=F.ne
 Qh:=F.Qh
 all:=λx c e=>(F.all x c e).imp id λ⟨q,o,h⟩=>⟨q,o,k _ _ h⟩
 Qi:=F.Qi
theorem Fm.yC(F:Fm w g R f c h)(k:∀x d,e.lookup x=some d->h.lookup x=some d):Fm w g R f c e where
 fn:=F.fn
 gl:=F.gl
 bi:=F.bi
 loc:=let⟨o,i,j,m,l,n,p,q,r⟩:=F.loc;⟨o,i,j,m,l,n,p,q,λx d a b=>r x d (k x d a) b⟩
 FP:=λx d a b=>F.FP x d (k x d a) b
 own:=F.own
 apart:=F.apart
 ne:=F.ne
 Qh:=F.Qh
 all:=F.all
 Qi:=F.Qi
structure FS(w:Yz)(g R:YH)(ρ:X_)(σ:St)(env:Env)(md:Md)(h:YI):Prop where
 G:GS w g R ρ σ h
 F:Fm w g R ρ env md
section
variable(w:Yz)(A:YA)(env:Env)(md:Md)(σ:St)
def PE(t:Yq)(d:D):Prop:=
 ∀(g R:YH) (e:X_) (s:Yy) (E:X0) (Q:X0),FS w g R e σ env md s.heap->
  (∀v b c a,Gr s g e b c a->FS w c R a σ env md b.heap->Rd w c a v d->Q v b)->wpAny (model pw w) A t Q E s
def PB(t:Sem Bool)(b:Bool):Prop:=
 ∀(g R:YH) (d:X_) (s:Yy) (E:X0) (Q:Bool->Yy->Prop),FS w g R d σ env md s.heap->
  (∀c e a,Gr s g d c e a->FS w e R a σ env md c.heap->Q b c)->wpAny (model pw w) A t Q E s
def GB(t:Sem Bool)(P:Bool->St->Prop):Prop:=
 ∀(g R:YH) (e:X_) (s:Yy) (E:X0) (Q:Bool->Yy->Prop),FS w g R e σ env md s.heap->
  (∀b d f a c,Gr s g e d f a->FS w f R a c env md d.heap->P b c->Q b d)->wpAny (model pw w) A t Q E s
def GE(t:Yq)(P:X5):Prop:=
 ∀(g R:YH) (f:X_) (s:Yy) (E:X0) (Q:X0),FS w g R f σ env md s.heap->
  (∀v c e a d b,Gr s g f c e a->FS w e R a b env md c.heap->Rd w e a v d->P d b->Q v c)->wpAny (model pw w) A t Q E s
def Aj(i:List (Bool×Sem Yx))(P:Yb->St->Prop):Prop:=
 ∀(g R:YH) (e:X_) (s:Yy) (E:X0) (Q:Yc->Yy->Prop),FS w g R e σ env md s.heap->
  (∀f c d a h b,Gr s g e c d a->FS w d R a b env md c.heap->wR w d a f h->P h b->Q f c)->wpAny (model pw w) A (spliced i) Q E s
def Ab(b:List (Bool×Sem Yx))(c:Yb):Prop:=Aj w A env md σ b λd a=>d=c/\a=σ
def x8(b:Env)(a:YB):Prop:=a=b.locals\/∃x,b.kindOf x=some .cell/\b.cells.lookup x=some a
def SE(t:Sem Flow)(N:Md->St->Prop)(P:X5):Prop:=
 ∀(g R:YH) (j:X_) (s:Yy) (E:X0) (Q:Flow->Yy->Prop),FS w g R j σ env md s.heap->
  (∀(e:Yy) (f h:YH) (b:X_) (i:Md) (c:St),Gr s g j e f b->FS w f h b c env i e.heap->(∀a,¬x8 env a->h a=R a)->N i c->Q .next e)->
  (∀(v:Yx) (e:Yy) (f h:YH) (b:X_) (d:D) (c:St),Gr s g j e f b->GS w f h b c e.heap->(∀a,¬x8 env a->h a=R a)->Rd w f b v d->P d c->Q (.ret v) e)->
  wpAny (model pw w) A t Q E s
end
section
variable(w:Yz)(A:YA)(σ:St)
def y9(t:Yx->Yx->Yq)(i j d:D):Prop:=
 ∀(g R:YH) (b:X_) (s:Yy) (f h:Yx) (E:X0) (Q:X0),GS w g R b σ s.heap->Rd w g b f i->Rd w g b h j->
  (∀v c e a,Gr s g b c e a->GS w e R a σ c.heap->Rd w e a v d->Q v c)->wpAny (model pw w) A (t f h) Q E s
def OG(t:Yc->Yq)(i:Yb)(P:X5):Prop:=
 ∀(g R:YH) (c:X_) (s:Yy) (h:Yc) (E:X0) (Q:X0),GS w g R c σ s.heap->wR w g c h i->
  (∀v e f a d b,Gr s g c e f a->GS w f R a b e.heap->Rd w f a v d->P d b->Q v e)->wpAny (model pw w) A (t h) Q E s
def OP(t:Yc->Yq)(b:Yb)(d:D):Prop:=OG w A σ t b λc a=>c=d/\a=σ
end
def OC(w:Yz)(A:YA)(k:St)(f:Yx)(l:Yb)(P:X5):Prop:=
 ∀(g R:YH) (c:X_) (s:Yy) (i:Yc) (j:Result->Yy->Prop),GS w g R c k s.heap->wR w g c i l->
  (∀v e h a d b,Gr s g c e h a->GS w h R a b e.heap->Rd w h a v d->P d b->j (.ok (.ret v)) e)->codeAny (model pw w) A (.call f ⟨i,[]⟩) j s
def CF(w:Yz)(n:Nat)(f:Yx)(a:Yb)(b:St)(P:X5):Prop:=∀A,we n A->OC w A b f a P
def PF(w:Yz)(n:Nat)(f:Yx)(a:Yb)(c:St)(d:D):Prop:=CF w n f a c λe b=>e=d/\b=c
theorem OG.mono(h:OG w A c t e P)(k:∀d a,P d a->f d a):OG w A c t e f:=λg R i s j E Q l m q=>h g R i s j E Q l m λv n o b d a x G r y=>q v n o b d a x G r (k _ _ y)
theorem PE.ge(h:PE w A b f a t d):GE w A b f a t (λi c=>i=d/\c=a):=λg R j s E Q F k=>h g R j s E Q F λv l m e x G r=>k v l m e d a x G r ⟨rfl,rfl⟩
theorem GE.pe(h:GE w A b i e t (λf a=>f=d/\a=e)):PE w A b i e t d:=λg R j s E Q F k=>h g R j s E Q F λv l m c f a x G r q=>by obtain⟨rfl,rfl⟩:=q;exact k v l m c x G r
theorem PB.gb(h:PB w A c f a t b):GB w A c f a t (λi d=>i=b/\d=a):=λg R j s E Q F k=>h g R j s E Q F λl m e x G=>k b l m e a x G ⟨rfl,rfl⟩
theorem GE.mono(h:GE w A b e f t P)(k:∀d a,P d a->i d a):GE w A b e f t i:=λg R j s E Q F q=>h g R j s E Q F λv l m c d a x G r y=>q v l m c d a x G r (k _ _ y)
theorem Aj.mono(h:Aj w A b e f t P)(k:∀d a,P d a->i d a):Aj w A b e f t i:=λg R j s E Q F q=>h g R j s E Q F λv l m c d a x G r y=>q v l m c d a x G r (k _ _ y)
theorem GB.mono(h:GB w A c f i t P)(k:∀d a,P d a->j d a):GB w A c f i t j:=λg R l s E Q F q=>h g R l s E Q F λb m n e a x G y=>q b m n e a x G (k _ _ y)
theorem PE.g(h:PE w A a c b t d)(e:P d b):GE w A a c b t P:=h.ge.mono λi f q=>by rw[q.1,q.2];exact e
theorem CF.mono(h:CF w n f b e P)(k:∀d a,P d a->i d a):CF w n f b e i:=λA j g R l s m o p t q=>h A j g R l s m o p t λv u z c d a x G r y=>q v u z c d a x G r (k _ _ y)
theorem CF.og(h:CF w n f a c P)(d:we n A):OG w A c (λb=>call f b) a P:=λg R e s b E Q i j q=>uQ (h A d g R e s b _ i j q)
theorem CF.room(h:CF w n f a b P)(k:n<=m):CF w m f a b P:=λA c=>h A (c.mono k)
theorem PF.room(h:PF w n f a b d)(k:n<=m):PF w m f a b d:=CF.room h k
theorem OP.of(h:∀(g R:YH) (b:X_) (s:Yy) (f:Yc) (E:X0) (Q:X0),GS w g R b i s.heap->wR w g b f j->(∀v c e a,Gr s g b c e a->GS w e R a i c.heap->Rd w e a v d->Q v c)->wpAny (model pw w) A (t f) Q E s):OP w A i t j d:=λg R b s f E Q l m k=>h g R b s f E Q l m λv c e a x G r=>k v c e a d i x G r ⟨rfl,rfl⟩
def kO:=@OP.of
theorem FS.up(F:FS w g R f j b i h)(x:Gr s g f d e a)(G:GS w e R a c d.heap):FS w e R a c b i d.heap:=⟨G,F.F.mono x.le x.pre⟩
def PV(w:Yz)(A:YA)(a:Env)(d:Md)(e:St)(t:Yq)(f:Yx):Prop:=
 ∀(g R:YH) (b:X_) (s:Yy) (E:X0) (Q:X0),FS w g R b e a d s.heap->
  (∀c,Gr s g b c g b->FS w g R b e a d c.heap->Q f c)->wpAny (model pw w) A t Q E s
def XF:NameKind->Bool
 | .local| .cell| .free=>true
 |_=>false
def look(a:List (Str×NameKind))(b:Md)(x:Str):Option D:=
 match x==("__debug__":Str)with
 |true=>none
 |false=>match a.lookup x with
  |some k=>(match XF k with|true=>b.lookup x|false=>none)
  |none=>none
theorem Mc(h:look a b x=some d):(x==("__debug__":Str))=false/\∃k,a.lookup x=some k/\XF k=true/\b.lookup x=some d:=by
 unfold look at h;split at h
 .cases h
 .rename_i hd
  refine⟨hd,?_⟩;split at h
  .rename_i k c
   split at h
   .rename_i e;exact⟨k,c,e,h⟩
   .cases h
  .cases h
theorem Fm.ns(F:FS w g R b p a c h):∃m,h.Ns a.locals m/\∀x d,c.lookup x=some d->a.kindOf x=some .local->∃v,m x=some v/\Rd w g b v d:=
 let⟨o,e,f,m,i,j,k,l,n⟩:=F.F.loc
 ⟨m,⟨o,e,f,F.G.rest _ _ i,j,k,l⟩,n⟩
theorem PE.name(t:b.scope=S)(h:look S.names u x=some d):PE w A b u L (eval (.Name x I) b) d:=by
 intro g R f s E Q F k;let⟨hd,q,y,z,j⟩:=Mc h;have a:b.kindOf x=some q:=by unfold Env.kindOf;rw[t];exact y
 refine uR ?_ hd;cases q with
 |«local»=>
  let⟨m,C,G⟩:=Fm.ns F;let⟨v,H,r⟩:=G x d j a;exact ur F.F.fn a C H (k v s g f (eU s g f) F r)
 |cell=>
  let⟨c,o,v,l,n,p,r⟩:=F.F.FP x d j (.inl a);exact wpAny_loadName_cell F.F.fn a l ⟨o,F.G.rest _ _ n,p⟩ (k v s g f (eU s g f) F r)
 |free=>
  let⟨c,o,v,l,n,p,r⟩:=F.F.FP x d j (.inr a);by_cases i:(x==("__classdict__":Str))=true
  .exfalso
   have e:x="__classdict__":=gD.mp i;rw[e,F.F.Qh]at a;cases a
  .exact ux F.F.fn a l ⟨o,F.G.rest _ _ n,p⟩ (k v s g f (eU s g f) F r) (by simpa using i)
 |_=>cases z
def O:=@PE.name
theorem PV.global(c:a.scope=S)(d:S.names.lookup x=some .globalImplicit)(e:nsIn (KF w) mainGlobals x=some (some v))(hd:(x==("__debug__":Str))=false:=by decide):PV w A a md σ (eval (.Name x pos) a) v:=by
 intro g R f s E Q F k;have b:a.kindOf x=some .globalImplicit:=by unfold Env.kindOf;rw[c];exact d
 refine uR ?_ hd;rw[qZ F.F.fn b];unfold loadGlobal;rw[F.F.gl];refine Z ((uS F.G.ok.k e).here ?_);exact U (k s (eU s g f) F)
def dJ:=@PV.global
theorem PV.builtin(d:a.scope=S)(e:S.names.lookup x=some .globalImplicit)(f:nsIn (KF w) mainGlobals x=some none)(h:bootBuiltins x=some v)(i:x≠"__name__":=by decide)(hd:(x==("__debug__":Str))=false:=by decide):PV w A a n o (eval (.Name x m) a) v:=by
 intro g R j s E Q F k;have b:a.kindOf x=some .globalImplicit:=by unfold Env.kindOf;rw[d];exact e
 let⟨p,l,c⟩:=F.G.ok.b;refine uR ?_ hd;rw[qZ F.F.fn b];unfold loadGlobal;rw[F.F.gl,F.F.bi];refine Z ((uS F.G.ok.k f).here (Z (wpAny_nsGet l ?_)));rw[c x i,h];exact U (k s (eU s g j) F)
def fU:=@PV.builtin
theorem PE.int:PE w A a d e (eval (.Constant (.int i) n c) a) (.int i):=by
 intro g R b s E Q F k;exact wpAny_mkInt (k _ _ g b cA F (.int _ _))
def bC:=@PE.int
theorem PE.str:PE w A a c d (eval (.Constant (.str x) n pos) a) (.str x):=by
 intro g R b s E Q F k;exact wpAny_mkText (k _ _ g b cA F (.str _ _))
def cS:=@PE.str
theorem PE.bool:PE w A a e f (eval (.Constant (.bool b) n d) a) (.bool b):=by
 intro g R c s E Q F k;exact U (k _ _ g c (eU s g c) F (.bool _))
def kQ:=@PE.bool
theorem PE.WG:PE w A a d e (eval (.Constant .none n c) a) .none:=by
 intro g R b s E Q F k;exact U (k _ _ g b (eU s g b) F .none)
def tQ:=@PE.WG
theorem Aj.nil(h:P [] a):Aj w A c d a [] P:=λg R b s E Q F k=>tX (k [] s g b [] a (eU s g b) F .nil h)
theorem Aj.cons(h:GE w A b j m t P1)(r:∀d a,P1 d a->Aj w A b j a n λds c=>P (d::ds) c):Aj w A b j m ((false,t)::n) P:=
 λg R o s E Q F k=>spliced_cons (h g R o s E _ F λv q u e d a x y z p=>r d a p u R e q E _ y λvs C G f ds i l H I L=>
  k (v::vs) C G f (d::ds) i (x.trans l) H (.cons (z.up l) I) L)
theorem Ab.nil:Ab w A a b c [] []:=Aj.nil ⟨rfl,rfl⟩
theorem Ab.cons(h:PE w A a b c t d)(r:Ab w A a b c f ds):Ab w A a b c ((false,t)::f) (d::ds):=Aj.cons h.ge λj g q=>by obtain⟨rfl,rfl⟩:=q;exact r.mono λi e q=>by rw[q.1,q.2];exact⟨rfl,rfl⟩
theorem Ih(h:starEach (e::b) a=(false,eval e a)::starEach b a):backTo c (starEach (e::b) a)=(false,eval e a)::backTo c (starEach b a):=by rw[h];rfl
def tY:=@Ih
theorem Ab.args_cons(i:starEach (e::b) a=(false,eval e a)::starEach b a)(h:PE w A a f g (eval e a) d)(r:Ab w A a f g (backTo c (starEach b a)) j):Ab w A a f g (backTo c (starEach (e::b) a)) (d::j):=by
 rw[tY i];exact Ab.cons h r
def bI:=@Ab.args_cons
theorem Ab.args_nil:Ab w A a c d (backTo b (starEach [] a)) []:=Ab.nil
def bG:=@Ab.args_nil
theorem Aj.args_cons(j:starEach (e::c) a=(false,eval e a)::starEach c a)(h:GE w A a i k (eval e a) P1)(r:∀d b,P1 d b->Aj w A a i b (backTo f (starEach c a)) λl g=>P (d::l) g):Aj w A a i k (backTo f (starEach (e::c) a)) P:=by
 rw[tY j];exact Aj.cons h r
def b_:=@Aj.args_cons
theorem Aj.args_nil(h:P [] b):Aj w A a d b (backTo c (starEach [] a)) P:=Aj.nil h
def gu:=@Aj.args_nil
theorem Ab.gs(h:Ab w A a c b d e)(f:P e b):Aj w A a c b d P:=Aj.mono h λi g q=>by rw[q.1,q.2];exact f
def eZ:=@Ab.gs
theorem GE.binop(u:GE w A c n x (eval l c) P1)(y:∀d1 e,P1 d1 e->GE w A c n e (eval r c) λd2 f=>∃d,y9 w A f (binaryOp o) d1 d2 d/\P d f):GE w A c n x (eval (.BinOp l o r h) c) P:=by
 intro g R z s E Q F k;show wpAny _ _ (do let a <-eval l c;let b <-holding [a] (eval r c);standAt h;operate [a,b] (binaryOp o a b)) Q E s;refine Z (u g R z s E _ F λC G H i d1 e I L M N=>?_);refine Z (aC (y d1 e N H R i G E _ L λS T V j d2 f p q W ⟨d,X,Y⟩=>?_));refine Z (aX (kD (X V R j T C S E _ q.G (M.up p) W λv s3 g3 m t G3 r3=>?_)));exact k v s3 g3 m d f ((I.trans p).trans t) (q.up t G3) r3 Y
theorem PE.binop(e:PE w A a c b (eval l a) d1)(f:PE w A a c b (eval r a) d2)(h:y9 w A b (binaryOp i) d1 d2 d):PE w A a c b (eval (.BinOp l i r j) a) d:=(GE.binop e.ge λk m q=>by obtain⟨rfl,rfl⟩:=q;exact f.g ⟨d,h,rfl,rfl⟩).pe
def cI:=@PE.binop
theorem GE.compare(z:GE w A a o C (eval l a) P1)(G:∀e b,P1 e b->GE w A a o b (eval r a) λp c=>∃d,y9 w A c (compareOp f) e p d/\P d c)(H:behindInMarks f r=false:=by rfl):GE w A a o C (eval (.Compare l [f] [r] i) a) P:=by
 intro g R I s E Q F k;rw[arm_eval_Compare];refine Z (z g R I s E _ F λh q L j e b M N S T=>?_);rw[nH [f] [r] _ H];show wpAny _ _ (do let t <-holding [h] (eval r a);standAt i;operate [h,t] (compareOp f h t)) Q E q;refine Z (aC (G e b T L R j q E _ N λV W X m p c u x Y ⟨d,ho,hp⟩=>?_));refine Z (aX (kD (ho X R m W h V E _ x.G (S.up u) Y λv s3 g3 n y G3 r3=>?_)));exact k v s3 g3 n d c ((M.trans u).trans y) (x.up y G3) r3 hp
def qD:=@GE.compare
theorem PE.compare(f:PE w A a c b (eval l a) h)(i:PE w A a c b (eval r a) j)(k:y9 w A b (compareOp e) h j d)(m:behindInMarks e r=false:=by rfl):PE w A a c b (eval (.Compare l [e] [r] n) a) d:=(qD f.ge (λo p q=>by obtain⟨rfl,rfl⟩:=q;exact i.g ⟨d,k,rfl,rfl⟩) m).pe
def iX:=@PE.compare
theorem Rd.yT(h:Rd w g a v (.bool b)):v= .bool b:=by cases h;rfl
theorem Rd.vX(h:Rd w g a v (.int i)):∃t,v= .int i t:=by cases h;exact⟨_,rfl⟩
theorem Rd.wF(h:Rd w g a v (.str i)):∃t,v= .str i t:=by cases h;exact⟨_,rfl⟩
theorem Rd.z_(h:Rd w g a v .none):v= .none:=by cases h;rfl
theorem PB.compare(y:PE w A a o h (eval l a) z)(C:PE w A a o h (eval r a) G)(H:y9 w A h (compareOp d) z G (.bool b))(I:behindInMarks d r=false:=by rfl):PB w A a o h (isTrue (.Compare l [d] [r] e) a n) b:=by
 intro g R L s E Q F k;show wpAny _ _ (eval l a>>=λv=>testChain e v [d] (markedEach [d] [r] (evalEach [r] a))) Q E s;refine Z (y g R L s E _ F λf p M i N P S=>?_);rw[nH [d] [r] _ I];show wpAny _ _ (do let q <-holding [f] (eval r a);standAt e;let c <-operate [f,q] (compareOp d f q);holding [c] (truthy c)) Q E p;refine Z (aC (C M R i p E _ P λT V W j t u X=>?_));refine Z (aX (Z (kD (H W R j V f T E _ u.G (S.up t) X λv Y g3 m x G3 r3=>?_))));rw[r3.yT];exact aC (eO (k Y g3 m ((N.trans t).trans x) (u.up x G3)))
def bf:=@PB.compare
theorem PB.not(h:PB w A a e f (isTrue x a (eval x a)) b):PB w A a e f (isTrue (.UnaryOp .Not x o) a d) (!b):=by
 intro g R i s E Q F k;show wpAny _ _ (do return !(<-isTrue x a (eval x a))) Q E s;exact Z (h g R i s E _ F λj l c m n=>U (k j l c m n))
theorem PB.plain(h:PE w A a f i (eval e a) (.bool b))(j:∀c,isTrue e a c=(do let v <-c;standAt e.pos;holding [v] (truthy v)):=by intro _;rfl):
 PB w A a f i (isTrue e a (eval e a)) b:=by
 intro g R l s E Q F k;rw[j];refine Z (h g R l s E _ F λv m n d o p q=>?_);rw[q.yT];exact Z (aX (aC (eO (k m n d o p))))
def mV:=@PB.plain
theorem PB.Vh(h:PB w A a d e (allTrue f g a) b):PB w A a d e (isTrue (.BoolOp f g i) a c) b:=h
def rL:=@PB.Vh
theorem PB.and_nil:PB w A a c d (allTrue .And [] a) true:=λg R b s E Q F k=>U (k s g b (eU s g b) F)
theorem PB.or_nil:PB w A a c d (allTrue .Or [] a) false:=λg R b s E Q F k=>U (k s g b (eU s g b) F)
theorem PB.and_cons(h:PB w A a i j (isTrue e a (eval e a)) b)(r:b=true->PB w A a i j (allTrue .And l a) c):PB w A a i j (allTrue .And (e::l) a) (b&&c):=by
 intro g R q s E Q F k;show wpAny _ _ (isTrue e a (eval e a)>>=λx=>match BoolOp.And,x with| .And,false=>pure false| .Or,true=>pure true|_,_=>allTrue .And l a) Q E s;refine Z (h g R q s E _ F λm n d o p=>?_);cases b with
 |false=>exact U (k m n d o p)
 |true=>exact r rfl n R d m E _ p λt u f v y=>k t u f (o.trans v) y
theorem PB.or_cons(h:PB w A a i j (isTrue e a (eval e a)) b)(r:b=false->PB w A a i j (allTrue .Or l a) c):PB w A a i j (allTrue .Or (e::l) a) (b||c):=by
 intro g R q s E Q F k;show wpAny _ _ (isTrue e a (eval e a)>>=λx=>match BoolOp.Or,x with| .And,false=>pure false| .Or,true=>pure true|_,_=>allTrue .Or l a) Q E s;refine Z (h g R q s E _ F λm n d o p=>?_);cases b with
 |true=>exact U (k m n d o p)
 |false=>exact r rfl n R d m E _ p λt u f v y=>k t u f (o.trans v) y
def lY:=@PB.or_cons
theorem PE.Nf(z:PB w A a h i (isTrue t a (eval t a)) c)(C:c=true->PE w A a h i (eval b a) d)(G:c=false->PE w A a h i (eval o a) d):PE w A a h i (eval (.IfExp t b o I) a) d:=by
 intro g R H s E Q F k;show wpAny _ _ (isTrue t a (eval t a)>>=λx=>if x=true then eval b a else eval o a) Q E s;refine Z (z g R H s E _ F λq r f u y=>?_);cases c with
 |true=>exact C rfl r R f q E _ y λv j l e m n p=>k v j l e (u.trans m) n p
 |false=>exact G rfl r R f q E _ y λv j l e m n p=>k v j l e (u.trans m) n p
theorem PE.Xz(h:PE w A a i j (eval x a) (.bool b))(r:b=true->PE w A a i j (eval y a) d)(hd:b=false->d= .bool false):PE w A a i j (eval (.BoolOp .And [x,y] e) a) d:=by
 intro g R p s E Q F k;show wpAny _ _ (do let v <-eval x a;standAt e;let t <-holding [v] (truthy v);match BoolOp.And,t with| .And,false| .Or,true=>pure v|_,_=>eval y a) Q E s;refine Z (h g R p s E _ F λv l m c n o q=>?_);obtain rfl:=q.yT;refine Z (aX (Z (aC (eO ?_))));cases b with
 |false=>rw[hd rfl]at k;exact U (k _ l m c n o (.bool _))
 |true=>exact r rfl m R c l E _ o λu z C f G H I=>k u z C f (n.trans G) H I
def sy:=@PE.Xz
inductive xA(σ:St):D->Yb->Prop
 |f {ds:Yb}:xA σ (.vK ds) ds
 |m {n:Nat} {ds:Yb}:σ.μ n=some (.vK ds)->xA σ (.ref n) ds
inductive yg(σ:St):D->List (D×D)->Prop
 |f {ds:Yh}:yg σ (.wc ds) ds
 |m {n:Nat} {ds:Yh}:σ.μ n=some (.wc ds)->yg σ (.ref n) ds
section
variable{h:YI}
theorem GS.name(G:GS w g R b e h)(f:e.μ n=some c)(r:Rd w g b v (.ref n)):∃a o,v= .ref a/\b[n]? =some a/\h.get? a=some o/\yj w g b o c:=by
 cases r with
 |ref q=>
  let⟨a,o,d,i,j,_⟩:=G.cell n c f;rw[q]at d;cases d;exact⟨_,o,rfl,q,i,j⟩
theorem GS.vK(G:GS w g R c i h)(r:Rd w g c v d)(l:xA i d j):∃a b n,v= .ref a/\h.get? a=some (v9 "list" b.toArray n)/\wR w g c b j:=by
 cases l with
 |f=>
  cases r with
  |vK q r=>let⟨n,e⟩:=q;exact⟨_,_,n,rfl,G.sub _ _ e,r⟩
 |m e=>
  obtain⟨a,o,rfl,_,k,p⟩:=G.name e r;cases p with
  |vK q=>exact⟨a,_,_,rfl,k,q⟩
theorem GS.wc(G:GS w g R c k h)(r:Rd w g c v d)(l:yg k d i):∃a j n,v= .ref a/\h.get? a=some (wj j.toArray n)/\yd w g c j i/\wh i/\(a==sysModules)=false:=by
 cases l with
 |f=>
  cases r with
  |wc q r f=>let⟨l,n,e⟩:=q;exact⟨_,_,n,rfl,G.sub _ _ e,r,f,l⟩
 |m e=>
  obtain⟨a,o,rfl,b,p,s⟩:=G.name e r;cases s with
  |wc q f=>exact⟨a,_,_,rfl,p,q,f,G.low a (aH b)⟩
theorem GS.vV(G:GS w g R c f h)(r:Rd w g c v (.vV d)):∃a b n,v= .ref a/\h.get? a=some (v9 "tuple" b.toArray n)/\wR w g c b d:=by
 cases r with
 |vV q r=>let⟨n,e⟩:=q;exact⟨_,_,n,rfl,G.sub _ _ e,r⟩
theorem ge1:a<+:a:=aE _
theorem Ur:y9 w A f (binaryOp .Add) (.int a) (.int b) (.int (a+b)):=by
 intro g R c s i j E Q G d e k;obtain⟨l,rfl⟩:=d.vX;obtain⟨m,rfl⟩:=e.vX;exact add_int (k _ _ g c cA G (.int _ _))
def lQ:=@Ur
theorem Un:y9 w A σ (binaryOp .Sub) (.int a) (.int b) (.int (a-b)):=by
 intro g R c s f i E Q G d e k;obtain⟨j,rfl⟩:=d.vX;obtain⟨l,rfl⟩:=e.vX;exact sub_int (k _ _ g c cA G (.int _ _))
def r7:=@Un
theorem Iv(c:-(2^64)<a/\a<2^64):y9 w A i (binaryOp .Mult) (.int a) (.int b) (.int (a*b)):=by
 intro g R d s j l E Q G e f k;obtain⟨m,rfl⟩:=e.vX;obtain⟨n,rfl⟩:=f.vX;exact mul_int (k _ _ g d cA G (.int _ _)) (IntMulOk.of_left (intBits_le_64 c.1 c.2))
theorem Iw(c:b≠0):y9 w A i (binaryOp .Mod) (.int a) (.int b) (.int (a.fmod b)):=by
 intro g R d s j l E Q G e f k;obtain⟨m,rfl⟩:=e.vX;obtain⟨n,rfl⟩:=f.vX;exact mod_int c (k _ _ g d cA G (.int _ _))
theorem Rv(c:A.handled=none)(d:b≠0)(l:a.natAbs<2^29/\b.natAbs<2^29):y9 w A m (binaryOp .FloorDiv) (.int a) (.int b) (.int (a.fdiv b)):=by
 intro g R f s n o E Q G i j k;obtain⟨p,rfl⟩:=i.vX;obtain⟨q,rfl⟩:=j.vX;exact floordiv_int_or c (λe=>absurd e d) (λ_=>k _ _ g f cA G (.int _ _)) (λ_=>Or.inl (PyProof.noPylong_small (by omega)))
theorem JU:y9 w A σ (compareOp .Lt) (.int a) (.int b) (.bool (decide (a<b))):=by
 intro g R c s f i E Q G d e k;obtain⟨j,rfl⟩:=d.vX;obtain⟨l,rfl⟩:=e.vX;exact lt_int (k _ _ g c cA G (.bool _))
theorem V1:y9 w A f (compareOp .Gt) (.int a) (.int b) (.bool (decide (b<a))):=by
 intro g R c s i j E Q G d e k;obtain⟨l,rfl⟩:=d.vX;obtain⟨m,rfl⟩:=e.vX;exact gt_int (k _ _ g c cA G (.bool _))
def rA:=@V1
theorem V0:y9 w A f (compareOp .LtE) (.int a) (.int b) (.bool (decide (a<=b))):=by
 intro g R c s i j E Q G d e k;obtain⟨l,rfl⟩:=d.vX;obtain⟨m,rfl⟩:=e.vX;exact le_int (k _ _ g c cA G (.bool _))
theorem V3:y9 w A f (compareOp .GtE) (.int a) (.int b) (.bool (decide (b<=a))):=by
 intro g R c s i j E Q G d e k;obtain⟨l,rfl⟩:=d.vX;obtain⟨m,rfl⟩:=e.vX;exact ge_int (k _ _ g c cA G (.bool _))
theorem op_eq:y9 w A f (compareOp .Eq) (.int a) (.int b) (.bool (decide (a=b))):=by
 intro g R c s i j E Q G d e k;obtain⟨l,rfl⟩:=d.vX;obtain⟨m,rfl⟩:=e.vX;exact eq_int (k _ _ g c cA G (by rw[show(a==b)=decide (a=b)from rfl];exact .bool _))
def k8:=@op_eq
theorem F0:y9 w A f (compareOp .NotEq) (.int a) (.int b) (.bool (decide (a≠b))):=by
 intro g R c s i j E Q G d e k;obtain⟨l,rfl⟩:=d.vX;obtain⟨m,rfl⟩:=e.vX;exact ne_int (k _ _ g c cA G (by rw[show(a !=b)=decide (a≠b) by by_cases q:a=b<;>simp[q]];exact .bool _))
theorem Up:y9 w A σ (compareOp .Eq) (.str x) (.str y) (.bool (x==y)):=by
 intro g R a s d e E Q G b c k;obtain⟨f,rfl⟩:=b.wF;obtain⟨i,rfl⟩:=c.wF;exact eq_str (k _ _ g a cA G (.bool _))
def oY:=@Up
theorem Uo:y9 w A σ (compareOp .NotEq) (.str x) (.str y) (.bool (x !=y)):=by
 intro g R a s d e E Q G b c k;obtain⟨f,rfl⟩:=b.wF;obtain⟨i,rfl⟩:=c.wF;exact ne_str (k _ _ g a cA G (.bool _))
theorem Ru(d:x.length+y.length<=1000):y9 w A e (binaryOp .Add) (.str x) (.str y) (.str (x++y)):=by
 intro g R a s f i E Q G b c k;obtain⟨j,rfl⟩:=b.wF;obtain⟨l,rfl⟩:=c.wF;exact add_str (λ_ _=>k _ _ g a cA G (.str _ _)) (by rw[bA];omega)
def isNone:D->Bool
 | .none=>true
 |_=>false
theorem Oo:y9 w A f (compareOp .IsNot) d .none (.bool (!isNone d)):=by
 intro g R a s i j E Q G b c k;obtain rfl:=c.z_;cases b with
 |none=>exact isnot_none_none (k _ _ g a cA G (.bool _))
 |_=>exact isnot_none_ne (by intro e;cases e) (k _ _ g a cA G (.bool _))
theorem Tg:y9 w A f (compareOp .Is) d .none (.bool (isNone d)):=by
 intro g R a s i j E Q G b c k;obtain rfl:=c.z_;cases b with
 |none=>exact is_none_none (k _ _ g a cA G (.bool _))
 |_=>exact is_none_ne (by intro e;cases e) (k _ _ g a cA G (.bool _))
theorem UO{s:Yy}(G:GS w g R d f s.heap)(r:wR w g d a i):∃c,GS w c R d f (s.heap.push (v9 T a.toArray 0))/\View.le g c/\DT c T s.heap.objs.size a/\wR w c d a i:=by
 have n:s.heap.get? s.heap.objs.size=none:=cu (ao _);let⟨j,l⟩:=G.VG (h':=s.heap.push (v9 T a.toArray 0)) (a:=s.heap.objs.size) (λb o e=>ak _ e) n (aD _ rfl);exact⟨_,j,l,⟨0,gM _ _ _⟩,r.mono l ge1⟩
def rZ:=@UO
theorem Kh{c d:Yb}(n:c≠[])(o:d≠[])(I:c.length+d.length<=1000000):y9 w A L (binaryOp .Add) (.vV c) (.vV d) (.vV (c++d)):=by
 intro g R p s M N E Q G t u k;obtain⟨a,f,S,rfl,e1,j⟩:=G.vV t;obtain⟨b,i,T,rfl,v,m⟩:=G.vV u;have x:=j.length;have y:=m.length;have z:f≠[]:=by rintro rfl;exact n (gT.mp x.symm)
 have C:i≠[]:=by rintro rfl;exact o (gT.mp y.symm)
 refine P.add_tuple e1 v (by simpa using z) (by simpa using C) ?_ (by rw[bA];simp;omega);let⟨F,H,l,q,r⟩:=rZ (T:="tuple") (s:=s) G (j.append m);have e:(f.toArray++i.toArray)=(f++i).toArray:=by simp
 rw[e];exact k _ _ F p (.at l ge1) H (.vV q r)
theorem BV{c d:Yb}(o:xA f p c)(t:xA f u d)(H:c.length+d.length<=1000000):y9 w A f (binaryOp .Add) p u (.vK (c++d)):=by
 intro g R v s I L E Q G x y k;obtain⟨a,i,M,rfl,e1,j⟩:=G.vK x o;obtain⟨b,m,N,rfl,z,n⟩:=G.vK y t;have S:=j.length;have T:=n.length;refine P.add_list e1 z ?_ (by rw[bA];simp;omega);let⟨C,F,l,q,r⟩:=rZ (T:="list") (s:=s) G (j.append n);have e:(i.toArray++m.toArray)=(i++m).toArray:=by simp
 rw[e];exact k _ _ C v (.at l ge1) F (.vK q r)
theorem Mk{b:Yc}(e:h.get? a=some (v9 "list" b.toArray n)):h.IsList a b.toArray:=⟨_,e,rfl,n,rfl⟩
def fB:=@Mk
theorem Pc{b:Yc}(e:h.get? a=some (v9 "tuple" b.toArray n)):IsTup h a b.toArray:=⟨_,e,rfl,n,rfl⟩
def tL:=@Pc
theorem KO{i:Int}(e:xA f d b)(j:0<=i)(c:b[i.toNat]? =some x)(u:b.length<=1000000):y9 w A f getItem d (.int i) x:=by
 intro g R l s y z E Q G m n k;obtain⟨a,C,F,rfl,e1,o⟩:=G.vK m e;obtain⟨t,rfl⟩:=n.vX;let⟨v,p,q⟩:=o.get c;have r:i.toNat<b.length:=(aP.mp c).1;exact wpAny_getItem_list (fB e1) j (by omega) (by simpa using p) (k _ _ g l cA G q)
theorem KN{x:D}(d:seqIndex? i b.length=some j)(e:b[j]? =some x)(f:-(2^63)<=i:=by decide)(l:i<2^63:=by decide):y9 w A r getItem (.vV b) (.int i) x:=by
 intro g R m s u y E Q G n o k;obtain⟨a,z,C,rfl,e1,c⟩:=G.vV n;obtain⟨t,rfl⟩:=o.vX;let⟨v,p,q⟩:=c.get e;exact getItem_tuple (tL e1) f l (by rw[aW,c.length];exact d) (by simpa using p) (k _ _ g m cA G q)
end
theorem Rd.typeIs{s:Yy}(G:GS w g R i c s.heap)(r:Rd w g i v d)(h:(∃b,xA c d b)\/(∃b,yg c d b)\/(∃b,d= .vV b)\/∃x,d= .str x):∃T id,s.TypeIs v T/\typeLookup (.type T) "__getitem__"=pure (some (.builtin id)):=by
 rcases h with⟨b,l⟩|⟨b,l⟩|⟨b,rfl⟩|⟨x,rfl⟩
 .obtain⟨a,e,f,rfl,e1,_⟩:=G.vK r l
  exact⟨"list",_,⟨_,e1,rfl⟩,slot_list_getitem.lookup⟩
 .obtain⟨a,e,f,rfl,e1,_⟩:=G.wc r l
  exact⟨"dict",_,⟨_,e1,rfl⟩,oH.lookup⟩
 .obtain⟨a,e,f,rfl,e1,_⟩:=G.vV r
  exact⟨"tuple",_,⟨_,e1,rfl⟩,slot_tuple_getitem.lookup⟩
 .obtain⟨t,rfl⟩:=r.wF
  exact⟨"str",_,kB _ _ _,slot_str_getitem.lookup⟩
theorem GE.sub{P1 P:X5}(z:GE w A b r C (eval h b) P1)(G:∀f e,P1 f e->GE w A b r e (eval c b) λt a=>∃d,y9 w A a getItem f t d/\P d a/\((∃j,xA a f j)\/(∃j,yg a f j)\/(∃j,f= .vV j)\/∃x,f= .str x))(H:∀o i,subscripted c false o i=operate [o,i] (getItem o i):=by intro _ _;rfl):GE w A b r C (eval (.Subscript h c a0) b) P:=by
 intro g R I s E Q F k;refine Subscript_ (z g R I s E _ F λL M N n f e S V W X=>G f e X N R n M E _ V λY s2 g2 p t a u m r2 ⟨d,ho,hp,ht⟩=>?_);have l:=W.up u;let⟨T,id,hT,hl⟩:=Rd.typeIs m.G l ht;exact tail_any hT hl (ho g2 R p s2 L Y E _ m.G l r2 λv s3 g3 q y G3 r3=>k v s3 g3 q d a ((S.trans u).trans y) (m.up y G3) r3 hp) (H _ _)
theorem PE.sub{e q d:D}(y:PE w A a r f (eval c a) e)(z:PE w A a r f (eval b a) q)(C:y9 w A f getItem e q d)(G:(∃h,xA f e h)\/(∃h,yg f e h)\/(∃h,e= .vV h)\/∃x,e= .str x)(H:∀o i,subscripted b false o i=operate [o,i] (getItem o i):=by intro _ _;rfl):PE w A a r f (eval (.Subscript c b a0) a) d:=by
 intro g R I s E Q F k;refine Subscript_ (y g R I s E _ F λL M N m P S V=>z N R m M E _ S λW X Y n t l r2=>?_);have j:=V.up t;let⟨T,id,hT,hl⟩:=Rd.typeIs l.G j G;exact tail_any hT hl (C Y R n X L W E _ l.G j r2 λv s3 g3 p u G3 r3=>k v s3 g3 p ((P.trans t).trans u) (l.up u G3) r3) (H _ _)
def nP:=@PE.sub
theorem PE.BS(j:PE w A a f d (eval c a) k)(l:PE w A a f d (eval b a) (.int i))(h:xA d k e)(m:0<=i)(n:e[i.toNat]? =some x)(p:e.length<=1000000)(q:∀o i,subscripted b false o i=operate [o,i] (getItem o i):=by intro _ _;rfl):PE w A a f d (eval (.Subscript c b r) a) x:=nP j l (KO h m n p) (.inl ⟨e,h⟩) q
def eG:=@PE.BS
theorem PE.QV(f:PE w A a d e (eval c a) (.vV xs))(h:PE w A a d e (eval b a) (.int i))(k:seqIndex? i xs.length=some j)(l:xs[j]? =some x)(m:-(2^63)<=i:=by decide)(n:i<2^63:=by decide)(p:∀o i,subscripted b false o i=operate [o,i] (getItem o i):=by intro _ _;rfl):PE w A a d e (eval (.Subscript c b q) a) x:=
 nP f h (KN k l m n) (.inr (.inr (.inl ⟨xs,rfl⟩))) p
def c7:=@PE.QV
theorem Dz.get:∀{b:Yk} {l:Yr},Dz w g f b l->∀{d:D},l.lookup x=some d->∃v,getL x b=some (some v)/\Rd w g f v d
 |_,_,.nil,d,h=>by cases h
 |_,_,.cons (x:=y) (t:=t) (v:=v) (d:=m) (es:=b) (l:=l) r q,d,h=>by
  rw[pA]at h;have e1:(Value.str y t).isStr x=(y==x):=rfl;by_cases c:x=y
  .subst c
   simp only[beq_self_eq_true]at h;cases h;refine⟨v,?_,r⟩;unfold getL;rw[List.find?_cons_of_pos (by simp[e1])]
  .have:(x==y)=false:=by simpa using c
   rw[this]at h;let⟨i,a,j⟩:=q.get h;refine⟨i,?_,j⟩;have k:¬((Value.str y t).isStr x=true):=by rw[e1];simpa usingλe=>c e.symm
   unfold getL at a⊢;rw[mq (by simpa using k)];split at a
   .exact a
   .split at a<;>cases a
theorem Dz.miss:∀{b:Yk} {l:Yr},Dz w g i b l->l.lookup x=none->getL x b=some none
 |_,_,.nil,h=>rfl
 |_,_,.cons (x:=y) (t:=t) (v:=v) (d:=j) (es:=b) (l:=l) r q,h=>by
  rw[pA]at h;have e1:(Value.str y t).isStr x=(y==x):=rfl;by_cases c:x=y
  .subst c;simp at h
  .have:(x==y)=false:=by simpa using c
   rw[this]at h;have a:=q.miss h;have d:¬((Value.str y t).isStr x=true):=by rw[e1];simpa usingλe=>c e.symm
   unfold getL at a⊢;rw[mq (by simpa using d)];split at a
   .cases a
   .split at a
    .cases a
    .rename_i f
     rw[J];simpa[DictEntry.refKey]using f
structure wO(w:Yz)(C:YB)(x:Str):Prop where
 pg:plainGet (KF w) C x=true:=by kernel_rfl
 hd:hasDictIn (KF w) C=true:=by kernel_rfl
 fi:findIn (KF w) (.ref C) x=some none:=by kernel_rfl
theorem Rd.handed(r:Rd w g a v d):handedIn v=true:=by cases r<;>rfl
theorem GS.inst(G:GS w g R b d h)(r:Rd w g b v (.ref n))(j:d.μ n=some (.inst C m))(l:d.μ m=some (.ns e)):∃x a c k,v= .ref x/\b[m]? =some a/\InstAt h x (Nc C a) C (some (dictOf c k))/\h.get? a=some (wj c.toArray k)/\Dz w g b c e/\(e.map (·.1)).Nodup:=by
 obtain⟨x,o,rfl,_,p,s⟩:=G.name j r;cases s with
 |inst q=>
  let⟨a,y,f,i,t,_⟩:=G.cell m _ l;rw[q]at f;cases f;cases t with
  |ns r u=>exact⟨x,_,_,_,rfl,q,⟨p,rfl,rfl,i⟩,i,r,u⟩
theorem PE.attr{attr:Str}(h:PE w A b t f (eval a b) (.ref n))(u:f.μ n=some (.inst C m))(y:f.μ m=some (.ns z))(i:wO w C attr)(G:z.lookup attr=some d)(H:eval (.Attribute a attr c) b=(do
  let o <-eval a b
  standAt c.atName
  let r <-holding [o] (getAttr o attr true)
  letTemporaryGo a o r
  pure r):=by with_unfolding_all rfl):PE w A b t f (eval (.Attribute a attr c) b) d:=by
 intro g R L s E Q F k;refine Attribute_any_ (h g R L s E _ F λT V M l e j N=>?_) H;obtain⟨x,W,X,q,rfl,_,I,_,P,_⟩:=j.G.inst N u y;let⟨v,S,p⟩:=P.get G;exact get_value j.G.ok.k I (tZ i.pg).1 (findObj_own i.hd i.fi rfl S) p.handed (k v _ M l ⟨e.gens,e.os,e.le,e.pre⟩ j p)
def jG:=@PE.attr
theorem H_(c:a.any (·.1)=false)(h:wpAny M A (spliced a) (λd e=>Q ⟨d,[]⟩ e) E s):wpAny M A (evalArgs f true a []) Q E s:=by
 cases a with
 |nil=>
  unfold evalArgs;show wpAny M A (spliced []>>=_) Q E s;refine Z (f_ h (λd e g=>?_) λ_ _ x=>x);apply aC;exact Z (U (Z (U (U g))))
 |cons p r=>
  let⟨b,x⟩:=p;cases b with
  |true=>simp at c
  |false=>exact evalArgs_plain h
def fE:=@H_
theorem BD(b:c.any (·.1)=false)(h:wpAny (model pw w) A (spliced c) (λd a=>a.heap.get? e=some ⟨.type "function",none,.func fd,#[]⟩/\wpAny (model pw w) A (call (.ref e) (first++d)) Q E a) E s):wpAny (model pw w) A (callWith f (.ref e) first c []) Q E s:=callWith_function (o:=⟨.type "function",none,.func fd,#[]⟩) (fd:=fd) (fE b (f_ h (λd g x=>⟨⟨x.1,rfl⟩,x.2⟩) λ_ _ x=>x))
abbrev BI(w:Yz)(a:YB)(b:FuncData):Prop:=(KF w).lookup a=some ⟨.type "function",none,.func b,#[]⟩
abbrev Fd(n:YB):={a:FuncData//∀{w:Yz},BI w n a}
theorem GE.E_(x:PV w A a m o (eval (.Name f p) a) (.ref q))(y:BI w q z)(C:we n A)(G:Aj w A a m o (backTo c (starEach b a)) λr h=>CF w n (.ref q) r h P)(hns:(backTo c (starEach b a)).any (·.1)=false:=by rfl):
 GE w A a m o (eval (.Call (.Name f p) b [] c) a) P:=by
 intro g R t s E Q F k;refine dF (x g R t s E _ F λH I L=>BD (fd:=z) hns (G g R t H E _ L λM N S i r a0 T e V W=>⟨e.G.ok.k _ _ y,?_⟩));exact W.og C S R i N M E _ e.G V λv X Y j d l u G3 r3 hp=>k v X Y j d l ((I.trans T).trans u) (e.up u G3) r3 hp
def lT:=@GE.E_
theorem PE.E_(j:PV w A a h e (eval (.Name f p) a) (.ref i))(k:BI w i r)(l:Ab w A a h e (backTo c (starEach b a)) m)(o:PF w n (.ref i) m e d)(q:we n A)(hns:(backTo c (starEach b a)).any (·.1)=false:=by rfl):
 PE w A a h e (eval (.Call (.Name f p) b [] c) a) d:=
 (lT j k q (l.gs o) hns).pe
def gF:=@PE.E_
theorem GE.IP{id:String}(x:PV w A a n o (eval (.Name f p) a) (.builtin id))(y:Aj w A a n o (backTo c (starEach b a)) λq i=>OG w A i (λh=>call (.builtin id) h) q P)(e:(backTo c (starEach b a)).any (·.1)=false:=by rfl):
 GE w A a n o (eval (.Call (.Name f p) b [] c) a) P:=by
 intro g R r s E Q F k;refine dF (x g R r s E _ F λz C G=>iS e (fE e (y g R r z E _ G λh H I j q Y L t M N=>?_)));exact N I R j H h E _ t.G M λv S T l d m u V W X=>k v S T l d m ((C.trans L).trans u) (t.up u V) W X
theorem PE.IP{id:String}{i:Yb}(k:PV w A a j e (eval (.Name f p) a) (.builtin id))(l:Ab w A a j e (backTo c (starEach b a)) i)(m:OP w A e (λn=>call (.builtin id) n) i d)(h:(backTo c (starEach b a)).any (·.1)=false:=by rfl):
 PE w A a j e (eval (.Call (.Name f p) b [] c) a) d:=
 (GE.IP k (l.gs m) h).pe
def lF:=@PE.IP
theorem GE.Cu{id:String}(x:PV w A a n o (eval (.Name f p) a) (.type id))(y:Aj w A a n o (backTo c (starEach b a)) λq i=>OG w A i (λh=>call (.type id) h) q P)(e:(backTo c (starEach b a)).any (·.1)=false:=by rfl):
 GE w A a n o (eval (.Call (.Name f p) b [] c) a) P:=by
 intro g R r s E Q F k;refine dF (x g R r s E _ F λz C G=>dZ e (fE e (y g R r z E _ G λh H I j q Y L t M N=>?_)));exact N I R j H h E _ t.G M λv S T l d m u V W X=>k v S T l d m ((C.trans L).trans u) (t.up u V) W X
theorem PE.Cu{id:String}{i:Yb}(k:PV w A a j e (eval (.Name f p) a) (.type id))(l:Ab w A a j e (backTo c (starEach b a)) i)(m:OP w A e (λn=>call (.type id) n) i d)(h:(backTo c (starEach b a)).any (·.1)=false:=by rfl):
 PE w A a j e (eval (.Call (.Name f p) b [] c) a) d:=
 (GE.Cu k (l.gs m) h).pe
def jw:=@PE.Cu
structure wA(w:Yz)(C:YB)(x:Str)(fa:YB):Prop where
 pg:plainGet (KF w) C x=true:=by kernel_rfl
 fi:findIn (KF w) (.ref C) x=some (some (.ref fa)):=by kernel_rfl
 ty:typeIn (KF w) (.ref fa)=some (.type "function"):=by kernel_rfl
theorem method_of(k:methodCallForm (b.length+([]:List Keyword).length) (backTo a (starEach b c)) (backToKw a (keywordEach [] c))=true)(e:(d.endLine==a.line)=true)(l:∀m j,j (f,first) s->wpAny M A (getMethod n g m) j E s)(h:wpAny M A (callWith a f first (backTo a (starEach b c)) []) Q E s):wpAny M A (methodCall o g d a c n (b.length+([]:List Keyword).length) (backTo a (starEach b c)) (backToKw a (keywordEach [] c))) Q E s:=by
 have i:methodCallPos true o c d a=pure a:=by unfold methodCallPos;simp[e]
 unfold methodCall;rw[k];refine Z (aC (l _ _ ?_));exact Z (kR i h)
theorem GE.IM(h:PE w A a S l (eval o a) (.ref n))(Y:l.μ n=some (.inst C m))(hn:l.μ m=some (.ns fs))(p:wA w C b r)(hl:fs.lookup b=none)(hk:BI w r fd)(hr:we k A)(ha:Aj w A a S l (backTo e (starEach c a)) λT y=>CF w k (.ref r) (.ref n::T) y P)(f:attributeBase o b a (eval o a)=eval o a:=by rfl)(G:(backTo e (starEach c a)).any (·.1)=false:=by rfl)(hf:methodCallForm (c.length+([]:List Keyword).length) (backTo e (starEach c a)) (backToKw e (keywordEach [] a))=true:=by rfl)(i:(j.endLine==e.line)=true:=by rfl):
 GE w A a S l (eval (.Call (.Attribute o b j) c [] e) a) P:=by
 intro g R ρ s E Q F q;rw[nK,f];refine Z (h g R ρ s E _ F λv1 s1 g1 H x1 t V=>Z (aX ?_));obtain⟨x,dx,es,z,rfl,_,I,_,rn,_⟩:=t.G.inst V Y hn;refine method_of hf i (f:=.ref r) (first:=[.ref x]) (λpl Q' hq=>method_fn t.G.ok.k I (tZ p.pg).1 (tZ p.pg).2 p.fi p.ty
  (by show(lookIn b (dictOf es z)).map _=_;rw[lookIn_dict,rn.miss hl];rfl) hq) ?_
 refine BD (fd:=fd) G (ha g1 R H s1 E _ t λvs s2 g2 L T a0 W u r2 hc=>⟨u.G.ok.k _ _ hk,?_⟩);exact hc.og hr g2 R L s2 _ E _ u.G (.cons (V.up W) r2) λv s3 g3 M d N X G3 r3 hp=>q v s3 g3 M d N ((x1.trans W).trans X) (u.up X G3) r3 hp
def cU:=@GE.IM
theorem PE.IM{name:Str}(h:PE w A a p i (eval o a) (.ref n))(r:i.μ n=some (.inst C m))(s:i.μ m=some (.ns t))(u:wA w C name q)(v:t.lookup name=none)(x:BI w q H)(y:Ab w A a p i (backTo c (starEach b a)) z)(E:PF w k (.ref q) (.ref n::z) i d)(F:we k A)(e:attributeBase o name a (eval o a)=eval o a:=by rfl)(l:(backTo c (starEach b a)).any (·.1)=false:=by rfl)(G:methodCallForm (b.length+([]:List Keyword).length) (backTo c (starEach b a)) (backToKw c (keywordEach [] a))=true:=by rfl)(f:(j.endLine==c.line)=true:=by rfl):
 PE w A a p i (eval (.Call (.Attribute o name j) b [] c) a) d:=
 (cU h r s u v x F (y.gs E) e l G f).pe
def dQ:=@PE.IM
def IsT(w:Yz)(e:St)(d:D)(T:String):Prop:=∀(g R:YH) (b:X_) (s:Yy) (v:Yx),GS w g R b e s.heap->Rd w g b v d->s.TypeIs v T/\∀a,v= .ref a->∃c,s.heap.get? a=some c/\c.dict=none
theorem IsT.vK(l:xA c d f):IsT w c d "list":=λg R h s v G r=>by
 obtain⟨a,i,n,rfl,e,_⟩:=G.vK r l;exact⟨⟨_,e,rfl⟩,λb q=>by cases q;exact⟨_,e,rfl⟩⟩
theorem IsT.wc(l:yg c d f):IsT w c d "dict":=λg R h s v G r=>by
 obtain⟨a,i,n,rfl,e,_⟩:=G.wc r l;exact⟨⟨_,e,rfl⟩,λb q=>by cases q;exact⟨_,e,rfl⟩⟩
theorem IsT.str:IsT w a (.str x) "str":=λg R c s v G r=>by
 obtain⟨t,rfl⟩:=r.wF;exact⟨kB _ _ _,λb q=>by cases q⟩
theorem GE.Fb{T id:String}(h:PE w A a C n (eval o a) G)(hT:IsT w n G T)(pa:PlainAttrs T)(l:Slot T e id)(p:typeOf (.builtin id)=pure (.type "method_descriptor"))(ha:Aj w A a C n (backTo c (starEach b a)) λH r=>OG w A r (λI=>call (.builtin id) I) (G::H) P)(f:attributeBase o e a (eval o a)=eval o a:=by rfl)(j:(backTo c (starEach b a)).any (·.1)=false:=by rfl)(hf:methodCallForm (b.length+([]:List Keyword).length) (backTo c (starEach b a)) (backToKw c (keywordEach [] a))=true:=by rfl)(i:(m.endLine==c.line)=true:=by rfl):
 GE w A a C n (eval (.Call (.Attribute o e m) b [] c) a) P:=by
 intro g R ρ s E Q F q;rw[nK,f];refine Z (h g R ρ s E _ F λL M N k x1 S V=>Z (aX ?_));let⟨t,u⟩:=hT N R k M L S.G V;apply method_of hf i (f:=.builtin id) (first:=[L]) (λpl Q' hq=>getMethod_builtin t pa l p u hq);refine iS j (fE j (ha N R k M E _ S λI s2 g2 x H a0 W X r2 hc=>?_));exact hc g2 R x s2 _ E _ X.G (.cons (V.up W) r2) λv s3 g3 y d z Y G3 r3 hp=>q v s3 g3 y d z ((x1.trans W).trans Y) (X.up Y G3) r3 hp
def lU:=@GE.Fb
theorem PE.Fb{o:YD}{name:Str}{T id:String}(h:PE w A a n k (eval o a) p)(q:IsT w k p T)(r:PlainAttrs T)(i:Slot T name id)(l:typeOf (.builtin id)=pure (.type "method_descriptor"))(s:Ab w A a n k (backTo c (starEach b a)) t)(u:OP w A k (λv=>call (.builtin id) v) (p::t) d)(e:attributeBase o name a (eval o a)=eval o a:=by rfl)(m:(backTo c (starEach b a)).any (·.1)=false:=by rfl)(x:methodCallForm (b.length+([]:List Keyword).length) (backTo c (starEach b a)) (backToKw c (keywordEach [] a))=true:=by rfl)(f:(j.endLine==c.line)=true:=by rfl):
 PE w A a n k (eval (.Call (.Attribute o name j) b [] c) a) d:=
 (lU h q r i l (s.gs u) e m x f).pe
def uV:=@PE.Fb
def xR(R:YH)(L:YB)(o:Obj):YH:=λa=>if a=L then some o else R a
theorem LC:xR R L o L=some o:=B rfl
def cK:=@LC
theorem Q_(n:a≠L):xR R L o a=R a:=J n
def bW:=@Q_
theorem GS.xR(G:GS w g R l m h)(d:R L=some o)(k:∀b x,b≠L->h.get? b=some x->f.get? b=some x)(e:f.get? L=some p):GS w g (xR R L p) l m f:=by
 have i:∀b x,g b=some x->b≠L:=by rintro b x q rfl;rw[G.gR _ _ q]at d;cases d
 refine⟨G.base,λb x q=>k _ _ (i b x q) (G.sub b x q),?_,?_,?_,G.inj,G.low⟩
 .intro b x q
  by_cases z:b=L
  .subst z;rw[cK]at q;cases q;exact e
  .rw[bW z]at q;exact k _ _ z (G.rest b x q)
 .intro b x q
  rw[bW (i b x q)];exact G.gR b x q
 .intro n c q
  let⟨a,x,r,s,t,u,j⟩:=G.cell n c q;have:a≠L:=by rintro rfl;rw[j]at d;cases d
  exact⟨a,x,r,k _ _ this s,t,u,by rw[bW this];exact j⟩
theorem Du{a:List (Str×b)}:List.lookup y ((x,d)::a)=if y=x then some d else a.lookup y:=by
 rw[pA];by_cases c:y=x
 .subst c;simp
 .have:(y==x)=false:=by simpa using c
  rw[this,J c]
def bH:=@Du
theorem IZ(F:FS w g R L σ f md s.heap)(r:Rd w g L v d)(n:f.kindOf x=some .local\/f.kindOf x=some .cell)(k:∀(N:Yy) (R':YH),Gr s g L N g L->FS w g R' L σ f ((x,d)::md) N.heap->(∀a,¬x8 f a->R' a=R a)->Q () N):wpAny (model pw w) A (storeName f x v) Q E s:=by
 let⟨o,es,ep,m,P,h2,h3,h4,h5⟩:=F.F.loc;have a0:s.heap.Ns f.locals m:=⟨o,es,ep,F.G.rest _ _ P,h2,h3,h4⟩;rcases n with n|n
 .refine sZ n a0 (λh' b0 u=>?_) (by rw[F.F.fn];rfl)
  let⟨p,c0,d0,e1,M,e3,e4⟩:=b0;refine k _ (xR R f.locals p) cA ⟨F.G.xR P (λb y S e=>(u.2 b S).trans e) e1,?_⟩ λa T=>bW λe=>T (.inl e);have V:∀y c,f.cells.lookup y=some c->c≠f.locals:=λy c e=>F.F.ne y c (mem_of_lookup e);refine⟨F.F.fn,F.F.gl,F.F.bi,⟨p,c0,d0,_,cK,M,e3,e4,?_⟩,?_,?_,F.F.apart,F.F.ne,F.F.Qh,λy c q=>(F.F.all y c q).imp (λ⟨o,e⟩=>⟨o,by rw[bW (V y c q)];exact e⟩) id,F.F.Qi⟩
  .intro y t h i
   rw[bH]at h;by_cases c:y=x
   .subst c;simp only[cE]at h⊢;cases h;exact⟨v,rfl,r⟩
   .rw[J c]at h;simp only[J c];exact h5 y t h i
  .intro y t h i
   rw[bH]at h;by_cases c:y=x
   .subst c;rw[n]at i;rcases i with q|q<;>cases q
   .rw[J c]at h
    let⟨j,G,W,l,C,H,q4⟩:=F.F.FP y t h i;exact⟨j,G,W,l,by rw[bW (V y j l)];exact C,H,q4⟩
  .intro y i
   let⟨j,G,W,l,C,H⟩:=F.F.own y i;exact⟨j,G,W,l,by rw[bW (V y j l)];exact C,H⟩
 .let⟨c,G,v0,l,C,H⟩:=F.F.own x n
  refine wpAny_storeName_cell F.F.fn n l ⟨G,F.G.rest _ _ C,H⟩ (λh' e0 u=>?_);let⟨p,e1,M⟩:=e0;have f0:c≠f.locals:=F.F.ne x c (mem_of_lookup l);refine k _ (xR R c p) cA ⟨F.G.xR C (λb y S e=>(u.2 b S).trans e) e1,?_⟩ λa T=>bW λe=>T (.inr ⟨x,n,by rw[e];exact l⟩);refine⟨F.F.fn,F.F.gl,F.F.bi,⟨o,es,ep,m,by rw[bW (fY f0)];exact P,h2,h3,h4,?_⟩,?_,?_,F.F.apart,F.F.ne,F.F.Qh,λy j q=>by
   by_cases z:j=c
   .subst z;exact .inl ⟨p,cK⟩
   .exact(F.F.all y j q).imp (λ⟨o,e⟩=>⟨o,by rw[bW z];exact e⟩) id,F.F.Qi⟩
  .intro y t h i
   rw[bH]at h;by_cases z:y=x
   .subst z;rw[n]at i;cases i
   .rw[J z]at h;exact h5 y t h i
  .intro y t h i
   rw[bH]at h;by_cases z:y=x
   .subst z;simp only[cE]at h;cases h;exact⟨c,p,v,l,cK,M,r⟩
   .rw[J z]at h
    let⟨j,X,Y,I,p2,p3,p4⟩:=F.F.FP y t h i;have:j≠c:=by
     rintro rfl;exact z (sH F.F.apart (mem_of_lookup I) (mem_of_lookup l))
    exact⟨j,X,Y,I,by rw[bW this];exact p2,p3,p4⟩
  .intro y i
   by_cases z:y=x
   .subst z;exact⟨c,p,_,l,cK,M⟩
   .let⟨j,X,Y,I,p2,p3⟩:=F.F.own y i
    have:j≠c:=by
     rintro rfl;exact z (sH F.F.apart (mem_of_lookup I) (mem_of_lookup l))
    exact⟨j,X,Y,I,by rw[bW this];exact p2,p3⟩
def nR:=@IZ
theorem Hx(F:FS w g R n X f Y s.heap)(r:Rd w g n v d)(S:f.kindOf x=some .local)(k:∀(p:Yy) (T:YH),Gr s g n p g n->FS w g T n X f ((x,d)::Y) p.heap->(∀a,a≠f.locals->T a=R a)->Q () p):wpAny (model pw w) A (storeName f x v) Q E s:=by
 let⟨o,es,ep,m,V,h2,h3,h4,h5⟩:=F.F.loc;have I:s.heap.Ns f.locals m:=⟨o,es,ep,F.G.rest _ _ V,h2,h3,h4⟩;refine sZ S I (λh' L M=>?_) (by rw[F.F.fn];rfl);let⟨W,N,P,e1,e2,e3,e4⟩:=L;refine k _ (xR R f.locals W) cA ⟨F.G.xR V (λb y nb e=>(M.2 b nb).trans e) e1,?_⟩ λa na=>bW na;have t:∀y c,f.cells.lookup y=some c->c≠f.locals:=λy c e=>F.F.ne y c (mem_of_lookup e);refine⟨F.F.fn,F.F.gl,F.F.bi,⟨W,N,P,_,cK,e2,e3,e4,?_⟩,?_,?_,F.F.apart,F.F.ne,F.F.Qh,λy c q=>(F.F.all y c q).imp (λ⟨o,e⟩=>⟨o,by rw[bW (t y c q)];exact e⟩) id,F.F.Qi⟩
 .intro y u h i
  rw[bH]at h;by_cases c:y=x
  .subst c;simp only[cE]at h⊢;cases h;exact⟨v,rfl,r⟩
  .rw[J c]at h;simp only[J c];exact h5 y u h i
 .intro y u h i
  rw[bH]at h;by_cases c:y=x
  .subst c;rw[S]at i;rcases i with q|q<;>cases q
  .rw[J c]at h
   let⟨j,z,C,l,G,H,q4⟩:=F.F.FP y u h i;exact⟨j,z,C,l,by rw[bW (t y j l)];exact G,H,q4⟩
 .intro y i
  let⟨j,z,C,l,G,H⟩:=F.F.own y i;exact⟨j,z,C,l,by rw[bW (t y j l)];exact G,H⟩
theorem SE.WA(k:St.le a c)(h:SE w A b d a t N P):SE w A b d c t N P:=λg R e s E Q F f i=>h g R e s E Q ⟨F.G.restrict k,F.F⟩ f i
theorem SE.nil(h:N b c):SE w A a b c (execs [] a) N P:=λg R d s E Q F e f=>U (e s g R d b c (eU s g d) F (λ_ _=>rfl) h)
def bw:=@SE.nil
theorem SE.cons{st:Stmt}(h:SE w A c T V (exec st c) M P)(r:∀e b,M e b->SE w A c e b (execs o c) N P):SE w A c T V (execs (st::o) c) N P:=by
 intro g R W s E Q F X S;rw[arm_execs_cons];refine Z (h g R W s E _ F (λq t u f e b x Y p m=>?_) λv q t u f d b x G p z y=>?_)
 .exact r e b m t u f q E Q Y (λC H R2 i L j I F2 k n=>X C H R2 i L j (x.trans I) F2 (λa l=>(k a l).trans (p a l)) n)
   λv C H R2 i d j I G2 k z y=>S v C H R2 i d j (x.trans I) G2 (λa l=>(k a l).trans (p a l)) z y
 .exact U (S v q t u f d b x G p z y)
def aq:=@SE.cons
theorem SE.ret(h:GE w A a f i (eval e a) P):SE w A a f i (exec (.Return (some e) o) a) N P:=by
 intro g R j s E Q F p k;rw[arm_exec_Return];refine Z (aX ?_);show wpAny _ _ (eval e a>>=λx=>pure (Flow.ret x)) Q E s;exact Z (h g R j s E _ F λv l m b d c x n r y=>U (k v l m R b d c x n.G (λ_ _=>rfl) r y))
def oX:=@SE.ret
theorem SE.Xl(h:PE w A a c b (eval e a) d)(f:P d b):SE w A a c b (exec (.Return (some e) g) a) N P:=oX (h.g f)
def cH:=@SE.Xl
theorem SE.Xm{st:Stmt}(h:SE w A a c d (exec st a) (λ_ _=>False) P):SE w A a c d (execs (st::b) a) N P:=aq h λ_ _ q=>q.elim
def bQ:=@SE.Xm
theorem MN(F:FS w g R c h b i s.heap)(r:Rd w g c v d)(j:b.kindOf x=some .local\/b.kindOf x=some .cell)(k:∀(e:Yy) (f:YH),Gr s g c e g c->FS w g f c h b ((x,d)::i) e.heap->(∀a,¬x8 b a->f a=R a)->Q () e):wpAny (model pw w) A (bindName b x v) Q E s:=bindName_ (nR F r j k)
def zy:Option NameKind->Bool
 |some .local|some .cell=>true
 |_=>false
theorem Lr(h:zy k=true):k=some .local\/k=some .cell:=by
 cases k with
 |none=>cases h
 |some k=>cases k<;>first|exact .inl rfl|exact .inr rfl|cases h
def o8:=@Lr
theorem SE.assign(n:a.scope=S)(o:zy (S.names.lookup x)=true)(h:GE w A a k q (eval b a) λd c=>N ((x,d)::k) c)(r:swapsWithSole [.Name x p] b e.line a=pure false:=by rfl):SE w A a k q (exec (.Assign [.Name x p] b e) a) N P:=by
 intro g R t s E Q F u T;rw[mz];refine Z (aX ?_);rw[r];refine Z (U ?_);simp only[aA,bz];refine Z (h g R t s E _ F λv l y f d i z C G m=>?_);have j:swappedStores [.Name x p] b a=pure none:=rfl;rw[j];refine Z (U ?_);show wpAny _ _ (do assignAll v [PySem.assign (.Name x p) a];pure Flow.next) Q E l;apply Z;show wpAny _ _ (PySem.assign (.Name x p) a v) _ E l;refine assign_Name (nR C G (o8 (by unfold Env.kindOf;rw[n];exact o)) λH R2 I L M=>?_);exact U (u H y R2 f _ i (z.trans I) L M m)
def fC:=@SE.assign
theorem SE.SO(g:a.scope=S)(i:zy (S.names.lookup x)=true)(h:PE w A a e f (eval b a) d)(j:N ((x,d)::e) f)(k:swapsWithSole [.Name x p] b c.line a=pure false:=by rfl):SE w A a e f (exec (.Assign [.Name x p] b c) a) N P:=fC g i (h.g j) k
def fV:=@SE.SO
theorem SE.if_(h:PB w A a k l (isTrue t a (eval t a)) b)(C:b=true->SE w A a k l (execs j a) N P)(G:b=false->SE w A a k l (execs c a) N P):SE w A a k l (exec (.If t j c Y) a) N P:=by
 intro g R H s E Q F I L;rw[arm_exec_If];refine Z (aX (Z (h g R H s E _ F λu M q x S=>?_)));have z:∀{t},SE w A a k l t N P->wpAny (model pw w) A t Q E u:=λT=>T M R q u E Q S
  (λm o R2 e r f p V i n=>I m o R2 e r f (x.trans p) V i n)
  λv m o R2 e d f p W i X y=>L v m o R2 e d f (x.trans p) W i X y
 cases b with
 |true=>simp only[cE];exact z (C rfl)
 |false=>simp only[aA,bz];exact z (G rfl)
def dH:=@SE.if_
theorem SE.expr(h:GE w A a b k (eval e a) λ_ c=>N b c)(l:interactive a=false)(n:swapsWith e none f.line a=pure false:=by rfl):SE w A a b k (exec (.Expr e f) a) N P:=by
 intro g R o s E Q F p x;rw[arm_exec_Expr];refine Z (aX ?_);rw[J (by rw[l];decide),n];refine Z (U ?_);simp only[aA,bz];refine Z (h g R o s E _ F λv q r i d j t u y m=>?_);exact wpAny_dropValue (p q r R i b j t u (λ_ _=>rfl) m)
theorem SE.Ba{C:Yb}(S:T.lookup x=some (.ref n))(V:W.μ n=some (.vK C))(h:SE w A L ((x,.vK C)::T) (W.drop n) t N P):SE w A L T W t N P:=by
 intro g R p s E Q F k1 k2;let⟨a,o,X,_⟩:=F.G.cell n _ V;let⟨o,G,hc,u,e,G'⟩:=F.G.Ba V X;have z:=F.F.mono u (aE p);have Y:∀v,Rd w G p v (.ref n)->Rd w G p v (.vK C):=λv r=>by
  cases r with
  |ref q=>
   rw[X]at q;cases q;cases hc with
   |vK r=>exact .vK ⟨_,e⟩ (r.mono u (aE _))
 refine h G R p s E Q ⟨G',{z with loc:=?_,FP:=?_}⟩ (λH I R2 i M j f F2 k n=>k1 H I R2 i M j ⟨f.gens,f.os,u.trans f.le,f.pre⟩ F2 k n)
  λv H I R2 i d j f G2 k rd y=>k2 v H I R2 i d j ⟨f.gens,f.os,u.trans f.le,f.pre⟩ G2 k rd y
 .let⟨o,es,ep,m,h1,h2,h3,h4,h5⟩:=z.loc
  refine⟨o,es,ep,m,h1,h2,h3,h4,λy d b l=>?_⟩;rw[bH]at b;by_cases c:y=x
  .subst c;rw[B rfl]at b;cases b
   let⟨v,q,r⟩:=h5 y _ S l;exact⟨v,q,Y v r⟩
  .rw[J c]at b;exact h5 y d b l
 .intro y d b l
  rw[bH]at b;by_cases c:y=x
  .subst c;rw[B rfl]at b;cases b
   let⟨c',o2,v2,q1,q2,q3,q4⟩:=z.FP y _ S l;exact⟨c',o2,v2,q1,q2,q3,Y v2 q4⟩
  .rw[J c]at b;exact z.FP y d b l
def VK(A:YA)(b:Yx)(s:Yy):Prop:=∀(M:Model) (E:X0) (a:YD) (v:Yx) (Q:Unit->Yy->Prop),Q () s->wpAny M A (letOwnedTupleGo a b v) Q E s
theorem EV(f:s.heap.get? a=some o)(g:o.cls= .type T)(i:(["enumerate","zip","dict_itemiterator","dict_reverseitemiterator","odict_iterator","itertools.zip_longest","itertools.pairwise"].contains T)=false):VK A (.ref a) s:=by
 intro M E c v Q h;have d:wpAny M A (do
  let(.ref r,.ref a):=(Value.ref a,v)|return
  let o <-load r
  match o.cls,o.data with
  | .type n,.fields e=>
   if["enumerate","zip","dict_itemiterator","dict_reverseitemiterator","odict_iterator","itertools.zip_longest","itertools.pairwise"].contains n&&e[0]? ==some (rawInt a)then
    rule "for.unpacks-the-owned-tuple"
    updateField r 0 .none
  |_,_=>pure ()) Q E s:=by
  cases v with
  |ref b=>
   refine Z (lV f ?_);rw[g];split
   .rename_i n e e1 j
    cases e1
    rw[J (by rw[i,mZ];decide)];exact U h
   .exact U h
  |_=>exact U h
 cases c with
 |Tuple=>exact d
 |List=>exact d
 |_=>exact U h
theorem Fm.congr(F:Fm w g R n e p)(q:∀o,R e.locals=some o->l e.locals=some o)(i:∀x c o,e.cells.lookup x=some c->R c=some o->l c=some o):Fm w g l n e p where
 fn:=F.fn
 gl:=F.gl
 bi:=F.bi
 loc:=let⟨o,r,s,m,f,h⟩:=F.loc;⟨o,r,s,m,q o f,h⟩
 FP:=λx d a b=>let⟨c,o,v,f,j,k⟩:=F.FP x d a b;⟨c,o,v,f,i x c o f j,k⟩
 own:=λx a=>let⟨c,o,v,f,j,k⟩:=F.own x a;⟨c,o,v,f,i x c o f j,k⟩
 apart:=F.apart
 ne:=F.ne
 Qh:=F.Qh
 all:=λx c a=>(F.all x c a).imp (λ⟨o,h⟩=>⟨o,i x c o a h⟩) id
 Qi:=F.Qi
theorem GS.JT{d:X_}(G:GS w g R r s h)(j:∀b∈d,∃o,R b=some o)(keep:∀b o,b∉d->h.get? b=some o->k.get? b=some o)(f:∀a,a∉d->l a=R a)(t:∀a o,a∈d->l a=some o->k.get? a=some o):GS w g l r s k:=by
 have m:∀b x,g b=some x->b∉d:=λb x q i=>by let⟨o,e⟩:=j b i;rw[G.gR b x q]at e;cases e
 refine⟨G.base,λb x q=>keep _ _ (m b x q) (G.sub b x q),?_,λb x q=>?_,?_,G.inj,G.low⟩
 .intro b x q
  by_cases z:b∈d
  .exact t b x z q
  .rw[f b z]at q;exact keep _ _ z (G.rest b x q)
 .rw[f b (m b x q)];exact G.gR b x q
 .intro n c q
  let⟨a,x,e1,u,v,y,p⟩:=G.cell n c q;have:a∉d:=λi=>by let⟨o,e⟩:=j a i;rw[p]at e;cases e
  exact⟨a,x,e1,keep _ _ this u,v,y,by rw[f a this];exact p⟩
structure Iter(w:Yz)(A:YA)(it:YB)(tg:YD->Prop)(wr lk:X_)(ds:Yb)(S:Nat->YH->YH->X_->Prop):Prop where
 mono:∀{k:Nat} {g g' R R':YH} {ρ ρ':X_},S k g R ρ->View.le g g'->ρ<+:ρ'->(∀b,(b∈wr\/b∈lk)->R' b=R b)->S k g' R' ρ'
 own:∀{k:Nat} {g R:YH} {ρ:X_},S k g R ρ->∀b∈wr,∃o,R b=some o
 step:∀(σ:St) (k:Nat) (g R:YH) (ρ:X_) (s:Yy) (target:YD) (E:X0) (Qs:X0) (Qn:Yy->Prop),tg target->GS w g R ρ σ s.heap->S k g R ρ->k<=ds.length->
  (∀d,ds[k]? =some d->∀(s':Yy) (g' R':YH) (v:Yx),Gr s g ρ s' g' ρ->GS w g' R' ρ σ s'.heap->S (k+1) g' R' ρ->(∀a,a∉wr->R' a=R a)->Rd w g' ρ v d->Qs v s')->
  (k=ds.length->∀(s':Yy) (R':YH),Gr s g ρ s' g ρ->GS w g R' ρ σ s'.heap->(∀a,R' a=if a∈wr then none else R a)->Qn s')->
  wpAny (model pw w) A (pyNext (.ref it)) (λr s1=>match r with|none=>Qn s1|some v=>wpAny (model pw w) A (letOwnedTupleGo target (.ref it) v) (λ_ s2=>Qs v s2) E s1) E s
 again:∀(σ:St) (k:Nat) (g R:YH) (ρ:X_) (s:Yy) (E:X0) (Q:X0),GS w g R ρ σ s.heap->S k g R ρ->Q (.ref it) s->wpAny (model pw w) A (pyIter (.ref it)) Q E s
def wH(_:YD):Prop:=True
def DP(e:YD):Prop:=∃a k b,e= .Tuple a k b
def SW(w:Yz)(f c e:X_)(j:Yb)(P:Nat->Yx->Prop)(S:Nat->YI->Prop)(k:Nat)(g R:YH)(l:X_):Prop:=
 (∀i v d,P i v->j[i]? =some d->Rd w g l v d)/\(∀b∈f,∃o,((b∈c\/b∈e)/\R b=some o)\/g b=some o)/\(∀b∈c,∃o,R b=some o)/\
  (∀h:YI,(∀a o,(a∈c\/a∈e)->R a=some o->h.get? a=some o)->(∀a o,g a=some o->h.get? a=some o)->S k h)
theorem Iter.OM(W:Walks pw w A V fp p r.length P S)(X:∀i h,S i h->∀b∈p,∃o,h.get? b=some o)(a5:∀i (s:Yy),S i s.heap->VK A (.ref V) s):Iter w A V wH p lk r (SW w fp p lk r P S) where
 mono:=λ{k g g' R R' Y a0} x H hp I=>by
  let⟨y,C,h3,L⟩:=x;exact⟨λi v d a b=>(y i v d a b).mono H hp,λb j=>by
   let⟨o,q⟩:=C b j;exact⟨o,q.imp (λe=>⟨e.1,by rw[I b e.1];exact e.2⟩) (H _ _)⟩,λb j=>let⟨o,q⟩:=h3 b j;⟨o,by rw[I b (.inl j)];exact q⟩,
   λh a b=>L h (λc o hc e=>a c o hc (by rw[I c hc];exact e)) λc o e=>b c o (H _ _ e)⟩
 own:=λx=>x.2.2.1
 again:=λσ k g R Y s E Q G x q=>by
  let⟨y,C,h3,L⟩:=x;exact W.self k s Q E (L s.heap (λa o _ e=>G.rest a o e) G.sub) q
 step:=λσ k g R Y s m E Qs Qn _ G x hk y C=>by
  let⟨a1,a2,a3,a6⟩:=x;have st:=a6 s.heap (λa o _ e=>G.rest a o e) G.sub;by_cases c:k<r.length
  .refine W.item k s _ E c st λv t F hP l f=>?_
   have hd:r[k]? =some r[k]:=au c;apply a5 (k+1) ({s with heap:=t,toks:=F}:Yy) l _ E m v _;refine y _ hd {s with heap:=t,toks:=F} g (λa=>if a∈p then t.get? a else R a) v cA ?_ ?_ (λa u=>J u) (a1 k v _ hP hd)
   .exact G.JT a3 f (λa u=>J u) λa o M e=>by simpa[M]using e
   .refine⟨a1,?_,?_,?_⟩
    .intro b j
     let⟨o,q⟩:=a2 b j;by_cases z:b∈p
     .let⟨n,e⟩:=X _ _ l b z
      exact⟨n,.inl ⟨.inl z,by simp[z,e]⟩⟩
     .exact⟨o,q.imp (λe=>⟨e.1,by simpa[z]using e.2⟩) id⟩
    .intro b j
     let⟨n,e⟩:=X _ _ l b j;exact⟨n,by simp[j,e]⟩
    .intro N r1 r2
     refine W.frame (k+1) t N l λb j o e=>?_;by_cases z:b∈p
     .exact r1 b o (.inl z) (by simp[z,e])
     .let⟨n,q⟩:=a2 b j
      have:s.heap.get? b=some n:=q.elim (λq=>G.rest b n q.2) (G.sub b n);have e2:=f b n z this;rw[e]at e2;cases e2;exact q.elim (λe=>r1 b _ e.1 (by simpa[z]using e.2)) (r2 b _)
  .have T:k=r.length:=by omega
   subst T;refine W.done s _ E st λt F f=>?_;refine C rfl {s with heap:=t,toks:=F} (λa=>if a∈p then none else R a) cA ?_ (λ_=>rfl);exact G.JT a3 f (λa u=>J u) λa o M e=>by simp[M]at e
def q7:=@Iter.OM
abbrev Lock:=Option (Nat×wQ)
def St.xy(a:St):Lock->St
 |none=>a
 |some (n,_)=>a.drop n
def St.wW(a:St):Lock->St
 |none=>a
 |some (n,c)=>a.put n c
structure Ar(w:Yz)(g R:YH)(ρ:X_)(lk:Lock)(la:X_):Prop where
 WZ:lk=none->la=[]
 WY:∀n c,lk=some (n,c)->∃a o,la=[a]/\ρ[n]? =some a/\R a=some o/\yj w g ρ o c
theorem Ar.mono(x:Ar w g R j k f)(l:View.le g m)(h:j<+:d)(p:∀b∈f,q b=R b):Ar w m q d k f:=⟨x.WZ,λn c e=>let⟨a,o,i,r,s,t⟩:=x.WY n c e;⟨a,o,i,sf h r,by rw[p a (by rw[i];exact .head _)];exact s,t.mono l h⟩⟩
def Cd(R:YH)(b:X_):YH:=λa=>if a∈b then none else R a
theorem IL(R:YH)(b:X_):View.le (Cd R b) R:=λa o e=>by
 unfold Cd at e;split at e
 .cases e
 .exact e
theorem SA(R:YH):Cd R []=R:=by funext a;exact J (by simp)
theorem GS.wW(G:GS w g R u A h)(x:Ar w g R u C H):GS w g (Cd R H) u (A.wW C) h:=by
 cases C with
 |none=>rw[x.WZ rfl,SA];exact G
 |some p=>
  let⟨n,c⟩:=p;obtain⟨a,o,rfl,v,l,I⟩:=x.WY n c rfl;have f:=G.yC (IL R [a]);have L:g a=none:=by
   cases e:g a with
   |none=>rfl
   |some E=>rw[G.gR a E e]at l;cases l
  have j:∀m d b,A.μ m=some d->u[m]? =some b->b≠a:=λm d b e M q=>by
   let⟨Q,E,e1,_,_,_,F⟩:=G.cell m d e;rw[M]at e1;cases e1;rw[q,l]at F;cases F
  refine⟨f.base,f.sub,f.rest,f.gR,?_,?_,f.low⟩
  .intro m d e
   by_cases z:m=n
   .subst z
    simp only[St.wW,St.put,cE]at e;cases e;exact⟨a,o,v,G.rest _ _ l,I,L,by simp[Cd]⟩
   .simp only[St.wW,St.put,J z]at e
    exact f.cell m d e
  .intro m k b N P e1 r s t
   by_cases y:m=n
   .by_cases i:k=n
    .rw[y,i]
    .exfalso
     simp only[St.wW,St.put,J i]at r;rw[y,v]at s;cases s;exact j k P _ r t rfl
   .simp only[St.wW,St.put,J y]at e1
    by_cases i:k=n
    .exfalso
     rw[i,v]at t;cases t;exact j m N _ e1 s rfl
    .simp only[St.wW,St.put,J i]at r
     exact G.inj m k b _ _ e1 r s t
theorem FS.wW(F:FS w g R d f a i h)(x:Ar w g R d j b)(k:a.locals∉b)(l:∀x c,a.cells.lookup x=some c->c∉b):FS w g (Cd R b) d (f.wW j) a i h:=⟨F.G.wW x,F.F.congr (λo e=>by unfold Cd;rw[J k];exact e) λy c o q e=>by unfold Cd;rw[J (l y c q)];exact e⟩
def IT(w:Yz)(A:YA)(e:Env)(k:Md)(l:St)(p:YD->Prop)(m:Lock)(t:Yq)(q:Yb):Prop:=
 ∀(g R:YH) (n:X_) (s:Yy) (E:X0) (Q:X0),FS w g R n l e k s.heap->
  (∀(j:Yy) (f h:YH) (c:X_) (o:YB) (i d:X_) (S:Nat->YH->YH->X_->Prop),Gr s g n j f c->FS w f h c (l.xy m) e k j.heap->(∀b,b∈i\/b∈d->R b=none)->(∀a,a∉i->a∉d->h a=R a)->
   Iter w A o p i d q S->S 0 f h c->Ar w f h c m d->(∀b∈d,b∉i)->Q (.ref o) j)->
  wpAny (model pw w) A t (λx r=>wpAny (model pw w) A (pyIter x) Q E r) E s
theorem FS.DR(F:FS w g R l p f r h)(k:∀b o,h.get? b=some o->i.get? b=some o)(n:h.get? a=none)(e:i.get? a=some o):FS w g (xR R a o) l p f r i:=by
 have s:=F.G.yt n;have t:=F.G.zZ n;have j:∀b x,R b=some x->b≠a:=by rintro b x q rfl;rw[s]at q;cases q
 refine⟨⟨F.G.base,λb x q=>k _ _ (F.G.sub b x q),?_,?_,?_,F.G.inj,F.G.low⟩,F.F.congr (λx q=>by rw[bW (j _ _ q)];exact q) λy c x _ q=>by rw[bW (j _ _ q)];exact q⟩
 .intro b x q
  by_cases z:b=a
  .subst z;rw[cK]at q;cases q;exact e
  .rw[bW z]at q;exact k _ _ (F.G.rest b x q)
 .intro b x q
  have:b≠a:=by rintro rfl;rw[t]at q;cases q
  rw[bW this];exact F.G.gR b x q
 .intro m c q
  let⟨b,x,e1,d,u,v,A⟩:=F.G.cell m c q;have:b≠a:=by rintro rfl;rw[n]at d;cases d
  exact⟨b,x,e1,k _ _ d,u,v,by rw[bW this];exact A⟩
theorem Lw(h:YI):h.get? h.objs.size=none:=cu (ao _)
def ju:=@Lw
def Xf(d:D)(e:Yb):Prop:=d= .vK e\/d= .vV e\/(∃a b,d= .zR a b/\e=(List.range (b-a).toNat).map (λi=>D.int (a+(i:Nat)))/\a.natAbs<2^40/\b.natAbs<2^40)\/
 ∃x:Str,d= .str x/\e=x.cps.toList.map λc=>D.str ⟨#[c]⟩
theorem Cx{s:Yy}(F:FS w g R p G t H s.heap)(W:Walks pw w A s.heap.objs.size [s.heap.objs.size,c] [s.heap.objs.size] m.length (λi v=>a.toArray[i]? =some v) S)(r:wR w g p a m)(I:∀h:YI,h.get? s.heap.objs.size=some o->h.get? c=s.heap.get? c->S 0 h)(f:∃k,s.heap.get? c=some k/\(g c=some k\/(c∈la/\R c=some k)))(y:∀i h,S i h->∃o,h.get? s.heap.objs.size=some o/\o.cls= .type T)(L:(["enumerate","zip","dict_itemiterator","dict_reverseitemiterator","odict_iterator","itertools.zip_longest","itertools.pairwise"].contains T)=false)(M:o.isFreed=false):FS w g (xR R s.heap.objs.size o) p G t H (s.heap.push o)/\Iter w A s.heap.objs.size wH [s.heap.objs.size] la m (SW w [s.heap.objs.size,c] [s.heap.objs.size] la m (λi v=>a.toArray[i]? =some v) S)/\SW w [s.heap.objs.size,c] [s.heap.objs.size] la m (λi v=>a.toArray[i]? =some v) S 0 g (xR R s.heap.objs.size o) p:=by
 have n:=ju s.heap;let⟨k,z,f⟩:=f;have l:c≠s.heap.objs.size:=aQ (aJ z);refine⟨F.DR (λb x q=>ak _ q) n (aD _ M),q7 W ?_ ?_,?_,?_,?_,?_⟩
 .intro i h q b j
  let⟨C,e,_⟩:=y i h q;rw[aj.mp j];exact⟨C,e⟩
 .intro i X q
  let⟨C,e,u⟩:=y i _ q;exact EV e u L
 .intro i v d N hd
  let⟨Y,P,Q⟩:=r.get hd;have:a[i]? =some v:=by simpa using N
  rw[P]at this;cases this;exact Q
 .intro b j
  simp at j;rcases j with rfl|rfl
  .exact⟨_,.inl ⟨.inl (by simp),cK⟩⟩
  .exact⟨k,f.elim .inr λq=>.inl ⟨.inr q.1,by rw[bW l];exact q.2⟩⟩
 .intro b j
  rw[aj.mp j];exact⟨_,cK⟩
 .intro h E V
  apply I h (E _ _ (.inl (by simp)) cK);rw[z];exact f.elim (λq=>V _ _ q) λq=>E _ _ (.inr q.1) (by rw[bW l];exact q.2)
theorem Jz{h:YI}{b:Yc}(e:h.get? a=some (v9 "tuple" b.toArray n)):h.IsTuple a b.toArray:=⟨_,e,rfl,n,rfl⟩
def lW:=@Jz
theorem IT.XD{d:D}{ds:Yb}(X:A.handled=none)(hd:Xf d ds)(z:FS w L R y σ b0 md g.heap)(G:Rd w L y v d)(k:∀(s':Yy) (g' R':YH) (F:X_) (it:YB) (wr Y:X_) (S:Nat->YH->YH->X_->Prop),Gr g L y s' g' F->FS w g' R' F (σ.xy none) b0 md s'.heap->(∀b,b∈wr\/b∈Y->R b=none)->(∀a,a∉wr->a∉Y->R' a=R a)->Iter w A it wH wr Y ds S->S 0 g' R' F->Ar w g' R' F none Y->(∀b∈Y,b∉wr)->Q (.ref it) s'):wpAny (model pw w) A (pyIter v) Q E g:=by
 have p:=eU g L y;have n:=ju g.heap;have gn:=z.G.zZ n;rcases hd with rfl|rfl|⟨a,b,rfl,rfl,ha,f⟩|⟨x,rfl,rfl⟩
 .cases G with
  |vK q r=>
   rename_i H l;let⟨m,e⟩:=q;have C:=z.G.sub _ _ e;have N:H≠g.heap.objs.size:=aQ (aJ C);apply jj (fB C);have W:=qE (prog:=pw) (w:=w) X g.heap.objs.size H N l.toArray;have P:l.toArray.size=ds.length:=by simpa using r.length
   rw[P]at W;obtain⟨F2,I,S0⟩:=Cx z W r (o:={cls:=.type "list_iterator",data:=.fields #[.ref H,.int 0 0]})
    (λh e1 e2=>⟨⟨_,e1,rfl,rfl⟩,fB (e2.trans C)⟩) ⟨_,C,.inl e⟩ (λi h q=>let⟨o,e,c,_⟩:=q.1;⟨o,e,c⟩) (by decide) rfl
   exact k {g with heap:=g.heap.push _} L _ y _ _ [] _ ⟨p.gens,p.os,p.le,p.pre⟩ F2 (λb f=>by simp at f;rw[f];exact z.G.yt n) (λa M _=>bW (by simpa using M)) I S0 ⟨λ_=>rfl,λ_ _ q=>by cases q⟩ (λb f=>nomatch f)
 .cases G with
  |vV q r=>
   rename_i H l;let⟨m,e⟩:=q;have C:=z.G.sub _ _ e;have N:H≠g.heap.objs.size:=aQ (aJ C);apply u7 (lW C);have W:=Walks.tuple (prog:=pw) (w:=w) X g.heap.objs.size H N l.toArray;have P:l.toArray.size=ds.length:=by simpa using r.length
   rw[P]at W;obtain⟨F2,I,S0⟩:=Cx z W r (o:={cls:=.type "tuple_iterator",data:=.fields #[.ref H,.int 0 0]})
    (λh e1 e2=>⟨⟨_,e1,rfl,rfl⟩,lW (e2.trans C)⟩) ⟨_,C,.inl e⟩ (λi h q=>let⟨o,e,c,_⟩:=q.1;⟨o,e,c⟩) (by decide) rfl
   exact k {g with heap:=g.heap.push _} L _ y _ _ [] _ ⟨p.gens,p.os,p.le,p.pre⟩ F2 (λb f=>by simp at f;rw[f];exact z.G.yt n) (λa M _=>bW (by simpa using M)) I S0 ⟨λ_=>rfl,λ_ _ q=>by cases q⟩ (λb f=>nomatch f)
 .cases G with
  |zR q=>
   rename_i H t u v;have C:=z.G.sub _ _ q;have hz:Builtin.Range.rangeSize a b 1=(((b-a).toNat:Nat):Int):=by
    unfold Builtin.Range.rangeSize;simp;split<;>omega
   have hs:Builtin.Range.small a b 1=true:=by
    unfold Builtin.Range.small;rw[hz];unfold Builtin.Range.rangeFitsLong;have c0:(2:Nat)^40=1099511627776:=by decide
    have d0:(2:Int)^63=9223372036854775808:=by decide
    rw[c0]at ha f;simp only[show(1:Int)>0 from by decide,cE,d0];simp;omega
   apply wpAny_pyIter_range C hs;have W:=Walks.range (prog:=pw) (w:=w) X g.heap.objs.size a 1 ((b-a).toNat);refine k {g with heap:=g.heap.push _} L _ y _ [g.heap.objs.size] [] (SW w [g.heap.objs.size] [g.heap.objs.size] [] _ (λi v=>∃t,v= .int (a+i*1) t) (λi h=>IsRangeIter h g.heap.objs.size (a+(i:Nat)*1) ((((b-a).toNat:Nat):Int)-(i:Nat)) 1)) ⟨p.gens,p.os,p.le,p.pre⟩
    (z.DR (λb x q=>ak _ q) n (aD _ rfl)) (λb f=>by simp at f;rw[f];exact z.G.yt n) (λa M _=>bW (by simpa using M)) (q7 (by rw[az,cW];exact W) ?_ ?_) ⟨?_,?_,?_,?_⟩ ⟨λ_=>rfl,λ_ _ q=>by cases q⟩ (λb f=>nomatch f)
   .intro i h q b f
    rw[aj.mp f];exact⟨_,q⟩
   .intro i s q
    exact EV q rfl (by decide)
   .rintro i v d ⟨t,rfl⟩ hd
    rw[a_]at hd;obtain⟨j,V,rfl⟩:=bu.mp hd;have:j=i:=by
     rw[gJ (by have:=(aP.mp V).1;simpa using this)]at V;exact(dI V).symm
    subst this;rw[Int.mul_one];exact .int _ _
   .intro b f
    rw[aj.mp f];exact⟨_,.inl ⟨.inl (by simp),cK⟩⟩
   .intro b f
    rw[aj.mp f];exact⟨_,cK⟩
   .intro h G r2
    have:=G _ _ (.inl (by simp)) (cK);rw[hz]at this;simpa using this
 .obtain⟨t',rfl⟩:=G.wF
  have a0:∀T,(["enumerate","zip","dict_itemiterator","dict_reverseitemiterator","odict_iterator","itertools.zip_longest","itertools.pairwise"].contains T)=false->
   Walks pw w A g.heap.objs.size [g.heap.objs.size] [g.heap.objs.size] x.cps.size (SignAt x) (λi h=>h.IsStrIter g.heap.objs.size T x t' i)->
   Q (.ref g.heap.objs.size) {g with heap:=g.heap.push {cls:=.type T,data:=.fields #[.str x t',.int 0 0]}}:=by
   intro T hT W;refine k {g with heap:=g.heap.push _} L _ y _ [g.heap.objs.size] [] (SW w [g.heap.objs.size] [g.heap.objs.size] [] _ (SignAt x) (λi h=>h.IsStrIter g.heap.objs.size T x t' i)) ⟨p.gens,p.os,p.le,p.pre⟩
    (z.DR (λb x q=>ak _ q) n (aD _ rfl)) (λb f=>by simp at f;rw[f];exact z.G.yt n) (λa M _=>bW (by simpa using M)) (q7 (by rw[az];exact W) ?_ ?_) ⟨?_,?_,?_,?_⟩ ⟨λ_=>rfl,λ_ _ q=>by cases q⟩ (λb f=>nomatch f)
   .intro i h q b f
    let⟨o,e,_⟩:=q;rw[aj.mp f];exact⟨o,e⟩
   .intro i s q
    let⟨o,e,c,_⟩:=q;exact EV e c hT
   .rintro i v d ⟨c,u,hc,rfl⟩ hd
    rw[a_]at hd;obtain⟨j,V,rfl⟩:=bu.mp hd;rw[cO,hc]at V;cases V;exact .str _ _
   .intro b f
    rw[aj.mp f];exact⟨_,.inl ⟨.inl (by simp),cK⟩⟩
   .intro b f
    rw[aj.mp f];exact⟨_,cK⟩
   .intro h G r2
    exact⟨_,G _ _ (.inl (by simp)) cK,rfl,rfl⟩
  cases ha:x.cps.all (·<128)
  .exact wpAny_pyIter_wide ha (a0 "str_iterator" (by decide) (Walks.strWide X _ x t'))
  .exact wpAny_pyIter_ascii ha (a0 "str_ascii_iterator" (by decide) (Walks.strAscii X _ x t'))
theorem IT.of(c:A.handled=none)(h:PE w A a e f t d)(hd:Xf d i):IT w A a e f wH none t i:=by
 intro g R j s E Q F k;exact h g R j s E _ F λv C G z l m n=>IT.XD c hd m n λo p q b r u y S x=>k o p q b r u y S (l.trans x)
def eW:=@IT.of
def Qp(w:Yz)(A:YA)(e:Env)(k:Md)(l:St)(q:YD->Prop)(m:Lock)(t:Yq)(P:Yb->Prop):Prop:=
 ∀(g R:YH) (n:X_) (s:Yy) (E:X0) (Q:X0),FS w g R n l e k s.heap->
  (∀(o:Yb),P o->∀(j:Yy) (f h:YH) (c:X_) (p:YB) (i d:X_) (S:Nat->YH->YH->X_->Prop),Gr s g n j f c->FS w f h c (l.xy m) e k j.heap->(∀b,b∈i\/b∈d->R b=none)->(∀a,a∉i->a∉d->h a=R a)->
   Iter w A p q i d o S->S 0 f h c->Ar w f h c m d->(∀b∈d,b∉i)->Q (.ref p) j)->
  wpAny (model pw w) A t (λx r=>wpAny (model pw w) A (pyIter x) Q E r) E s
theorem IT.x(h:IT w A a c d e f t b):Qp w A a c d e f t (·=b):=λg R i s E Q F k=>h g R i s E Q F (k b rfl)
theorem Qp.of(j:A.handled=none)(h:GE w A c l i t λd a=>a=i/\∃b,Xf d b/\P b):Qp w A c l i wH none t P:=by
 intro g R m s E Q F k;refine h g R m s E _ F λv I L H d a n o p ⟨e,b,hd,q⟩=>?_;subst e;exact IT.XD j hd o p λr u y f z C G S x=>k b q r u y f z C G S (n.trans x)
theorem IT.cell{t:Yq}(hA:A.handled=none)(h:PE w A P md V t (.ref c))(X:V.μ c=some (.vK Y)):IT w A P md V wH (some (c,.vK Y)) t Y:=by
 intro g R ρ s E Q F k;refine h g R ρ s E _ F λv L g1 S T M r1=>?_;have n:=ju L.heap;obtain⟨j,o,rfl,G,N,l⟩:=M.G.name X r1;let⟨c0,o',q1,q2,_,q4,q5⟩:=M.G.cell c _ X;rw[G]at q1;cases q1;have H:j≠L.heap.objs.size:=aQ (aJ N);have p:=l;cases p with
 |vK r=>
  rename_i f m;have a0:FS w g1 (xR R j (v9 "list" f.toArray m)) S (V.drop c) P md L.heap:=by
   have u:=M.G.forget c;have nr:∀b x,R b=some x->b≠j:=by rintro b x q rfl;rw[q5]at q;cases q
   refine⟨⟨u.base,u.sub,?_,?_,?_,u.inj,u.low⟩,M.F.congr (λo e=>by rw[bW (nr _ _ e)];exact e) λy b o _ e=>by rw[bW (nr _ _ e)];exact e⟩
   .intro b x q
    by_cases z:b=j
    .subst z;rw[cK]at q;cases q;exact N
    .rw[bW z]at q;exact u.rest b x q
   .intro b x q
    have:b≠j:=by rintro rfl;rw[q4]at q;cases q
    rw[bW this];exact u.gR b x q
   .intro m d q
    let⟨b,x,e1,e2,e3,e4,e5⟩:=u.cell m d q;have nm:m≠c:=by rintro rfl;rw[St.Eo]at q;cases q
    have nb:b≠j:=by
     rintro rfl;rw[kC nm]at q;exact nm (M.G.inj m c b _ _ q X e1 G)
    exact⟨b,x,e1,e2,e3,e4,by rw[bW nb];exact e5⟩
  apply jj (fB N);have W:=qE (prog:=pw) (w:=w) hA L.heap.objs.size j H f.toArray;have b0:f.toArray.size=Y.length:=by simpa using r.length
  rw[b0]at W;let⟨F2,I,S0⟩:=Cx (la:=[j]) a0 W r (o:={cls:=.type "list_iterator",data:=.fields #[.ref j,.int 0 0]})
   (λh e1 e2=>⟨⟨_,e1,rfl,rfl⟩,fB (e2.trans N)⟩) ⟨_,N,.inr ⟨by simp,cK⟩⟩ (λi h q=>let⟨o,e,c,_⟩:=q.1;⟨o,e,c⟩) (by decide) rfl
  refine k {L with heap:=L.heap.push _} g1 _ S _ _ [j] _ ⟨T.gens,T.os,T.le,T.pre⟩ F2 (λb C=>?_) (λa na nb=>?_) I S0 ⟨(λq=>by cases q),λn' c' q=>?_⟩ (λb C=>by rw[aj.mp C];simpa using H)
  .rcases C with C|C
   .rw[aj.mp C];exact M.G.yt n
   .rw[aj.mp C];exact q5
  .rw[bW (by simpa using na),bW (by simpa using nb)]
  .cases q
   exact⟨j,_,rfl,G,by rw[bW H];exact cK,l⟩
def AS(w:Yz)(A:YA)(b:Env)(k:Md)(i:St)(c:YD)(d:D)(h:Md):Prop:=
 ∀(g R:YH) (e:X_) (s:Yy) (v:Yx) (E:X0) (Q:Unit->Yy->Prop),FS w g R e i b k s.heap->Rd w g e v d->
  (∀(f:Yy) (j:YH),Gr s g e f g e->FS w g j e i b h f.heap->(∀a,¬x8 b a->j a=R a)->Q () f)->wpAny (model pw w) A (PySem.assign c b v) Q E s
theorem AS.name(b:a.scope=S)(c:zy (S.names.lookup x)=true):AS w A a e f (.Name x p) d ((x,d)::e):=λg R h s v E Q F r k=>assign_Name (nR F r (o8 (by unfold Env.kindOf;rw[b];exact c)) k)
def ig:=@AS.name
theorem AS.Ij(M:A.handled=none)(t:c.scope=S)(N:zy (S.names.lookup x)=true)(P:zy (S.names.lookup y)=true):AS w A c u T (.Tuple [.Name x p,.Name y q] k j) (.vV [V,W]) ((y,W)::(x,V)::u):=by
 intro g R h s v E Q F r X;obtain⟨a,d,n,rfl,e,Y⟩:=F.G.vV r
 match d,Y,e with
 |[i,f],.cons r1 (.cons r2 .nil),e=>
  have ht:s.heap.IsTuple a #[i,f]:=⟨_,e,rfl,n,rfl⟩;show wpAny _ _ (standAt j>>=λ_=>unpack (.ref a) (assignEach [.Name x p,.Name y q] c)) Q E s;refine Z (aX (u9 M ht rfl rfl λz he=>?_));have F':FS w g R h T c u z:=⟨by
   have G:=F.G;have n:s.heap.get? s.heap.objs.size=none:=cu (ao _);exact G.keep λb o q=>he b o (by rintro rfl;rw[n]at q;cases q) q,F.F⟩
  show wpAny _ _ (do holding [f] (PySem.assign (.Name x p) c i);assignInOrder [PySem.assign (.Name y q) c] [f]) Q E _;refine Z (aC (ig t N g R h {s with heap:=z} i E _ F' r1 λC R1 H F1 l=>?_));show wpAny _ _ (do holding [] (PySem.assign (.Name y q) c f);assignInOrder [] []) Q E C;refine Z (aC (ig t P g R1 h C f E _ F1 r2 λs2 R2 I F2 m=>?_));exact U (X s2 R2 ⟨(H.trans I).gens,(H.trans I).os,bM g,aE _⟩ F2 λa L=>(m a L).trans (l a L))
def yI(a:Env)(d:X_):Prop:=(∀b∈d,b≠a.locals)/\∀x c,a.cells.lookup x=some c->c∉d
theorem Fm.yI(F:Fm w g R i d j)(h:∀b∈f,R b=none/\g b=none):yI d f:=by
 refine⟨λb a e=>?_,λx c q a=>?_⟩
 .let⟨o,k,l,m,q,_⟩:=F.loc
  have:=(h b a).1;rw[e,q]at this;exact nomatch this
 .rcases F.all x c q with⟨o,e⟩|⟨_,o,e⟩
  .rw[(h c a).1]at e;exact nomatch e
  .rw[(h c a).2]at e;exact nomatch e
theorem K9{k l:X_}(G:GS w m f i u h)(r:View.le g m)(j:∀b∈k,∃o,f b=some o)(n:Ar w m f i s l):∀b,b∈k\/b∈l->g b=none:=by
 intro b c;have d:∀o,f b=some o->g b=none:=λo e=>by
  cases q:g b with
  |none=>rfl
  |some x=>rw[G.gR _ _ (r _ _ q)]at e;cases e
 rcases c with c|c
 .let⟨o,e⟩:=j b c;exact d o e
 .cases s with
  |none=>rw[n.WZ rfl]at c;cases c
  |some p=>
   let⟨a,o,e1,_,t,_⟩:=n.WY p.1 p.2 rfl;rw[e1,aj]at c;subst c;exact d o t
theorem Bx(h:yI b d)(c:a∈d):¬x8 b a:=by
 rintro(e|⟨x,_,e⟩)
 .exact h.1 a c e
 .exact h.2 x a e c
theorem SE.TS{lk:Lock}(k0:Qp w A f md σ tg lk (eval a0 f) PP)(h:∀R,PP R->∃I:Nat->Md->St->Prop,I 0 md (σ.xy lk)/\(∀k d j i,R[k]? =some d->I k j i->∃c0,AS w A f j i p d c0/\SE w A f c0 i (execs j0 f) (λl0 d0=>I (k+1) l0 d0) (λd d0=>P d (d0.wW lk)))/\∀j i,I R.length j i->N j (i.wW lk))(ht:tg p:=by trivial)(hs:∀x,foldedSetIterable a0 f x=pure x:=by intro _;rfl):SE w A f md σ (exec (.For p a0 j0 [] u0) f) N P:=by
 intro g R0 ρ s0 E Q F k1 k2;refine wpAny_For (k0 g R0 ρ s0 E _ F λR hP s1 g1 R1 m0 it y t S x1 F1 hw n0 It S0 L0 e0=>?_) hs;let⟨I,h0,step,done⟩:=h R hP;have hg:=K9 F1.G x1.le (It.own S0) L0;have ap:yI f (y++t):=F.F.yI λb m=>⟨hw b (aB.mp m),hg b (aB.mp m)⟩;have g0:yI f y:=F.F.yI λb m=>⟨hw b (.inl m),hg b (.inl m)⟩;have o0:f.locals∉t:=λq=>ap.1 _ (aN _ q) rfl;have p0:∀x c,f.cells.lookup x=some c->c∉t:=λx c q r=>ap.2 x c q (aN _ r);let Inv:Nat->Yy->Prop:=λn s=>∃k j i T C l,n=R.length-k/\k<=R.length/\Gr s0 g ρ s T l/\FS w T C l i f j s.heap/\S k T C l/\Ar w T C l lk t/\
  (∀a,a∉y->a∉t->¬x8 f a->C a=R0 a)/\I k j i
 refine codeAny_forLoop_any Inv ?_ R.length ⟨0,md,σ.xy lk,g1,R1,m0,rfl,bB _,x1,F1,S0,L0,λa u V _=>n0 a u V,h0⟩;rintro n s ⟨k,j,i,T,C,l,rfl,hk,ex,F',S',L',hR,hI⟩;have same:∀R2 {g2},View.le T g2->(∀a,a∉y->R2 a=C a)->Fm w g2 R2 l f j:=λR2 g2 hg z=>(F'.F.congr (λo e=>by rw[z _ λm=>g0.1 _ m rfl];exact e) λx c o q e=>by rw[z _ (g0.2 x c q)];exact e).mono hg (aE _);have w0:∀b∈t,b∉y->∀R2:YH,(∀a,a∉y->R2 a=C a)->R2 b=C b:=λb _ V R2 z=>z b V;have b0:∀G,(∀a,a∉y->a∉t->¬x8 f a->G a=R0 a)->∀a,¬x8 f a->Cd (Cd G y) t a=R0 a:=λG h a H=>by
  unfold Cd;by_cases nl:a∈t
  .rw[B nl,hw a (.inr nl)]
  .rw[J nl]
   by_cases u:a∈y
   .rw[B u,hw a (.inl u)]
   .rw[J u,h a u nl H]
 refine It.step i k T C l s p _ _ _ ht F'.G S' hk (λd hd s2 g2 R2 v x2 G2 S2 z rv=>?_) λi0 s2 R2 x2 G2 z=>?_
 .have F2:FS w g2 R2 l i f j s2.heap:=⟨G2,same R2 x2.le z⟩
  let⟨c0,as,se⟩:=step k d j i hd hI;refine as g2 R2 l s2 v _ _ F2 rv λs3 R3 x3 F3 X=>?_;have L2:=L'.mono x2.le x2.pre λb m=>z b (e0 b m);refine se g2 R3 l s3 _ _ F3 (λs4 g4 G Y q0 f0 W F4 L r0=>?_) λv s4 g4 G Y d4 f0 W G4 L rd hp=>?_
  .have i0:k<R.length:=(aP.mp hd).1
   have M:∀b,b∈y++t->G b=R2 b:=λb m=>by
    have V:¬x8 f b:=Bx ap m;rw[L b V,X b V]
   refine⟨R.length-(k+1),by omega,k+1,q0,f0,g4,G,Y,rfl,by omega,((ex.trans x2).trans x3).trans W,F4,?_,?_,?_,r0⟩
   .exact It.mono S2 W.le W.pre λb m=>M b (aB.mpr m)
   .exact L2.mono W.le W.pre λb m=>M b (aN _ m)
   .intro a u nl H
    rw[L a H,X a H,z a u,hR a u nl H]
  .have L4:Ar w g4 G Y lk t:=L2.mono W.le W.pre λb m=>by
    have V:¬x8 f b:=Bx ap (aN _ m);rw[L b V,X b V]
   refine k2 v s4 g4 (Cd (Cd G y) t) Y d4 (f0.wW lk) (((ex.trans x2).trans x3).trans W) ?_ (b0 G λa u nl H=>by rw[L a H,X a H,z a u,hR a u nl H]) rd hp;have G5:=(G4.yC (IL G y));refine G5.wW (L4.mono (bM _) (aE _) λb m=>?_);unfold Cd;rw[J (e0 b m)]
 .subst i0
  have t0:R2=Cd C y:=by funext a;exact z a
  have F2:FS w T R2 l i f j s2.heap:=⟨G2,same R2 (bM _) λa u=>by rw[z a,J u]⟩;have L2:Ar w T R2 l lk t:=L'.mono (bM _) (aE _) λb m=>by rw[z b,J (e0 b m)]
  have F3:=F2.wW L2 o0 p0;refine U (k1 s2 T (Cd R2 t) l j (i.wW lk) (ex.trans x2) F3 (λa H=>?_) (done _ _ hI));rw[t0];exact b0 C hR a H
theorem SE.Xr(I:Nat->Md->St->Prop)(l:IT w A a n o tg lk (eval g a) ds)(p:I 0 n (o.xy lk))(step:∀k d f c,ds[k]? =some d->I k f c->∃i,AS w A a f c b d i/\SE w A a i c (execs j a) (λm h=>I (k+1) m h) (λd h=>P d (h.wW lk)))(done:∀f c,I ds.length f c->N f (c.wW lk))(q:tg b:=by trivial)(r:∀x,foldedSetIterable g a x=pure x:=by intro _;rfl):SE w A a n o (exec (.For b g j [] s) a) N P:=SE.TS l.x (λt e=>by subst e;exact⟨I,p,step,done⟩) q r
def iD:=@SE.Xr
theorem SE.T4(I:Nat->Md->St->Prop)(M:Nat)(h0:I M R S)(step:∀n c d,I n c d->∃b,PB w A e c d (isTrue h e (eval h e)) b/\(b=true->SE w A e c d (execs r e) (λG H=>∃m,m<n/\I m G H) P)/\(b=false->N c d)):SE w A e R S (exec (.While h r [] a0) e) N P:=by
 intro g T V s0 E Q F k1 k2;apply wpAny_While;let Inv:Nat->Yy->Prop:=λn s=>∃c d t o f,Gr s0 g V s t f/\FS w t o f d e c s.heap/\(∀a,¬x8 e a->o a=T a)/\I n c d;refine codeAny_whileLoop Inv ?_ M ⟨R,S,g,T,V,eU _ _ _,F,λ_ _=>rfl,h0⟩;rintro n s ⟨c,d,t,o,f,ex,F',u,hI⟩;let⟨b,pb,h1,h2⟩:=step n c d hI;refine pb t o f s _ _ F' λW X q x Y=>?_;cases b with
 |false=>
  simp only[aA,bz];exact U (k1 W X o q c d (ex.trans x) Y u (h2 rfl))
 |true=>
  simp only[cE];refine h1 rfl X o q W _ _ Y (λs4 y z i L j C F4 k l=>?_) λv s4 y z i d4 j C G4 k rd hp=>?_
  .let⟨m,hm,l⟩:=l
   exact⟨m,hm,L,j,y,z,i,(ex.trans x).trans C,F4,λa p=>by rw[k a p,u a p],l⟩
  .exact k2 v s4 y z i d4 j ((ex.trans x).trans C) G4 (λa p=>by rw[k a p,u a p]) rd hp
def nv:=@SE.T4
def Md.le(a b:Md):Prop:=∀x d,a.lookup x=some d->b.lookup x=some d
theorem Md.le.nil:Md.le [] b:=λ_ _ h=>by cases h
def iH:=@Md.le.nil
theorem Md.le.cons(h:b.lookup x=some d)(r:Md.le a b):Md.le ((x,d)::a) b:=λy e q=>by
 rw[bH]at q;by_cases c:y=x
 .subst c;rw[B rfl]at q;cases q;exact h
 .rw[J c]at q;exact r y e q
def gX:=@Md.le.cons
theorem SE.shrink(h:SE w A d i j t (λc b=>∃a,Md.le a c/\N a b) P):SE w A d i j t N P:=
 λg R k s E Q F l m=>h g R k s E Q F (λo p q e c b x f r n=>by
  let⟨a,u,n⟩:=n;exact l o p q e a b x ⟨f.G,f.F.yC u⟩ r n) m
def dj:=@SE.shrink
theorem Et{K:Str->Option NameKind}:∀(a:Ye) (b:Yc) (m:Str->Yn),x∉a->bindL K (a.zip b) m x=m x
 |[],_,_,_=>rfl
 |_::_,[],_,_=>rfl
 |n::a,v::b,m,h=>by
  show bindL K (a.zip b) _ x=m x;rw[Et a b _ λq=>h (.tail _ q)];split
  .exact J (by rintro rfl;exact h (.head _))
  .rfl
theorem Eu{K:Str->Option NameKind}:∀(a:Ye) (b:Yc) (m:Str->Yn),x∉a->bindC K (a.zip b) m x=m x
 |[],_,_,_=>rfl
 |_::_,[],_,_=>rfl
 |n::a,v::b,m,h=>by
  show bindC K (a.zip b) _ x=m x;rw[Eu a b _ λq=>h (.tail _ q)];split
  .rfl
  .exact J (by rintro rfl;exact h (.head _))
theorem Bp{K:Str->Option NameKind}:∀{a:Ye} {b:Yc} {e:Yb},wR w g i b e->a.Nodup->(a.zip e).lookup x=some d->∀(m j:Str->Yn),(K x=some .local->∃v,bindL K (a.zip b) m x=some v/\Rd w g i v d)/\(K x≠some .local->∃v,bindC K (a.zip b) j x=some v/\Rd w g i v d)
 |[],_,_,_,_,h,_,_=>by cases h
 |n::a,_,_,.nil,_,h,_,_=>by cases h
 |n::a,_,_,.cons (v:=v) (d:=p) (vs:=b) (ds:=e) r q,l,h,m,j=>by
  rw[kF,bH]at h;let⟨k,o⟩:=bx.mp l;by_cases c:x=n
  .subst c
   simp only[cE]at h;cases h;refine⟨λf=>⟨v,?_,r⟩,λf=>⟨v,?_,r⟩⟩
   .show bindL K (a.zip b) _ x=some v
    rw[Et a b _ k,B f,B rfl]
   .show bindC K (a.zip b) _ x=some v
    rw[Eu a b _ k,J f,B rfl]
  .rw[J c]at h
   exact Bp q o h _ _
def zQ(R:YH)(l:X_)(h:YI):YH:=λa=>if a∈l then h.get? a else R a
theorem GS.zQ(G:GS w g R i j h)(k:∀b o,h.get? b=some o->h'.get? b=some o)(m:∀a∈l,h.get? a=none):GS w g (zQ R l h') i j h':=by
 have d:∀b o,h.get? b=some o->b∉l:=λb o e q=>by rw[m b q]at e;cases e
 refine⟨G.base,λb o e=>k _ _ (G.sub b o e),?_,λb o e=>?_,?_,G.inj,G.low⟩
 .intro b o e
  unfold Mine.zQ at e;split at e
  .exact e
  .exact k _ _ (G.rest b o e)
 .unfold Mine.zQ
  rw[J (d b o (G.sub b o e))];exact G.gR b o e
 .intro n c q
  let⟨a,x,e1,f,p,r,s⟩:=G.cell n c q;refine⟨a,x,e1,k _ _ f,p,r,?_⟩;unfold Mine.zQ;rw[J (d a x f)];exact s
structure yX(fd:FuncData)(a:YB)(env:Env):Prop where
 scope:env.scope=fd.scope
 func:env.func=some a
 code:env.code=fd.code
theorem CF.enter{E:List Stmt}{i:Ye}(hk:BI w a j)(hc:codeIn (KF w) j.code j.qualname=true)(V:j.body= .stmts E)(f0:j.closure=[])(k0:j.globals=mainGlobals)(l0:j.builtins=builtinsNs)(c0:j.scope.kind= .function)(m0:j.scope.isCoroutine=false)(n0:j.scope.isGenerator=false)(o0:∀x,j.scope.names.lookup x≠some .free)(p0:j.scope.names.lookup ("__classdict__":Str)=none)(q0:j.scope.names.map (·.1) |>.Nodup)(a0:∀vs:Yc,vs.length=F.length->bindArgs j ⟨vs,[]⟩=pure (i.zip vs))(d0:i.Nodup)(u:∀x∈i,j.scope.names.lookup x=some .local\/j.scope.names.lookup x=some .cell)(h:∀A f,we n A->yX j a f->SE w A f (i.zip F) σ (execs E f) (λ_ C=>P .none C) P):CF w (n+1) (.ref a) F σ P:=by
 intro A hr g R ρ s vs RR G rv k;have g0:=rv.length;have X:∀L x,j.scope.names.lookup x=some .cell->((cellsFrom L j.scope.names []).lookup x).isSome=true:=by
  have r0:∀l L H x,(l.lookup x=some .cell\/(H.lookup x).isSome=true)->(l.map (·.1)).Nodup->((cellsFrom L l H).lookup x).isSome=true:=by
   intro l;induction l with
   |nil=>intro L H x h _;rcases h with h|h;cases h;exact h
   |cons p r ih=>
    let⟨nm,kd⟩:=p;intro L H x h nd;let⟨n1,n2⟩:=bx.mp nd;unfold cellsFrom;by_cases c:x=nm
    .subst c
     rcases h with h|h
     .rw[bH,B rfl]at h
      cases h
      rw[B (by decide)];exact ih _ _ _ (.inr (by rw[bH,B rfl];rfl)) n2
     .split
      .exact ih _ _ _ (.inr (by rw[bH,B rfl];rfl)) n2
      .exact ih _ _ _ (.inr h) n2
    .rw[bH,J c]at h
     split
     .refine ih _ _ _ (h.imp id λh=>?_) n2
      rw[bH,J c];exact h
     .exact ih _ _ _ h n2
  exactλL x hx=>r0 _ L [] x (.inl hx) q0
 refine codeAny_call_cells (body:=E) hr.lim (G.ok.k _ _ hk) rfl G.ok.lim (codeRec_of G.ok.k hc) V (a0 vs g0) f0 ?_ (λM x=>?_) m0 n0 c0
 .intro p hp
  have hm:p.1∈i:=(g9 hp).1;exact(u _ hm).imp id λe=>⟨e,X _ _ e⟩
 .generalize hE:callEnvC j s.heap.objs.size a=f at x⊢
  have Q:yX j a f:=by subst hE;exact⟨rfl,rfl,rfl⟩
  have e0:f.scope=j.scope:=Q.scope;have S:f.locals=s.heap.objs.size:=by subst hE;rfl
  have z:f.cells=cellsFrom (s.heap.objs.size+1) j.scope.names []:=by subst hE;rfl
  have h0:f.globals=mainGlobals:=by subst hE;exact k0
  have i0:f.builtins=builtinsNs:=by subst hE;exact l0
  have m:∀y,f.kindOf y=j.scope.names.lookup y:=λy=>by unfold Env.kindOf;rw[e0]
  have j0:=x.toInCall.keep;have same:=x.toInCall.same;have fresh:∀c,s.heap.objs.size<=c->s.heap.get? c=none:=λc=>cu;let l:=f.locals::f.cells.map (·.2);have N:∀b∈l,s.heap.get? b=none:=by
   intro b V;rcases aG.mp V with rfl|V
   .exact fresh _ (sI S.symm)
   .obtain⟨p,hp,rfl⟩:=aa.mp V
    have:=x.above p.1 p.2 hp;rw[S]at this;exact fresh _ (l_ this)
  have G1:=G.zQ j0 N;have inl:∀y c,f.cells.lookup y=some c->c∈l:=λy c e=>bV _ (aa.mpr ⟨(y,c),mem_of_lookup e,rfl⟩);have I:∀b∈l,zQ R l M.heap b=M.heap.get? b:=λb V=>B V;have F1:FS w g (zQ R l M.heap) ρ σ f (i.zip F) M.heap:=by
   refine⟨G1,⟨by rw[e0];exact c0,h0,i0,?_,?_,?_,x.apart,λy c e=>fq (x.above y c e),by rw[m];exact p0,?_,λy q=>absurd (by rw[<-m];exact q) (o0 y)⟩⟩
   .let⟨o,es,ep,h1,h2,h3,h4⟩:=x.toInCall.ns
    refine⟨o,es,ep,_,(I _ (.head _)).trans h1,h2,h3,h4,λy d hy N=>?_⟩;exact(Bp rv d0 hy _ (λ_=>none)).1 N
   .intro y d hy N
    have nl:f.kindOf y≠some .local:=by rcases N with q|q<;>rw[q]<;>decide
    have hm:y∈i:=(g9 (mem_of_lookup hy)).1;have b0:f.kindOf y=some .cell:=by
     rw[m]at nl⊢;exact(u y hm).resolve_left nl
    let⟨c,t⟩:=aT.mp (X (s.heap.objs.size+1) y (by rw[<-m];exact b0));rw[<-z]at t;let⟨v,hv,rd⟩:=(Bp rv d0 hy (λ_=>none) (λ_=>none)).2 nl;let⟨o,ho,hd⟩:=x.cell y c t;rw[hv]at hd;exact⟨c,o,v,t,(I _ (inl y c t)).trans ho,hd,rd⟩
   .intro y N
    let⟨c,t⟩:=aT.mp (X (s.heap.objs.size+1) y (by rw[<-m];exact N));rw[<-z]at t;let⟨o,ho,hd⟩:=x.cell y c t;exact⟨c,o,_,t,(I _ (inl y c t)).trans ho,hd⟩
   .intro y c e
    let⟨o,ho,_⟩:=x.cell y c e;exact .inl ⟨o,(I _ (inl y c e)).trans ho⟩
  have x1:Gr s g ρ M g ρ:=by obtain⟨h',tk,rfl⟩:=same;exact cA
  have T:∀W,(∀b,¬x8 f b->W b=zQ R l M.heap b)->View.le R W:=by
   intro W hR b o e;have nb:b∉l:=λq=>by rw[G.yt (N b q)]at e;cases e
   rw[hR b,show zQ R l M.heap b=R b from J nb]
   .exact e
   .rintro(q|⟨y,_,q⟩)
    .exact nb (by rw[q];exact .head _)
    .exact nb (inl y b q)
  refine h _ f (hr.deeper f) Q g _ ρ M _ _ F1 (λs' g' W Y s0 C x F' so n=>?_) λv s' g' W Y d C x G' so rd hp=>?_
  .exact k .none s' g' Y .none C (x1.trans x) (F'.G.yC (T W so)) .none n
  .exact k v s' g' Y d C (x1.trans x) (G'.yC (T W so)) rd hp
theorem PF.V_(h:CF w n f b c (λe a=>e=d/\St.le c a)):PF w n f b c d:=by
 intro A j g R l s m o G p k;refine h A j g R l s m o G p λv t u i e a x y r q=>?_;obtain⟨rfl,q⟩:=q;exact k v t u i e c x (y.restrict q) r ⟨rfl,rfl⟩
def eF:=@PF.V_
def xm:FuncBody->List Stmt
 | .stmts b=>b
 | .expr _=>[]
structure wK(w:Yz)(a:YB)(fd:FuncData)(names:Ye):Prop where
 k:BI w a fd
 c:codeIn (KF w) fd.code fd.qualname=true
 b:fd.body= .stmts (xm fd.body)
 Qo:fd.closure=[]
 gl:fd.globals=mainGlobals
 bi:fd.builtins=builtinsNs
 fn:fd.scope.kind= .function
 co:fd.scope.isCoroutine=false
 ge:fd.scope.isGenerator=false
 fr:(fd.scope.names.all λp=>p.2 !=.free)=true
 cd:fd.scope.names.lookup ("__classdict__":Str)=none
 ns:(fd.scope.names.map (·.1)).Nodup
 nl:names.Nodup
 kinds:(names.all λx=>fd.scope.names.lookup x==some .local||fd.scope.names.lookup x==some .cell)=true
theorem CF.fn{b:Ye}(o:wK w a f b)(e:∀g:Yc,g.length=c.length->bindArgs f ⟨g,[]⟩=pure (b.zip g))(h:∀A d,we n A->yX f a d->SE w A d (b.zip c) j (execs (xm f.body) d) (λ_ i=>P .none i) P):CF w (n+1) (.ref a) c j P:=
 CF.enter o.k o.c o.b o.Qo o.gl o.bi o.fn o.co o.ge (λx q=>by have:=dz.mp o.fr _ (mem_of_lookup q);simp at this) o.cd o.ns e o.nl (λx k=>by
  have:=dz.mp o.kinds x k;simpa using this) h
mutual
def D.Ao:D->PyData
 | .int i=>.int i
 | .str s=>.str s
 | .vV l=>.tuple (yG l)
 | .vK l=>.list (yG l)
 |_=>.none
def yG:Yb->List PyData
 |[]=>[]
 |d::r=>D.Ao d::yG r
end
mutual
def D.pl:D->Nat->Bool
 | .none,_=>true
 | .int _,_=>true
 | .str s,_=>PyData.strOk s
 | .vV l,k+1=>yJ l k
 | .vK l,k+1=>yJ l k
 |_,_=>false
def yJ:Yb->Nat->Bool
 |[],_=>true
 |d::r,k=>D.pl d k&&yJ r k
end
theorem Kd:∀{l:Yb},yJ l k=true↔∀d∈l,d.pl k=true
 |[]=>by simp[yJ]
 |d::r=>by simp[yJ,Kd (l:=r)]
def jF:=@Kd
mutual
theorem Rd.xY(sub:∀a o,g a=some o->h.get? a=some o):∀{v:Yx} {d:D} {k:Nat},Rd w g l v d->d.pl k=true->∃c,Reads h v d.Ao c
 |_,_,_,.none,_=>⟨_,.none⟩
 |_,_,_,.bool b,e=>by simp[D.pl]at e
 |_,_,_,.int i t,_=>⟨_,.int i t⟩
 |_,_,_,.str s t,_=>⟨_,.str s t⟩
 |_,_,0,.vV q r,e=>by simp[D.pl]at e
 |_,_,k+1,.vV q r,e=>by
  simp only[D.pl]at e;let⟨n,q⟩:=q;let⟨c,j⟩:=wR.xY sub r e;exact⟨_,.tuple (sub _ _ q) rfl rfl j⟩
 |_,_,0,.vK q r,e=>by simp[D.pl]at e
 |_,_,k+1,.vK q r,e=>by
  simp only[D.pl]at e;let⟨n,q⟩:=q;let⟨c,j⟩:=wR.xY sub r e;exact⟨_,.list (sub _ _ q) rfl rfl j⟩
 |_,_,_,.wc q r f,e=>by simp[D.pl]at e
 |_,_,_,.ref q,e=>by simp[D.pl]at e
 |_,_,_,.zR q,e=>by simp[D.pl]at e
theorem wR.xY(sub:∀a o,g a=some o->h.get? a=some o):∀{v:Yc} {d:Yb} {k:Nat},wR w g i v d->yJ d k=true->∃b,ReadsAll h v (yG d) b
 |_,_,_,.nil,_=>⟨_,.nil⟩
 |_,_,_,.cons r q,e=>by
  simp only[yJ,bN]at e;let⟨b,c⟩:=Rd.xY sub r e.1;let⟨j,f⟩:=wR.xY sub q e.2;exact⟨_,.cons c f⟩
end
mutual
theorem D.lay:∀{d:D} {k:Nat},d.pl k=true->d.Ao.canLay0=true/\d.Ao.depth<=k
 | .none,_,_=>by simp[D.Ao,PyData.canLay0,PyData.depth]
 | .int _,_,_=>by simp[D.Ao,PyData.canLay0,PyData.depth]
 | .str _,_,e=>by simp only[D.pl]at e;simp[D.Ao,PyData.canLay0,PyData.depth,e]
 | .vV l,0,e=>by simp[D.pl]at e
 | .vK l,0,e=>by simp[D.pl]at e
 | .vV l,k+1,e=>by simp only[D.pl]at e;have:=AJ e;simp only[D.Ao,PyData.canLay0,PyData.depth];exact⟨this.1,by omega⟩
 | .vK l,k+1,e=>by simp only[D.pl]at e;have:=AJ e;simp only[D.Ao,PyData.canLay0,PyData.depth];exact⟨this.1,by omega⟩
 | .bool _,_,e=>by simp[D.pl]at e
 | .wc _,_,e=>by simp[D.pl]at e
 | .ref _,_,e=>by simp[D.pl]at e
 | .zR _ _,_,e=>by simp[D.pl]at e
theorem AJ:∀{l:Yb} {k:Nat},yJ l k=true->PyData.canLayAll0 (yG l)=true/\PyData.depthAll (yG l)<=k
 |[],_,_=>by simp[yG,PyData.canLayAll0,PyData.depthAll]
 |d::r,k,e=>by
  simp only[yJ,bN]at e;have a:=D.lay e.1;have b:=AJ e.2;simp only[yG,PyData.canLayAll0,PyData.depthAll,a.1,b.1,q8,true_and];omega
end
mutual
theorem D.eqv:∀{a b:D} {k m:Nat},a.pl k=true->b.pl m=true->(PyData.eqv a.Ao b.Ao=true↔a=b)
 | .none,b,k,m,c,d=>by cases b<;>simp_all[D.Ao,PyData.eqv,D.pl]
 | .int i,b,k,m,c,d=>by cases b<;>simp_all[D.Ao,PyData.eqv,D.pl]
 | .str i,b,k,m,c,d=>by cases b<;>simp_all[D.Ao,PyData.eqv,D.pl]
 | .vV l,b,0,m,c,d=>by simp[D.pl]at c
 | .vK l,b,0,m,c,d=>by simp[D.pl]at c
 | .vV l,b,k+1,m,c,d=>by
  cases b with
  |vV f=>
   cases m with
   |zero=>simp[D.pl]at d
   |succ m=>
    simp only[D.pl]at c d;simp only[D.Ao,PyData.eqv,E6 c d,D.vV.injEq]
  |_=>simp_all[D.Ao,PyData.eqv,D.pl]
 | .vK l,b,k+1,m,c,d=>by
  cases b with
  |vK f=>
   cases m with
   |zero=>simp[D.pl]at d
   |succ m=>
    simp only[D.pl]at c d;simp only[D.Ao,PyData.eqv,E6 c d,D.vK.injEq]
  |_=>simp_all[D.Ao,PyData.eqv,D.pl]
 | .bool _,_,_,_,e,_=>by simp[D.pl]at e
 | .wc _,_,_,_,e,_=>by simp[D.pl]at e
 | .ref _,_,_,_,e,_=>by simp[D.pl]at e
 | .zR _ _,_,_,_,e,_=>by simp[D.pl]at e
theorem E6:∀{a b:Yb} {k m:Nat},yJ a k=true->yJ b m=true->(PyData.eqvAll (yG a) (yG b)=true↔a=b)
 |[],[],_,_,_,_=>by simp[yG,PyData.eqvAll]
 |[],_::_,_,_,_,_=>by simp[yG,PyData.eqvAll]
 |_::_,[],_,_,_,_=>by simp[yG,PyData.eqvAll]
 |x::e,y::f,k,m,c,d=>by
  simp only[yJ,bN]at c d;simp only[yG,PyData.eqvAll,bN,D.eqv c.1 d.1,E6 c.2 d.2,pX]
end
inductive FQ(σ:St):D->D->Prop
 |d {d:D}:d.pl 20=true->FQ σ d d
 |c {n:Nat} {ds:Yb}:σ.μ n=some (.vK ds)->(D.vK ds).pl 20=true->FQ σ (.ref n) (.vK ds)
theorem GS.xY{s:Yy}(G:GS w g R h i s.heap)(r:Rd w g h v d)(p:FQ i d b):(∃f,Reads s.heap v b.Ao f)/\b.pl 20=true:=by
 cases p with
 |d p=>exact⟨r.xY G.sub p,p⟩
 |c e p=>
  refine⟨?_,p⟩;obtain⟨a,o,rfl,_,j,k⟩:=G.name e r;cases k with
  |vK q=>
   let⟨f,l⟩:=q.xY G.sub (k:=19) (by simpa[D.pl]using p);exact⟨_,.list j rfl rfl l⟩
theorem Uq{n:Nat}(h:we n A)(i:FQ a j e1)(l:FQ a m c)(o:b=true↔e1=c):y9 w A a (compareOp .Eq) j m (.bool b):=by
 intro g R p s y z E Q G q r k;let⟨⟨C,t⟩,d⟩:=G.xY q i;let⟨⟨F,u⟩,f⟩:=G.xY r l;have v:=D.lay d;have x:=D.lay f;apply SeqAt.compareEq_reads t u v.1 x.1 (by have:=h.units;show A.units+_<9900;omega);have e:PyData.eqv e1.Ao c.Ao=b:=by
  rw[jR,D.eqv d f,o]
 rw[e];exact k _ _ g p (eU _ _ _) G (.bool _)
def uI:=@Uq
theorem Iz{n:Nat}(h:we n A)(i:FQ a j e1)(l:FQ a m c)(o:b=true↔e1≠c):y9 w A a (compareOp .NotEq) j m (.bool b):=by
 intro g R p s q r E Q G t u k;let⟨⟨v,x⟩,d⟩:=G.xY t i;let⟨⟨y,z⟩,f⟩:=G.xY u l;have C:=D.lay d;have F:=D.lay f;have e:(!PyData.eqv e1.Ao c.Ao)=b:=by
  rw[jR,o,jk,<-pB,D.eqv d f]
 apply SeqAt.neOverData pw w A E s q r _ _ v y Q x z C.1 F.1 (by have:=h.units;show A.units+_<9900;omega);rw[e];exact k _ _ g p (eU _ _ _) G (.bool _)
theorem CP{n:Nat}(j:we n A){s:Yy}{c d:Yx}{e f:D}{k m:Nat}{E:X0}{Q:Bool->Yy->Prop}(sub:∀a o,g a=some o->s.heap.get? a=some o)(l:Rd w g p c e)(r:Rd w g p d f)(h:e.pl 20=true)(i:f.pl 20=true)(q:∀b:Bool,(b=true↔e=f)->Q b s):wpAny (model pw w) A (eqBool c d) Q E s:=by
 obtain⟨t,u⟩:=l.xY sub h;obtain⟨v,x⟩:=r.xY sub i;have y:=D.lay h;have z:=D.lay i;exact uv pw w A E s c d _ _ t v Q u x y.1 z.1 (by have:=j.units;show A.units+_<9900;omega) (q _ (D.eqv h i))
mutual
def D.draws:D->Nat
 | .vV l=>z9 l+1
 |_=>1
def z9:Yb->Nat
 |[]=>0
 |d::r=>D.draws d+z9 r
end
theorem BY:∀{l:Yb},A2 l=true↔∀d∈l,d.hk=true
 |[]=>by simp[A2]
 |d::r=>by simp[A2,BY (l:=r)]
theorem Ei:∀{l:Yb},JY w l=l.map (wD w)
 |[]=>rfl
 |d::r=>by simp[JY,Ei (l:=r)]
theorem HJ(h:Q 0xFCA86420 {s with toks:=s.toks+1}):wpAny (model pw w) A (pyHash .none) Q E s:=by
 unfold pyHash;have b:[Value.none].any Value.onHeap=false:=rfl;apply Z;rw[cRoomFor,J (by rw[b];exact cD)];refine U ?_;have a:s.TypeIs .none "NoneType":=typeIs_none s;refine Z (cL a jK.lookup ?_);show wpAny _ _ (if(some (Value.builtin "NoneType.__hash__")==some Value.none)=true then _ else _) Q E s;rw[J (by rw[lI];exact cD)];refine Z (cL a jK.lookup ?_);show wpAny _ _ (callSpecialIfBoundUnlessNone? .none "__hash__" _>>=_) Q E s;refine Z (mL a jK
  (bL jK a F.entry_NoneType_hash
   (show wpAny _ _ (do ret (<-mkInt 0xFCA86420)) _ _ s from wpAny_ret_mkInt ?_) (F.args_NoneType_hash_1 _)))
 show wpAny _ _ (if(decide (-(2:Int)^63<=0xFCA86420)&&decide (0xFCA86420<(2:Int)^63))=true then _ else _) Q E _;rw[B (by decide)];exact U h
theorem GC:∀(k:Nat) {A:YA} {s:Yy} {v:Yx} {d:D} {E:X0} {Q:Int->Yy->Prop} {g:YH} {ρ:X_},(∀a o,g a=some o->s.heap.get? a=some o)->Rd w g ρ v d->d.pl k=true->d.hk=true->A.units+k<9800->Q (wD w d) {s with toks:=s.toks+d.draws}->wpAny (model pw w) A (pyHash v) Q E s
 |k,A,s,v,.none,E,Q,g,ρ,sub,r,e,c,f,h=>by rw[r.z_];exact HJ (by simpa[wD,D.draws]using h)
 |k,A,s,v,.int i,E,Q,g,ρ,sub,r,e,c,f,h=>by
  obtain⟨t,rfl⟩:=r.vX;exact(intKind pw w).pyHash (k:=i) (by simp[intKind,Value.isInt]) (by simpa[wD,D.draws]using h)
 |k,A,s,v,.str i,E,Q,g,ρ,sub,r,e,c,f,h=>by
  obtain⟨t,rfl⟩:=r.wF;exact(PySem.strKind pw w).pyHash (k:=i) (by simp[PySem.strKind,Value.isStrOf]) (by simpa[wD,D.draws]using h)
 |0,A,s,v,.vV l,E,Q,g,ρ,sub,r,e,c,f,h=>by simp[D.pl]at e
 |k+1,A,s,_,.vV l,E,Q,g,ρ,sub,.vV q r,e,c,f,h=>by
  rename_i a L;let⟨n,q⟩:=q;have M:=sub _ _ q;have u:s.TypeIs (.ref a) "tuple":=⟨_,M,rfl⟩;simp only[D.pl]at e;simp only[D.hk]at c;have H:=jF.mp e;have I:=BY.mp c;unfold pyHash;unfold pyHashByItsType;refine Z (wpAny_cRoomFor_or (.inr (by show A.units<9900;omega)) ?_);refine Z (cL u jl.lookup ?_);show wpAny _ _ (if(some (Value.builtin "tuple.__hash__")==some Value.none)=true then _ else _) Q E s;rw[J (by rw[lI];exact cD)];refine Z (cL u jl.lookup ?_);show wpAny _ _ (callSpecialIfBoundUnlessNone? (.ref a) "__hash__" _>>=_) Q E s;refine Z (mL u jl (bL jl u F.entry_tuple_hash ?_ (F.args_tuple_hash_1 _)));show wpAny _ _ (Builtin.Tuple.tupleItemsOf (.ref a)>>=_) _ _ s;refine Z (nX M rfl ?_);apply Z;rw[<-kG];refine iK _
   (λj (b:Array Int) C=>∃done left,l=done++left/\wR w g ρ j left/\b.toList=done.map (wD w)/\C={s with toks:=s.toks+z9 done})
   _ ?_ ?_ _ _ ⟨[],l,rfl,by simpa using r,rfl,by simp[z9]⟩
  .rintro x j b C ⟨done,left,rfl,G,y,rfl⟩
   cases G with
   |cons P m=>
    rename_i d N;refine Z (GC k (g:=g) (ρ:=ρ) (d:=d) sub P (H _ (by simp)) (I _ (by simp)) (by show A.units+1+k<9800;omega) ?_);have p:∀l,z9 (l++[d])=z9 l+d.draws:=by
     intro l;induction l with
     |nil=>simp[z9]
     |cons x r R=>simp only[List.cons_append,z9,R];omega
    first
     |exact U ⟨done++[d],N,by simp,m,by simp[y],by rw[p,kY]⟩
     |exact Z (U (U ⟨done++[d],N,by simp,m,by simp[y],by rw[p,kY]⟩))
  .rintro b C ⟨done,left,rfl,G,y,rfl⟩
   cases G
   rw[d7]at h;show wpAny _ _ (retInt (Builtin.Tuple.tupleHashOf b.toList)) _ _ _;rw[y];apply wpAny_ret_mkInt;show wpAny _ _ (if(decide (-(2:Int)^63<=Builtin.Tuple.tupleHashOf (done.map (wD w)))&&decide (Builtin.Tuple.tupleHashOf (done.map (wD w))<2^63))=true then _ else _) Q E _;rw[wD,Ei]at h;unfold reduceHash at h;by_cases z:(decide (-(2:Int)^63<=Builtin.Tuple.tupleHashOf (done.map (wD w)))&&decide (Builtin.Tuple.tupleHashOf (done.map (wD w))<2^63))=true
   .rw[B z]
    rw[B z]at h;exact U (by simpa[kY,D.draws]using h)
   .rw[J z]
    rw[J z]at h;exact Z (dO (U (by simpa[kY,D.draws]using h)))
 |k,A,s,v,.bool b,E,Q,g,ρ,sub,r,e,c,f,h=>by simp[D.hk]at c
 |k,A,s,v,.vK l,E,Q,g,ρ,sub,r,e,c,f,h=>by simp[D.hk]at c
 |k,A,s,v,.wc l,E,Q,g,ρ,sub,r,e,c,f,h=>by simp[D.hk]at c
 |k,A,s,v,.ref l,E,Q,g,ρ,sub,r,e,c,f,h=>by simp[D.hk]at c
 |k,A,s,v,.zR _ _,E,Q,g,ρ,sub,r,e,c,f,h=>by simp[D.hk]at c
def tM:=@GC
theorem BU:∀(k m:Nat) {A:YA} {s:Yy} {v:Yx} {d:D} {E:X0} {Q:Bool->Yy->Prop} {g:YH} {ρ:X_},(∀a o,g a=some o->s.heap.get? a=some o)->Rd w g ρ v d->d.pl k=true->d.hk=true->k<=m->Q true s->wpAny (model pw w) A (eqIsQuiet m v) Q E s
 |k,m,A,s,v,.none,E,Q,g,ρ,sub,r,e,c,j,h=>by rw[r.z_,oJ _ rfl];exact U h
 |k,m,A,s,v,.int i,E,Q,g,ρ,sub,r,e,c,j,h=>by
  obtain⟨t,rfl⟩:=r.vX;rw[oJ _ rfl];exact U h
 |k,m,A,s,v,.str i,E,Q,g,ρ,sub,r,e,c,j,h=>by
  obtain⟨t,rfl⟩:=r.wF;rw[oJ _ rfl];exact U h
 |0,m,A,s,v,.vV l,E,Q,g,ρ,sub,r,e,c,j,h=>by simp[D.pl]at e
 |k+1,0,A,s,v,.vV l,E,Q,g,ρ,sub,r,e,c,j,h=>by omega
 |k+1,m+1,A,s,_,.vV l,E,Q,g,ρ,sub,.vV q r,e,c,j,h=>by
  rename_i a x;let⟨n,q⟩:=q;have N:=sub _ _ q;have P:s.TypeIs (.ref a) "tuple":=⟨_,N,rfl⟩;simp only[D.pl]at e;simp only[D.hk]at c;have G:=jF.mp e;have H:=BY.mp c;unfold eqIsQuiet;refine Z (cL P F.slot_tuple_eq.lookup ?_);show wpAny _ _ (isInstance (.ref a) (.type "tuple")>>=_) _ _ s;refine Z (gP P s9 ?_);simp only[c8,aA,bz];refine Z (dX N rfl ?_);apply Z;show wpAny _ _ (forIn x.toArray _ _) _ _ s;rw[<-kG];refine iK _ (λp r z=>r.1=none/\z=s/\∃y,wR w g ρ p y/\∀d∈y,d.pl k=true/\d.hk=true) _ ?_ ?_ _ _ ⟨rfl,rfl,l,by simpa using r,λd hd=>⟨G d hd,H d hd⟩⟩
  .rintro v p r z ⟨C,rfl,y,I,f⟩
   cases I with
   |cons R L=>
    rename_i d y;refine Z (BU k m (g:=g) (ρ:=ρ) (d:=d) sub R (f _ (by simp)).1 (f _ (by simp)).2 (by omega) ?_);simp only[c8,aA,bz];exact U ⟨rfl,rfl,y,L,λu M=>f u (bV _ M)⟩
  .rintro⟨S,T⟩ z ⟨C,rfl,_⟩
   simp only at C;subst C;exact U h
 |k,m,A,s,v,.bool b,E,Q,g,ρ,sub,r,e,c,j,h=>by simp[D.hk]at c
 |k,m,A,s,v,.vK l,E,Q,g,ρ,sub,r,e,c,j,h=>by simp[D.hk]at c
 |k,m,A,s,v,.wc l,E,Q,g,ρ,sub,r,e,c,j,h=>by simp[D.hk]at c
 |k,m,A,s,v,.ref l,E,Q,g,ρ,sub,r,e,c,j,h=>by simp[D.hk]at c
 |k,m,A,s,v,.zR _ _,E,Q,g,ρ,sub,r,e,c,j,h=>by simp[D.hk]at c
def D.kd:D->Yo
 | .int _=>.some 0
 | .str _=>.some 1
 | .vV l=>if A2 l&&yJ l 7 then .some 2 else Option.none
 |_=>Option.none
def wG(c:Nat)(l:Yh):Prop:=∀p∈l,p.1.kd=some c
theorem U0(h:(D.vV l).kd=some c):c=2/\A2 l=true/\yJ l 7=true:=by
 simp only[D.kd]at h;by_cases q:(A2 l&&yJ l 7)=true
 .rw[B q]at h
  simp only[bN]at q;exact⟨(dI h).symm,q.1,q.2⟩
 .rw[J q]at h;cases h
def j_:=@U0
mutual
theorem Rd.DQ(k:∀a o,g a=some o->(∃b n,o.data= .seq b n)->c a=some o):∀{v:Yx} {d:D},Rd w g h v d->d.hk=true->Rd w c f v d
 |_,_,.none,_=>.none
 |_,_,.int i t,_=>.int i t
 |_,_,.str i t,_=>.str i t
 |_,_,.vV q r,e=>by
  let⟨n,q⟩:=q;exact .vV ⟨n,k _ _ q ⟨_,_,rfl⟩⟩ (wR.DQ k r (by simpa[D.hk]using e))
 |_,_,.bool _,e=>by simp[D.hk]at e
 |_,_,.vK _ _,e=>by simp[D.hk]at e
 |_,_,.wc _ _ _,e=>by simp[D.hk]at e
 |_,_,.ref _,e=>by simp[D.hk]at e
 |_,_,.zR _,e=>by simp[D.hk]at e
theorem wR.DQ(k:∀a o,g a=some o->(∃b n,o.data= .seq b n)->c a=some o):∀{v:Yc} {d:Yb},wR w g h v d->A2 d=true->wR w c f v d
 |_,_,.nil,_=>.nil
 |_,_,.cons r q,e=>by
  simp only[A2,bN]at e;exact .cons (Rd.DQ k r e.1) (wR.DQ k q e.2)
end
mutual
theorem Rd.F9:∀{v:Yx} {d c:D},Rd w g h v d->Rd w g h v c->d.hk=true->c.hk=true->d=c
 |_,_,_,.none,.none,_,_=>rfl
 |_,_,_,.int _ _,.int _ _,_,_=>rfl
 |_,_,_,.str _ _,.str _ _,_,_=>rfl
 |_,_,_,.vV q r,.vV a f,e,b=>by
  let⟨n,q⟩:=q;let⟨i,a⟩:=a;have a:=a;rw[q]at a;simp only[v9,fu,Obj.mk.injEq,Data.seq.injEq,true_and,and_true]at a;have:_=_:=aU Array.toList a.1;simp only at this;subst this;rw[wR.F9 r f (by simpa[D.hk]using e) (by simpa[D.hk]using b)]
 |_,_,_,.vV q r,.vK a f,e,b=>by simp[D.hk]at b
 |_,_,_,.vV q r,.wc a f _,e,b=>by simp[D.hk]at b
 |_,_,_,.vV q r,.ref a,e,b=>by simp[D.hk]at b
 |_,_,_,.vV q r,.zR a,e,b=>by simp[D.hk]at b
 |_,_,_,.bool _,_,e,_=>by simp[D.hk]at e
 |_,_,_,.vK _ _,_,e,_=>by simp[D.hk]at e
 |_,_,_,.wc _ _ _,_,e,_=>by simp[D.hk]at e
 |_,_,_,.ref _,_,e,_=>by simp[D.hk]at e
 |_,_,_,.zR _,_,e,_=>by simp[D.hk]at e
theorem wR.F9:∀{v:Yc} {d a:Yb},wR w g c v d->wR w g c v a->A2 d=true->A2 a=true->d=a
 |_,_,_,.nil,.nil,_,_=>rfl
 |_,_,_,.cons r q,.cons f h,e,b=>by
  simp only[A2,bN]at e b;rw[Rd.F9 r f e.1 b.1,wR.F9 q h e.2 b.2]
end
def TK:Type:={d:D//d.hk=true/\d.pl 8=true/\∃l,d= .vV l}
open Classical in
noncomputable def Ip(w:Yz):HeapKind pw w TK where
 is h k a:=Rd w (λb=>h.get? b) [] (.ref a) k.1
 hash k:=wD w k.1
 draws k:=k.1.draws
 room A:=A.units<9700
 inj:=λ{h a x y} c f=>t_ (Rd.F9 c f x.2.1 y.2.1)
 keeps:=λ{h G k a d o H I} c i hd j=>c.DQ (λb l q m=>by
  have p:b≠d:=by
   rintro rfl;have g:h.get? b=some l:=q;rw[i]at g;cases g;obtain⟨L,n,e⟩:=m;rw[hd]at e;cases e
  exact(j.2 b p).trans q) k.2.1
 pyHash:=λ{A E s k a Q} r c h=>tM 8 (λ_ _ e=>e) c k.2.2.1 k.2.1 (by omega) h
 eqBool:=λ{A E s x y a b Q} r c f h=>by
  obtain⟨t,u⟩:=c.xY (h:=s.heap) (λ_ _ e=>e) x.2.2.1;obtain⟨v,z⟩:=f.xY (h:=s.heap) (λ_ _ e=>e) y.2.2.1;have C:=D.lay x.2.2.1;have F:=D.lay y.2.2.1;refine uv pw w A E s _ _ _ _ t v Q u z C.1 F.1 (by show A.units+_<9900;omega) ?_;have e:PyData.eqv x.1.Ao y.1.Ao=decide (x=y):=by
   rw[jR,D.eqv x.2.2.1 y.2.2.1,aM];exact⟨λh=>t_ h,λh=>by rw[h]⟩
  rw[e];exact h
 quiet:=λ{A E s k a Q} c h=>BU 8 8 (λ_ _ e=>e) c k.2.2.1 k.2.1 (ao _) h
theorem yd.get:yd w g c k l->∀{j:Nat} {p:D×D},l[j]? =some p->∃e,k[j]? =some e/\Rd w g c e.key p.1/\Rd w g c e.val p.2/\e.hash=wD w p.1
 | .nil,j,p,h=>by simp at h
 | .cons d f i q,0,p,h=>by simp at h;subst h;exact⟨_,by simp,d,f,i⟩
 | .cons d f i q,j+1,p,h=>by simp at h;let⟨e,a,b⟩:=yd.get q h;exact⟨e,by simpa using a,b⟩
theorem yd.get':yd w g c k l->∀{j:Nat} {e:YF},k[j]? =some e->∃p,l[j]? =some p/\Rd w g c e.key p.1/\Rd w g c e.val p.2/\e.hash=wD w p.1
 | .nil,j,p,h=>by simp at h
 | .cons d f i q,0,p,h=>by simp at h;subst h;exact⟨_,lN,d,f,i⟩
 | .cons d f i q,j+1,p,h=>by simp at h;let⟨e,a,b⟩:=yd.get' q h;exact⟨e,by simpa using a,b⟩
theorem yd.length:yd w g b a l->a.length=l.length
 | .nil=>rfl
 | .cons _ _ _ q=>by simp[yd.length q]
theorem Km{l:Yh}:k∉l.map (·.1)↔∀(j:Nat) (v:D),l[j]? ≠some (k,v):=by
 constructor
 .intro h j v e
  exact h (aa.mpr ⟨(k,v),aH e,rfl⟩)
 .intro h a
  obtain⟨p,b,rfl⟩:=aa.mp a;let⟨j,c⟩:=mK.mp b;exact h j p.2 c
theorem Dn{K:Type}[DecidableEq K](c:PySem.KeyKind pw w K)(f:K->D)(r:∀v k,Rd w g C v (f k)->c.is k v=true)(F:∀k,wD w (f k)=c.hash k)(N:∀x y,f x=f y->x=y){A:YA}{s:Yy}{a:YB}{i:Yk}{n:Nat}{l:Yh}{k:K}{G:Yx}{E:X0}{Q:Yo->Yy->Prop}(P:s.heap.get? a=some (wj i.toArray n))(H:yd w g C i l)(Y:wh l)(R:Rd w g C G (f k))(S:∀p∈l,∃x,p.1=f x)(T:f k∉l.map (·.1)->Q none s)(o:∀j v,l[j]? =some (f k,v)->Q (some j) s):wpAny (model pw w) A (dictFind a G (wD w (f k))) Q E s:=by
 rw[F];have b:∀{j:Nat} {e:YF},i[j]? =some e->∃x v,l[j]? =some (f x,v)/\c.is x e.key=true/\e.hash=c.hash x:=by
  intro j e q;obtain⟨p,o,I,h3,L⟩:=H.get' q;obtain⟨x,M⟩:=S p (aH o);rw[M]at I L;exact⟨x,p.2,by rw[o,<-M],r _ _ I,by rw[L,F]⟩
 refine wpAny_dictFind_of (knd:=c) (r _ _ R) P rfl (λe V=>?_) ?_
 .obtain⟨j,t⟩:=mK.mp (by simpa using V)
  obtain⟨x,v,_,h,m⟩:=b t;exact⟨x,h,m⟩
 .have u:∀{x:K} {v:Yx},c.is x v=true->(c.is k v=true↔x=k):=λ{x v} q=>⟨λW=>c.inj _ _ _ q W,λe=>e▸q⟩
  cases d:i.toArray.findIdx? (λe=>c.is k e.key)with
  |none=>
   refine T (Km.mpr λj v e=>?_);obtain⟨X,h,m,_,_⟩:=H.get e;rw[Array.findIdx?_eq_none_iff]at d;have:=d X (by simpa using List.mem_of_getElem? h);rw[r _ _ m]at this;cases this
  |some j=>
   rw[Array.findIdx?_eq_some_iff_getElem]at d;obtain⟨t,q,_⟩:=d;have z:j<i.length:=by simpa using t
   obtain⟨x,v,h,m,_⟩:=b (au z);have e:x=k:=(u m).mp (by simpa using q);rw[e]at h;exact o j v h
open Classical in
theorem JE{A:YA}{k:D}(hu:A.units<9700)(sub:∀a o,g a=some o->s.heap.get? a=some o)(T:s.heap.get? a=some (wj G.toArray n))(V:yd w g R G l)(W:wh l)(z:Rd w g R kv k)(S:k.kd=some c)(L:wG c l)(X:k∉l.map (·.1)->Q none s)(m:∀j v,l[j]? =some (k,v)->Q (some j) s):wpAny (model pw w) A (dictFind a kv (wD w k)) Q E s:=by
 cases k with
 |int i=>
  obtain rfl:c=0:=(dI S).symm;refine Dn (intKind pw w) D.int (λv k r=>?_) (λ_=>rfl) (λx y e=>by injection e) T V W z (λp H=>?_) X m
  .obtain⟨t,rfl⟩:=r.vX
   simp[intKind,Value.isInt]
  .have:=L p H
   cases h:p.1<;>rw[h]at this<;>simp[D.kd]at this
   exact⟨_,rfl⟩
 |str i=>
  obtain rfl:c=1:=(dI S).symm;refine Dn (PySem.strKind pw w) D.str (λv k r=>?_) (λ_=>rfl) (λx y e=>by injection e) T V W z (λp H=>?_) X m
  .obtain⟨t,rfl⟩:=r.wF
   simp[PySem.strKind,Value.isStrOf]
  .have:=L p H
   cases h:p.1<;>rw[h]at this<;>simp[D.kd]at this
   exact⟨_,rfl⟩
 |vV C=>
  obtain⟨rfl,u,I⟩:=j_ S;let mk:∀x,A2 x=true->yJ x 7=true->TK:=λx m M=>⟨.vV x,by simpa[D.hk]using m,by simpa[D.pl]using M,x,rfl⟩;have P:∀{v} {x},Rd w g R v (.vV x)->∃b,v= .ref b:=λr=>by cases r;exact⟨_,rfl⟩
  obtain⟨b,rfl⟩:=P z;have F:∀{v} {d},d.hk=true->Rd w g R v d->Rd w (λb=>s.heap.get? b) [] v d:=λe r=>r.DQ (λ_ _ q _=>sub _ _ q) e;have a0:∀{G} {l},yd w g R G l->wG 2 l->∃f:List (TK×YB×Yx),G=f.map (entryOfKey (Ip w))/\(∀x∈f,(Ip w).is s.heap x.1 x.2.1)/\f.map (·.1.1)=l.map (·.1):=by
   intro G l r;induction l generalizing G with
   |nil=>intro _;cases r;exact⟨[],rfl,(λ_ h=>by cases h),rfl⟩
   |cons p l ih=>
    intro L;cases r with
    |cons z rv hh q=>
     rename_i e kd vd G;let⟨f,e1,Y,N⟩:=ih q λp H=>L p (bV _ H);have m:=L _ dY;cases kd with
     |vV x=>
      let⟨_,q1,q2⟩:=j_ m;let⟨b,hb⟩:=P z;let⟨eh,ek,ev⟩:=e;simp only at hb hh z;subst hb;refine⟨(mk x q1 q2,b,ev)::f,?_,?_,?_⟩
      .rw[bF,<-e1,hh];rfl
      .intro y hy
       rcases aG.mp hy with rfl|hy
       .exact F (show D.hk (.vV x)=true by simpa[D.hk]using q1) z
       .exact Y y hy
      .rw[bF,bF,N]
     |_=>simp[D.kd]at m
  let⟨f,e1,Y,N⟩:=a0 V L;have b0:(f.map (·.1)).Nodup:=by
   have:(f.map (·.1.1)).Nodup:=by rw[N];exact W
   rw[show(f.map (·.1.1))=(f.map (·.1)).map (·.1) by rw[bD];rfl]at this;exact(b5.mp this).imp λh e=>h (by rw[e])
  have c0:∀{j:Nat} {v},l[j]? =some (.vV C,v)->∃p,f[j]? =some (mk C u I,p):=by
   intro j v e;have:(l.map (·.1))[j]? =some (.vV C):=by rw[a_,e];rfl
   rw[<-N,a_]at this;let⟨x,m,M⟩:=bu.mp this;exact⟨x.2,by rw[m];exact aU some (gr (t_ M) rfl)⟩
  have d0:∀{j:Nat} {p},f[j]? =some (mk C u I,p)->∃v,l[j]? =some (.vV C,v):=by
   intro j p e;have:(f.map (·.1.1))[j]? =some (.vV C):=by rw[a_,e];rfl
   rw[N,a_]at this;let⟨x,m,M⟩:=bu.mp this;exact⟨x.2,by rw[m];exact aU some (gr M rfl)⟩
  refine wpAny_dictFind_heap (knd:=Ip w) (k:=mk C u I) (xs:=f) hu (F (show D.hk (.vV C)=true by simpa[D.hk]using u) z) T rfl (by simpa using e1) Y b0 ?_ ?_
  .intro e0
   refine X (Km.mpr λj v e=>?_);let⟨p,H⟩:=c0 e;exact e0 j p H
  .intro j p hj
   let⟨v,hv⟩:=d0 hj;exact m j v hv
 |_=>simp[D.kd]at S
def qF:=@JE
open Classical in
noncomputable def ze(l:Yh)(k:D):Option D:=(l.find? λp=>decide (p.1=k)).map (·.2)
open Classical in
noncomputable def wM(l:Yh)(k v:D):Yh:=if k∈l.map (·.1)then l.map (λp=>if p.1=k then(p.1,v)else p)else l++[(k,v)]
open Classical in
noncomputable def A9(l:Yh)(k:D):Yh:=l.filter λp=>decide (p.1≠k)
theorem Sv(b:wh l)(h:(k,v)∈l):ze l k=some v:=by
 classical
 induction l with
 |nil=>cases h
 |cons p r c=>
  have a:(p.1::r.map (·.1)).Nodup:=b;let⟨d,f⟩:=bx.mp a;unfold ze;rcases aG.mp h with rfl|h
  .simp
  .have:p.1≠k:=λe=>d (e▸aa.mpr ⟨(k,v),h,rfl⟩)
   have:=c f h;unfold ze at this;rw[mq (by simpa using‹p.1≠k›)];simpa using this
def n7:=@Sv
theorem MG:ze l k=none↔k∉l.map (·.1):=by
 classical
 unfold ze;rw[d_,gf];constructor
 .intro h b
  let⟨p,a,e⟩:=aa.mp b;exact h p a (by simpa using e)
 .intro h p a e
  exact h (aa.mpr ⟨p,a,by simpa using e⟩)
def rE:=@MG
open Classical in
theorem Mw:(wM l k v).map (·.1)=if k∈l.map (·.1)then l.map (·.1)else l.map (·.1)++[k]:=by
 unfold wM;split
 .rename_i h
  rw[bD];refine aK λp _=>?_;show(if p.1=k then(p.1,v)else p).1=p.1;split<;>rfl
 .rename_i h
  simp
def j6:=@Mw
theorem Mx(c:wh l):wh (wM l k v):=by
 classical
 unfold wh;rw[j6];split
 .exact c
 .rename_i h
  rw[b6];exact⟨c,by simp,λa f b d e=>h (by rw[aj]at d;rw[<-d,<-e];exact f)⟩
def lE:=@Mx
theorem Er(a:wh l):wh (A9 l k):=by
 classical
 exact List.Nodup.sublist (fJ _ eH) a
theorem wG.wM(h:wG c l)(b:k.kd=some c):wG c (wM l k v):=by
 classical
 intro p d;have:p.1∈(Mine.wM l k v).map (·.1):=aa.mpr ⟨p,d,rfl⟩;rw[j6]at this;have a:∀x∈l.map (·.1),x.kd=some c:=λx e=>by obtain⟨q,f,rfl⟩:=aa.mp e;exact h q f
 split at this
 .exact a _ this
 .rcases aB.mp this with q|q
  .exact a _ q
  .rw[aj.mp q];exact b
theorem wG.nil:wG c []:=λ_ h=>nomatch h
section
theorem LG(sub:∀a o,g a=some o->s.heap.get? a=some o)(r:Rd w g j v d)(b:d.kd=some c)(k:A.units<9700)(h:Q (wD w d) {s with toks:=s.toks+d.draws}):wpAny (model pw w) A (pyHash v) Q E s:=by
 cases d with
 |int i=>exact tM 0 sub r (by simp[D.pl]) (by simp[D.hk]) (by omega) h
 |str i=>
  obtain⟨t,rfl⟩:=r.wF;exact(PySem.strKind pw w).pyHash (k:=i) (by simp[PySem.strKind,Value.isStrOf]) (by simpa[wD,D.draws]using h)
 |vV l=>
  let⟨_,e,f⟩:=j_ b;exact tM 8 sub r (by simpa[D.pl]using f) (by simpa[D.hk]using e) (by omega) h
 |_=>simp[D.kd]at b
def rC:=@LG
theorem yd.set(r:yd w g i c l)(nd:wh l)(a:l[j]? =some (k,m))(u:Rd w g i v d):yd w g i (c.modify j λe=>{e with val:=v}) (wM l k d):=by
 classical
 have b:k∈l.map (·.1):=aa.mpr ⟨(k,m),aH a,rfl⟩;unfold wM;rw[B b];clear b;induction l generalizing c j with
 |nil=>simp at a
 |cons p l x=>
  have f:(p.1::l.map (·.1)).Nodup:=nd;let⟨n,y⟩:=bx.mp f;cases r with
  |cons o z s q=>
   rename_i e t C c;cases j with
   |zero=>
    simp only[lN,fu,iQ]at a;obtain⟨rfl,rfl⟩:=a;rw[List.modify_zero_cons,bF,B rfl];have:l.map (λp=>if p.1=t then(p.1,d)else p)=l:=by
     conv=>rhs;rw[<-iZ l]
     refine aK λp A=>?_;rw[J];rfl;intro e;exact n (e▸aa.mpr ⟨p,A,rfl⟩)
    rw[this];exact .cons o u s q
   |succ j=>
    simp only[rW]at a;have h:t≠k:=by
     intro e;exact n (e▸aa.mpr ⟨(k,m),aH a,rfl⟩)
    rw[List.modify_succ_cons,bF,J h];exact .cons o z s (x q y a)
theorem yd.push(r:yd w g a c l)(e:k∉l.map (·.1))(f:Rd w g a h k)(i:Rd w g a v d)(j:m=wD w k):yd w g a (c++[⟨m,h,v⟩]) (wM l k d):=by
 classical
 unfold wM;rw[J e];clear e;induction l generalizing c with
 |nil=>cases r;exact .cons f i j .nil
 |cons p l n=>
  cases r with
  |cons o s b q=>exact .cons o s b (n q)
theorem yd.del(r:yd w g i b l)(m:wh l)(a:l[j]? =some (k,n)):yd w g i (b.eraseIdx j) (A9 l k):=by
 classical
 unfold A9;induction l generalizing b j with
 |nil=>simp at a
 |cons p l o=>
  have d:(p.1::l.map (·.1)).Nodup:=m;let⟨h,s⟩:=bx.mp d;cases r with
  |cons t u v q=>
   rename_i e c y b;cases j with
   |zero=>
    simp only[lN,fu,iQ]at a;obtain⟨rfl,rfl⟩:=a;rw[List.eraseIdx_cons_zero,i8 (by simp)];have:l.filter (λp=>decide (p.1≠c))=l:=by
     rw[fW];intro p x;have:p.1≠c:=λe=>h (e▸aa.mpr ⟨p,x,rfl⟩);simpa using this
    rw[this];exact q
   |succ j=>
    simp only[rW]at a;have f:c≠k:=by
     intro e;exact h (e▸aa.mpr ⟨(k,n),aH a,rfl⟩)
    rw[rX,i9 (by simpa using f)];exact .cons t u v (o q s a)
variable{es:Yk}
theorem MF(f:A.units<9700)(sub:∀a o,g a=some o->s.heap.get? a=some o)(h:s.heap.get? a=some (wj es.toArray n))(i:yd w g m es l)(t:wh l)(p:Rd w g m u k)(q:k.kd=some c)(x:wG c l)(y:k∉l.map (·.1)->Q none {s with toks:=s.toks+k.draws})(z:∀v d,(k,d)∈l->Rd w g m v d->Q (some v) {s with toks:=s.toks+k.draws}):wpAny (model pw w) A (dictGet a u) Q E s:=by
 unfold dictGet
 try with_reducible refine aC ?_
 refine Z (rC sub p q f (Z (qF (s:={s with toks:=s.toks+k.draws}) f sub h i t p q x ?_ ?_)))
 .intro b
  exact U (y b)
 .intro j d r
  refine Z (fT (s:={s with toks:=s.toks+k.draws}) h rfl ?_);let⟨e,C,_,F,_⟩:=i.get r;have:es.toArray[j]? =some e:=by simpa using C
  rw[this];exact U (z _ _ (aH r) F)
def o9:=@MF
theorem Hw{h:YI}(b:h.get? a=some (wj es.toArray n)):∃c,(h.update a (Obj.mapDict f)).get? a=some (wj (f es.toArray) c):=⟨_,by rw[gj _ b rfl];rfl⟩
theorem BJ{h:YI}(b:h.get? a=some (wj es.toArray n)):∃c,(h.update a (Obj.mapDictKeys f)).get? a=some (wj (f es.toArray) c):=⟨_,by rw[gj _ b rfl];rfl⟩
def pY:=@BJ
theorem ME{Q:Unit->Yy->Prop}(x:A.units<9700)(sub:∀a o,g a=some o->s.heap.get? a=some o)(b:s.heap.get? a=some (wj es.toArray n))(i:yd w g m es l)(y:wh l)(p:Rd w g m r k)(z:k.kd=some c)(F:wG c l)(C:Rd w g m v d)(I:l.length<=100000)(q:∀t G h f,t.get? a=some (wj h.toArray f)->yd w g m h (wM l k d)->Heap.SameBut a s.heap t->Q () {s with heap:=t,toks:=G}):wpAny (model pw w) A (dictSet a r v) Q E s:=by
 unfold dictSet
 try with_reducible refine aC ?_
 refine Z (rC sub p z x ?_);unfold dictSetHashed
 try with_reducible refine aC ?_
 refine Z (qF (s:={s with toks:=s.toks+k.draws}) x sub b i y p z F ?_ ?_)
 .intro u
  let⟨f,e⟩:=pY (f:=(·.push ⟨wD w k,r,v⟩)) b;refine Z (dO (m9 (hz:=by rw[bA];have:=i.length;simp;omega) (s:={s with toks:=s.toks+k.draws}) b rfl (q _ _ (es++[⟨wD w k,r,v⟩]) f ?_ (i.push u p C rfl) (bY ..))));rw[e,ir]
 .intro j L H
  let⟨f,e⟩:=Hw (f:=(·.modify j λe=>{e with val:=v})) b;refine Z (dO (Z (wpAny_updateDict (s:={s with toks:=s.toks+k.draws}) b rfl (wpAny_point (q _ _ (es.modify j λe=>{e with val:=v}) f ?_ (i.set y H C) (bY ..))))));rw[e];simp
def rF:=@ME
theorem DZ{Q:Option YF->Yy->Prop}(x:A.units<9700)(sub:∀a o,g a=some o->s.heap.get? a=some o)(h:s.heap.get? a=some (wj es.toArray n))(i:yd w g p es l)(m:wh l)(y:Rd w g p F k)(z:k.kd=some c)(G:wG c l)(b:(k,C)∈l)(N:l.length<=100000)(q:∀e r H f t,Rd w g p e.val C->r.get? a=some (wj f.toArray t)->yd w g p f (A9 l k)->Heap.SameBut a s.heap r->Q (some e) {s with heap:=r,toks:=H}):wpAny (model pw w) A (Builtin.Dict.takeOut a F) Q E s:=by
 unfold Builtin.Dict.takeOut
 try with_reducible refine aC ?_
 refine Z (rC sub y z x ?_);refine Z (qF (s:={s with toks:=s.toks+k.draws}) x sub h i m y z G ?_ ?_)
 .intro v
  exact absurd (aa.mpr ⟨_,b,rfl⟩) v
 .intro j d u
  have hd:d=C:=dI ((n7 m (aH u)).symm.trans (n7 m b));subst hd;refine Z (fT (s:={s with toks:=s.toks+k.draws}) h rfl ?_);let⟨e,I,_,L,_⟩:=i.get u;have:es.toArray[j]? =some e:=by simpa using I
  rw[this];let⟨t,M⟩:=pY (f:=(·.eraseIdxIfInBounds j)) h;refine Z (m9 (hz:=by rw[bA];have:=i.length;simp;omega) (s:={s with toks:=s.toks+k.draws}) h rfl (U (q e _ _ (es.eraseIdx j) t L ?_ (i.del m u) (bY ..))));rw[M];simp
end
theorem we.u(a:we n A):A.units<9500:=by have:=a.units;omega
theorem we.M4(a:we n A):A.in1.units<9700:=by have:=a.units;show A.units+1<9700;omega
theorem Mz{s:Yy}{a:YB}{b:Yk}(c:s.heap.get? a=some (wj b.toArray n)):s.TypeIs (.ref a) "dict":=⟨_,c,rfl⟩
def jv:=@Mz
theorem LM{m c:Nat}(p:we m A){k d:D}{l:Yh}(hd:yg r d l)(t:k.kd=some c)(u:wG c l)(i:b=true↔k∈l.map (·.1)):y9 w A r (compareOp .In) k d (.bool b):=by
 intro g R j s e H E Q G x y q;obtain⟨a,I,n,rfl,o,z,C,lo⟩:=G.wc y hd;have f:=jv o;show wpAny _ _ (do return .bool (<-contains (.ref a) e)) Q E s;apply Z;unfold contains
 try with_reducible refine aC ?_
 refine Z (cL f gY.lookup ?_);show wpAny _ _ (if(some (Value.builtin "dict.__contains__")==some Value.none)=true then _ else _) _ E s;rw[J (by rw[lI];exact cD)];refine Z (n6 (name:=Str.ofString "__contains__") f gY
  (bL gY f uy ?_ (u_ _ _)))
 show wpAny _ _ (dictGet a e>>=_) _ _ s;refine Z (o9 p.M4 G.sub o z C x t u (λh=>?_) λv d F L=>?_)
 .have:b=false:=by
   cases b with
   |false=>rfl
   |true=>exact absurd (i.mp rfl) h
  subst this;show wpAny _ _ (Builtin.Dict.pendingKey? a e>>=_) _ _ _;exact Z (sR lo (U ⟨_,rfl,eO (U (q _ _ g j cA G (.bool _)))⟩))
 .have:b=true:=i.mpr (aa.mpr ⟨_,F,rfl⟩)
  subst this;show wpAny _ _ (ret (.bool true)) _ _ _;exact U ⟨_,rfl,eO (U (q _ _ g j cA G (.bool _)))⟩
def rN:=@LM
theorem Fv{m c:Nat}(p:we m A){k d:D}{l:Yh}(hd:yg r d l)(t:k.kd=some c)(u:wG c l)(i:b=true↔k∉l.map (·.1)):y9 w A r (compareOp .NotIn) k d (.bool b):=by
 intro g R j s e H E Q G x y q;obtain⟨a,I,n,rfl,o,z,C,lo⟩:=G.wc y hd;have f:=jv o;show wpAny _ _ (do return .bool (!(<-contains (.ref a) e))) Q E s;apply Z;unfold contains
 try with_reducible refine aC ?_
 refine Z (cL f gY.lookup ?_);show wpAny _ _ (if(some (Value.builtin "dict.__contains__")==some Value.none)=true then _ else _) _ E s;rw[J (by rw[lI];exact cD)];refine Z (n6 (name:=Str.ofString "__contains__") f gY
  (bL gY f uy ?_ (u_ _ _)))
 show wpAny _ _ (dictGet a e>>=_) _ _ s;refine Z (o9 p.M4 G.sub o z C x t u (λh=>?_) λv d F L=>?_)
 .have:b=true:=i.mpr h
  subst this;show wpAny _ _ (Builtin.Dict.pendingKey? a e>>=_) _ _ _;exact Z (sR lo (U ⟨_,rfl,eO (U (q _ _ g j cA G (.bool _)))⟩))
 .have:b=false:=by
   cases b with
   |false=>rfl
   |true=>exact absurd (aa.mpr ⟨_,F,rfl⟩) (i.mp rfl)
  subst this;show wpAny _ _ (ret (.bool true)) _ _ _;exact U ⟨_,rfl,eO (U (q _ _ g j cA G (.bool _)))⟩
def sN:=@Fv
theorem Si{m c:Nat}(j:we m A){k d x:D}{l:Yh}(hd:yg o d l)(p:k.kd=some c)(r:wG c l)(h:(k,x)∈l):y9 w A o getItem d k x:=by
 intro g R t s I u E Q G y z q;obtain⟨a,L,n,rfl,i,C,b,lo⟩:=G.wc y hd;have e:=jv i;unfold getItem
 try with_reducible refine aC ?_
 refine Z (jm e (by decide) ?_);refine Z (dR (name:=Str.ofString "__getitem__") e oH
  (bL oH e entry_dict_getitem ?_ (args_dict_getitem _ _)))
 show wpAny _ _ (dictGet a u>>=_) _ _ s;refine Z (o9 j.M4 G.sub i C b z p r (λf=>absurd (aa.mpr ⟨_,h,rfl⟩) f) λv d F H=>?_);have:d=x:=dI ((n7 b F).symm.trans (n7 b h));subst this;exact U ⟨v,rfl,U (q _ _ g t cA G H)⟩
def qe:=@Si
theorem ML{T id:String}(e:Slot T g id)(d:entryFor table id=some a)(i:s.TypeIs b T)(j:argsOk id ⟨b::c,[]⟩)(h:wpAny (model pw w) A.in1 (a ⟨b::c,[]⟩) (λf k=>∃v,f= .done (.ret v)/\Q v k) E s):wpAny (model pw w) A (call (.builtin id) (b::c)) Q E s:=bL e i d h j
def rD:=@ML
theorem MC{m c:Nat}(p:we m A){k d x:D}{l:Yh}(hd:yg r d l)(t:k.kd=some c)(u:wG c l)(b:x=(ze l k).getD .none):OP w A r (λe=>call (.builtin "dict.get") e) [d,k] x:=by
 refine kO λg R h s e E Q G y q=>?_
 match e,y with
 |[N,i],.cons z (.cons C .nil)=>
  obtain⟨a,P,n,rfl,j,H,o,lo⟩:=G.wc z hd;have I:=jv j;apply rD jU F.entry_dict_get I (F.args_dict_get_2 _ _);show wpAny _ _ (dictGet a i>>=_) _ _ s;refine Z (o9 p.M4 G.sub j H o C t u (λf=>?_) λv d L M=>?_)
  .rw[rE.mpr f]at b
   subst b;show wpAny _ _ (Builtin.Dict.missed a i>>=_) _ _ _;exact Z (vc lo (U ⟨_,rfl,q _ _ g h cA G .none⟩))
  .rw[n7 o L]at b
   subst b;exact U ⟨v,rfl,q _ _ g h cA G M⟩
theorem MB{m c:Nat}(p:we m A){k d y x:D}{l:Yh}(hd:yg r d l)(t:k.kd=some c)(u:wG c l)(b:x=(ze l k).getD y):OP w A r (λe=>call (.builtin "dict.get") e) [d,k,y] x:=by
 refine kO λg R h s e E Q G z q=>?_
 match e,z with
 |[S,i,T],.cons C (.cons H (.cons I .nil))=>
  obtain⟨a,V,n,rfl,j,L,o,lo⟩:=G.wc C hd;have M:=jv j;apply rD jU F.entry_dict_get M (F.args_dict_get_3 _ _ _);show wpAny _ _ (dictGet a i>>=_) _ _ s;refine Z (o9 p.M4 G.sub j L o H t u (λf=>?_) λv d N P=>?_)
  .rw[rE.mpr f]at b
   subst b;show wpAny _ _ (Builtin.Dict.missed a i>>=_) _ _ _;exact Z (vc lo (U ⟨_,rfl,q _ _ g h cA G I⟩))
  .rw[n7 o N]at b
   subst b;exact U ⟨v,rfl,q _ _ g h cA G P⟩
theorem GS.BR(G:GS w g R d i h)(m:i.μ c=some (.wc l))(n:d[c]? =some a)(e:j.get? a=some (wj f.toArray n'))(p:yd w g d f k)(q:wh k)(r:Heap.SameBut a h j):GS w g R d (i.put c (.wc k)) j:=G.upd m n (λb o s x=>(r.2 b s).trans x) e (.wc p q)
theorem GS.AV(G:GS w g R d i h)(j:i.μ c=some (.wc l))(r:Rd w g d v (.ref c)):∃a e n,v= .ref a/\d[c]? =some a/\h.get? a=some (wj e.toArray n)/\yd w g d e l/\wh l/\(a==sysModules)=false:=by
 obtain⟨a,o,rfl,f,k,b⟩:=G.name j r;cases b with
 |wc m p=>exact⟨a,_,_,rfl,f,k,m,p,G.low a (aH f)⟩
theorem HC{m c n:Nat}(y:we m A){k d:D}{l:Yh}(G:GS w g R b r s.heap)(t:r.μ n=some (.wc l))(z:Rd w g b C (.ref n))(F:Rd w g b h k)(H:Rd w g b i d)(I:k.kd=some c)(L:wG c l)(o:l.length<=100000)(q:∀j u,GS w g R b (r.put n (.wc (wM l k d))) j->Q () {s with heap:=j,toks:=u}):wpAny (model pw w) A (setItem C h i) Q E s:=by
 obtain⟨a,T,V,rfl,M,v,N,x,lo⟩:=G.AV t z;have f:=jv v;unfold setItem
 try with_reducible refine aC ?_
 refine Z (jm f (by decide) ?_);refine Z (dR (name:=Str.ofString "__setitem__") f slot_dict_setitem
  (bL slot_dict_setitem f entry_dict_setitem ?_ (args_dict_setitem _ _ _)))
 show wpAny _ _ (Builtin.Dict.notOrdered "__setitem__" ⟨[.ref a,h,i],[]⟩>>=_) _ _ s;refine Z (fH f ?_);show wpAny _ _ (dictSet a h i>>=_) _ _ s;exact Z (rF y.M4 G.sub v N x F I L H o λj u S W e p P=>U ⟨.none,rfl,U (q _ _ (G.BR t M e p (lE x) P))⟩)
theorem Ib{m c n:Nat}(x:we m A){k y:D}{l:Yh}(G:GS w g R d p s.heap)(r:p.μ n=some (.wc l))(z:Rd w g d C (.ref n))(F:Rd w g d f k)(H:k.kd=some c)(I:wG c l)(i:(k,y)∈l)(j:l.length<=100000)(q:∀h t,GS w g R d (p.put n (.wc (A9 l k))) h->Q () {s with heap:=h,toks:=t}):wpAny (model pw w) A (delItem C f) Q E s:=by
 obtain⟨a,V,W,rfl,L,u,M,v,lo⟩:=G.AV r z;have b:=jv u;unfold delItem
 try with_reducible refine aC ?_
 refine Z (jm b (by decide) ?_);refine Z (dR (name:=Str.ofString "__delitem__") b oW
  (bL oW b PySem.F.entry_dict_delitem ?_ (PySem.F.args_dict_delitem_2 _ _)))
 unfold Builtin.«dict.__delitem__»;apply Z;unfold Builtin.Dict.dictSlotArgs;refine Z (fH b ?_);show wpAny _ _ (pure (Value.ref a,f)) _ _ s;apply U;show wpAny _ _ (Builtin.Dict.takeOut a f>>=_) _ _ s;refine Z (DZ x.M4 G.sub u M v F H I i j λe h t S X T N o P=>?_);exact Z (i7 (U ⟨.none,rfl,U (q _ _ (G.BR r L N o (Er v) P))⟩))
theorem PT{m c n:Nat}(S:we m A){k C:D}{l:Yh}(F:H.μ n=some (.wc l))(T:k.kd=some c)(V:wG c l)(h:(k,C)∈l)(r:l.length<=100000):OG w A H (λi=>call (.builtin "dict.pop") i) [.ref n,k] λW t=>W=C/\t=H.put n (.wc (A9 l k)):=by
 intro g R X s i E Q G Y q
 match i,Y with
 |[v1,f],.cons r1 (.cons r2 .nil)=>
  obtain⟨a,I,nn,rfl,ha,j,L,M,lo⟩:=G.AV F r1;have N:=jv j;apply rD ql PySem.F.entry_dict_pop N (PySem.F.args_dict_pop_2 _ _);unfold Builtin.«dict.pop»;apply Z;unfold Builtin.Dict.keyAndDefault;refine Z (fH N ?_);show wpAny _ _ (pure (a,f,none)) _ _ s;apply U;have u:I.toArray.isEmpty=false:=by
   have:=L.length;have h1:0<l.length:=mu h;have:I≠[]:=by rintro rfl;simp at this;omega
   simpa using this
  have b:∀{o} {p},o=s->(p=(do
   let d <-Builtin.Dict.takeOut a f
   (if d.isNone=true then do
    let a0 <-Builtin.Dict.missedRemoval a f
    match d,(none:Yn)with
    |some e,x=>do letGo [e.key] [e.val];ret e.val
    |none,some x=>do rule "dict.pop.default";ret x
    |none,none=>do rule "dict.pop.keyerror";let x <-newExc (Value.type "KeyError") [f];raiseNew x
   else match d,(none:Yn)with
    |some e,x=>do letGo [e.key] [e.val];ret e.val
    |none,some x=>do rule "dict.pop.default";ret x
    |none,none=>do rule "dict.pop.keyerror";let x <-newExc (Value.type "KeyError") [f];raiseNew x)))->wpAny (model pw w) A.in1 p (λb s'=>∃v,b= .done (.ret v)/\Q v s') E o:=by
   rintro o p rfl rfl;refine Z (DZ S.M4 G.sub j L M r2 T V h r λe h' tk b0 n' y eo z hs=>?_);simp only[ve,aA,bz];exact Z (i7 (U ⟨e.val,rfl,q _ _ g X _ _ cA (G.BR F ha eo z (Er M) hs) y ⟨rfl,rfl⟩⟩))
  by_cases P:(keyPart f).isSome=true
  .simp only[P,cE]
   refine Z (U ?_);simp only[aA,bz];exact b rfl rfl
  .simp only[P,bz,aA]
   refine Z (fT j rfl ?_);refine Z (U ?_);simp only[u,aA,bz];exact b rfl rfl
theorem BN{m c n:Nat}(v:we m A){k y:D}{l:Yh}(x:o.μ n=some (.wc l))(z:k.kd=some c)(M:wG c l)(Y:l.length<=100000):OG w A o (λp=>call (.builtin "dict.setdefault") p) [.ref n,k,y] λC d=>(ze l k=some C/\d=o)\/(ze l k=none/\C=y/\d=o.put n (.wc (wM l k y))):=by
 intro g R F s p E Q G N q
 match p,N with
 |[v1,r,h],.cons P (.cons t (.cons H .nil))=>
  obtain⟨a,S,nn,rfl,T,b,i,u,lo⟩:=G.AV x P;have I:=jv b;apply rD nZ PySem.F.entry_dict_setdefault I (PySem.F.args_dict_setdefault_3 _ _ _);unfold Builtin.«dict.setdefault»;apply Z;unfold Builtin.Dict.keyAndDefault;refine Z (fH I ?_);show wpAny _ _ (pure (a,r,some h)) _ _ s;apply U;show wpAny _ _ (if(a==sysModules)=true then _ else(dictSetDefault a r h>>=_)) _ _ s;rw[J (by rw[lo];exact cD)];apply Z;unfold dictSetDefault
  try with_reducible refine aC ?_
  refine Z (rC G.sub t z v.M4 ?_);refine Z (qF (s:={s with toks:=s.toks+k.draws}) v.M4 G.sub b i u t z M ?_ ?_)
  .intro f
   let⟨V,e⟩:=pY (f:=(·.push ⟨wD w k,r,h⟩)) b;refine Z (dO (Z (m9 (hz:=by rw[bA];have:=i.length;simp;omega) (s:={s with toks:=s.toks+k.draws}) b rfl
    (U (U ⟨h,rfl,q _ _ g F _ _ cA (G.BR x T (n':=V) ?_ (i.push f t H rfl) (lE u) (bY ..)) H (.inr ⟨rE.mpr f,rfl,rfl⟩)⟩)))))
   rw[e,ir]
  .intro j d0 L
   refine Z (fT (s:={s with toks:=s.toks+k.draws}) b rfl ?_);let⟨e,W,_,X,_⟩:=i.get L;have:S.toArray[j]? =some e:=by simpa using W
   rw[this];exact Z (dO (U (U ⟨e.val,rfl,q _ _ g F _ _ cA G X (.inl ⟨n7 u (aH L),rfl⟩)⟩)))
def Tc(w:Yz)(A:YA)(b:Env)(k:Md)(i:St)(c:YD)(d:D)(h:Md):Prop:=
 ∀(g R:YH) (e:X_) (s:Yy) (v:Yx) (E:X0) (Q:Unit->Yy->Prop),FS w g R e i b k s.heap->Rd w g e v d->
  (∀(f:Yy) (j:YH),Gr s g e f g e->FS w g j e i b h f.heap->(∀a,a≠b.locals->j a=R a)->Q () f)->wpAny (model pw w) A (PySem.assign c b v) Q E s
theorem Tc.name(b:a.scope=S)(c:S.names.lookup x=some .local):Tc w A a e f (.Name x p) d ((x,d)::e):=λg R h s v E Q F r k=>assign_Name (Hx F r (by unfold Env.kindOf;rw[b];exact c) k)
def tN:=@Tc.name
theorem Tc.Ij(M:A.handled=none)(t:c.scope=S)(N:S.names.lookup x=some .local)(P:S.names.lookup y=some .local):Tc w A c u T (.Tuple [.Name x p,.Name y q] k j) (.vV [V,W]) ((y,W)::(x,V)::u):=by
 intro g R h s v E Q F r X;obtain⟨a,d,n,rfl,e,Y⟩:=F.G.vV r
 match d,Y,e with
 |[i,f],.cons r1 (.cons r2 .nil),e=>
  have ht:s.heap.IsTuple a #[i,f]:=⟨_,e,rfl,n,rfl⟩;show wpAny _ _ (standAt j>>=λ_=>unpack (.ref a) (assignEach [.Name x p,.Name y q] c)) Q E s;refine Z (aX (u9 M ht rfl rfl λz he=>?_));have F':FS w g R h T c u z:=⟨by
   have G:=F.G;have n:s.heap.get? s.heap.objs.size=none:=cu (ao _);exact G.keep λb o q=>he b o (by rintro rfl;rw[n]at q;cases q) q,F.F⟩
  show wpAny _ _ (do holding [f] (PySem.assign (.Name x p) c i);assignInOrder [PySem.assign (.Name y q) c] [f]) Q E _;refine Z (aC (tN t N g R h {s with heap:=z} i E _ F' r1 λC R1 H F1 l=>?_));show wpAny _ _ (do holding [] (PySem.assign (.Name y q) c f);assignInOrder [] []) Q E C;refine Z (aC (tN t P g R1 h C f E _ F1 r2 λs2 R2 I F2 m=>?_));exact U (X s2 R2 ⟨(H.trans I).gens,(H.trans I).os,bM g,aE _⟩ F2 λa L=>(m a L).trans (l a L))
def x7(b:Env):List (Str×NameKind)->List (Str×YB)->List (Str×YB)
 |[],a=>a
 |(x,k)::r,a=>x7 b r (if k==.free then(x,(b.cells.lookup x).getD 0)::a else a)
theorem closure_eq(h:∀p∈e.names,p.2= .free->∃c,b.cells.lookup p.1=some c):closureFor e b=pure (x7 b e.names []):=by
 simp only[closureFor];generalize e.names=l at h
 suffices H:∀d,(forIn l d λx r=>if(x.2==NameKind.free)=true then do let a <-cellOf b x.1;pure (ForInStep.yield ((x.1,a)::r))else pure (ForInStep.yield r))=(pure (x7 b l d):Sem _) by
  exact(aU (λm=>m>>=pure) (H [])).trans rfl
 induction l with
 |nil=>intro d;rfl
 |cons p r j=>
  intro d;let⟨x,k⟩:=p;have f:=j λq n=>h q (bV _ n);rw[mC];by_cases c:(k==NameKind.free)=true
  .let⟨a,i⟩:=h (x,k) dY (gD.mp c)
   have g:cellOf b x=pure a:=by unfold cellOf;rw[i]
   simp only[c,cE];rw[show(x7 b ((x,k)::r) d)=x7 b r ((x,a)::d) by simp only[x7,c,cE,i,jz]];rw[<-f,g]
   rfl
  .simp only[c,bz,aA]
   rw[show(x7 b ((x,k)::r) d)=x7 b r d by simp only[x7,c,bz,aA]];rw[<-f]
   rfl
theorem CR:∀{l:List (Str×NameKind)} {a:List (Str×YB)},(x,c)∈x7 b l a->(x,c)∈a\/((x,NameKind.free)∈l/\c=(b.cells.lookup x).getD 0)
 |[],_,h=>.inl h
 |(y,k)::r,a,h=>by
  unfold x7 at h;rcases CR h with h|⟨d,e⟩
  .split at h
   .rename_i q
    rcases aG.mp h with h|h
    .cases h
     exact .inr ⟨by rw[<-gD.mp q];exact dY,rfl⟩
    .exact .inl h
   .exact .inl h
  .exact .inr ⟨bV _ d,e⟩
theorem yY:∀{l:List (Str×NameKind)} {a:List (Str×YB)},((x,NameKind.free)∈l\/a.lookup x=some ((b.cells.lookup x).getD 0))->(x7 b l a).lookup x=some ((b.cells.lookup x).getD 0)
 |[],_,h=>h.elim (λh=>nomatch h) id
 |(y,k)::r,a,h=>by
  unfold x7;by_cases c:(k==NameKind.free)=true
  .rw[B c]
   by_cases e:x=y
   .subst e
    exact yY (.inr (by rw[bH,B rfl]))
   .refine yY (h.imp (λh=>?_) λh=>by rw[bH,J e];exact h)
    rcases aG.mp h with h|h
    .exact absurd (aU Prod.fst h) e
    .exact h
  .rw[J c]
   refine yY (h.imp (λh=>?_) id);rcases aG.mp h with h|h
   .have:=aU Prod.snd h
    simp only at this;rw[<-this]at c;exact absurd rfl c
   .exact h
def xu(a S:Scope):Scope:={a with names:=a.names.map λ(n,k)=>if(k==.free&&S.kind==.function&&S.names.lookup n==some .cell)then(n,.cell)else(n,k)}
theorem C9(c:b.scope=S):relabel a b=xu a S:=by subst c;rfl
def TR:Option NameKind->Bool
 |some .cell|some .free=>true
 |_=>false
structure DE(scope S:Scope):Prop where
 kind:scope.kind= .function
 cell:(scope.names.all λp=>p.2 !=.cell)=true
 nd:(scope.names.map (·.1)).Nodup
 free:(scope.names.all λp=>p.2 !=.free||(TR (S.names.lookup p.1)&&p.1 !="__class__"))=true
 cd:scope.names.lookup ("__classdict__":Str)=none
def xG(a:Scope)(b:Md):Md:=b.filter λp=>a.names.lookup p.1==some .free
theorem DK{d:Type}{l:List (Str×d)}(f:(l.map (·.1)).Nodup){b:d}(h:(x,b)∈l):l.lookup x=some b:=by
 induction l with
 |nil=>cases h
 |cons p r g=>
  let⟨y,c⟩:=p;have a:(y::r.map (·.1)).Nodup:=f;let⟨i,j⟩:=bx.mp a;rw[bH];rcases aG.mp h with h|h
  .cases h;rw[B rfl]
  .have:x≠y:=λe=>i (e▸aa.mpr ⟨(x,b),h,rfl⟩)
   rw[J this];exact g j h
def nL:=@DK
theorem BK{a S:Scope}(c:(a.names.map (·.1)).Nodup)(h:(xu a S).names.lookup x=some k):a.names.lookup x=some k\/(a.names.lookup x=some .free/\k= .cell/\S.names.lookup x=some .cell):=by
 have:=mem_of_lookup h;unfold xu at this;let⟨p,d,e⟩:=aa.mp this;let⟨y,f⟩:=p;dsimp only at e;split at e
 .rename_i q
  simp only[bN,gD]at q;injection e with e1 b
  subst e1 b;exact .inr ⟨by rw[nL c d,q.1.1],rfl,q.2⟩
 .injection e with e1 b
  subst e1 b;exact .inl (nL c d)
def mD:=@BK
theorem yq:∀{md:Md},(xG a md).lookup x=some d->a.names.lookup x=some .free/\md.lookup x=some d
 |[],h=>nomatch h
 |(y,e)::md,h=>by
  by_cases c:(a.names.lookup y==some NameKind.free)=true
  .have b:xG a ((y,e)::md)=(y,e)::xG a md:=by unfold xG;exact i9 (p:=λp=>a.names.lookup p.1==some .free) (a:=(y,e)) c
   rw[b,bH]at h;rw[bH];by_cases e:x=y
   .subst e
    rw[B rfl]at h⊢;exact⟨gD.mp c,h⟩
   .rw[J e]at h⊢
    exact yq h
  .have b:xG a ((y,e)::md)=xG a md:=by unfold xG;exact i8 (p:=λp=>a.names.lookup p.1==some .free) (a:=(y,e)) c
   rw[b]at h;let⟨f,g⟩:=yq (md:=md) h;rw[bH];by_cases e:x=y
   .subst e
    rw[f]at c;exact absurd rfl c
   .rw[J e];exact⟨f,g⟩
theorem IU(F:Fm w g R f a i)(h:TR (a.kindOf x)=true)(e:x≠"__class__"):∃c o,a.cells.lookup x=some c/\R c=some o:=by
 cases q:a.kindOf x with
 |none=>rw[q]at h;cases h
 |some k=>
  rw[q]at h;cases k with
  |cell=>let⟨c,o,v,b,d,_⟩:=F.own x q;exact⟨c,o,b,d⟩
  |free=>let⟨c,b⟩:=F.Qi x q;let⟨o,d⟩:=(F.all x c b).resolve_right λq=>e q.1;exact⟨c,o,b,d⟩
  |_=>cases h
theorem Fm.comp(F:Fm w g R ρ f md)(hs:f.scope=S)(s:DE b S)(X:∀a o,R a=some o->R' a=some o)(hC:R C=none)(W:R' C=some o)(h2:o.data= .dict Y ep)(h3:StrKeys Y)(m:Str->Yn)(h4:∀x,nsFind Y x=m x):Fm w g R' ρ (compEnvC b (x7 f b.names []) C f) (xG b md):=by
 have u:∀x,(compEnvC b (x7 f b.names []) C f).kindOf x=(xu b S).names.lookup x:=λx=>by
  unfold Env.kindOf;rw[show(compEnvC b (x7 f b.names []) C f).scope=relabel b f from rfl,C9 hs]
 have L:∀x,f.kindOf x=S.names.lookup x:=λx=>by unfold Env.kindOf;rw[hs]
 have E:∀x,b.names.lookup x≠some .cell:=λx e=>by
  have:=dz.mp s.cell _ (mem_of_lookup e);simp at this
 have j:∀x,(x,NameKind.free)∈b.names->∃c o,f.cells.lookup x=some c/\R c=some o:=λx G=>by
  have:=dz.mp s.free _ G;simp only[eS,nM]at this;exact IU F (by rw[L];exact(dB.mp this).1) (by simpa using(dB.mp this).2)
 have M:∀x,b.names.lookup x=some .free->(x7 f b.names []).lookup x=f.cells.lookup x:=λx G=>by
  let⟨c,o,e,_⟩:=j x (mem_of_lookup G);rw[yY (.inl (mem_of_lookup G)),e];rfl
 have T:∀x c,(x,c)∈x7 f b.names []->f.cells.lookup x=some c/\∃o,R c=some o:=λx c h=>by
  rcases CR h with h|⟨q1,P⟩
  .cases h
  .let⟨c',o,e,Q⟩:=j x q1
   rw[e]at P;simp only[jz]at P;subst P;exact⟨e,o,Q⟩
 refine⟨?_,F.gl,F.bi,⟨o,Y,ep,m,W,h2,h3,h4,λx d G t=>?_⟩,λx d G t=>?_,λx t=>?_,?_,λx c h=>?_,?_,λx c h=>?_,λx t=>?_⟩
 .exact s.kind
 .rw[u]at t
  let⟨q,_⟩:=yq G;rcases mD s.nd t with H|⟨_,H,_⟩
  .rw[q]at H;cases H
  .cases H
 .let⟨q,a0⟩:=yq G
  have A:TR (f.kindOf x)=true:=by
   have:=dz.mp s.free _ (mem_of_lookup q);simp only[eS,nM]at this;rw[L];exact(dB.mp this).1
  have:f.kindOf x=some .cell\/f.kindOf x=some .free:=by
   cases z:f.kindOf x with
   |none=>rw[z]at A;cases A
   |some k=>rw[z]at A;cases k<;>first|exact .inl rfl|exact .inr rfl|cases A
  let⟨c,N,v,e1,Q,e3,e4⟩:=F.FP x d a0 this;exact⟨c,N,v,by show(x7 f b.names []).lookup x=some c;rw[M x q];exact e1,X _ _ Q,e3,e4⟩
 .rw[u]at t
  rcases mD s.nd t with q|⟨q,_,P⟩
  .exact absurd q (E x)
  .let⟨c,N,v,e1,Q,e3⟩:=F.own x (by rw[L];exact P)
   exact⟨c,N,v,by show(x7 f b.names []).lookup x=some c;rw[M x q];exact e1,X _ _ Q,e3⟩
 .
  show(x7 f b.names []).Pairwise _;have b0:∀l n,(∀p∈n,f.cells.lookup p.1=some p.2)->(∀p∈n,p.1∉l.map (·.1))->(l.map (·.1)).Nodup->(∀p∈l,p.2= .free->∃c,f.cells.lookup p.1=some c)->n.Pairwise (λx y=>x.2≠y.2)->
   (x7 f l n).Pairwise λx y=>x.2≠y.2:=by
   intro l;induction l with
   |nil=>intro n _ _ _ _ h;exact h
   |cons p r ih=>
    let⟨x,k⟩:=p;intro n ha hn nd hf i;have c0:(x::r.map (·.1)).Nodup:=nd;let⟨n1,n2⟩:=bx.mp c0;unfold x7;have V:∀p∈r,p.2= .free->∃c,f.cells.lookup p.1=some c:=λp i=>hf p (bV _ i);split
    .rename_i q
     let⟨c,I⟩:=hf (x,k) dY (gD.mp q);have I:f.cells.lookup x=some c:=I;rw[I];refine ih _ ?_ ?_ n2 V ?_
     .intro p i
      rcases aG.mp i with rfl|i
      .exact I
      .exact ha p i
     .intro p i
      rcases aG.mp i with rfl|i
      .exact n1
      .exactλh=>hn p i (bV _ h)
     .refine gZ.mpr ⟨λp i e=>?_,i⟩
      have W:=ha p i;rw[<-e]at W;have:x=p.1:=sH F.apart (mem_of_lookup I) (mem_of_lookup W);exact hn p i (this▸dY)
    .exact ih _ ha (λp i h=>hn p i (bV _ h)) n2 V i
  refine b0 _ _ (λ_ h=>nomatch h) (λ_ h=>nomatch h) s.nd (λp i e=>?_) List.Pairwise.nil;let⟨x,k⟩:=p;simp only at e;subst e;let⟨c,o,e,_⟩:=j x i;exact⟨c,e⟩
 .let⟨_,N,e⟩:=T x c h
  intro I;have d0:c=C:=I;rw[d0,hC]at e;cases e
 .rw[u]
  cases q:(xu b S).names.lookup ("__classdict__":Str)with
  |none=>rfl
  |some k=>
   rcases mD s.nd q with H|⟨H,_⟩<;>rw[s.cd]at H<;>cases H
 .let⟨_,N,e⟩:=T x c (mem_of_lookup h)
  exact .inl ⟨N,X _ _ e⟩
 .rw[u]at t
  rcases mD s.nd t with q|⟨_,q,_⟩
  .let⟨c,o,e,_⟩:=j x (mem_of_lookup q)
   exact⟨c,by show(x7 f b.names []).lookup x=some c;rw[M x q];exact e⟩
  .cases q
theorem PB.Xj(h:PB w A a d c t b)(e:P b c):GB w A a d c t P:=h.gb.mono λg f q=>by rw[q.1,q.2];exact e
section
variable(w:Yz)(A:YA)(AR:YH->X_->Obj->T->Prop)(dA:YB)(cenv:Env)
def EO(b:YB)(a:Env):Prop:=b≠a.locals/\∀x c,a.cells.lookup x=some c->c≠b
def EJ(d:Sem Unit)(j:Md)(m:St)(t:T)(P:T->St->Prop):Prop:=
 ∀(g R:YH) (e:X_) (s:Yy) (E:X0) (Q:Unit->Yy->Prop),FS w g R e m cenv j s.heap->(∃o,R dA=some o/\AR g e o t)->EO dA cenv->
  (∀(f:Yy) (h i:YH) (b:X_) (k:Obj) (l:T) (c:St),Gr s g e f h b->FS w h i b c cenv j f.heap->i dA=some k->(∀a,a≠dA->a≠cenv.locals->i a=R a)->AR h b k l->P l c->Q () f)->wpAny (model pw w) A d Q E s
def W7(K:Sem Fin->Sem Fin)(i:Md)(m:St)(t:T)(P:T->St->Prop):Prop:=
 ∀(g R:YH) (d:X_) (s:Yy) (E:X0) (Q:Fin->Yy->Prop) (k:Sem Fin),FS w g R d m cenv i s.heap->(∃o,R dA=some o/\AR g d o t)->EO dA cenv->
  (∀(e:Yy) (f h:YH) (b:X_) (j:Obj) (l:T) (c:St),Gr s g d e f b->FS w f h b c cenv i e.heap->h dA=some j->(∀a,a≠dA->a≠cenv.locals->h a=R a)->AR f b j l->P l c->wpAny (model pw w) A k Q E e)->wpAny (model pw w) A (K k) Q E s
theorem EJ.k(h:EJ w A AR dA cenv b c d t P):W7 w A AR dA cenv (λk=>do b;k) c d t P:=λg R e s E Q k F a f q=>Z (h g R e s E _ F a f q)
def Tv:List YD->Md->St->(Bool->St->Prop)->Prop
 |[],_,a,P=>P true a
 |[c],b,a,P=>GB w A cenv b a (isTrue c cenv (eval c cenv)) P
 |_,_,_,_=>False
structure DS(c:Comprehension)(inner:Md->St->T->(T->St->Prop)->Prop)(tg:YD->Prop)(lk:Lock)(ds:Yb)(md:Md)(σ:St)(t:T)(P:T->St->Prop):Prop where
 tg:tg c.target
 ex:∃I:Nat->T->St->Prop,I 0 t (σ.xy lk)/\
  (∀k d t' σ',ds[k]? =some d->I k t' σ'->∃md1,Tc w A cenv md σ' c.target d md1/\Md.le md md1/\Tv w A cenv c.ifs md1 σ' λb σ2=>(b=true->inner md1 σ2 t' (I (k+1)))/\(b=false->I (k+1) t' σ2))/\
  ∀t' σ',I ds.length t' σ'->P t' (σ'.wW lk)
def xJ(a:Env)(e:Yx)(c:Comprehension)(b:Sem Fin->Sem Fin)(code:Code):Sem Fin:=do
 standAt c.iter.pos
 match<-pyNext e with
 |none=>pure (.done .next)
 |some v=>
  letOwnedTupleGo c.target e v
  PySem.assign c.target a v
  let mut d:=true
  for c in c.ifs do
   if d then d <-isTrue c a (eval c a)
  if d then
   b (again code)
  else again code
end
theorem Kz(j0:∀{g p:YH} {ρ i:X_} {o:Obj} {t:T},AR g ρ o t->View.le g p->ρ<+:i->AR p i o t){code:Code}(hq:code.quiet=true)(p0:∀(s:Yy) (Q:Fin->Yy->Prop) (E':X0),(∀E,wpAny (model pw w) A (xJ h (.ref it) c l code) Q E s)->wpAny (model pw w) (A.under code) ((model pw w).den code) Q E' s)(s0:∀(V:Md) (k0:St) (y:T) (P':T->St->Prop),c0 V k0 y P'->W7 w A AR M h l V k0 y P')(hT:DS w A h c c0 tg lk ds md σ t P)(F:FS w g R ρ (σ.xy lk) h md s.heap)(q0:∃o,R M=some o/\AR g ρ o t)(hD:EO M h)(f0:M∉wr)(g0:M∉la)(i0:h.locals∉wr)(Y:h.locals∉la)(t0:∀x c,h.cells.lookup x=some c->c∉wr)(u0:∀x c,h.cells.lookup x=some c->c∉la)(l0:∀b∈la,b∉wr)(It:Iter w A it tg wr la ds S)(S0:S 0 g R ρ)(L0:Ar w g R ρ lk la)(done:∀(s':Yy) (p W:YH) (i:X_) (o':Obj) (y:T) (j:St),Gr s g ρ s' p i->FS w p W i j h md s'.heap->W M=some o'->AR p i o' y->(∀a,a≠M->a≠h.locals->W a=if a∈la then none else if a∈wr then none else R a)->P y j->RR (.ok .next) s'):codeAny (model pw w) A code RR s:=by
 let⟨w0,I,h0,step,a0⟩:=hT;let Inv:Nat->Yy->Prop:=λn N=>∃k y j p W i,n=ds.length-k/\k<=ds.length/\Gr s g ρ N p i/\FS w p W i j h md N.heap/\S k p W i/\Ar w p W i lk la/\(∃o,W M=some o/\AR p i o y)/\
  (∀a,a∉wr->a≠M->a≠h.locals->W a=R a)/\I k y j
 refine codeAny_loop hq Inv ?_ ds.length ⟨0,t,σ.xy lk,g,R,ρ,rfl,bB _,eU _ _ _,F,S0,L0,q0,λ_ _ _ _=>rfl,h0⟩;rintro n s1 ⟨k,y,j,p,W,i,rfl,hk,ex,F',S',L',⟨o1,a1,a2⟩,hR,hI⟩;refine p0 s1 _ _ λE=>?_;unfold xJ;have same:∀R2 {g2},View.le p g2->(∀a,a∉wr->R2 a=W a)->Fm w g2 R2 i h md:=λR2 g2 hg X=>(F'.F.congr (λo e=>by rw[X _ i0];exact e) λx c o q e=>by rw[X _ (t0 x c q)];exact e).mono hg (aE _);refine Z (aX (Z ?_));refine f_ (It.step j k p W i s1 c.target E
  (λv N=>wpAny (model pw w) A (do
   PySem.assign c.target h v
   let mut ok:=true
   for c in c.ifs do
    if ok then ok <-isTrue c h (eval c h)
   if ok then
    l (again code)
   else again code) (λa0 s'=>match a0 with| .done f=>RR (.ok f) s'| .again c'=>c'=code/\∃m,m<ds.length-k/\Inv m s') E N)
  (λN=>RR (.ok .next) N) w0 F'.G S' hk (λd hd N g2 R2 v x2 G2 S2 X rv=>?_) λm0 N R2 x2 G2 X=>?_) (λr N hr=>?_) λ_ _ e=>e
 .have F2:FS w g2 R2 i j h md N.heap:=⟨G2,same R2 x2.le X⟩
  let⟨V,as,n0,ts⟩:=step k d y j hd hI;refine Z (as g2 R2 i N v E _ F2 rv λs3 R3 x3 F3 e0=>?_);have d0:R3 M=some o1:=by rw[e0 M hD.1,X M f0];exact a1
  have L2:=L'.mono x2.le x2.pre λb u=>X b (l0 b u);have L3:=L2.mono (bM _) (aE _) λb u=>e0 b λe=>Y (e▸u);have m0:k<ds.length:=(aP.mp hd).1;have S3:S (k+1) g2 R3 i:=It.mono S2 (bM _) (aE _) λb u=>e0 b λe=>u.elim (λq=>i0 (e▸q)) λq=>Y (e▸q);have o0:∀a,a∉wr->a≠M->a≠h.locals->R3 a=R a:=λa n1 n2 n3=>by rw[e0 a n3,X a n1,hR a n1 n2 n3]
  have L:∀b s4 g4 C G,Gr s3 g2 i s4 g4 C->FS w g4 R3 C G h V s4.heap->((b=true->c0 V G y (I (k+1)))/\(b=false->I (k+1) y G))->
   wpAny (model pw w) A (if b=true then l (again code)else again code) (λa0 s'=>match a0 with| .done f=>RR (.ok f) s'| .again c'=>c'=code/\∃m,m<ds.length-k/\Inv m s') E s4:=by
   intro b s4 g4 C G H F4 u;have A4:AR g4 C o1 y:=j0 (j0 a2 x2.le (aE _)) H.le H.pre;cases b with
   |false=>
    simp only[aA,bz];refine U ⟨rfl,ds.length-(k+1),by omega,k+1,y,G,g4,R3,C,rfl,by omega,((ex.trans x2).trans x3).trans H,⟨F4.G,F4.F.yC n0⟩,It.mono S3 H.le H.pre λ_ _=>rfl,L3.mono H.le H.pre λ_ _=>rfl,⟨o1,d0,A4⟩,o0,u.2 rfl⟩
   |true=>
    simp only[cE];refine s0 V G y _ (u.1 rfl) g4 R3 C s4 E _ _ F4 ⟨o1,d0,A4⟩ hD λs5 g5 R5 x0 o5 t5 y0 x5 F5 r0 b0 A5 hp=>?_;refine U ⟨rfl,ds.length-(k+1),by omega,k+1,t5,y0,g5,R5,x0,rfl,by omega,(((ex.trans x2).trans x3).trans H).trans x5,⟨F5.G,F5.F.yC n0⟩,?_,?_,⟨o5,r0,A5⟩,λa n1 n2 n3=>by rw[b0 a n2 n3];exact o0 a n1 n2 n3,hp⟩
    .exact It.mono S3 (H.trans x5).le (H.trans x5).pre λb u=>b0 b (λe=>u.elim (λq=>f0 (e▸q)) λq=>g0 (e▸q)) λe=>u.elim (λq=>i0 (e▸q)) λq=>Y (e▸q)
    .exact L3.mono (H.trans x5).le (H.trans x5).pre λb u=>b0 b (λe=>g0 (e▸u)) λe=>Y (e▸u)
  apply Z
  match z0:c.ifs,ts with
  |[],ts=>
   apply U;have:=L true s3 g2 i j (eU _ _ _) F3 ts;simpa using this
  |[cc],ts=>
   apply wpAny_tests_one;refine ts g2 R3 i s3 E _ F3 λb s4 g4 C G H F4 u=>?_;have:=L b s4 g4 C G H F4 u;cases b<;>simpa using this
 .subst m0
  have F2:FS w p R2 i j h md N.heap:=⟨G2,same R2 (bM _) λa na=>by rw[X a,J na]⟩;have L2:Ar w p R2 i lk la:=L'.mono (bM _) (aE _) λb u=>by rw[X b,J (l0 b u)]
  have F3:=F2.wW L2 Y u0;refine done N p (Cd R2 la) i o1 y (j.wW lk) (ex.trans x2) F3 ?_ a2 (λa n1 n2=>?_) (a0 y j hI)
  .unfold Cd;rw[J g0,X M,J f0];exact a1
  .unfold Cd
   by_cases z:a∈la
   .rw[B z,B z]
   .rw[J z,J z,X a]
    by_cases z2:a∈wr
    .rw[B z2,B z2]
    .rw[J z2,J z2,hR a z2 n1 n2]
 .cases r with
  |none=>exact U hr
  |some v=>exact Z hr
def zS(w:Yz)(g:YH)(b:X_)(o:Obj)(t:Yb):Prop:=∃a n,o=v9 "list" a.toArray n/\wR w g b a t
def DN(w:Yz)(g:YH)(b:X_)(o:Obj)(t:Yh):Prop:=∃a n,o=wj a.toArray n/\yd w g b a t/\wh t
theorem zS.mono(h:zS w g b o t)(l:View.le g c)(p:b<+:a):zS w c a o t:=let⟨i,n,e,r⟩:=h;⟨i,n,e,r.mono l p⟩
theorem DN.mono(h:DN w g b o t)(l:View.le g c)(p:b<+:a):DN w c a o t:=let⟨i,n,e,r,f⟩:=h;⟨i,n,e,r.mono l p,f⟩
theorem FS.xR(F:FS w g R i j a l h)(m:R L=some o)(d:EO L a)(k:∀b x,b≠L->h.get? b=some x->f.get? b=some x)(e:f.get? L=some n):FS w g (xR R L n) i j a l f:=⟨F.G.xR m k e,F.F.congr (λo q=>by rw[bW d.1.symm];exact q) λx c o q e=>by rw[bW (d.2 x c q)];exact e⟩
theorem EJ.list(h:GE w A c C G (eval l c) λd m=>P (t++[d]) m)(Y:t.length<=100000):EJ w A (zS w) r c (do let _ <-call (.builtin "list.append") [.ref r,<-eval l c]) C G t P:=by
 rintro g R H s E Q F ⟨o,u,f,n,rfl,y⟩ I k;refine Z (h g R H s E _ F λv s1 L p d q i z M N=>?_);have S:=z.G.rest _ _ u;refine Z (wpAny_list_append_plain ⟨n,S⟩ (λh' j T=>?_) (by rw[bA];have:=y.length;simp;omega));let⟨V,j⟩:=j;rw[ir]at j;refine U (k _ L (Mine.xR R r (v9 "list" (f++[v]).toArray V)) p _ (t++[d]) q ⟨i.gens,i.os,i.le,i.pre⟩ (z.xR u I (λb x W e=>(T.2 b W).trans e) j) cK (λa X _=>bW X) ⟨_,_,rfl,(y.up i).append (.cons M .nil)⟩ N)
theorem EJ.dict(S:we m A)(h:GE w A f H T (eval V f) λd q=>d.kd=some c/\GE w A f H q (eval W f) λv j=>P (wM t d v) j)(X:t.length<=100000)(Y:wG c t):EJ w A (DN w) I f (do
  let r <-eval V f
  let L <-holding [r] (eval W f)
  standAt p
  holding [r,L] (dictSet I r L)) H T t P:=by
 rintro g R ρ s E Q F ⟨o,M,es,n,rfl,re,N⟩ ap k;refine Z (h g R ρ s E _ F λv s1 g1 y d q l F1 r1 ⟨hk,h2⟩=>?_);refine Z (aC (h2 g1 R y s1 E _ F1 λv2 s2 g2 z d2 j i u r2 p2=>?_));refine Z (aX (aC ?_));have ho:=u.G.rest _ _ M;have hu:A.units<9700:=by have:=S.u;omega
 refine rF hu u.G.sub ho (yd.mono (l.trans i).le (l.trans i).pre re) N (r1.up i) hk Y r2 X λh' tk C n' e G hs=>?_;exact k _ g2 (Mine.xR R I (wj C.toArray n')) z _ (wM t d d2) j ⟨(l.trans i).gens,(l.trans i).os,(l.trans i).le,(l.trans i).pre⟩ (u.xR M ap (λb x nb e=>(hs.2 b nb).trans e) e) cK (λa na _=>bW na) ⟨_,_,rfl,G,lE N⟩ p2
theorem A0(k:(clausesOf e)[a]? =some c)(l:c.is_async=0)(g:∀(s:Yy) (Q:Fin->Yy->Prop) (m:X0),(∀E,wpAny (model pw w) A (compStart e a (.ref f) b d) Q E s)->wpAny (model pw w) (A.under (.compStart e a (.ref f) b d)) ((model pw w).den (.compStart e a (.ref f) b d)) Q m s)(j:(Code.compLoop e a (.ref f) b d).quiet=true)(i:∀(E:X0) (Q:X0),Q (.ref f) s->wpAny (model pw w) A (pyIter (.ref f)) Q E s)(h:codeAny (model pw w) A (.compLoop e a (.ref f) b d) n s):codeAny (model pw w) A (.compStart e a (.ref f) b d) n s:=by
 refine pZ (g _ _ _ λE=>?_);unfold compStart;rw[k];simp only[Option.elim_some,l,eS,aA,bz];refine Z (jA (wpAny_ite ?_));split
 .exact Z (U (U ⟨j,h⟩))
 .exact Z (dO (Z (aX (Z (i _ _ (U ⟨j,h⟩))))))
structure FU(w:Yz)(g R:YH)(ρ:X_)(σ:St)(h:YI)(a:YB)(o:Obj):Prop where
 get:h.get? a=some o
 g:g a=none
 R:R a=none
 cell:∀n c,σ.μ n=some c->ρ[n]? ≠some a
 low:(a==sysModules)=false
theorem GS.AE(G:GS w g R i j h)(f:FU w g R i j h a o):GS w (ins g a o) R i j h/\View.le g (ins g a o):=by
 have d:=EF (o:=o) f.g;refine⟨⟨?_,?_,G.rest,?_,?_,G.inj,G.low⟩,d⟩
 .let⟨l,b,q⟩:=G.base
  exact⟨l,b,λc x e=>d _ _ (q c x e)⟩
 .intro b x q
  by_cases z:b=a
  .subst z;rw[gM]at q;cases q;exact f.get
  .rw[lP z]at q;exact G.sub b x q
 .intro b x q
  by_cases z:b=a
  .subst z;exact f.R
  .rw[lP z]at q;exact G.gR b x q
 .intro m c q
  let⟨b,x,k,n,p,r,s⟩:=G.cell m c q;have t:b≠a:=by rintro rfl;exact f.cell m c q k
  exact⟨b,x,k,n,p.mono d (aE _),by rw[lP t];exact r,s⟩
theorem GS.x6(G:GS w g R e v h)(f:FU w g R e v h a o)(N:yj w g e o c):GS w g R (e++[a]) (v.put e.length c) h:=by
 have r:e<+:e++[a]:=e9 _ _;have i:∀m b,e[m]? =some b->(e++[a])[m]? =some b:=λm b q=>sf r q;have s:(e++[a])[e.length]? =some a:=by simp
 refine⟨G.base,G.sub,G.rest,G.gR,?_,?_,λb t=>?_⟩
 .intro m d q
  by_cases z:m=e.length
  .subst z
   simp only[St.put,cE]at q;cases q;exact⟨a,o,s,f.get,N.mono (bM g) r,f.g,f.R⟩
  .simp only[St.put,J z]at q
   let⟨b,x,E,P,Q,S,T⟩:=G.cell m d q;exact⟨b,x,i _ _ E,P,Q.mono (bM g) r,S,T⟩
 .intro m k b p F H I y A
  have j:∀m p,m≠e.length->(v.put e.length c).μ m=some p->∃b,v.μ m=some p/\e[m]? =some b:=by
   intro m p z q;simp only[St.put,J z]at q;let⟨b,_,E,_⟩:=G.cell m p q;exact⟨b,q,E⟩
  by_cases C:m=e.length
  .by_cases u:k=e.length
   .rw[C,u]
   .exfalso
    let⟨V,e1,l⟩:=j k F u I;have n:=i _ _ l;rw[A]at n;cases n;rw[C,s]at y;cases y;exact f.cell _ _ e1 l
  .by_cases u:k=e.length
   .exfalso
    let⟨V,e1,l⟩:=j m p C H;have n:=i _ _ l;rw[y]at n;cases n;rw[u,s]at A;cases A;exact f.cell _ _ e1 l
   .let⟨X,e1,l⟩:=j m p C H
    let⟨Y,W,L⟩:=j k F u I;have n:=i _ _ l;have M:=i _ _ L;rw[y]at n;cases n;rw[A]at M;cases M;exact G.inj m k _ _ _ e1 W l L
 .rcases aB.mp t with t|t
  .exact G.low b t
  .rw[aj.mp t];exact f.low
def FE(w:Yz)(A:YA)(d:Env)(h:Md)(j:St){T:Type}(k:YH->X_->Obj->T->Prop)(t:Yq)(P:T->St->Prop):Prop:=
 ∀(g R:YH) (i:X_) (s:Yy) (E:X0) (Q:X0),FS w g R i j d h s.heap->
  (∀(e:Yy) (f:YH) (b:X_) (a:YB) (o:Obj) (x:T) (c:St),Gr s g i e f b->FS w f R b c d h e.heap->FU w f R b c e.heap a o->k f b o x->P x c->Q (.ref a) e)->wpAny (model pw w) A t Q E s
theorem FE.vK(h:FE w A d l m (zS w) t λq b=>P (.vK q) b):GE w A d l m t P:=by
 intro g R r s E Q F k;refine h g R r s E Q F λu G f a o x b e j v ⟨i,n,y,z⟩ p=>?_;subst y;let⟨C,c⟩:=j.G.AE v;exact k _ u _ f _ b ⟨e.gens,e.os,e.le.trans c,e.pre⟩ ⟨C,j.F.mono c (aE _)⟩ (.vK ⟨n,gM _ _ _⟩ (z.mono c (aE _))) p
def qw:=@FE.vK
theorem FE.cell(h:FE w A d j l (zS w) t λm b=>∀n,b.μ n=none->P (.ref n) (b.put n (.vK m))):GE w A d j l t P:=by
 intro g R q s E Q F k;refine h g R q s E Q F λr u f a o x b e c v ⟨i,n,y,z⟩ p=>?_;subst y;have C:=c.G.x6 v (.vK z);exact k _ r u (f++[a]) _ _ ⟨e.gens,e.os,e.le,e.pre.trans (e9 _ _)⟩ ⟨C,c.F.mono (bM _) (e9 _ _)⟩ (.ref (by simp)) (p _ c.G.yu)
theorem FE.wc(h:FE w A d m q (DN w) t λr b=>P (.wc r) b):GE w A d m q t P:=by
 intro g R u s E Q F k;refine h g R u s E Q F λv H f a o x b e j l ⟨i,n,y,z,C⟩ p=>?_;subst y;let⟨G,c⟩:=j.G.AE l;exact k _ v _ f _ b ⟨e.gens,e.os,e.le.trans c,e.pre⟩ ⟨G,j.F.mono c (aE _)⟩ (.wc ⟨l.low,n,gM _ _ _⟩ (yd.mono c (aE _) z) C) p
theorem FE.WD(h:FE w A d j l (DN w) t λm b=>∀n,b.μ n=none->P (.ref n) (b.put n (.wc m))):GE w A d j l t P:=by
 intro g R q s E Q F k;refine h g R q s E Q F λr u f a o x b e c v ⟨i,n,y,z,C⟩ p=>?_;subst y;have G:=c.G.x6 v (.wc z C);exact k _ r u (f++[a]) _ _ ⟨e.gens,e.os,e.le,e.pre.trans (e9 _ _)⟩ ⟨G,c.F.mono (bM _) (e9 _ _)⟩ (.ref (by simp)) (p _ c.G.yu)
def tO:=@FE.WD
theorem FE.mono(h:FE w A c f i j t P)(k:∀x b,P x b->l x b):FE w A c f i j t l:=λg R m s E Q F q=>h g R m s E Q F λn u d a o x b e v y r p=>q n u d a o x b e v y r (k _ _ p)
theorem GS.off(G:GS w g j m p h)(e:j C=some o)(r:View.le R j)(s:R C=none)(k:∀b o,b≠C->h.get? b=some o->t.get? b=some o):GS w g R m p t:=by
 have u:∀b x,g b=some x->b≠C:=by rintro b x q rfl;rw[G.gR _ _ q]at e;cases e
 have f:=G.yC r;refine⟨f.base,λb x q=>k _ _ (u b x q) (G.sub b x q),λb x q=>k _ _ (by rintro rfl;rw[s]at q;cases q) (f.rest b x q),f.gR,?_,G.inj,G.low⟩;intro n c q;let⟨a,x,l,v,y,z,A⟩:=G.cell n c q;have:a≠C:=by rintro rfl;rw[A]at e;cases e
 let⟨_,_,d,_,_,_,i⟩:=f.cell n c q;rw[l]at d;cases d;exact⟨a,x,l,k _ _ this v,y,z,i⟩
def CK(w:Yz)(A:YA)(c:Env)(k:Md)(o:St){T:Type}(p:YH->X_->Obj->T->Prop)(t:Option (Yx->Sem Unit)->Yq)(P:T->St->Prop):Prop:=
 ∀(d:Option (Yx->Sem Unit)) (g R:YH) (l:X_) (s:Yy) (E:X0) (Q:X0),FS w g R l o c k s.heap->
  (∀(e:Yy) (f:YH) (a:X_) (C:YB) (i:Obj) (q:Str->Yn) (j:YB) (m:Obj) (n:T) (b:St),Gr s g l e f a->R C=none->j≠C->FS w f (xR R C i) a b c k e.heap->
   (∀h:YI,h.get? C=some i->h.Ns C q)->FU w f (xR R C i) a b e.heap j m->p f a m n->P n b->compPost (model pw w) A E d Q (.ref j) C (.ok .next) e)->wpAny (model pw w) A (t d) Q E s
def FC(w:Yz)(A:YA)(a:Env)(b:Md)(c:St){T:Type}(d:YH->X_->Obj->T->Prop)(e:YD)(P:T->St->Prop):Prop:=∃t:Option (Yx->Sem Unit)->Yq,eval e a=t none/\(∀u,evalThenUse e a u=(do let _ <-t (some u)))/\CK w A a b c d t P
theorem FC.mono(h:FC w A j o r u e P)(k:∀x i,P x i->v x i):FC w A j o r u e v:=let⟨t,y,z,G⟩:=h;⟨t,y,z,λl g R H s E Q F q=>G l g R H s E Q F λI L m C M N S T V n a b c d e f g p=>q I L m C M N S T V n a b c d e f g (k _ _ p)⟩
def qg:=@FC.mono
theorem Ra(h:R C=none):View.le R (xR R C o):=λa x q=>by rw[bW (by rintro rfl;rw[h]at q;cases q)];exact q
theorem FC.fe(h:FC w A c z G H e P):FE w A c z G H (eval e c) P:=by
 let⟨t,I,_,h⟩:=h;intro g R m s E Q F k;rw[I];refine h none g R m s E Q F λn o d C V L q M N j x r u v l a S p=>⟨L,l _ (v.G.rest _ _ cK),λy f=>?_⟩;have i:Gr s g m {n with heap:=y} o d:=⟨x.gens,x.os,x.le,x.pre⟩;refine k {n with heap:=y} o d q M N j i ⟨v.G.off cK (Ra r) r λb x T e=>(f.2 b T).trans e,F.F.mono i.le i.pre⟩ ⟨(f.2 q u).trans a.get,a.g,?_,a.cell,a.low⟩ S p;have:=a.R
 rwa[bW u]at this
def Cv(w:Yz){T:Type}(k:YH->X_->Obj->T->Prop)(f:T->St->X5):Prop:=∀(g R:YH) (e:X_) (i:St) (h:YI) (a:YB) (o:Obj) (t:T),GS w g R e i h->FU w g R e i h a o->k g e o t->
 ∃j b d c,View.le g j/\e<+:b/\GS w j R b c h/\Rd w j b (.ref a) d/\f t i d c
theorem Cv.l:Cv w (zS w) λt b d c=>d= .vK t/\c=b:=λg R i b h a o t G j ⟨e,n,k,m⟩=>by
 subst k;let⟨p,f⟩:=G.AE j;exact⟨_,i,_,b,f,aE _,p,.vK ⟨n,gM _ _ _⟩ (m.mono f (aE _)),rfl,rfl⟩
theorem Cv.d:Cv w (DN w) λt b d c=>d= .wc t/\c=b:=λg R j b h a o t G f ⟨e,n,k,m,p⟩=>by
 subst k;let⟨q,i⟩:=G.AE f;exact⟨_,j,_,b,i,aE _,q,.wc ⟨f.low,n,gM _ _ _⟩ (m.mono i (aE _)) p,rfl,rfl⟩
theorem Cv.dc:Cv w (DN w) λt b d c=>∃n,b.μ n=none/\d= .ref n/\c=b.put n (.wc t):=λg R f b h a o t G i ⟨e,n,j,k,m⟩=>by
 subst j;exact⟨g,f++[a],_,_,bM _,e9 _ _,G.x6 i (.wc k m),.ref (by simp),_,G.yu,rfl,rfl⟩
theorem SE.SQ(hs:i.scope=S)(hk:zy (S.names.lookup x)=true)(cv:Cv w AR f)(h:FC w A i md σ AR k λt l=>∀d v,f t l d v->N ((x,d)::md) v)(hw:swapsWithSole [.Name x p] k a0.line i=pure true):SE w A i md σ (exec (.Assign [.Name x p] k a0) i) N P:=by
 intro g R ρ s E Q F k1 k2;let⟨t,_,h2,h⟩:=h;rw[mz];refine Z (aX ?_);rw[hw];refine Z (U ?_);simp only[cE];rw[h2];refine Z (Z (h _ g R ρ s E _ F λX g4 b0 C o5 m5 dA o4 t4 c0 u L ne F4 d0 fr ar q=>?_));let⟨Y,G,d,l,M,H,G',rd,hf⟩:=cv g4 _ b0 c0 X.heap dA o4 t4 F4.G fr ar;have m:=q d l hf;have gC:∀o,Y C≠some o:=λo e=>by have:=G'.gR _ _ e;rw[cK]at this;cases this
 have n:¬x8 i C:=λow=>by
  rcases ow with e|⟨y,e1,e2⟩
  .let⟨o,_,_,_,j,_⟩:=F.F.loc
   rw[<-e,L]at j;cases j
  .rcases F.F.all y C e2 with⟨o,j⟩|⟨_,o,j⟩
   .rw[L]at j;cases j
   .exact gC o (M _ _ (u.le _ _ j))
 have T:Gr s g ρ X Y G:=⟨u.gens,u.os,u.le.trans M,u.pre.trans H⟩;show wpAny (model pw w) A (PySem.assign (.Name x p) i (.ref dA)) (λ_ r=>∃m,r.heap.Ns C m/\∀V,Heap.SameBut C r.heap V->wpAny (model pw w) A (pure ()) (λ_ s'=>wpAny (model pw w) A (pure Flow.next) Q E s') E {r with heap:=V}) E X;refine assign_Name (nR ⟨G',F4.F.mono M H⟩ rd (o8 (by unfold Env.kindOf;rw[hs];exact hk)) λs2 R2 W F2 so=>?_);have I:R2 C=some o5:=(so C n).trans cK;refine⟨m5,d0 _ (F2.G.rest _ _ I),λV e0=>U (U ?_)⟩;have f0:View.le (Cd R2 [C]) R2:=IL _ _;have nC:∀a,a≠C->Cd R2 [C] a=R2 a:=λa e=>J (by simpa using e);have cC:Cd R2 [C] C=none:=B (.head _);refine k1 {s2 with heap:=V} Y (Cd R2 [C]) G _ l ⟨(T.trans W).gens,(T.trans W).os,(T.trans W).le,(T.trans W).pre⟩ ⟨F2.G.off I f0 cC λb o nb e=>(e0.2 b nb).trans e,F2.F.congr (λo e=>?_) λy c o q e=>?_⟩ (λa na=>?_) m
 .rw[nC _ λe'=>n (.inl e'.symm)];exact e
 .refine(nC _ λe'=>?_).trans e
  subst e';rcases F.F.all y c q with⟨o,j⟩|⟨_,o,j⟩
  .rw[L]at j;cases j
  .exact gC o (M _ _ (u.le _ _ j))
 .by_cases z:a=C
  .subst z;rw[cC,L]
  .rw[nC _ z,so a na,bW z]
def l9:=@SE.SQ
theorem E8(b1:∀{g g':YH} {ρ n0:X_} {o:Obj} {t:T},AR g ρ o t->View.le g g'->ρ<+:n0->AR g' n0 o t)(p0:clausesOf e=c::cs)(ha:c.is_async=0)(hs:i.scope=S)(ok:DE d S)(j0:∀x,foldedSetIterable c.iter i x=pure x)(x0:∀{s:Yy} {E:X0} {Q:X0},Q (.ref s.heap.objs.size) {s with heap:=s.heap.push N}->wpAny (model pw w) A d0 Q E s)(q0:N.isFreed=false)(y0:∀g ρ,AR g ρ N t0)(c1:IT w A i md σ tg lk (eval c.iter i) ds)(k0:∀(v j:YB) (f:Env) (s:Yy) (Q:Fin->Yy->Prop) (E':X0),(∀E,wpAny (model pw w) A (compStart e 0 (.ref v) (.ref j) f) Q E s)->wpAny (model pw w) (A.under (.compStart e 0 (.ref v) (.ref j) f)) ((model pw w).den (.compStart e 0 (.ref v) (.ref j) f)) Q E' s)(hq:∀(v j:YB) (f:Env),(Code.compLoop e 0 (.ref v) (.ref j) f).quiet=true){innerT:YB->Env->Sem Fin->Sem Fin}{inner:Env->Md->St->T->(T->St->Prop)->Prop}(z0:∀(v j:YB) (f:Env) (s:Yy) (Q:Fin->Yy->Prop) (E':X0),(∀E,wpAny (model pw w) A (xJ f (.ref v) c (innerT j f) (.compLoop e 0 (.ref v) (.ref j) f)) Q E s)->wpAny (model pw w) (A.under (.compLoop e 0 (.ref v) (.ref j) f)) ((model pw w).den (.compLoop e 0 (.ref v) (.ref j) f)) Q E' s)(d1:∀(j:YB) (f:Env) (r0:Md) (s0:St) (t':T) (P':T->St->Prop),inner f r0 s0 t' P'->W7 w A AR j f (innerT j f) r0 s0 t' P')(hT:∀f:Env,f.scope=xu d S->DS w A f c (inner f) tg lk ds (xG d md) σ t0 P):CK w A i md σ AR (λg0=>comprehension e d i w1 d0 false (eval c.iter i) g0) P:=by
 intro g0 g R ρ s E Q F k;have l0:closureFor d i=pure (x7 i d.names []):=closure_eq λp hp hf=>by
  have:=dz.mp ok.free _ hp;rw[hf]at this;simp only[eS,nM]at this;obtain⟨c,_,e,_⟩:=IU F.F (by unfold Env.kindOf;rw[hs];exact(dB.mp this).1) (by simpa using(dB.mp this).2);exact⟨c,e⟩
 have e0:∀y∈d.names,y.2≠.cell:=λy hy=>by
  have:=dz.mp ok.cell _ hy;simpa using this
 apply wpAny_comprehension_free p0 j0 l0 ok.kind (λx hx hl=>by rw[<-hl];exact nL ok.nd hx);refine c1 g R ρ s E _ F λG g1 V H v wr la SS x1 F1 hw f1 It S0 L0 h1=>?_;apply x0;refine wpAny_newFunctionEnv e0 (by intro y hy;simp at hy) (λh2 h0 I=>?_) ok.kind;dsimp only at h0 I⊢;generalize Y:G.heap.push N=H2 at h0 I⊢;have hC:H2.objs.size=G.heap.objs.size+1:=by rw[<-Y,fQ]
 have y1:∀b o,G.heap.get? b=some o->h2.get? b=some o:=λb o e=>by
  have lt:=aJ e;exact I.extBut b o (by rw[hC];exact aQ (fy lt)) (ak _ (Y▸ak _ e))
 have fresh:∀a,G.heap.objs.size<=a->G.heap.get? a=none:=λa=>cu;have z1:h2.get? G.heap.objs.size=some N:=I.extBut _ _ (by rw[hC];exact aQ (dK _)) (ak _ (Y▸aD _ q0));let⟨oC,a2,b2,i1,j1,k1,l1⟩:=id h0;generalize f0:G.heap.objs.size=j at*;generalize u0:H2.objs.size=C at*;have a0:j≠C:=by rw[hC];exact aQ (dK _)
 have nA:G.heap.get? j=none:=fresh _ (ao _);have nC:G.heap.get? C=none:=fresh _ (by rw[hC];exact kT _);have F2:FS w g1 (xR V j N) H (σ.xy lk) i md (G.heap.push N):=F1.DR (λb x q=>ak _ q) nA (by rw[<-f0];exact aD _ q0);have F3:FS w g1 (xR (xR V j N) C oC) H (σ.xy lk) i md h2:=by
  rw[Y]at F2;exact F2.DR (λb x q=>I.extBut b x (by rw[<-u0];exact aQ (aJ q)) (ak _ q)) (by rw[<-u0];exact ju H2) i1
 generalize i0:xR (xR V j N) C oC=R3 at F3;have m1:R3 C=some oC:=by rw[<-i0];exact cK
 have o1:R3 j=some N:=by rw[<-i0,bW a0];exact cK
 have b0:∀a,a≠j->a≠C->R3 a=V a:=λa n1 n2=>by rw[<-i0,bW n2,bW n1]
 have c0:V j=none:=F1.G.yt nA;have L:V C=none:=F1.G.yt nC;have gA:g1 j=none:=F1.G.zZ nA;have M:∀a o,R a=some o->V a=some o:=λa o q=>by
  rw[f1 a (λl=>by rw[hw a (.inl l)]at q;cases q) (λl=>by rw[hw a (.inr l)]at q;cases q)];exact q
 have RA:R j=none:=by cases q:R j with|none=>rfl|some x=>rw[M _ _ q]at c0;cases c0
 have RC:R C=none:=by cases q:R C with|none=>rfl|some x=>rw[M _ _ q]at L;cases L
 have m0:∀a o,V a=some o->R3 a=some o:=λa o q=>by
  rw[b0 a (by rintro rfl;rw[c0]at q;cases q) (by rintro rfl;rw[L]at q;cases q)];exact q
 have Fc:Fm w g1 R3 H (compEnvC d (x7 i d.names []) C i) (xG d md):=Fm.comp F1.F hs ok m0 L m1 j1 k1 _ l1;have u:∀b,b∈wr\/b∈la->b≠j/\b≠C:=by
  intro b l;have:∃o,V b=some o:=by
   rcases l with l|l
   .exact It.own S0 b l
   .cases lk with
    |none=>rw[L0.WZ rfl]at l;cases l
    |some p=>let⟨a,o,W,_,X,_⟩:=L0.WY p.1 p.2 rfl;rw[W]at l;rw[aj.mp l];exact⟨o,X⟩
  let⟨o,q⟩:=this;exact⟨(by rintro rfl;rw[c0]at q;cases q),(by rintro rfl;rw[L]at q;cases q)⟩
 have m:∀x c,(x7 i d.names []).lookup x=some c->∃o,R c=some o:=λx c h=>by
  rcases CR (mem_of_lookup h)with h|⟨W,X⟩
  .cases h
  .have:=dz.mp ok.free _ W
   simp only[eS,nM]at this;obtain⟨c',o,e,e2⟩:=IU F.F (by unfold Env.kindOf;rw[hs];exact(dB.mp this).1) (by simpa using(dB.mp this).2);rw[e]at X;simp only[jz]at X;subst X;exact⟨o,e2⟩
 have FF:FS w g1 R3 H (σ.xy lk) (compEnvC d (x7 i d.names []) C i) (xG d md) h2:=⟨F3.G,Fc⟩;have S3:SS 0 g1 R3 H:=It.mono S0 (bM _) (aE _) λb l=>b0 b (u b l).1 (u b l).2;have L3:=L0.mono (bM _) (aE _) λb l=>b0 b (u b (.inr l)).1 (u b (.inr l)).2;have a1:∀s3:Yy,s3={G with heap:=h2,toks:=G.toks+([]:List (Str×Yx)).length}->codeAny (model pw w) A (.compLoop e 0 (.ref v) (.ref j) (compEnvC d (x7 i d.names []) C i)) (compPost (model pw w) A E g0 Q (.ref j) C) s3:=by
  rintro s3 rfl;refine Kz (AR:=AR) b1 (hq _ _ _) (z0 _ _ _) (d1 j _) (hT (compEnvC d (x7 i d.names []) C i) (C9 hs)) FF ⟨N,o1,y0 _ _⟩ ⟨a0,λx c q=>?_⟩ (λq=>(u _ (.inl q)).1 rfl) (λq=>(u _ (.inr q)).1 rfl)
   (λq=>(u _ (.inl q)).2 rfl) (λq=>(u _ (.inr q)).2 rfl) (λx c q r=>?_) (λx c q r=>?_) h1 It S3 L3 λs4 g4 R4 w0 o4 t4 p1 x4 F4 r4 a4 same p4=>?_
  .rintro rfl
   let⟨o,q⟩:=m x c q;rw[RA]at q;cases q
  .let⟨o,q⟩:=m x c q
   rw[hw c (.inl r)]at q;cases q
  .let⟨o,q⟩:=m x c q
   rw[hw c (.inr r)]at q;cases q
  .
   have r1:∀a o,R a=some o->R4 a=some o:=λa o q=>by
    have nw:¬(a∈wr\/a∈la):=λl=>by rw[hw a l]at q;cases q
    have n1:a≠j:=by rintro rfl;rw[RA]at q;cases q
    have n2:a≠C:=by rintro rfl;rw[RC]at q;cases q
    rw[same a n1 n2,J (λh=>nw (.inr h)),J (λh=>nw (.inl h)),b0 a n1 n2];exact M a o q
   let⟨o5,t1,u1,m5,W,X,q3,q4,_⟩:=F4.F.loc;have W:R4 C=some o5:=W;have y4:Gr s g ρ s4 g4 w0:=⟨x4.gens.trans x1.gens,x4.os.trans x1.os,x1.le.trans x4.le,x1.pre.trans x4.pre⟩;have R6:View.le (xR R C o5) R4:=λa o q=>by
    by_cases z:a=C
    .subst z;rw[cK]at q;cases q;exact W
    .rw[bW z]at q;exact r1 a o q
   have n2:xR R C o5 j=none:=by rw[bW a0];exact RA
   refine k s4 g4 w0 C o5 m5 j o4 t4 p1 y4 RC a0 ⟨F4.G.yC R6,(F.F.congr (λo e=>?_) λx c o q e=>?_).mono y4.le y4.pre⟩ (λh e=>⟨o5,t1,u1,e,X,q3,q4⟩) ⟨F4.G.rest _ _ r4,?_,n2,λn c W X=>?_,?_⟩ a4 p4
   .rw[bW (by rintro rfl;rw[RC]at e;cases e)];exact e
   .rw[bW (by rintro rfl;rw[RC]at e;cases e)];exact e
   .cases q:g4 j with
    |none=>rfl
    |some x=>rw[F4.G.gR _ _ q]at r4;cases r4
   .let⟨a',o',e1,_,_,_,e5⟩:=F4.G.cell n c W
    rw[X]at e1;cases e1;rw[r4]at e5;cases e5
   .exact F1.G.high (sI f0)
 exact A0 (by rw[p0];rfl) ha (k0 _ _ _) (hq _ _ _) (λE' Q' v1=>It.again _ 0 _ _ _ _ E' Q' FF.G S3 v1) (a1 _ rfl)
abbrev Xh(w:Yz)(A:YA)(b:YD)(a:Env)(c:Md)(e:St)(t:Yb)(P:Yb->St->Prop):Prop:=t.length<=100000/\GE w A a c e (eval b a) λd f=>P (t++[d]) f
abbrev T1(b:YD)(c:YB)(a:Env):Sem Unit:=do let _ <-call (.builtin "list.append") [.ref c,<-eval b a]
abbrev K1(b:YD)(c:YB)(a:Env)(k:Sem Fin):Sem Fin:=do T1 b c a;k
abbrev Xg(w:Yz)(A:YA)(e:YD)(d:Comprehension)(a:Env)(b:Md)(c:St)(t:Yb)(P:Yb->St->Prop):Prop:=∃f g h,Qp w A a b c f g (eval d.iter a) h/\(∀x,foldedSetIterable d.iter a x=pure x)/\∀i,h i->DS w A a d (Xh w A e a) f g i b c t P
theorem De(h:Q (.ref s.heap.objs.size) {s with heap:=s.heap.push (v9 "list" #[] 0)}):wpAny (model pw w) A (newList []) Q E s:=cM h
def VE:YD->Bool
 | .ListComp .. | .DictComp .. =>true
 |_=>false
theorem MH(g:VE e=true):∀(s:Yy) (Q:Fin->Yy->Prop) (c:X0),(∀E,wpAny (model pw w) A (compStart e a (.ref d) (.ref f) b) Q E s)->wpAny (model pw w) (A.under (.compStart e a (.ref d) (.ref f) b)) ((model pw w).den (.compStart e a (.ref d) (.ref f) b)) Q c s:=by
 intro s Q c h;cases e with
 |ListComp=>exact wpAny_notedAt (h _)
 |DictComp=>exact wpAny_notedAt (h _)
 |_=>cases g
def rG:=@MH
theorem VS:compTurn (.ListComp e [⟨a,c,f,0⟩] d g) 0 h (.ref i) b=xJ b h ⟨a,c,f,0⟩ (K1 e i b) (.compLoop (.ListComp e [⟨a,c,f,0⟩] d g) 0 h (.ref i) b):=by rfl
abbrev T2(e:YD)(b:Comprehension)(c:YB)(a:Env)(k:Sem Fin):Sem Fin:=do
 let x <-eval b.iter a
 standAt b.iter.pos
 let x <-foldedSetIterable b.iter a x
 let _ <-runOwn (.compStart e 1 (<-holding [x] (pyIter x)) (.ref c) a) a
 k
theorem Ua:compTurn (.ListComp c [⟨e,f,g,0⟩,⟨h,i,j,0⟩] b d) 0 k (.ref l) a=xJ a k ⟨e,f,g,0⟩ (T2 (.ListComp c [⟨e,f,g,0⟩,⟨h,i,j,0⟩] b d) ⟨h,i,j,0⟩ l a) (.compLoop (.ListComp c [⟨e,f,g,0⟩,⟨h,i,j,0⟩] b d) 0 k (.ref l) a):=by rfl
theorem T_:compTurn (.ListComp c [⟨j,k,l,0⟩,⟨e,f,g,0⟩] b d) 1 h (.ref i) a=xJ a h ⟨e,f,g,0⟩ (K1 c i a) (.compLoop (.ListComp c [⟨j,k,l,0⟩,⟨e,f,g,0⟩] b d) 1 h (.ref i) a):=by rfl
theorem Xy(i j:YB)(b:Env)(s:Yy)(Q:Fin->Yy->Prop)(k:X0)(h:∀E,wpAny (model pw w) A (xJ b (.ref i) ⟨a,d,e,0⟩ (K1 f j b) (.compLoop (.ListComp f [⟨a,d,e,0⟩] c g) 0 (.ref i) (.ref j) b)) Q E s):wpAny (model pw w) (A.under (.compLoop (.ListComp f [⟨a,d,e,0⟩] c g) 0 (.ref i) (.ref j) b)) ((model pw w).den (.compLoop (.ListComp f [⟨a,d,e,0⟩] c g) 0 (.ref i) (.ref j) b)) Q k s:=by
 show wpAny _ A ((compTurn (.ListComp f [⟨a,d,e,0⟩] c g) 0 (.ref i) (.ref j) b).onRaise (λx=>do noteFrame x b;theTreesLotGoes x)) _ _ s;exact pL (by rw[VS];exact h _)
theorem WC(e f:YB)(a:Env)(s:Yy)(Q:Fin->Yy->Prop)(n:X0)(h:∀E,wpAny (model pw w) A (xJ a (.ref e) ⟨g,i,j,0⟩ (T2 (.ListComp c [⟨g,i,j,0⟩,⟨k,l,m,0⟩] b d) ⟨k,l,m,0⟩ f a) (.compLoop (.ListComp c [⟨g,i,j,0⟩,⟨k,l,m,0⟩] b d) 0 (.ref e) (.ref f) a)) Q E s):wpAny (model pw w) (A.under (.compLoop (.ListComp c [⟨g,i,j,0⟩,⟨k,l,m,0⟩] b d) 0 (.ref e) (.ref f) a)) ((model pw w).den (.compLoop (.ListComp c [⟨g,i,j,0⟩,⟨k,l,m,0⟩] b d) 0 (.ref e) (.ref f) a)) Q n s:=by
 show wpAny _ A ((compTurn (.ListComp c [⟨g,i,j,0⟩,⟨k,l,m,0⟩] b d) 0 (.ref e) (.ref f) a).onRaise (λx=>do noteFrame x a;theTreesLotGoes x)) _ _ s;exact pL (by rw[Ua];exact h _)
theorem WB(e f:YB)(a:Env)(s:Yy)(Q:Fin->Yy->Prop)(n:X0)(h:∀E,wpAny (model pw w) A (xJ a (.ref e) ⟨g,i,j,0⟩ (K1 c f a) (.compLoop (.ListComp c [⟨k,l,m,0⟩,⟨g,i,j,0⟩] b d) 1 (.ref e) (.ref f) a)) Q E s):wpAny (model pw w) (A.under (.compLoop (.ListComp c [⟨k,l,m,0⟩,⟨g,i,j,0⟩] b d) 1 (.ref e) (.ref f) a)) ((model pw w).den (.compLoop (.ListComp c [⟨k,l,m,0⟩,⟨g,i,j,0⟩] b d) 1 (.ref e) (.ref f) a)) Q n s:=by
 show wpAny _ A ((compTurn (.ListComp c [⟨k,l,m,0⟩,⟨g,i,j,0⟩] b d) 1 (.ref e) (.ref f) a).onRaise (λx=>do noteFrame x a;theTreesLotGoes x)) _ _ s;exact pL (by rw[T_];exact h _)
theorem EJ.XT(hc:(clausesOf e)[1]? =some ⟨G,H,I,0⟩)(hf:VE e=true)(v:∀(f:YB) (s:Yy) (Q:Fin->Yy->Prop) (L:X0),(∀E,wpAny (model pw w) A (xJ d (.ref f) ⟨G,H,I,0⟩ (K1 W i d) (.compLoop e 1 (.ref f) (.ref i) d)) Q E s)->wpAny (model pw w) (A.under (.compLoop e 1 (.ref f) (.ref i) d)) ((model pw w).den (.compLoop e 1 (.ref f) (.ref i) d)) Q L s)(hq:∀f:YB,(Code.compLoop e 1 (.ref f) (.ref i) d).quiet=true)(h:Xg w A W ⟨G,H,I,0⟩ d md σ t P):W7 w A (zS w) i d (T2 e ⟨G,H,I,0⟩ i d) md σ t P:=by
 let⟨tg,lk,PP,X,l,hT⟩:=h;rintro g R ρ s E Q kk F ⟨o,m,a2⟩ ap k;refine Z (f_ (X g R ρ s E (λp s2=>wpAny (model pw w) A (runOwn (.compStart e 1 p (.ref i) d) d) (λ_ s'=>wpAny (model pw w) A kk Q E s') E s2) F λds hP s1 g1 R1 d0 f M N SS y S n u T V L0 Y=>?_)
  (λx s1 h1=>Z (aX (Z (kR (l x) (Z (aC (f_ h1 (λp s2 h2=>?_) λ_ _ e=>e))))))) λ_ _ e=>e)
 .have dw:i∉M:=λq=>by rw[n _ (.inl q)]at m;cases m
  have dl:i∉N:=λq=>by rw[n _ (.inr q)]at m;cases m
  have j:yI d (M++N):=F.F.yI λb hb=>⟨n b (aB.mp hb),K9 S.G y.le (T.own V) L0 b (aB.mp hb)⟩;refine wpAny_runOwn ?_;show codeAny (model pw w) A _ _ _;apply A0 hc rfl (rG hf) (hq f) (λL Q' a0=>T.again _ 0 _ _ _ _ L Q' S.G V a0);refine Kz (AR:=zS w) zS.mono (hq f) (v f) (λe0 f0 t' P' hh=>(EJ.list hh.2 hh.1).k) (hT ds hP) S ⟨o,by rw[u _ dw dl];exact m,a2.mono y.le y.pre⟩ ap dw dl (λq=>j.1 _ (aR _ q) rfl) (λq=>j.1 _ (aN _ q) rfl)
   (λx c q r=>j.2 x c q (aR _ r)) (λx c q r=>j.2 x c q (aN _ r)) Y T V L0 λs4 g4 R4 b0 o4 t4 c0 x4 F4 r4 a4 same p4=>?_
  refine k s4 g4 R4 b0 o4 t4 c0 (y.trans x4) F4 r4 (λa n1 n2=>?_) a4 p4;rw[same a n1 n2];by_cases z:a∈N
  .rw[B z,n a (.inr z)]
  .rw[J z]
   by_cases C:a∈M
   .rw[B C,n a (.inl C)]
   .rw[J C,u a C z]
 .exact Z h2
theorem FE.GO(n:e.scope=S)(o:DE a S)(i:IT w A e k l p q (eval c e) r)(s:∀b:Env,b.scope=xu a S->DS w A b ⟨d,c,h,0⟩ (Xh w A f b) p q r (xG a k) l [] P)(g:∀x,foldedSetIterable c e x=pure x:=by intro _;rfl):FC w A e k l (zS w) (.ListComp f [⟨d,c,h,0⟩] a j) P:=
 ⟨_,eval_ListComp ..,λu=>ru ..,E8 (AR:=zS w) (e:=.ListComp f [⟨d,c,h,0⟩] a j) (cs:=[]) zS.mono rfl rfl n o g De rfl (λ_ _=>⟨[],0,rfl,.nil⟩) i (λz t b=>rG rfl) (λ_ _ _=>rfl)
  (innerT:=K1 f) (inner:=Xh w A f) Xy (λt b v y C E m=>(EJ.list m.2 m.1).k) s⟩
theorem FE.Ef(q:c.scope=S)(r:DE a S)(m:IT w A c n o s t (eval i c) v)(y:∀b:Env,b.scope=xu a S->DS w A b ⟨k,i,l,0⟩ (Xg w A d ⟨f,g,h,0⟩ b) s t v (xG a n) o [] P)(e:∀x,foldedSetIterable i c x=pure x:=by intro _;rfl):FC w A c n o (zS w) (.ListComp d [⟨k,i,l,0⟩,⟨f,g,h,0⟩] a j) P:=
 ⟨_,eval_ListComp ..,λu=>ru ..,E8 (AR:=zS w) (e:=.ListComp d [⟨k,i,l,0⟩,⟨f,g,h,0⟩] a j) (cs:=[⟨f,g,h,0⟩]) zS.mono rfl rfl q r e De rfl (λ_ _=>⟨[],0,rfl,.nil⟩) m (λp z b=>rG rfl) (λ_ _ _=>rfl)
  (innerT:=T2 (.ListComp d [⟨k,i,l,0⟩,⟨f,g,h,0⟩] a j) ⟨f,g,h,0⟩) (inner:=Xg w A d ⟨f,g,h,0⟩) WC
  (λz b E F G H C=>EJ.XT rfl rfl (λp=>WB p _ _) (λ_=>rfl) C) y⟩
abbrev XN(w:Yz)(A:YA)(c:Nat)(h i:YD)(a:Env)(b:Md)(e:St)(t:Yh)(P:List (D×D)->St->Prop):Prop:=t.length<=100000/\wG c t/\GE w A a b e (eval h a) λd f=>d.kd=some c/\GE w A a b f (eval i a) λv g=>P (wM t d v) g
abbrev TD(d b:YD)(f:YB)(a:Env):Sem Unit:=do
 let c <-eval d a
 let e <-holding [c] (eval b a)
 standAt {d.pos with endLine:=b.pos.endLine,endCol:=b.pos.endCol}
 holding [c,e] (dictSet f c e)
abbrev KD(b c:YD)(d:YB)(a:Env)(k:Sem Fin):Sem Fin:=do TD b c d a;k
theorem VR:compTurn (.DictComp g h [⟨a,c,e,0⟩] d f) 0 i (.ref j) b=xJ b i ⟨a,c,e,0⟩ (KD g h j b) (.compLoop (.DictComp g h [⟨a,c,e,0⟩] d f) 0 i (.ref j) b):=by rfl
theorem Xx(g i:YB)(b:Env)(s:Yy)(Q:Fin->Yy->Prop)(l:X0)(h:∀E,wpAny (model pw w) A (xJ b (.ref g) ⟨a,d,e,0⟩ (KD j k i b) (.compLoop (.DictComp j k [⟨a,d,e,0⟩] c f) 0 (.ref g) (.ref i) b)) Q E s):wpAny (model pw w) (A.under (.compLoop (.DictComp j k [⟨a,d,e,0⟩] c f) 0 (.ref g) (.ref i) b)) ((model pw w).den (.compLoop (.DictComp j k [⟨a,d,e,0⟩] c f) 0 (.ref g) (.ref i) b)) Q l s:=by
 show wpAny _ A ((compTurn (.DictComp j k [⟨a,d,e,0⟩] c f) 0 (.ref g) (.ref i) b).onRaise (λx=>do noteFrame x b;theTreesLotGoes x)) _ _ s;exact pL (by rw[VR];exact h _)
theorem Df(h:Q (.ref s.heap.objs.size) {s with heap:=s.heap.push (wj #[] 0)}):wpAny (model pw w) A (newDict) Q E s:=cM h
theorem FE.PS(q:we n A)(r:f.scope=S)(s:DE a S)(l:IT w A f o p t v (eval d f) y)(z:∀b:Env,b.scope=xu a S->DS w A b ⟨e,d,h,0⟩ (XN w A c i j b) t v y (xG a o) p [] P)(g:∀x,foldedSetIterable d f x=pure x:=by intro _;rfl):FC w A f o p (DN w) (.DictComp i j [⟨e,d,h,0⟩] a m) P:=
 ⟨_,arm_eval_DictComp ..,λu=>arm_evalThenUse_DictComp ..,E8 (AR:=DN w) (e:=.DictComp i j [⟨e,d,h,0⟩] a m) (cs:=[]) DN.mono rfl rfl r s g Df rfl (λ_ _=>⟨[],0,rfl,.nil,cF⟩) l (λG C b=>rG rfl) (λ_ _ _=>rfl)
  (innerT:=KD i j) (inner:=XN w A c i j) Xx (λC b E F H I k=>(EJ.dict q k.2.2 k.1 k.2.1).k) z⟩
section
variable{σ:St}
def EP(w:Yz)(A:YA)(a:Env):List YD->Md->St->Bool->Prop
 |[],_,_,b=>b=true
 |[c],d,σ,b=>PB w A a d σ (isTrue c a (eval c a)) b
 |_,_,_,_=>False
theorem EP.to(h:EP w A d a f σ b)(e:P b σ):Tv w A d a f σ P:=by
 match a,h with
 |[],h=>have h:b=true:=h;subst h;exact e
 |[c],h=>exact PB.Xj h e
structure Le(w:Yz)(A:YA)(cenv:Env)(md:Md)(σ:St)(target:YD)(d:D)(md1:Md):Prop where
 as:Tc w A cenv md σ target d md1
 le:Md.le md md1
theorem DG{a:List e}(h:(a.map b)[k]? =some d):∃x,a[k]? =some x/\d=b x/\a.take (k+1)=a.take k++[x]:=by
 rw[a_]at h;obtain⟨x,c,rfl⟩:=bu.mp h;exact⟨x,c,rfl,by rw[List.take_add_one,c];rfl⟩
def cB:=@DG
theorem FE.Mf{m b g:YD}(l:List r)(n:r->D)(p:r->Bool)(v:r->D)(F:i.scope=S)(G:DE c S)(s:IT w A i z σ tg lk (eval g i) (l.map n))(u:tg b)(y:(σ.xy lk).wW lk=σ)(N:l.length<=100000)(h:∀a:Env,a.scope=xu c S->∀x∈l,∃e,Le w A a (xG c z) (σ.xy lk) b (n x) e/\EP w A a ifs e (σ.xy lk) (p x)/\(p x=true->PE w A a e (σ.xy lk) (eval m a) (v x)))(j:∀x,foldedSetIterable g i x=pure x:=by intro _;rfl):FC w A i z σ (zS w) (.ListComp m [⟨b,g,ifs,0⟩] c M) λt f=>t=(l.filter p).map v/\f=σ:=by
 refine FE.GO F G s (λa H=>⟨u,λk t f=>t=((l.take k).filter p).map v/\f=σ.xy lk,⟨by simp,rfl⟩,?_,?_⟩) j
 .rintro k d t f hd ⟨rfl,rfl⟩
  obtain⟨x,C,rfl,o⟩:=cB hd;let⟨e,E,I,L⟩:=h a H x (aH C);refine⟨e,E.as,E.le,I.to ⟨λq=>⟨?_,(L q).g ⟨?_,rfl⟩⟩,λq=>⟨?_,rfl⟩⟩⟩
  .rw[az]
   exact bg (cP _ _) (bg (jV _ _) (by have:=(aP.mp C).1;omega))
  .rw[o,fK,aL];simp[q]
  .rw[o,fK,aL];simp[q]
 .rintro t f ⟨rfl,rfl⟩
  rw[y];exact⟨by rw[dG (by simp)],rfl⟩
def mh:=@FE.Mf
theorem FE.My{n c:Nat}(W:we n A)(m:List s)(z:s->D)(p:s->Bool)(f v:s->D)(X:j.scope=S)(Y:DE b S)(M:IT w A j R σ tg lk (eval o j) (m.map z))(N:tg e)(P:(σ.xy lk).wW lk=σ)(hz:m.length<=100000)(C:∀x∈m,(f x).kd=some c)(h:∀a:Env,a.scope=xu b S->∀x∈m,∃g,Le w A a (xG b R) (σ.xy lk) e (z x) g/\EP w A a Q g (σ.xy lk) (p x)/\(p x=true->PE w A a g (σ.xy lk) (eval kx a) (f x)/\PE w A a g (σ.xy lk) (eval vx a) (v x)))(q:∀x,foldedSetIterable o j x=pure x:=by intro _;rfl):FC w A j R σ (DN w) (.DictComp kx vx [⟨e,o,Q,0⟩] b a0) λt i=>t=(m.filter p).foldl (λl x=>wM l (f x) (v x)) []/\i=σ:=by
 have F:∀(l:List s) t,(l.foldl (λl x=>wM l (f x) (v x)) t).length<=t.length+l.length:=by
  intro l;induction l with
  |nil=>intro t;simp
  |cons x r H=>
   intro t;have h1:(wM t (f x) (v x)).length<=t.length+1:=by
    have:=aU List.length (j6 (l:=t) (k:=f x) (v:=v x));rw[az]at this;rw[this]
    classical
    split<;>simp
   have:=H (wM t (f x) (v x));simp only[dg,bO];omega
 have G:∀(l:List s),(∀x∈l,(f x).kd=some c)->∀t,wG c t->wG c (l.foldl (λl x=>wM l (f x) (v x)) t):=by
  intro l;induction l with
  |nil=>intro _ t h;exact h
  |cons x r H=>intro h t ht;exact H (λy I=>h y (bV _ I)) _ (ht.wM (h x dY))
 refine FE.PS W (c:=c) X Y M (λa hc=>⟨N,λk t i=>t=((m.take k).filter p).foldl (λl x=>wM l (f x) (v x)) []/\i=σ.xy lk,⟨by simp,rfl⟩,?_,?_⟩) q
 .rintro k d t i hd ⟨rfl,rfl⟩
  obtain⟨x,L,rfl,E⟩:=cB hd;let⟨g,T,ts,V⟩:=h a hc x (aH L);refine⟨g,T.as,T.le,ts.to ⟨λu=>⟨?_,?_,(V u).1.g ⟨C x (aH L),(V u).2.g ⟨?_,rfl⟩⟩⟩,λu=>⟨?_,rfl⟩⟩⟩
  .apply bg (F _ _)
   have:=cP p (m.take k);have:=jV k m;have:=(aP.mp L).1;simp only[List.length_nil];omega
  .exact G _ (λy I=>C y (gz (aV.mp I).1)) _ wG.nil
  .rw[E,fK,gv];simp[u]
  .rw[E,fK,gv];simp[u]
 .rintro t i ⟨rfl,rfl⟩
  rw[P];exact⟨by rw[dG (by simp)],rfl⟩
def sO:=@FE.My
theorem FE.Jq{z G H r I:YD}(f:List L)(C:L->D)(b:L->List Y)(l:Y->D)(v:L->Y->D)(hs:m.scope=S)(ok:DE c S)(N:IT w A m md σ tg lk (eval H m) (f.map C))(P:tg G)(Q:(σ.xy lk).wW lk=σ)(hz:(f.flatMap b).length<=100000)(h:∀a:Env,a.scope=xu c S->∀x∈f,∃g,Le w A a (xG c md) (σ.xy lk) G (C x) g/\∃n,IT w A a g (σ.xy lk) n none (eval I a) ((b x).map l)/\n r/\∀y∈b x,∃o,Le w A a g (σ.xy lk) r (l y) o/\PE w A a o (σ.xy lk) (eval z a) (v x y))(u:∀x,foldedSetIterable H m x=pure x:=by intro _;rfl)(p:∀a x,foldedSetIterable I a x=pure x:=by intro _ _;rfl):
 FC w A m md σ (zS w) (.ListComp z [⟨G,H,[],0⟩,⟨r,I,[],0⟩] c a0) λt i=>t=f.flatMap (λx=>(b x).map (v x))/\i=σ:=by
 refine FE.Ef hs ok N (λa hc=>⟨P,λk t i=>t=(f.take k).flatMap (λx=>(b x).map (v x))/\i=σ.xy lk,⟨by simp,rfl⟩,?_,?_⟩) u
 .rintro k d t i hd ⟨rfl,rfl⟩
  obtain⟨x,M,rfl,R⟩:=cB hd;let⟨g,tr,n,T,F,el⟩:=h a hc x (aH M);refine⟨g,tr.as,tr.le,⟨λ_=>⟨n,none,_,T.x,p a,λb0 e=>?_⟩,λq=>by cases q⟩⟩;subst e;refine⟨F,λj r s=>r=(f.take k).flatMap (λx=>(b x).map (v x))++((b x).take j).map (v x)/\s=σ.xy lk,⟨by simp,rfl⟩,?_,?_⟩
  .rintro j d2 r s V ⟨rfl,rfl⟩
   obtain⟨y,hy,rfl,W⟩:=cB V;let⟨o,E,pe⟩:=el y (aH hy);refine⟨o,E.as,E.le,⟨λ_=>⟨?_,pe.g ⟨?_,rfl⟩⟩,λq=>by cases q⟩⟩
   .have e1:((f.take k).flatMap (λx=>(b x).map (v x))).length=((f.take k).flatMap b).length:=by simp[gK]
    rw[aF,e1,az];have e2:f.flatMap b=(f.take k).flatMap b++(b x++(f.drop (k+1)).flatMap b):=by
     conv=>lhs;rw[<-jt k f]
     rw[jW];have X:=(aP.mp M).1;have:f.drop k=x::f.drop (k+1):=by
      rw[iM X];congr 1;exact(aP.mp M).2
     rw[this];rfl
    rw[e2,aF,aF]at hz;have:=jV j (b x);have:((b x).take j).length<=(b x).length:=m_ j (b x);omega
   .rw[W,aL];simp
  .rintro r s ⟨rfl,rfl⟩
   refine⟨?_,rfl⟩;have e:(b x).take ((b x).map l).length=b x:=by rw[az];exact bX
   rw[R,jW,e];simp
 .rintro t i ⟨rfl,rfl⟩
  rw[Q];exact⟨by rw[dG (by simp)],rfl⟩
def rq:=@FE.Jq
theorem FE.Jp{Q t1 i1 H i2:YD}(u:List α)(R:α->D)(W:α->List X->Prop)(p:X->D)(v:X->D)(f:Nat)(hs:C.scope=S)(ok:DE m S)(a0:IT w A C md σ tg lk (eval i1 C) (u.map R))(c0:tg t1)(d0:(σ.xy lk).wW lk=σ)(N:u.length*f<=100000)(hB:∀x∈u,∀y,W x y->y.length<=f)(h:∀l:Env,l.scope=xu m S->∀x∈u,∃n,Le w A l (xG m md) (σ.xy lk) t1 (R x) n/\∃E,Qp w A l n (σ.xy lk) E none (eval i2 l) (λds=>∃y,W x y/\ds=y.map p)/\E H/\∀y,∃F,Le w A l n (σ.xy lk) H (p y) F/\PE w A l F (σ.xy lk) (eval Q l) (v y))(M:∀x,foldedSetIterable i1 C x=pure x:=by intro _;rfl)(G:∀l x,foldedSetIterable i2 l x=pure x:=by intro _ _;rfl):
 FC w A C md σ (zS w) (.ListComp Q [⟨t1,i1,[],0⟩,⟨H,i2,[],0⟩] m h0) λt o=>o=σ/\∃g:List (List X),g.length=u.length/\(∀(i:Nat) (x:α),u[i]? =some x->∃y,g[i]? =some y/\W x y)/\t=g.flatten.map v:=by
 have fl:∀(g:List (List X)),(∀y∈g,y.length<=f)->g.flatten.length<=g.length*f:=λg=>by
  induction g with
  |nil=>intro _;simp
  |cons y r ih=>
   intro P;have h1:=P y (.head _);have h2:=ih λz N=>P z (.tail _ N);rw[List.flatten_cons,aF,bO,mX];omega
 refine FE.Ef hs ok a0 (λl hc=>⟨c0,λk t o=>o=σ.xy lk/\∃g,g.length=k/\(∀i x,i<k->u[i]? =some x->∃y,g[i]? =some y/\W x y)/\(∀y∈g,y.length<=f)/\t=g.flatten.map v,⟨rfl,[],rfl,λi x q=>by omega,λ_ q=>(nomatch q),rfl⟩,?_,?_⟩) M
 .rintro k d t o hd ⟨rfl,g,Y,P,hb,rfl⟩
  obtain⟨x,I,rfl,i0⟩:=cB hd;let⟨n,tr,E,e0,V,el⟩:=h l hc x (aH I);have hk:k<u.length:=(aP.mp I).1;refine⟨n,tr.as,tr.le,⟨λ_=>⟨E,none,_,e0,G l,λj0 e=>?_⟩,λq=>by cases q⟩⟩;obtain⟨s,hp,rfl⟩:=e;have b0:=hB x (aH I) s hp;refine⟨V,λj H L=>H=g.flatten.map v++(s.take j).map v/\L=σ.xy lk,⟨by simp,rfl⟩,?_,?_⟩
  .rintro j d2 H L f0 ⟨rfl,rfl⟩
   obtain⟨y,k0,rfl,g0⟩:=cB f0;let⟨F,T,pe⟩:=el y;refine⟨F,T.as,T.le,⟨λ_=>⟨?_,pe.g ⟨?_,rfl⟩⟩,λq=>by cases q⟩⟩
   .have h1:=fl g hb
    rw[aF,az,az];have h2:(s.take j).length<=s.length:=m_ j s;have h3:(g.length+1)*f<=u.length*f:=jL _ (by omega);rw[mX]at h3;omega
   .rw[g0,aL];simp
  .rintro H L ⟨rfl,rfl⟩
   refine⟨rfl,g++[s],by simp[Y],λi z hi N=>?_,λy q=>?_,?_⟩
   .by_cases c:i<k
    .let⟨y,a,b⟩:=P i z c N
     exact⟨y,by rw[aY (by omega)];exact a,b⟩
    .obtain rfl:i=k:=by omega
     rw[I]at N;cases N;exact⟨s,by rw[<-Y];simp,hp⟩
   .rcases aB.mp q with q|q
    .exact hb y q
    .rw[aj.mp q];exact b0
   .have e:s.take (s.map p).length=s:=by rw[az];exact bX
    rw[e];simp
 .rintro t o ⟨rfl,g,Y,P,hb,rfl⟩
  rw[d0];refine⟨rfl,g,by simpa using Y,λi x I=>P i x ?_ I,rfl⟩;rw[az];exact(aP.mp I).1
theorem Me(h:σ.μ n=some c):(σ.xy (some (n,c))).wW (some (n,c))=σ:=St.Og h
theorem FC.pe(h:FC w A a c σ (zS w) e λx b=>x=ds/\b=σ):PE w A a c σ (eval e a) (.vK ds):=(qw (h.fe.mono λx b q=>by rw[q.1,q.2];exact⟨rfl,rfl⟩)).pe
def jq:=@FC.pe
theorem FE.pe(h:FE w A b c σ (zS w) t λx a=>x=ds/\a=σ):PE w A b c σ t (.vK ds):=(qw (h.mono λx a q=>by rw[q.1,q.2];exact⟨rfl,rfl⟩)).pe
def pJ:=@FE.pe
theorem FE.XH(h:FE w A b c σ (DN w) t λx a=>x=d/\a=σ):PE w A b c σ t (.wc d):=(FE.wc (h.mono λx a q=>by rw[q.1,q.2];exact⟨rfl,rfl⟩)).pe
theorem FE.new(h:FE w A b c σ (zS w) t λx a=>x=d/\a=σ)(e:∀n,σ.μ n=none->P (.ref n) (σ.put n (.vK d))):GE w A b c σ t P:=FE.cell (h.mono λx a q=>by rw[q.1,q.2];exact e)
def kg:=@FE.new
theorem FE.TV(h:FE w A b c σ (DN w) t λx a=>x=d/\a=σ)(e:∀n,σ.μ n=none->P (.ref n) (σ.put n (.wc d))):GE w A b c σ t P:=tO (h.mono λx a q=>by rw[q.1,q.2];exact e)
def oq:=@FE.TV
end
theorem GS.zl(G:GS w g R e f h)(i:f.μ c=some (.vK l))(r:Rd w g e v (.ref c)):∃a b n,v= .ref a/\e[c]? =some a/\h.get? a=some (v9 "list" b.toArray n)/\wR w g e b l:=by
 obtain⟨a,o,rfl,j,k,d⟩:=G.name i r;cases d with
 |vK m=>exact⟨a,_,_,rfl,j,k,m⟩
theorem GS.AG(G:GS w g R d f h)(j:f.μ c=some (.vK l))(k:d[c]? =some a)(e:i.get? a=some (v9 "list" m.toArray n))(p:wR w g d m q)(r:Heap.SameBut a h i):GS w g R d (f.put c (.vK q)) i:=G.upd j k (λb o s x=>(r.2 b s).trans x) e (.vK p)
theorem IX{h:YI}{b ys:Yc}(c:h.get? a=some (v9 "list" b.toArray n))(d:f b.toArray=ys.toArray):∃e,(h.update a (Obj.mapSeq f)).get? a=some (v9 "list" ys.toArray e):=⟨_,by rw[gj _ c rfl,<-d];rfl⟩
def nT:=@IX
theorem DM{c:Nat}{d:D}(k:m.μ c=some (.vK l))(y:l.length<=100000):OG w A m (λf=>call (.builtin "list.append") f) [.ref c,d] λp j=>p= .none/\j=m.put c (.vK (l++[d])):=by
 intro g R r s f E Q G t q
 match f,t with
 |[z,h],.cons u (.cons v .nil)=>
  obtain⟨a,b,n,rfl,x,i,o⟩:=G.zl k u;have C:=o.length;refine qG ry ⟨_,i,rfl⟩ F.entry_list_append (F.args_list_append_2 _ _) (list_append a b.toArray n h (by rw[bA];simp;omega)) ⟨i,?_⟩;let⟨H,e⟩:=nT (f:=(·.push h)) (ys:=b++[h]) i (by simp);exact q .none _ g r .none _ cA (G.AG k x e (o.append (.cons v .nil)) (bY ..)) .none ⟨rfl,rfl⟩
theorem DL{c:Nat}{d:D}(r:j.μ c=some (.vK l))(hd:xA j d m)(M:l.length+m.length<=100000):OG w A j (λk=>call (.builtin "list.extend") k) [.ref c,d] λu p=>u= .none/\p=j.put c (.vK (l++m)):=by
 intro g R v s k E Q G x q
 match k,x with
 |[N,P],.cons y (.cons z .nil)=>
  obtain⟨a,h,n,rfl,C,o,t⟩:=G.zl r y;obtain⟨b,f,H,rfl,I,i⟩:=G.vK z hd;have S:=t.length;have L:=i.length;refine qG rz ⟨_,o,rfl⟩ F.entry_list_extend (F.args_list_extend_2 _ _) (AutoSeq1.list_extend_list_list_0 a h.toArray n b f.toArray H ?_ (by rw[bA];simp;omega) (by rw[bA];simp;omega)) ⟨o,I,?_⟩
  .have:Builtin.List.listTooLong (h.toArray.size+f.toArray.size)=false:=by
    unfold Builtin.List.listTooLong;simp only[aW,i_,bA];omega
   rw[this];simp
  .let⟨T,e⟩:=nT (f:=(·++f.toArray)) (ys:=h++f) o (by simp)
   exact q .none _ g v .none _ cA (G.AG r C e (t.append i) (bY ..)) .none ⟨rfl,rfl⟩
theorem Jr{c:Nat}{d:D}(r:t.μ c=some (.vK (l++[d])))(I:l.length<=100000):OG w A t (λf=>call (.builtin "list.pop") f) [.ref c] λx m=>x=d/\m=t.put c (.vK l):=by
 intro g R u s f E Q G h q
 match f,h with
 |[L],.cons y .nil=>
  obtain⟨a,b,n,rfl,z,i,j⟩:=G.zl r y;have k:=j.length;rw[aF,ia]at k;let⟨v,C,h⟩:=j.get (i:=l.length) (d:=d) (by simp);refine qG s_ ⟨_,i,rfl⟩ F.entry_list_pop (F.args_list_pop_1 _) (MeetsSeq.list_pop_last a b.toArray n v (by rw[aW,k,nY];simpa using C) (by rw[bA];simp;omega)) ⟨i,?_⟩;have o:b.toArray.eraseIdxIfInBounds (b.toArray.size-1)=(b.take l.length).toArray:=by
   simp only[List.eraseIdxIfInBounds_toArray,aW];congr 1;rw[k,nY,List.eraseIdx_eq_take_drop_succ,sS (by omega),d7]
  let⟨M,e⟩:=nT (f:=λH=>H.eraseIdxIfInBounds (b.toArray.size-1)) (ys:=b.take l.length) i o;have p:wR w g u (b.take l.length) l:=by
   have:=j.take l.length
   rwa[List.take_left']at this
   rfl
  exact q v _ g u d _ cA (G.AG r z e p (bY ..)) h ⟨rfl,rfl⟩
theorem HB{l:Yb}(G:GS w g R h u s.heap)(v:u.μ c=some (.vK l))(F:Rd w g h H (.ref c))(I:Rd w g h L (.int i))(M:Rd w g h f d)(x:0<=i)(N:i.toNat<l.length)(V:l.length<=100000)(q:∀y P,GS w g R h (u.put c (.vK (l.set i.toNat d))) y->Q () {s with heap:=y,toks:=P}):wpAny (model pw w) A (setItem H L f) Q E s:=by
 obtain⟨a,b,n,rfl,S,k,z⟩:=G.zl v F;obtain⟨t,rfl⟩:=I.vX;have C:=z.length;have m:s.TypeIs (.ref a) "list":=⟨_,k,rfl⟩;unfold setItem
 try with_reducible refine aC ?_
 first|refine Z (U ?_)|skip
 refine Z (jm m (by decide) ?_);refine Z (dR (name:=Str.ofString "__setitem__") m slot_list_setitem
  (bL slot_list_setitem m entry_list_setitem ?_ (args_list_setitem _ _ _)))
 show wpAny _ _ (Builtin.List.listSubscript? (.int i t)>>=_) _ _ s;refine Z (wpAny_listSubscript_int (fitsIndex_of x (by
  have o:(2:Int)^63=9223372036854775808:=by decide
  rw[o];omega)) ?_)
 obtain⟨j,rfl⟩:=Int.eq_ofNat_of_zero_le x;have T:j<b.toArray.size:=by rw[aW];simp only[cX]at N;omega
 have p:b.toArray[j]? =some b.toArray[j]:=cT T;show wpAny _ _ ((seqItemAt a j>>=λr=>pure (r.map (j,·)))>>=_) _ _ s;refine Z (Z (wpAny_seqItemAt k rfl (U ?_)));rw[p];show wpAny _ _ (setSeqItemAt a j f>>=_) _ _ s;let⟨W,e⟩:=nT (f:=(·.setIfInBounds j f)) (ys:=b.set j f) k (by simp);refine Z (wpAny_setSeqItemAt k rfl ?_);have:=q (s.heap.update a (Obj.mapSeq (·.setIfInBounds j f))) s.toks (G.AG v S e (z.set j M) (bY ..))
 first
  |exact Z (U (U ⟨.none,rfl,U this⟩))
  |exact U ⟨.none,rfl,U this⟩
def DC(a n:Int)(i:Nat):Bool:=if(1:Int)>0 then a<=(i:Int)&&(i:Int)<n&&((i:Int)-a)%1==0 else n<(i:Int)&&(i:Int)<=a&&(a-(i:Int))%(-1)==0
theorem N3(b:List g)(a:Nat):(b.zipIdx.filterMap λ(x,k)=>if DC a b.length k then none else some x)=b.take a:=by
 have f:∀(l:List g) k n,k+l.length<=n->((l.zipIdx k).filterMap λ(x,k)=>if DC a n k then none else some x)=l.take (a-k):=by
  intro l;induction l with
  |nil=>intro k n _;simp
  |cons x r h=>
   intro k n d;have:=h (k+1) n (by simp at d;omega);rw[lJ];by_cases c:a<=k
   .have e:DC a n k=true:=by
     unfold DC;simp only[bO]at d;simp only[show(1:Int)>0 from by decide,cE,Int.emod_one,beq_self_eq_true,jH,bN,aM];omega
    rw[List.filterMap_cons_none (by simp[e]),this];rw[show a-(k+1)=0 by omega,show a-k=0 by omega];rfl
   .have e:DC a n k=false:=by
     unfold DC;simp only[show(1:Int)>0 from by decide,cE];have:¬((a:Int)<=(k:Int)):=by omega
     simp[this]
    rw[List.filterMap_cons_some (b:=x) (by simp[e]),this];obtain⟨j,i⟩:∃j,a-k=j+1:=⟨a-k-1,by omega⟩;rw[i,uA];congr 2;omega
 have:=f b 0 b.length (by omega);simpa using this
theorem Ia{c d:Nat}{l:Yb}(G:GS w g R u v s.heap)(y:v.μ c=some (.vK l))(M:Rd w g u N (.ref c))(p:s.heap.IsSliceOf m (.int d t) .none .none)(Y:l.length<=100000)(X:d<=l.length)(q:∀z P,GS w g R u (v.put c (.vK (l.take d))) z->Q () {s with heap:=z,toks:=P}):wpAny (model pw w) A (delItem N (.ref m)) Q E s:=by
 obtain⟨a,b,n,rfl,S,o,C⟩:=G.zl y M;have L:=C.length;have H:s.TypeIs (.ref a) "list":=⟨_,o,rfl⟩;let⟨os,f,r,i⟩:=id p;have j:s.TypeIs (.ref m) "slice":=⟨os,f,r⟩;refine wpAny_delItem_slot H (by decide) uB (bL uB H F.entry_list_delitem ?_ (F.args_list_delitem_2 _ _));show wpAny _ _ (Builtin.List.listSubscript? (.ref m)>>=_) _ _ s;apply Z;unfold Builtin.List.listSubscript?;refine Z (cL j slice_no_index ?_);simp only[Option.isNone_none,cE];apply U;show wpAny _ _ (typeOf (.ref m)>>=_) _ _ s;refine Z (d8 j ?_);rw[J (by decide)];rw[listSliceParts_eq];refine Z (Z (cJ f i (x:=.none) rfl (Z (qK .none ?_))));rw[J (show¬((rawPart none==rawInt 0)=true)from cD)];refine Z (cJ f i (x:=.int d t) rfl (Z (qK (.int _ _) ?_)));refine Z (cJ f i (x:=.none) rfl (Z (qK .none (U ?_))));apply Z (m:=Builtin.List.listItems (.ref a));unfold Builtin.List.listItems;refine Z (dX o rfl (U ?_));refine Z (kR (sliceIndices_raw (some (d:Int)) none none b.toArray.size (by simp)) ?_);have T:sliceBounds (some (d:Int)) none none b.toArray.size=((d:Int),(b.length:Int),1):=by
  simp only[sliceBounds,Option.getD_none,aW];have V:¬((d:Int)<0):=by omega
  simp only[V,bz,show(1:Int)>0 by decide,cE];congr 1;omega
 rw[T];refine Z (dO ?_);have I:(λh=>(h.toList.zipIdx.filterMap λ(x,k)=>if DC d b.length k then none else some x).toArray) b.toArray=(b.take d).toArray:=by
  show(b.zipIdx.filterMap _).toArray=_;rw[N3]
 let⟨n',e⟩:=nT (f:=λh=>(h.toList.zipIdx.filterMap λ(x,k)=>if DC d b.length k then none else some x).toArray) o I;have W:=q _ s.toks (G.AG y S e (C.take d) (bY ..));refine Z (m:=updateSeq a λh=>(h.toList.zipIdx.filterMap λ(x,k)=>if DC d b.length k then none else some x).toArray) (jS o rfl ?_ (by rw[bA];simp;omega) (by
  show((λh:Yp=>(h.toList.zipIdx.filterMap λ(x,k)=>if DC d b.length k then none else some x).toArray) b.toArray).size<=_;rw[I,bA];simp;omega))
 exact Z (i7 (U ⟨.none,rfl,W⟩))
def Cf:List (Str×D)->Str->D->List (Str×D)
 |[],x,d=>[(x,d)]
 |(y,e)::r,x,d=>if y=x then(y,d)::r else(y,e)::Cf r x d
theorem Au:∀{l:Yr},(Cf l x d).map (·.1)=if x∈l.map (·.1)then l.map (·.1)else l.map (·.1)++[x]
 |[]=>by simp[Cf]
 |(y,e)::r=>by
  unfold Cf;by_cases c:y=x
  .subst c;simp
  .have a:=Au (x:=x) (d:=d) (l:=r)
   rw[J c,bF,a];have b:¬x=y:=λe=>c e.symm;by_cases q:x∈r.map (·.1)
   .rw[B q,bF,B (bV _ q)]
   .rw[J q,bF,J (by simpa using⟨b,by simpa using q⟩)];rfl
theorem Jg(c:(l.map (·.1)).Nodup):((Cf l x d).map (·.1)).Nodup:=by
 rw[Au];split
 .exact c
 .rename_i h
  rw[b6];exact⟨c,by simp,λa g b f e=>h (by rw[aj]at f;rw[<-f,<-e];exact g)⟩
structure yi(w:Yz)(C:YB)(x:Str):Prop where
 hs:findIn (KF w) (.ref C) "__setattr__"=some (some (.builtin "object.__setattr__")):=by kernel_rfl
 hp:plainOver (KF w) C=true:=by kernel_rfl
 ht:takerIn (KF w) C x=some none:=by kernel_rfl
 hh:(clsIn (KF w) C).any (·.hasDict)=true:=by kernel_rfl
theorem Dz.put(a:hsh=(PySem.strKind pw w).hash x)(r:Rd w g b v d):∀{e:Yk} {l:Yr},Dz w g b e l->Dz w g b (putL x hsh (.str x t) v e) (Cf l x d)
 |_,_,.nil=>by rw[a];exact .cons r .nil
 |_,_,.cons (x:=y) (t:=f) h q=>by
  have e1:(Value.str y f).isStr x=(y==x):=rfl;unfold putL Cf;by_cases c:y=x
  .subst c
   rw[B (by simp[e1]),B rfl];exact .cons r q
  .rw[J (by simpa[e1]using c),J c]
   exact .cons h (Dz.put a r q)
theorem Dz.len:Dz w g b a l->a.length=l.length
 | .nil=>rfl
 | .cons _ q=>by simp[Dz.len q]
theorem I6(G:GS w g R y F s.heap)(V:F.μ n=some (.inst C m))(N:F.μ m=some (.ns i))(r:yi w C a)(W:Rd w g y Y (.ref n))(r2:Rd w g y j d)(hz:i.length<=900)(q:∀P tk,GS w g R y (F.put m (.ns (Cf i a d))) P->Q () {s with heap:=P,toks:=tk}):wpAny (model pw w) A (setAttr Y a j) Q E s:=by
 obtain⟨x,t,f,k,rfl,L,I,h,H,nd⟩:=G.inst W V N;have X:=G.ok.k;apply set_plain X I r.hs;have I':InstAt ({s with toks:=s.toks+1}:Yy).heap x (Nc C t) C (some (dictOf f k)):=I;refine osa_open X I' r.hp r.ht λb=>?_;let⟨cd,hc,M⟩:=any_some r.hh;obtain⟨hx,-,-,-⟩:=I;refine Z (U (Z (Z (wpAny_loadPart hx (Z (Looks.here (looks_clsIn X hc) ?_))))));rw[M];refine U (Z (U (Z ?_)));unfold nsSet;refine Z (Z (jA (U (Z (wpAny_mkText (Z (wpAny_loadPart h ?_)))))));have u:(getL a f).isSome=true:=by
  cases e:i.lookup a with
  |none=>rw[H.miss e];rfl
  |some d0=>let⟨v,hv,_⟩:=H.get e;rw[hv];rfl
 have c:(!f.toArray.any (·.key.isStr a)&&f.toArray.any (·.refKey))=false:=by
  rw[<-Array.any_toList,<-Array.any_toList];simp only;unfold getL at u;split at u
  .rename_i en S
   rw[List.any_eq_true.mpr ⟨en,kL S,p5 S⟩];rfl
  .split at u
   .cases u
   .rename_i z;rw[pB]at z;rw[z,qL]
 dsimp only[wj];rw[aRefKeyMayBeTheName_at,c];refine wpAny_updatePart h ?_;have l:(s.heap.update t (Obj.putName a (PyData.keyHash w.params a) (.str a (s.toks+1)) j)).get? t=some (wj (putL a (PyData.keyHash w.params a) (.str a (s.toks+1)) j f).toArray (putN a f k)):=by
  have e1:Obj.putName a (PyData.keyHash w.params a) (.str a (s.toks+1)) j (wj f.toArray k)=wj (putL a (PyData.keyHash w.params a) (.str a (s.toks+1)) j f).toArray (putN a f k):=putName_dict a _ _ j f k;rw[gj _ h (by rw[e1];rfl),e1]
 have p:=Dz.put (t:=s.toks+1) (hsh:=PyData.keyHash w.params a) rfl r2 H;have T:=p.len;have a0:(Cf i a d).length<=i.length+1:=by
  have:=aU List.length (Au (x:=a) (d:=d) (l:=i));rw[az]at this;rw[this];split<;>simp
 refine Z (wpAny_lookBehind l (pastItsLine_dict (by rw[aW,bA];omega)) ?_);refine U (q _ _ (G.upd N L (λb o nb e=>((bY s.heap t _).2 b nb).trans e) l (.ns p (Jg nd))))
theorem Hj(h:t≠g):∀(n i:Nat) (s:Yy) (E:X0) (Q:Yc->Yy->Prop),s.heap.IsListIter g t i->s.heap.IsList t a->i+n<=a.size->(∀l,l.IsListIter g t (i+n)->Heap.SameBut g s.heap l->Q ((a.toList.drop i).take n) {s with heap:=l})->wpAny (model pw w) A (draw (.ref g) n) Q E s
 |0,i,s,E,Q,e,_,_,m=>by
  show wpAny _ _ (pure []) Q E s;exact U (by simpa using m s.heap e (kU ..))
 |n+1,i,s,E,Q,e,o,q,m=>by
  have j:i<a.size:=by omega
  show wpAny _ _ (pyNext (.ref g)>>=_) Q E s;refine Z (sU e o (x:=a[i]) (by simp[j]) λp c b=>?_);refine Z (aC (Hj h n (i+1) _ _ _ c (o.extBut b.extBut h) (by omega) λk d f=>U ?_));have hd:a.toList.drop i=a[i]::a.toList.drop (i+1):=by simp[iM,j]
  have:=m k (by rw[show i+(n+1)=i+1+n by omega];exact d) (b.trans f);rw[hd,uA]at this;exact this
theorem IY(p:A.handled=none)(h:s.heap.IsList t a)(q:∀m,Heap.ExtBut s.heap.objs.size s.heap m->Q a.toList {s with heap:=m}):wpAny (model pw w) A (unpackItems (.ref t) a.size none) Q E s:=by
 have i:t≠s.heap.objs.size:=by let⟨o,r,_⟩:=h;exact aQ (aJ r)
 unfold unpackItems;apply Z;unfold notIterableAtAll;refine Z (cL h.typeIs F.slot_list_iter.lookup ?_);apply U;simp only[aA,bz];refine Z (aC (jj h ?_));refine Z (aC (Hj i a.size 0 _ _ _ ⟨_,aD _ rfl,rfl,rfl⟩ (h.push _) (by omega) λj d c=>?_));have k:List.take a.size (List.drop 0 a.toList)=a.toList:=by
  rw[List.drop_zero];exact dG (by simp)
 rw[k];rw[J (by simp)];have f:j.IsList t a:=(h.push _).extBut c.extBut i;refine Z (aC (tu p d f (by simp) λl g=>?_));simp only[Option.isSome_none,aA,bz];exact U (q l λb o n e=>g b o n (c.extBut b o n (ak _ e)))
theorem GS.extBut(F:GS w g R a c h)(d:Heap.ExtBut h.objs.size h e):GS w g R a c e:=F.keep λb o q=>d b o (by rintro rfl;rw[ju]at q;cases q) q
inductive zL(σ:St):D->Yb->Prop
 |vV {ds:Yb}:zL σ (.vV ds) ds
 |vK {d:D} {ds:Yb}:xA σ d ds->zL σ d ds
theorem Gl(m:A.handled=none)(G:GS w g R h o s.heap)(r:Rd w g h v d)(hd:zL o d p)(k:∀c q,GS w g R h o c->wR w g h q p->Q q {s with heap:=c}):wpAny (model pw w) A (unpackItems v p.length none) Q E s:=by
 cases hd with
 |vV=>
  obtain⟨a,b,n,rfl,e,f⟩:=G.vV r;have i:=f.length;have:=wpAny_unpackItems_tuple (prog:=pw) (w:=w) (A:=A) (E:=E) (Q:=Q) m (lW e) λc j=>k c b (G.extBut j) f
  rwa[aW,i]at this
 |vK l=>
  obtain⟨a,b,n,rfl,e,f⟩:=G.vK r l;have i:=f.length;have:=IY (w:=w) (A:=A) (E:=E) (Q:=Q) m (fB e) λc j=>k c b (G.extBut j) f
  rwa[aW,i]at this
theorem wR.rev:∀{c:Yc} {d:Yb},wR w g e c d->wR w g e c.reverse d.reverse
 |_,_,.nil=>.nil
 |_,_,.cons a b=>by rw[List.reverse_cons,List.reverse_cons];exact(wR.rev b).append (.cons a .nil)
def GA(w:Yz)(A:YA)(b:Env)(l:Md)(m:St)(t:Yx->Sem Unit)(d:D)(N:Md->St->Prop):Prop:=
 ∀(g R:YH) (h:X_) (s:Yy) (v:Yx) (E:X0) (Q:Unit->Yy->Prop),FS w g R h m b l s.heap->Rd w g h v d->
  (∀(i:Yy) (j k:YH) (c:X_) (e:Md) (f:St),Gr s g h i j c->FS w j k c f b e i.heap->(∀a,¬x8 b a->k a=R a)->N e f->Q () i)->wpAny (model pw w) A (t v) Q E s
def Qt(w:Yz)(A:YA)(b:Env)(l:Md)(m:St)(n:List (Yx->Sem Unit))(o:Yb)(N:Md->St->Prop):Prop:=
 ∀(g R:YH) (f:X_) (s:Yy) (i:Yc) (E:X0) (Q:Unit->Yy->Prop),FS w g R f m b l s.heap->wR w g f i o->
  (∀(h:Yy) (j k:YH) (c:X_) (d:Md) (e:St),Gr s g f h j c->FS w j k c e b d h.heap->(∀a,¬x8 b a->k a=R a)->N d e->Q () h)->wpAny (model pw w) A (assignInOrder n i) Q E s
theorem Qt.nil(h:N a b):Qt w A d a b [] [] N:=λg R c s e E Q F r k=>by
 cases r;exact U (k s g R c a b (eU _ _ _) F (λ_ _=>rfl) h)
def gW:=@Qt.nil
theorem Qt.cons(h:GA w A b u x t d λc e=>Qt w A b c e o ds N):Qt w A b u x (t::o) (d::ds) N:=by
 intro g R y s vs E Q F r k;cases r with
 |cons r z=>
  rename_i v vs;show wpAny _ _ (do holding vs (t v);assignInOrder o vs) Q E s;refine Z (aC (h g R y s v E _ F r λC G H f c e p I i L=>?_));exact L G H f C vs E Q I (z.up p) λM P R2 j l m S T n V=>k M P R2 j l m (p.trans S) T (λa q=>(n a q).trans (i a q)) V
def bZ:=@Qt.cons
theorem GA.name(e:a.scope=S)(f:zy (S.names.lookup x)=true)(h:N ((x,d)::i) c):GA w A a i c (PySem.assign (.Name x p) a) d N:=λg R j s v E Q F r k=>assign_Name (nR F r (o8 (by unfold Env.kindOf;rw[e];exact f)) λl m n o b=>k l g m j _ c n o b h)
def ff:=@GA.name
theorem GA.bind(e:a.scope=S)(f:zy (S.names.lookup x)=true)(h:N ((x,d)::i) c):GA w A a i c (bindName a x) d N:=λg R j s v E Q F r k=>MN F r (o8 (by unfold Env.kindOf;rw[e];exact f)) λl m n o b=>k l g m j _ c n o b h
def lR:=@GA.bind
theorem GA.vV(o:A.handled=none)(hd:zL m d n)(h:Qt w A a p m ((assignEach b a).map (·.2)) n N)(t:(assignEach b a).length=n.length:=by rfl)(e:(assignEach b a).findIdx? (·.1)=none:=by rfl):GA w A a p m (PySem.assign (.Tuple b k P) a) d N:=by
 intro g R u s v E Q F r q;rw[arm_assign_Tuple];refine Z (aX ?_);unfold unpack;rw[t,e];refine Z (aC (Gl o F.G r hd λx y z C=>?_));exact h g R u {s with heap:=x} y E Q ⟨z,F.F⟩ C λG H I f i j c L l M=>q G H I f i j ⟨c.gens,c.os,c.le,c.pre⟩ L l M
def kh:=@GA.vV
theorem GA.attr{attr:Str}(k:PE w A a e c (eval o a) (.ref n))(l:c.μ n=some (.inst C m))(p:c.μ m=some (.ns i))(t:yi w C attr)(h:N e (c.put m (.ns (Cf i attr d))))(u:i.length<=900:=by decide):GA w A a e c (PySem.assign (.Attribute o attr H) a) d N:=by
 intro g R x s v E Q F r q;rw[arm_assign_Attribute];refine Z (aC (k g R x s E _ F λI L y f b j z=>Z (aX (Z (aC ?_)))));refine I6 j.G l p t z (r.up b) u λM P G=>kZ ?_;exact q _ y R f e _ ⟨b.gens,b.os,b.le,b.pre⟩ ⟨G,j.F⟩ (λ_ _=>rfl) h
def nk:=@GA.attr
theorem GA.sub(I:PE w A a l t (eval o a) (.ref n))(L:PE w A a l t (eval i a) k)(j:∀(g R:YH) (b:X_) (s:Yy) (m p z:Yx) (E:X0) (Q:Unit->Yy->Prop),GS w g R b t s.heap->Rd w g b m (.ref n)->Rd w g b p k->Rd w g b z d->(∀u C,GS w g R b x u->Q () {s with heap:=u,toks:=C})->wpAny (model pw w) A (setItem m p z) Q E s)(h:N l x):GA w A a l t (PySem.assign (.Subscript o i Y) a) d N:=by
 intro g R b s v E Q F r q;rw[arm_assign_Subscript];refine Z (aC (I g R b s E _ F λm M P y e S T=>Z (aC (L P R y M E _ S λp V G f c H W=>Z (aX (Z (aC ?_)))))));refine j G R f V m p v E _ H.G (T.up c) W (r.up (e.trans c)) λu C X=>kZ ?_;exact q _ G R f l _ ⟨(e.trans c).gens,(e.trans c).os,(e.trans c).le,(e.trans c).pre⟩ ⟨X,H.F⟩ (λ_ _=>rfl) h
theorem GA.QX(j:we m A)(p:PE w A a e b (eval o a) (.ref n))(r:PE w A a e b (eval i a) k)(t:b.μ n=some (.wc l))(f:k.kd=some c)(u:wG c l)(v:l.length<=100000)(h:N e (b.put n (.wc (wM l k d)))):GA w A a e b (PySem.assign (.Subscript o i C) a) d N:=GA.sub p r (λg R F s H I L E Q G x y z q=>HC j G t x y z f u v q) h
def fj:=@GA.QX
theorem GA.BS(e:PE w A a c b (eval o a) (.ref n))(f:PE w A a c b (eval i a) (.int j))(k:b.μ n=some (.vK l))(m:0<=j)(p:j.toNat<l.length)(r:l.length<=100000)(h:N c (b.put n (.vK (l.set j.toNat d)))):GA w A a c b (PySem.assign (.Subscript o i x) a) d N:=GA.sub e f (λg R y s z C F E Q G t u v q=>HB G k t u v m p r q) h
theorem SE.SP(h:GE w A b p q (eval c b) λd e=>GA w A b p e (PySem.assign a b) d N)(r:(assignEach [a] b).map (·.2)=[PySem.assign a b]:=by rfl)(hsw:swappedStores [a] c b=pure none:=by rfl)(t:swapsWithSole [a] c i.line b=pure false:=by rfl):SE w A b p q (exec (.Assign [a] c i) b) N P:=by
 intro g R u s E Q F x T;rw[mz];refine Z (aX ?_);rw[t];refine Z (U ?_);simp only[aA,bz];refine Z (h g R u s E _ F λv f y j d e z C G m=>?_);rw[hsw,r];refine Z (U ?_);show wpAny _ _ (do assignAll v [PySem.assign a b];pure Flow.next) Q E f;apply Z;show wpAny _ _ (PySem.assign a b v) _ E f;refine m y R j f v E _ C G λH I R2 k l o L M S n=>?_;exact U (x H I R2 k l o (z.trans L) M S n)
def bR:=@SE.SP
theorem SE.P8(z:A.handled=none)(h:GE w A a t C (eval b a) λd e=>∃f,zL e d f/\f.length=names.length/\Qt w A a t e (names.reverse.map λn=>bindName a n) f.reverse N)(l:swappedStores [c] b a=pure (some names))(G:swapsWithSole [c] b o.line a=pure false:=by rfl):SE w A a t C (exec (.Assign [c] b o) a) N P:=by
 intro g R H s E Q F I k2;rw[mz];refine Z (aX ?_);rw[G];refine Z (U ?_);simp only[aA,bz];refine Z (h g R H s E _ F λv L u i d e j x M m=>?_);let⟨f,hd,S,m⟩:=m;rw[l];refine Z (U ?_);refine Z (dO ?_);rw[<-S];refine Z (Gl z x.G M hd λT y V W=>?_);have X:wR w u i y.reverse f.reverse:=W.rev;refine Z (m u R i {L with heap:=T} y.reverse E _ ⟨V,x.F⟩ X λY g2 R2 p q r k F2 so n=>?_);exact U (I Y g2 R2 p q r ⟨k.gens.trans j.gens,k.os.trans j.os,j.le.trans k.le,j.pre.trans k.pre⟩ F2 so n)
def pP:=@SE.P8
theorem SE.K0(v:we m A)(x:PE w A a d e (eval o a) (.ref n))(y:PE w A a d e (eval i a) k)(z:e.μ n=some (.wc l))(j:k.kd=some c)(C:wG c l)(q:(k,d0)∈l)(G:l.length<=100000)(h:N d (e.put n (.wc (A9 l k)))):SE w A a d e (exec (.Delete [.Subscript o i p] Y) a) N P:=by
 intro g R H s E Q F I k2;rw[arm_exec_Delete];refine Z (aX (Z ?_));show wpAny _ _ (do delete (.Subscript o i p) a;deleteEach [] a) _ E s;rw[uw];refine Z (Z (x g R H s E _ F λv1 L M r f S T=>Z (aC (y M R r L E _ S λv2 s2 V t b u W=>Z (aX (Z (aC ?_)))))));refine Ib v u.G z (T.up b) W j C q G λh' tk X=>kZ (U (U ?_));exact I _ V R t d _ ⟨(f.trans b).gens,(f.trans b).os,(f.trans b).le,(f.trans b).pre⟩ ⟨X,u.F⟩ (λ_ _=>rfl) h
theorem SE.Sw{n i:Nat}(z:PE w A a j c (eval o a) (.ref n))(C:PE w A a j c (eval e a) (.int i))(G:c.μ n=some (.vK l))(H:i<=l.length)(I:l.length<=100000)(h:N j (c.put n (.vK (l.take i)))):SE w A a j c (exec (.Delete [.Subscript o (.Slice (some e) none none L) p] b0) a) N P:=by
 intro g R M s E Q F S k2;rw[arm_exec_Delete];refine Z (aX (Z ?_));show wpAny _ _ (do delete (.Subscript o (.Slice (some e) none none L) p) a;deleteEach [] a) _ E s;rw[uw];refine Z (Z (z g R M s E _ F λv1 v T r k V W=>Z (aC ?_)));rw[arm_eval_Slice];show wpAny _ _ (do let l <-eval e a;let u <-holding [l] (pure .none);let s <-holding [l,u] (pure .none);newFields "slice" [l,u,s]) _ E v;refine Z (C T R r v E _ V λv2 m x f d y X=>Z (aC (U (Z (aC (U ?_))))));obtain⟨t,rfl⟩:=X.vX;refine cM ?_;refine Z (aX (Z (aC ?_)));have Y:GS w x R f c (m.heap.push {cls:=.type "slice",data:=.fields #[.int i t,.none,.none]}):=y.G.keep λb o q=>ak _ q;refine Ia (s:={m with heap:=m.heap.push _}) Y G (W.up d) (vf ..) I H λh' tk G'=>kZ (U (U ?_));exact S _ x R f j _ ⟨(k.trans d).gens,(k.trans d).os,(k.trans d).le,(k.trans d).pre⟩ ⟨G',y.F⟩ (λ_ _=>rfl) h
def uX:=@SE.Sw
theorem GS.push(G:GS w g R a c h)(o:Obj):GS w g R a c (h.push o):=G.keep λb x q=>ak _ q
theorem FS.push(F:FS w g R b c a d h)(o:Obj):FS w g R b c a d (h.push o):=⟨F.G.push o,F.F⟩
theorem GS.free(G:GS w g R j k h)(d:h.objs.size<=a)(e:h'.get? a=some o):FU w g R j k h' a o:=
 have n:h.get? a=none:=cu d
 ⟨e,G.zZ n,G.yt n,(λm c q r=>by let⟨b,x,f,i,_⟩:=G.cell m c q;rw[r]at f;cases f;rw[n]at i;cases i),G.high d⟩
def FO(w:Yz)(A:YA)(e:St){T:Type}(i:YH->X_->Obj->T->Prop)(t:Yc->Yq)(j:Yb)(x:T):Prop:=
 ∀(g R:YH) (f:X_) (s:Yy) (h:Yc) (E:X0) (Q:X0),GS w g R f e s.heap->wR w g f h j->
  (∀(c:Yy) (d:YH) (b:X_) (a:YB) (o:Obj),Gr s g f c d b->GS w d R b e c.heap->FU w d R b e c.heap a o->i d b o x->Q (.ref a) c)->wpAny (model pw w) A (t h) Q E s
theorem FO.op(h:FO w A f (zS w) t i x):OP w A f t i (.vK x):=
 kO λg R j s l E Q G m k=>h g R j s l E Q G m λp z b a o e q r ⟨c,n,u,v⟩=>by
  subst u;let⟨y,d⟩:=q.AE r;exact k _ p _ b ⟨e.gens,e.os,e.le.trans d,e.pre⟩ y (.vK ⟨n,gM _ _ _⟩ (v.mono d (aE _)))
theorem FO.new(h:FO w A b (zS w) t l x):OG w A b t l λd c=>∃n,b.μ n=none/\d= .ref n/\c=b.put n (.vK x):=
 λg R m s p E Q G q k=>h g R m s p E Q G q λr u f a o e j v ⟨i,n,y,z⟩=>by
  subst y;exact k _ r u (f++[a]) _ _ ⟨e.gens,e.os,e.le,e.pre.trans (e9 _ _)⟩ (j.x6 v (.vK z)) (.ref (by simp)) ⟨_,j.yu,rfl,rfl⟩
theorem FO.XI(h:FO w A i (DN w) t j x):OP w A i t j (.wc x):=
 kO λg R l s m E Q G p k=>h g R l s m E Q G p λq C b a o e r d ⟨c,n,u,v,y⟩=>by
  subst u;let⟨z,f⟩:=r.AE d;exact k _ q _ b ⟨e.gens,e.os,e.le.trans f,e.pre⟩ z (.wc ⟨d.low,n,gM _ _ _⟩ (yd.mono f (aE _) v) y)
theorem FO.TV(h:FO w A b (DN w) t l x):OG w A b t l λd c=>∃n,b.μ n=none/\d= .ref n/\c=b.put n (.wc x):=
 λg R m s p E Q G q k=>h g R m s p E Q G q λr u f a o e j v ⟨i,n,y,z,C⟩=>by
  subst y;exact k _ r u (f++[a]) _ _ ⟨e.gens,e.os,e.le,e.pre.trans (e9 _ _)⟩ (j.x6 v (.wc z C)) (.ref (by simp)) ⟨_,j.yu,rfl,rfl⟩
theorem GE.tuple(h:Aj w A b u v (backTo m (starEach a b)) λd c=>P (.vV d) c)(H:a.length<=1000:=by decide)(I:∀x:Yc,True:=by intro _;trivial)(i:∀d c,P (.vV d) c->d.length<=100000:=by intro _ _ h;first|(let⟨h,_⟩:=h;cases h;decide)|(simp;done)):GE w A b u v (eval (.Tuple a k m) b) P:=by
 intro g R y s E Q F q;rw[arm_eval_Tuple];refine Z (aX (Z (h g R y s E _ F λx z L n d f j o p t=>?_)));have M:=p.length;have hd:=i d f t;refine qM ?_ (by rw[bA];omega);let⟨C,G,l,e,r⟩:=rZ (T:="tuple") (s:=z) o.G p;exact q _ _ C n _ f ⟨j.gens,j.os,j.le.trans l,j.pre⟩ ⟨G,o.F.mono l (aE _)⟩ (.vV e r) t
theorem PE.tuple(h:Ab w A b f i (backTo c (starEach a b)) d)(j:a.length<=1000:=by decide)(l:d.length<=100000:=by simp):PE w A b f i (eval (.Tuple a k c) b) (.vV d):=(GE.tuple (h.gs ⟨rfl,rfl⟩) j (λ_=>trivial) λm n q=>by have:=q.1;injection this with e;rw[e];exact l).pe
def bK:=@PE.tuple
theorem FE.list(h:Aj w A a n o (backTo e (starEach b a)) λc f=>c.length<=100000/\P c f):FE w A a n o (zS w) (eval (.List b e) a) P:=by
 intro g R p s E Q F q;rw[arm_eval_List];refine Z (aX (Z (h g R p s E _ F λr k t i c j d l m u=>?_)));have v:=m.length;refine q9 ?_ (by rw[bA];omega);exact q {k with heap:=k.heap.push _} t i _ _ c j ⟨d.gens,d.os,d.le,d.pre⟩ (l.push _) (l.G.free (ao _) (aD _ rfl)) ⟨r,0,rfl,m⟩ u.2
theorem FE.Wh(h:Ab w A a g e (backTo c (starEach b a)) f)(i:f.length<=100000:=by simp):FE w A a g e (zS w) (eval (.List b c) a) λx d=>x=f/\d=e:=FE.list (h.gs ⟨i,rfl,rfl⟩)
def jg:=@FE.Wh
theorem PE.list(h:Ab w A a e f (backTo c (starEach b a)) d)(i:d.length<=100000:=by simp):PE w A a e f (eval (.List b c) a) (.vK d):=(jg h i).pe
def gV:=@PE.list
theorem FE.nodict:FE w A a f c (DN w) (eval (.Dict [] [] e) a) λx b=>x=[]/\b=c:=by
 intro g R d s E Q F q;rw[arm_eval_Dict];refine Z (aX ?_);show wpAny _ _ newDict Q E s;apply Df;exact q {s with heap:=s.heap.push _} g d _ _ [] c ⟨rfl,rfl,bM _,aE _⟩ (F.push _) (F.G.free (ao _) (aD _ rfl)) ⟨[],0,rfl,.nil,cF⟩ ⟨rfl,rfl⟩
def jy:=@FE.nodict
inductive Vt(w:Yz)(g:YH)(ρ:X_):List (Yx×Yx)->List (D×D)->Prop
 |nil:Vt w g ρ [] []
 |cons {k v:Yx} {a b:D} {vs:List (Yx×Yx)} {l:Yh}:Rd w g ρ k a->Rd w g ρ v b->Vt w g ρ vs l->Vt w g ρ ((k,v)::vs) ((a,b)::l)
def Qq(w:Yz)(A:YA)(b:Env)(f:Md)(k:St)(l:List (Sem Yx×Sem Yx))(P:List (D×D)->St->Prop):Prop:=
 ∀(g R:YH) (h:X_) (s:Yy) (E:X0) (Q:List (Yx×Yx)->Yy->Prop),FS w g R h k b f s.heap->
  (∀i d e a j c,Gr s g h d e a->FS w e R a c b f d.heap->Vt w e a i j->P j c->Q i d)->wpAny (model pw w) A (evalPairs l) Q E s
theorem Qq.nil(h:P [] a):Qq w A c d a [] P:=λg R b s E Q F k=>U (k [] s g b [] a (eU _ _ _) F .nil h)
theorem Qq.cons(t:PE w A c e p k a)(u:GE w A c e p v P1)(x:∀b d,P1 b d->Qq w A c e d y λl h=>P ((a,b)::l) h):Qq w A c e p ((k,v)::y) P:=by
 intro g R z s E Q F q;rw[evalPairs];refine Z (t g R z s E _ F λkv C G i H I L=>Z (aC (u G R i C E _ I λvv M N j b m r S T V=>Z (aC (x b m V N R j M E _ S λvs W X n l o f Y r3 p3=>U ?_)))));exact q _ W X n _ o ((H.trans r).trans f) Y (.cons (L.up (r.trans f)) (T.up f) r3) p3
def lC:=@Qq.cons
theorem Hz(Y:we m A):∀(k:List (Yx×Yx)) (l:Yh) (f:Yh) (s:Yy) (E:X0) (Q:PUnit->Yy->Prop) (i:Yk) (n:Nat),Vt w g R k l->(∀p∈l,p.1.kd=some c)->wG c f->wh f->(∀a o,g a=some o->s.heap.get? a=some o)->g d=none->s.heap.get? d=some (wj i.toArray n)->yd w g R i f->f.length+l.length<=1000->(∀j t h u,j.get? d=some (wj h.toArray u)->yd w g R h (l.foldl (λa p=>wM a p.1 p.2) f)->wh (l.foldl (λa p=>wM a p.1 p.2) f)->Heap.SameBut d s.heap j->Q PUnit.unit {s with heap:=j,toks:=t})->wpAny (model pw w) A (forIn k PUnit.unit λ(x:Yx×Yx) (_:PUnit)=>(do dictSet d x.1 x.2;pure (ForInStep.yield PUnit.unit):Sem (ForInStep PUnit))) Q E s:=by
 intro k l f s E Q i n rp;induction rp generalizing f s i n with
 |nil=>
  intro v y r sub z C F S q;rw[qN];exact U (q s.heap s.toks i n C F r (kU _ _))
 |cons r1 r2 W ih=>
  rename_i kv vv a b k l;intro v y r sub z C F S q;rw[mC];have T:a.kd=some c:=v _ dY;simp only[bO]at S;refine Z (Z (rF (by have:=Y.u;omega) sub C F r r1 T y r2 (by omega) λj t h u e H V=>U ?_));have X:(wM f a b).length<=f.length+1:=by
   have:=aU List.length (j6 (l:=f) (k:=a) (v:=b));rw[az]at this;rw[this]
   classical
   split<;>simp
  refine ih (wM f a b) {s with heap:=j,toks:=t} h u (λp hp=>v p (bV _ hp)) (y.wM T) (lE r) (λx o G=>(V.2 x (λe'=>by rw[e',z]at G;cases G)).trans (sub x o G)) z e H (by omega) λh2 I L n2 e2 M N P=>?_;exact q h2 I L n2 e2 M N (V.trans P)
theorem FE.dict(hr:we m A)(h:Qq w A f V W v7 λl N=>(∀p∈l,p.1.kd=some c)/\l.length<=15/\P (l.foldl (λa p=>wM a p.1 p.2) []) N)(i:(evalEachOpt H f).zip ((evalEach j f).map λv=>do let x <-v;standAt S;pure x)=v7.map λp=>(some p.1,p.2))(h0:v7≠[])(I:v7.length<=15):FE w A f V W (DN w) (eval (.Dict H j S) f) P:=by
 intro g R X s E Q F q;rw[arm_eval_Dict,i,dictDisplay_pairs v7 h0 (by omega)];refine Z (aX (Z ?_));unfold subDict;refine Z (wpAny_alloc ?_);refine Z (aC ?_);rw[B I];have M:=ju s.heap;have F1:FS w g (Mine.xR R s.heap.objs.size (wj #[] 0)) X W f V (s.heap.push (wj #[] 0)):=F.DR (λb x q=>ak _ q) M (aD _ rfl);have t:R s.heap.objs.size=none:=F.G.yt M;have a0:s.heap.objs.size≠f.locals:=by
  let⟨o,_,_,_,e,_⟩:=F.F.loc;rintro k;rw[<-k,t]at e;cases e
 have b0:∀x c,f.cells.lookup x=some c->c≠s.heap.objs.size:=λx c hx e=>by
  rcases F.F.all x c hx with⟨o,k⟩|⟨_,o,k⟩
  .rw[e,t]at k;cases k
  .rw[e,F.G.zZ M]at k;cases k
 generalize hd:s.heap.objs.size=d at*;refine Z (h g _ X {s with heap:=s.heap.push (wj #[] 0)} E _ F1 λvs Y L z l C r u rp ⟨hk,hl,hp⟩=>aC ?_);have y:Mine.xR R d (wj #[] 0) d=some (wj #[] 0):=cK;have T:=u.G.rest _ _ y;have gd:L d=none:=by
  cases e:L d with
  |none=>rfl
  |some x=>rw[u.G.gR _ _ e]at y;cases y
 refine Z (Hz hr vs l [] Y E _ [] 0 rp hk wG.nil cF u.G.sub gd T .nil (by simp;omega) λh' tk G n' e re nd hs=>U (U ?_));have le:View.le R (Mine.xR R d (wj #[] 0)):=λa o q=>by rw[bW (by rintro rfl;rw[t]at q;cases q)];exact q
 have G3:GS w L R z C h':=u.G.off y le t λb x nb q=>(hs.2 b nb).trans q;refine U (q {Y with heap:=h',toks:=tk} L z d (wj G.toArray n') _ C ⟨r.gens,r.os,r.le,r.pre⟩ ⟨G3,F.F.mono r.le r.pre⟩ ⟨e,gd,t,λn c q1 q2=>?_,F.G.high (sI hd)⟩ ⟨G,n',rfl,re,nd⟩ hp);let⟨a',o',e1,_,_,_,e5⟩:=u.G.cell n c q1;rw[q2]at e1;cases e1;rw[y]at e5;cases e5
theorem wR.ints:∀{b:Yc} {c:List Int},wR w g e b (c.map D.int)->∃a:List (Int×Tok),b=a.map (λp=>Value.int p.1 p.2)/\a.map (·.1)=c
 |[],[],_=>⟨[],rfl,rfl⟩
 |[],_::_,h=>by cases h
 |_::_,[],h=>by cases h
 |v::b,n::c,.cons r q=>by
  obtain⟨t,rfl⟩:=r.vX;let⟨a,e1,d⟩:=wR.ints q;exact⟨(n,t)::a,by rw[e1];rfl,by rw[bF,d]⟩
theorem wR.EU:∀{a:Yc} {b:List Int},IntsAre a b->wR w g c a (b.map D.int)
 |[],[],_=>.nil
 |_::_,_::_,h=>by cases h with|cons i t h=>exact .cons (.int _ _) (wR.EU h)
theorem wR.GZ:∀{a:Yc} {b:List Int},wR w g c a (b.map D.int)->IntsAre a b
 |[],[],_=>.nil
 |[],_::_,h=>by cases h
 |_::_,[],h=>by cases h
 |v::a,n::b,.cons r q=>by
  obtain⟨t,rfl⟩:=r.vX;exact .cons _ _ (wR.GZ q)
theorem XK(h:n<=1000000):((n:Nat):Int)<2^63:=by
 have a:(2:Int)^63=9223372036854775808:=by decide
 rw[a];omega
theorem Wk(hd:zL o d i)(j:i.length<=1000000):OP w A o (λf=>call (.builtin "len") f) [d] (.int i.length):=by
 refine kO λg R m s f E Q G p k=>?_
 match f,p with
 |[v],.cons r .nil=>
  cases hd with
  |vV=>
   obtain⟨a,b,n,rfl,e,h⟩:=G.vV r;have c:=h.length;apply len_tuple (tL e) (by rw[aW,c];exact XK j);rw[aW,c];exact k _ {s with toks:=_} g m cA G (.int _ _)
  |vK l=>
   obtain⟨a,b,n,rfl,e,h⟩:=G.vK r l;have c:=h.length;apply call_len_list (fB e) (by rw[aW,c];exact XK j);rw[aW,c];exact k _ {s with toks:=_} g m cA G (.int _ _)
theorem BA(hd:zL q d i)(C:i.length<=1000000):FO w A q (zS w) (λj=>call (.type "list") j) [d] i:=by
 intro g R o s j E Q G t k
 match j,t with
 |[v],.cons r .nil=>
  have f:∀T a b n,T="list"\/T="tuple"->v= .ref a->s.heap.get? a=some (v9 T b.toArray n)->wR w g o b i->wpAny (model pw w) A (call (.type "list") [v]) Q E s:=by
   intro T a b n u x e c;subst x;have F:=c.length;refine call_list_seq a u e rfl rfl (λy p h z=>?_) (by rw[bA,aW];omega);exact k {s with heap:=y} g o _ (v9 "list" b.toArray p) ⟨rfl,rfl,bM _,aE _⟩ (G.keep h) (G.free (ao _) z) ⟨b,p,rfl,c⟩
  cases hd with
  |vV=>
   let⟨a,b,n,m,e,c⟩:=G.vV r;exact f "tuple" a b n (.inr rfl) m e c
  |vK l=>
   let⟨a,b,n,m,e,c⟩:=G.vK r l;exact f "list" a b n (.inl rfl) m e c
theorem Fl(hd:xA j d h)(y:h.length<=1000000):OP w A j (λc=>call (.type "tuple") c) [d] (.vV h):=by
 refine kO λg R m s c E Q G o k=>?_
 match c,o with
 |[v],.cons r .nil=>
  obtain⟨a,f,n,rfl,e,i⟩:=G.vK r hd;have z:=i.length;refine call_tuple_list (fB e) (λp b=>?_) (by rw[bA,aW];omega);let⟨q,t,l,u,x⟩:=rZ (T:="tuple") (s:={s with heap:=p}) (G.keep b) i;exact k _ _ q m (.at l ge1) t (.vV u x)
theorem Fj:OP w A j (λb=>call (.type "tuple") b) [.vV d] (.vV d):=by
 refine kO λg R f s b E Q G h k=>?_
 match b,h with
 |[v],.cons r .nil=>
  have i:=r;obtain⟨a,c,n,rfl,e,l⟩:=G.vV r;exact call_tuple_same (lW e) (k _ s g f (eU _ _ _) G i)
theorem Ka{s:Yy}{Q:X0}(G:GS w g R d f s.heap)(h:∀c,View.le g c->GS w c R d f (s.heap.push {cls:=.type "range",data:=.fields #[.int a t,.int b u,.int 1 v]})->Rd w c d (.ref s.heap.objs.size) (.zR a b)->Q (.ref s.heap.objs.size) {s with heap:=s.heap.push {cls:=.type "range",data:=.fields #[.int a t,.int b u,.int 1 v]},toks:=k}):Q (.ref s.heap.objs.size) {s with heap:=s.heap.push {cls:=.type "range",data:=.fields #[.int a t,.int b u,.int 1 v]},toks:=k}:=by
 let⟨i,l⟩:=G.VG (h':=s.heap.push {cls:=.type "range",data:=.fields #[.int a t,.int b u,.int 1 v]}) (a:=s.heap.objs.size) (λb o e=>ak _ e) (ju _) (aD _ rfl);exact h _ l i (.zR (gM _ _ _))
theorem Iu{n:Int}:OP w A h (λa=>call (.type "range") a) [.int n] (.zR 0 n):=by
 refine kO λg R b s a E Q G c k=>?_
 match a,c with
 |[v],.cons r .nil=>
  obtain⟨t,rfl⟩:=r.vX;apply call_range_1;exact Ka G λd l e f=>k _ _ d b (.at l ge1) e f
theorem EB{a b:Int}:OP w A n (λc=>call (.type "range") c) [.int a,.int b] (.zR a b):=by
 refine kO λg R d s c E Q G e k=>?_
 match c,e with
 |[o,p],.cons f (.cons h .nil)=>
  obtain⟨t,rfl⟩:=f.vX;obtain⟨u,rfl⟩:=h.vX;apply call_range_2;exact Ka G λi l j m=>k _ _ i d (.at l ge1) j m
theorem JA:OP w A d (λa=>call (.type "int") a) [.int n] (.int n):=by
 refine kO λg R b s a E Q G c k=>?_
 match a,c with
 |[v],.cons r .nil=>
  obtain⟨t,rfl⟩:=r.vX;exact call_int_int (k _ s g b (eU _ _ _) G (.int _ _))
theorem Fo(h:n.natAbs.log2<1920):OP w A d (λa=>call (.type "str") a) [.int n] (.str (Str.ofString (toString n))):=by
 refine kO λg R b s a E Q G c k=>?_
 match a,c with
 |[v],.cons r .nil=>
  obtain⟨t,rfl⟩:=r.vX;exact P.str_of_int h (k _ _ g b cA G (.str _ _))
theorem max2(e:A.handled=none):OP w A m (λd=>call (.builtin "max") d) [.int a,.int b] (.int (max a b)):=by
 refine kO λg R f s d E Q G i k=>?_
 match d,i with
 |[n,o],.cons j (.cons l .nil)=>
  obtain⟨t,rfl⟩:=j.vX;obtain⟨u,rfl⟩:=l.vX;refine max_two_ints e λp q c=>?_;apply k _ _ g f cA (G.keep c);split
  .rename_i h;rw[show max a b=b by omega];exact .int _ _
  .rename_i h;rw[show max a b=a by omega];exact .int _ _
theorem min2(e:A.handled=none):OP w A m (λd=>call (.builtin "min") d) [.int a,.int b] (.int (min a b)):=by
 refine kO λg R f s d E Q G i k=>?_
 match d,i with
 |[n,o],.cons j (.cons l .nil)=>
  obtain⟨t,rfl⟩:=j.vX;obtain⟨u,rfl⟩:=l.vX;refine min_two_ints e λp q c=>?_;apply k _ _ g f cA (G.keep c);split
  .rename_i h;rw[show min a b=b by omega];exact .int _ _
  .rename_i h;rw[show min a b=a by omega];exact .int _ _
theorem BF(val:Nat->Int):∀k,argBest (λi j=>decide (val i>val j)) k<=k/\∀i,i<=k->val i<=val (argBest (λi j=>decide (val i>val j)) k)
 |0=>⟨ao _,λi h=>by rw[Nat.le_zero.mp h];exact Int.le_refl _⟩
 |k+1=>by
  let⟨d,a⟩:=BF val k;unfold argBest;by_cases c:val (k+1)>val (argBest (λi j=>decide (val i>val j)) k)
  .rw[B (by simpa using c)]
   refine⟨ao _,λi b=>?_⟩;rcases iI i (k+1)with h|h
   .have:=a i (by omega);omega
   .rw[show i=k+1 by omega];exact Int.le_refl _
  .rw[J (by simpa using c)]
   refine⟨by omega,λi b=>?_⟩;rcases iI i (k+1)with h|h
   .exact a i (by omega)
   .rw[show i=k+1 by omega];omega
theorem RQ{ns:List Int}(I:A.handled=none)(hd:xA L d (ns.map D.int))(H:m∈ns)(u:∀x∈ns,x<=m):OP w A L (λq=>call (.builtin "max") q) [d] (.int m):=by
 refine kO λg R M s q E Q G N k=>?_
 match q,N with
 |[v],.cons r .nil=>
  obtain⟨a,F,n,rfl,e,P⟩:=G.vK r hd;obtain⟨b,rfl,rfl⟩:=P.ints;have S:(b.map λp=>Value.int p.1 p.2).toArray=intItems b.toArray:=by simp[intItems]
  have T:s.heap.IsList a (intItems b.toArray):=S▸fB e;have l:0<b.length:=by
   have:=mu H;simpa using this
  refine max_intList I T (by simpa using l) λv h' tk t o=>?_;let⟨h1,V⟩:=BF (numAt b.toArray) (b.length-1);simp only[aW]at t;generalize hj:argBest (λi j=>decide (numAt b.toArray i>numAt b.toArray j)) (b.length-1)=j at*;have f:j<b.length:=by omega
  have c:∀i (h:i<b.length),numAt b.toArray i=b[i].1:=λi h=>by simp[numAt,h]
  have y:v= .int (b[j].1) (b[j].2):=by
   have:(intItems b.toArray)[j]? =some (.int (b[j].1) (b[j].2)):=by simp[intItems,f]
   rw[this]at t;exact(dI t).symm
  have z:b[j].1=m:=by
   have a1:=u _ (aa.mpr ⟨b[j],bT f,rfl⟩);let⟨p,W,Y⟩:=aa.mp H;obtain⟨i,C,rfl⟩:=List.mem_iff_getElem.mp W;have X:=V i (by omega);rw[c i C,c j f]at X;omega
  rw[y,z];exact k _ _ g M cA (G.keep o) (.int _ _)
theorem preSum_eq(a:List (Int×Tok)):∀j,j<=a.length->preSum (numAt a.toArray) j=((a.take j).map (·.1)).sum
 |0,_=>rfl
 |j+1,h=>by
  have b:j<a.length:=by omega
  rw[show preSum (numAt a.toArray) (j+1)=preSum (numAt a.toArray) j+numAt a.toArray j from rfl,preSum_eq a j (by omega),List.take_add_one,aL,List.sum_append];simp[numAt,b]
theorem QU{m:List Int}(z:A.handled=none)(hd:xA C d (m.map D.int))(u:∀x∈m,0<=x/\x<=2^50)(F:m.length<=1000):OP w A C (λo=>call (.builtin "sum") o) [d] (.int m.sum):=by
 refine kO λg R H s o E Q G I k=>?_
 match o,I with
 |[v],.cons r .nil=>
  obtain⟨a,t,n,rfl,e,L⟩:=G.vK r hd;obtain⟨b,rfl,rfl⟩:=L.ints;have M:(b.map λp=>Value.int p.1 p.2).toArray=intItems b.toArray:=by simp[intItems]
  have N:s.heap.IsList a (intItems b.toArray):=M▸fB e;have bound:∀l:List Int,(∀x∈l,0<=x/\x<=2^50)->0<=l.sum/\l.sum<=(l.length:Int)*2^50:=by
   intro l;induction l with
   |nil=>intro _;simp
   |cons x r P=>
    intro h;have h1:=h x dY;have h2:=P λy S=>h y (bV _ S);rw[List.sum_cons,bO];have c:(2:Int)^50=1125899906842624:=by decide
    rw[c]at*;omega
  have q:(2:Int)^63=9223372036854775808:=by decide
  have c:(2:Int)^50=1125899906842624:=by decide
  have a0:b.length<=1000:=by simpa using F
  refine sum_intList z N (λj T=>?_) λh' tk t' i=>?_
  .have f:j<b.length:=by simpa using T
   rw[preSum_eq b (j+1) (by omega)];have V:=bound ((b.take (j+1)).map (·.1)) (λx W=>u x (by
    obtain⟨p,X,rfl⟩:=aa.mp W;exact aa.mpr ⟨p,gz X,rfl⟩))
   have Y:numAt b.toArray j=b[j].1:=by simp[numAt,f]
   have b3:=u b[j].1 (aa.mpr ⟨b[j],bT f,rfl⟩);have b4:((b.take (j+1)).map (·.1)).length<=1000:=by simp;omega
   unfold InLong;rw[Y,q];rw[c]at V b3;omega
  .have:=preSum_eq b b.length (ao _)
   rw[bX]at this;rw[aW,this];exact k _ _ g H cA (G.keep i) (.int _ _)
theorem Am:∀{l m:List Int},l.Perm m->l.Pairwise (·<=·)->m.Pairwise (·<=·)->l=m
 |[],m,c,_,_=>by rw[List.nil_perm.mp c]
 |x::l,m,c,f,g=>by
  cases m with
  |nil=>exact absurd c.length_eq (by simp)
  |cons y m=>
   let⟨h,i⟩:=gZ.mp f;let⟨j,k⟩:=gZ.mp g;have d:x=y:=by
    have a:x∈y::m:=c.mem_iff.mp dY;have b:y∈x::l:=c.mem_iff.mpr dY;rcases aG.mp a with e|a
    .exact e
    .rcases aG.mp b with e|b
     .exact e.symm
     .have:=h y b;have:=j x a;omega
   subst d;rw[Am (List.Perm.cons_inv c) i k]
theorem DI{i h:List Int}(hd:xA p d (i.map D.int))(q:h.Perm i)(t:h.Pairwise (·<=·))(l:i.length<64):FO w A p (zS w) (λj=>call (.builtin "sorted") j) [d] (h.map D.int):=by
 intro g R u s j E Q G x k
 match j,x with
 |[v],.cons r .nil=>
  obtain⟨a,f,n,rfl,e,o⟩:=G.vK r hd;have y:=o.GZ;have z:=o.length;refine sorted_ints (fB e) y (by rw[z];simpa using l) λb m C F H=>?_;let⟨c,I⟩:=sortedAll_at s.heap f b;have:m=h:=Am (F.trans q.symm) H t;subst this;exact k {s with heap:=_} g u _ (v9 "list" b c) ⟨rfl,rfl,bM _,aE _⟩ (G.keep λ_ _=>sortedAll_old) (G.free (kT _) I) ⟨b.toList,c,by simp,wR.EU C⟩
def HT{b:Type}(c:Nat->Nat->Bool)(n:Nat):KasT b->(b->Prop)->Prop
 | .ret a,Q=>Q a
 | .ask i j k,Q=>i<n/\j<n/\HT c n (k (c i j)) Q
theorem HT.mono:∀{t:KasT c} {Q b:c->Prop},HT d n t Q->(∀a,Q a->b a)->HT d n t b
 | .ret a,_,_,h,k=>k a h
 | .ask i j f,_,_,h,k=>⟨h.1,h.2.1,HT.mono h.2.2 k⟩
theorem HT.bind:∀{t:KasT c},HT b n t (λa=>HT b n (f a) Q)->HT b n (t.bind f) Q
 | .ret a,h=>h
 | .ask i j k,h=>⟨h.1,h.2.1,HT.bind h.2.2⟩
def sq:=@HT.bind
def Aq(n:Nat)(p:Array Nat):Prop:=p.toList.Perm (List.range n)
theorem Aq.size(h:Aq n p):p.size=n:=by simpa using h.length_eq
theorem Aq.bd(h:Aq n p)(a:0<n)(i:Nat):p.getD i 0<n:=by
 by_cases c:i<p.size
 .have:p.getD i 0∈p.toList:=by simp[Array.getD,c]
  exact aZ.mp (h.mem_iff.mp this)
 .simp[Array.getD,c,a]
theorem Aq.inj(h:Aq n p)(b:i<n)(c:j<n)(e:p.getD i 0=p.getD j 0):i=j:=by
 have a:=h.size;have d:p.toList.Nodup:=h.nodup_iff.mpr fZ;have g:i<p.toList.length:=by simpa using(by omega:i<p.size)
 have k:j<p.toList.length:=by simpa using(by omega:j<p.size)
 have e1:p.getD i 0=p.toList[i]:=by simp[Array.getD,a,b]
 have f:p.getD j 0=p.toList[j]:=by simp[Array.getD,a,c]
 rw[e1,f]at e;exact(jB d).mp e
theorem Aq.perm(h:Aq n p)(a:q.Perm p):Aq n q:=(Array.perm_iff_toList_perm.mp a).trans h
structure Ii(lt:Nat->Nat->Bool)(n:Nat):Prop where
 XS:∀i,i<n->lt i i=false
 tr:∀i j k,i<n->j<n->k<n->lt i j=true->lt j k=true->lt i k=true
 tot:∀i j,i<n->j<n->i≠j->lt i j=true\/lt j i=true
def BP(a:Nat->Nat->Bool)(p:Array Nat)(k:Nat):Prop:=∀i j,i<j->j<k->a (p.getD i 0) (p.getD j 0)=true
def TH(a:Nat->Nat->Bool)(p:Array Nat)(k:Nat):Prop:=∀i j,i<j->j<k->a (p.getD j 0) (p.getD i 0)=true
theorem ES(p:Array Nat):BP a p 1:=λi j b c=>by omega
theorem NZ(T:Ii a n)(h:Aq n p)(e:1<=m)(f:m<n)(s:BP a p m)(l:a (p.getD (m-1) 0) (p.getD m 0)=true):BP a p (m+1):=by
 intro i j b g;rcases iI j m with c|c
 .exact s i j b c
 .obtain rfl:j=m:=by omega
  rcases iI i (j-1)with d|d
  .exact T.tr _ _ _ (h.bd (by omega) _) (h.bd (by omega) _) (h.bd (by omega) _) (s i (j-1) d (by omega)) l
  .obtain rfl:i=j-1:=by omega
   exact l
theorem PO(T:Ii a n)(h:Aq n p)(e:1<=m)(f:m<n)(s:TH a p m)(l:a (p.getD m 0) (p.getD (m-1) 0)=true):TH a p (m+1):=by
 intro i j b g;rcases iI j m with c|c
 .exact s i j b c
 .obtain rfl:j=m:=by omega
  rcases iI i (j-1)with d|d
  .exact T.tr _ _ _ (h.bd (by omega) _) (h.bd (by omega) _) (h.bd (by omega) _) l (s i (j-1) d (by omega))
  .obtain rfl:i=j-1:=by omega
   exact l
theorem Ii.flip(T:Ii b n)(h:Aq n p)(c:i<n)(d:j<n)(a:i≠j)(e:b (p.getD i 0) (p.getD j 0)=false):b (p.getD j 0) (p.getD i 0)=true:=by
 rcases T.tot _ _ (h.bd (by omega) i) (h.bd (by omega) j) (λq=>a (h.inj c d q))with q|q
 .rw[e]at q;cases q
 .exact q
theorem ID(h:Aq n p):∀(f m:Nat),1<=m->m+f<=n->HT a n (kas_asc p f m) λr=>m<=r/\r<=m+f/\(r<m+f->a (p.getD r 0) (p.getD (r-1) 0)=true)/\(Ii a n->BP a p m->BP a p r)
 |0,m,_,_=>⟨ao _,ao _,λq=>absurd q (by omega),λ_ s=>s⟩
 |f+1,m,b,g=>by
  refine⟨h.bd (by omega) _,h.bd (by omega) _,?_⟩;cases c:a (p.getD m 0) (p.getD (m-1) 0)with
  |true=>exact⟨ao _,by omega,λ_=>c,λ_ s=>s⟩
  |false=>
   refine(ID h f (m+1) (by omega) (by omega)).mono λr ⟨i,j,d,e⟩=>⟨by omega,by omega,λq=>d (by omega),λT s=>e T ?_⟩;exact NZ T h b (by omega) s (T.flip h (by omega) (by omega) (by omega) c)
theorem BX:∀(f m q:Nat) (p:Array Nat),Aq n p->1<=m->m+f<=n->HT a n (kas_desc f p m q) λr=>Aq n r.1/\m<=r.2.1/\r.2.1<=m+f/\(Ii a n->TH a p m->q=0->r.1=p/\r.2.2=0/\TH a p r.2.1)
 |0,m,q,p,h,_,_=>⟨h,ao _,ao _,λ_ d e=>⟨rfl,e,d⟩⟩
 |f+1,m,q,p,h,l,s=>by
  refine⟨h.bd (by omega) _,h.bd (by omega) _,?_⟩;cases c:a (p.getD m 0) (p.getD (m-1) 0)with
  |true=>
   by_cases i:q>0
   .simp only[cE,B i]
    refine(BX f (m+1) 0 _ (h.perm (pM _ _ _ _)) (by omega) (by omega)).mono λr ⟨b,j,k,g⟩=>⟨b,by omega,by omega,λT d e=>by omega⟩
   .simp only[cE,J i]
    refine(BX f (m+1) 0 _ h (by omega) (by omega)).mono λr ⟨b,j,k,g⟩=>⟨b,by omega,by omega,λT d e=>g T ?_ rfl⟩;exact PO T h l (by omega) d c
  |false=>
   refine⟨h.bd (by omega) _,h.bd (by omega) _,?_⟩;cases o:a (p.getD (m-1) 0) (p.getD m 0)with
   |true=>exact⟨h,ao _,lK _ _,λ_ d e=>⟨rfl,e,d⟩⟩
   |false=>
    refine(BX f (m+1) (q+1) _ h (by omega) (by omega)).mono λr ⟨b,j,k,g⟩=>⟨b,by omega,by omega,λT d e=>?_⟩;have:=T.flip h (by omega) (by omega) (by omega) c;rw[o]at this;cases this
theorem BZ{p q:Array Nat}(h:p[i]? =q[j]?):p.getD i 0=q.getD j 0:=by
 rw[iz,iz,h]
theorem Rh{p:Array Nat}(b:m<=p.size)(d:TH c p m):BP c (kas_rev p 0 m) m:=by
 intro i j g e;have a:∀k,k<m->(kas_rev p 0 m).getD k 0=p.getD (m-1-k) 0:=λk f=>by
  have:=getElem?_mirror_all (xs:=p) (i:=0) (j:=m) b k;rw[B ⟨bB _,f⟩]at this;rw[show 0+m-1-k=m-1-k by omega]at this;exact BZ this
 rw[a i (by omega),a j e];exact d _ _ (by omega) (by omega)
theorem KI(h:Aq n p)(e:1<=m)(i:m<=a)(j:a<=n):HT b n (kas_tail3 m a p) λr=>Aq n r.2/\m<=r.1/\r.1<=a/\(Ii b n->TH b p m->BP b r.2 r.1):=by
 have c:Aq n (kas_rev p 0 m):=h.perm (pM _ _ _ _);refine sq ((ID c (a-m) m e (by omega)).mono λr ⟨f,k,l,g⟩=>⟨c,f,by omega,λT d=>g T (Rh (by rw[h.size];omega) d)⟩)
theorem BB(h:Aq n p)(q:1<=m)(s:m+1<=a)(f:a<=n):HT b n (kas_descPart m a p) λr=>Aq n r.2/\1<=r.1/\r.1<=a/\(Ii b n->TH b p (m+1)->BP b r.2 r.1):=by
 refine sq ((BX (a-(m+1)) (m+1) 0 p h (by omega) (by omega)).mono λr ⟨g,t,u,i⟩=>?_);split
 .rename_i v
  refine(KI (g.perm (pM _ _ _ _)) (by omega) (by omega) f).mono λk ⟨c,l,e,j⟩=>⟨c,by omega,e,λT d=>?_⟩;have:=(i T d rfl).2.1;omega
 .refine(KI g (by omega) (by omega) f).mono λk ⟨c,l,e,j⟩=>⟨c,by omega,e,λT d=>j T ?_⟩
  let⟨e1,w,o⟩:=i T d rfl;rw[e1];exact o
theorem Pf(u:2<=n)(h:Aq n p):HT a n (kas_count n p) λr=>Aq n r.2/\1<=r.1/\r.1<=n/\(Ii a n->BP a r.2 r.1):=by
 refine sq ((ID h (n-1) 1 (ao _) (by omega)).mono λr ⟨b,v,o,d⟩=>?_);split
 .exact⟨h,b,by omega,λT=>d T (ES p)⟩
 .rename_i k
  have m:r≠n:=by simpa using k
  split
  .rename_i q
   refine⟨h.bd (by omega) _,h.bd (by omega) _,?_⟩;cases c:a (p.getD 0 0) (p.getD (r-1) 0)with
   |true=>exact⟨h,b,by omega,λT=>d T (ES p)⟩
   |false=>
    refine(BB (h.perm (pM _ _ _ _)) b (by omega) (ao _)).mono λs ⟨e,f,g,l⟩=>⟨e,f,g,λT=>?_⟩;have:=d T (ES p) 0 (r-1) (by omega) (by omega);rw[c]at this;cases this
  .rename_i q
   obtain rfl:r=1:=by omega
   refine(BB h (ao _) (by omega) (ao _)).mono λs ⟨e,f,g,l⟩=>⟨e,f,g,λT=>l T ?_⟩;intro i j t w;obtain⟨rfl,rfl⟩:i=0/\j=1:=by omega
   exact o (by omega)
theorem CG(h:Aq n p)(e:k<n):∀(f l r:Nat),l<=r->r<=k->HT g n (kas_place p k f l r) λx=>l<=x/\x<=r/\(Ii g n->BP g p k->(∀i,i<l->g (p.getD i 0) (p.getD k 0)=true)->(∀i,r<=i->i<k->g (p.getD k 0) (p.getD i 0)=true)->r-l<=f->(∀i,i<x->g (p.getD i 0) (p.getD k 0)=true)/\∀i,x<=i->i<k->g (p.getD k 0) (p.getD i 0)=true)
 |0,l,r,m,v=>⟨ao _,m,λT s a b c=>⟨a,λi o e=>b i (by omega) e⟩⟩
 |f+1,l,r,m,v=>by
  unfold kas_place;split
  .exact⟨ao _,m,λT s a b c=>⟨a,λi o e=>b i (by omega) e⟩⟩
  .rename_i C
   refine⟨h.bd (by omega) _,h.bd (by omega) _,?_⟩;have A:(l+r)/2<r:=by omega
   have j:l<=(l+r)/2:=by omega
   cases c:g (p.getD k 0) (p.getD ((l+r)/2) 0)with
   |true=>
    refine(CG h e f l ((l+r)/2) j (by omega)).mono λx ⟨w,y,t⟩=>⟨w,by omega,λT s a b d=>t T s a (λi o u=>?_) (by omega)⟩;rcases iI ((l+r)/2) i with q|q
    .exact T.tr _ _ _ (h.bd (by omega) _) (h.bd (by omega) _) (h.bd (by omega) _) c (s _ _ q u)
    .obtain rfl:i=(l+r)/2:=by omega
     exact c
   |false=>
    refine(CG h e f ((l+r)/2+1) r (by omega) v).mono λx ⟨w,y,t⟩=>⟨by omega,y,λT s a b d=>t T s (λi o=>?_) b (by omega)⟩;have z:=T.flip h e (by omega) (by omega) c;rcases iI i ((l+r)/2)with q|q
    .exact T.tr _ _ _ (h.bd (by omega) _) (h.bd (by omega) _) (h.bd (by omega) _) (s _ _ q (by omega)) z
    .obtain rfl:i=(l+r)/2:=by omega
     exact z
theorem NG:∀(f k:Nat) (p:Array Nat),Aq n p->k+f=n->HT m n (kas_bin f p k) λo=>Aq n o/\(Ii m n->BP m p k->BP m o n)
 |0,k,p,h,e=>⟨h,λ_ s=>by rw[show n=k by omega];exact s⟩
 |f+1,k,p,h,e=>by
  have r:k<n:=by omega
  refine sq ((CG h r k 0 k (bB _) (ao _)).mono λx ⟨H,I,w⟩=>?_);have y:Aq n (bubble p k (k-x)):=h.perm (bubble_perm _ _ _);refine(NG f (k+1) _ y (by omega)).mono λo ⟨z,A⟩=>⟨z,λT s=>A T ?_⟩;let⟨C,E⟩:=w T s (λi F=>by omega) (λi F G=>by omega) (by omega);have a:∀j,j<=k->(bubble p k (k-x)).getD j 0=if j=x then p.getD k 0 else if x<j then p.getD (j-1) 0 else p.getD j 0:=λj t=>by
   have:=getElem?_bubble (xs:=p) (src:=k) (by rw[h.size];exact r) (k-x) (by omega) j;rw[show k-(k-x)=x by omega]at this;by_cases c:j=x
   .rw[B c]at this⊢;exact BZ this
   .rw[J c]at this⊢
    by_cases l:x<j
    .rw[B ⟨l,t⟩]at this;rw[B l];exact BZ this
    .rw[J (λq=>l q.1)]at this;rw[J l];exact BZ this
  intro i j b t;rw[a i (by omega),a j (by omega)];by_cases u:i=x
  .subst u
   rw[B rfl,J (by omega),B b];exact E _ (by omega) (by omega)
  .rw[J u]
   by_cases d:x<i
   .rw[B d,J (by omega),B (by omega)]
    exact s _ _ (by omega) (by omega)
   .rw[J d]
    by_cases v:j=x
    .rw[B v];exact C i (by omega)
    .rw[J v]
     by_cases g:x<j
     .rw[B g]
      exact s _ _ (by omega) (by omega)
     .rw[J g];exact s _ _ b (by omega)
theorem Sf(d:2<=n):HT a n (kas_sort n) λp=>Aq n p/\(Ii a n->BP a p n):=by
 have e:Aq n (List.toArray (List.range n)):=m6 _;refine sq ((Pf d e).mono λr ⟨b,i,j,c⟩=>?_);split
 .rename_i f
  have:max r.1 1=r.1:=by omega
  rw[this];exact(NG (n-r.1) r.1 r.2 b (by omega)).mono λk ⟨g,h⟩=>⟨g,λT=>h T (c T)⟩
 .rename_i f
  exact⟨b,λT=>by have:=c T;rwa[show r.1=n by omega]at this⟩
open Classical in
mutual
noncomputable def wX:D->D->Bool
 | .int i,.int j=>decide (i<j)
 | .str a,.str b=>decide (a.cps.toList<b.cps.toList)
 | .vV l,.vV m=>xD l m
 |_,_=>false
noncomputable def xD:Yb->Yb->Bool
 |[],[]=>false
 |[],_::_=>true
 |_::_,[]=>false
 |a::l,b::m=>if a=b then xD l m else wX a b
end
mutual
def D.ok:D->D->Bool
 | .int _,.int _=>true
 | .str _,.str _=>true
 | .vV l,.vV m=>FN l m
 |_,_=>false
def FN:Yb->Yb->Bool
 |a::l,b::m=>D.ok a b&&FN l m
 |_,_=>true
end
mutual
theorem Kc:∀{d:D} {k:Nat},d.pl k=true->d.pl (k+1)=true
 | .none,_,_=>rfl
 | .int _,_,_=>rfl
 | .str _,_,e=>by simpa[D.pl]using e
 | .vV l,0,e=>by simp[D.pl]at e
 | .vK l,0,e=>by simp[D.pl]at e
 | .vV l,k+1,e=>by simp only[D.pl]at e⊢;exact CA e
 | .vK l,k+1,e=>by simp only[D.pl]at e⊢;exact CA e
 | .bool _,_,e=>by simp[D.pl]at e
 | .wc _,_,e=>by simp[D.pl]at e
 | .ref _,_,e=>by simp[D.pl]at e
 | .zR _ _,_,e=>by simp[D.pl]at e
theorem CA:∀{l:Yb} {k:Nat},yJ l k=true->yJ l (k+1)=true
 |[],_,_=>rfl
 |d::r,k,e=>by
  simp only[yJ,bN]at e⊢;exact⟨Kc e.1,CA e.2⟩
end
theorem VX{d:D}(h:d.pl k=true)(l:k<=m):d.pl m=true:=by
 induction l with
 |refl=>exact h
 |step _ a=>exact Kc a
def tF:=@VX
theorem VC:∀(k:Nat) {n:Nat} {A:YA} {s:Yy} {C t:Yx} {d1 f:D} {E:X0} {Q:X0},we n A->k<=n->k<=20->(∀a o,g a=some o->s.heap.get? a=some o)->Rd w g ρ C d1->Rd w g ρ t f->d1.pl k=true->f.pl k=true->d1.ok f=true->Q (.bool (wX d1 f)) s->wpAny (model pw w) A (richCompare .Lt C t) Q E s
 |k,n,A,s,C,t,.int i,f,E,Q,x,d,P,sub,y,j,z,G,c,h=>by
  cases f<;>simp[D.ok]at c
  obtain⟨t1,rfl⟩:=y.vX;obtain⟨t2,rfl⟩:=j.vX;exact sV (op:=.Lt) (uT s _ _) (uT s _ _) slot_int_lt (call_int_lt ⟨(λe=>nomatch e),by simpa[wX]using h⟩)
 |k,n,A,s,C,t,.str i,f,E,Q,x,d,P,sub,y,j,z,G,c,h=>by
  cases f<;>simp[D.ok]at c
  obtain⟨t1,rfl⟩:=y.wF;obtain⟨t2,rfl⟩:=j.wF;exact sV (op:=.Lt) (kB s _ _) (kB s _ _) slot_str_lt (call_str_lt ⟨(λe=>nomatch e),by simpa[wX]using h⟩)
 |0,n,A,s,C,t,.vV l,f,E,Q,x,d,P,sub,y,j,z,G,c,h=>by simp[D.pl]at z
 |k+1,0,A,s,C,t,.vV l,f,E,Q,x,d,P,sub,y,j,z,G,c,h=>by omega
 |k+1,n+1,A,s,_,t,.vV l,f,E,Q,x,d,P,sub,.vV q1 y,j,z,G,c,h=>by
  rename_i a xs;cases f with
  |vV m=>
   cases j with
   |vV q2 j=>
    rename_i b ys;let⟨n1,q1⟩:=q1;let⟨n2,q2⟩:=q2;have a0:=sub _ _ q1;have b0:=sub _ _ q2;have c0:s.TypeIs (.ref a) "tuple":=⟨_,a0,rfl⟩;have d0:s.TypeIs (.ref b) "tuple":=⟨_,b0,rfl⟩;simp only[D.pl]at z G;simp only[D.ok]at c;simp only[wX]at h;refine wpAny_richCompare_same_room (op:=.Lt) c0 d0 F.slot_tuple_lt (bL F.slot_tuple_lt c0 F.entry_tuple_lt ?_ (F.args_tuple_lt_2 _ _)) x.cl;show wpAny _ _ (isInstance (.ref b) (.type "tuple")>>=_) _ _ s;refine Z (gP d0 s9 ?_);simp only[c8,aA,bz];refine Z (nX a0 rfl ?_);refine Z (nX b0 rfl ?_);apply Z;refine iK _
     (λT r s'=>r.1=none/\s'=s/\∃X Y H I,T=List.zip H I/\wR w g ρ H X/\wR w g ρ I Y/\yJ X k=true/\yJ Y k=true/\FN X Y=true/\xD X Y=xD l m/\(decide (H.length<I.length))=decide (xs.length<ys.length))
     _ ?_ ?_ _ _ ⟨rfl,rfl,l,m,xs,ys,by simp,y,j,z,G,c,rfl,rfl⟩
    .rintro⟨u,v⟩ T r s' ⟨V,rfl,X,Y,H,I,hz,W,R,L,M,S,p,N⟩
     cases W with
     |nil=>simp at hz
     |cons h1 e0=>
      cases R with
      |nil=>simp at hz
      |cons h2 f0=>
       simp only[kF,pX,iQ]at hz;obtain⟨⟨rfl,rfl⟩,rfl⟩:=hz;simp only[yJ,FN,bN]at L M S;refine Z (CP (n:=n) (k:=0) (m:=0) x.in1 sub h1 h2 (tF L.1 (by omega)) (tF M.1 (by omega)) λbb hb=>?_);cases bb with
       |true=>
        have e:=hb.mp rfl;simp only[c8,aA,bz];refine U ⟨rfl,rfl,_,_,_,_,rfl,e0,f0,L.2,M.2,S.2,?_,by simpa using N⟩;rw[<-p,xD,B e]
       |false=>
        have e:¬_:=λq=>Bool.noConfusion (hb.mpr q);simp only[iB,cE];refine Z (dO ?_);refine Z (VC k (n:=n) x.in1 (by omega) (by omega) sub h1 h2 L.1 M.1 S.1 ?_);refine Z (U ?_);apply U;apply U;refine⟨_,rfl,(λe=>nomatch e),?_⟩;rw[<-p,xD,J e]at h;exact h
    .rintro⟨g0,h0⟩ s' ⟨V,rfl,X,Y,H,I,hz,W,R,L,M,S,p,N⟩
     simp only at V;subst V;refine U ⟨_,rfl,(λe=>nomatch e),?_⟩;have e:decide (xs.length<ys.length)=xD l m:=by
      rw[<-p,<-N];cases W with
      |nil=>cases R<;>simp[xD]
      |cons _ _=>
       cases R with
       |nil=>simp[xD]
       |cons _ _=>simp at hz
     show Q (.bool (decide (xs.toArray.size<ys.toArray.size))) s';simp only[aW];rw[e];exact h
  |_=>simp[D.ok]at c
 |k,n,A,s,C,t,.bool i,f,E,Q,x,d,P,sub,y,j,z,G,c,h=>by simp[D.ok]at c
 |k,n,A,s,C,t,.none,f,E,Q,x,d,P,sub,y,j,z,G,c,h=>by simp[D.ok]at c
 |k,n,A,s,C,t,.vK i,f,E,Q,x,d,P,sub,y,j,z,G,c,h=>by simp[D.ok]at c
 |k,n,A,s,C,t,.wc i,f,E,Q,x,d,P,sub,y,j,z,G,c,h=>by simp[D.ok]at c
 |k,n,A,s,C,t,.ref i,f,E,Q,x,d,P,sub,y,j,z,G,c,h=>by simp[D.ok]at c
 |k,n,A,s,C,t,.zR i _,f,E,Q,x,d,P,sub,y,j,z,G,c,h=>by simp[D.ok]at c
theorem GW{ask:Nat->Nat->(Bool->Yy->Prop)->Yy->Prop}(b:∀i j,i<n->j<n->∀C:Bool->Yy->Prop,C (c i j) s->ask i j C s):∀{t:KasT d} {Q:d->Prop},HT c n t Q->t.kasWp ask (λa e=>e=s/\Q a) s
 | .ret a,Q,h=>⟨rfl,h⟩
 | .ask i j k,Q,h=>b i j h.1 h.2.1 _ (GW b h.2.2)
def Lb(w:Yz)(g:YH)(b:Yc)(d:Nat->Nat->Bool):Prop:=
 ∃c:SortKind,(∀(A:YA) (s:Yy) (Q:SortKind->Yy->Prop) (E:X0),we 8 A->(∀a o,g a=some o->s.heap.get? a=some o)->Q c s->wpAny (model pw w) A (keyKind' b.toArray) Q E s)/\
  ∀(A:YA) (s:Yy) (C:Bool->Yy->Prop) (i j:Nat),we 8 A->(∀a o,g a=some o->s.heap.get? a=some o)->i<b.length->j<b.length->C (d i j) s->
   wpAny (model pw w) A (keyLt' c (b.getD i .none) (b.getD j .none)) C (λ_ _=>False) s
theorem Fy{n:Nat}(I:we 8 A)(y:s.heap.get? a=some (seqObj "list" c.toArray n))(N:g a=none)(sub:∀a o,g a=some o->s.heap.get? a=some o)(Q:2<=c.length->Lb w g c lt)(G:c.length<64)(h:∀p:Array Nat,Aq c.length p->(Ii lt c.length->BP lt p c.length)->P (.done (.ret .none)) {s with heap:=sortedHeap s.heap a c (p.toList.map λi=>c.getD i Value.none).toArray}):wpAny (model pw w) A (Builtin.«list.sort» ⟨[.ref a],[]⟩) P E s:=by
 rw[list_sort_plain];have L:a<s.heap.objs.size:=aJ y;refine Z (sJ y rfl ?_);refine Z (eT y rfl ?_);obtain⟨e1,u⟩:∃e1,(s.heap.update a (Obj.mapSeq λ_=>#[])).get? a=some (seqObj "list" #[] e1):=⟨_,dh y (λ_=>#[])⟩;refine Z (ue u rfl ?_);refine Z (qM ?_);refine Z (q9 ?_);apply aC;have f:(((s.heap.update a (Obj.mapSeq λ_=>#[])).push (seqObj "tuple" c.toArray 0)).push (seqObj "list" #[] 0)).get? a=some (seqObj "list" #[] e1):=by
  rw[Heap.get?_push_ne _ _ _ (by rw[lX,Heap.size_update];exact aQ (fy L)),Heap.get?_push_ne _ _ _ (by rw[Heap.size_update];exact aQ L)];exact u
 have l:∀b o,g b=some o->(((s.heap.update a (Obj.mapSeq λ_=>#[])).push (seqObj "tuple" c.toArray 0)).push (seqObj "list" #[] 0)).get? b=some o:=λb o q=>by
  have R:b≠a:=by rintro rfl;rw[N]at q;cases q
  have S:=sub b o q;refine ak _ (ak _ ?_);rw[cR _ _ _ _ R];exact S
 show wpAny (model pw w) A _ P E {s with heap:=((s.heap.update a (Obj.mapSeq λ_=>#[])).push (seqObj "tuple" c.toArray 0)).push (seqObj "list" #[] 0)};dsimp only;by_cases r:c.toArray.size<2
 .rw[B r,B r]
  refine Z (U ?_);rw[StateT.run_pure];refine Z (U ?_);dsimp only;refine Z (ue f rfl ?_);refine Z (eT f rfl ?_ (hsz2:=by rw[qO];show(c.toArray.zip c.toArray).size<=_;rw[Array.size_zip,aW,bA];omega));simp only[eS,aA,bz];have e:(arrOf (SortSt.mk' general' (c.toArray.zip c.toArray) #[] 7 none)).map (·.2)=((List.range c.length).toArray.toList.map λi=>c.getD i Value.none).toArray:=by
   apply kat_snds rfl;show c.toArray.zip c.toArray=_;have e:=kas_range (c.toArray.zip c.toArray);rw[show(c.toArray.zip c.toArray).size=c.length by simp]at e;exact e.symm
  have t:=h (List.range c.length).toArray (m6 _) (λ_ i j h1 k=>by
   have:c.length<2:=by simpa using r
   omega)
  rw[<-e]at t;exact U t
 .rw[J r,J r]
  have k:2<=c.length:=by have:=r;rw[aW]at this;omega
  let⟨T,m,H⟩:=Q k;refine Z (m A _ _ _ I l ?_);have x:=GW (ask:=kas_ask pw w A T c) (s:={s with heap:=((s.heap.update a (Obj.mapSeq λ_=>#[])).push (seqObj "tuple" c.toArray 0)).push (seqObj "list" #[] 0)})
   (λi j V W C X=>by unfold kas_ask;exact H A _ C i j I l V W X) (Sf k)
  refine Z (f_ (kat_run (Q:=λd z=>(∃p,arrOf d=p.map (kas_item (c.toArray.zip c.toArray))/\failedOf d=none/\Aq c.length p/\(Ii lt c.length->BP lt p c.length))/\z=_)
   rfl k G (λY d z a1 a2 a3 F=>⟨⟨Y,a2,a3,F.2.1,F.2.2⟩,F.1⟩) x) ?_ λ_ _ e=>e)
  rintro⟨⟨⟩,d⟩ z ⟨⟨p,v,hf,M,hs⟩,rfl⟩;dsimp only;refine Z (ue f rfl ?_);have hz:((arrOf d).map (·.2)).size<=sizeLine+1:=by rw[kat_snds rfl v];simp;rw[M.size,bA];omega
  refine Z (eT f rfl ?_);rw[hf];simp only[eS,aA,bz];have t:=h p M hs;rw[<-kat_snds rfl v]at t;exact U t
open Classical in
noncomputable def Cg(c:Bool):Yb->Yb->Bool
 |a::l,b::m=>if a=b then Cg c l m else wX a b
 |_,_=>c
theorem Ho:∀(l m:Yb),xD l m=Cg (decide (l.length<m.length)) l m
 |[],[]=>by simp[xD,Cg]
 |[],_::_=>by simp[xD,Cg]
 |_::_,[]=>by simp[xD,Cg]
 |a::l,b::m=>by
  have e:decide ((a::l).length<(b::m).length)=decide (l.length<m.length):=by simp
  simp only[xD,Cg,Ho l m,e]
def W9:Nat->String
 |0=>"int"
 |1=>"str"
 |_=>"tuple"
abbrev Vq(k:Nat):Yx:=.type (W9 k)
theorem R_{s:Yy}(sub:∀a o,g a=some o->s.heap.get? a=some o)(r:Rd w g b v d)(h:d.kd=some k):s.TypeIs v (W9 k):=by
 match d,h with
 | .int i,h=>
  obtain⟨t,rfl⟩:=r.vX;cases h;exact uT s _ _
 | .str i,h=>
  obtain⟨t,rfl⟩:=r.wF;cases h;exact kB s _ _
 | .vV l,h=>
  obtain⟨rfl,_,_⟩:=j_ h;cases r with
  |vV q _=>let⟨n,q⟩:=q;exact⟨_,sub _ _ q,rfl⟩
theorem GU{M:Model}{s:Yy}(sub:∀a o,g a=some o->s.heap.get? a=some o)(r:Rd w g f v d)(h:d.kd=some k):Looks M s.heap (typeOf v) (Vq k):=by
 intro A Q E c b q;exact d8 (R_ (s:=c) (λa o e=>b _ _ (sub a o e)) r h) q
theorem GV(v:we 8 A)(sub:∀a o,g a=some o->s.heap.get? a=some o):∀{p r:Yc} {l m:Yb} {i:Nat},wR w g G p l->wR w g G r m->yJ l 7=true->yJ m 7=true->FN l m=true->(i=0->b=true->∀d H,l=d::H->d.kd=some 0\/d.kd=some 1)->Q (Cg E l m) s->KatLex pw w A b E Q (p.zip r) i s
 |[],r,_,_,i,.nil,P,j,k,f,z,h=>kat_nil (by simpa[Cg]using h)
 |x::p,[],_,_,i,.cons _ _,.nil,j,k,f,z,h=>kat_nil (by simpa[Cg]using h)
 |x::p,y::r,d::l,e::m,i,.cons t I,.cons u L,j,k,f,z,h=>by
  simp only[yJ,FN,bN]at j k f;refine kat_cons (CP (n:=8) (k:=0) (m:=0) v sub t u (tF j.1 (by omega)) (tF k.1 (by omega)) λc F=>?_);cases c with
  |true=>
   have e1:=F.mp rfl;refine kat_yes (GV v sub I L j.2 k.2 f.2 (λe=>by omega) ?_);rw[Cg,B e1]at h;exact h
  |false=>
   have e1:¬d=e:=λq=>Bool.noConfusion (F.mpr q);rw[Cg,J e1]at h;apply kat_no;by_cases n:(b&&i==0)=true
   .rw[n]
    simp only[bN,gD]at n;have C:=z n.2 n.1 d l rfl;cases d<;>simp only[D.kd,reduceCtorEq,or_self,fu]at C
    .cases e<;>simp[D.ok]at f
     obtain⟨M,rfl⟩:=t.vX;obtain⟨N,rfl⟩:=u.vX;exact oneLt_int (by simpa[wX]using h)
    .cases e<;>simp[D.ok]at f
     obtain⟨M,rfl⟩:=t.wF;obtain⟨N,rfl⟩:=u.wF;exact oneLt_str (by simpa[wX]using h)
    .exfalso
     split at C<;>simp at C
   .rw[pB]at n
    rw[n];apply kat_one _ _;exact VC 7 v (by omega) (by omega) sub t u j.1 k.1 f.1 h
def Bv(a:Yb):Prop:=(∃k,(k=0\/k=1)/\∀d∈a,d.kd=some k)\/
 ∃k,(∀d∈a,d.kd=some 2/\∃h t,d= .vV (h::t)/\h.kd=some k)/\∀d∈a,∀e∈a,d.ok e=true
theorem getD_none{l:List a}(h:i<l.length):l.getD i x=l[i]:=by simp[h]
def o_:=@getD_none
theorem wR.at{b:Yc}(r:wR w g d b a)(h:i<b.length):Rd w g d (b.getD i .none) (a.getD i .none)/\a.getD i .none∈a:=by
 have c:i<a.length:=by rw[<-r.length];exact h
 let⟨v,e,q⟩:=r.get (au c);rw[o_ h,o_ c];rw[au h]at e;cases e;exact⟨q,bT c⟩
noncomputable def TJ(a:Yb)(i j:Nat):Bool:=wX (a.getD i .none) (a.getD j .none)
theorem V8(sub:∀a o,g a=some o->s.heap.get? a=some o)(f:Rd w g m x d)(h:Rd w g m y e)(r:k=0\/k=1)(b:d.kd=some k)(c:e.kd=some k)(q:C (wX d e) s):wpAny (model pw w) A (oneLt' true x y) C E s:=by
 match d,b,e,c with
 | .int i,b,.int j,c=>
  obtain⟨n,rfl⟩:=f.vX;obtain⟨p,rfl⟩:=h.vX;exact oneLt_int (by simpa[wX]using q)
 | .str i,b,.str j,c=>
  obtain⟨n,rfl⟩:=f.wF;obtain⟨p,rfl⟩:=h.wF;exact oneLt_str (by simpa[wX]using q)
 | .int i,b,.str j,c=>cases b;cases c
 | .str i,b,.int j,c=>cases b;cases c
 | .vV l,b,_,c=>have:=(j_ b).1;omega
 |_,b,.vV l,c=>have:=(j_ c).1;omega
theorem VT(r:we 8 A)(sub:∀a o,g a=some o->s.heap.get? a=some o)(c:Rd w g u x d)(f:Rd w g u y e)(i:d.kd=some 2/\∃h t,d= .vV (h::t)/\h.kd=some k)(j:e.kd=some 2/\∃h t,e= .vV (h::t)/\h.kd=some k)(v:d.ok e=true)(q:C (wX d e) s):wpAny (model pw w) A (keyLt' (tuples' (Vq k !=Value.type "tuple")) x y) C E s:=by
 obtain⟨i,H,I,rfl,b⟩:=i;obtain⟨j,L,M,rfl,G⟩:=j;let⟨_,_,z⟩:=j_ i;let⟨_,_,F⟩:=j_ j;cases c with
 |vV m c=>
  cases f with
  |vV n f=>
   let⟨N,m⟩:=m;let⟨P,n⟩:=n;simp only[wX]at q;rw[Ho]at q;refine kat_lt (sub _ _ m) rfl (sub _ _ n) rfl (GV r sub c f z F (by simpa only[D.ok]using v) (λ_ p d l e=>?_) ?_)
   .cases e
    match k,p,b with
    |0,_,b=>exact .inl b
    |1,_,b=>exact .inr b
    |_+2,p,_=>exact absurd p (by simp[W9])
   .rw[aW,aW,c.length,f.length]
    exact q
theorem Ls{b:Yc}(r:wR w g L b c)(M:2<=b.length)(a:Bv c):Lb w g b (TJ c):=by
 rcases a with⟨k,o,a⟩|⟨k,a,hok⟩
 .refine⟨oneType',?_,?_⟩
  .intro A s Q E p sub q
   refine kas_kind (T:=Vq k) M (λv x=>?_) (by rcases o with rfl|rfl<;>rfl) (by rcases o with rfl|rfl<;>rfl) q;obtain⟨i,e,rfl⟩:=bS x;let⟨f,l⟩:=r.at e;rw[o_ e]at f;exact GU sub f (a _ l)
  .intro A s C i j p sub e y q
   rw[keyLt'_oneType];let⟨f,l⟩:=r.at e;let⟨z,u⟩:=r.at y;exact V8 sub f z o (a _ l) (a _ u) q
 .refine⟨tuples' (Vq k !=Value.type "tuple"),?_,?_⟩
  .intro A s Q E p sub q
   have H:∀{b} {c},wR w g L b c->(∀d∈c,d.kd=some 2/\∃h t,d= .vV (h::t)/\h.kd=some k)->∃m,KatTups s.heap b m/\m.length=b.length/\∀v∈m,Looks (model pw w) s.heap (typeOf v) (Vq k):=by
    intro b c r a;induction c generalizing b with
    |nil=>cases r;exact⟨[],.nil,rfl,λv x=>nomatch x⟩
    |cons d c N=>
     cases r with
     |cons r P=>
      obtain⟨_,h,t,rfl,o⟩:=a d (.head _);let⟨m,F,I,G⟩:=N P λd hd=>a d (.tail _ hd);cases r with
      |vV q R=>
       let⟨n,q⟩:=q;cases R with
       |cons S T=>
        exact⟨_::m,.cons (sub _ _ q) rfl rfl rfl F,by simp[I],List.forall_mem_cons.mpr ⟨GU sub S o,G⟩⟩
   let⟨m,F,I,G⟩:=H r a;exact kat_kind F (by omega) G (by match k with|0=>rfl|1=>rfl|_+2=>rfl) q
  .intro A s C i j p sub e y q
   let⟨f,l⟩:=r.at e;let⟨z,u⟩:=r.at y;exact VT p sub f z (a _ l) (a _ u) (hok _ l _ u) q
theorem Hp:∀l:Yb,xD l l=false
 |[]=>rfl
 |a::l=>by rw[xD,B rfl];exact Hp l
theorem Ss:∀d:D,wX d d=false
 | .int i=>by simp[wX]
 | .str i=>by simp[wX]
 | .vV l=>by simp only[wX];exact Hp l
 | .none=>by simp[wX]
 | .bool _=>by simp[wX]
 | .vK _=>by simp[wX]
 | .wc _=>by simp[wX]
 | .ref _=>by simp[wX]
 | .zR _ _=>by simp[wX]
def n9:=@Ss
mutual
theorem IK:∀{a b c:D},wX a b=true->wX b c=true->wX a c=true
 | .int i,.int j,.int k,d,e=>by simp only[wX,aM]at*;omega
 | .str i,.str j,.str k,d,e=>by simp only[wX,aM]at*;exact List.lt_trans d e
 | .vV l,.vV m,.vV n,d,e=>by simp only[wX]at*;exact KZ d e
 | .none,_,_,d,e=>by simp[wX]at d
 | .bool _,_,_,d,e=>by simp[wX]at d
 | .vK _,_,_,d,e=>by simp[wX]at d
 | .wc _,_,_,d,e=>by simp[wX]at d
 | .ref _,_,_,d,e=>by simp[wX]at d
 | .zR _ _,_,_,d,e=>by simp[wX]at d
 | .int _,.none,_,d,e=>by simp[wX]at d
 | .int _,.bool _,_,d,e=>by simp[wX]at d
 | .int _,.str _,_,d,e=>by simp[wX]at d
 | .int _,.vV _,_,d,e=>by simp[wX]at d
 | .int _,.vK _,_,d,e=>by simp[wX]at d
 | .int _,.wc _,_,d,e=>by simp[wX]at d
 | .int _,.ref _,_,d,e=>by simp[wX]at d
 | .int _,.zR _ _,_,d,e=>by simp[wX]at d
 | .str _,.none,_,d,e=>by simp[wX]at d
 | .str _,.bool _,_,d,e=>by simp[wX]at d
 | .str _,.int _,_,d,e=>by simp[wX]at d
 | .str _,.vV _,_,d,e=>by simp[wX]at d
 | .str _,.vK _,_,d,e=>by simp[wX]at d
 | .str _,.wc _,_,d,e=>by simp[wX]at d
 | .str _,.ref _,_,d,e=>by simp[wX]at d
 | .str _,.zR _ _,_,d,e=>by simp[wX]at d
 | .vV _,.none,_,d,e=>by simp[wX]at d
 | .vV _,.bool _,_,d,e=>by simp[wX]at d
 | .vV _,.str _,_,d,e=>by simp[wX]at d
 | .vV _,.int _,_,d,e=>by simp[wX]at d
 | .vV _,.vK _,_,d,e=>by simp[wX]at d
 | .vV _,.wc _,_,d,e=>by simp[wX]at d
 | .vV _,.ref _,_,d,e=>by simp[wX]at d
 | .vV _,.zR _ _,_,d,e=>by simp[wX]at d
 | .int _,.int _,.none,d,e=>by simp[wX]at e
 | .int _,.int _,.bool _,d,e=>by simp[wX]at e
 | .int _,.int _,.str _,d,e=>by simp[wX]at e
 | .int _,.int _,.vV _,d,e=>by simp[wX]at e
 | .int _,.int _,.vK _,d,e=>by simp[wX]at e
 | .int _,.int _,.wc _,d,e=>by simp[wX]at e
 | .int _,.int _,.ref _,d,e=>by simp[wX]at e
 | .int _,.int _,.zR _ _,d,e=>by simp[wX]at e
 | .str _,.str _,.none,d,e=>by simp[wX]at e
 | .str _,.str _,.bool _,d,e=>by simp[wX]at e
 | .str _,.str _,.int _,d,e=>by simp[wX]at e
 | .str _,.str _,.vV _,d,e=>by simp[wX]at e
 | .str _,.str _,.vK _,d,e=>by simp[wX]at e
 | .str _,.str _,.wc _,d,e=>by simp[wX]at e
 | .str _,.str _,.ref _,d,e=>by simp[wX]at e
 | .str _,.str _,.zR _ _,d,e=>by simp[wX]at e
 | .vV _,.vV _,.none,d,e=>by simp[wX]at e
 | .vV _,.vV _,.bool _,d,e=>by simp[wX]at e
 | .vV _,.vV _,.str _,d,e=>by simp[wX]at e
 | .vV _,.vV _,.int _,d,e=>by simp[wX]at e
 | .vV _,.vV _,.vK _,d,e=>by simp[wX]at e
 | .vV _,.vV _,.wc _,d,e=>by simp[wX]at e
 | .vV _,.vV _,.ref _,d,e=>by simp[wX]at e
 | .vV _,.vV _,.zR _ _,d,e=>by simp[wX]at e
theorem KZ:∀{a b c:Yb},xD a b=true->xD b c=true->xD a c=true
 |[],[],_,e,_=>by simp[xD]at e
 |[],_::_,[],_,d=>by simp[xD]at d
 |[],_::_,_::_,_,_=>by simp[xD]
 |_::_,[],_,e,_=>by simp[xD]at e
 |_::_,_::_,[],_,d=>by simp[xD]at d
 |x::i,y::j,z::k,e,d=>by
  rw[xD]at e d⊢;by_cases e1:x=y
  .rw[B e1]at e
   by_cases f:y=z
   .rw[B f]at d
    rw[B (e1.trans f)];exact KZ e d
   .rw[J f]at d
    rw[J (by rw[e1];exact f),e1];exact d
  .rw[J e1]at e
   by_cases f:y=z
   .rw[<-f,J e1]
    exact e
   .rw[J f]at d
    have g:=IK e d;by_cases h:x=z
    .rw[h,n9]at g;cases g
    .rw[J h];exact g
end
mutual
theorem KY:∀{a b:D},a.ok b=true->a≠b->wX a b=true\/wX b a=true
 | .int i,.int j,_,h=>by
  simp only[wX,aM];have:i≠j:=λe=>h (by rw[e]);omega
 | .str i,.str j,_,h=>by
  simp only[wX,aM];by_cases c:i.cps.toList<j.cps.toList
  .exact .inl c
  .by_cases d:j.cps.toList<i.cps.toList
   .exact .inr d
   .exfalso
    have e:=List.le_antisymm (List.not_lt.mp d) (List.not_lt.mp c);apply h;cases i;cases j;simp only[Array.toList_inj]at e;simp[e]
 | .vV l,.vV m,o,h=>by
  simp only[D.ok]at o;simp only[wX];exact Hl o λe=>h (by rw[e])
 | .none,_,o,_=>by simp[D.ok]at o
 | .bool _,_,o,_=>by simp[D.ok]at o
 | .vK _,_,o,_=>by simp[D.ok]at o
 | .wc _,_,o,_=>by simp[D.ok]at o
 | .ref _,_,o,_=>by simp[D.ok]at o
 | .zR _ _,_,o,_=>by simp[D.ok]at o
 | .int _,.none,o,_=>by simp[D.ok]at o
 | .int _,.bool _,o,_=>by simp[D.ok]at o
 | .int _,.str _,o,_=>by simp[D.ok]at o
 | .int _,.vV _,o,_=>by simp[D.ok]at o
 | .int _,.vK _,o,_=>by simp[D.ok]at o
 | .int _,.wc _,o,_=>by simp[D.ok]at o
 | .int _,.ref _,o,_=>by simp[D.ok]at o
 | .int _,.zR _ _,o,_=>by simp[D.ok]at o
 | .str _,.none,o,_=>by simp[D.ok]at o
 | .str _,.bool _,o,_=>by simp[D.ok]at o
 | .str _,.int _,o,_=>by simp[D.ok]at o
 | .str _,.vV _,o,_=>by simp[D.ok]at o
 | .str _,.vK _,o,_=>by simp[D.ok]at o
 | .str _,.wc _,o,_=>by simp[D.ok]at o
 | .str _,.ref _,o,_=>by simp[D.ok]at o
 | .str _,.zR _ _,o,_=>by simp[D.ok]at o
 | .vV _,.none,o,_=>by simp[D.ok]at o
 | .vV _,.bool _,o,_=>by simp[D.ok]at o
 | .vV _,.str _,o,_=>by simp[D.ok]at o
 | .vV _,.int _,o,_=>by simp[D.ok]at o
 | .vV _,.vK _,o,_=>by simp[D.ok]at o
 | .vV _,.wc _,o,_=>by simp[D.ok]at o
 | .vV _,.ref _,o,_=>by simp[D.ok]at o
 | .vV _,.zR _ _,o,_=>by simp[D.ok]at o
theorem Hl:∀{a b:Yb},FN a b=true->a≠b->xD a b=true\/xD b a=true
 |[],[],_,h=>absurd rfl h
 |[],_::_,_,_=>.inl (by simp[xD])
 |_::_,[],_,_=>.inr (by simp[xD])
 |x::c,y::d,o,h=>by
  simp only[FN,bN]at o;rw[xD,xD];by_cases e:x=y
  .rw[B e,B e.symm]
   exact Hl o.2 λq=>h (by rw[e,q])
  .rw[J e,J (fY e)]
   exact KY o.1 e
end
theorem Bv.ok(h:Bv f):∀d∈f,∀e∈f,d.ok e=true:=by
 rcases h with⟨k,m,c⟩|⟨k,c,hok⟩
 .intro d hd e g
  have a:=c d hd;have b:=c e g
  match d,a,e,b with
  | .int i,a,.int j,b=>rfl
  | .str i,a,.str j,b=>rfl
  | .int i,a,.str j,b=>cases a;cases b
  | .str i,a,.int j,b=>cases a;cases b
  | .vV l,a,_,b=>have:=(j_ a).1;omega
  |_,a,.vV l,b=>have:=(j_ b).1;omega
 .exact hok
theorem Bv.tot(h:Bv a)(f:a.Nodup):Ii (TJ a) a.length where
 XS i b:=n9 _
 tr i j k b d m g l:=IK g l
 tot i j b d c:=by
  unfold TJ;rw[o_ b,o_ d];exact KY (h.ok _ (bT _) _ (bT _)) λe=>c ((jB f).mp e)
structure J3(ds r:Yb):Prop where
 perm:r.Perm ds
 BP:ds.Nodup->r.Pairwise λa b=>wX a b=true
theorem N1(h:2<=a.length->Bv a)(b:Aq a.length p)(m:Ii (TJ a) a.length->BP (TJ a) p a.length):J3 a (p.toList.map λi=>a.getD i .none) where
 perm:=by
  have e:a=(List.range a.length).map λi=>a.getD i .none:=by
   apply gw;intro i;rw[a_];by_cases c:i<a.length
   .rw[gJ c];simp[c]
   .have k:a.length<=i:=fc c
    rw[aO k,aO (by simpa using k)];rfl
  have:=b.map λi=>a.getD i .none;rw[<-e]at this;exact this
 BP n:=by
  by_cases o:2<=a.length
  .have T:=m ((h o).tot n)
   rw[b5,kM];intro i j q l d;have:=T i j d (by rw[<-b.size];simpa using l);have f:i<p.size:=by simpa using q
   have g:j<p.size:=by simpa using l
   unfold TJ at this;have e1:p.getD i 0=p.toList[i]:=by simp[Array.getD,f]
   have r:p.getD j 0=p.toList[j]:=by simp[Array.getD,g]
   rw[e1,r]at this;exact this
  .have:p.toList.length<2:=by have:=b.size;simp;omega
   match s:p.toList,this with
   |[],_=>exact List.Pairwise.nil
   |[x],_=>exact lO _ _
theorem CT{h:Array Nat}{j:Nat}(k:∀a b,a<b->b<h.size->h.getD a 0<h.getD b 0):∀(f lo g:Nat),g-lo<=f->lo<=g->g<=h.size->(∀i,i<lo->h.getD i 0<j)->(∀i,g<=i->i<h.size->j<=h.getD i 0)->(∀i,i<SetTable.below.go h j f lo g->h.getD i 0<j)/\(∀i,SetTable.below.go h j f lo g<=i->i<h.size->j<=h.getD i 0)/\SetTable.below.go h j f lo g<=h.size
 |0,lo,g,p,q,l,m,n=>by
  have:lo=g:=by omega
  subst this;exact⟨m,n,l⟩
 |f+1,lo,g,p,q,l,m,n=>by
  unfold SetTable.below.go;by_cases c:lo<g
  .rw[B c]
   dsimp only;have r:h.getD ((lo+g)/2) j=h.getD ((lo+g)/2) 0:=by
    have:(lo+g)/2<h.size:=by omega
    simp[Array.getD,this]
   rw[r];by_cases d:h.getD ((lo+g)/2) 0<j
   .rw[B d]
    refine CT k f _ g (by omega) (by omega) l (λi o=>?_) n;by_cases e:i=(lo+g)/2
    .rw[e];exact d
    .have:=k i ((lo+g)/2) (by omega) (by omega);omega
   .rw[J d]
    refine CT k f lo _ (by omega) (by omega) (by omega) m λi o s=>?_;by_cases e:i=(lo+g)/2
    .rw[e];omega
    .have:=k ((lo+g)/2) i (by omega) s;omega
  .rw[J c]
   have:lo=g:=by omega
   subst this;exact⟨m,n,l⟩
def AB(a:Array Nat):Prop:=a.toList.Pairwise (·<·)
theorem AB.get{c:Array Nat}(h:AB c):∀a b,a<b->b<c.size->c.getD a 0<c.getD b 0:=by
 intro a b d e;have:=kM.mp h a b (by simpa using(by omega:a<c.size)) (by simpa using e) d;have f:a<c.size:=by omega
 simpa[Array.getD,f,e]using this
theorem JL{a:Array Nat}(h:AB a)(j:Nat):(∀i,i<SetTable.below a j->a.getD i 0<j)/\(∀i,SetTable.below a j<=i->i<a.size->j<=a.getD i 0)/\SetTable.below a j<=a.size:=CT h.get a.size 0 a.size (by omega) (bB _) (ao _) (λi b=>by omega) (λi c d=>by omega)
def qH:=@JL
theorem KJ(j:Nat):SetTable.has #[] j=false:=by simp[SetTable.has]
theorem I4{t:YE}(hd:t.dummies=#[])(b:AB t.place)(j:Nat):(t.slot j= .empty/\j∉t.place.toList)\/∃i,t.slot j= .live i/\t.place[i]? =some j:=by
 unfold SetTable.slot;dsimp only;by_cases c:(t.place[SetTable.below t.place j]? ==some j)=true
 .rw[B c]
  exact .inr ⟨_,rfl,by simpa using c⟩
 .rw[J c,hd,KJ]
  refine .inl ⟨rfl,λd=>c ?_⟩;let⟨f,g,l⟩:=qH b j;let⟨i,h,e⟩:=bS d;have a:i<t.place.size:=by simpa using h
  have k:t.place[i]=j:=by simpa using e
  have m:t.place.getD i 0=j:=by simpa[Array.getD,a]using e
  have n:SetTable.below t.place j<=i:=fc λq=>by have:=f i q;omega
  have o:i<=SetTable.below t.place j:=fc λq=>by
   have:=b.get _ i q a;have:=g (SetTable.below t.place j) (ao _) (by omega);omega
  have:SetTable.below t.place j=i:=by omega
  rw[this];simp[a];exact k
def uU:=@I4
theorem HG{c:Array Nat}(h:AB c){j:Nat}(o:j∉c.toList):AB (SetTable.insertAt c (SetTable.below c j) j):=by
 let⟨p,q,s⟩:=qH h j;unfold AB;rw[SetTable.toList_insertAt];have f:∀a∈c.toList.take (SetTable.below c j),a<j:=by
  intro a d;let⟨i,l,e⟩:=bS d;have n:i<SetTable.below c j:=by simp at l;omega
  have:=p i n;have k:i<c.size:=by omega
  simp only[Array.getD,k,dite_true]at this;rw[List.getElem_take]at e;simp at e;rw[<-e];exact this
 have g:∀a∈c.toList.drop (SetTable.below c j),j<a:=by
  intro a d;let⟨i,l,e⟩:=bS d;have k:SetTable.below c j+i<c.size:=by simp at l;omega
  have:=q _ (lK _ i) k;simp only[Array.getD,k,dite_true]at this;rw[List.getElem_drop]at e;simp at e;have r:a∈c.toList:=List.mem_of_mem_drop d;have:j<=a:=by rw[<-e];exact this
  have:j≠a:=by rintro rfl;exact o r
  omega
 refine List.pairwise_append.mpr ⟨h.sublist (oK _ _),gZ.mpr ⟨g,h.sublist (List.drop_sublist _ _)⟩,λa d b m=>?_⟩;rcases aG.mp m with rfl|m
 .exact f a d
 .have:=f a d;have:=g b m;omega
structure w5(led:Bool)(t:YE)(n:Nat):Prop where
 fits:t.fits n=true
 rise:AB t.place
 Vs:t.dummies=#[]
 led:t.led=led
theorem w5.size{led:Bool}{t:YE}{n:Nat}(h:w5 led t n):t.place.size=n:=by
 have:=h.fits;simp only[SetTable.fits,bN,gD]at this;exact this.1
theorem w5.plain{led:Bool}{t:YE}{n:Nat}(h:w5 led t n)(b:Bool):w5 led {t with plain:=b} n:=⟨h.fits,h.rise,h.Vs,h.led⟩
theorem C8(n:Nat):AB (Array.range n):=by
 unfold AB;rw[Array.toList_range];exact eB
theorem w5.standIn{led:Bool}{t:YE}{m:Nat}(h:w5 led t m)(n:Nat):w5 led (t.standIn n) n:=⟨tw _ _,C8 n,rfl,h.led⟩
theorem w5.fresh(led:Bool):w5 led (.fresh 0 0 led) 0:=⟨rfl,List.Pairwise.nil,rfl,rfl⟩
theorem Bw{t:YE}(hd:t.dummies=#[])(k:AB t.place){hashAt:Nat->Int}{h:Int}:∀(f:Nat) (p:SetTable.Probe),p.dummy=none->∀j d,SetTable.probe.go t hashAt h f p=some (.empty j d)->j∉t.place.toList/\d=none
 |0,p,a,j,d,e=>by simp[SetTable.probe.go]at e
 |f+1,p,a,j,d,e=>by
  unfold SetTable.probe.go at e;have g:(t.advance p).dummy=none:=by unfold SetTable.advance;split<;>exact a
  rcases uU hd k p.j with⟨b,l⟩|⟨i,b,l⟩
  .rw[b]at e
   cases e
   exact⟨l,a⟩
  .rw[b]at e
   dsimp only at e;by_cases c:(hashAt i==h)=true
   .rw[B c]at e;cases e
   .rw[J c]at e
    exact Bw hd k f _ g j d e
theorem w5.put{led:Bool}{t:YE}{n:Nat}(h:w5 led t n){j:Nat}(a:j∉t.place.toList):AB (t.put j).1.place/\(t.put j).1.dummies=#[]/\(t.put j).1.led=led/\(t.put j).1.place.size=n+1/\(t.put j).1.mask=t.mask:=by
 refine⟨HG h.rise a,?_,h.led,?_,rfl⟩
 .show(if SetTable.has t.dummies j=true then _ else t.dummies)=_
  rw[h.Vs,KJ];rfl
 .show(SetTable.insertAt t.place (SetTable.below t.place j) j).size=n+1
  rw[<-cG,(sW _ _ _).length_eq];simp[h.size]
theorem w5.Rt{led:Bool}{t:YE}{n m:Nat}(b:AB t.place)(d:t.dummies=#[])(a:t.led=led):w5 led (t.orStandIn n) n:=by
 unfold SetTable.orStandIn;split
 .rename_i c;exact⟨c,b,d,a⟩
 .exact⟨tw _ _,C8 n,rfl,a⟩
theorem w5.layNew{led:Bool}{t:YE}{g:Array (Int×Yx)}(h:w5 led t g.size)(k:Int)(x:Yx):w5 led (layNew t g k x).2.1 (layNew t g k x).1.size:=by
 unfold PySem.layNew;cases e:t.freeSlot k with
 |none=>dsimp only;rw[mF];exact h.standIn _
 |some q=>
  let⟨f,l⟩:=q;dsimp only;have i:f∉t.place.toList:=by
   unfold SetTable.freeSlot at e;split at e
   .rename_i j d q
    let⟨a,b⟩:=Bw h.Vs h.rise _ _ rfl _ _ q;subst b;cases e;exact a
   .cases e
  let⟨a,b,c,_⟩:=h.put i;exact w5.Rt (m:=0) a b c
theorem Eg{g f h:Nat}{i plain:Bool}{n:Array Int}{t:YE}{j:Array Nat}(e:SetTable.laid g f h i plain n=some (t,j)):AB t.place/\t.dummies=#[]/\t.led=i/\t.mask=g:=by
 unfold SetTable.laid at e;simp only[Option.bind_eq_bind,dU,Option.pure_def,fu,iQ]at e;let⟨l,_,e1,_⟩:=e;subst e1;refine⟨?_,rfl,rfl,rfl⟩;show List.Pairwise _ _;simp only;rw[vg,rY];apply eB.imp;intro a b k c m d hd;simp only[Option.map_map]at m hd;obtain⟨x,_,rfl⟩:=bu.mp m;obtain⟨y,_,rfl⟩:=bu.mp hd;exact k
theorem w5.relayAll{led:Bool}{t:YE}{e:Array (Int×Yx)}(h:w5 led t e.size)(d:Nat):w5 led (relayAll t e d).2.1 (relayAll t e d).1.size:=by
 unfold PySem.relayAll;split
 .rename_i i f q
  dsimp only;let⟨a,b,c,_⟩:=Eg q;split
  .rename_i g
   simp only[bN]at g;exact⟨g.2,a,b,c.trans h.led⟩
  .exact h.standIn _
 .exact h.standIn _
def xK(a:Array (Int×Yx))(b:Nat)(t:YE):Obj:={cls:=.type "set",data:=.set a b t}
inductive zI(w:Yz)(g:YH)(ρ:X_):List (Int×Yx)->Yb->Prop
 |nil:zI w g ρ [] []
 |cons {v:Yx} {d:D} {es:List (Int×Yx)} {ds:Yb}:Rd w g ρ v d->zI w g ρ es ds->zI w g ρ ((wD w d,v)::es) (d::ds)
theorem zI.length:∀{a:List (Int×Yx)} {b:Yb},zI w g c a b->a.length=b.length
 |_,_,.nil=>rfl
 |_,_,.cons _ h=>by simp[h.length]
theorem zI.perm(p:c.Perm d):∀{b:Yb},zI w g e d b->∃a,a.Perm b/\zI w g e c a:=by
 suffices h:∀{d c},d.Perm c->∀{b},zI w g e d b->∃a,a.Perm b/\zI w g e c a fromλ{b} x=>h p.symm x
 intro d c p;induction p with
 |nil=>intro b h;exact⟨b,.refl _,h⟩
 |cons x _ j=>
  intro b h;cases h with
  |cons r h=>
   let⟨a,k,m⟩:=j h;exact⟨_::a,k.cons _,.cons r m⟩
 |swap x y l=>
  intro b h;cases h with
  |cons r h=>
   cases h with
   |cons n h=>exact⟨_,.swap _ _ _,.cons n (.cons r h)⟩
 |trans _ _ f i=>
  intro b h;let⟨v,o,q⟩:=f h;let⟨s,t,u⟩:=i q;exact⟨s,t.trans o,u⟩
theorem zI.append:∀{c a:List (Int×Yx)} {d b:Yb},zI w g e c d->zI w g e a b->zI w g e (c++a) (d++b)
 |_,_,_,_,.nil,h=>h
 |_,_,_,_,.cons r f,h=>.cons r (f.append h)
theorem zI.rd:∀{a:List (Int×Yx)} {b:Yb},zI w g c a b->wR w g c (a.map (·.2)) b
 |_,_,.nil=>.nil
 |_,_,.cons r h=>.cons r h.rd
theorem zI.mem:∀{f:List (Int×Yx)} {i:Yb},zI w g j f i->∀e∈f,∃d∈i,Rd w g j e.2 d/\e.1=wD w d
 |_,_,.nil,e,c=>nomatch c
 |_,_,.cons r h,e,c=>by
  rcases aG.mp c with rfl|c
  .exact⟨_,.head _,r,rfl⟩
  .let⟨d,a,b⟩:=h.mem e c
   exact⟨d,.tail _ a,b⟩
theorem zI.mem':∀{f:List (Int×Yx)} {i:Yb},zI w g j f i->∀d∈i,∃e∈f,Rd w g j e.2 d/\e.1=wD w d
 |_,_,.nil,e,c=>nomatch c
 |_,_,.cons r h,e,c=>by
  rcases aG.mp c with rfl|c
  .exact⟨_,.head _,r,rfl⟩
  .let⟨d,a,b⟩:=h.mem' e c
   exact⟨d,.tail _ a,b⟩
theorem zI.get:∀{c:List (Int×Yx)} {f:Yb},zI w g j c f->∀{i:Nat} {e:Int×Yx},c[i]? =some e->∃d,f[i]? =some d/\Rd w g j e.2 d/\e.1=wD w d
 |_,_,.nil,i,e,h=>by simp at h
 |_,_,.cons r h,0,e,q=>by simp at q;subst q;exact⟨_,by simp,r,rfl⟩
 |_,_,.cons r h,i+1,e,q=>by simp at q;let⟨d,a,b⟩:=h.get q;exact⟨d,by simpa using a,b⟩
structure Gg(w:Yz)(K:Type)[DecidableEq K]where
 knd:KeyKind pw w K
 em:K->D
 inj:∀a b,em a=em b->a=b
 to:∀{g:YH} {ρ:X_} {v:Yx} {k:K},Rd w g ρ v (em k)->knd.is k v=true/\v.scannable=true
 hash:∀k,wD w (em k)=knd.hash k
noncomputable def VV(w:Yz):Gg w Int where
 knd:=intKind pw w
 em:=D.int
 inj:=λa b e=>by injection e
 to:=λr=>by obtain⟨t,rfl⟩:=r.vX;exact⟨by simp[intKind,Value.isInt],rfl⟩
 hash:=λk=>by simp[wD]
noncomputable def VU(w:Yz):Gg w Str where
 knd:=PySem.strKind pw w
 em:=D.str
 inj:=λa b e=>by injection e
 to:=λr=>by obtain⟨t,rfl⟩:=r.wF;exact⟨by simp[PySem.strKind,Value.isStrOf],rfl⟩
 hash:=λk=>by simp[wD]
section
variable{w:Yz}{g:YH}{ρ:X_}{K:Type}[DecidableEq K](S:Gg w K){A:YA}{E:X0}{s:Yy}
theorem Gg.elems(h:zI w g ρ c f)(i:∀d∈f,∃k,d=S.em k):ElemsOf S.knd c:=by
 intro e j;let⟨d,hd,r,l⟩:=h.mem e j;obtain⟨k,rfl⟩:=i d hd;let⟨a,b⟩:=S.to r;exact⟨⟨k,a,by rw[l,S.hash]⟩,b⟩
theorem Hy(e:s.heap.get? a=some (xK i f t))(j:b.size<=100000)(h:∀d,Heap.SameBut a s.heap d->d.get? a=some (xK b (f+1) c)->Q () {s with heap:=d}):wpAny (model pw w) A (storeSet a b c) Q E s:=by
 refine wpAny_storeSet_of e rfl ?_ (by rw[bA];omega);apply h _ (bY _ a _);have:=gj (Obj.putSet b c) e (by rw[putSet_of b c rfl];rfl);rw[putSet_of b c rfl]at this;exact this
def pN:=@Hy
theorem HE(Y:s.heap.get? a=some (xK p ep t))(hT:w5 H t p.size)(F:zI w g ρ p.toList q)(hk:∀d∈q,∃k,d=S.em k)(r:Rd w g ρ x (S.em k))(hz:p.size+1<4096)(h:∀(b:Bool) G v a0 t' y,Heap.SameBut a s.heap G->G.get? a=some (xK v a0 t')->w5 H t' v.size->zI w g ρ v.toList y->(S.em k∈q/\y=q)\/(S.em k∉q/\y.Perm (q++[S.em k]))->Q b {s with heap:=G}):wpAny (model pw w) A (setAddHashed a x (wD w (S.em k))) Q E s:=by
 let⟨X,I⟩:=S.to r;have M:=S.elems F hk;rw[S.hash];unfold setAddHashed setAddHashedIn;refine aC (Z (dP Y rfl hT.fits ?_));dsimp only;rw[byScan_of I (by unfold scanBound;omega) M];simp only[↓reduceIte];unfold setAddByScan;apply Z;refine Z (dO ?_);refine Z (wpAny_setScan_of X Y rfl hT.fits M ?_);cases hr:List.findIdx? (λe=>S.knd.is k e.2) p.toList with
 |some j=>
  dsimp only;let⟨hj,b0,_⟩:=jc.mp hr;refine U (U ?_);have e:s={s with heap:=s.heap}:=by cases s;rfl
  rw[e];refine h false s.heap p ep t q (kU a s.heap) Y hT F (.inl ⟨?_,rfl⟩);let⟨d,hd,r',_⟩:=F.mem _ (bT hj);obtain⟨k',rfl⟩:=hk d hd;have:=S.knd.inj _ _ _ (S.to r').1 b0;rw[<-this];exact hd
 |none=>
  dsimp only;have N:S.em k∉q:=λhm=>by
   let⟨e,he,r',_⟩:=F.mem' _ hm;have:=gk.mp hr e he;rw[(S.to r').1]at this;exact Bool.noConfusion this
  have P:∀b {m} {Q'},Q' () m->wpAny (model pw w) A (match b with|true=>rule "set.scan.the-table-gave-way"|false=>pure ()) Q' E m:=
   λb m Q' hq=>by cases b<;>first|exact U hq|exact dO hq
  have f:=layNew_perm t p (S.knd.hash k) x;have l:=hT.layNew (S.knd.hash k) x;generalize hL:layNew t p (S.knd.hash k) x=L at f l⊢;let⟨c,t1,i,j0⟩:=L;dsimp only at f l⊢;rw[oM]at f;have c0:zI w g ρ (p.toList++[(S.knd.hash k,x)]) (q++[S.em k]):=F.append (by rw[<-S.hash];exact .cons r .nil);let⟨d0,p1,R⟩:=c0.perm f;have k0:c.size=p.size+1:=by rw[<-cG,f.length_eq,aF,cG];rfl
  refine Z (P _ ?_);have u:∀n,w5 H n c.size->wpAny (model pw w) A (do
   storeSet a c n
   if(
    !i&&n.tooFull)=true then do
    (match(relayAll n c (SetTable.grown c.size)).2.2 with|true=>rule "set.scan.the-table-gave-way"|false=>pure ())
    storeSet a (relayAll n c (SetTable.grown c.size)).1 (relayAll n c (SetTable.grown c.size)).2.1
    pure (some true)
    else pure (some true)) (λo s'=>wpAny (model pw w) A (match o with|some C=>pure C|none=>setAddHashedIn a x (S.knd.hash k) 99999) Q E s') E s:=by
   intro n T;refine Z (pN Y (by omega) λG sb V=>?_);split
   .have hp:=relayAll_perm n c (SetTable.grown c.size)
    have z:=T.relayAll (SetTable.grown c.size);generalize m0:relayAll n c (SetTable.grown c.size)=Rl at hp z⊢;let⟨W,t3,i0⟩:=Rl;dsimp only at hp z⊢;refine Z (P _ ?_);have l0:W.size=c.size:=by rw[<-cG,hp.length_eq,cG]
    refine Z (pN V (by omega) λh2 e0 f0=>?_);let⟨g0,p2,h0⟩:=R.perm hp;exact U (U (h true h2 W _ t3 g0 (sb.trans e0) f0 z h0 (.inr ⟨N,p2.trans p1⟩)))
   .exact U (U (h true G c _ n d0 sb V T R (.inr ⟨N,p1⟩)))
  split
  .rw[hashByValue_scannable 8 I]
   refine Z (U ?_);apply u _;split
   .exact l
   .exact l.plain false
  .refine Z (U ?_)
   simp only[↓reduceIte];exact u _ l
end
def Ey(a:Nat):Nat->Nat×Nat->Nat×Nat
 |0,p=>p
 |m+1,p=>Ey a m (SetTable.leap a p.1 p.2)
theorem EY(c:Nat):∀(a b:Nat) (p:Ys),Ey c (a+b) p=Ey c b (Ey c a p)
 |0,b,p=>by rw[j4];rfl
 |a+1,b,p=>by rw[Nat.succ_add];exact EY c a b _
theorem Kv(a:Nat):∀(m:Nat) (p:Ys),(Ey a m p).2=p.2/32^m
 |0,p=>by simp[Ey]
 |m+1,p=>by
  rw[Ey,Kv a m];show p.2/32/32^m=_;rw[Nat.div_div_eq_div_mul,sL,oB 32]
def W0(n:Nat):Nat->Nat->Nat
 |0,i=>i
 |m+1,i=>W0 n m ((i*5+1)%n)
theorem Kw(a:Nat):∀(m i:Nat),(Ey a m (i,0)).1=W0 (a+1) m i
 |0,i=>rfl
 |m+1,i=>by
  have:SetTable.leap a i 0=((i*5+1)%(a+1),0):=by simp[SetTable.leap]
  rw[Ey,this,Kw a m];rfl
def xP(n:Nat):Nat->Nat->X8
 |0,_=>[]
 |f+1,i=>i::xP n f ((i*5+1)%n)
theorem Bg:∀{f i j:Nat},j∈xP n f i->∃m,m<f/\W0 n m i=j
 |f+1,i,j,h=>by
  rcases aG.mp h with rfl|h
  .exact⟨0,by omega,rfl⟩
  .let⟨m,a,b⟩:=Bg h
   exact⟨m+1,by omega,b⟩
theorem D7:(∀i,i<8->∀j,j<8->j∈xP 8 8 i)/\∀i,i<32->∀j,j<32->j∈xP 32 32 i:=by
 constructor
 .decide+kernel
 .decide+kernel
def TP(a:Nat):Prop:=a=7\/a=31
theorem cover(n:TP c)(h:Int)(s:j<=c):∃m,m<=13+c/\(Ey c m (SetTable.bits h%(c+1),SetTable.bits h)).1=j:=by
 have o:SetTable.bits h<2^64:=by
  unfold SetTable.bits;have k:(2:Int)^64=18446744073709551616:=by decide
  have d:(2:Nat)^64=18446744073709551616:=by decide
  rw[k,d];omega
 have g:(Ey c 13 (SetTable.bits h%(c+1),SetTable.bits h)).2=0:=by
  rw[Kv];refine Nat.div_eq_of_lt (c9 o ?_)
  decide
 have f:(Ey c 13 (SetTable.bits h%(c+1),SetTable.bits h)).1<c+1:=by
  have e:Ey c 13 (SetTable.bits h%(c+1),SetTable.bits h)=SetTable.leap c (Ey c 12 (SetTable.bits h%(c+1),SetTable.bits h)).1 (Ey c 12 (SetTable.bits h%(c+1),SetTable.bits h)).2:=EY c 12 1 _;rw[e];exact qI _ (Nat.succ_pos _)
 generalize r:Ey c 13 (SetTable.bits h%(c+1),SetTable.bits h)=q at g f;let⟨i,p⟩:=q;simp only at g f;subst g;have l:∃m,m<c+1/\W0 (c+1) m i=j:=by
  rcases n with rfl|rfl
  .exact Bg (D7.1 i f j (by omega))
  .exact Bg (D7.2 i f j (by omega))
 let⟨m,a,b⟩:=l;refine⟨13+m,by omega,?_⟩;rw[EY,r,Kw];exact b
def Ai(t:YE):Nat->SetTable.Probe->SetTable.Probe
 |0,p=>p
 |n+1,p=>Ai t n (t.advance p)
theorem CV(t:YE):∀(a b:Nat) (p:SetTable.Probe),Ai t (a+b) p=Ai t b (Ai t a p)
 |0,b,p=>by rw[j4];rfl
 |a+1,b,p=>by rw[Nat.succ_add];exact CV t a b _
theorem Ew{t:YE}(h:p.dummy=none):(t.advance p).dummy=none:=by unfold SetTable.advance;split<;>exact h
theorem Dr{t:YE}:∀{n:Nat} {p:SetTable.Probe},p.dummy=none->(Ai t n p).dummy=none
 |0,_,h=>h
 |n+1,_,h=>Dr (n:=n) (Ew h)
def z8(t:YE)(q:Ys):SetTable.Probe:={j:=q.1,more:=SetTable.runEnd t.mask q.1-q.1,i:=q.1,perturb:=q.2,dummy:=none}
theorem J8:∀(k:Nat) (p:SetTable.Probe),p.more=k->p.dummy=none->Ai t (k+1) p=z8 t (SetTable.leap t.mask p.i p.perturb)
 |0,p,h,hd=>by
  show t.advance p=_;unfold SetTable.advance;rw[J (by omega)];simp only[z8,hd]
 |k+1,p,h,hd=>by
  have e:t.advance p={p with j:=p.j+1,more:=p.more-1}:=by unfold SetTable.advance;rw[B (by omega)]
  show Ai t (k+1) (t.advance p)=_;rw[e];exact J8 k {p with j:=p.j+1,more:=p.more-1} (by simp[h]) hd
theorem Q9(a i:Nat):SetTable.runEnd a i-i<=9:=by unfold SetTable.runEnd;split<;>omega
theorem Lp(t:YE)(q:Ys):∃n,n<=10/\Ai t n (z8 t q)=z8 t (SetTable.leap t.mask q.1 q.2):=⟨SetTable.runEnd t.mask q.1-q.1+1,by have:=Q9 t.mask q.1;omega,J8 _ (z8 t q) rfl rfl⟩
theorem C0(t:YE):∀(m:Nat) (q:Ys),∃n,n<=10*m/\Ai t n (z8 t q)=z8 t (Ey t.mask m q)
 |0,q=>⟨0,by omega,rfl⟩
 |m+1,q=>by
  let⟨a,d,e1⟩:=Lp t q;let⟨b,e,c⟩:=C0 t m (SetTable.leap t.mask q.1 q.2);exact⟨a+b,by omega,by rw[CV,e1,c];rfl⟩
theorem H9{xs:X8}(h:xs.length<=mask):∃j,j<=mask/\j∉xs:=by
 by_cases c:∃j,j<=mask/\j∉xs
 .exact c
 .exfalso
  have b:∀j,j<=mask->j∈xs:=λj a=>qW λq=>c ⟨j,a,q⟩;have sub:(List.range (mask+1)).Subset xs:=λj a=>b j (by have:=aZ.mp a;omega);have:=(fZ (n:=mask+1)).length_le_of_subset sub;rw[cW]at this;omega
theorem HY(c:w5 p t n)(f:TP t.mask)(g:n<=t.mask)(h:Int):∃N,N<10*SetTable.turns t.mask/\t.slot (Ai t N (t.probeStart h)).j= .empty:=by
 let⟨j,k,d⟩:=H9 (mask:=t.mask) (xs:=t.place.toList) (by simpa[c.size]using g);let⟨m,q,l⟩:=cover f h k;let⟨N,r,o⟩:=C0 t m (SetTable.bits h%(t.mask+1),SetTable.bits h);refine⟨N,by unfold SetTable.turns;omega,?_⟩;have e:t.probeStart h=z8 t (SetTable.bits h%(t.mask+1),SetTable.bits h):=rfl;rw[e,o];show t.slot (Ey t.mask m (SetTable.bits h%(t.mask+1),SetTable.bits h)).1=_;rw[l];rcases uU c.Vs c.rise j with⟨a,_⟩|⟨i,_,b⟩
 .exact a
 .exfalso
  exact d (by
   have:=Array.mem_of_getElem? b;simpa using this)
theorem KL(g:w5 s t n){hashAt:Nat->Int}:∀(f:Nat) (p:SetTable.Probe) (N:Nat),p.dummy=none->t.slot (Ai t N p).j= .empty->N<f->(∃j,SetTable.probe.go t hashAt h f p=some (.empty j none)/\j∉t.place.toList)\/∃j i M,M<N/\SetTable.probe.go t hashAt h f p=some (.candidate j i (Ai t (M+1) p))/\t.slot j= .live i/\t.place[i]? =some j
 |0,p,N,l,m,q=>by omega
 |f+1,p,N,l,m,q=>by
  unfold SetTable.probe.go;rcases uU g.Vs g.rise p.j with⟨e,o⟩|⟨i,e,o⟩
  .rw[e]
   exact .inl ⟨p.j,by rw[l],o⟩
  .have u:N≠0:=by
    rintro rfl;have:t.slot p.j= .empty:=m;rw[e]at this;cases this
   rw[e];dsimp only;by_cases c:(hashAt i==h)=true
   .rw[B c]
    exact .inr ⟨p.j,i,0,by omega,rfl,e,o⟩
   .rw[J c]
    obtain⟨N,rfl⟩:∃k,N=k+1:=⟨N-1,by omega⟩;rcases KL g f (t.advance p) N (Ew l) m (by omega)with⟨j,a,b⟩|⟨j,r,M,a,b,c,d⟩
    .exact .inl ⟨j,a,b⟩
    .exact .inr ⟨j,r,M+1,by omega,b,c,d⟩
theorem El(d:a.size=b+1)(g:j<=b)(c:a[j]? =some none):∀(m f i p:Nat),(Ey b m (i,p)).1=j->m<f->∃r,SetTable.layClean.free b a f i p=some r/\a[r]? =some none
 |m,0,i,p,h,l=>by omega
 |m,f+1,i,p,h,l=>by
  unfold SetTable.layClean.free;cases q:(List.range (SetTable.runEnd b i+1-i)).find? λk=>(a.getD (i+k) (some 0)).isNone with
  |some k=>
   refine⟨i+k,rfl,?_⟩;have:=p5 q;rw[iz]at this;cases e:a[i+k]? with
   |none=>rw[e]at this;simp at this
   |some o=>
    rw[e]at this;cases o with
    |none=>rfl
    |some _=>simp at this
  |none=>
   dsimp only
   match m,h with
   |0,h=>
    exfalso;have n:i=j:=h;subst n;have s:0<SetTable.runEnd b i+1-i:=by unfold SetTable.runEnd;split<;>omega
    have:=gf.mp q 0 (aZ.mpr s);rw[Nat.add_zero,iz,c]at this;simp at this
   |m+1,h=>exact El d g c m f _ _ h (by omega)
theorem xX:∀{l:List (Option a)} {r:Nat} {x:a},l[r]? =some none->((l.set r (some x)).filterMap id).Perm (x::l.filterMap id)
 |[],r,x,h=>by simp at h
 |o::l,0,x,h=>by simp at h;subst h;exact m6 _
 |o::l,r+1,x,h=>by
  simp at h;rw[List.set_cons_succ];cases o with
  |none=>exact xX h
  |some y=>
   show(y::_).Perm (x::y::_);exact((xX h).cons y).trans (List.Perm.swap _ _ _)
theorem HQ(L:TP f)(M:q.size<=f):∃d,SetTable.layClean f q=some d/\d.size=f+1/\(d.toList.filterMap id).Perm (List.range q.size):=by
 unfold SetTable.layClean;rw[<-Array.foldl_toList];have v:∀(l:List Int) d k,d.size=f+1->(d.toList.filterMap id).Perm (List.range k)->k+l.length<=f->
  ∃g,(l.foldl (λw h=>(w:Option (Array (Yo)×Nat))>>=λx=>(SetTable.layClean.free f x.1 (SetTable.turns f) (SetTable.bits h%(f+1)) (SetTable.bits h))>>=λj=>pure (x.1.setIfInBounds j (some x.2),x.2+1)) (some (d,k)))=some (g,k+l.length)/\g.size=f+1/\(g.toList.filterMap id).Perm (List.range (k+l.length)):=by
  intro l;induction l with
  |nil=>intro d k n p _;exact⟨d,rfl,n,p⟩
  |cons h l s=>
   intro d k n p N;rw[bO]at N;have P:∃j,j<=f/\d[j]? =some none:=by
    by_cases c:∃j,j<=f/\d[j]? =some none
    .exact c
    .exfalso
     have z:d.toList.filterMap id=(d.toList.map λo=>o.getD 0):=by
      have:∀l:List (Yo),(∀o∈l,o≠none)->l.filterMap id=l.map λo=>o.getD 0:=by
       intro l;induction l with
       |nil=>intro _;rfl
       |cons o l s=>
        intro F;cases o with
        |none=>exact absurd rfl (F none (.head _))
        |some y=>simp[s λo t=>F o (.tail _ t)]
      refine this _ λo t e=>?_;subst e;let⟨i,G,e⟩:=bS t;refine c ⟨i,by simp at G;omega,?_⟩;rw[<-cO,au G,e]
     have Q:=p.length_eq;rw[z,az,cG,cW,n]at Q;omega
   let⟨j,H,A⟩:=P;let⟨m,V,C⟩:=cover L h H;let⟨r,R,E⟩:=El n H A m (SetTable.turns f) _ _ C (by unfold SetTable.turns;omega);rw[dg];have e1:((some (d,k):Option (Array (Yo)×Nat))>>=λx=>(SetTable.layClean.free f x.1 (SetTable.turns f) (SetTable.bits h%(f+1)) (SetTable.bits h))>>=λj=>pure (x.1.setIfInBounds j (some x.2),x.2+1))=some (d.setIfInBounds r (some k),k+1):=by
    simp[R]
   rw[e1];have S:((d.setIfInBounds r (some k)).toList.filterMap id).Perm (List.range (k+1)):=by
    rw[Array.toList_setIfInBounds];refine(xX (by rw[cO];exact E)).trans ?_;rw[iU];exact(p.cons k).trans (List.perm_append_singleton _ _).symm
   let⟨u,a,b,c⟩:=s (d.setIfInBounds r (some k)) (k+1) (by simpa using n) S (by omega);rw[show k+(h::l).length=k+1+l.length by simp;omega];exact⟨u,a,b,c⟩
 have T:((Array.replicate (f+1) (none:Yo)).toList.filterMap id).Perm (List.range 0):=by
  have:(Array.replicate (f+1) (none:Yo)).toList.filterMap id=[]:=by
   rw[List.filterMap_eq_nil_iff];intro a I;simp at I;rw[I];rfl
  rw[this];exact m6 _
 let⟨u,a,b,c⟩:=v q.toList (Array.replicate (f+1) none) 0 (by simp) T (by simpa using M);refine⟨u,?_,b,by simpa using c⟩;rw[a];rfl
theorem R8{led plain:Bool}(g:TP mask)(h:hs.size<=mask):∃t b,SetTable.laid mask finger moves led plain hs=some (t,b)/\b.toList.Perm (List.range hs.size)/\t.place.size=hs.size:=by
 let⟨a,k,m,d⟩:=HQ g h;unfold SetTable.laid;rw[k];refine⟨_,_,rfl,?_,?_⟩
 .have e:(((List.range (mask+1)).filterMap λj=>(a.getD j none).map (j,·)).map (·.2))=a.toList.filterMap id:=by
   rw[vg];have:a.toList=(List.range (mask+1)).map λj=>a.getD j none:=by
    apply gw;intro i;rw[a_,cO];by_cases c:i<mask+1
    .rw[gJ c]
     have:i<a.size:=by omega
     simp[Array.getD,this]
    .rw[aO (by simpa using c)]
     simp;omega
   rw[this,vh];congr 1;funext j;simp only[Function.comp,Option.map_map,id];cases a.getD j none<;>rfl
  simp only;rw[e];exact d
 .have:=d.length_eq
  rw[cW]at this;rw[<-this];simp only[aW,az];have:a.toList=(List.range (mask+1)).map λj=>a.getD j none:=by
   apply gw;intro i;rw[a_,cO];by_cases c:i<mask+1
   .rw[gJ c]
    have:i<a.size:=by omega
    simp[Array.getD,this]
   .rw[aO (by simpa using c)]
    simp;omega
  rw[this,vh];have:∀l:X8,(l.filterMap λj=>(a.getD j none).map (j,·)).length=(l.filterMap (id∘λj=>a.getD j none)).length:=by
   intro l;induction l with
   |nil=>rfl
   |cons j l f=>
    rw[jX,jX];simp only[Function.comp,id];cases a.getD j none with
    |none=>exact f
    |some y=>simp only[p6,bO];rw[f]
  exact this _
def yQ(d:D):Prop:=d.kd=some 2/\∃l,d= .vV l/\∀e∈l,e.kd=some 0\/e.kd=some 1
section
variable{s:Yy}
theorem PJ(r:Rd w g a v d)(h:d.kd=some 0\/d.kd=some 1):(∃i t,v= .int i t)\/∃x t,v= .str x t:=by
 match d,h with
 | .int i,_=>obtain⟨t,rfl⟩:=r.vX;exact .inl ⟨i,t,rfl⟩
 | .str i,_=>obtain⟨t,rfl⟩:=r.wF;exact .inr ⟨i,t,rfl⟩
 | .vV l,h=>exfalso;rcases h with h|h<;>(have:=(j_ h).1;omega)
theorem Dl:∀{b:Yc} {l:Yb},wR w g f b l->(∀e∈l,e.kd=some 0\/e.kd=some 1)->∀v∈b,(∃i t,v= .int i t)\/∃x t,v= .str x t
 |_,_,.nil,_,v,a=>nomatch a
 |_,_,.cons r h,c,v,a=>by
  rcases aG.mp a with rfl|a
  .exact PJ r (c _ (.head _))
  .exact Dl h (λe d=>c e (.tail _ d)) v a
theorem yQ.at(h:yQ d)(r:Rd w g f v d)(sub:∀a o,g a=some o->s.heap.get? a=some o):∃a b n,v= .ref a/\s.heap.get? a=some (v9 "tuple" b n)/\∀v∈b,(∃i t,v= .int i t)\/∃x t,v= .str x t:=by
 obtain⟨_,l,rfl,c⟩:=h;cases r with
 |vV q r=>
  let⟨n,q⟩:=q;exact⟨_,_,n,rfl,sub _ _ q,λv e=>Dl r c v (by simpa using e)⟩
theorem Po(h:yQ d)(r:Rd w g C v d)(sub:∀a o,g a=some o->s.heap.get? a=some o)(q:∀b,Q b s):wpAny (model pw w) A (hashByValue 8 v) Q E s:=by
 obtain⟨a,f,n,rfl,k,l⟩:=h.at r sub;have m:s.TypeIs (.ref a) "tuple":=⟨_,k,rfl⟩;unfold hashByValue;refine Z (cL m jl.lookup ?_);dsimp only;refine Z (dX k rfl ?_);apply Z;show wpAny _ _ (forIn f _ _) _ _ s;rw[<-kG];refine iK _ (λc r j=>j=s/\∀v∈c,(∃i t,v= .int i t)\/∃x t,v= .str x t) _ ?_ ?_ _ _ ⟨rfl,λv p=>l v (by simpa using p)⟩
 .rintro v c r j ⟨rfl,e⟩
  rcases e v (.head _)with⟨i,t,rfl⟩|⟨x,t,rfl⟩
  .refine Z (U ?_)
   simp only[c8,aA,bz];exact U ⟨rfl,λu y=>e u (.tail _ y)⟩
  .refine Z (U ?_)
   simp only[iB,cE];exact U (U (q _))
 .rintro⟨z,G⟩ j ⟨rfl,_⟩
  cases z with
  |none=>exact U (q _)
  |some b=>exact U (q _)
theorem GD(h:yQ d)(r:Rd w g C v d)(sub:∀a o,g a=some o->s.heap.get? a=some o)(q:Q false s):wpAny (model pw w) A (ofAClassStatement 8 v) Q E s:=by
 obtain⟨a,l,n,rfl,m,p⟩:=h.at r sub;have y:s.TypeIs (.ref a) "tuple":=⟨_,m,rfl⟩;unfold ofAClassStatement;refine Z (d8 y ?_);dsimp only;have e:("tuple"=="tuple")=true:=by decide
 rw[e];simp only[cE];refine Z (U ?_);simp only[c8,aA,bz];refine Z (dX m rfl ?_);dsimp only;apply Z;rw[<-kG];refine iK _ (λc r f=>r.1=none/\f=s/\∀v∈c,(∃i t,v= .int i t)\/∃x t,v= .str x t) _ ?_ ?_ _ _ ⟨rfl,rfl,λv z=>p v (by simpa using z)⟩
 .rintro v c r f ⟨j,rfl,b⟩
  rcases b v (.head _)with⟨i,t,rfl⟩|⟨x,t,rfl⟩
  .refine Z (U ?_)
   simp only[aA,bz];exact U ⟨rfl,rfl,λu k=>b u (.tail _ k)⟩
  .refine Z (U ?_)
   simp only[aA,bz];exact U ⟨rfl,rfl,λu k=>b u (.tail _ k)⟩
 .rintro⟨F,G⟩ f ⟨j,rfl,_⟩
  simp only at j;subst j;exact U q
theorem yQ.pl(h:yQ d):d.pl 8=true/\d.hk=true:=by
 obtain⟨h,l,rfl,_⟩:=h;let⟨_,a,b⟩:=j_ h;exact⟨by simpa[D.pl]using b,by simpa[D.hk]using a⟩
theorem Ly(h:yQ d)(r:Rd w g n v d)(sub:∀a o,g a=some o->s.heap.get? a=some o)(p:∀y∈t,∃e,yQ e/\Rd w g n y e)(q:Q false s):wpAny (model pw w) A (searchCouldBeSeen v t) Q E s:=by
 unfold searchCouldBeSeen;apply Z;refine iK _ (λf r j=>r.1=none/\j=s/\∀y∈f,∃e,yQ e/\Rd w g n y e) _ ?_ ?_ _ _ ⟨rfl,rfl,p⟩
 .rintro y f x j ⟨k,rfl,c⟩
  let⟨e,i,l⟩:=c y (.head _);obtain⟨a,_,_,rfl,_⟩:=h.at r sub;obtain⟨b,_,_,rfl,_⟩:=i.at l sub;dsimp only;split
  .exact U ⟨rfl,rfl,λu m=>c u (.tail _ m)⟩
  .refine Z (BU 8 8 sub r h.pl.1 h.pl.2 (ao _) ?_)
   simp only[c8,aA,bz];refine Z (BU 8 8 sub l i.pl.1 i.pl.2 (ao _) ?_);simp only[c8,aA,bz];refine Z (GD h r sub ?_);simp only[aA,bz];refine Z (GD i l sub ?_);simp only[aA,bz];exact U ⟨rfl,rfl,λu m=>c u (.tail _ m)⟩
 .rintro⟨z,C⟩ j ⟨k,rfl,_⟩
  simp only at k;subst k;exact U q
end
def XG(a:Array (Int×Yx))(i:Nat):Int:=(a[i]?.map (·.1)).getD 0
theorem RN{t:YE}(h:TP t.mask):t.gaveWay=false:=by
 unfold SetTable.gaveWay;rcases h with h|h<;>rw[h]<;>rfl
theorem C5(hr:we 8 A)(I:s.heap.get? a=some (xK h ep t))(q:w5 f0 t h.size)(hm:TP t.mask)(L:zI w g ρ h.toList P)(R:∀d∈P,yQ d)(S:yQ l)(r:Rd w g ρ x l)(sub:∀a o,g a=some o->s.heap.get? a=some o)(k1:l∈P->Q (.there none) s)(k2:∀j,j∉t.place.toList->Q (.free j false) s):∀(c:Nat) (f:Option SetTable.Probe) (p:SetTable.Probe) (N:Nat),f.getD (t.probeStart (wD w l))=p->p.dummy=none->t.slot (Ai t N p).j= .empty->N<10*SetTable.turns t.mask->N<c->wpAny (model pw w) A (setSearchFrom a x (wD w l) true c f) Q E s
 |0,f,p,N,hp,hd,G,hN,hf=>by omega
 |c+1,f,p,N,hp,hd,G,hN,hf=>by
  unfold setSearchFrom;refine Z (dP I rfl q.fits ?_);dsimp only;rw[RN hm,hp];simp only[aA,bz];rcases KL q (10*SetTable.turns t.mask) p N hd G hN with⟨j,e,hj⟩|⟨j,i,M,hM,e,hs,hi⟩
  .have T:t.probe (XG h) (wD w l) p=some (.empty j none):=e
   erw[T]
   exact U (k2 j hj)
  .have T:t.probe (XG h) (wD w l) p=some (.candidate j i (Ai t (M+1) p)):=e
   erw[T]
   dsimp only;have u:i<h.size:=by
    have:=(qR.mp hi).1;rw[q.size]at this;exact this
   have X:h.toList[i]? =some h[i]:=by rw[cO];simp[u]
   let⟨d,Y,rd,hh⟩:=L.get X;have v:d∈P:=aH Y;have z:=R d v;have m:wpAny (model pw w) A (do
    let some (_,y):=h[i]? |unsupported "internal:set-entry"
    let k <-holding [y] (eqBool y x)
    let(a0,_,t') <-setState a
    if true&&k then return .there none
    let some same:=t'.sameMemory t.moves t.mask|unsupported "set.changed-during-lookup:is-the-new-block-at-the-old-address"
    let n <-match(if same then t'.slot j else .empty)with
     | .live H=>match a0[H]? with
      |some (_,y')=>do pure (if<-isSame y' y then some H else none)
      |none=>pure none
     |_=>pure none
    match n with
    |none=>rule "set.search.anew";setSearchFrom a x (wD w l) true c none
    |some H=>if k then return .there (some H)else setSearchFrom a x (wD w l) true c (some (Ai t (M+1) p))) Q E s:=by
    have C:h[i]? =some h[i]:=by simp[u]
    rw[C];dsimp only;refine Z (aC ?_);refine CP (k:=0) (m:=0) hr sub rd r (tF z.pl.1 (by omega)) (tF S.pl.1 (by omega)) λb hb=>?_;refine Z (dP I rfl q.fits ?_);cases b with
    |true=>
     have e2:=hb.mp rfl;simp only[q8,cE];exact U (k1 (e2▸v))
    |false=>
     simp only[qL,aA,bz];have b0:t.sameMemory t.moves t.mask=some true:=by simp[SetTable.sameMemory]
     rw[b0];simp only[cE];rw[hs];simp only[C];let⟨ay,_,_,V,_⟩:=z.at rd sub;rw[V];refine Z (wpAny_isSame_ref_self ?_);simp only[cE];refine Z (U ?_);simp only;obtain⟨W,rfl⟩:∃W,N=(M+1)+W:=⟨N-(M+1),by omega⟩;rw[CV]at G;exact C5 hr I q hm L R S r sub k1 k2 c (some (Ai t (M+1) p)) _ W rfl (Dr hd) G (by omega) (by omega)
   split
   .refine Z (Ly S r sub ?_ ?_)
    .intro y V
     obtain⟨e,F,rfl⟩:=aa.mp V;have c0:e∈h.toList:=by
      rw[Array.mem_toList_iff]at F⊢;exact(Array.mem_filter.mp F).1
     let⟨d2,d0,e0,_⟩:=L.mem e c0;exact⟨d2,R d2 d0,e0⟩
    .simp only[aA,bz]
     exact m
   .exact m
structure TM(t:YE)(n:Nat):Prop where
 TG:TP t.mask
 few:t.mask=7->n<=4
 most:n<=14
theorem LF(q:s.heap.get? a=some (xK b F t))(r:w5 m t b.size)(u:b.size=5)(G:zI w g H b.toList I)(k:∀i d h f,Heap.SameBut a s.heap i->i.get? a=some (xK d (F+1) h)->w5 m h d.size->h.mask=31->d.size=5->zI w g H d.toList f->f.Perm I->Q () {s with heap:=i}):wpAny (model pw w) A (setRelay a (SetTable.grown b.size)) Q E s:=by
 have v:SetTable.sizeAbove (SetTable.grown b.size)=32:=by rw[u];decide
 unfold setRelay;refine Z (dP q rfl r.fits ?_);dsimp only;rw[v,J (by rw[bA];omega)];let⟨h,c,e,x,y⟩:=R8 (mask:=31) (finger:=t.finger) (moves:=t.movedTo 31) (led:=t.led) (plain:=t.plain) (.inr rfl) (hs:=b.map (·.1)) (by rw[qO,u];decide);let⟨L,z,M,C⟩:=Eg e;rw[qO]at x y;have N:t.relaid (b.map (·.1)) (SetTable.grown b.size)=some (h,c):=by unfold SetTable.relaid;rw[v];exact e
 have j:(c.filterMap (b[·]?)).toList.Perm b.toList:=by
  rw[Array.toList_filterMap];exact(x.filterMap _).trans (by rw[filterMap_getElem?_range])
 have l:(c.filterMap (b[·]?)).size=b.size:=by rw[<-cG,j.length_eq,cG]
 rw[N];apply Z;show wpAny _ _ (if((c.filterMap (b[·]?)).size !=b.size)=true then unsupported "internal:set-table-lost-an-element" else pure (c.filterMap (b[·]?),h)) _ _ _;rw[l,eS,J cD];apply U;dsimp only;refine pN q (by omega) λi P n=>?_;let⟨f,p,o⟩:=G.perm j;refine k i _ h f P n ⟨?_,L,z,M.trans r.led⟩ C (by omega) o p;simp only[SetTable.fits,SetTable.fill,z,C,y,l,bN,gD,aM];exact⟨trivial,by simp;omega⟩
theorem I7(hr:we 8 A)(L:s.heap.get? a=some (xK f ep t))(ga:g a=none)(M:w5 z t f.size)(l:TM t f.size)(hE:zI w g ρ f.toList V)(hF:∀d∈V,yQ d)(hx:yQ u)(r:Rd w g ρ x u)(sub:∀a o,g a=some o->s.heap.get? a=some o)(hz:f.size+1<=14)(h:∀(b:Bool) R m b0 t' C,Heap.SameBut a s.heap R->R.get? a=some (xK m b0 t')->w5 z t' m.size->TM t' m.size->m.size<=f.size+1->zI w g ρ m.toList C->(u∈V/\C=V)\/C.Perm (V++[u])->Q b {s with heap:=R}):wpAny (model pw w) A (setAddHashed a x (wD w u)) Q E s:=by
 obtain⟨S,m0,n,rfl,c0,_⟩:=hx.at r sub;have o0:S≠a:=by
  rintro rfl;have e:Value.type "set"=Value.type "tuple":=aU Obj.cls (dI (L.symm.trans c0));injection e with e
  exact absurd e (by decide)
 unfold setAddHashed setAddHashedIn;refine aC (Z (dP L rfl M.fits ?_));dsimp only;have hb:byScan (.ref S) f=false:=rfl;rw[hb];simp only[aA,bz];let⟨N,hN,he⟩:=HY M l.TG (by rcases l.TG with e|e;(have:=l.few e;omega);(have:=l.most;omega)) (wD w u);have p0:10*SetTable.turns t.mask<100000:=by unfold SetTable.turns;rcases l.TG with e|e<;>omega
 apply Z;unfold setSearch;refine C5 hr L M l.TG hE hF hx r sub ?_ ?_ 100000 none (t.probeStart (wD w u)) N rfl rfl he hN (by omega)
 .intro hm
  apply U;have e:s={s with heap:=s.heap}:=by cases s;rfl
  rw[e];exact h false s.heap f ep t V (kU a s.heap) L M l (kT _) hE (.inl ⟨hm,rfl⟩)
 .intro j hj
  dsimp only;refine Z (dP L rfl M.fits ?_);dsimp only;let⟨p1,p2,p3,p4,T⟩:=M.put hj;generalize n0:t.put j=P at p1 p2 p3 p4 T;let⟨t1,y⟩:=P;dsimp only at p1 p2 p3 p4 T⊢;have i:t1.fill=f.size+1:=by simp[SetTable.fill,p2,p4]
  have I:f.size+1<=t1.mask:=by rw[T];rcases l.TG with e|e;(have:=l.few e;omega);omega
  have F:w5 z t1 (f.size+1):=⟨by simp[SetTable.fits,p4,i,I],p1,p2,p3⟩;have k:=sW f y (wD w u,Value.ref S);have G:(SetTable.insertAt f y (wD w u,Value.ref S)).size=f.size+1:=by
   rw[<-cG,k.length_eq];simp
  rw[oM]at k;let⟨d0,q1,W⟩:=(hE.append (.cons r .nil)).perm k;have p:∀v,w5 z v (f.size+1)->v.mask=t.mask->v.fill=f.size+1->wpAny (model pw w) A (do
   storeSet a (SetTable.insertAt f y (wD w u,Value.ref S)) v
   if(
    !false&&v.tooFull)=true then do
    setRelay a (SetTable.grown (f.size+1))
    pure true
    else pure true) Q E s:=by
   intro v X H Y;refine Z (pN L (by omega) λR sb a0=>?_);by_cases c:(!false&&v.tooFull)=true
   .rw[B c]
    have q:v.mask*3<=(f.size+1)*5:=by simpa[SetTable.tooFull,Y]using c
    have h7:t.mask=7:=by rcases l.TG with e|e;exact e;(rw[H,e]at q;omega)
    have h5:f.size+1=5:=by rw[H,h7]at q;have:=l.few h7;omega
    rw[show SetTable.grown (f.size+1)=SetTable.grown (SetTable.insertAt f y (wD w u,Value.ref S)).size by rw[G]];refine Z (LF (s:={s with heap:=R}) a0 (by rw[G];exact X) (by omega) W λh2 e0 t3 f0 g0 h0 i0 j0 q0 k0 q3=>?_);exact U (h true h2 e0 _ t3 f0 (sb.trans g0) h0 i0 ⟨.inr j0,λe=>by omega,by omega⟩ (by omega) k0 (.inr (q3.trans q1)))
   .rw[J c]
    have l0:¬v.mask*3<=(f.size+1)*5:=by simpa[SetTable.tooFull,Y]using c
    exact U (h true R _ _ v d0 sb a0 (by rw[G];exact X) ⟨by rw[H];exact l.TG,λe=>by rw[e]at l0;omega,by omega⟩ (by omega) W (.inr q1))
  by_cases c:t1.plain=true
  .rw[B c]
   refine Z (Po hx r sub λb=>?_);cases b with
   |true=>exact p _ F T i
   |false=>exact p _ (F.plain false) T i
  .rw[J c]
   refine Z (U ?_);exact p _ F T i
def Gh(w:Yz)(A:YA)(g:YH)(k:X_)(j:Bool)(q:D->Prop)(I:YE->Nat->Prop)(n:Nat)(r:Bool):Prop:=
 ∀(s:Yy) (a:YB) (f:Array (Int×Yx)) (u:Nat) (t:YE) (h:Yb) (x:Yx) (i:D) (Q:Bool->Yy->Prop) (E:X0),
  s.heap.get? a=some (xK f u t)->g a=none->(∀a o,g a=some o->s.heap.get? a=some o)->w5 j t f.size->I t f.size->zI w g k f.toList h->(∀d∈h,q d)->q i->Rd w g k x i->f.size+1<=n->
  (∀(b:Bool) l c p m e,Heap.SameBut a s.heap l->l.get? a=some (xK c p m)->w5 j m c.size->I m c.size->c.size<=f.size+1->zI w g k c.toList e->
   (i∈h/\e=h)\/((r=true->i∉h)/\e.Perm (h++[i]))->Q b {s with heap:=l})->wpAny (model pw w) A (setAddHashed a x (wD w i)) Q E s
theorem Ds{w:Yz}{A:YA}{g:YH}{u:X_}{f:Bool}{K:Type}[DecidableEq K](S:Gg w K):Gh w A g u f (λd=>∃k,d=S.em k) (λ_ _=>True) 4000 true:=by
 intro s a M N t P x R Q E v T sub y V o z C r W h;obtain⟨k,rfl⟩:=C;refine HE S v y o z r (by omega) λb F i j G l H m n e c=>h b F i j G l H m n trivial ?_ e ?_
 .have I:=o.length
  have L:=e.length;rw[cG]at I L;rcases c with⟨_,rfl⟩|⟨_,p⟩
  .omega
  .have:=p.length_eq;simp at this;omega
 .exact c.imp id λq=>⟨λ_=>q.1,q.2⟩
theorem MX(o:we 8 A):Gh w A g N M yQ TM 14 false:=by
 intro s a P R t S x T Q E p u sub v y z C F r G h;exact I7 o p u v y z C F r sub G λb H d f I i L j k l m n c=>h b H d f I i L j k l m n (c.imp id λq=>⟨(λe=>by cases e),q⟩)
theorem Gu(ok:Gh w A.in1 g ρ a0 el I h0 nd)(b0:∀d,el d->d.pl 20=true/\d.hk=true)(hr:we 3 A)(r0:wR w g ρ f h)(u:∀d∈h,el d)(f0:h.length<=h0)(gS:g S=none)(gI:g m=none)(x:S≠m)(c0:S≠l)(E:l≠m):∀(k i:Nat) (s:Yy) (r:Array (Int×Yx)) (P:Nat) (t:YE) (C:Yb),f.length-i=k->i<=f.length->s.heap.IsListIter m l i->s.heap.IsList l f.toArray->s.heap.get? S=some (xK r P t)->(∀a o,g a=some o->s.heap.get? a=some o)->w5 a0 t r.size->I t r.size->zI w g ρ r.toList C->(∀d,d∈C↔d∈h.take i)->(nd=true->C.Nodup)->r.size<=i->(∀(T:YI) (V:Nat) y i0 t' F,(∀b o,b≠S->b≠m->s.heap.get? b=some o->T.get? b=some o)->T.get? S=some (xK y i0 t')->w5 a0 t' y.size->zI w g ρ y.toList F->(∀d,d∈F↔d∈h)->(nd=true->F.Nodup)->y.size<=f.length->R (.ok (.ret .none)) {s with heap:=T,toks:=V})->codeAny (model pw w) A (.builtin "set.update.loop" ⟨[.ref S,.ref m],[]⟩) R s
 |0,i,s,r,P,t,C,hk,hi,G,hl,hS,sub,hT,hI,hE,hm,hn,hz,hR=>by
  obtain rfl:i=f.length:=by omega
  apply b8 kK;rw[bJ gU _];show wpAny _ A.in1 (pyNext (.ref m)>>=_) _ _ s;have W:=qE (prog:=pw) (w:=w) (A:=A.in1) hr.in1.handled m l E f.toArray;rw[aW]at W;refine Z (W.done s _ _ ⟨G,hl⟩ λT V j=>?_);refine U (hR T V r P t C (λb o _ Q e=>j b o (by simpa using Q) e) (j _ _ (by simpa using x) hS) hT hE ?_ hn hz);have:h.take f.length=h:=dG (by rw[r0.length];exact ao _);intro d;rw[hm,this]
 |k+1,i,s,r,P,t,C,hk,hi,G,hl,hS,sub,hT,hI,hE,hm,hn,hz,hR=>by
  have H:i<f.length:=by omega
  apply b8 kK;rw[bJ gU _];show wpAny _ A.in1 (pyNext (.ref m)>>=_) _ _ s;have W:=qE (prog:=pw) (w:=w) (A:=A.in1) hr.in1.handled m l E f.toArray;rw[aW]at W;refine Z (W.item i s _ _ H ⟨G,hl⟩ λv X V hP j0 j=>?_);have L:i<h.length:=by rw[<-r0.length];exact H
  let⟨v',k0,rv⟩:=r0.get (au L);have:v=v':=by rw[List.getElem?_toArray,k0]at hP;exact(dI hP).symm
  subst this;have d0:h[i]∈h:=bT L;let⟨hp,hh⟩:=b0 _ (u _ d0);have ng:∀b o,g b=some o->b≠m:=by rintro b o e rfl;rw[gI]at e;cases e
  have l0:∀b o,g b=some o->b≠S:=by rintro b o e rfl;rw[gS]at e;cases e
  have z:∀a o,g a=some o->X.get? a=some o:=λa o e=>j a o (by simpa using ng a o e) (sub a o e);have m0:X.get? S=some (xK r P t):=j _ _ (by simpa using x) hS;show wpAny _ A.in1 (holding [v] (setAdd S v)>>=_) _ _ _;refine Z (aC ?_);unfold setAdd;apply aC;refine Z (tM 20 (s:={s with heap:=X,toks:=V}) z rv hp hh (by have:=hr.units;show A.units+1+20<9800;omega) ?_);have n0:(h.take (i+1))=h.take i++[h[i]]:=fz L;refine ok {s with heap:=X,toks:=_} S r P t C v h[i] _ _ m0 gS z hT hI hE (λd hd=>u d (gz ((hm d).mp hd))) (u _ d0) rv (by omega) λb h2 o0 p0 t2 q0 sb s0 t0 u0 b1 w0 c=>?_;have n:∀b o,b≠S->b≠m->s.heap.get? b=some o->h2.get? b=some o:=λb o Q ni e=>by rw[sb.2 b Q];exact j b o (by simpa using ni) e
  have g0:∀a o,g a=some o->h2.get? a=some o:=λa o e=>n a o (l0 a o e) (ng a o e) (sub a o e);have e0:=W.frame (i+1) X h2 j0 λb Y o e=>by
   rw[sb.2 b (by simp at Y;rcases Y with rfl|rfl;exact x.symm;exact c0.symm)];exact e
  refine U ⟨cQ gU _,Gu ok b0 hr r0 u f0 gS gI x c0 E k (i+1) _ o0 p0 t2 q0 (by omega) H e0.1 e0.2 s0 g0 t0 u0 w0 ?_ ?_ (by omega) λh3 x0 y0 z0 t3 a1 N=>hR h3 x0 y0 z0 t3 a1 λb o Q ni e=>N b o Q ni (n b o Q ni e)⟩
  .intro d
   rw[n0,aB,aj,<-hm d];rcases c with⟨c1,rfl⟩|⟨_,p⟩
   .exact⟨.inl,λq=>q.elim id λe=>e▸c1⟩
   .rw[p.mem_iff,aB,aj]
  .intro M
   rcases c with⟨c1,rfl⟩|⟨c1,p⟩
   .exact hn M
   .rw[p.nodup_iff]
    exact b6.mpr ⟨hn M,bx.mpr ⟨by simp,cF⟩,λa ha b Y e=>by rw[aj]at Y;subst Y;subst e;exact c1 M ha⟩
def xM(w:Yz):Bool:=!w.params.followText "set-order"
theorem Bt(a:Yx)(h:Q₁ (.ref s.heap.objs.size) {s with heap:=s.heap.push (xK #[] 0 (.fresh 0 0 (xM w)))}):codeAny (model pw w) A (.call (.builtin "set.__new__") ⟨[.type "set",a],[]⟩) (wants Q₁ E) s:=by
 apply pZ;show wpAny _ A.in1 (do checkBuiltinCall "set.__new__" ⟨[.type "set",a],[]⟩;again (.builtin "set.__new__" ⟨[.type "set",a],[]⟩)) _ _ s;refine Z (kR (PySem.F.newCall_set_1 a) (U ⟨cQ qm _,b8 PySem.F.entry_set_new ?_⟩));rw[bJ qm _];unfold Builtin.«set.__new__» Builtin.Frozenset.newClass;have b:=sub_set_self;let⟨c,g,d,e,os⟩:=s;dsimp only
 wp_walk
 refine jA (U ?_);dsimp only;simp only[newObj];refine Z (wpAny_alloc (U ?_));exact U h
set_option maxHeartbeats 3200000 in
theorem JK(hr:we 12 A)(ok:∀A',we 8 A'->Gh w A' g ρ (xM w) el I c0 nd)(d0:∀d,el d->d.pl 20=true/\d.hk=true)(hI:I (.fresh 0 0 (xM w)) 0)(G:GS w g R ρ σ s.heap)(hl:s.heap.IsList l f.toArray)(r0:wR w g ρ f p)(f0:∀d∈p,el d)(V:p.length<=c0)(h:∀(n:YI) (F:Nat) (j:Array (Int×Yx)) (x:Nat) (t:YE) (k:Yb),(∀b o,s.heap.get? b=some o->n.get? b=some o)->n.get? s.heap.objs.size=some (xK j x t)->w5 (xM w) t j.size->zI w g ρ j.toList k->(∀d,d∈k↔d∈p)->(nd=true->k.Nodup)->j.size<=f.length->Q (.ref s.heap.objs.size) {s with heap:=n,toks:=F}):wpAny (model pw w) A (call (.type "set") [.ref l]) Q E s:=by
 let⟨c,tl,k0⟩:=fD.mro;have i0:=fD.made;have l0:=fD.sub;refine uQ (pZ ?_);show wpAny _ _ (callAny (.type "set") _) _ _ _;refine U ⟨Code.quiet_builtin _ (by decide+kernel),b8 PySem.F.entry_type_call ?_⟩;rw[Around.under_plain (weight_type_call_type "set" [.ref l] []) rfl];have h1:=fD.notType;have h2:=fD.canCreate;have p0:=PySem.F.typeCall_set_1 (.ref l)
 repeat (any_goals (first|assumption|wp_step))
 refine sM (Bt (.ref l) (E:=E) (Q₁:=λH u=>H= .ref s.heap.objs.size/\u={s with heap:=s.heap.push (xK #[] 0 (.fresh 0 0 (xM w)))}) ⟨rfl,rfl⟩) λr u y=>?_;cases r with
 |error e=>exact y
 |ok fl=>
  cases fl with
  |ret H=>
   obtain⟨rfl,rfl⟩:=y;have hS:(s.heap.push (xK #[] 0 (.fresh 0 0 (xM w)))).get? s.heap.objs.size=some (xK #[] 0 (.fresh 0 0 (xM w))):=aD _ rfl;have hT:Shared.TypeIs {s with heap:=s.heap.push (xK #[] 0 (.fresh 0 0 (xM w)))} (.ref s.heap.objs.size) "set":=⟨_,hS,rfl⟩;have q0:=fD.init.lookup;have s0:=fD.init.bind (.ref s.heap.objs.size)
   repeat (any_goals (first|assumption|wp_step))
   refine sM (codeAny_call_builtin (R:=wants (λr v=>r= .none/\∃n F j x t k,v={s with heap:=n,toks:=F}/\(∀b o,s.heap.get? b=some o->n.get? b=some o)/\n.get? s.heap.objs.size=some (xK j x t)/\w5 (xM w) t j.size/\zI w g ρ j.toList k/\
    (∀d,d∈k↔d∈p)/\(nd=true->k.Nodup)/\j.size<=f.length) E) fD.init.plain PySem.F.entry_set_init (check_set_init_1 hT ?_)) λW v i=>?_
   .let⟨ol,L,M,nl,N⟩:=hl
    let⟨m0,z,j0,q⟩:=ol;simp only at M N;subst M;subst N;have X:(s.heap.push (xK #[] 0 (.fresh 0 0 (xM w)))).get? l=some {cls:=.type "list",dict:=z,data:=.seq f.toArray nl,slots:=q}:=ak _ L;have n0:=PySem.F.sub_list_set;have o0:=PySem.F.sub_list_frozenset;have t0:(Value.type "list"==Value.type "dict")=false:=by decide
    have P:(s.heap.push (xK #[] 0 (.fresh 0 0 (xM w)))).IsList l f.toArray:=⟨_,X,rfl,nl,rfl⟩;unfold Builtin.«set.__init__» noKeywords Builtin.Frozenset.updateFrom;generalize g0:pyIter=PI
    wp_walk
    subst g0;apply jj P;refine Z (m7 ?_);have S:l<s.heap.objs.size:=aJ L;have Y:l≠(s.heap.push (xK #[] 0 (.fresh 0 0 (xM w)))).objs.size:=by
     rw[fQ];exact aQ (fy S)
    have gn:g s.heap.objs.size=none:=G.zZ (ju _);have h0:g (s.heap.push (xK #[] 0 (.fresh 0 0 (xM w)))).objs.size=none:=by
     cases e:g (s.heap.push (xK #[] 0 (.fresh 0 0 (xM w)))).objs.size with
     |none=>rfl
     |some o=>
      have:=aJ (G.sub _ _ e);rw[fQ]at this;exact absurd (j5 (dK _) this) (gH _)
    have a0:((s.heap.push (xK #[] 0 (.fresh 0 0 (xM w)))).push {cls:=.type "list_iterator",data:=.fields #[.ref l,.int 0 0]}).get? s.heap.objs.size=some (xK #[] 0 (.fresh 0 0 (xM w))):=ak _ hS;have m:∀b o,s.heap.get? b=some o->((s.heap.push (xK #[] 0 (.fresh 0 0 (xM w)))).push {cls:=.type "list_iterator",data:=.fields #[.ref l,.int 0 0]}).get? b=some o:=λb o e=>ak _ (ak _ e);refine Gu (ok _ (hr.mono (by decide:11<=12)).in1.in1.in1) d0 (hr.mono (by decide:5<=12)).in1.in1 r0 f0 V gn h0 (by rw[fQ];exact aQ (dK _)) (fq S) Y (f.length-0) 0 {s with heap:=(s.heap.push (xK #[] 0 (.fresh 0 0 (xM w)))).push {cls:=.type "list_iterator",data:=.fields #[.ref l,.int 0 0]}} #[] 0 _ [] (by omega) (bB _)
     ⟨_,aD _ rfl,rfl,rfl⟩ (P.push _) a0 (λa o e=>m _ _ (G.sub a o e)) (w5.fresh _) hI .nil (by simp) (λ_=>cF) (by simp) λn F j x t k b0 e1 e2 e3 e4 e5 e6=>?_
    apply U;show wpAny _ _ (ret Value.none) _ _ _;refine U ⟨rfl,n,F,j,x,t,k,rfl,λb o e=>?_,e1,e2,e3,e4,e5,e6⟩;have T:=aJ e;exact b0 b o (aQ T) (by rw[fQ];exact aQ (fy T)) (m b o e)
   .cases W with
    |error e=>exact i
    |ok C=>
     cases C with
     |ret r=>
      obtain⟨rfl,n,F,j,x,t,k,rfl,e0,e1,e2,e3,e4,e5,e6⟩:=i
      repeat (any_goals (first|assumption|wp_step))
      exact h _ _ j x t k e0 e1 e2 e3 e4 e5 e6
     |_=>exact i.elim
  |_=>exact y.elim
theorem yZ:Slot "set_iterator" "__next__" "set_iterator.__next__":=
 .of (owner:="set_iterator") (n:="__next__") (by rw[typeLookup_type,builtinLookup_eq_fast];kernel_rfl) (by decide+kernel) (by decide+kernel) (by decide+kernel)
  (by first|exact .inl (by decide+kernel)|exact .inr (by decide+kernel)) (by rw[m8];kernel_rfl)
theorem Ay:entryFor table "set_iterator.__next__"=some Builtin.«set_iterator.__next__»:=entryFor_of_tree (by kernel_rfl)
theorem A1(a:Yx):argsOk "set_iterator.__next__" ⟨[a],[]⟩:=by unfold argsOk;kernel_rfl
theorem Ax:∀{l:List a} {i:Nat} (h:i<l.length),(l[i]::l.eraseIdx i).Perm l
 |x::l,0,h=>.refl _
 |x::l,i+1,h=>by
  have:=Ax (by simpa using h);rw[rX,List.getElem_cons_succ];exact(List.Perm.swap _ _ _).trans (this.cons x)
theorem Fi(a:n≠0)(h:∀i d,i<n->Q i {s with drawn:=d}):wpAny M A (choose b n) Q E s:=by
 intro e p c;unfold choose;rw[Sem.wp_choose];refine⟨a,?_⟩;rw[Sem.wp_pure];exact h _ _ (qI _ (Nat.pos_of_ne_zero a))
theorem Ke(next:Nat->Nat):∀(f k:Nat) (left:List c) (a:Array c),left.length<=f->(pickOrder.go next f k left a).toList.Perm (a.toList++left)
 |0,k,left,a,h=>by
  have:left=[]:=gT.mp (by omega);subst this;unfold pickOrder.go;simp
 |f+1,k,left,a,h=>by
  unfold pickOrder.go;cases left with
  |nil=>simp
  |cons x l=>
   have b:next k%(x::l).length<(x::l).length:=qI _ (by simp);rw[au b];dsimp only;apply (Ke next f (k+1) _ _ (by rw[qT b];simp at h⊢;omega)).trans;rw[oM,cY];apply tB _;exact Ax b
theorem Bh(next:Nat->Nat)(a:Array b):(pickOrder next a).toList.Perm a.toList:=by
 have:=Ke next a.size 0 a.toList #[] (by simp);simpa[pickOrder]using this
theorem AZ:∀(n:Nat) (a:List c) (s:Yy) (Q:List c->Yy->Prop),a.length=n->(∀r k,r.Perm a->Q r {s with drawn:=k})->wpAny M A (drawOrder n a) Q E s
 |0,a,s,Q,h,q=>by
  have:a=[]:=gT.mp h;subst this;unfold drawOrder;exact U (q [] s.drawn (.refl _))
 |n+1,[],s,Q,h,q=>by simp at h
 |n+1,x::l,s,Q,h,q=>by
  unfold drawOrder;refine Z (Fi (by simp) λi k b=>?_);rw[au b];dsimp only;refine Z (AZ n _ _ _ (by rw[qT b];simp at h⊢;omega) λr d e=>U ?_);exact q _ d ((e.cons _).trans (Ax b))
def XC(a:Yp):Obj:={cls:=.type "set_iterator",data:=.fields a}
def zP(a:Yc):Obj:={cls:=.type "tuple",data:=.seq a.toArray 0}
def Qj(w:Yz)(f S P:YB)(a:Array (Int×Yx))(b:Nat)(t:YE)(V:Yc)(i:Nat)(h:YI):Prop:=
 h.get? S=some (xK a b t)/\∃c,h.get? f=some (XC c)/\
  (
   (xM w=false/\V=(pickOrder (w.params.setOrder S b) a).toList.map (·.2)/\∃d:Nat,c=#[rawInt d,rawInt i,.ref S,rawInt a.size,rawInt b])\/
   (xM w=true/\V=a.toList.map (·.2)/\(!t.plain&&decide (a.size>1))=false/\∃d:Nat,SetTable.below t.place d=i/\c=#[rawInt d,rawInt i,.ref S,rawInt a.size,rawInt b])\/
   (xM w=true/\(!t.plain&&decide (a.size>1))=true/\∃e:X8,e.Perm (List.range a.size)/\V=e.map (λj=>(a.getD j (0,.none)).2)/\h.get? P=some (zP (e.map λj=>rawInt (j:Nat)))/\c=#[.ref P,rawInt i,.ref S,rawInt a.size,rawInt b]))
theorem Qj.frame(x:Qj w g S P j l t V i h)(k:∀b∈[g,S,P],∀o,h.get? b=some o->m.get? b=some o):Qj w g S P j l t V i m:=by
 let⟨n,p,q,r⟩:=x;refine⟨k S (by simp) _ n,p,k g (by simp) _ q,r.imp id (Or.imp id ?_)⟩;rintro⟨a,b,s,c,d,e,f⟩;exact⟨a,b,s,c,d,k P (by simp) _ e,f⟩
theorem Qj.len(x:Qj w d S P a b t V i h):V.length=a.size:=by
 let⟨e,f,g,c⟩:=x;rcases c with⟨_,rfl,_⟩|⟨_,rfl,_⟩|⟨_,_,j,p,rfl,_⟩
 .have:=(Bh (w.params.setOrder S b) a).length_eq
  simpa using this
 .simp
 .have:=p.length_eq
  simpa using this
theorem BL:entryFor table "set.__iter__"=some Builtin.«frozenset.__iter__»:=entryFor_alias (id':="frozenset.__iter__") (by kernel_rfl) rfl (by decide+kernel) (by kernel_rfl)
theorem Jb(c:A.handled=none)(h:∀(a:YI) (e:Yx),(∀b o,s.heap.get? b=some o->a.get? b=some o)->Shared.TypeIs {s with heap:=a} e "StopIteration"->E e {s with heap:=a}):wpAny (model pw w) A (newExc (.type "StopIteration") []>>=λe=>raiseNew (α:=d) e) R E s:=by
 apply Z;simp only[newExc,newTuple];refine Z (cM ?_ (by size_fits));refine Z (m:=firstArgMember _ _) (kR (a:=Value.none) (by first|rfl|(simp only[firstArgMember];rfl)) ?_);refine cM ?_ (by size_fits);simp only[raiseNew];refine Z (wpAny_handled ?_);rw[c];refine Z (U (wpAny_throw ?_));refine h _ _ (λb o e=>ak _ (ak _ e)) ⟨_,aD _ rfl,rfl⟩
def qJ:=@Jb
theorem OO{T id:String}(g:s.TypeIs (.ref f) T)(i:Slot T "__next__" id)(j:entryFor table id=some b)(k:argsOk id ⟨[.ref f],[]⟩)(h:wpAny (model pw w) A.in1 (b ⟨[.ref f],[]⟩) (λc a=>∃v,c= .done (.ret v)/\Q (some v) a) (λe a=>a.TypeIs e "StopIteration"/\Q none a) s):wpAny (model pw w) A (pyNext (.ref f)) Q E s:=by
 unfold pyNext;refine Z (wpAny_attempt (dR (name:=Str.ofString "__next__") g i
  (bL i g j (f_ h (λc a d=>?_) λe a d=>?_) k)))
 .let⟨v,e,q⟩:=d
  exact⟨v,e,U q⟩
 .exact Z (gP (T:="StopIteration") (b:=true) d.1 isSubtype_stop (U d.2))
def qx:=@OO
theorem HD(e:s.heap.get? a=some {cls:=c,dict:=none,data:=.fields d,slots:=#[]})(f:k<d.size)(h:∀b,b.get? a=some {cls:=c,dict:=none,data:=.fields (d.setIfInBounds k x),slots:=#[]}->Heap.SameBut a s.heap b->Q () {s with heap:=b}):wpAny (model pw w) A (setField (.ref a) k x) Q E s:=fL e f h
def dM:=@HD
theorem MM(h:Q (!xM w) s):wpAny (model pw w) A setsByText Q E s:=by
 unfold setsByText;refine Z (jA (U ?_));have e:(w.params.followText "set-order")=!xM w:=by unfold xM;rw[Bool.not_not]
 show Q (w.params.followText "set-order") s;rw[e];exact h
def rH:=@MM
theorem Fp(a:s.heap.get? S=some (xK b c t))(d:w5 (xM w) t b.size)(f:xM w=false)(h:Q (((pickOrder (w.params.setOrder S c) b)[i]?).map λe=>(e.2,g)) s):wpAny (model pw w) A (setNext S g i c) Q E s:=by
 unfold setNext;refine Z (dP a rfl d.fits ?_);refine Z (rH ?_);rw[f];simp only[iB,cE,eS,aA,bz];unfold setWalk;apply Z;refine Z (dP a rfl d.fits ?_);refine Z (rH ?_);rw[f];simp only[iB,cE];exact Z (jA (U (U h)))
theorem Fq(e:s.heap.get? S=some (xK a f t))(b:w5 (xM w) t a.size)(c:xM w=true)(hd:(!t.plain&&decide (a.size>1))=false)(h:Q (match a[SetTable.below t.place d]?,t.place[SetTable.below t.place d]? with|some (_,x),some j=>some (x,j+1)|_,_=>none) s):wpAny (model pw w) A (setNext S d i f) Q E s:=by
 unfold setNext;refine Z (dP e rfl b.fits ?_);refine Z (rH ?_);rw[c];simp only[c8,aA,bz];show wpAny _ _ (if(!t.plain&&decide (a.size>1))=true then _ else _) Q E s;rw[hd];simp only[aA,bz];apply Z;show wpAny _ _ (if(!t.led&&!a.isEmpty)=true then unsupported "set:maker-not-led" else pure ()) _ _ s;rw[b.led,c];simp only[c8,mZ,aA,bz];exact U (U h)
theorem Gs(hh:A.handled=none)(u:w5 (xM w) t f.size)(H:p≠S)(a0:p≠P)(x:Qj w p S P f X t V i s.heap)(Y:∀v g,V[i]? =some v->Qj w p S P f X t V (i+1) g->(∀b o,b≠p->s.heap.get? b=some o->g.get? b=some o)->Q (some v) {s with heap:=g})(h2:i=f.size->∀g,(∀b o,b≠p->s.heap.get? b=some o->g.get? b=some o)->Q none {s with heap:=g})(hi:i<=f.size):wpAny (model pw w) A (pyNext (.ref p)) Q E s:=by
 have x0:=x;have f0:=x.len;let⟨y,fs,a,hc⟩:=x;have b0:s.TypeIs (.ref p) "set_iterator":=⟨_,a,rfl⟩;apply qx b0 yZ Ay (A1 _);unfold Builtin.«set_iterator.__next__»;refine Z (U ?_);dsimp only;refine Z (qP a rfl ?_);have d:∀(g:YI),(∀b o,b≠p->s.heap.get? b=some o->g.get? b=some o)->i=f.size->wpAny (model pw w) A.in1 (newExc (.type "StopIteration") []>>=λe=>raiseNew (α:=PySem.Fin) e) (λc0 T=>∃v,c0= .done (.ret v)/\Q (some v) T) (λe T=>T.TypeIs e "StopIteration"/\Q none T) {s with heap:=g}:=by
  intro g R he;refine qJ (s:={s with heap:=g}) hh λh e k d0=>⟨d0,?_⟩;exact h2 he h λb o nb q=>k b o (R b o nb q)
 have r:∀{g:YI},Heap.SameBut p s.heap g->∀b o,b≠p->s.heap.get? b=some o->g.get? b=some o:=λq b o nb e=>by rw[q.2 b nb];exact e
 have I:((f.size:Int)!=(f.size:Int))=false:=by simp
 rcases hc with⟨F,rfl,sl,rfl⟩|⟨F,rfl,hd,sl,hb,rfl⟩|⟨F,hd,C,G,rfl,hP,rfl⟩
 .simp only[rawInt]
  refine Z (jY y rfl u.fits ?_);rw[I];simp only[aA,bz,cX];refine Z (Fp y u F ?_);cases hq:(pickOrder (w.params.setOrder S X) f)[i]? with
  |some e=>
   simp only[p6];refine Z (dM a (by simp) λh z m=>?_);refine Z (dM (s:={s with heap:=h}) z (by simp) λL W M=>?_);have n:=m.trans M;refine U ⟨_,rfl,Y e.2 L ?_ ?_ (r n)⟩
   .rw[a_,cO,hq];rfl
   .exact⟨r n _ _ H.symm y,_,W,.inl ⟨F,rfl,sl,by simp[rawInt]⟩⟩
  |none=>
   simp only[Option.map_none];refine Z (dM a (by simp) λh z m=>?_);apply d h (r m);have:=Array.getElem?_eq_none_iff.mp hq;have l:=(Bh (w.params.setOrder S X) f).length_eq;simp at l;omega
 .simp only[rawInt]
  refine Z (jY y rfl u.fits ?_);rw[I];simp only[aA,bz,cX];refine Z (Fq y u F hd ?_);rw[hb];by_cases c:i<f.size
  .have G:i<t.place.size:=by rw[u.size];exact c
   rw[cT c,cT G];simp only;refine Z (dM a (by simp) λh z m=>?_);refine Z (dM (s:={s with heap:=h}) z (by simp) λL W M=>?_);have n:=m.trans M;refine U ⟨_,rfl,Y f[i].2 L ?_ ?_ (r n)⟩
   .rw[a_,cO,cT c];rfl
   .refine⟨r n _ _ H.symm y,_,W,.inr (.inl ⟨F,rfl,hd,t.place[i]+1,?_,by simp[rawInt]⟩)⟩
    let⟨b1,b2,b3⟩:=qH u.rise (t.place[i]+1);have e0:t.place.getD i 0=t.place[i]:=by simp[Array.getD,G]
    have q1:SetTable.below t.place (t.place[i]+1)<=i+1:=fc λq=>by
     have:=b1 (i+1) q;have:=u.rise.get i (i+1) (by omega) (by omega);omega
    have q2:i+1<=SetTable.below t.place (t.place[i]+1):=fc λq=>by
     have:=b2 i (by omega) G;omega
    omega
  .rw[jo (by omega)]
   simp only;refine Z (dM a (by simp) λh z m=>?_);exact d h (r m) (by omega)
 .simp only[rawInt]
  refine Z (jY y rfl u.fits ?_);rw[I];simp only[aA,bz,cX];refine Z (dX hP rfl ?_);dsimp only;have g0:C.length=f.size:=by simpa using G.length_eq
  by_cases c:i<C.length
  .have e1:(C.map λj=>rawInt (j:Nat)).toArray[i]? =some (rawInt (C[i]:Nat)):=by simp[c]
   rw[e1];simp only[rawInt,cX];have N:C[i]<f.size:=aZ.mp (G.mem_iff.mp (bT c));apply Z;unfold setNextDrawn;refine Z (dP y rfl u.fits ?_);simp only[eS,aA,bz];rw[cT N];apply U;refine Z (dM a (by simp) λh z m=>?_);refine U ⟨_,rfl,Y f[C[i]].2 h ?_ ?_ (r m)⟩
   .rw[a_,au c]
    simp[Array.getD,N]
   .exact⟨r m _ _ H.symm y,_,z,.inr (.inr ⟨F,hd,C,G,rfl,r m _ _ a0.symm hP,by simp[rawInt]⟩)⟩
  .have e1:(C.map λj=>rawInt (j:Nat)).toArray[i]? =none:=by simp;omega
   rw[e1];dsimp only;refine Z (dM a (by simp) λh z m=>?_);refine Z (dM (s:={s with heap:=h}) z (by simp) λL W M=>?_);exact d L (r (m.trans M)) (by omega)
theorem Dt:typeLookup (.type "set") "__len__"=pure (some (.builtin "set.__len__")):=PySem.F.slot_set_len.lookup
theorem HP(b:a.length<=100000)(h:Q (.ref s.heap.objs.size) {s with heap:=s.heap.push (zP a)}):wpAny (model pw w) A (newTuple a) Q E s:=qM h (by rw[bA];omega)
def uf:=@HP
theorem N2(g:s.heap.get? S=some (xK a z t))(C:w5 (xM w) t a.size)(W:a.size<=100000)(h:∀(l:Yy) (F P:YB) (V:Yc),l.gens=s.gens->l.os=s.os->(∀b o,s.heap.get? b=some o->l.heap.get? b=some o)->s.heap.objs.size<=F->F≠P->(P=S\/s.heap.objs.size<=P)->V.Perm (a.toList.map (·.2))->Qj w F S P a z t V 0 l.heap->Q (.ref F) l):wpAny (model pw w) A (pyIter (.ref S)) Q E s:=by
 have u:s.TypeIs (.ref S) "set":=⟨_,g,rfl⟩;have L:=aJ g;refine oN u qo (bL qo u BL ?_ (PySem.F.args_set_iter_1 _));unfold Builtin.«frozenset.__iter__»;refine Z (m:=Builtin.Frozenset.slot0 "__iter__" _) (U ?_);unfold Builtin.Frozenset.sizeOf;refine Z (Z (jY g rfl C.fits (U ?_)));unfold setDrawn;have f:∀d first P V,d.gens=s.gens->d.os=s.os->(∀b o,s.heap.get? b=some o->d.heap.get? b=some o)->s.heap.objs.size<=d.heap.objs.size->(P=S\/(s.heap.objs.size<=P/\P<d.heap.objs.size))->V.Perm (a.toList.map (·.2))->
  (∀n,(∀b o,d.heap.get? b=some o->n.get? b=some o)->n.get? d.heap.objs.size=some (XC #[first,rawInt (0:Nat),.ref S,rawInt a.size,rawInt z])->Qj w d.heap.objs.size S P a z t V 0 n)->
  wpAny (model pw w) A.in1 (do ret (<-newFields "set_iterator" [first,rawInt 0,.ref S,rawInt a.size,rawInt (<-setEpoch S)])) (λf l=>∃v,f= .done (.ret v)/\∃R r,l.TypeIs v R/\typeLookup (.type R) "__next__"=pure (some r)/\Q v l) E d:=by
  intro d first P V X M m x G Y hI;refine Z (wpAny_setEpoch_of (m _ _ g) rfl C.fits ?_);refine Z (cM (U ⟨_,rfl,"set_iterator",_,⟨_,aD _ rfl,rfl⟩,yZ.lookup,?_⟩));refine h _ d.heap.objs.size P V X M (λb o e=>ak _ (m b o e)) x ?_ (G.imp id (·.1)) Y (hI _ (λb o e=>ak _ e) (aD _ rfl));rcases G with rfl|G
  .exact fq (c9 L x)
  .exact fq G.2
 apply Z;refine Z (dP g rfl C.fits ?_);refine Z (rH ?_);apply U;show wpAny _ _ (if(!!xM w&&(!t.plain&&decide (a.size>1)))=true then _ else _) _ _ s;cases H:xM w with
 |false=>
  simp only[iB,c8,mZ,aA,bz];refine Z (U ?_);refine f s (rawInt 0) S _ rfl rfl (λ_ _ e=>e) (ao _) (.inl rfl) (((Bh (w.params.setOrder S z) a).map (·.2))) λn k e=>?_;exact⟨k _ _ g,_,e,.inl ⟨H,rfl,0,rfl⟩⟩
 |true=>
  cases hd:(!t.plain&&decide (a.size>1))with
  |false=>
   simp only[iB,c8,qL,aA,bz];refine Z (U ?_);refine f s (rawInt 0) S _ rfl rfl (λ_ _ e=>e) (ao _) (.inl rfl) (.refl _) λn k e=>?_;refine⟨k _ _ g,_,e,.inr (.inl ⟨H,rfl,hd,0,?_,rfl⟩)⟩;let⟨b1,_,_⟩:=qH C.rise 0;exact Nat.eq_zero_of_not_pos λq=>by have:=b1 0 q;omega
  |true=>
   simp only[iB,c8,q8,cE];refine Z (AZ a.size (List.range a.size) s _ cW λp k I=>?_);have N:p.length=a.size:=by simpa using I.length_eq
   refine Z (uf (s:={s with drawn:=k}) (by rw[az,N];exact W) ?_);have y:(s.heap.push (zP (p.map λj=>rawInt (j:Nat)))).objs.size=s.heap.objs.size+1:=lX _ _;refine f {s with drawn:=k,heap:=s.heap.push (zP (p.map λj=>rawInt (j:Nat)))} (.ref s.heap.objs.size) s.heap.objs.size (p.map (λj=>(a.getD j (0,.none)).2)) rfl rfl (λb o e=>ak _ e) (by rw[y];exact kT _) (.inr ⟨ao _,by rw[y];exact dK _⟩) ?_ λn T e=>?_
   .have e1:a.toList.map (·.2)=(List.range a.size).map (λj=>(a.getD j (0,.none)).2):=by
     apply gw;intro i;rw[a_,a_,cO];by_cases c:i<a.size
     .rw[gJ c,cT c];simp[Array.getD,c]
     .rw[jo (by omega),aO (by simpa using c)];rfl
    rw[e1];exact I.map _
   .exact⟨T _ _ (ak _ g),_,e,.inr (.inr ⟨H,hd,p,I,rfl,T _ _ (aD _ rfl),rfl⟩)⟩
theorem PK(H:A.in1.handled=none)(I:w5 (xM w) t j.size)(hz:j.size<=100000)(p:g≠S)(q:g≠P)(m:L≠g/\L≠S/\L≠P):∀(k i:Nat) (s:Yy) (c:Nat),j.size-i=k->i<=j.size->Qj w g S P j ep t V i s.heap->s.heap.get? L=some (v9 "list" (V.take i).toArray c)->(∀d T,(∀b o,b≠L->b≠g->s.heap.get? b=some o->d.get? b=some o)->d.get? L=some (v9 "list" V.toArray T)->R (.ok (.ret E)) {s with heap:=d})->codeAny (model pw w) A (.builtin "list.extend.loop" ⟨[.ref L,.ref g,E],[]⟩) R s:=by
 intro k;induction k with
 |zero=>
  intro i s c W X f z C;obtain rfl:i=j.size:=by omega
  apply b8 fh;rw[bJ br _];show wpAny _ A.in1 (pyNext (.ref g)>>=_) _ _ s;have Y:=f.len;refine Z (Gs H I p q f (λv d n=>?_) (λ_ d a=>?_) (ao _))
  .rw[aO (by omega)]at n;cases n
  .rw[dG (by omega)]at z
   exact U (C d c (λb o _ l e=>a b o l e) (a _ _ m.1 z))
 |succ k ih=>
  intro i s c W X f z C;have F:i<j.size:=by omega
  apply b8 fh;rw[bJ br _];show wpAny _ A.in1 (pyNext (.ref g)>>=_) _ _ s;have Y:=f.len;refine Z (Gs H I p q f (λv d n y a=>?_) (λe=>by omega) (by omega));have r:=a _ _ m.1 z;show wpAny _ A.in1 (updateSeq L (·.push v)>>=_) _ _ _;have Q:(V.take i).toArray.size<=100000:=by simp;omega
  refine Z (jS r rfl ?_ (by rw[bA];omega) (by show((V.take i).toArray.push v).size<=sizeLine+1;rw[mF,bA];omega));have G:(d.update L (Obj.mapSeq (·.push v))).get? L=some (v9 "list" (V.take (i+1)).toArray (if((V.take i).toArray.push v).size==(V.take i).toArray.size then c else c+1)):=by
   have:=dh (h:=d) (c:="list") r (·.push v);rw[this];have u:i<V.length:=by omega
   rw[au u]at n;cases n;rw[ir,<-fz u]
   rfl
  have x:=bY d L (Obj.mapSeq (·.push v));refine U ⟨cQ br _,ih (i+1) _ _ (by omega) F (y.frame λb M o e=>?_) G λh2 c2 h e2=>C h2 c2 (λb o l N e=>h b o l N (by rw[show(d.update L (Obj.mapSeq (·.push v))).get? b=d.get? b from x.2 b l];exact a b o N e)) e2⟩;have l:b≠L:=by
   simp at M;rcases M with rfl|rfl|rfl
   .exact m.1.symm
   .exact m.2.1.symm
   .exact m.2.2.symm
  rw[x.2 b l];exact e
theorem Ic(hh:A.handled=none)(hS:s.heap.get? S=some (xK v ep t))(hT:w5 (xM w) t v.size)(hz:v.size<=100000)(h:∀(H:Yy) (V:Yc),H.gens=s.gens->H.os=s.os->(∀b o,s.heap.get? b=some o->H.heap.get? b=some o)->V.Perm (v.toList.map (·.2))->Q V H):wpAny (model pw w) A (collect (.ref S)) Q E s:=by
 have z:=aJ hS;have k:S≠s.heap.objs.size:=aQ z;unfold collect;refine Z (m7 (b8 jC ?_));rw[bJ jD _];show wpAny _ A.in1 (newList []>>=λl=>again (.builtin "list.__iadd__" ⟨[l,.ref S],[]⟩)) _ _ s;refine Z (cM ?_);refine U ⟨cQ fM _,b8 kH ?_⟩;rw[bJ fM _];have T:(s.heap.push (v9 "list" #[] 0)).get? s.heap.objs.size=some (v9 "list" #[] 0):=aD _ rfl;have p:(s.heap.push (v9 "list" #[] 0)).get? S=some (xK v ep t):=ak _ hS;have W:Shared.TypeIs {s with heap:=s.heap.push (v9 "list" #[] 0)} (.ref S) "set":=⟨_,p,rfl⟩;have h1:Builtin.List.listSameRef (.ref s.heap.objs.size) (.ref S)=false:=by simp[Builtin.List.listSameRef,k.symm]
 show wpAny _ A.in1 (Builtin.List.listExtendWith (.ref s.heap.objs.size) (.ref S) (.ref s.heap.objs.size)) _ _ {s with heap:=s.heap.push (v9 "list" #[] 0)};unfold Builtin.List.listExtendWith;refine Z (d8 W ?_);rw[J (by rw[h1];decide)];have m:(s.heap.push (v9 "list" #[] 0)).objs.size=s.heap.objs.size+1:=lX _ _;refine Z (N2 (s:={s with heap:=s.heap.push (v9 "list" #[] 0)}) p hT hz λi I P V eg eo a X G L hV Y=>?_);have d:s.heap.objs.size+1<=I:=by rw[<-m];exact X
 have q:=a _ _ T;have f:i.TypeIs (.ref S) "set":=⟨_,a _ _ p,rfl⟩;refine Z (aC ?_);unfold Builtin.List.listLengthHint;refine Z (cL f Dt ?_);dsimp only;rw[show splitId "set.__len__"=some ("set","__len__")from by decide+kernel];dsimp only;refine Z (gP (b:=true) f sub_set_self ?_);simp only[c8,aA,bz];refine Z (d8 f (U ?_));have C:∀R,(∀j x,(∀b o,s.heap.get? b=some o->j.get? b=some o)->j.get? s.heap.objs.size=some (v9 "list" V.toArray x)->R (.ok (.ret (.ref s.heap.objs.size))) {i with heap:=j})->
  ∀y c,(∀b o,b≠s.heap.objs.size->i.heap.get? b=some o->y.get? b=some o)->y.get? s.heap.objs.size=some (v9 "list" #[] c)->
  codeAny (model pw w) A (.builtin "list.extend.loop" ⟨[.ref s.heap.objs.size,.ref I,.ref s.heap.objs.size],[]⟩) R {i with heap:=y}:=by
  intro R hR y c g a0;have n:s.heap.objs.size≠I:=aQ d;have F:s.heap.objs.size≠P:=by
   rcases L with rfl|L
   .exact k.symm
   .exact aQ (by have:=L;rw[m]at this;exact this)
  refine PK (s:={i with heap:=y}) hh hT hz (fq (c9 z (oO d))) G ⟨n,k.symm,F⟩ (v.size-0) 0 c rfl (bB _) (Y.frame λb u o e=>g b o ?_ e) a0 λj x r b0=>hR j x (λb o e=>?_) b0
  .simp at u
   rcases u with rfl|rfl|rfl
   .exact n.symm
   .exact k
   .exact F.symm
  .have u:=aJ e
   exact r b o (aQ u) (aQ (c9 u (oO d))) (g b o (aQ u) (a b o (ak _ e)))
 split
 .refine Z (dO ?_)
  unfold Builtin.List.listTouch;apply Z;refine Z (eT q rfl ?_);have u1:(i.heap.update s.heap.objs.size (Obj.mapSeq (·.push Value.none))).get? s.heap.objs.size=some (v9 "list" #[.none] 1):=dh q (·.push Value.none);refine eT (s:={i with heap:=_}) u1 rfl ?_;have u2:=dh u1 (·.pop);refine U ⟨cQ br _,C _ (λj x M N=>?_) _ _ (λb o nb e=>?_) u2⟩
  .show wpAny _ A (load s.heap.objs.size>>=_) _ _ _
   exact Z (lV N (U (h {i with heap:=j} _ eg eo M hV)))
  .rw[cR _ _ _ _ nb,cR _ _ _ _ nb];exact e
 .refine U ⟨cQ br _,C _ (λj x M N=>?_) i.heap _ (λb o _ e=>e) q⟩
  show wpAny _ A (load s.heap.objs.size>>=_) _ _ _;exact Z (lV N (U (h {i with heap:=j} _ eg eo M hV)))
def M5(w:Yz)(A:YA)(f:St)(g R:YH)(h:X_)(s:Yy)(v:Yx)(P:Yb->Prop):Prop:=∀(E:X0) (Q:Yc->Yy->Prop),(∀d b c a e,Gr s g h b c a->GS w c R a f b.heap->wR w c a d e->P e->Q d b)->wpAny (model pw w) A (collect v) Q E s
theorem M5.set(q:A.handled=none)(G:GS w g R d u s.heap)(v:s.heap.get? S=some (xK n ep t))(z:w5 (xM w) t n.size)(o:zI w g d n.toList b)(hz:b.length<=100000):M5 w A u g R d s (.ref S) λl=>l.Perm b:=by
 intro E Q k;have C:=o.length;refine Ic q v z (by simp at C;omega) λF V H I f L=>?_;have i:∀{e c},c.Perm e->∀{b},wR w g d e b->∃a,a.Perm b/\wR w g d c a:=by
  suffices h:∀{e c},e.Perm c->∀{b},wR w g d e b->∃a,a.Perm b/\wR w g d c a fromλ{_ _} p {_} r=>h p.symm r
  intro e c p;induction p with
  |nil=>intro b h;exact⟨b,.refl _,h⟩
  |cons x _ M=>
   intro b h;cases h with
   |cons r h=>
    let⟨a,N,P⟩:=M h;exact⟨_::a,N.cons _,.cons r P⟩
  |swap x y l=>
   intro b h;cases h with
   |cons r h=>
    cases h with
    |cons T h=>exact⟨_,.swap _ _ _,.cons T (.cons r h)⟩
  |trans _ _ j m=>
   intro b h;let⟨d1,W,X⟩:=j h;let⟨Y,p2,h2⟩:=m X;exact⟨Y,p2.trans W,h2⟩
 let⟨a,p,r⟩:=i L o.rd;exact k V F g d a ⟨H,I,bM _,aE _⟩ (G.keep f) r p
theorem M5.seq(G:GS w g R h m s.heap)(r:Rd w g h v d)(hd:zL m d i)(t:i.length<=100000):M5 w A m g R h s v (·=i):=by
 intro E Q k;have c:∀T a items n,T="list"\/T="tuple"->v= .ref a->s.heap.get? a=some (v9 T items.toArray n)->wR w g h items i->wpAny (model pw w) A (collect v) Q E s:=by
  intro T a items n o p e b;subst p;have u:=b.length;exact wpAny_collect_seq a o e rfl rfl (λq f=>k items {s with heap:=q} g h i ⟨rfl,rfl,bM _,aE _⟩ (G.keep f) b rfl) (by rw[bA,aW];omega)
 cases hd with
 |vV=>
  let⟨a,items,n,j,e,b⟩:=G.vV r;exact c "tuple" a items n (.inr rfl) j e b
 |vK l=>
  let⟨a,items,n,j,e,b⟩:=G.vK r l;exact c "list" a items n (.inl rfl) j e b
def CE(w:Yz)(A:YA)(b:Env)(f:Md)(d:St)(t:Yq)(P:Yb->Prop):Prop:=
 ∀(g R:YH) (h:X_) (s:Yy) (E:X0) (Q:X0),FS w g R h d b f s.heap->
  (∀v c e a,Gr s g h c e a->FS w e R a d b f c.heap->(∀i,i.handled=none->M5 w i d e R a c v P)->Q v c)->wpAny (model pw w) A t Q E s
theorem CE.mono(h:CE w A a e f t P)(k:∀l,P l->i l):CE w A a e f t i:=λg R j s E Q F q=>h g R j s E Q F λv m n b x o c=>q v m n b x o λu y z C G=>c u y z C λH I L d M N S r p=>G H I L d M N S r (k _ p)
theorem CE.seq(h:PE w A a i c t d)(hd:zL c d e)(j:e.length<=100000):CE w A a i c t (·=e):=λg R k s E Q F q=>h g R k s E Q F λv l m b x f r=>q v l m b x f λn _=>M5.seq f.G r hd j
theorem arg1(c:starEach [e] a=(false,eval e a)::starEach [] a)(h:wpAny (model pw w) A (eval e a) (λv b=>Q [v] b) E s):wpAny (model pw w) A (spliced (backTo d (starEach [e] a))) Q E s:=by
 rw[tY c];exact spliced_cons (f_ h (λv b q=>tX q) λ_ _ x=>x)
theorem I2(M:we 12 A)(hC:∀N,N.handled=none->M5 w N S g R ρ s v P)(hP:∀d,P d->(2<=d.length->Bv d)/\d.length<64)(k:∀(x:Yy) (y:YH) (n:X_) (a:YB) (o:Obj) (r:Yb),Gr s g ρ x y n->GS w y R n S x.heap->FU w y R n S x.heap a o->zS w y n o r->(∃d,P d/\J3 d r)->Q (.ref a) x):wpAny (model pw w) A (call (.builtin "sorted") [v]) Q E s:=by
 apply Calls.call_function_entry kind_sorted plain_sorted entry_sorted (args_sorted1 _);unfold Builtin.«sorted»;refine Z (m:=checkCount "sorted" 1 1 _) (U ?_);refine Z (hC A.in1 M.in1.handled _ _ λf m F t d z C G T=>?_);let⟨V,a0⟩:=hP d T;have W:=G.length;refine Z (q9 ?_ (by rw[bA];omega));have q:(m.heap.push (seqObj "list" f.toArray 0)).get? m.heap.objs.size=some (seqObj "list" f.toArray 0):=aD _ rfl;have G2:=C.push (seqObj "list" f.toArray 0);refine Z (aC (bL slot_list_sort ⟨_,q,rfl⟩ entry_list_sort (Fy (s:={m with heap:=m.heap.push (seqObj "list" f.toArray 0)}) (g:=F) (lt:=TJ d) (M.mono (by decide:10<=12)).in1.in1 q (C.zZ (ju _)) G2.sub (λh2=>Ls G h2 (V (by omega))) (by omega) λp H X=>?_) (args_list_sort _)));refine⟨_,rfl,?_⟩;refine U ⟨_,rfl,?_⟩;have I:(m.heap.push (seqObj "list" f.toArray 0)).objs.size=m.heap.objs.size+1:=lX _ _;have u:∀b o,m.heap.get? b=some o->(sortedHeap (m.heap.push (seqObj "list" f.toArray 0)) m.heap.objs.size f (p.toList.map λi=>f.getD i Value.none).toArray).get? b=some o:=λb o e=>by
  have Y:=aJ e;rw[sortedHeap_old (aQ Y) (by rw[I];exact fy Y)];exact ak _ e
 let⟨c,hc⟩:=sortedHeap_at (out:=(p.toList.map λi=>f.getD i Value.none).toArray) q;rw[W]at H X;have L:∀i∈p.toList,i<f.length:=λi hi=>by rw[W];exact aZ.mp (H.mem_iff.mp hi)
 refine k {m with heap:=_} F t m.heap.objs.size _ (p.toList.map λi=>d.getD i .none) ⟨z.gens,z.os,z.le,z.pre⟩ (C.keep u) (C.free (ao _) hc) ⟨_,c,rfl,?_⟩ ⟨d,T,N1 V H X⟩;have:∀l:X8,(∀i∈l,i<f.length)->wR w F t (l.map λi=>f.getD i Value.none) (l.map λi=>d.getD i .none):=by
  intro l;induction l with
  |nil=>intro _;exact .nil
  |cons i l ih=>intro h;exact .cons (G.at (h i (.head _))).1 (ih λj hj=>h j (.tail _ hj))
 exact this _ L
theorem FE.sorted(y:we 12 A)(z:PV w A b t j (eval (.Name f p) b) (.builtin "sorted"))(h:CE w A b t j (eval e b) P)(C:∀d,P d->(2<=d.length->Bv d)/\d.length<64)(H:starEach [e] b=(false,eval e b)::starEach [] b:=by rfl)(i:(backTo l (starEach [e] b)).any (·.1)=false:=by rfl):
 FE w A b t j (zS w) (eval (.Call (.Name f p) [e] [] l) b) λr m=>m=j/\∃d,P d/\J3 d r:=by
 intro g R u s E Q F k;refine dF (z g R u s E _ F λI L M=>iS i (fE i (arg1 H (h g R u I E _ M λv s2 g2 Y N S c=>?_))));exact I2 y c C λT V n a o r x G W X q=>k T V n a o r j ((L.trans N).trans x) (S.up x G) W X ⟨rfl,q⟩
def j8:=@FE.sorted
theorem CE.set(Y:we 14 A)(hf:PV w A b S z (eval (.Name f p) b) (.type "set"))(h:PE w A b S z (eval e b) d)(hd:xA z d c)(ok:∀i g u,we 8 i->Gh w i g u (xM w) el I lim nd)(H:∀d,el d->d.pl 20=true/\d.hk=true)(hI:I (.fresh 0 0 (xM w)) 0)(L:∀d∈c,el d)(o:c.length<=lim)(a0:lim<=4000)(hs:starEach [e] b=(false,eval e b)::starEach [] b:=by rfl)(j:(backTo M (starEach [e] b)).any (·.1)=false:=by rfl):
 CE w A b S z (eval (.Call (.Name f p) [e] [] M) b) λl=>(∀x,x∈l↔x∈c)/\(nd=true->l.Nodup)/\l.length<=c.length:=by
 intro g R u s E Q F k;refine dF (hf g R u s E _ F λs1 x1 F1=>dZ j (fE j (arg1 hs (h g R u s1 E _ F1 λv s2 T m x2 y r=>?_))));obtain⟨a,items,n,rfl,e,V⟩:=y.G.vK r hd;have hl:=V.length;refine JK (Y.mono (by decide:12<=14)) (λi C=>ok i T m C) H hI y.G (fB e) V L o λh' tk es ep t ds q e1 e2 W e4 e5 e6=>?_;have X:=y.G.keep q;have N:=W.length;rw[cG]at N;refine k _ {s2 with heap:=h',toks:=tk} T m ((x1.trans x2).trans cA) ⟨X,y.F⟩ λi C=>?_;intro E' Q' kk;refine M5.set C X e1 e2 W (by omega) E' Q' λvs s4 g4 P l x4 G4 r4 G=>kk vs s4 g4 P l x4 G4 r4 ⟨λx=>by rw[G.mem_iff,e4],λhn=>G.nodup_iff.mpr (e5 hn),by rw[G.length_eq];omega⟩
def Il(d:YB)(i n a:Nat):Obj:={cls:=.type "dict_keyiterator",data:=.fields #[.ref d,.int i 0,.int n 0,.int a 0]}
theorem zN:typeLookup (.type "dict") "__len__"=pure (some (.builtin "dict.__len__")):=PySem.F.slot_dict_len.lookup
theorem Ep(hd:(d==sysModules)=false)(a:s.heap.get? d=some (wj c e))(f:Q (.ref s.heap.objs.size) {s with heap:=s.heap.push (Il d 0 c.size e)}):wpAny (model pw w) A (pyIter (.ref d)) Q E s:=by
 have b:s.TypeIs (.ref d) "dict":=⟨_,a,rfl⟩;refine oN b p_ (bL p_ b PySem.F.entry_dict_iter ?_ (PySem.F.args_dict_iter_1 _));unfold Builtin.«dict.__iter__»;apply Z;unfold Builtin.Dict.dictSlotNone;refine Z (fH b ?_);show wpAny _ _ (pure (Value.ref d)) _ _ s;apply U;show wpAny _ _ (Builtin.Dict.showsAll d>>=_) _ _ s;unfold Builtin.Dict.showsAll;rw[J (by rw[hd];exact cD)];refine Z (U ?_);refine Z (fT a rfl ?_);refine Z (mG a rfl ?_);exact Z (cM (U ⟨_,rfl,"dict_keyiterator",_,⟨_,aD _ rfl,rfl⟩,mO.lookup,f⟩))
theorem MA(x:A.handled=none)(f:s.heap.get? g=some (Il d i j.size t))(u:s.heap.get? d=some (wj j t))(y:∀(h:i<j.size) l,l.get? g=some (Il d (i+1) j.size t)->Heap.SameBut g s.heap l->Q (some j[i].key) {s with heap:=l})(z:j.size<=i->∀l,(∀b o,b≠g->s.heap.get? b=some o->l.get? b=some o)->Q none {s with heap:=l}):wpAny (model pw w) A (pyNext (.ref g)) Q E s:=by
 have a:s.TypeIs (.ref g) "dict_keyiterator":=⟨_,f,rfl⟩;apply qx a mO PySem.F.entry_dict_keyiterator_next (PySem.F.args_dict_keyiterator_next_1 _);refine Z (U ?_);apply Z;apply Z
 first|refine Z (jO a (U ?_))|refine Z (k7 a (U ?_))
 refine Z (qP f rfl ?_);have m:Builtin.Dict_items.ownsTuple "dict_keyiterator"=false:=by decide
 simp only[m,aA,bz];show wpAny _ _ (if(Value.ref d==Value.none)=true then _ else _) _ _ s;rw[J (show¬((Value.ref d==Value.none)=true)from cD)];refine Z (U ?_);refine Z (fT u rfl ?_);rw[J (by simp)];refine Z (U ?_);refine Z (mG u rfl ?_);rw[J (by simp)];apply U;by_cases c:i<j.size
 .simp only[show¬((i:Int)<0)from by omega,bz,cX,cT c]
  apply Z
  first|refine Z (jO a (U ?_))|refine Z (k7 a (U ?_))
  refine Z (tC a ?_);show wpAny _ _ (setField (.ref g) 1 (rawInt ((i:Int)+1))>>=_) _ _ s;refine Z (dM f (by simp) λv n p=>?_);refine Z (aC ?_);refine Z (tC ⟨_,n,rfl⟩ ?_);show wpAny _ _ (pure j[i].key) _ _ _;exact U (U ⟨_,rfl,y c v (by rw[n];simp[Il,rawInt]) p⟩)
 .simp only[show¬((i:Int)<0)from by omega,bz,cX,jo (fc c)]
  apply Z
  first|refine Z (jO a (U ?_))|refine Z (k7 a (U ?_))
  show wpAny _ _ (setField (.ref g) 0 .none>>=_) _ _ s;refine Z (dM f (by simp) λv n p=>?_);refine qJ x λC e k r=>⟨r,?_⟩;exact z (fc c) C λb o F q=>k b o (by rw[p.2 b F];exact q)
structure QC(w:Yz)(A:YA)(it:YB)(own:X_)(V:Yc)(S:Nat->YI->Prop):Prop where
 mem:it∈own
 frame:∀i h h',S i h->(∀b∈own,∀o,h.get? b=some o->h'.get? b=some o)->S i h'
 next:∀(i:Nat) (s:Yy) (E:X0) (Q:Yn->Yy->Prop),S i s.heap->i<=V.length->
  (∀v h',V[i]? =some v->S (i+1) h'->(∀b o,b≠it->s.heap.get? b=some o->h'.get? b=some o)->Q (some v) {s with heap:=h'})->
  (i=V.length->∀h',(∀b o,b≠it->s.heap.get? b=some o->h'.get? b=some o)->Q none {s with heap:=h'})->wpAny (model pw w) A (pyNext (.ref it)) Q E s
theorem Em(W:QC w A.in1 l x V S)(X:V.length<=100000)(C:L∉x):∀(k i:Nat) (s:Yy) (c:Nat),V.length-i=k->i<=V.length->S i s.heap->s.heap.get? L=some (v9 "list" (V.take i).toArray c)->(∀d G,(∀b o,b≠L->b≠l->s.heap.get? b=some o->d.get? b=some o)->d.get? L=some (v9 "list" V.toArray G)->R (.ok (.ret y)) {s with heap:=d})->codeAny (model pw w) A (.builtin "list.extend.loop" ⟨[.ref L,.ref l,y],[]⟩) R s:=by
 have n:L≠l:=λe=>C (e▸W.mem);intro k;induction k with
 |zero=>
  intro i s c H I f t u;obtain rfl:i=V.length:=by omega
  apply b8 fh;rw[bJ br _];show wpAny _ A.in1 (pyNext (.ref l)>>=_) _ _ s;refine Z (W.next _ s _ _ f (ao _) (λv d m=>?_) (λ_ d a=>?_))
  .rw[aO (by omega)]at m;cases m
  .rw[dG (by omega)]at t
   exact U (u d c (λb o _ j e=>a b o j e) (a _ _ n t))
 |succ k M=>
  intro i s c H I f t u;have g:i<V.length:=by omega
  apply b8 fh;rw[bJ br _];show wpAny _ A.in1 (pyNext (.ref l)>>=_) _ _ s;refine Z (W.next i s _ _ f (by omega) (λv d m r a=>?_) (λe=>by omega));have p:=a _ _ n t;show wpAny _ A.in1 (updateSeq L (·.push v)>>=_) _ _ _;have F:(V.take i).toArray.size<=100000:=by simp;omega
  refine Z (jS p rfl ?_ (by rw[bA];omega) (by show((V.take i).toArray.push v).size<=sizeLine+1;rw[mF,bA];omega));have z:(d.update L (Obj.mapSeq (·.push v))).get? L=some (v9 "list" (V.take (i+1)).toArray (if((V.take i).toArray.push v).size==(V.take i).toArray.size then c else c+1)):=by
   have:=dh (h:=d) (c:="list") p (·.push v);rw[this];rw[au g]at m;cases m;rw[ir,<-fz g]
   rfl
  have q:=bY d L (Obj.mapSeq (·.push v));refine U ⟨cQ br _,M (i+1) _ _ (by omega) g (W.frame _ _ _ r λb N o e=>?_) z λP Q h T=>u P Q (λb o j E e=>h b o j E (by rw[show(d.update L (Obj.mapSeq (·.push v))).get? b=d.get? b from q.2 b j];exact a b o E e)) T⟩;have j:b≠L:=λe=>C (e▸N);rw[q.2 b j];exact e
theorem FD{S:YB->Nat->YI->Prop}(hT:s.TypeIs (.ref X) T)(a0:(Value.type T==.type "list")=false)(b0:(Value.type T==.type "tuple")=false)(hz:V.length<=100000)(n:∀(m:YI) (M:X0) (u:X0),(∀b o,s.heap.get? b=some o->m.get? b=some o)->s.heap.objs.size<=m.objs.size->(∀(i:YI) (f:YB),(∀b o,m.get? b=some o->i.get? b=some o)->m.objs.size<=f->QC w A.in1 f (f::own) V (S f)->S f 0 i->u (.ref f) {s with heap:=i})->wpAny (model pw w) A.in1 (pyIter (.ref X)) u M {s with heap:=m})(I:∀b∈own,b<s.heap.objs.size)(r:∀(N:Yy) (M:X0) (u:Bool->Yy->Prop),N.TypeIs (.ref X) T->(∀b,u b N)->wpAny (model pw w) A.in1 (Builtin.List.listLengthHint (.ref X)) u M N)(h:∀h',(∀b o,s.heap.get? b=some o->h'.get? b=some o)->Q V {s with heap:=h'}):wpAny (model pw w) A (collect (.ref X)) Q E s:=by
 let⟨ox,z,C⟩:=hT;have c0:=aJ z;have d0:X≠s.heap.objs.size:=aQ c0;unfold collect;refine Z (m7 (b8 jC ?_));rw[bJ jD _];show wpAny _ A.in1 (newList []>>=λl=>again (.builtin "list.__iadd__" ⟨[l,.ref X],[]⟩)) _ _ s;refine Z (cM ?_);refine U ⟨cQ fM _,b8 kH ?_⟩;rw[bJ fM _];have e0:(s.heap.push (v9 "list" #[] 0)).get? s.heap.objs.size=some (v9 "list" #[] 0):=aD _ rfl;have F:(s.heap.push (v9 "list" #[] 0)).get? X=some ox:=ak _ z;have f0:Shared.TypeIs {s with heap:=s.heap.push (v9 "list" #[] 0)} (.ref X) T:=⟨_,F,C⟩;have m:Builtin.List.listSameRef (.ref s.heap.objs.size) (.ref X)=false:=by simp[Builtin.List.listSameRef,d0.symm]
 show wpAny _ A.in1 (Builtin.List.listExtendWith (.ref s.heap.objs.size) (.ref X) (.ref s.heap.objs.size)) _ _ {s with heap:=s.heap.push (v9 "list" #[] 0)};unfold Builtin.List.listExtendWith;refine Z (d8 f0 ?_);rw[J (by rw[m,a0,b0];decide)];have j:(s.heap.push (v9 "list" #[] 0)).objs.size=s.heap.objs.size+1:=lX _ _;refine Z (n _ _ _ (λb o e=>ak _ e) (by rw[j];exact kT _) λi f a n W g0=>?_);have k:s.heap.objs.size+1<=f:=by rw[<-j];exact n
 have p:=a _ _ e0;have L:Shared.TypeIs {s with heap:=i} (.ref X) T:=⟨_,a _ _ F,C⟩;refine Z (aC (r _ _ _ L λj0=>?_));have G:s.heap.objs.size∉f::own:=λP=>by
  rcases aG.mp P with e|P
  .exact absurd e (aQ k)
  .exact gH _ (I _ P)
 have H:∀R,(∀g v,(∀b o,s.heap.get? b=some o->g.get? b=some o)->g.get? s.heap.objs.size=some (v9 "list" V.toArray v)->R (.ok (.ret (.ref s.heap.objs.size))) {s with heap:=g})->
  ∀x c,(∀b o,b≠s.heap.objs.size->i.get? b=some o->x.get? b=some o)->x.get? s.heap.objs.size=some (v9 "list" #[] c)->
  codeAny (model pw w) A (.builtin "list.extend.loop" ⟨[.ref s.heap.objs.size,.ref f,.ref s.heap.objs.size],[]⟩) R {s with heap:=x}:=by
  intro R hR x c d h0;refine Em (s:={s with heap:=x}) W hz G (V.length-0) 0 c rfl (bB _) (W.frame _ _ _ g0 λb y o e=>d b o (λq=>G (q▸y)) e) h0 λg v t i0=>hR g v (λb o e=>?_) i0;have y:=aJ e;exact t b o (aQ y) (aQ (c9 y (oO k))) (d b o (aQ y) (a b o (ak _ e)))
 split
 .refine Z (dO ?_)
  unfold Builtin.List.listTouch;apply Z;refine Z (eT p rfl ?_);have u1:(i.update s.heap.objs.size (Obj.mapSeq (·.push Value.none))).get? s.heap.objs.size=some (v9 "list" #[.none] 1):=dh p (·.push Value.none);refine eT (s:={s with heap:=_}) u1 rfl ?_;have u2:=dh u1 (·.pop);refine U ⟨cQ br _,H _ (λg v Y e4=>?_) _ _ (λb o nb e=>?_) u2⟩
  .show wpAny _ A (load s.heap.objs.size>>=_) _ _ _
   exact Z (lV e4 (U (h g Y)))
  .rw[cR _ _ _ _ nb,cR _ _ _ _ nb];exact e
 .refine U ⟨cQ br _,H _ (λg v Y e4=>?_) i _ (λb o _ e=>e) p⟩
  show wpAny _ A (load s.heap.objs.size>>=_) _ _ _;exact Z (lV e4 (U (h g Y)))
theorem D3(n:A.handled=none)(j:d≠f):QC w A f [f,d] (l.toList.map (·.key)) (λi h=>h.get? f=some (Il d i l.size ep)/\h.get? d=some (wj l ep)) where
 mem:=.head _
 frame:=λi h g st k=>⟨k f (by simp) _ st.1,k d (by simp) _ st.2⟩
 next:=λi s E Q st p q r=>MA n st.1 st.2 (λc g t m=>q _ g (by rw[a_,cO,cT c];rfl) ⟨t,by rw[m.2 d j];exact st.2⟩ λb o u e=>by rw[m.2 b u];exact e)
  (λc g a=>r (by simp at p⊢;omega) g a)
theorem FG{Q:Yc->Yy->Prop}(q:A.handled=none)(hd:(d==sysModules)=false)(j:s.heap.get? d=some (wj g l))(r:g.size<=100000)(h:∀n,(∀b o,s.heap.get? b=some o->n.get? b=some o)->Q (g.toList.map (·.key)) {s with heap:=n}):wpAny (model pw w) A (collect (.ref d)) Q E s:=by
 have t:s.TypeIs (.ref d) "dict":=⟨_,j,rfl⟩;refine FD (own:=[d]) (S:=λu i h=>h.get? u=some (Il d i g.size l)/\h.get? d=some (wj g l)) t (by decide) (by decide) (by simpa using r) (λp v x f z k=>?_) (λb y=>by rw[aj.mp y];exact aJ j) (λC v x a k=>?_) h
 .have c:=f _ _ j
  have m:=aJ c;apply Ep (s:={s with heap:=p}) hd c;exact k _ p.objs.size (λb o e=>ak _ e) (ao _) (D3 (ep:=l) q (aQ m)) ⟨aD _ rfl,ak _ c⟩
 .unfold Builtin.List.listLengthHint
  refine Z (cL a zN ?_);dsimp only;rw[show splitId "dict.__len__"=some ("dict","__len__")from by decide+kernel];dsimp only;refine Z (gP (b:=true) a (by rw[m8];kernel_rfl) ?_);simp only[c8,aA,bz];exact Z (d8 a (U (k _)))
theorem H8{S:YB->Nat->YI->Prop}(hT:s.TypeIs (.ref X) T)(I:(Value.type T==.type "list")=false)(M:(Value.type T==.type "tuple")=false)(hz:V.length<=100000)(hL:s.heap.get? L=some (v9 "list" #[] c0))(N:X≠L)(P:L∉own)(h:∀(C:X0) (p:X0),(∀(k:YI) (g:YB),(∀b o,s.heap.get? b=some o->k.get? b=some o)->s.heap.objs.size<=g->QC w A.in1 g (g::own) V (S g)->S g 0 k->p (.ref g) {s with heap:=k})->wpAny (model pw w) A.in1 (pyIter (.ref X)) p C s)(m:∀(E:Yy) (C:X0) (p:Bool->Yy->Prop),E.TypeIs (.ref X) T->(∀b,p b E)->wpAny (model pw w) A.in1 (Builtin.List.listLengthHint (.ref X)) p C E)(hR:∀F y,(∀b o,b≠L->s.heap.get? b=some o->F.get? b=some o)->F.get? L=some (v9 "list" V.toArray y)->R (.ok (.ret u)) {s with heap:=F}):wpAny (model pw w) A.in1 (Builtin.List.listExtendWith (.ref L) (.ref X) u) (λi z=>match i with| .done f=>R (.ok f) z| .again y=>y.quiet=true/\codeAny (model pw w) A y R z) (λe z=>R (.error e) z) s:=by
 have v:=aJ hL;unfold Builtin.List.listExtendWith;refine Z (d8 hT ?_);have h1:Builtin.List.listSameRef (.ref L) (.ref X)=false:=by simp[Builtin.List.listSameRef,N.symm]
 rw[J (by rw[h1,I,M];decide)];refine Z (h _ _ λk g a h W Q=>?_);have l:=a _ _ hL;let⟨ox,Y,a0⟩:=hT;have x:Shared.TypeIs {s with heap:=k} (.ref X) T:=⟨_,a _ _ Y,a0⟩;refine Z (aC (m _ _ _ x λe0=>?_));have j:L∉g::own:=λG=>by
  rcases aG.mp G with e|G
  .exact absurd e (aQ (c9 v h))
  .exact P G
 have i:∀r c,(∀b o,b≠L->k.get? b=some o->r.get? b=some o)->r.get? L=some (v9 "list" #[] c)->
  codeAny (model pw w) A (.builtin "list.extend.loop" ⟨[.ref L,.ref g,u],[]⟩) R {s with heap:=r}:=by
  intro r c d b0;refine Em (s:={s with heap:=r}) W hz j (V.length-0) 0 c rfl (bB _) (W.frame _ _ _ Q λb H o e=>d b o (λq=>j (q▸H)) e) b0 λh4 c4 n d0=>hR h4 c4 (λb o t e=>?_) d0;have H:=aJ e;exact n b o t (aQ (c9 H h)) (d b o t (a b o e))
 split
 .refine Z (dO ?_)
  unfold Builtin.List.listTouch;apply Z;refine Z (eT l rfl ?_);have u1:=dh (c:="list") l (·.push Value.none);refine eT (s:={s with heap:=_}) u1 rfl ?_;have u2:=dh u1 (·.pop);refine U ⟨cQ br _,i _ _ (λb o t e=>?_) u2⟩;rw[cR _ _ _ _ t,cR _ _ _ _ t];exact e
 .exact U ⟨cQ br _,i k _ (λb o _ e=>e) l⟩
theorem Mm(a:s.TypeIs (.ref d) "dict")(k:∀b,Q b s):wpAny (model pw w) A (Builtin.List.listLengthHint (.ref d)) Q E s:=by
 unfold Builtin.List.listLengthHint;refine Z (cL a zN ?_);dsimp only;rw[show splitId "dict.__len__"=some ("dict","__len__")from by decide+kernel];dsimp only;refine Z (gP (b:=true) a (by rw[m8];kernel_rfl) ?_);simp only[c8,aA,bz];exact Z (d8 a (U (k _)))
theorem Dv{j:Nat}(y:A.handled=none)(hd:(d==sysModules)=false)(v:s.heap.get? d=some (wj g j))(z:g.size<=100000)(C:∀l r,(∀b x,s.heap.get? b=some x->l.get? b=some x)->l.get? s.heap.objs.size=some (v9 "list" (g.toList.map (·.key)).toArray r)->Q (.ref s.heap.objs.size) {s with heap:=l}):wpAny (model pw w) A (call (.type "list") [.ref d]) Q E s:=by
 have f:d≠s.heap.objs.size:=λe=>gH _ (e▸aJ v);refine qQ (Q₁:=λm c=>m= .ref s.heap.objs.size/\c={s with heap:=s.heap.push {cls:=.type "list",data:=.seq #[]}}) qX (pQ _) pR
  (code_list_new _ ⟨rfl,rfl⟩) λm c n=>?_
 obtain⟨rfl,rfl⟩:=n;have q:(s.heap.push (v9 "list" #[] 0)).get? s.heap.objs.size=some (v9 "list" #[] 0):=aD _ rfl;refine⟨⟨_,q,rfl⟩,pG _ _,?_⟩;show wpAny _ _ (do let t <-Builtin.List.listItems (.ref s.heap.objs.size);Builtin.List.listUpdate (.ref s.heap.objs.size) (λ_=>#[]);letGo t.toList.reverse;Builtin.List.listExtendWith (.ref s.heap.objs.size) (.ref d) .none) _ _ {s with heap:=s.heap.push (v9 "list" #[] 0)};refine Z (sJ q rfl ?_);refine Z (eT q rfl ?_);have F:=dh (c:="list") q (λ_=>(#[]:Yp));refine Z (i7 ?_);have a:((s.heap.push (v9 "list" #[] 0)).update s.heap.objs.size (Obj.mapSeq λ_=>(#[]:Yp))).get? d=some (wj g j):=by
  rw[cR _ _ _ _ f];exact ak _ v
 refine H8 (s:={s with heap:=(s.heap.push (v9 "list" #[] 0)).update s.heap.objs.size (Obj.mapSeq λ_=>(#[]:Yp))}) (own:=[d]) (S:=λG i h=>h.get? G=some (Il d i g.size j)/\h.get? d=some (wj g j)) (T:="dict") ⟨_,a,rfl⟩ (by decide) (by decide) (V:=g.toList.map (·.key)) (by simpa using z) F f (by simpa using f.symm) (λH I k=>?_) (λN H I L k=>Mm L k) λl r p M=>⟨rfl,?_⟩
 .have u:=aJ a
  apply Ep hd a;exact k _ _ (λb o e=>ak _ e) (ao _) (D3 (ep:=j) y (aQ u)) ⟨aD _ rfl,ak _ a⟩
 .refine C l r (λb o e=>p b o ?_ ?_) M
  .exact aQ (aJ e)
  .rw[cR _ _ _ _ (aQ (aJ e))];exact ak _ e
theorem yd.keys:∀{a:Yk} {l:Yh},yd w g b a l->wR w g b (a.map (·.key)) (l.map (·.1))
 |_,_,.nil=>.nil
 |_,_,.cons k _ _ r=>.cons k r.keys
theorem CE.dict(h:PE w A i u j t d)(hd:yg j d l)(H:l.length<=100000):CE w A i u j t (·=l.map (·.1)):=by
 intro g R y s E Q F q;refine h g R y s E Q F λv m o b x f r=>q v m o b x f λI z=>?_;obtain⟨a,L,n,rfl,e,p,C⟩:=f.G.wc r hd;intro M N k;have P:=p.length;exact FG z C.2 e (by simp;omega) λG c=>k _ {m with heap:=G} o b _ ⟨rfl,rfl,bM _,aE _⟩ (f.G.keep c) (by simpa using p.keys) rfl
theorem FE.list_dict(I:A.handled=none)(L:PV w A b z c (eval (.Name f p) b) (.type "list"))(h:PE w A b z c (eval e b) d)(hd:yg c d l)(Y:l.length<=100000)(M:starEach [e] b=(false,eval e b)::starEach [] b:=by rfl)(i:(backTo t (starEach [e] b)).any (·.1)=false:=by rfl):
 FE w A b z c (zS w) (eval (.Call (.Name f p) [e] [] t) b) λr u=>r=l.map (·.1)/\u=c:=by
 intro g R C s E Q F k;refine dF (L g R C s E _ F λN m P=>dZ i (fE i (arg1 M (h g R C N E _ P λv G S x o q r=>?_))));obtain⟨a,es,n,rfl,e,H,y⟩:=q.G.wc r hd;have hl:=H.length;refine Dv I y.2 e (by simp;omega) λT V j W=>?_;have X:=q.G.keep j;exact k {G with heap:=T} S x G.heap.objs.size _ _ c ⟨(m.trans o).gens,(m.trans o).os,(m.trans o).le,(m.trans o).pre⟩ ⟨X,q.F⟩ (q.G.free (ao _) W) ⟨_,V,rfl,by simpa using H.keys⟩ ⟨rfl,rfl⟩
theorem Lq{T id:String}(n:typeLookup (.type T) "__getitem__"=pure (some (.builtin id)))(h:wpAny (model pw w) A (eval d k) (λo e=>wpAny (model pw w) A (eval (.Slice g j none p) k) (λi a=>a.TypeIs o T/\wpAny (model pw w) A (getItem o i) Q E a) E e) E s):wpAny (model pw w) A (eval (.Subscript d (.Slice g j none p) q) k) Q E s:=by
 rw[eval_Subscript];refine Z (f_ h (λo e l=>Z (aC (f_ l (λi a b=>Z (aX ?_)) λ_ _ x=>x))) λ_ _ x=>x);have c:wpAny (model pw w) A (operate [i,o] (getItem o i)) (λr f=>wpAny (model pw w) A (letTemporaryGo d o r>>=λ_=>pure r) Q E f) E a:=
  wpAny_operating (f_ b.2 (λr f m=>Z (wpAny_letTemporaryGo (U m))) λ_ _ x=>x)
 first
  |(
   refine Z ?_;rw[getitemInPython_of_ne b.1.not_modules];refine Z (cL b.1 n ?_)
   first
    |exact U (Z c)
    |exact Z (U (Z c))
    |exact Z c)
  |(
   refine Z (cL b.1 n ?_)
   first
    |exact Z (U (Z c))
    |exact Z c)
def rI:=@Lq
theorem PE.Lu{c lo:YD}{p o:Pos}{a:Nat}(h:PE w A b G H (eval c b) (.vV ds))(x:PE w A b G H (eval lo b) (.int a))(M:1<=a)(ha:a<=ds.length)(hz:ds.length<=100000):PE w A b G H (eval (.Subscript c (.Slice (some lo) none none p) o) b) (.vV (ds.drop a)):=by
 intro g R N s E Q F k;refine rI h_.lookup (h g R N s E _ F λv P S y i T V=>?_);apply pO;rw[nN];refine x S R y P E _ T λv2 j g2 z f m W=>?_;rw[nO];apply U;apply U;obtain⟨u,rfl⟩:=W.vX;have C:=V.up f;obtain⟨t,d,n,rfl,e,I⟩:=m.G.vV C;have hl:=I.length;have X:=m.G.push {cls:=.type "slice",data:=.fields #[.int a u,.none,.none]};have L:(j.heap.push {cls:=.type "slice",data:=.fields #[.int a u,.none,.none]}).get? t=some (v9 "tuple" d.toArray n):=ak _ e;refine⟨⟨_,L,rfl⟩,?_⟩;refine getItem_tuple_from (tL L) ⟨_,aD _ rfl,rfl,rfl⟩ M (by simp;omega) ?_ (by simp;rw[bA];omega);let⟨Y,G',l,q,r⟩:=rZ (T:="tuple") (s:={j with heap:=j.heap.push {cls:=.type "slice",data:=.fields #[.int a u,.none,.none]}}) X (I.drop a);exact k _ _ Y z ⟨(i.trans f).gens,(i.trans f).os,(i.trans f).le.trans l,(i.trans f).pre⟩ ⟨G',m.F.mono l (aE _)⟩ (.vV q r)
def fO:=@PE.Lu
theorem FE.Lv{d:D}{b:Nat}(h:PE w A c I j (eval i c) d)(hd:xA j d y)(z:PE w A c I j (eval o c) (.int b))(Y:y.length<=100000):FE w A c I j (zS w) (eval (.Subscript i (.Slice none (some o) none p) X) c) λr C=>r=y.take b/\C=j:=by
 intro g R M s E Q F k;refine rI list_getitem_lookup (h g R M s E _ F λv N P G q S T=>pO ?_);rw[nO,nN];apply U;refine z P R G N E _ S λv2 t V H l x W=>U ?_;obtain⟨u,rfl⟩:=W.vX;obtain⟨a,f,n,rfl,e,L⟩:=x.G.vK (T.up l) hd;have hl:=L.length;have o:=(fB e).push {cls:=.type "slice",data:=.fields #[.none,.int b u,.none]};refine⟨o.typeIs,wpAny_getItem_list_slice o (vf ..) .none (.int _ _) .none (by simp) ?_ (by rw[aW,bA];omega)⟩;rw[slicePick_upto'];have m:(t.heap.push {cls:=.type "slice",data:=.fields #[.none,.int b u,.none]}).objs.size=t.heap.objs.size+1:=lX _ _;rw[m];refine k _ V H (t.heap.objs.size+1) (v9 "list" (f.take b).toArray 0) (y.take b) j ⟨(q.trans l).gens,(q.trans l).os,(q.trans l).le,(q.trans l).pre⟩ ⟨(x.G.push _).push _,x.F⟩ (x.G.free (kT _) ?_) ⟨_,0,rfl,L.take b⟩ ⟨rfl,rfl⟩;have:=aD (t.heap.push {cls:=.type "slice",data:=.fields #[.none,.int b u,.none]}) (o:=v9 "list" (f.take b).toArray 0) rfl;rw[m]at this;exact this
def oF:=@FE.Lv
theorem Om(v:f.length+h.length<=1000000):y9 w A C (binaryOp .Add) (.vV f) (.vV h) (.vV (f++h)):=by
 by_cases i:f=[]
 .subst i
  intro g R j s x y E Q G d e k;have p:=e;obtain⟨a,l,m,rfl,e1,n⟩:=G.vV d;obtain⟨b,r,o,rfl,c,t⟩:=G.vV e;cases n;exact concat_meets ⟨_,e1,rfl⟩ ⟨_,c,rfl⟩ noFill_tuple_add seq_tuple_add qa pS (pH _ _)
   (tuple_addW0 a b [].toArray r.toArray m o none none #[] #[] (by simp)) ⟨e1,c,k _ s g j (eU _ _ _) G p⟩
 .by_cases u:h=[]
  .subst u
   intro g R j s x y E Q G d e k;have q:=d;obtain⟨a,l,m,rfl,e1,n⟩:=G.vV d;obtain⟨b,r,o,rfl,c,t⟩:=G.vV e;cases t;have z:l≠[]:=by rintro rfl;exact i (gT.mp n.length.symm)
   refine concat_meets ⟨_,e1,rfl⟩ ⟨_,c,rfl⟩ noFill_tuple_add seq_tuple_add qa pS (pH _ _)
    (tuple_addW1 a b l.toArray [].toArray m o none none #[] #[] (by simpa using z) (by simp)) ⟨e1,c,k _ s g j (eU _ _ _) G ?_⟩
   rw[d7];exact q
  .exact Kh i u v
def qy:=@Om
theorem PB.PY(X:PE w A a p h (eval l a) Y)(hm:PE w A a p h (eval m a) G)(hr:PE w A a p h (eval r a) d3)(h1:y9 w A h (compareOp f) Y G (.bool H))(h2:y9 w A h (compareOp e) G d3 (.bool b2))(hk:lastMarks [f,e] [m,r]=false:=by rfl):PB w A a p h (isTrue (.Compare l [f,e] [m,r] b) a C) (H&&b2):=by
 intro g R ρ s E Q F k;show wpAny _ _ (eval l a>>=λv=>testChain b v [f,e] (markedEach [f,e] [m,r] (evalEach [m,r] a))) Q E s;refine Z (X g R ρ s E _ F λi I g1 u L F1 r1=>?_);rw[nH [f,e] [m,r] _ hk];show wpAny _ _ (do let d <-holding [i] (eval m a);standAt b;let c <-holding [i,d] (compareOp f i d);release [i,d] [c];if<-holding [c,d] (truthy c)then testChain b d [e] (evalEach [r] a)else pure false) Q E I;refine Z (aC (hm g1 R u I E _ F1 λj s2 g2 x q M N=>?_));refine Z (aX (Z (aC (h1 g2 R x s2 i j E _ M.G (r1.up q) N λv t P n o G3 r3=>?_))));rw[r3.yT];refine Z (kZ ?_);refine Z (aC (eO ?_));have S:=M.up o G3;cases H with
 |false=>
  simp only[aA,bz,mZ];exact U (k t P n ((L.trans q).trans o) S)
 |true=>
  simp only[cE,q_];show wpAny _ _ (do let d <-holding [j] (eval r a);standAt b;let c <-operate [j,d] (compareOp e j d);holding [c] (truthy c)) Q E t;refine Z (aC (hr P R n t E _ S λv4 s4 g4 y T V r4=>?_));refine Z (aX (Z (kD (h2 g4 R y s4 j v4 E _ V.G ((N.up o).up T) r4 λv5 s5 g5 z W G5 r5=>?_))));rw[r5.yT];exact aC (eO (k s5 g5 z ((((L.trans q).trans o).trans T).trans W) (V.up W G5)))
theorem Sh(n:0<=i)(o:i<1000000)(b:x.cps[i.toNat]? =some c):y9 w A p getItem (.str x) (.int i) (.str ⟨#[c]⟩):=by
 intro g R d s q r E Q G f h k;obtain⟨t,rfl⟩:=f.wF;obtain⟨u,rfl⟩:=h.vX;have m:i.toNat<x.cps.size:=(qR.mp b).1;have a:(2:Int)^63=9223372036854775808:=by decide
 have e:seqIndex? i x.length=some i.toNat:=by
  have j:x.length=x.cps.size:=rfl;rw[j];have l:i=(i.toNat:Int):=by omega
  rw[l];simp only[cX];unfold seqIndex?;simp;omega
 refine P.getItem_str ?_ ?_ (k _ _ g d cA G (.str _ _))
 .rw[a]
  simp only[Bool.or_eq_false_iff,i_];omega
 .rw[e];exact b
theorem PE.QW(h:PE w A a e f (eval d a) (.str x))(j:PE w A a e f (eval b a) (.int i))(k:0<=i)(l:i<1000000)(m:x.cps[i.toNat]? =some c)(n:∀o i,subscripted b false o i=operate [o,i] (getItem o i):=by intro _ _;rfl):PE w A a e f (eval (.Subscript d b p) a) (.str ⟨#[c]⟩):=nP h j (Sh k l m) (.inr (.inr (.inr ⟨x,rfl⟩))) n
def uY:=@PE.QW
theorem LL:y9 w A σ (compareOp .In) (.str y) (.str x) (.bool (!(Builtin.Str.occurrences x y 0 x.length 1).isEmpty)):=by
 intro g R a s d e E Q G b c k;obtain⟨t,rfl⟩:=b.wF;obtain⟨u,rfl⟩:=c.wF;exact P.in_str (k _ s g a (eU _ _ _) G (.bool _))
def Ag(a:Yx)(b:Bool)(d:YB)(i n c:Nat)(e f:Yx):Obj:={cls:=.type "dict_itemiterator",data:=.fields #[a,.bool b,.ref d,.int i 0,.int n 0,.int c 0,e,f]}
def FW(d:YB):Obj:={cls:=.type "dict_items",data:=.fields #[.ref d]}
theorem Bs:typeLookup (.type "dict_items") "__len__"=pure (some (.builtin "dict_items.__len__")):=PySem.F.slot_dict_items_len.lookup
theorem Hu(h:Q (s.heap.get? a) s):wpAny M A (loadIfAlive a) Q E s:=by
 intro c p b;unfold loadIfAlive;rw[Sem.wp_loadIfAlive];exact h
theorem Jy(b:s.heap.get? v=some (FW d))(c:s.heap.get? d=some (wj f g))(h:Q (.ref s.heap.objs.size) {s with heap:=s.heap.push (Ag .none false d 0 f.size g .none .none)}):wpAny (model pw w) A (pyIter (.ref v)) Q E s:=by
 have e:s.TypeIs (.ref v) "dict_items":=⟨_,b,rfl⟩;refine oN e n5 (bL n5 e PySem.F.entry_dict_items_iter ?_ (PySem.F.args_dict_items_iter_1 _));unfold Builtin.«dict_items.__iter__»;refine Z (U ?_);apply Z;unfold Builtin.Dict_items.dictOf;refine Z (cJ b rfl (x:=.ref d) rfl (U ?_));apply Z;unfold Builtin.Dict_items.newIterator;refine Z (fT c rfl ?_);refine Z (mG c rfl ?_);have a:Builtin.Dict_items.ownsTuple "dict_itemiterator"=true:=by decide
 simp only[a,cE];refine cM (U ⟨_,rfl,"dict_itemiterator",_,⟨_,aD _ rfl,rfl⟩,mJ.lookup,?_⟩)
  (by simp only[sizeOk,Builtin.Dict_items.ownedTupleFields,aW,aF,bO,List.length_nil,bA];omega)
 simpa[rawInt,Builtin.Dict_items.ownedTupleFields,Ag]using h
theorem Di{X:YB->Prop}(hh:A.handled=none)(hX:X s.heap.objs.size)(a0:x= .none\/∃(a:Nat) (o:Obj),x=rawInt a/\a≠j/\s.heap.get? a=some o/\X a)(m:s.heap.get? j=some (Ag x N d i f.size P y z))(ho:s.heap.get? d=some (wj f P))(T:∀(h:i<f.size) r (a:Nat) (o:Obj) b0 c0 d0,r.get? j=some (Ag (rawInt a) b0 d (i+1) f.size P c0 d0)->a≠j->r.get? a=some o->X a->r.get? s.heap.objs.size=some (zP [f[i].key,f[i].val])->(∀b o,b≠j->s.heap.get? b=some o->r.get? b=some o)->Q (some (.ref s.heap.objs.size)) {s with heap:=r})(h2:f.size<=i->∀r,(∀b o,b≠j->s.heap.get? b=some o->r.get? b=some o)->Q none {s with heap:=r}):wpAny (model pw w) A (pyNext (.ref j)) Q E s:=by
 have g:s.TypeIs (.ref j) "dict_itemiterator":=⟨_,m,rfl⟩;have u:=aJ m;apply qx g mJ PySem.F.entry_dict_itemiterator_next (PySem.F.args_dict_itemiterator_next_1 _);refine Z (U ?_);apply Z;apply Z
 first|refine Z (jE g (U ?_))|refine Z (kN g (U ?_))
 refine Z (qP m rfl ?_);have M:Builtin.Dict_items.ownsTuple "dict_itemiterator"=true:=by decide
 simp only[M,cE];show wpAny _ _ (if(Value.ref d==Value.none)=true then _ else _) _ _ _;rw[J (show¬((Value.ref d==Value.none)=true)from cD)];refine Z (U ?_);refine Z (fT ho rfl ?_);rw[J (by simp)];refine Z (U ?_);refine Z (mG ho rfl ?_);rw[J (by simp)];apply U;by_cases c:i<f.size
 .simp only[show¬((i:Int)<0)from by omega,bz,cX,cT c]
  apply Z
  first|refine Z (jE g (U ?_))|refine Z (kN g (U ?_))
  refine Z (mw g ?_);show wpAny _ _ (setField (.ref j) 3 (rawInt ((i:Int)+1))>>=_) _ _ s;refine Z (dM m (by simp) λl g3 R=>?_);have G:l.get? j=some (Ag x N d (i+1) f.size P y z):=by rw[g3];simp[Ag,rawInt]
  have H:Shared.TypeIs {s with heap:=l} (.ref j) "dict_itemiterator":=⟨_,G,rfl⟩;refine Z (aC ?_);refine Z (mw H ?_);refine Z (mw H ?_);show wpAny _ _ (Builtin.Dict_items.pairFromOwner (.ref j) 6 f[i].key f[i].val) _ _ {s with heap:=l};unfold Builtin.Dict_items.pairFromOwner;have I:l.objs.size=s.heap.objs.size:=R.1;refine Z (uf (by simp) ?_);have t:(l.push (zP [f[i].key,f[i].val])).get? j=some (Ag x N d (i+1) f.size P y z):=ak _ G;have S:(l.push (zP [f[i].key,f[i].val])).get? s.heap.objs.size=some (zP [f[i].key,f[i].val]):=by rw[<-I];exact aD _ rfl
  have C:∀b o,b≠j->s.heap.get? b=some o->(l.push (zP [f[i].key,f[i].val])).get? b=some o:=λb o n e=>ak _ (by rw[R.2 b n];exact e);show wpAny _ _ (Builtin.Dict_items.ownedTupleIsFree (.ref j)>>=_) _ _ {s with heap:=l.push (zP [f[i].key,f[i].val])};have e5:({s with heap:=l}:Yy).heap.objs.size=s.heap.objs.size:=I;rw[e5];generalize l.push (zP [f[i].key,f[i].val])=V at t S C;apply Z;unfold Builtin.Dict_items.ownedTupleIsFree;refine Z (cJ t rfl (x:=x) rfl ?_);rcases a0 with rfl|⟨a,W,rfl,p,e0,L⟩
  .apply U
   simp only[cE];refine Z (cJ t rfl (x:=y) rfl ?_);refine Z (cJ t rfl (x:=z) rfl ?_);refine Z (dM t (by simp) λY g5 F=>?_);refine Z (dM (s:={s with heap:=Y}) g5 (by simp) λh6 g6 s6=>?_);refine Z (dM (s:={s with heap:=h6}) g6 (by simp) λh7 g7 s7=>?_);refine Z (dM (s:={s with heap:=h7}) g7 (by simp) λh8 g8 s8=>?_);have sb:=((F.trans s6).trans s7).trans s8;have tt:h8.get? s.heap.objs.size=some (zP [f[i].key,f[i].val]):=by rw[sb.2 _ (fq u)];exact S
   refine Z (i7 (U (U ⟨_,rfl,T c h8 s.heap.objs.size _ false f[i].key f[i].val ?_ (fq u) tt hX tt ?_⟩)))
   .rw[g8];simp[Ag,rawInt]
   .exactλb o n e=>by rw[sb.2 b n];exact C b o n e
  .have v:=C a W p e0
   simp only[rawInt,cX];refine Z (Hu ?_);rw[v];simp only[ve,aA,bz];refine Z (cJ t rfl (x:=.bool N) rfl ?_);cases N with
   |true=>
    rw[J (by decide)];apply U;simp only[aA,bz];exact U (U ⟨_,rfl,T c V a W true y z t p v L S C⟩)
   |false=>
    rw[B (by decide)];refine Z (dM t (by simp) λY g5 F=>?_);apply U;simp only[aA,bz];refine U (U ⟨_,rfl,T c Y a W true y z ?_ p (by rw[F.2 a p];exact v) L (by rw[F.2 _ (fq u)];exact S) λb o n e=>by rw[F.2 b n];exact C b o n e⟩);rw[g5];simp[Ag,rawInt]
 .simp only[show¬((i:Int)<0)from by omega,bz,cX,jo (fc c)]
  apply Z
  first|refine Z (jE g (U ?_))|refine Z (kN g (U ?_))
  show wpAny _ _ (setField (.ref j) 2 .none>>=_) _ _ s;refine Z (dM m (by simp) λl g3 R=>?_);refine qJ (s:={s with heap:=l}) hh λV e k f0=>⟨f0,?_⟩;exact h2 (fc c) V λb o n q=>k b o (by rw[R.2 b n];exact q)
structure Off(g R:YH)(ρ:X_)(σ:St)(a:YB):Prop where
 g:g a=none
 R:R a=none
 cell:∀n c,σ.μ n=some c->ρ[n]? ≠some a
theorem GS.offset{as:X_}(G:GS w g R i j h)(f:∀a∈as,Off g R i j a)(k:∀b o,b∉as->h.get? b=some o->m.get? b=some o):GS w g R i j m:=by
 have p:∀b x,g b=some x->b∉as:=λb x e d=>by rw[(f b d).g]at e;cases e
 have r:∀b x,R b=some x->b∉as:=λb x e d=>by rw[(f b d).R]at e;cases e
 refine⟨G.base,λb x q=>k _ _ (p b x q) (G.sub b x q),λb x q=>k _ _ (r b x q) (G.rest b x q),G.gR,λn c q=>?_,G.inj,G.low⟩;let⟨b,x,l,s,t,u,v⟩:=G.cell n c q;exact⟨b,x,l,k _ _ (λd=>(f b d).cell n c q l) s,t,u,v⟩
theorem GS.AH(G:GS w g R f i h)(j:h.objs.size<=a):Off g R f i a:=
 have n:h.get? a=none:=cu j
 ⟨G.zZ n,G.yt n,λm c q r=>by let⟨b,x,d,e,_⟩:=G.cell m c q;rw[r]at d;cases d;rw[n]at e;cases e⟩
def xC(p:D×D):D:=.vV [p.1,p.2]
theorem yd.at:∀{d:Yk} {l:Yh},yd w g f d l->∀{i:Nat} {e:YF},d[i]? =some e->∃p,l[i]? =some p/\Rd w g f e.key p.1/\Rd w g f e.val p.2
 |_,_,.nil,i,e,h=>by simp at h
 |_::_,(k,v)::_,.cons a b c r,0,e,h=>by simp at h;subst h;exact⟨(k,v),by simp,a,b⟩
 |_,_,.cons a b c r,i+1,e,h=>by simp at h;let⟨p,x,y⟩:=r.at h;exact⟨p,by simpa using x,y⟩
theorem Mu(hh:A.in1.handled=none)(hz:m.size<=100000)(H:L≠x):∀(k i:Nat) (s:Yy) (c:Nat) (g:YH) (j:Yc) (P ok ov:Yx) (fl:Bool),m.size-i=k->i<=m.size->GS w g R t y s.heap->Off g R t y x->Off g R t y L->g d=some (wj m ep)->yd w g t m.toList l->(P= .none\/∃(a:Nat) (o:Obj),P=rawInt a/\a≠x/\s.heap.get? a=some o/\a≠L)->s.heap.get? x=some (Ag P fl d i m.size ep ok ov)->s.heap.get? L=some (v9 "list" j.toArray c)->wR w g t j ((l.take i).map xC)->j.length=i->(∀r c' g' E,View.le g g'->GS w g' R t y r->Off g' R t y L->r.get? L=some (v9 "list" E.toArray c')->wR w g' t E (l.map xC)->Rr (.ok (.ret g0)) {s with heap:=r})->codeAny (model pw w) A (.builtin "list.extend.loop" ⟨[.ref L,.ref x,g0],[]⟩) Rr s:=by
 intro k;induction k with
 |zero=>
  intro i s c g j P ok ov fl hk hi G z oL hd Q I C M rl F hR;obtain rfl:i=m.size:=by omega
  apply b8 fh;rw[bJ br _];show wpAny _ A.in1 (pyNext (.ref x)>>=_) _ _ s;refine Z (Di (X:=(·≠L)) hh (fq (aJ M)) I C (G.sub _ _ hd) (λh=>absurd h (gH _)) λ_ r n=>?_);have w0:l.length=m.size:=by have:=Q.length;simpa using this.symm
  rw[dG (by omega)]at rl;exact U (hR r c g j (bM _) (G.offset (as:=[x]) (λa S=>by rw[aj.mp S];exact z) λb o v e=>n b o (by simpa using v) e) oL (n _ _ H M) rl)
 |succ k ih=>
  intro i s c g j P ok ov fl hk hi G z oL hd Q I C M rl F hR;have h0:i<m.size:=by omega
  apply b8 fh;rw[bJ br _];show wpAny _ A.in1 (pyNext (.ref x)>>=_) _ _ s;refine Z (Di (X:=(·≠L)) hh (fq (aJ M)) I C (G.sub _ _ hd) (λi0 r a o j0 k0 l0 a0 m0 n0 T ht n=>?_) λq=>by omega);have V:=n _ _ H M;have G1:GS w g R t y r:=G.offset (as:=[x]) (λa S=>by rw[aj.mp S];exact z) λb o v e=>n b o (by simpa using v) e;have on:Off g R t y s.heap.objs.size:=G.AH (ao _);let⟨G2,N⟩:=G1.AE ⟨ht,on.g,on.R,on.cell,G.high (ao _)⟩;show wpAny _ A.in1 (updateSeq L (·.push (Value.ref s.heap.objs.size))>>=_) _ _ {s with heap:=r};refine Z (jS V rfl ?_ (by simp;rw[bA];omega) (by show(j.toArray.push _).size<=sizeLine+1;rw[mF,bA];simp;omega));have o0:=dh (h:=r) (c:="list") V (·.push (Value.ref s.heap.objs.size));have b0:=aJ M;have c0:=aJ C;have u:∀{b},b≠s.heap.objs.size->Off g R t y b->Off (ins g s.heap.objs.size (zP [m[i].key,m[i].val])) R t y b:=λv f=>⟨by rw[lP v];exact f.g,f.R,f.cell⟩;have W:=u (aQ b0) oL;have d0:=u (aQ c0) z;have X:=bY r L (Obj.mapSeq (·.push (Value.ref s.heap.objs.size)));have G3:GS w (ins g s.heap.objs.size (zP [m[i].key,m[i].val])) R t y (r.update L (Obj.mapSeq (·.push (Value.ref s.heap.objs.size)))):=
   G2.offset (as:=[L]) (λa S=>by rw[aj.mp S];exact W) λb o v e=>by rw[X.2 b (by simpa using v)];exact e
  let⟨p,hp,rk,rv⟩:=Q.at (i:=i) (e:=m[i]) (by rw[cO];simp[i0]);have rt:Rd w (ins g s.heap.objs.size (zP [m[i].key,m[i].val])) t (Value.ref s.heap.objs.size) (xC p):=
   .vV ⟨0,gM _ _ _⟩ (.cons (rk.mono N (aE _)) (.cons (rv.mono N (aE _)) .nil))
  have Y:i<l.length:=by have:=Q.length;simp at this;omega
  have p0:l[i]=p:=by rw[au Y]at hp;exact dI hp
  have q0:wR w (ins g s.heap.objs.size (zP [m[i].key,m[i].val])) t (j++[Value.ref s.heap.objs.size]) ((l.take (i+1)).map xC):=by
   rw[fz Y,aL,p0];exact(rl.mono N (aE _)).append (.cons rt .nil)
  have e0:(r.update L (Obj.mapSeq (·.push (Value.ref s.heap.objs.size)))).get? L=some (v9 "list" (j++[Value.ref s.heap.objs.size]).toArray (if(j.toArray.push (Value.ref s.heap.objs.size)).size==j.toArray.size then c else c+1)):=by
   rw[o0,ir];rfl
  have v:∀b,b≠L->(r.update L (Obj.mapSeq (·.push (Value.ref s.heap.objs.size)))).get? b=r.get? b:=λb q=>X.2 b q;refine U ⟨cQ br _,ih (i+1) {s with heap:=r.update L (Obj.mapSeq (·.push (Value.ref s.heap.objs.size)))} _ (ins g s.heap.objs.size (zP [m[i].key,m[i].val])) (j++[Value.ref s.heap.objs.size]) (rawInt a) k0 l0 j0 (by omega) h0 G3 d0 W (N _ _ hd) (Q.mono N (aE _)) (.inr ⟨a,o,rfl,m0,by rw[v a T];exact n0,T⟩) (by rw[v x H.symm];exact a0) e0 q0 (by simp[F]) λh3 c3 g3 f0 r0 G4 s0 t0 u0=>hR h3 c3 g3 f0 (N.trans r0) G4 s0 t0 u0⟩
theorem JC(a:s.TypeIs (.ref d) "dict_items")(k:∀b,Q b s):wpAny (model pw w) A (Builtin.List.listLengthHint (.ref d)) Q E s:=by
 unfold Builtin.List.listLengthHint;refine Z (cL a Bs ?_);dsimp only;rw[show splitId "dict_items.__len__"=some ("dict_items","__len__")from by decide+kernel];dsimp only;refine Z (gP (b:=true) a (by rw[m8];kernel_rfl) ?_);simp only[c8,aA,bz];exact Z (d8 a (U (k _)))
theorem AY(X:A.in1.handled=none)(Y:j.size<=100000)(G:GS w g R n C s.heap)(T:Off g R n C L)(E:s.heap.get? v=some (FW d))(hd:g d=some (wj j p))(hE:yd w g n j.toList l)(I:s.heap.get? L=some (v9 "list" #[] c0))(hR:∀t q r h,View.le g r->GS w r R n C t->Off r R n C L->t.get? L=some (v9 "list" h.toArray q)->wR w r n h (l.map xC)->Rr (.ok (.ret x)) {s with heap:=t}):wpAny (model pw w) A.in1 (Builtin.List.listExtendWith (.ref L) (.ref v) x) (λk F=>match k with| .done f=>Rr (.ok f) F| .again q=>q.quiet=true/\codeAny (model pw w) A q Rr F) (λe F=>Rr (.error e) F) s:=by
 have z:=aJ I;have hT:s.TypeIs (.ref v) "dict_items":=⟨_,E,rfl⟩;have M:v≠L:=by
  rintro rfl;have e:Value.type "dict_items"=Value.type "list":=aU Obj.cls (dI (E.symm.trans I));injection e with e
  exact absurd e (by decide)
 unfold Builtin.List.listExtendWith;refine Z (d8 hT ?_);have h1:Builtin.List.listSameRef (.ref L) (.ref v)=false:=by simp[Builtin.List.listSameRef,M.symm]
 rw[J (by rw[h1];decide)];refine Z (Jy E (G.sub _ _ hd) ?_);have G2:=G.push (Ag .none false d 0 j.size p .none .none);have N:Off g R n C s.heap.objs.size:=G.AH (ao _);have m:(s.heap.push (Ag .none false d 0 j.size p .none .none)).get? L=some (v9 "list" #[] c0):=ak _ I;have P:(s.heap.push (Ag .none false d 0 j.size p .none .none)).get? s.heap.objs.size=some (Ag .none false d 0 j.size p .none .none):=aD _ rfl;have Q:Shared.TypeIs {s with heap:=s.heap.push (Ag .none false d 0 j.size p .none .none)} (.ref v) "dict_items":=⟨_,ak _ E,rfl⟩;refine Z (aC (JC Q λW=>?_));have y:L≠s.heap.objs.size:=aQ z;have k:∀u c,(∀b,b≠L->u.get? b=(s.heap.push (Ag .none false d 0 j.size p .none .none)).get? b)->u.get? L=some (v9 "list" #[] c)->
  codeAny (model pw w) A (.builtin "list.extend.loop" ⟨[.ref L,.ref s.heap.objs.size,x],[]⟩) Rr {s with heap:=u}:=by
  intro u c i S;refine Mu X Y y (j.size-0) 0 {s with heap:=u} c g [] .none .none .none false rfl (bB _) (G2.offset (λa ha=>by rw[aj.mp ha];exact T) λb o H e=>by rw[i b (by simpa using H)];exact e) N T hd hE (.inl rfl) (by rw[i _ y.symm];exact P) S .nil rfl λt q r h le G' o' e' r'=>hR t q r h le G' o' e' r'
 split
 .refine Z (dO ?_)
  unfold Builtin.List.listTouch;apply Z;refine Z (eT m rfl ?_);have V:=dh m (·.push Value.none);refine eT V rfl ?_;have u2:=dh V (·.pop);refine U ⟨cQ br _,k _ _ (λb H=>?_) u2⟩;rw[cR _ _ _ _ H,cR _ _ _ _ H]
 .exact U ⟨cQ br _,k _ _ (λb _=>rfl) m⟩
theorem BO(hd:(d==sysModules)=false)(b:s.heap.get? d=some (wj c e))(h:Q (.ref s.heap.objs.size) {s with heap:=s.heap.push (FW d)}):wpAny (model pw w) A (call (.builtin "dict.items") [.ref d]) Q E s:=by
 have a:s.TypeIs (.ref d) "dict":=⟨_,b,rfl⟩;refine bL pT a PySem.F.entry_dict_items ?_ (PySem.F.args_dict_items_1 _);unfold Builtin.«dict.items»;apply Z;unfold Builtin.Dict.noArgs;refine Z (fH a ?_);show wpAny _ _ (pure d) _ _ s;apply U;show wpAny _ _ (Builtin.Dict.showsAll d>>=_) _ _ s;unfold Builtin.Dict.showsAll;rw[J (by rw[hd];exact cD)];refine Z (U ?_);exact Z (cM (U ⟨_,rfl,h⟩))
theorem M5.items(F:A.handled=none)(H:C.size<=100000)(G:GS w g R i x s.heap)(I:s.heap.get? v=some (FW d))(hd:g d=some (wj C N))(L:yd w g i C.toList l):M5 w A x g R i s (.ref v) (·=l.map xC):=by
 intro E Q k;unfold collect;refine Z (m7 (b8 jC ?_));rw[bJ jD _];show wpAny _ A.in1 (newList []>>=λl=>again (.builtin "list.__iadd__" ⟨[l,.ref v],[]⟩)) _ _ s;refine Z (cM ?_);refine U ⟨cQ fM _,b8 kH ?_⟩;rw[bJ fM _];have y:(s.heap.push (v9 "list" #[] 0)).get? s.heap.objs.size=some (v9 "list" #[] 0):=aD _ rfl;show wpAny _ A.in1 (Builtin.List.listExtendWith (.ref s.heap.objs.size) (.ref v) (.ref s.heap.objs.size)) _ _ {s with heap:=s.heap.push (v9 "list" #[] 0)};have t:∀b a h c,View.le g c->GS w c R i x b->b.get? s.heap.objs.size=some (v9 "list" a.toArray h)->wR w c i a (l.map xC)->
  wpAny (model pw w) A (load s.heap.objs.size>>=λo=>match o.data with| .seq M _=>pure M.toList|_=>unsupported "internal:collect") Q E {s with heap:=b}:=λb a h c j m n p=>
  Z (lV n (U (k a {s with heap:=b} c i _ ⟨rfl,rfl,j,aE _⟩ m p rfl)))
 refine f_ (AY (Rr:=λr u=>r= .ok (.ret (.ref s.heap.objs.size))/\∃b a h c,u={s with heap:=b}/\View.le g c/\GS w c R i x b/\b.get? s.heap.objs.size=some (v9 "list" a.toArray h)/\wR w c i a (l.map xC))
  F H (G.push _) (G.AH (ao _)) (ak _ I) hd L y λb h c a j m P n p=>⟨rfl,b,a,h,c,rfl,j,m,n,p⟩) (λz u q=>?_) (λe u q=>by cases q.1)
 cases z with
 |done f=>
  obtain⟨e1,b,a,h,c,rfl,j,m,n,p⟩:=q;cases e1;exact t b a h c j m n p
 |again h=>
  refine⟨q.1,sM q.2 λr u q=>?_⟩;obtain⟨e1,b,a,h,c,rfl,j,m,n,p⟩:=q;cases e1;exact t b a h c j m n p
theorem callWith_cls(b:c.any (·.1)=false)(d:keepIn (KF w) (.ref C)=true)(h:wpAny (model pw w) A (spliced c) (λe a=>(KF w).In a.heap/\wpAny (model pw w) A (call (.ref C) (first++e)) Q E a) E s):wpAny (model pw w) A (callWith f (.ref C) first c []) Q E s:=callWith_of (by rw[b];rfl) (keeps_K d) (fE b h)
theorem GE.call_cls(x:PV w A a o q (eval (.Name f p) a) (.ref C))(y:keepIn (KF w) (.ref C)=true)(z:we n A)(G:Aj w A a o q (backTo c (starEach b a)) λr h=>CF w n (.ref C) r h P)(i:(backTo c (starEach b a)).any (·.1)=false:=by rfl):
 GE w A a o q (eval (.Call (.Name f p) b [] c) a) P:=by
 intro g R t s E Q F k;refine dF (x g R t s E _ F λH I L=>callWith_cls i y (G g R t H E _ L λM N S j r a0 T e V W=>⟨e.G.ok.k,?_⟩));exact W.og z S R j N M E _ e.G V λv X Y l d m u G3 r3 hp=>k v X Y l d m ((I.trans T).trans u) (e.up u G3) r3 hp
def mY:=@GE.call_cls
theorem CF.make(z:∀w:Yz,makesIn (KF w) C=true)(E:∀w:Yz,findIn (KF w) (.ref C) "__init__"=some (some (.ref fI)))(F:∀w:Yz,typeIn (KF w) (.ref fI)=some (.type "function"))(h:∀x j,l.μ x=none->l.μ j=none->x≠j->CF w n (.ref fI) (.ref x::f) ((l.put j (.ns [])).put x (.inst C j)) λd b=>d= .none/\P (.ref x) b):CF w (n+1) (.ref C) f l P:=by
 intro A m g R e s H RR G I k;let⟨a,L,d,t,os⟩:=s;have p:we n (A.under (.builtin "type.__call__" ⟨.ref C::H,[]⟩)):=⟨m.handled,by rw[depth_under_make];have:=m.depth;omega,by rw[units_under_make];have:=m.units;omega⟩;apply make_core (makes_of G.ok.k (z w)) (looks_findIn G.ok.k (E w)) (λi=>bind_fn G.ok.k i (F w)) (.inl rfl);dsimp only at G;have M:=G.push emptyDict;have N:=G.free (h':=a.push emptyDict) (ao _) (aD _ rfl);have e1:=M.x6 N (.ns .nil cF);have Q:=e1.push (instObj C a.objs.size);have S:=e1.free (h':=(a.push emptyDict).push (instObj C a.objs.size)) (ao _) (aD _ rfl);have o:=Q.x6 S (c:=.inst C e.length) (.inst (by simp));rw[aF,ia]at o;have T:=G.yu;have V:l.μ (e.length+1)=none:=by
  have:=e1.yu;rw[aF,ia,dD (by omega)]at this;exact this
 have c:e<+:e++[a.objs.size]++[(a.push emptyDict).objs.size]:=⟨[a.objs.size,(a.push emptyDict).objs.size],by simp⟩;rw[fQ]at o c;have y:Rd w g (e++[a.objs.size]++[a.objs.size+1]) (.ref (a.objs.size+1)) (.ref (e.length+1)):=.ref (by simp);refine h _ _ V T (by omega) _ p g R _ ⟨(a.push emptyDict).push (instObj C a.objs.size),L,d,t,os⟩ _ _ o (.cons y (I.mono (bM g) c)) λv W X u dd b x Y r q=>?_;obtain⟨rfl,q⟩:=q;refine⟨r.z_,k _ W X u _ b ⟨x.gens,x.os,x.le,c.trans x.pre⟩ Y (y.up x) q⟩
def sC:=@CF.make
def ST(w:Yz)(A:YA)(c:Env)(m:Md)(n:St)(k:List Stmt)(t:Sem Flow)(N:Md->St->Prop)(P:X5):Prop:=
 ∀(g R:YH) (l:X_) (s:Yy) (E:X0) (Q:Flow->Yy->Prop),FS w g R l n c m s.heap->
  (∀(f:Yy) (h i:YH) (b:X_) (j:Md) (e:St),Gr s g l f h b->FS w h i b e c j f.heap->(∀a,¬x8 c a->i a=R a)->N j e->Q .next f)->
  (∀(v:Yx) (f:Yy) (h i:YH) (b:X_) (d:D) (e:St),Gr s g l f h b->GS w h i b e f.heap->(∀a,¬x8 c a->i a=R a)->Rd w h b v d->P d e->Q (.ret v) f)->
  _root_.PySem.wpAt (model pw w) A (.func k c) t Q E s
theorem SE.st(h:SE w A a c d t N P):ST w A a c d b t N P:=λg R e s E Q F f i=>_root_.PySem.wpAt_of_wpAny (h g R e s E Q F f i)
def tG:=@SE.st
theorem ST.cons{st:Stmt}(h:ST w A c V W f (exec st c) M P)(r:∀e b,M e b->ST w A c e b f (execs p c) N P):ST w A c V W f (execs (st::p) c) N P:=by
 intro g R X s E Q F Y T;refine ks_wpAt_execs_cons (h g R X s E _ F (λt u z i e b x F' q m=>?_) λv t u z i d b x G q C y=>?_)
 .exact r e b m u z i t E Q F' (λH I R2 j S k L F2 l n=>Y H I R2 j S k (x.trans L) F2 (λa o=>(l a o).trans (q a o)) n)
   λv H I R2 j d k L G2 l C y=>T v H I R2 j d k (x.trans L) G2 (λa o=>(l a o).trans (q a o)) C y
 .exact T v t u z i d b x G q C y
def nj:=@ST.cons
def GT(w:Yz)(A:YA)(a:Env)(i:Md)(k:St)(e:List Stmt)(t:Yq)(P:X5):Prop:=
 ∀(g R:YH) (j:X_) (s:Yy) (E:X0) (Q:X0),FS w g R j k a i s.heap->
  (∀v f h b d c,Gr s g j f h b->FS w h R b c a i f.heap->Rd w h b v d->P d c->Q v f)->_root_.PySem.wpAt (model pw w) A (.func e a) t Q E s
theorem ST.ret(h:GT w A a i j b (eval e a) P):ST w A a i j b (exec (.Return (some e) p) a) N P:=λg R k s E Q F q l=>
 ks_wpAt_Return_some (h g R k s E _ F λv m n c d f x o r y=>l v m n R c d f x o.G (λ_ _=>rfl) r y)
theorem ST.expr(h:GT w A a f k c (eval e a) λ_ b=>N f b)(l:interactive a=false)(m:swapsWith e none i.line a=pure false:=by rfl):ST w A a f k c (exec (.Expr e i) a) N P:=λg R n s E Q F o u=>
 ks_wpAt_Expr_any (h g R n s E _ F λv p q j d b x t r y=>o p q R j f b x t (λ_ _=>rfl) y) l m
structure J2(w:Yz)(a:YB)(fd:FuncData)(S:Scope)(cc D C:YB)(name:Str)(f2:YB)(fd2:FuncData):Prop where
 k:BI w a fd
 sc:fd.scope=S
 Qo:fd.closure=[(("__class__":Str),cc)]
 hks:S.names.lookup ("super":Str)=some .globalImplicit
 hkc:S.names.lookup ("__class__":Str)=some .free
 hka:S.names.lookup ("self":Str)=some .local
 hk:S.kind= .function
 hat:(name==("__class__":Str))=false
 hp:∃ar,(fd.params.posonlyargs++fd.params.args).head?=some ar/\ar.arg="self"
 W2:∃cda ccl cdd vs ccs file tf,fd.code= .ref cda/\(KF w).lookup cda=some ⟨ccl,cdd,.fields vs,ccs⟩/\vs[2]? =some (.str file tf)/\((pw.main.file:Str)==file)=true
 top:(pw.main.scope.names.lookup ("super":Str)).isSome=false
 cell:∃cl cld csl,(KF w).lookup cc=some ⟨cl,cld,.cell (some (.ref D)),csl⟩
 hD:∃cd,clsIn (KF w) D=some cd
 hC:∃cd,clsIn (KF w) C=some cd/\alongIn (KF w) name ((cd.mro.dropWhile (·!=.ref D)).drop 1)=some (some (.ref f2))
 sub:mroIn (KF w) C (.ref D)=some true
 any:nsIn (KF w) cStatics "thirdparty.any"=some none
 sup:nsIn (KF w) mainGlobals "super"=some none
 k2:BI w f2 fd2
theorem GT.super{cc D C:YB}(i:J2 w a fd S cc D C f0 r b1)(he:yX fd a f)(h0:f.cells.lookup ("__class__":Str)=some cc)(hx:md.lookup ("self":Str)=some (.ref n))(hi:W.μ n=some (.inst C m))(hr:we k A)(ha:Aj w A f md W (backTo l (starEach p f)) λds i0=>CF w k (.ref r) (.ref n::ds) i0 P)(a0:(backTo l (starEach p f)).any (·.1)=false:=by rfl)(hf:methodCallForm (p.length+([]:List Keyword).length) (backTo l (starEach p f)) (backToKw l (keywordEach [] f))=true:=by rfl)(L:(H.endLine==l.line)=true:=by rfl):
 GT w A f md W z0 (eval (.Call (.Attribute (.Call (.Name "super" p0) [] [] p1) f0 H) p [] l) f) P:=by
 intro g R ρ s E Q F q;have N:∀x,f.kindOf x=S.names.lookup x:=λx=>by unfold Env.kindOf;rw[he.scope,i.sc]
 let⟨ar,hp,j0⟩:=i.hp;let⟨d1,f1,g1,vs,h1,a1,tf,c1,c2,c3,c4⟩:=i.W2;let⟨cl,i1,j1,M⟩:=i.cell;let⟨k0,hD⟩:=i.hD;let⟨l0,hC,m0⟩:=i.hC;have I:f.scope.kind= .function:=F.F.fn;have X:=F.G.ok.k;let⟨u,o,e1,e2,e3,_⟩:=F.G.cell n _ hi;let⟨mm,hm,n0⟩:=Fm.ns F;let⟨y0,hv,rv⟩:=n0 "self" _ hx (by rw[N];exact i.hka);cases rv with
 |ref b0=>
 rw[e1]at b0;cases b0;cases e3 with
 |inst k1=>
 let⟨hh,gn,d,t,os⟩:=s;dsimp only at F X e2 hm;obtain⟨oD,c0,d0⟩:∃oD,hh.get? D=some oD/\oD.data= .cls k0:=by
  unfold clsIn at hD;split at hD
  .rename_i c d o0 sl ho
   cases hD
   exact⟨_,X _ _ ho,rfl⟩
  .cases hD
 have q0:u≠C:=by
  rintro rfl;unfold clsIn at hC;split at hC
  .rename_i c d o0 sl ho
   have e:=X _ _ ho;rw[e2]at e;cases e
  .cases hC
 rw[nK];refine _root_.PySem.wpAt_bind (ks_wpAt_super_base (env:=f) (by rw[N];exact i.hks) (by rw[N];exact i.hkc) i.hat he.func (X _ _ i.k) rfl hp (he.code.trans c1) (X _ _ c2) rfl c3 c4 i.top ?_);let⟨mb,nb,r0⟩:=F.G.ok.b;rw[qZ I (by rw[N];exact i.hks)];unfold loadGlobal;rw[F.F.gl,F.F.bi];refine Z ((uS X i.sup).here (Z (wpAny_nsGet nb ?_)));rw[r0 "super" (by decide),show bootBuiltins "super"=some (.type "super")from by rfl];refine U ⟨rfl,?_⟩;apply ux I (by rw[N];exact i.hkc) h0 ⟨_,X _ _ M,rfl⟩;rw[j0];apply ur I (by rw[N];exact i.hka) hm hv;refine ks_wpAny_isType_cls c0 d0 ⟨rfl,?_⟩;refine ks_wpAny_call_super c0 d0 e2 rfl (λc e=>by cases e) (looks_mroIn X i.sub) (λj s0 G=>?_);have Y:(KF w).In j:=λb o e=>G _ _ (X _ _ e);refine _root_.PySem.wpAt_of_wpAny (Z (aX ?_));have g0:methodCallPos true (.Call (.Name "super" p0) [] [] p1) f H l=pure l:=by unfold methodCallPos;simp[L]
 unfold methodCall;rw[hf];refine Z (aC (ks_wpAny_getMethod_super (l₀:=l0.mro) s0 (looks_opaque Y i.any) (λA Q E s k q=>Z ((looks_clsIn Y hC) A _ E s k (U q))) rfl Y m0 (Y _ _ i.k2) rfl q0 i.hat ?_));refine Z (kR g0 ?_);have kq:∀b o,hh.get? b=some o->(j.push (methodObj (.ref r) (.ref u))).get? b=some o:=λb o e=>ak _ (G _ _ e);have F1:FS w g R ρ W f md (j.push (methodObj (.ref r) (.ref u))):=⟨F.G.keep kq,F.F⟩;have eq:(j.push (methodObj (.ref r) (.ref u))).get? j.objs.size=some (methodObj (.ref r) (.ref u)):=aD _ rfl;have gq:g j.objs.size=none:=by
  cases z:g j.objs.size with
  |none=>rfl
  |some y=>exact absurd (aJ (G _ _ (F.G.sub _ _ z))) (gH _)
 have Rq:R j.objs.size=none:=by
  cases z:R j.objs.size with
  |none=>rfl
  |some y=>exact absurd (aJ (G _ _ (F.G.rest _ _ z))) (gH _)
 have cq:∀n c,W.μ n=some c->ρ[n]? ≠some j.objs.size:=λn c z y=>by
  let⟨a',o',z1,z2,_⟩:=F.G.cell n c z;rw[y]at z1;cases z1;exact absurd (aJ (G _ _ z2)) (gH _)
 have G2:GS w (ins g j.objs.size (methodObj (.ref r) (.ref u))) R ρ W (j.push (methodObj (.ref r) (.ref u))):=(F1.G.AE ⟨eq,gq,Rq,cq,by
  have:=F1.G.big;have:3<j.objs.size:=aJ (Y 3 ((KF w).lookup 3 |>.get!) rfl);have e1:sysModules=1:=rfl;have:j.objs.size≠sysModules:=by rw[e1];omega
  simpa using this⟩).1
 have e0:=EF (o:=methodObj (.ref r) (.ref u)) gq;refine callWith_of (P:=λh=>MethP (KF w) j.objs.size r (.ref u) h) (by rw[a0];rfl) (keeps_M (by unfold fnIn;rw[i.k2])) (fE a0 (ha _ R ρ ⟨j.push (methodObj (.ref r) (.ref u)),gn,d,t+1,os⟩ E _ ⟨G2,F.F.mono e0 (aE _)⟩ λvs s2 g2 t0 ds l1 T F2 r2 hc=>?_));have em:s2.heap.get? j.objs.size=some (methodObj (.ref r) (.ref u)):=F2.G.sub _ _ (T.le _ _ (gM _ _ _));refine⟨⟨em,F2.G.ok.k⟩,uQ (method_call em ?_)⟩;refine hc A hr g2 R t0 s2 _ _ F2.G (.cons (.ref (sf T.pre e1)) r2) λv s3 g3 u0 d3 w0 V G3 r3 x0=>?_;exact q v s3 g3 u0 d3 w0 ⟨V.gens.trans T.gens,V.os.trans T.os,(e0.trans T.le).trans V.le,T.pre.trans V.pre⟩ ⟨G3,F2.F.mono V.le V.pre⟩ r3 x0
theorem zip_get:∀{a:Ye} {b:Yc} {f:Yb},wR w g i b f->(a.zip f).lookup x=some d->∃v,(x,v)∈a.zip b/\Rd w g i v d
 |[],_,_,_,h=>by simp at h
 |n::a,_,_,.nil,h=>by simp at h
 |n::a,v::b,e::f,.cons r j,h=>by
  rw[kF,bH]at h;by_cases c:x=n
  .rw[B c]at h;cases h;subst c;exact⟨v,.head _,r⟩
  .rw[J c]at h
   let⟨u,k,l⟩:=zip_get j h;exact⟨u,.tail _ k,l⟩
theorem Gi:∀{a:List g} {b:List i},a.Nodup->((a.zip b).map (·.1)).Nodup
 |[],_,_=>by simp
 |_::_,[],_=>by simp
 |n::a,v::b,h=>by
  let⟨c,d⟩:=bx.mp h;rw[kF,bF];refine bx.mpr ⟨λq=>?_,Gi d⟩;let⟨p,f,e⟩:=aa.mp q;exact c (by have:=(g9 (a:=p.1) (b:=p.2) f).1;rw[e]at this;exact this)
structure AF(w:Yz)(a:YB)(fd:FuncData)(names:Ye)(cc:YB):Prop where
 k:BI w a fd
 c:codeIn (KF w) fd.code fd.qualname=true
 b:fd.body= .stmts (xm fd.body)
 Qo:fd.closure=[(("__class__":Str),cc)]
 gl:fd.globals=mainGlobals
 bi:fd.builtins=builtinsNs
 fn:fd.scope.kind= .function
 co:fd.scope.isCoroutine=false
 ge:fd.scope.isGenerator=false
 fr:(fd.scope.names.all λp=>p.2 !=.cell&&(p.2 !=.free||p.1=="__class__"))=true
 cd:fd.scope.names.lookup ("__classdict__":Str)=none
 nl:names.Nodup
 kinds:(names.all λx=>fd.scope.names.lookup x==some .local)=true
 cell:((KF w).lookup cc).isSome=true
theorem CF.Xb(o:AF w a C i Q)(N:∀I:Yc,I.length=u.length->bindArgs C ⟨I,[]⟩=pure (i.zip I))(h:∀A f,we n A->yX C a f->f.cells.lookup ("__class__":Str)=some Q->ST w A f (i.zip u) σ (xm C.body) (execs (xm C.body) f) (λ_ t=>P .none t) P):CF w (n+1) (.ref a) u σ P:=by
 intro A hr g R ρ s I RR G rv k;have Y:=rv.length;have E:=dz.mp o.kinds;refine ks_codeAny_call_defAt (fd:=C) (body:=xm C.body) (binds:=i.zip I) hr.lim (G.ok.k _ _ o.k) rfl G.ok.lim (codeRec_of G.ok.k o.c) o.b (.of_eq (N I Y)) (λx hx e=>?_) (λx hx=>?_) (λl e0 hk=>?_) o.co o.ge o.fn
 .have:=dz.mp o.fr _ hx;rw[e]at this;simp at this
 .simpa using E x.1 (g9 (a:=x.1) (b:=x.2) hx).1
 .generalize S:callEnv C s.heap.objs.size a=f
  have F:yX C a f:=by subst S;exact⟨rfl,rfl,rfl⟩
  have V:f.scope=C.scope:=F.scope;have z:f.locals=s.heap.objs.size:=by subst S;rfl
  have j:f.cells=[(("__class__":Str),Q)]:=by subst S;exact o.Qo
  have a0:f.globals=mainGlobals:=by subst S;exact o.gl
  have c0:f.builtins=builtinsNs:=by subst S;exact o.bi
  have m:∀y,f.kindOf y=C.scope.names.lookup y:=λy=>by unfold Env.kindOf;rw[V]
  have W:f.cells.lookup ("__class__":Str)=some Q:=by rw[j];simp[List.lookup]
  have f0:∀y c,f.cells.lookup y=some c->y="__class__"/\c=Q:=λy c e=>by
   rw[j,bH]at e;by_cases q:y="__class__"
   .rw[B q]at e;cases e;exact⟨q,rfl⟩
   .rw[J q]at e;cases e
  let⟨ob,g0⟩:=aT.mp o.cell;let⟨h0,b0,d0⟩:=G.base;have X:g Q=some ob:=d0 _ _ (b0.k _ _ g0);have fresh:s.heap.get? s.heap.objs.size=none:=cu (ao _);have G1:=G.zQ (h':=l) hk (l:=[s.heap.objs.size]) (λb hb=>by rw[aj.mp hb];exact fresh);have p:∀y,f.kindOf y≠some .cell:=λy e=>by
   rw[m]at e;have:=dz.mp o.fr _ (mem_of_lookup e);simp at this
  have F1:FS w g (zQ R [s.heap.objs.size] l) ρ σ f (i.zip u) l:=by
   refine⟨G1,⟨by rw[V];exact o.fn,a0,c0,?_,λy d hy T=>?_,λy T=>absurd T (p y),by rw[j];exact lO _ _,λy c e=>?_,by rw[m];exact o.cd,λy c e=>?_,λy q=>?_⟩⟩
   .let⟨ol,es,ep,h1,h2,h3,h4⟩:=e0
    refine⟨ol,es,ep,_,?_,h2,h3,h4,λy d hy T=>?_⟩
    .rw[z];exact(B (by simp)).trans h1
    .let⟨v,hv,r⟩:=zip_get rv hy
     refine⟨v,nL ?_ (List.mem_reverse.mpr hv),r⟩;rw[List.map_reverse];exact(List.reverse_perm _).nodup_iff.mpr (Gi o.nl)
   .have hm:y∈i:=(g9 (mem_of_lookup hy)).1
    have:=E y hm;rw[m]at T;rcases T with q|q<;>rw[q]at this<;>simp at this
   .rw[j]at e
    cases aj.mp e
    rw[z];exact aQ (aJ (G.sub _ _ X))
   .obtain⟨rfl,rfl⟩:=f0 y c e
    exact .inr ⟨rfl,ob,X⟩
   .rw[m]at q
    have:=dz.mp o.fr _ (mem_of_lookup q);have e:y="__class__":=by simpa using this
    exact⟨Q,by rw[e];exact W⟩
  have H:∀L,(∀b,¬x8 f b->L b=zQ R [s.heap.objs.size] l b)->View.le R L:=by
   intro L hR b ob e;have nb:b≠s.heap.objs.size:=λq=>by rw[q,G.yt fresh]at e;cases e
   rw[hR b,show zQ R [s.heap.objs.size] l b=R b from J (by simpa using nb)]
   .exact e
   .rintro(q|⟨y,q,_⟩)
    .exact nb (q.trans z)
    .exact p y q
  refine h _ f (hr.deeper f) F W g _ ρ {s with heap:=l,toks:=s.toks+(i.zip I).length} _ _ F1 (λs' g' L M i0 t x F' so n=>?_) λv s' g' L M d t x G' so rd hp=>?_
  .exact k .none s' g' M .none t ⟨x.gens,x.os,x.le,x.pre⟩ (F'.G.yC (H L so)) .none n
  .exact k v s' g' M d t ⟨x.gens,x.os,x.le,x.pre⟩ (G'.yC (H L so)) rd hp
theorem Mi(j:s.heap.get? a=some (v9 "list" m k))(r:A.handled=none)(h:∀l n,(∀b o,s.heap.get? b=some o->l.get? b=some o)->Q none {s with heap:=l,toks:=n}):wpAny (model pw w) A (getAttr? (.ref a) "keys") Q E s:=by
 let⟨p,g,d,n,os⟩:=s;have j:p.get? a=some {cls:=.type "list",dict:=none,data:=.seq m k,slots:=#[]}:=j;have q:∀f,(⟨p,g,d,f,os⟩:Yy).TypeIs (.ref a) "list":=λ_=>⟨_,j,rfl⟩;have t:=sub_AttributeError;have u:=jd.lookup;have v:=jd.bind (.ref a);have x:=am_list_getattr_none;have c:typeLookup (.type "list") "keys"=pure none:=am_miss_of_fast (by decide+kernel);unfold getAttr? getAttrBy? getAttrBy
 repeat (any_goals (first|assumption|exact q _|((with_reducible show wpAny _ _ (call (Value.builtin "list.__getattribute__") _ _) _ _ _);refine qG jd (q _) am_entry_list_getattribute (PySem.F.args_list_getattribute_2 _ _) (meets_getattribute_miss_list a m k #[] "keys" _ c (by decide+kernel)) ⟨j,r,λl f e i=>?_⟩)|wp_step))
 let⟨y,z,C⟩:=i.there;show wpAny _ _ (getattributeRaised _ _ _ _ _ _ _) _ _ _;unfold getattributeRaised
 repeat (any_goals (first|assumption|wp_step))
 exact h _ _ i.of.keeps
theorem En:entryFor table "dict.update.loop"=some Builtin.«dict.update.loop»:=entryFor_of_tree (by kernel_rfl)
theorem LH:plainId "dict.update.loop"=true:=by decide+kernel
def rJ:=@LH
theorem LK{l:Yh}(h:i<l.length):(l.map xC)[i]? =some (xC l[i]):=by simp[h]
theorem PN:(wM acc a b).length<=acc.length+1:=by
 have:=aU List.length (j6 (l:=acc) (k:=a) (v:=b));rw[az]at this;rw[this]
 classical
 split<;>simp
theorem NT{l:Yh}(hr:we m A)(n1:la≠it)(n2:la≠d)(W:it≠d)(gd:g d=none)(gi:g it=none)(rl:wR w g ρ items (l.map xC))(hk:∀p∈l,p.1.kd=some c)(hz:l.length<=1000):∀(k i:Nat) (s:Yy) (f:Yh) (E:Yk) (G:Nat),l.length-i=k->i<=l.length->s.heap.IsListIter it la i->s.heap.get? la=some (v9 "list" items.toArray n)->(∀a o,g a=some o->s.heap.get? a=some o)->s.heap.get? d=some (wj E.toArray G)->yd w g ρ E f->wh f->wG c f->f.length<=i->(∀H X L n',H.get? d=some (wj L.toArray n')->yd w g ρ L ((l.drop i).foldl (λa p=>wM a p.1 p.2) f)->wh ((l.drop i).foldl (λa p=>wM a p.1 p.2) f)->(∀b o,b≠d->b≠it->s.heap.get? b=some o->H.get? b=some o)->RR (.ok (.ret res)) {s with heap:=H,toks:=X})->codeAny (model pw w) A (.builtin "dict.update.loop" ⟨[.ref d,.ref it,rawInt (i:Nat),res],[]⟩) RR s:=by
 intro k;induction k with
 |zero=>
  intro i s f E G a0 hi y t sub hd Y T hl N q;obtain rfl:i=l.length:=by omega
  apply b8 En;rw[bJ rJ _];show wpAny _ A.in1 (pyNext (.ref it)>>=_) _ _ s;refine Z (tu (by exact hr.handled) y (fB t) (by have:=rl.length;simp at this⊢;omega) λH he=>?_);rw[List.drop_length,List.foldl_nil]at q;exact Z (U (U (q H s.toks E G (he _ _ (fY W) hd) Y T λb o _ V e=>he b o V e)))
 |succ k ih=>
  intro i s f E G a0 hi y t sub hd Y T hl N q;have C:i<l.length:=by omega
  let⟨x,hx,rx⟩:=rl.get (LK C);apply b8 En;rw[bJ rJ _];show wpAny _ A.in1 (pyNext (.ref it)>>=_) _ _ s;refine Z (sU y (fB t) (x:=x) (by simpa using hx) λF P u=>?_);have h:∀a o,g a=some o->F.get? a=some o:=λa o e=>(u.2 a (λz=>by rw[z,gi]at e;cases e)).trans (sub a o e);cases rx with
  |vV j I=>
  rename_i a k0;obtain⟨nt,j⟩:=j;cases I with
  |cons r1 I=>
  cases I with
  |cons r2 I=>
  cases I
  rename_i kv vv;have ha:=h _ _ j;have hT:Shared.TypeIs {s with heap:=F} (.ref a) "tuple":=⟨_,ha,rfl⟩;have b0:F.get? d=some (wj E.toArray G):=(u.2 d (fY W)).trans hd;have Q:F.get? la=some (v9 "list" items.toArray n):=(u.2 la n1).trans t;have M:l[i].1.kd=some c:=hk _ (bT C);show wpAny _ A.in1 (holding [.ref a] _>>=_) _ _ _;refine Z (aC ?_);have hp:wpAny (model pw w) A.in1 (Builtin.Dict.pairItems (.ref a)) (λr s'=>r=[kv,vv]/\s'={s with heap:=F}) (λ_ _=>False) {s with heap:=F}:=by
   unfold Builtin.Dict.pairItems;refine Z (d8 hT ?_);rw[B (by decide)];apply Z;apply dX ha rfl;exact U ⟨rfl,rfl⟩
  refine Z (wpAny_tryCatch (f_ hp (λr s' e=>?_) λ_ _ z=>z.elim));obtain⟨rfl,rfl⟩:=e;show wpAny _ _ (holding [kv,vv] (dictSet d kv vv)) _ _ _;refine aC (rF (by have:=hr.M4;exact this) h b0 Y T r1 M hl r2 (by omega) λh2 X c0 d0 e2 e0 v=>?_);refine U ⟨cQ rJ _,?_⟩;have R:h2.IsListIter it la (i+1):=P.at λo e=>(v.2 it W).trans e;refine ih (i+1) {s with heap:=h2,toks:=X} (wM f l[i].1 l[i].2) c0 d0 (by omega) (by omega) R ((v.2 la n2).trans Q) (λb o e=>(v.2 b (λz=>by rw[z,gd]at e;cases e)).trans (h b o e)) e2 e0 (lE T) (hl.wM M) (by have:=PN (acc:=f) (a:=l[i].1) (b:=l[i].2);omega)
   λh3 f0 g0 h0 e3 i0 j0 S=>?_
  rw[iM C,dg]at q;exact q h3 f0 g0 h0 e3 i0 j0 λb o V ni e=>S b o V ni ((v.2 b V).trans ((u.2 b ni).trans e))
theorem Dp{l:Yh}(S:we 3 A)(hd:xA σ d (l.map xC))(hk:∀p∈l,p.1.kd=some c)(hz:l.length<=1000):FO w A σ (DN w) (λT=>call (.type "dict") T) [d] (l.foldl (λa p=>wM a p.1 p.2) []):=by
 intro g R V s T E Q G F k;cases F with
 |cons r F=>
 cases F
 obtain⟨a,t,n,rfl,W,rl⟩:=G.vK r hd;apply qQ (Q₁:=λv m=>v= .ref s.heap.objs.size/\m={s with heap:=s.heap.push (wj #[] 0)}) PySem.F.kt_called_dict (PySem.F.kt_typeCall_dict_1 _) PySem.F.entry_dict_init (kt_code_dict_new _ ⟨rfl,rfl⟩);rintro v m ⟨rfl,rfl⟩;have H:(s.heap.push (wj #[] 0)).get? s.heap.objs.size=some (wj #[] 0):=aD _ rfl;have x:Shared.TypeIs {s with heap:=s.heap.push (wj #[] 0)} (.ref s.heap.objs.size) "dict":=⟨_,H,rfl⟩;refine⟨x,PySem.F.args_dict_init_2 _ _,?_⟩;unfold Builtin.«dict.__init__»;apply Z;unfold Builtin.Dict.selfAndRest;refine Z (fH x ?_);show wpAny _ _ (pure (s.heap.objs.size,[Value.ref a])) _ _ _;apply U;show wpAny _ _ (Builtin.Dict.updateFrom "dict.__init__" s.heap.objs.size (.ref a) [] .none) _ _ _;unfold Builtin.Dict.updateFrom;have h:∀b o,s.heap.get? b=some o->(s.heap.push (wj #[] 0)).get? b=some o:=λb o e=>ak _ e;have j:=h _ _ W;have I:Shared.TypeIs {s with heap:=s.heap.push (wj #[] 0)} (.ref a) "list":=⟨_,j,rfl⟩;refine Z (d8 I ?_);rw[B (by decide)];refine Z (Mi j S.handled λz L i=>?_);rw[B (show(none:Yn).isNone=true from rfl)];refine Z (dO ?_);have M:=i _ _ j;refine Z (jj (fB M) ?_);refine U ⟨cQ rJ _,?_⟩;have X:∀b,s.heap.objs.size<=b->g b=none:=λb hb=>G.zZ (cu hb);have C:s.heap.objs.size<z.objs.size:=aJ (i _ _ H);have Y:a<s.heap.objs.size:=aJ W;have f:∀b o,(s.heap.push (wj #[] 0)).get? b=some o->(z.push {cls:=.type "list_iterator",data:=.fields #[.ref a,.int 0 0]}).get? b=some o:=λb o e=>ak _ (i _ _ e);have N:we 2 A.in1:=S.in1;have e0:((0:Nat):Int)=0:=rfl;refine NT (c:=c) (n:=n) (items:=t) (l:=l) (res:=.none) (g:=g) (ρ:=V) (d:=s.heap.objs.size) (it:=z.objs.size) (la:=a) N (aQ (j5 Y C)) (aQ Y) (fq C) (X _ (ao _)) (X _ (l_ C)) rl hk hz (l.length-0) 0
  {s with heap:=z.push {cls:=.type "list_iterator",data:=.fields #[.ref a,.int 0 0]},toks:=L} [] [] 0 rfl (bB _) ⟨_,aD _ rfl,rfl,rfl⟩ (f _ _ j) (λb o e=>f _ _ (h _ _ (G.sub b o e))) (f _ _ H) .nil cF wG.nil (ao _)
  λh' tk P n' e re nd y=>⟨rfl,?_⟩
 have u:∀b o,s.heap.get? b=some o->h'.get? b=some o:=λb o q=>by
  have lb:=aJ q;exact y b o (aQ lb) (aQ (j5 lb C)) (f _ _ (h _ _ q))
 exact k {s with heap:=h',toks:=tk} g V _ _ (cA) (G.keep u) (G.free (ao _) e) ⟨P,n',rfl,re,nd⟩
inductive S8(w:Yz)(g:YH)(ρ:X_):List (Str×Yx)->List (D×D)->Prop
 |nil:S8 w g ρ [] []
 |cons {x:Str} {v:Yx} {d:D} {m:List (Str×Yx)} {l:Yh}:Rd w g ρ v d->S8 w g ρ m l->S8 w g ρ ((x,v)::m) ((.str x,d)::l)
theorem yd.XR(f:yd w g n c l)(h:∀p∈l,p.1.kd=some 1):∃m,S8 w g n m l/\Pairs (PySem.strKind pw w) c m/\∀e∈c,∃k,(PySem.strKind pw w).is k e.key=true/\e.hash=(PySem.strKind pw w).hash k:=by
 induction c generalizing l with
 |nil=>cases f;exact⟨[],.nil,.nil,λe a=>nomatch a⟩
 |cons e c o=>
  cases f with
  |cons r s u b=>
  rename_i k v l;let⟨m,y,z,A⟩:=o b λp C=>h p (.tail _ C);have d:=h _ (.head _);cases k with
  |str x=>
   let⟨t,e1⟩:=r.wF;have j:(PySem.strKind pw w).is x e.key=true:=by rw[e1];simp[PySem.strKind,Value.isStrOf]
   refine⟨(x,e.val)::m,.cons s y,.cons j rfl z,λE a=>?_⟩;rcases aG.mp a with rfl|a
   .exact⟨x,j,by rw[u];simp[wD]⟩
   .exact A E a
  |int i=>simp[D.kd]at d
  |vV l=>let⟨q,_⟩:=j_ d;omega
  |_=>simp[D.kd]at d
theorem S8.back:∀{a:Yk} {m:List (Str×Yx)} {l:Yh},S8 w g f m l->Pairs (PySem.strKind pw w) a m->(∀e∈a,∃k,(PySem.strKind pw w).is k e.key=true/\e.hash=(PySem.strKind pw w).hash k)->yd w g f a l
 |_,_,_,.nil,.nil,_=>.nil
 |e::a,_,_,.cons r h,.cons i j n,d=>by
  let⟨k,b,o⟩:=d e (.head _);have c:=(PySem.strKind pw w).inj _ _ _ b i;subst c;refine .cons ?_ (by rw[j];exact r) (by rw[o];simp[wD]) (h.back n λp q=>d p (.tail _ q));cases e with
  |mk t s u=>
  dsimp only at b;cases s<;>simp[PySem.strKind,Value.isStrOf]at b;subst b;exact .str _ _
theorem S8.names:∀{m:List (Str×Yx)} {l:Yh},S8 w g a m l->m.length=l.length/\l.map (·.1)=(m.map (·.1)).map D.str
 |_,_,.nil=>⟨rfl,rfl⟩
 |_,_,.cons _ r=>⟨by simp[r.names.1],by simp[r.names.2]⟩
theorem zE:∀{l:List d},(l.map f).Nodup->l.Nodup
 |[],_=>cF
 |a::l,h=>by
  let⟨b,c⟩:=bx.mp h;exact bx.mpr ⟨λq=>b (b9 q),zE c⟩
theorem MD(hd:yg P d l)(S:∀p∈l,p.1.kd=some 1)(hz:l.length<=1000):FO w A P (DN w) (λz=>call (.type "dict") z) [d] l:=by
 intro g R T s z E Q G j k;cases j with
 |cons r j=>
 cases j
 obtain⟨a,V,n,rfl,W,X,C,h⟩:=G.wc r hd;let⟨m,F,Y,c⟩:=X.XR S;have f:=F.names;have t:(m.map (·.1)).Nodup:=by
  have:((m.map (·.1)).map D.str).Nodup:=f.2▸C;exact zE this
 have u:s.heap.DictOf (PySem.strKind pw w) a m:=⟨_,V.toArray,n,W,⟨rfl,rfl,rfl⟩,rfl,λe q=>c e (by simpa using q),by simpa using Y,t⟩;refine kt_call_dict h u (by rw[f.1,bA];omega) λH v hs=>?_;let⟨o,x,y,h1,⟨I,L,M⟩,N,h3,h4,_⟩:=v;have i:∀b o,s.heap.get? b=some o->H.get? b=some o:=λb o e=>(hs.2 b (aQ (aJ e))).trans (ak _ e);refine k {s with heap:=H} g T _ o ⟨rfl,rfl,bM g,aE _⟩ (G.keep i) (G.free (ao _) h1) ⟨x.toList,y,?_,F.back h4 λe q=>h3 e (by simpa using q),C⟩;cases o;simp only at I L M N;subst I L M N
 rfl
theorem GY(h:PE w A c C G (eval o c) (.wc l))(i:attributeBase o "items" c (eval o c)=eval o c)(L:methodCallForm (([]:List YD).length+([]:List Keyword).length) (backTo e (starEach [] c)) (backToKw e (keywordEach [] c))=true)(j:(m.endLine==e.line)=true)(F:FS w g R H G c C s.heap)(k:∀(r:Yy) (t:YH) (f:X_) (v d:YB) (u:Array YF) (M:Nat),Gr s g H r t f->FS w t R f G c C r.heap->r.heap.get? v=some (FW d)->t d=some (wj u M)->yd w t f u.toList l->Q (.ref v) r):wpAny (model pw w) A (eval (.Call (.Attribute o "items" m) [] [] e) c) Q E s:=by
 rw[nK,i];refine Z (h g R H s E _ F λV W N z x I P=>Z (aX ?_));cases P with
 |wc hd S X=>
 rename_i a u;let⟨p,n,hd⟩:=hd;have y:=I.G.sub _ _ hd;refine method_of L j (λY Q' T=>getMethod_builtin ⟨_,y,rfl⟩ gB pT (by kernel_rfl) (λb q=>by cases q;exact⟨_,y,rfl⟩) T) ?_;refine iS rfl (fE rfl (tX ?_));apply BO p y;exact k _ N z _ a u.toArray n ⟨x.gens,x.os,x.le,x.pre⟩ (I.push _) (aD _ rfl) hd (by simpa using S)
theorem CE.items(h:PE w A a n p (eval o a) (.wc l))(j:l.length<=100000)(c:attributeBase o "items" a (eval o a)=eval o a:=by rfl)(r:methodCallForm (([]:List YD).length+([]:List Keyword).length) (backTo b (starEach [] a)) (backToKw b (keywordEach [] a))=true:=by rfl)(e:(f.endLine==b.line)=true:=by rfl):
 CE w A a n p (eval (.Call (.Attribute o "items" f) [] [] b) a) (·=l.map xC):=by
 intro g R G s E Q F q;refine GY h c r e F λt u i v d H I x k e1 y m=>q _ t u i x k λL z=>?_;have C:=m.length;exact M5.items z (by rw[<-C,cG]at j;exact j) k.G e1 y m
theorem FE.Js(hA:A.handled=none)(hf:PV w A a V z (eval (.Name f p) a) (.type "list"))(h:PE w A a V z (eval o a) (.wc l))(W:l.length<=100000)(q:attributeBase o "items" a (eval o a)=eval o a:=by rfl)(M:methodCallForm (([]:List YD).length+([]:List Keyword).length) (backTo c (starEach [] a)) (backToKw c (keywordEach [] a))=true:=by rfl)(t:(j.endLine==c.line)=true:=by rfl)(hs:starEach [.Call (.Attribute o "items" j) [] [] c] a=(false,eval (.Call (.Attribute o "items" j) [] [] c) a)::starEach [] a:=by rfl)(u:(backTo N (starEach [.Call (.Attribute o "items" j) [] [] c] a)).any (·.1)=false:=by rfl):
 FE w A a V z (zS w) (eval (.Call (.Name f p) [.Call (.Attribute o "items" j) [] [] c] [] N) a) λr P=>r=l.map xC/\P=z:=by
 intro g R ρ s E Q F k;refine dF (hf g R ρ s E _ F λs1 C F1=>dZ u (fE u (arg1 hs (GY h q M t F1 λi g2 S v d es ep H X e1 e2 Y=>?_))));have hl:=Y.length;have G:=X.G;have b0:v≠i.heap.objs.size:=aQ (aJ e1);refine qQ (Q₁:=λx n=>x= .ref i.heap.objs.size/\n={i with heap:=i.heap.push {cls:=.type "list",data:=.seq #[]}}) qX (pQ _) pR
  (code_list_new _ ⟨rfl,rfl⟩) λx n y=>?_
 obtain⟨rfl,rfl⟩:=y;have I:(i.heap.push (v9 "list" #[] 0)).get? i.heap.objs.size=some (v9 "list" #[] 0):=aD _ rfl;refine⟨⟨_,I,rfl⟩,pG _ _,?_⟩;show wpAny _ _ (do let T <-Builtin.List.listItems (.ref i.heap.objs.size);Builtin.List.listUpdate (.ref i.heap.objs.size) (λ_=>#[]);letGo T.toList.reverse;Builtin.List.listExtendWith (.ref i.heap.objs.size) (.ref v) .none) _ _ {i with heap:=i.heap.push (v9 "list" #[] 0)};refine Z (sJ I rfl ?_);refine Z (eT I rfl ?_);have u1:=dh I (λ_=>(#[]:Yp));refine Z (i7 ?_);have m:∀b o,i.heap.get? b=some o->((i.heap.push (v9 "list" #[] 0)).update i.heap.objs.size (Obj.mapSeq λ_=>(#[]:Yp))).get? b=some o:=λb o e=>by
  rw[cR _ _ _ _ (aQ (aJ e))];exact ak _ e
 refine AY hA (by rw[<-hl,cG]at W;exact W) (G.keep m) (G.AH (ao _)) (m _ _ e1) e2 Y u1
  λh' c' g' a0 le G' L e' r'=>⟨rfl,?_⟩
 have c0:i.heap.objs.size<((i.heap.push (v9 "list" #[] 0)).update i.heap.objs.size (Obj.mapSeq λ_=>(#[]:Yp))).objs.size:=aJ u1;exact k {i with heap:=h'} g' S i.heap.objs.size _ _ z ⟨(C.trans H).gens,(C.trans H).os,(C.trans H).le.trans le,(C.trans H).pre⟩ ⟨G',X.F.mono le (aE _)⟩ ⟨e',L.g,L.R,L.cell,G.high (ao _)⟩ ⟨_,c',rfl,r'⟩ ⟨rfl,rfl⟩
def yM(x y:Yx):Obj:=v9 "tuple" #[x,y] 0
structure WT(w:Yz)(A:YA)(it:YB)(fp wr:X_)(n:Nat)(P:Nat->Yx->Yx->Prop)(St:Nat->YI->Prop)(Mid:Nat->YB->YI->Prop):Prop where
 sub:∀b∈wr,b∈fp
 frame:∀i h h',St i h->(∀b∈fp,∀o,h.get? b=some o->h'.get? b=some o)->St i h'
 own:∀i h,St i h->∀b∈wr,∃o,h.get? b=some o
 item:∀i (s:Yy) (Q:Yn->Yy->Prop) (E:X0),i<n->St i s.heap->
  (∀T x y h' tk,P i x y->s.heap.objs.size<=T->h'.get? T=some (yM x y)->Mid i T h'->(∀b o,b∉wr->s.heap.get? b=some o->h'.get? b=some o)->Q (some (.ref T)) {s with heap:=h',toks:=tk})->wpAny (model pw w) A (pyNext (.ref it)) Q E s
 go:∀(elts:List YD) (k:Nat) (pos:Pos) i T (s:Yy) (Q:Unit->Yy->Prop) (E:X0),Mid i T s.heap->
  (∀h',St (i+1) h'->(∀b o,b∉wr->s.heap.get? b=some o->h'.get? b=some o)->Q () {s with heap:=h'})->wpAny (model pw w) A (letOwnedTupleGo (.Tuple elts k pos) (.ref it) (.ref T)) Q E s
 done:∀(s:Yy) (Q:Yn->Yy->Prop) (E:X0),St n s.heap->
  (∀h' tk,(∀b o,b∉wr->s.heap.get? b=some o->h'.get? b=some o)->Q none {s with heap:=h',toks:=tk})->wpAny (model pw w) A (pyNext (.ref it)) Q E s
 self:∀i (s:Yy) (Q:X0) (E:X0),St i s.heap->Q (.ref it) s->wpAny (model pw w) A (pyIter (.ref it)) Q E s
def S2(w:Yz)(j c e:X_)(l:Yb)(P:Nat->Yx->Yx->Prop)(St:Nat->YI->Prop)(k:Nat)(g R:YH)(f:X_):Prop:=
 (∀i x y d,P i x y->l[i]? =some d->∃a b,d= .vV [a,b]/\Rd w g f x a/\Rd w g f y b)/\(∀b∈j,∃o,((b∈c\/b∈e)/\R b=some o)\/g b=some o)/\(∀b∈c,∃o,R b=some o)/\
  (∀h:YI,(∀a o,(a∈c\/a∈e)->R a=some o->h.get? a=some o)->(∀a o,g a=some o->h.get? a=some o)->St k h)
theorem Iter.Th{St:Nat->YI->Prop}(W:WT w A it fp n L.length P St f0):Iter w A it DP n lk L (S2 w fp n lk L P St) where
 mono:=λ{k g g' R R' ρ g0} x V X hr=>by
  let⟨Y,h2,h3,h6⟩:=x;exact⟨λi x y d a b=>let⟨u,v,e,t,F⟩:=Y i x y d a b;⟨u,v,e,t.mono V X,F.mono V X⟩,λb f=>by
   let⟨o,q⟩:=h2 b f;exact⟨o,q.imp (λe=>⟨e.1,by rw[hr b e.1];exact e.2⟩) (V _ _)⟩,λb f=>let⟨o,q⟩:=h3 b f;⟨o,by rw[hr b (.inl f)];exact q⟩,
   λh a b=>h6 h (λc o hc e=>a c o hc (by rw[hr c hc];exact e)) λc o e=>b c o (V _ _ e)⟩
 own:=λx=>x.2.2.1
 again:=λσ k g R ρ s E Q G x q=>by
  let⟨Y,h2,h3,h6⟩:=x;exact W.self k s Q E (h6 s.heap (λa o _ e=>G.rest a o e) G.sub) q
 step:=λσ k g R ρ s a0 E Qs Qn tg G x hk Y h2=>by
  obtain⟨S,kk,b0,rfl⟩:=tg;let⟨a1,a2,a3,a6⟩:=x;have st:=a6 s.heap (λa o _ e=>G.rest a o e) G.sub;by_cases c:k<L.length
  .refine W.item k s _ E c st λT x y c0 tk hP hT X hm j=>W.go S kk b0 k T {s with heap:=c0,toks:=tk} _ E hm λr I l=>?_
   have hd:L[k]? =some L[k]:=au c;let⟨u,v,e,t,F⟩:=a1 k x y _ hP hd;have Tw:T∉n:=λq=>by
    let⟨o,e⟩:=a3 T q;exact absurd (aJ (G.rest _ _ e)) (Nat.not_lt.mpr hT)
   have N:=l _ _ Tw X;have m:∀b o,b∉n->s.heap.get? b=some o->r.get? b=some o:=λb o nb e=>l b o nb (j b o nb e);have G1:GS w g (λa=>if a∈n then r.get? a else R a) ρ σ r:=G.JT a3 m (λa M=>J M) λa o ha e=>by simpa[ha]using e
   have fr:=G.free (h':=r) hT N;let⟨G2,H⟩:=G1.AE ⟨N,fr.g,by show(if T∈n then _ else _)=none;rw[J Tw];exact fr.R,fr.cell,fr.low⟩;refine Y _ hd {s with heap:=r,toks:=tk} (ins g T (yM x y)) (λa=>if a∈n then r.get? a else R a) (.ref T) ⟨rfl,rfl,H,aE _⟩ G2 ?_ (λa M=>J M) ?_
   .refine⟨λi x y d p q=>let⟨u,v,e,t,F⟩:=a1 i x y d p q;⟨u,v,e,t.mono H (aE _),F.mono H (aE _)⟩,?_,?_,?_⟩
    .intro b f
     let⟨o,q⟩:=a2 b f;by_cases z:b∈n
     .let⟨C,e⟩:=W.own _ _ I b z
      exact⟨C,.inl ⟨.inl z,by simp[z,e]⟩⟩
     .exact⟨o,q.imp (λe=>⟨e.1,by simpa[z]using e.2⟩) (H _ _)⟩
    .intro b f
     let⟨C,e⟩:=W.own _ _ I b f;exact⟨C,by simp[f,e]⟩
    .intro d0 t F
     refine W.frame (k+1) r d0 I λb f o e=>?_;by_cases z:b∈n
     .exact t b o (.inl z) (by simp[z,e])
     .let⟨C,q⟩:=a2 b f
      have:s.heap.get? b=some C:=q.elim (λq=>G.rest b C q.2) (G.sub b C);have e2:=m b C z this;rw[e]at e2;cases e2;exact q.elim (λe=>t b _ e.1 (by simpa[z]using e.2)) λe=>F b _ (H _ _ e)
   .rw[e]
    exact .vV ⟨0,gM _ _ _⟩ (.cons (t.mono H (aE _)) (.cons (F.mono H (aE _)) .nil))
  .have e0:k=L.length:=by omega
   subst e0;refine W.done s _ E st λr tk j=>?_;refine h2 rfl {s with heap:=r,toks:=tk} (λa=>if a∈n then none else R a) cA ?_ (λ_=>rfl);exact G.JT a3 j (λa M=>J M) λa o ha e=>by simp[ha]at e
theorem WT.enum(I:A.handled=none)(e g l:YB)(d:Yc)(n:Nat)(v:e≠g)(C:l≠e)(L:l≠g):WT w A e [e,g,l] [e,g] d.length (λi x y=>(∃t,x= .int i t)/\d[i]? =some y) (λi h=>(∃r,IsEnum h e g i r)/\h.IsListIter g l i/\h.get? l=some (v9 "list" d.toArray n)) (λi T h=>(∃x,IsEnumOut h e g ((i:Int)+1) x T)/\h.IsListIter g l (i+1)/\h.get? l=some (v9 "list" d.toArray n)) where
 sub:=λb f=>by simp at f⊢;rcases f with rfl|rfl<;>simp
 frame:=λi h j ⟨⟨o,a⟩,b,c⟩ k=>⟨⟨o,k e (by simp) _ a⟩,b.at λo q=>k g (by simp) o q,k l (by simp) _ c⟩
 own:=λi h ⟨⟨o,a⟩,⟨P,u,_⟩,c⟩ b f=>by
  simp at f;rcases f with rfl|rfl
  .exact⟨_,a⟩
  .exact⟨_,u⟩
 item:=λi s Q E F ⟨⟨o,a⟩,b,c⟩ k=>by
  refine wpAny_pyNext_enum_item a b (fB c) (x:=d[i]) (by simp[F]) v λj p m M R G=>?_;exact k _ _ _ j _ ⟨⟨_,rfl⟩,by simp[F]⟩ (ao _) M ⟨⟨_,p⟩,m,G _ _ C L c⟩ λb o f=>G b o (λz=>f (by simp[z])) λz=>f (by simp[z])
 go:=λH k N i T s Q E ⟨⟨x,a⟩,b,c⟩ q=>wpAny_letOwnedTupleGo_enum a λj p m=>q j ⟨⟨x,by exact p⟩,b.extBut m.extBut (fY v),(m.2 l C).trans c⟩ λb o f e=>(m.2 b (λz=>f (by simp[z]))).trans e
 done:=λs Q E ⟨⟨o,a⟩,b,c⟩ k=>wpAny_pyNext_enum_end I a b (fB c) (by simp) λj q=>k j s.toks λb o f e=>q b o (λz=>f (by simp[z])) e
 self:=λi s Q E ⟨⟨o,a⟩,b,c⟩ q=>wpAny_pyIter_enum a q
def Bb(a:Yb):Yb:=a.zipIdx.map λp=>.vV [.int (p.2:Nat),p.1]
theorem IT.enum{c:Nat}(hA:A.handled=none)(hf:PV w A k md S (eval (.Name f p) k) (.type "enumerate"))(h:PE w A k md S (eval e k) (.ref c))(hc:S.μ c=some (.vK xs))(hs:starEach [e] k=(false,eval e k)::starEach [] k:=by rfl)(a0:(backTo j0 (starEach [e] k)).any (·.1)=false:=by rfl):
 IT w A k md S DP (some (c,.vK xs)) (eval (.Call (.Name f p) [e] [] j0) k) (Bb xs):=by
 intro g R ρ s E Q F q;refine dF (hf g R ρ s _ _ F λs1 x1 F1=>dZ a0 (fE a0 (arg1 hs (h g R ρ s1 _ _ F1 λv j g2 I x2 C r=>?_))));obtain⟨a,l,n,rfl,ha,hl,rl⟩:=C.G.zl hc r;let⟨ac,oc,b0,c0,m0,k0,d0⟩:=C.G.cell c _ hc;rw[ha]at b0;cases b0;rw[hl]at c0;cases c0;refine call_enumerate_1 hl λh' q1 q2 q3 q4=>?_;apply wpAny_pyIter_enum q1;have e0:=aJ hl;have k1:j.heap.objs.size+1≠j.heap.objs.size:=by omega
 have T:a≠j.heap.objs.size:=aQ e0;have V:a≠j.heap.objs.size+1:=aQ (fy e0);have W:=WT.enum (w:=w) hA (j.heap.objs.size+1) j.heap.objs.size a l n k1 V T;have i0:(Bb xs).length=l.length:=by simp[Bb,rl.length]
 rw[<-i0]at W;let⟨oi,p1,p2,p3⟩:=q2;have G1:GS w g2 R I S h':=C.G.keep q4;have ga:=G1.forget c;let P:YH:=λb=>if b=a then some (v9 "list" l.toArray n)else if b=j.heap.objs.size then some oi else if b=j.heap.objs.size+1 then some {cls:=.type "enumerate",dict:=none,data:=.fields #[.none,.bool false,.ref j.heap.objs.size,rawInt 0,.none,.none],slots:=#[]}else R b
 have fresh:∀b,j.heap.objs.size<=b->R b=none/\g2 b=none/\∀n c,S.μ n=some c->I[n]? ≠some b:=λb u=>⟨C.G.yt (cu u),C.G.zZ (cu u),(C.G.AH u).cell⟩;have X:∀b,b≠a->b<j.heap.objs.size->P b=R b:=λb G H=>by show(if _ then _ else _)=_;rw[J G,J (aQ H),J (aQ (fy H))]
 have L:P a=some (v9 "list" l.toArray n):=B rfl;have M:P j.heap.objs.size=some oi:=by show(if _ then _ else _)=_;rw[J (fY T),B rfl]
 have N:P (j.heap.objs.size+1)=some {cls:=.type "enumerate",dict:=none,data:=.fields #[.none,.bool false,.ref j.heap.objs.size,rawInt 0,.none,.none],slots:=#[]}:=by
  show(if _ then _ else _)=_;rw[J (fY V),J k1,B rfl]
 have f0:∀b,b≠a->b≠j.heap.objs.size->b≠j.heap.objs.size+1->P b=R b:=λb G H h3=>by show(if _ then _ else _)=_;rw[J G,J H,J h3]
 have g0:View.le R P:=λb o e=>by
  have:b≠a:=by rintro rfl;rw[d0]at e;cases e
  have:b<j.heap.objs.size:=aJ (C.G.rest _ _ e);rw[X b ‹_› this];exact e
 have G2:GS w g2 P I (S.drop c) h':=by
  refine⟨ga.base,ga.sub,λb o e=>?_,λb o e=>?_,λm cc e=>?_,ga.inj,ga.low⟩
  .by_cases z1:b=a
   .subst z1;rw[L]at e;cases e;exact q4 _ _ hl
   .by_cases z2:b=j.heap.objs.size
    .subst z2;rw[M]at e;cases e;exact p1
    .by_cases z3:b=j.heap.objs.size+1
     .subst z3;rw[N]at e;cases e;exact q1
     .rw[f0 b z1 z2 z3]at e;exact G1.rest b o e
  .have:b<j.heap.objs.size:=aJ (C.G.sub _ _ e)
   have nz:b≠a:=by rintro rfl;rw[k0]at e;cases e
   rw[X b nz this];exact C.G.gR b o e
  .let⟨b,o,G,H,h3,h4,h5⟩:=ga.cell m cc e
   have nm:m≠c:=by rintro rfl;rw[St.Eo]at e;cases e
   have e':S.μ m=some cc:=by rw[kC nm]at e;exact e
   have nb:b≠a:=by rintro rfl;exact nm (C.G.inj m c b _ _ e' hc G ha)
   have lb:b<j.heap.objs.size:=by
    let⟨b',o',u1,u2,_⟩:=C.G.cell m cc e';rw[G]at u1;cases u1;exact aJ u2
   exact⟨b,o,G,H,h3,h4,by rw[X b nb lb];exact h5⟩
 refine q {j with heap:=h'} g2 P I (j.heap.objs.size+1) [j.heap.objs.size+1,j.heap.objs.size] [a] _ ⟨(x1.trans x2).gens,(x1.trans x2).os,(x1.trans x2).le,(x1.trans x2).pre⟩ ⟨G2,C.F.congr (λo e=>g0 _ _ e) λx c o _ e=>g0 _ _ e⟩ ?_ ?_ (Iter.Th W) ?_ ?_ ?_
 .intro b u
  simp at u;rcases u with(rfl|rfl)|rfl
  .exact(fresh _ (by omega)).1
  .exact(fresh _ (ao _)).1
  .exact d0
 .intro b G H
  simp at G H;exact f0 b H G.2 G.1
 .refine⟨λi x y d ⟨⟨t,hx⟩,hy⟩ hd=>?_,λb u=>?_,λb u=>?_,λh a1 a2=>?_⟩
  .unfold Bb at hd
   rw[a_,nh]at hd;cases Y:xs[i]? with
   |none=>rw[Y]at hd;simp at hd
   |some d'=>
    rw[Y]at hd;simp at hd;let⟨v',h0,l0⟩:=rl.get Y;rw[hy]at h0;cases h0;subst hx;exact⟨_,_,hd.symm,.int _ _,l0⟩
  .simp at u
   rcases u with rfl|rfl|rfl
   .exact⟨_,.inl ⟨.inl (by simp),N⟩⟩
   .exact⟨_,.inl ⟨.inl (by simp),M⟩⟩
   .exact⟨_,.inl ⟨.inr (by simp),L⟩⟩
  .simp at u
   rcases u with rfl|rfl
   .exact⟨_,N⟩
   .exact⟨_,M⟩
  .exact⟨⟨_,a1 _ _ (.inl (by simp)) N⟩,⟨_,a1 _ _ (.inl (by simp)) M,p2,p3⟩,a1 _ _ (.inr (by simp)) L⟩
 .exact⟨λz=>(nomatch z),λm cc e=>by cases e;exact⟨a,_,rfl,ha,L,.vK rl⟩⟩
 .intro b u
  rw[aj.mp u];simp[T,V]
def Ez(l k:Nat):Obj:={cls:=.type "tuple_iterator",data:=.fields #[.ref l,.int k 0]}
def Qu(a:Yx)(N:Nat):Obj:={cls:=.type "zip",data:=.fields #[a,.bool false,.bool false,.ref (N+2),.ref (N+3)]}
structure ZS(N l1 l2:Nat)(xs ys:Yc)(n1 n2:Nat)(f0:Yx)(k1 k2:Nat)(h:YI):Prop where
 i1:h.get? N=some (Ez l1 k1)
 i2:h.get? (N+1)=some (Ez l2 k2)
 ti:h.get? (N+2)=some (yM (.ref N) (.ref (N+1)))
 to:∃a b,h.get? (N+3)=some (yM a b)
 z:h.get? (N+4)=some (Qu f0 N)
 e1:h.get? l1=some (v9 "tuple" xs.toArray n1)
 e2:h.get? l2=some (v9 "tuple" ys.toArray n2)
 lt:l1<N/\l2<N
theorem ZS.cz(c:ZS N f g i j l m s n p h)(k:∀b o,b≠N+4->h.get? b=some o->d.get? b=some o)(e:d.get? (N+4)=some (Qu r N)):ZS N f g i j l m r n p d:=
 have:=c.lt
 ⟨k _ _ (by omega) c.i1,k _ _ (by omega) c.i2,k _ _ (by omega) c.ti,let⟨a,b,q⟩:=c.to;⟨a,b,k _ _ (by omega) q⟩,e,k _ _ (by omega) c.e1,k _ _ (by omega) c.e2,c.lt⟩
theorem ZS.c1(c:ZS N f i j l m n p s r h)(d:∀b o,b≠N->h.get? b=some o->g.get? b=some o)(e:g.get? N=some (Ez f k)):ZS N f i j l m n p k r g:=
 have:=c.lt
 ⟨e,d _ _ (by omega) c.i2,d _ _ (by omega) c.ti,let⟨a,b,q⟩:=c.to;⟨a,b,d _ _ (by omega) q⟩,d _ _ (by omega) c.z,d _ _ (by omega) c.e1,d _ _ (by omega) c.e2,c.lt⟩
theorem ZS.c2(c:ZS N i f j l m n p r s h)(d:∀b o,b≠N+1->h.get? b=some o->g.get? b=some o)(e:g.get? (N+1)=some (Ez f k)):ZS N i f j l m n p r k g:=
 have:=c.lt
 ⟨d _ _ (by omega) c.i1,e,d _ _ (by omega) c.ti,let⟨a,b,q⟩:=c.to;⟨a,b,d _ _ (by omega) q⟩,d _ _ (by omega) c.z,d _ _ (by omega) c.e1,d _ _ (by omega) c.e2,c.lt⟩
theorem ZS.co(c:ZS N g i j k l m n p q h)(d:∀b o,b≠N+3->h.get? b=some o->f.get? b=some o)(e:f.get? (N+3)=some (yM a b)):ZS N g i j k l m n p q f:=
 have:=c.lt
 ⟨d _ _ (by omega) c.i1,d _ _ (by omega) c.i2,d _ _ (by omega) c.ti,⟨a,b,e⟩,d _ _ (by omega) c.z,d _ _ (by omega) c.e1,d _ _ (by omega) c.e2,c.lt⟩
theorem Dd{V:Yc}(b:s.heap.get? i=some (Ez l k))(f:s.heap.get? l=some (v9 "tuple" V.toArray n))(g:V[k]? =some x)(q:∀a,a.get? i=some (Ez l (k+1))->Heap.SameBut i s.heap a->Q x {s with heap:=a}):wpAny (model pw w) A (Builtin.SmallTypes.nextOf (.ref i)) Q E s:=by
 have d:s.TypeIs (.ref i) "tuple_iterator":=⟨_,b,rfl⟩;unfold Builtin.SmallTypes.nextOf;refine Z (dR d gh (bL gh d mR ?_ (mQ _)));show wpAny _ _ (field (.ref i) 0>>=_) _ _ s;refine Z (cJ b rfl (x:=.ref l) rfl ?_);rw[J (show¬((Value.ref l==Value.none)=true)from cD)];refine Z (cJ b rfl rfl ?_);show wpAny _ _ (seqItems? (.ref l)>>=_) _ _ s;refine Z (dX f rfl ?_);have c:V.toArray[k]? =some x:=by simpa using g
 simp only[cX,c];exact Z (fL b (by simp) λa e h=>U ⟨x,rfl,U (q a e h)⟩)
theorem Ji{V:Yc}(g:A.handled=none)(a:s.heap.get? i=some (Ez l k))(h:s.heap.get? l=some (v9 "tuple" V.toArray n))(j:V[k]? =none)(q:∀c e,(∀b o,b≠i->s.heap.get? b=some o->c.get? b=some o)->Shared.TypeIs {s with heap:=c} e "StopIteration"->E e {s with heap:=c}):wpAny (model pw w) A (Builtin.SmallTypes.nextOf (.ref i)) Q E s:=by
 have f:s.TypeIs (.ref i) "tuple_iterator":=⟨_,a,rfl⟩;unfold Builtin.SmallTypes.nextOf;refine Z (dR f gh (bL gh f mR ?_ (mQ _)));show wpAny _ _ (field (.ref i) 0>>=_) _ _ s;refine Z (cJ a rfl (x:=.ref l) rfl ?_);rw[J (show¬((Value.ref l==Value.none)=true)from cD)];refine Z (cJ a rfl rfl ?_);show wpAny _ _ (seqItems? (.ref l)>>=_) _ _ s;refine Z (dX h rfl ?_);have d:V.toArray[k]? =none:=by simpa using j
 simp only[cX,d];refine Z (dO (Z (fL a (by simp) λc e m=>?_)));exact qJ g λp r t u=>q p r (λb o v e=>t _ _ ((m.2 b v).trans e)) u
theorem Gk(d:s.heap.get? T=some (yM a b))(h:∀c,c.get? T=some {cls:=.type "tuple",data:=.seq ((#[a,b]:Yp).setIfInBounds k x)}->Heap.SameBut T s.heap c->Q () {s with heap:=c}):wpAny (model pw w) A (updateSeq T (·.setIfInBounds k x)) Q E s:=by
 refine jS d rfl (h _ ?_ (bY ..));rw[gj _ d rfl];simp[Obj.mapSeq,yM,v9]
theorem NO{Q:X0}(d:ZS N I L p q M P .none k k s.heap)(hx:p[k]? =some x)(hy:q[k]? =some y)(hQ:∀i,ZS N I L p q M P (rawInt s.heap.objs.size) (k+1) (k+1) i->i.get? s.heap.objs.size=some (yM x y)->(∀c o,c≠N+4->c≠N+3->c≠N->c≠N+1->s.heap.get? c=some o->i.get? c=some o)->Q (.ref s.heap.objs.size) {s with heap:=i}):wpAny (model pw w) A (Builtin.«zip.__next__» ⟨[.ref (N+4)],[]⟩) (λH s'=>∃v,H= .done (.ret v)/\Q v s') E s:=by
 let⟨a,b,a0⟩:=d.to;show wpAny _ _ (field (.ref (N+4)) 2>>=_) _ _ _;refine Z (cJ d.z rfl rfl ?_);refine Z (cJ d.z rfl rfl (Z (dX d.ti rfl ?_)));show wpAny _ _ (Builtin.SmallTypes.ownedTupleIsFree _>>=_) _ _ _;apply Z;unfold Builtin.SmallTypes.ownedTupleIsFree;refine Z (cJ d.z rfl rfl (U ?_));simp only[cE];refine Z (dO (Z (cJ d.z rfl rfl ?_)));refine Z (fL d.z (by simp) λh1 e1 r=>?_);have t:=d.cz (λb o f e=>(r.2 b f).trans e) e1;apply Z;simp only[lJ,p7,mC,qN];refine Z (Z (rm ?_));show wpAny _ _ (Builtin.SmallTypes.nextOf (.ref N)>>=_) _ _ _;refine Z (Dd t.i1 t.e1 hx λh2 e2 u=>U ?_);have R:=t.c1 (λb o f e=>(u.2 b f).trans e) e2;let⟨a2,S,T⟩:=R.to;refine Z (dX T rfl (Z (Gk T λh3 j z=>?_)));have j:h3.get? (N+3)=some (yM x S):=j;have C:=R.co (λb o f e=>(z.2 b f).trans e) j;refine Z (i7 (U ?_));refine Z (Z (rm ?_));show wpAny _ _ (Builtin.SmallTypes.nextOf (.ref (N+1))>>=_) _ _ _;refine Z (Dd C.i2 C.e2 hy λh4 e4 l=>U ?_);have Z4:=C.c2 (λb o f e=>(l.2 b f).trans e) e4;have V:h4.get? (N+3)=some (yM x S):=(l.2 (N+3) (by simp)).trans j;refine Z (dX V rfl (Z (Gk V λg m F=>?_)));have m:g.get? (N+3)=some (yM x y):=m;have G:=Z4.co (λb o f e=>(F.2 b f).trans e) m;refine Z (i7 (U (U ?_)));refine Z (dX m rfl ?_);refine Z (uf (by simp[yM,v9]) ?_);have h:g.objs.size=s.heap.objs.size:=by rw[F.1,l.1,z.1,u.1,r.1]
 apply Z;unfold Builtin.SmallTypes.ownedTupleHandOut;have z6:(g.push (zP [x,y])).get? (N+4)=some (Qu .ellipsis N):=ak _ G.z;refine Z (fL z6 (by simp) λh7 e7 W=>fL e7 (by simp) λn e8 X=>?_);have Y:∀b o,b≠N+4->g.get? b=some o->n.get? b=some o:=λb o f e=>(X.2 b f).trans ((W.2 b f).trans (ak _ e));have T8:n.get? g.objs.size=some (yM x y):=by
  have f:g.objs.size≠N+4:=fq (aJ G.z);exact(X.2 _ f).trans ((W.2 _ f).trans (aD _ rfl))
 have Z8:ZS N I L p q M P (rawInt g.objs.size) (k+1) (k+1) n:=G.cz Y e8;rw[h]at T8 Z8;refine U ⟨_,rfl,?_⟩;show Q (.ref g.objs.size) _;rw[h];exact hQ n Z8 T8 λc o c1 c2 c3 c4 e=>Y c o c1 ((F.2 c c2).trans ((l.2 c c4).trans ((z.2 c c2).trans ((u.2 c c3).trans ((r.2 c c1).trans e)))))
theorem QE{Q:Fin->Yy->Prop}(r:A.handled=none)(d:ZS N G H t I L M .none k k s.heap)(u:t[k]? =none)(v:∀f e,(∀c o,c≠N+4->c≠N->s.heap.get? c=some o->f.get? c=some o)->Shared.TypeIs {s with heap:=f} e "StopIteration"->E e {s with heap:=f}):wpAny (model pw w) A (Builtin.«zip.__next__» ⟨[.ref (N+4)],[]⟩) Q E s:=by
 show wpAny _ _ (field (.ref (N+4)) 2>>=_) _ _ _;refine Z (cJ d.z rfl rfl ?_);refine Z (cJ d.z rfl rfl (Z (dX d.ti rfl ?_)));show wpAny _ _ (Builtin.SmallTypes.ownedTupleIsFree _>>=_) _ _ _;apply Z;unfold Builtin.SmallTypes.ownedTupleIsFree;refine Z (cJ d.z rfl rfl (U ?_));simp only[cE];refine Z (dO (Z (cJ d.z rfl rfl ?_)));refine Z (fL d.z (by simp) λP e1 i=>?_);have g:=d.cz (λb o y e=>(i.2 b y).trans e) e1;apply Z;simp only[lJ,p7,mC,qN];refine Z (Z (rm ?_));show wpAny _ _ (Builtin.SmallTypes.nextOf (.ref N)>>=_) _ _ _;refine Z (Ji r g.i1 g.e1 u λR e j l=>?_);have m:=j _ _ (by simp:N+4≠N) g.z;refine fL m (by simp) λz S n=>v z e (λc o p C x=>(n.2 c p).trans (j _ _ C ((i.2 c p).trans x))) ?_;cases e with
 |ref a=>
  let⟨o,h,q⟩:=l;have F:a≠N+4:=by rintro rfl;rw[m]at h;cases h;simp[Qu]at q
  exact⟨o,(n.2 a F).trans h,q⟩
 |_=>exact l
theorem WT.zip(v:A.handled=none)(f:j.length=l.length):WT w A (N+4) [N,N+1,N+2,N+3,N+4,l1,l2] [N,N+1,N+2,N+3,N+4] j.length (λi x y=>j[i]? =some x/\l[i]? =some y) (λi h=>ZS N l1 l2 j l n1 n2 .none i i h) (λi T h=>ZS N l1 l2 j l n1 n2 (rawInt T) (i+1) (i+1) h) where
 sub:=λb d=>by simp at d;rcases d with rfl|rfl|rfl|rfl|rfl<;>simp
 frame:=λi h g c k=>⟨k _ (by simp) _ c.i1,k _ (by simp) _ c.i2,k _ (by simp) _ c.ti,let⟨a,b,q⟩:=c.to;⟨a,b,k _ (by simp) _ q⟩,k _ (by simp) _ c.z,k _ (by simp) _ c.e1,k _ (by simp) _ c.e2,c.lt⟩
 own:=λi h c b d=>by
  simp at d;let⟨L,M,t⟩:=c.to;rcases d with rfl|rfl|rfl|rfl|rfl
  .exact⟨_,c.i1⟩
  .exact⟨_,c.i2⟩
  .exact⟨_,c.ti⟩
  .exact⟨_,t⟩
  .exact⟨_,c.z⟩
 item:=λi s Q E m c k=>by
  have p:s.TypeIs (.ref (N+4)) "zip":=⟨_,c.z,rfl⟩;refine qx p qq qb (pU _) (NO c (x:=j[i]) (y:=l[i]) (by simp[m]) (by simp[f▸m]) λg r n C=>?_);exact k _ _ _ g s.toks ⟨by simp[m],by simp[f▸m]⟩ (ao _) n r λb o d e=>C b o (λz=>d (by simp[z])) (λz=>d (by simp[z])) (λz=>d (by simp[z])) (λz=>d (by simp[z])) e
 go:=λu k I i T s Q E c q=>by
  refine wpAny_letOwnedTupleGo_zip c.z λg r n=>q g (c.cz (λb o F e=>(n.2 b F).trans e) r) λb o d e=>(n.2 b (λz=>d (by simp[z]))).trans e
 done:=λs Q E c k=>by
  have p:s.TypeIs (.ref (N+4)) "zip":=⟨_,c.z,rfl⟩;refine qx p qq qb (pU _) (QE v c (by simp) λg e G H=>⟨H,k g s.toks λb o d x=>G b o (λz=>d (by simp[z])) (λz=>d (by simp[z])) x⟩)
 self:=λi s Q E c q=>wpAny_pyIter_zip c.z q
abbrev WX(h:YI)(a:Nat):YI:=h.push (Ez a 0)
abbrev WW(h:YI)(a b:Nat):YI:=(WX h a).push (Ez b 0)
abbrev WV(h:YI)(a b:Nat):YI:=(WW h a b).push (yM (.ref h.objs.size) (.ref (WX h a).objs.size))
abbrev WU(h:YI)(a b:Nat):YI:=(WV h a b).push (yM .none .none)
abbrev TF(h:YI)(a b:Nat):YI:=(WU h a b).push {cls:=.type "zip",data:=.fields #[.none,.bool false,.bool false,.ref (WW h a b).objs.size,.ref (WV h a b).objs.size]}
theorem DJ(a b:YB)(j k:Yp):Meets (Builtin.«zip.__new__» ⟨[.type "zip",.ref a,.ref b],[]⟩) (λ_ R s=>s.heap.IsTuple a j/\s.heap.IsTuple b k/\R (.ok (.ret (.ref (WU s.heap a b).objs.size))) {s with heap:=TF s.heap a b}):=
 .of_wp λn w A R s h=>by
  let⟨l,g,d,m,os⟩:=s;let⟨c,e,h⟩:=h;have o:=sub_zip;have f:Heap.IsTuple (Shared.heap ⟨l,g,d,m,os⟩) a j:=c;have i:Heap.IsTuple (Shared.heap ⟨l.push {cls:=.type "tuple_iterator",data:=.fields #[.ref a,.int 0 0]},g,d,m,os⟩) b k:=e.push _
  wp_walk using wpAny_pyIter_tuple f,u7 i
  exact⟨_,rfl,h⟩
theorem FH(e:s.heap.get? a=some (v9 "tuple" n.toArray v))(f:s.heap.get? b=some (v9 "tuple" p.toArray y))(h:∀g,ZS s.heap.objs.size a b n p v y .none 0 0 g->(∀c o,s.heap.get? c=some o->g.get? c=some o)->Q (.ref (s.heap.objs.size+4)) {s with heap:=g}):wpAny (model pw w) A (call (.type "zip") [.ref a,.ref b]) Q E s:=by
 refine callType_new PySem.F.called_zip (by decide) (PySem.F.typeCall_zip_2 _ _) (PySem.F.newCall_zip_2 _ _) (λm=>PySem.F.args_object_init_3 m _ _) PySem.F.entry_zip_new (DJ a b n.toArray p.toArray) ⟨lW e,lW f,?_⟩;have i:(WX s.heap a).objs.size=s.heap.objs.size+1:=fQ ..;have j:(WW s.heap a b).objs.size=s.heap.objs.size+2:=by rw[fQ,i]
 have k:(WV s.heap a b).objs.size=s.heap.objs.size+3:=by rw[fQ,j]
 have q:(WU s.heap a b).objs.size=s.heap.objs.size+4:=by rw[fQ,k]
 have l:(TF s.heap a b).get? (WU s.heap a b).objs.size=some _:=aD _ rfl;have r:(TF s.heap a b).get? (WV s.heap a b).objs.size=some _:=ak _ (aD _ rfl);have t:(TF s.heap a b).get? (WW s.heap a b).objs.size=some _:=ak _ (ak _ (aD _ rfl));have u:(TF s.heap a b).get? (WX s.heap a).objs.size=some _:=ak _ (ak _ (ak _ (aD _ rfl)));have z:(TF s.heap a b).get? s.heap.objs.size=some _:=ak _ (ak _ (ak _ (ak _ (aD _ rfl))));have d:∀c o,s.heap.get? c=some o->(TF s.heap a b).get? c=some o:=λc o x=>ak _ (ak _ (ak _ (ak _ (ak _ x))));show _/\_;rw[j,k,q]at l;rw[i,j]at t;rw[k]at r;rw[i]at u;rw[q];exact⟨⟨_,l,rfl⟩,h _ ⟨z,u,t,⟨_,_,r⟩,l,d _ _ e,d _ _ f,aJ e,aJ f⟩ d⟩
theorem IT.zip(hA:A.handled=none)(hf:PV w A l md σ (eval (.Name f p) l) (.type "zip"))(h:Ab w A l md σ (backTo M (starEach [e1,Y] l)) [.vV xs,.vV ys])(u:xs.length=ys.length)(N:(backTo M (starEach [e1,Y] l)).any (·.1)=false:=by rfl):IT w A l md σ DP none (eval (.Call (.Name f p) [e1,Y] [] M) l) ((xs.zip ys).map λp=>.vV [p.1,p.2]):=by
 intro g R ρ s E Q F q;refine dF (hf g R ρ s _ _ F λs1 x1 F1=>dZ N (fE N (h g R ρ s1 _ _ F1 λvs t g2 P ds a0 x2 C r b0=>?_)));obtain⟨rfl,rfl⟩:=b0;cases r with
 |cons r1 r=>
 cases r with
 |cons r2 r=>
 cases r
 cases r1 with
 |vV I H=>
 cases r2 with
 |vV L S=>
 rename_i a1 T a2 c0;let⟨m1,I⟩:=I;let⟨m2,L⟩:=L;refine FH (C.G.sub _ _ I) (C.G.sub _ _ L) λG a v=>?_;apply wpAny_pyIter_zip a.z;have W:=WT.zip (w:=w) (N:=t.heap.objs.size) (l1:=a1) (l2:=a2) (n1:=m1) (n2:=m2) hA (show T.length=c0.length by rw[H.length,S.length,u]);have hl:((xs.zip ys).map λp=>D.vV [p.1,p.2]).length=T.length:=by simp[H.length,u]
 rw[<-hl]at W;let⟨ta,tb,d0⟩:=a.to;let j:X_:=[t.heap.objs.size,t.heap.objs.size+1,t.heap.objs.size+2,t.heap.objs.size+3,t.heap.objs.size+4];have e0:=W.own 0 G a;have G1:GS w g2 R P a0 G:=C.G.keep v;have fresh:∀b∈j,t.heap.get? b=none:=λb k=>cu (by
  simp[j]at k;rcases k with rfl|rfl|rfl|rfl|rfl
  .exact ao _
  all_goals exact lK _ _)
 have G2:=C.G.zQ v fresh;have V:View.le R (Mine.zQ R j G):=λb o e=>by
  have nb:b∉j:=λz=>by rw[C.G.yt (fresh b z)]at e;cases e
  exact(J nb).trans e
 refine q {t with heap:=G} g2 (Mine.zQ R j G) P (t.heap.objs.size+4) j [] _ ⟨(x1.trans x2).gens,(x1.trans x2).os,(x1.trans x2).le,(x1.trans x2).pre⟩ ⟨G2,C.F.congr (λo e=>V _ _ e) λx c o _ e=>V _ _ e⟩ ?_ (λb h1 _=>J h1) (Iter.Th W) ?_ ?_ (λb k=>nomatch k)
 .intro b k
  exact C.G.yt (fresh b (k.resolve_right λz=>nomatch z))
 .have inR:∀b∈j,∃o,Mine.zQ R j G b=some o:=λb k=>let⟨o,e⟩:=e0 b k;⟨o,(B k).trans e⟩
  refine⟨λi x y d ⟨hx,hy⟩ hd=>?_,λb k=>?_,inR,λh f0 X=>?_⟩
  .rw[a_]at hd
   cases hz:(xs.zip ys)[i]? with
   |none=>rw[hz]at hd;cases hd
   |some pr=>
    rw[hz]at hd;cases hd;let⟨e1,Y⟩:=List.getElem?_zip_eq_some.mp hz;let⟨v1,u1,r1⟩:=H.get e1;let⟨v2,u2,r2⟩:=S.get Y;rw[hx]at u1;cases u1;rw[hy]at u2;cases u2;exact⟨_,_,rfl,r1,r2⟩
  .by_cases z:b∈j
   .let⟨o,e⟩:=inR b z;exact⟨o,.inl ⟨.inl z,e⟩⟩
   .have:b=a1\/b=a2:=by
     have g0:b∈j++[a1,a2]:=k;rcases aB.mp g0 with q|q
     .exact absurd q z
     .simpa using q
    rcases this with rfl|rfl
    .exact⟨_,.inr I⟩
    .exact⟨_,.inr L⟩
  .have n:∀b∈j,∀o,G.get? b=some o->h.get? b=some o:=λb k o e=>f0 b o (.inl k) ((B k).trans e)
   exact⟨n _ (by simp[j]) _ a.i1,n _ (by simp[j]) _ a.i2,n _ (by simp[j]) _ a.ti,⟨ta,tb,n _ (by simp[j]) _ d0⟩,n _ (by simp[j]) _ a.z,X _ _ I,X _ _ L,a.lt⟩
 .exact⟨λ_=>rfl,λm cc e=>nomatch e⟩
theorem GE.Xp(L:GE w A c z M (eval l c) N)(S:∀q f,N q f->GE w A c z f (eval r c) λC d=>∃i j,xA d q i/\xA d C j/\i.length+j.length<=100000/\∀n,d.μ n=none->T (.ref n) (d.put n (.vK (i++j)))):GE w A c z M (eval (.BinOp l .Add r x) c) T:=by
 intro g R V s E Q F k;show wpAny _ _ (do let a <-eval l c;let b <-holding [a] (eval r c);standAt x;operate [a,b] (binaryOp .Add a b)) Q E s;refine Z (L g R V s E _ F λv1 W X y q f t Y r1 p1=>?_);refine Z (aC (S q f p1 X R y W E _ Y λv2 G g2 o C d m h r2 ⟨i,j,h1,h2,hz,hp⟩=>?_));obtain⟨a,u,n1,rfl,e1,H⟩:=h.G.vK (r1.up m) h1;obtain⟨b,v,n2,rfl,e2,I⟩:=h.G.vK r2 h2;have l1:=H.length;have l2:=I.length;refine Z (aX (kD (P.add_list e1 e2 ?_ (by rw[bA];simp;omega))));have e:(u.toArray++v.toArray)=(u++v).toArray:=by simp
 rw[e];have fr:=h.G.free (h':=G.heap.push (v9 "list" (u++v).toArray 0)) (ao _) (aD _ rfl);have G3:=(h.G.push (v9 "list" (u++v).toArray 0)).x6 fr (c:=.vK (i++j)) (.vK (H.append I));have p:o<+:o++[G.heap.objs.size]:=e9 _ _;exact k _ _ g2 _ _ _ ⟨(t.trans m).gens,(t.trans m).os,(t.trans m).le,(t.trans m).pre.trans p⟩ ⟨G3,h.F.mono (bM _) p⟩ (.ref (by simp)) (hp _ h.G.yu)
theorem Qc(b n:Nat)(d:b<=n):Builtin.Slice.sliceAdjust none (some (b:Int)) 1 (n:Int)=(0,(b:Int)):=by
 unfold Builtin.Slice.sliceAdjust;have a:¬((1:Int)<0):=by omega
 have c:¬((b:Int)<0):=by omega
 simp only[a,c,bz];congr 1;omega
theorem HK(b:Nat):Builtin.Slice.slicePlaces 0 (b:Int) 1=b:=by
 unfold Builtin.Slice.slicePlaces;have a:(1:Int)>0:=by omega
 simp only[a,cE,Int.ediv_one];split<;>omega
theorem LJ{a:Yc}(d:b<=a.length):((List.range b).filterMap λ(k:Nat)=>a.toArray[((0:Int)+(k:Int)*1).toNat]?)=a.take b:=by
 have e:(λ(k:Nat)=>a.toArray[((0:Int)+(k:Int)*1).toNat]?)=λk=>a[k]? :=by
  funext k;have:((0:Int)+(k:Int)*1).toNat=k:=by omega
  rw[this];simp
 rw[e];clear e;induction b with
 |zero=>simp
 |succ b c=>
  rw[iU,List.filterMap_append,c (by omega),List.take_succ];have:b<a.length:=by omega
  simp[this]
theorem PE.HA{b:Nat}(h:PE w A f T V (eval m f) (.vV o))(P:PE w A f T V (eval I f) (.int b))(hb:b<=o.length)(L:o.length<=100000):PE w A f T V (eval (.Subscript m (.Slice none (some I) none p) a0) f) (.vV (o.take b)):=by
 intro g R ρ s E Q F k;refine rI (T:="tuple") h_.lookup (h g R ρ s E _ F λv s1 g1 S x1 F1 W=>?_);apply pO;rw[nO,nN];apply U;refine P g1 R S s1 E _ F1 λv2 d g2 x M z r2=>U ?_;obtain⟨u,rfl⟩:=r2.vX;obtain⟨t,a,n,rfl,e,X⟩:=z.G.vV (W.up M);have hl:=X.length;have Y:=z.G.push {cls:=.type "slice",data:=.fields #[.none,.int b u,.none]};have C:(d.heap.push {cls:=.type "slice",data:=.fields #[.none,.int b u,.none]}).get? t=some (v9 "tuple" a.toArray n):=ak _ e;have G:(d.heap.push {cls:=.type "slice",data:=.fields #[.none,.int b u,.none]}).get? d.heap.objs.size=some {cls:=.type "slice",data:=.fields #[.none,.int b u,.none]}:=aD _ rfl;have j:=x1.trans M;have i:Shared.TypeIs {d with heap:=d.heap.push {cls:=.type "slice",data:=.fields #[.none,.int b u,.none]}} (.ref t) "tuple":=⟨_,C,rfl⟩;refine⟨i,?_⟩;unfold getItem;refine aC (Z (jm i (by decide) ?_));refine Z (dR (name:=Str.ofString "__getitem__") i h_
  (bL h_ i PySem.F.entry_tuple_getitem ?_ (PySem.F.args_tuple_getitem_2 _ _)))
 show wpAny _ _ (Builtin.Tuple.tupleItemsOf (.ref t)>>=_) _ _ _;refine Z (tupleItemsOf_ (tL C) ?_);refine Z (d8 (T:="slice") ⟨_,G,rfl⟩ ?_);rw[B (by decide)];have ap:∀A' N E',N (0,1,b) {d with heap:=d.heap.push {cls:=.type "slice",data:=.fields #[.none,.int b u,.none]}}->
  wpAny (model pw w) A' (Builtin.Slice.sliceApplied (.ref d.heap.objs.size) (pure (a.toArray.size:Int))) N E' {d with heap:=d.heap.push {cls:=.type "slice",data:=.fields #[.none,.int b u,.none]}}:=by
  intro A' N E' q;unfold Builtin.Slice.sliceApplied Builtin.Slice.sliceFields;refine Z (Z (cJ G rfl (x:=.none) rfl (Z (cJ G rfl (x:=.int b u) rfl (Z (cJ G rfl (x:=.none) rfl (U ?_)))))));refine Z (slicePart_none ?_);show wpAny _ _ (if((1:Int)==0)=true then _ else _) _ _ _;rw[J (by decide)];refine Z (slicePart_none (Z (slicePart_int (Z (U ?_)))));show wpAny _ _ (match Builtin.Slice.sliceAdjust none (some (b:Int)) 1 (a.toArray.size:Int)with|(lo,I)=>pure (lo,(1:Int),Builtin.Slice.slicePlaces lo I 1)) _ _ _;rw[Qc b _ (by simp;omega)];show wpAny _ _ (pure ((0:Int),(1:Int),Builtin.Slice.slicePlaces 0 (b:Int) 1)) _ _ _;rw[HK];exact U q
 refine Z (ap _ _ _ ?_);show wpAny _ _ (if((0:Int)==0&&(1:Int)==1&&b==a.toArray.size)=true then _ else _) _ _ _;by_cases c:b=a.length
 .rw[B (by simp[c])]
  apply Z;unfold Builtin.Tuple.tupleIsExact;refine Z (d8 i (U ?_));rw[B (by decide)];refine Z (dO (U ⟨_,rfl,U ?_⟩));have:o.take b=o:=dG (by omega);rw[this]at k;exact k _ _ g2 x ⟨j.gens,j.os,j.le,j.pre⟩ ⟨Y,z.F⟩ (W.up M)
 .rw[J (by simp[c]),LJ (by omega)]
  let⟨g',G',l,q,r⟩:=rZ (T:="tuple") (s:={d with heap:=d.heap.push {cls:=.type "slice",data:=.fields #[.none,.int b u,.none]}}) Y (X.take b);have y:=λH (e1:H.heap=_) (e2:H.gens=d.gens) (C:H.os=d.os)=>k (.ref _) H g' x ⟨e2.trans j.gens,C.trans j.os,j.le.trans l,j.pre⟩ ⟨by rw[e1];exact G',z.F.mono l (aE _)⟩ (.vV q r);have L:sizeOk (.seq (a.take b).toArray):=by show(a.take b).toArray.size<=sizeLine;rw[aW,bA,bU];omega
  first
   |exact Z (m:=Builtin.Tuple.tupleExact _) (cM (U ⟨_,rfl,U (y _ rfl rfl rfl)⟩) L)
   |exact Z (m:=Builtin.Tuple.tupleExact _) (cM (Z (U (U ⟨_,rfl,U (y _ rfl rfl rfl)⟩))) L)
theorem PE.I5(h:PE w A a l m (eval c a) (.str x))(i:PE w A a l m (eval o a) (.int 1))(q:∀t u,(sliceMade x t none (some (1,u)) none= .val (.str x t)/\y=x)\/sliceMade x t none (some (1,u)) none= .str y)(P:y.length<=1000):PE w A a l m (eval (.Subscript c (.Slice none (some o) none p) N) a) (.str y):=by
 intro g R r s E Q F k;refine rI (T:="str") PySem.F.slot_str_getitem.lookup (h g R r s E _ F λv z C j G H I=>pO ?_);rw[nO,nN];refine U (i C R j z E _ H λS T n d L f M=>U ?_);obtain⟨u,rfl⟩:=M.vX;obtain⟨t,rfl⟩:=I.wF;have b:=G.trans L;refine⟨kB _ x t,wpAny_getItem_str_slice (l:=none) (u:=some (1,u)) (st:=none) ⟨_,aD _ rfl,rfl,rfl⟩ rfl ?_⟩;rcases q t u with⟨e,rfl⟩|e
 .rw[e]
  exact k _ _ n d ⟨b.gens,b.os,b.le,b.pre⟩ ⟨f.G.push _,f.F⟩ (.str _ _)
 .rw[e]
  exact⟨by rw[bA];omega,k _ _ n d ⟨b.gens,b.os,b.le,b.pre⟩ ⟨f.G.push _,f.F⟩ (.str _ _)⟩
theorem DH:OP w A σ (λb=>call (.builtin "str.isspace") b) [.str x] (.bool (x.length>0&&x.cps.all Unicode.isSpace)):=by
 refine kO λg R c s b E Q G a k=>?_;cases a with
 |cons r a=>
 cases a
 obtain⟨t,rfl⟩:=r.wF;refine bL pI (kB _ x t) PySem.F.entry_str_isspace ?_ (PySem.F.args_str_isspace_1 _);exact U ⟨_,rfl,k _ s g c (eU _ _ _) G (.bool _)⟩
theorem D8(o:we n A)(f:d.pl 20=true)(h:(D.vV a).pl 20=true)(i:b=true↔d∈a):y9 w A z (compareOp .In) d (.vV a) (.bool b):=by
 intro g R p s C F E Q G r j k;let⟨H,t⟩:=r.xY G.sub f;let⟨I,l⟩:=j.xY G.sub h;have u:=D.lay f;have c:yJ a 19=true:=h;have m:=AJ c;apply SeqAt.in_tuple_reads l t m.1 u.1 (by show A.units+1+_<9900;have:=o.u;have:=Nat.min_le_left (PyData.depthAll (yG a)) (D.Ao d).depth;omega);have e:((yG a).any λy=>PyData.eqv y d.Ao)=b:=by
  rw[jR,i];clear i l m h j;induction a with
  |nil=>simp[yG]
  |cons x a v=>
   have:=jF.mp c;rw[show yG (x::a)=x.Ao::yG a from rfl,List.any_cons,Bool.or_eq_true,v (jF.mpr λd hd=>this d (.tail _ hd)),D.eqv (this x (.head _)) f,aG];exact⟨λq=>q.imp Eq.symm id,λq=>q.imp Eq.symm id⟩
 rw[e];exact k _ s g p (eU _ _ _) G (.bool _)
theorem Ft(o:we n A)(f:d.pl 20=true)(hd:FQ p r (.vK a))(h:b=true↔d∉a):y9 w A p (compareOp .NotIn) d r (.bool b):=by
 intro g R t s F H E Q G u i k;let⟨I,v⟩:=u.xY G.sub f;let⟨⟨L,j⟩,l⟩:=G.xY i hd;have z:=D.lay f;have c:yJ a 19=true:=l;have m:=AJ c;apply SeqAt.notIn_list_reads j v m.1 z.1 (by show A.units+1+_<9900;have:=o.u;have:=Nat.min_le_left (PyData.depthAll (yG a)) (D.Ao d).depth;omega);have e:(!(yG a).any λy=>PyData.eqv y d.Ao)=b:=by
  rw[jR,h,jk,Bool.eq_false_iff];apply nu;clear h j m l i hd;induction a with
  |nil=>simp[yG]
  |cons x a C=>
   have:=jF.mp c;rw[show yG (x::a)=x.Ao::yG a from rfl,List.any_cons,Bool.or_eq_true,C (jF.mpr λd hd=>this d (.tail _ hd)),D.eqv (this x (.head _)) f,aG];exact⟨λq=>q.imp Eq.symm id,λq=>q.imp Eq.symm id⟩
 rw[e];exact k _ s g t (eU _ _ _) G (.bool _)
theorem PE.VH(i:e.scope=S)(j:S.names.lookup x=some .globalImplicit)(l:nsIn (KF w) mainGlobals x=some (some (.ref a)))(m:(KF w).lookup a=some (v9 "tuple" c.toArray n))(o:∀g d,wR w g d c p)(hd:(x==("__debug__":Str))=false:=by decide):PE w A e r t (eval (.Name x f) e) (.vV p):=by
 intro g R d s E Q F k;refine dJ (w:=w) (A:=A) (md:=r) (σ:=t) (pos:=f) i j l hd g R d s E Q F λu v h=>?_;let⟨y,b,q⟩:=h.G.base;exact k _ u g d v h (.vV ⟨n,q _ _ (b.k _ _ m)⟩ (o g d))
theorem Ww{w:Yz}:nsIn (KF w) mainGlobals "len"=some none:=by kernel_rfl
theorem Pz{w:Yz}:nsIn (KF w) mainGlobals "sorted"=some none:=by kernel_rfl
theorem Ws{w:Yz}:nsIn (KF w) mainGlobals "set"=some none:=by kernel_rfl
theorem U'{w:Yz}:nsIn (KF w) mainGlobals "list"=some none:=by kernel_rfl
theorem Sj{w:Yz}:nsIn (KF w) mainGlobals "tuple"=some none:=by kernel_rfl
theorem Va{w:Yz}:nsIn (KF w) mainGlobals "dict"=some none:=by kernel_rfl
theorem Sk{w:Yz}:nsIn (KF w) mainGlobals "range"=some none:=by kernel_rfl
theorem Wv{w:Yz}:nsIn (KF w) mainGlobals "max"=some none:=by kernel_rfl
theorem Wu{w:Yz}:nsIn (KF w) mainGlobals "min"=some none:=by kernel_rfl
theorem Wq{w:Yz}:nsIn (KF w) mainGlobals "sum"=some none:=by kernel_rfl
theorem Wm{w:Yz}:nsIn (KF w) mainGlobals "zip"=some none:=by kernel_rfl
theorem HU{w:Yz}:nsIn (KF w) mainGlobals "enumerate"=some none:=by kernel_rfl
theorem Wy{w:Yz}:nsIn (KF w) mainGlobals "int"=some none:=by kernel_rfl
theorem Wr{w:Yz}:nsIn (KF w) mainGlobals "str"=some none:=by kernel_rfl
abbrev GI(S:Scope)(x:String):Prop:=S.names.lookup (Str.ofString x)=some .globalImplicit
theorem WM(b:a.scope=S)(c:GI S "len"):PV w A a d e (eval (.Name "len" p) a) (.builtin "len"):=fU b c Ww Boot.«len»
theorem P7(b:a.scope=S)(c:GI S "sorted"):PV w A a d e (eval (.Name "sorted" p) a) (.builtin "sorted"):=fU b c Pz Boot.«sorted»
def ki:=@P7
theorem Nl(b:a.scope=S)(c:GI S "set"):PV w A a d e (eval (.Name "set" p) a) (.type "set"):=fU b c Ws Boot.«set»
theorem Vi(b:a.scope=S)(c:GI S "list"):PV w A a d e (eval (.Name "list" p) a) (.type "list"):=fU b c U' Boot.«list»
def uG:=@Vi
theorem K7(b:a.scope=S)(c:GI S "tuple"):PV w A a d e (eval (.Name "tuple" p) a) (.type "tuple"):=fU b c Sj Boot.«tuple»
theorem IS(b:a.scope=S)(c:GI S "dict"):PV w A a d e (eval (.Name "dict" p) a) (.type "dict"):=fU b c Va Boot.«dict»
theorem K8(b:a.scope=S)(c:GI S "range"):PV w A a d e (eval (.Name "range" p) a) (.type "range"):=fU b c Sk Boot.«range»
theorem Nm(b:a.scope=S)(c:GI S "max"):PV w A a d e (eval (.Name "max" p) a) (.builtin "max"):=fU b c Wv Boot.«max»
theorem WL(b:a.scope=S)(c:GI S "min"):PV w A a d e (eval (.Name "min" p) a) (.builtin "min"):=fU b c Wu Boot.«min»
theorem WJ(b:a.scope=S)(c:GI S "sum"):PV w A a d e (eval (.Name "sum" p) a) (.builtin "sum"):=fU b c Wq Boot.«sum»
theorem WI(b:a.scope=S)(c:GI S "zip"):PV w A a d e (eval (.Name "zip" p) a) (.type "zip"):=fU b c Wm Boot.«zip»
theorem BE(b:a.scope=S)(c:GI S "enumerate"):PV w A a d e (eval (.Name "enumerate" p) a) (.type "enumerate"):=fU b c HU Boot.«enumerate»
theorem WN(b:a.scope=S)(c:GI S "int"):PV w A a d e (eval (.Name "int" p) a) (.type "int"):=fU b c Wy Boot.«int»
theorem WK(b:a.scope=S)(c:GI S "str"):PV w A a d e (eval (.Name "str" p) a) (.type "str"):=fU b c Wr Boot.«str»
abbrev A7(e:YD)(a:Env):Prop:=starEach [e] a=(false,eval e a)::starEach [] a
abbrev Ns1(a:Pos)(e:YD)(b:Env):Prop:=(backTo a (starEach [e] b)).any (·.1)=false
theorem Ab.one(b:A7 e a)(h:PE w A a c f (eval e a) d):Ab w A a c f (backTo g (starEach [e] a)) [d]:=bI b h bG
def bq:=@Ab.one
theorem PE.len(f:a.scope=S)(i:GI S "len")(h:PE w A a j c (eval e a) d)(hd:zL c d k)(l:k.length=n)(m:n<=1000000)(o:A7 e a:=by rfl)(q:Ns1 b e a:=by rfl):
 PE w A a j c (eval (.Call (.Name "len" p) [e] [] b) a) (.int n):=by
 subst l;exact lF (WM f i) (bq o h) (Wk hd m) q
def eY:=@PE.len
theorem PE.Io(f:a.scope=S)(i:GI S "tuple")(h:PE w A a j c (eval e a) d)(hd:xA c d ds)(k:ds.length<=1000000)(l:A7 e a:=by rfl)(m:Ns1 b e a:=by rfl):
 PE w A a j c (eval (.Call (.Name "tuple" p) [e] [] b) a) (.vV ds):=jw (K7 f i) (bq l h) (Fl hd k) m
def jx:=@PE.Io
theorem GE.Wi(j:a.scope=S)(k:GI S "list")(h:PE w A a l b (eval e a) d)(hd:zL b d i)(m:i.length<=1000000)(o:∀n,b.μ n=none->P (.ref n) (b.put n (.vK i)))(c:A7 e a:=by rfl)(f:Ns1 g e a:=by rfl):
 GE w A a l b (eval (.Call (.Name "list" p) [e] [] g) a) P:=GE.Cu (uG j k) ((bq c h).gs ((FO.new (BA hd m)).mono λd r ⟨n,c,f,q⟩=>by rw[f,q];exact o n c)) f
theorem PE.Nb(i:a.scope=S)(j:GI S "list")(h:PE w A a k c (eval e a) d)(hd:zL c d f)(l:f.length<=1000000)(m:A7 e a:=by rfl)(n:Ns1 b e a:=by rfl):
 PE w A a k c (eval (.Call (.Name "list" p) [e] [] b) a) (.vK f):=jw (uG i j) (bq m h) (FO.op (BA hd l)) n
theorem PE.Iu(c:a.scope=S)(d:GI S "range")(h:PE w A a f i (eval e a) (.int n))(j:A7 e a:=by rfl)(k:Ns1 b e a:=by rfl):
 PE w A a f i (eval (.Call (.Name "range" p) [e] [] b) a) (.zR 0 n):=jw (K8 c d) (bq j h) Mine.Iu k
def rP:=@PE.Iu
theorem GE.append(h:PE w A a n k (eval o a) (.ref c))(p:k.μ c=some (.vK y))(r:GE w A a n k (eval arg a) λd f=>∃l,f.μ c=some (.vK l)/\l.length<=100000/\P .none (f.put c (.vK (l++[d]))))(s:A7 arg a:=by rfl)(g:attributeBase o "append" a (eval o a)=eval o a:=by rfl)(m:Ns1 b arg a:=by rfl)(t:methodCallForm ([arg].length+([]:List Keyword).length) (backTo b (starEach [arg] a)) (backToKw b (keywordEach [] a))=true:=by rfl)(i:(j.endLine==b.line)=true:=by rfl):
 GE w A a n k (eval (.Call (.Attribute o "append" j) [arg] [] b) a) P:=
 lU h (IsT.vK (.m p)) kI ry PySem.F.type_list_append (b_ s r λd f ⟨l,e,u,v⟩=>gu ((DM e u).mono λz x q=>by rw[q.1,q.2];exact v)) g m t i
def e_:=@GE.append
theorem GE.extend(h:PE w A a k g (eval o a) (.ref c))(n:g.μ c=some (.vK l))(p:PE w A a k g (eval arg a) d)(hd:xA g d m)(r:l.length+m.length<=100000)(s:P .none (g.put c (.vK (l++m))))(t:A7 arg a:=by rfl)(e:attributeBase o "extend" a (eval o a)=eval o a:=by rfl)(j:Ns1 b arg a:=by rfl)(u:methodCallForm ([arg].length+([]:List Keyword).length) (backTo b (starEach [arg] a)) (backToKw b (keywordEach [] a))=true:=by rfl)(f:(i.endLine==b.line)=true:=by rfl):
 GE w A a k g (eval (.Call (.Attribute o "extend" i) [arg] [] b) a) P:=
 lU h (IsT.vK (.m n)) kI rz PySem.F.type_list_extend ((bq t p).gs ((DL n hd r).mono λx v q=>by rw[q.1,q.2];exact s)) e j u f
theorem GE.Xn(h:PE w A a k i (eval o a) (.ref c))(j:i.μ c=some (.vK (l++[d])))(m:l.length<=100000)(n:P d (i.put c (.vK l)))(e:attributeBase o "pop" a (eval o a)=eval o a:=by rfl)(p:methodCallForm (([]:List YD).length+([]:List Keyword).length) (backTo b (starEach [] a)) (backToKw b (keywordEach [] a))=true:=by rfl)(f:(g.endLine==b.line)=true:=by rfl):
 GE w A a k i (eval (.Call (.Attribute o "pop" g) [] [] b) a) P:=
 lU h (IsT.vK (.m j)) kI s_ PySem.F.type_list_pop (bG.gs ((Jr j m).mono λs r q=>by rw[q.1,q.2];exact n)) e rfl p f
def jZ:=@GE.Xn
theorem GE.Vx(u:we m A)(h:PE w A a t j (eval o a) (.ref n))(v:j.μ n=some (.wc I))(x:GE w A a t j (eval arg a) λk d=>∃l p,d.μ n=some (.wc l)/\k.kd=some c/\wG c l/\(k,p)∈l/\l.length<=100000/\P p (d.put n (.wc (A9 l k))))(y:A7 arg a:=by rfl)(f:attributeBase o "pop" a (eval o a)=eval o a:=by rfl)(r:Ns1 b arg a:=by rfl)(z:methodCallForm ([arg].length+([]:List Keyword).length) (backTo b (starEach [arg] a)) (backToKw b (keywordEach [] a))=true:=by rfl)(g:(i.endLine==b.line)=true:=by rfl):
 GE w A a t j (eval (.Call (.Attribute o "pop" i) [arg] [] b) a) P:=
 lU h (IsT.wc (.m v)) gB ql PySem.F.type_dict_pop (b_ y x λk d ⟨l,p,e,C,E,s,F,G⟩=>gu ((PT u e C E s F).mono λL H q=>by rw[q.1,q.2];exact G)) f r z g
abbrev TN(e f:YD)(a:Env):Prop:=starEach [e,f] a=(false,eval e a)::starEach [f] a
theorem Ab.two(i:TN e f a)(b:A7 f a)(h:PE w A a c g (eval e a) d)(j:PE w A a c g (eval f a) k):Ab w A a c g (backTo l (starEach [e,f] a)) [d,k]:=bI i h (bq b j)
def bE:=@Ab.two
abbrev Vp(a:Pos)(e f:YD)(b:Env):Prop:=(backTo a (starEach [e,f] b)).any (·.1)=false
theorem PE.QA(t:we m A)(h:PE w A a q p (eval o a) d)(hd:yg p d l)(u:PE w A a q p (eval e a) k)(v:PE w A a q p (eval f a) y)(r:k.kd=some c)(z:wG c l)(C:x=(ze l k).getD y)(E:TN e f a:=by rfl)(F:A7 f a:=by rfl)(i:attributeBase o "get" a (eval o a)=eval o a:=by rfl)(s:Vp b e f a:=by rfl)(G:methodCallForm ([e,f].length+([]:List Keyword).length) (backTo b (starEach [e,f] a)) (backToKw b (keywordEach [] a))=true:=by rfl)(j:(n.endLine==b.line)=true:=by rfl):
 PE w A a q p (eval (.Call (.Attribute o "get" n) [e,f] [] b) a) x:=
 uV h (IsT.wc hd) gB jU qt (bE E F u v) (MB t hd r z C) i s G j
theorem PE.Xq(s:we m A)(h:PE w A a r n (eval o a) d)(hd:yg n d l)(t:PE w A a r n (eval e a) k)(p:k.kd=some c)(u:wG c l)(v:x=(ze l k).getD .none)(y:A7 e a:=by rfl)(f:attributeBase o "get" a (eval o a)=eval o a:=by rfl)(q:Ns1 b e a:=by rfl)(z:methodCallForm ([e].length+([]:List Keyword).length) (backTo b (starEach [e] a)) (backToKw b (keywordEach [] a))=true:=by rfl)(i:(j.endLine==b.line)=true:=by rfl):
 PE w A a r n (eval (.Call (.Attribute o "get" j) [e] [] b) a) x:=
 uV h (IsT.wc hd) gB jU qt (bq y t) (MC s hd p u v) f q z i
theorem GE.C4(z:we m A)(h:PE w A a r j (eval o a) (.ref n))(x:j.μ n=some (.wc l))(C:PE w A a r j (eval e a) k)(E:PE w A a r j (eval f a) y)(u:k.kd=some c)(F:wG c l)(G:l.length<=100000)(H:∀d,ze l k=some d->P d j)(I:ze l k=none->P y (j.put n (.wc (wM l k y))))(L:TN e f a:=by rfl)(M:A7 f a:=by rfl)(g:attributeBase o "setdefault" a (eval o a)=eval o a:=by rfl)(v:Vp b e f a:=by rfl)(N:methodCallForm ([e,f].length+([]:List Keyword).length) (backTo b (starEach [e,f] a)) (backToKw b (keywordEach [] a))=true:=by rfl)(i:(p.endLine==b.line)=true:=by rfl):
 GE w A a r j (eval (.Call (.Attribute o "setdefault" p) [e,f] [] b) a) P:=
 lU h (IsT.wc (.m x)) gB nZ PySem.F.type_dict_setdefault ((bE L M C E).gs ((BN z x u F G).mono λS R q=>by
  rcases q with⟨s,t⟩|⟨s,t,Q⟩
  .rw[t];exact H _ s
  .rw[t,Q];exact I s)) g v N i
theorem SE.ex(f:a.scope=S)(h:GE w A a d g (eval e a) λ_ b=>N d b)(i:S.kind= .function:=by rfl)(j:swapsWith e none c.line a=pure false:=by rfl):SE w A a d g (exec (.Expr e c) a) N P:=SE.expr h (by unfold interactive;rw[f,i];rfl) j
def eK:=@SE.ex
theorem Jj{l:X8}:(l.map λ(x:Nat)=>D.int x)=(l.map λ(x:Nat)=>(x:Int)).map D.int:=by simp
theorem ET{l m:X8}(hd:xA a d (l.map λ(x:Nat)=>D.int x))(b:m.Perm l)(c:m.Pairwise (·<=·))(e:l.length<64):FO w A a (zS w) (λf=>call (.builtin "sorted") f) [d] (m.map λ(x:Nat)=>D.int x):=by
 rw[Jj]at hd⊢;exact DI hd (b.map _) (by rw[b5];exact c.imp λh=>by omega) (by simpa using e)
theorem PE.ET{l m:X8}(i:a.scope=S)(j:GI S "sorted")(h:PE w A a k f (eval e a) d)(hd:xA f d (l.map λ(x:Nat)=>D.int x))(n:m.Perm l)(b:m.Pairwise (·<=·))(o:l.length<64)(q:A7 e a:=by rfl)(r:Ns1 c e a:=by rfl):
 PE w A a k f (eval (.Call (.Name "sorted" p) [e] [] c) a) (.vK (m.map λ(x:Nat)=>D.int x)):=lF (ki i j) (bq q h) (FO.op (Mine.ET hd n b o)) r
def uW:=@PE.ET
theorem Te(a b:Nat):[min a b,max a b].Perm [a,b]/\[min a b,max a b].Pairwise (·<=·):=by
 rcases iJ a b with h|h
 .rw[iV h,gQ h];exact⟨.refl _,by simp[h]⟩
 .rw[iL h,g_ h];exact⟨.swap _ _ _,by simp[h]⟩
theorem PE.max2(l:c.scope=S)(m:GI S "max")(n:A.handled=none)(h:PE w A c j k (eval e c) (.int a))(o:PE w A c j k (eval f c) (.int b))(q:TN e f c:=by rfl)(r:A7 f c:=by rfl)(d:Vp i e f c:=by rfl):
 PE w A c j k (eval (.Call (.Name "max" p) [e,f] [] i) c) (.int (max a b)):=lF (Nm l m) (bE q r h o) (Mine.max2 n) d
def qc:=@PE.max2
theorem PE.min2(l:c.scope=S)(m:GI S "min")(n:A.handled=none)(h:PE w A c j k (eval e c) (.int a))(o:PE w A c j k (eval f c) (.int b))(q:TN e f c:=by rfl)(r:A7 f c:=by rfl)(d:Vp i e f c:=by rfl):
 PE w A c j k (eval (.Call (.Name "min" p) [e,f] [] i) c) (.int (min a b)):=lF (WL l m) (bE q r h o) (Mine.min2 n) d
theorem PE.EB(l:c.scope=S)(m:GI S "range")(h:PE w A c j k (eval e c) (.int a))(n:PE w A c j k (eval f c) (.int b))(o:TN e f c:=by rfl)(q:A7 f c:=by rfl)(d:Vp i e f c:=by rfl):
 PE w A c j k (eval (.Call (.Name "range" p) [e,f] [] i) c) (.zR a b):=jw (K8 l m) (bE o q h n) Mine.EB d
theorem FE.lc{m:Type}(k:List m)(g:m->D)(v:m->D)(y:d.scope=S)(z:DE b S)(n:IT w A d u j tg lk (eval f d) (k.map g))(o:tg c)(r:(j.xy lk).wW lk=j)(C:k.length<=100000)(h:∀a:Env,a.scope=xu b S->∀x∈k,∃e,Le w A a (xG b u) (j.xy lk) c (g x) e/\PE w A a e (j.xy lk) (eval s a) (v x))(i:∀x,foldedSetIterable f d x=pure x:=by intro _;rfl):
 FC w A d u j (zS w) (.ListComp s [⟨c,f,[],0⟩] b G) λt l=>t=k.map v/\l=j:=
 (mh (ifs:=[]) k g (λ_=>true) v y z n o r C (λa E x F=>let⟨e,t,p⟩:=h a E x F;⟨e,t,rfl,λ_=>p⟩) i).mono λt l q=>⟨by rw[q.1,fW.mpr λ_ _=>rfl],q.2⟩
def jT:=@FE.lc
def xr(b:X8)(a:Nat):Nat:=if h:b.getD a a<a then xr b (b.getD a a)else a
termination_by a
section
variable{K V:Type}[DecidableEq K]
def vJ(l:List (K×V))(k:K):Option V:=(l.find? λp=>decide (p.1=k)).map (·.2)
def wJ(l:List (K×V))(k:K)(v:V):List (K×V):=if k∈l.map (·.1)then l.map (λp=>if p.1=k then(p.1,v)else p)else l++[(k,v)]
def xT(l:List (K×V))(k:K):List (K×V):=l.filter λp=>decide (p.1≠k)
end
abbrev Row:=Str×List Nat
abbrev Yw:=List (Row×Nat)
abbrev Yg:=List Row
inductive A3 where
 |made (n:Nat)
 |vR (s:Row)
 |wY (xj many w_ id:Nat)
structure HX where
 vB:List Row
 yr:List Nat
 zm:List Nat
 up:List Nat
 vI:List (X8)
 vN:List (Ys)
 vF:List (Nat×Nat×D)
 vO:List Nat
 vR:List (Row×Nat)
 vE:List (Ys)
 vU:List (X8)
 v8:Nat
 vW:Nat
 vC:List A3
 vH:List (Ys)
 made:Nat
namespace HX
def vQ(X:HX)(a:Nat):Nat:=xr X.up a
def row(X:HX)(n:Nat):Row:=X.vB.getD n (default,[])
def sig(X:HX)(n:Nat):Row:=((X.row n).1,(X.row n).2.map X.vQ)
def uid(X:HX)(c:Nat):Nat:=(vJ X.vE c).getD 0
def us(X:HX)(i:Nat):X8:=X.vU.getD i []
def xq(X:HX)(i:Nat)(l:X8):HX:={X with vU:=X.vU.set i l}
def yK(X:HX)(l:X8):HX:={X with vU:=X.vU++[l]}
def JN(X:HX):HX:={X with up:=X.up++[X.up.length],vI:=X.vI++[[X.vI.length]]}
def FY(X:HX)(r:Row):HX:={X with vB:=X.vB++[r],yr:=X.yr++[1+(r.2.map λk=>X.yr.getD k 0).sum],zm:=X.zm++[1+(r.2.map λk=>X.zm.getD k 0).foldl max 0]}
def Cp(X:HX)(xj w_:Nat):HX:={X with up:=X.up.set w_ xj,vI:=X.vI.set xj (X.vI.getD xj []++X.vI.getD w_ []),vN:=X.vN++[(xj,w_)]}
def yW(X:HX)(a b:Nat)(r:D)(xj w_:Nat):HX:=
 let g:={X with vF:=X.vF++[(a,b,r)]}
 if xj=w_ then g else
  let e:=g.Cp xj w_;let c:={e with vO:=e.vO++[e.vF.length-1]};let d:=c.xq c.v8 (c.us c.v8++c.us (c.uid w_));let f:={d with vE:=xT d.vE w_}
  {(f.yK (d.us (d.uid xj)++d.us (d.uid w_)))with vE:=wJ f.vE xj f.vU.length}
def xj(X:HX)(a b:Nat):Nat:=min (X.vQ a) (X.vQ b)
def w_(X:HX)(a b:Nat):Nat:=max (X.vQ a) (X.vQ b)
def join(X:HX)(a b:Nat)(r:D):HX:=
 let k:=X.xj a b;let g:=X.w_ a b
 HX.yW {X with vC:=X.vC++[A3.wY k (X.us (X.uid k)).length g (X.uid g)]} a b r k g
def zh:D:=.vV [.str "like"]
def x_(X:HX)(n:Nat):HX:=
 match vJ X.vR (X.sig n)with
 |some o=>if X.vQ o=X.vQ n then X else X.join o n zh
 |none=>{X with vR:=X.vR++[(X.sig n,n)]}
def AD(X:HX)(n:Nat):HX:=(if(vJ X.vR (X.sig n)).isSome then X else{X with vC:=X.vC++[.vR (X.sig n)]}).x_ n
def xe(X:HX)(n:Nat):HX:=if n=X.made then{X with vC:=X.vC++[.made n],made:=n+1}else X
def look(X:HX)(n:Nat):HX:=(X.xe n).AD n
def vM(X:HX):X8:=X.us X.v8
def xQ(X:HX):HX:=(X.xq X.v8 X.vM.dropLast).look (X.vM.getLastD 0)
def zT(X:HX)(a:X8):X8:=(List.range X.up.length).filter λc=>c∈a.map X.vQ
def w7(n:Nat)(X:HX)(c:Nat):HX:=X.xq (X.uid c) (X.us (X.uid c)++[n])
def grow(X:HX)(r:Row):HX:=
 let n:=X.vB.length;let a:=(X.FY r).JN;let b:={(a.yK [])with vE:=wJ a.vE n a.vU.length}
 (b.zT r.2).foldl (w7 n) b
def idx(X:HX)(r:Row):Yo:=X.vB.findIdx? λs=>decide (s=r)
def add(X:HX)(r:Row):HX:=if r∈X.vB then X else(X.grow r).look X.vB.length
def zq(X:HX)(r:Row):Nat:=(X.idx r).getD X.vB.length
def push(X:HX):HX:={(X.yK X.vM)with vH:=X.vH++[(X.vC.length,X.vU.length)]}
def wB(X:HX)(c:Nat):HX:=X.xq (X.uid c) (X.us (X.uid c)).dropLast
def z7(X:HX)(n:Nat):HX:=
 let a:=(X.zT (X.row n).2).foldl wB X
 {a with vE:=xT a.vE n,up:=a.up.take n,vI:=a.vI.take n,vB:=a.vB.take n,yr:=a.yr.take n,zm:=a.zm.take n,made:=n}
def z5(X:HX):HX:=
 let p:=X.vN.getLastD (0,0)
 {X with vN:=X.vN.dropLast,up:=X.up.set p.2 p.2,vI:=X.vI.set p.1 ((X.vI.getD p.1 []).take ((X.vI.getD p.1 []).length-(X.vI.getD p.2 []).length))}
def xE(X:HX)(xj b w_ id:Nat):HX:=
 let c:={X with vF:=X.vF.dropLast}
 if xj=w_ then c else
  let a:={c with vO:=c.vO.dropLast}.z5;let d:={(a.yK ((a.us (a.uid xj)).take b))with vE:=wJ a.vE xj a.vU.length}
  {d with vE:=wJ d.vE w_ id}
def xg(X:HX):A3->HX
 | .made n=>X.z7 n
 | .vR s=>{X with vR:=xT X.vR s}
 | .wY k m g i=>X.xE k m g i
def xO(X:HX):HX:=match X.vC.getLast? with
 |some c=>{X with vC:=X.vC.dropLast}.xg c
 |none=>X
def wu:Nat->HX->HX
 |0,X=>X
 |n+1,X=>wu n X.xO
def pop(X:HX):HX:=
 let p:=X.vH.getLastD (0,0);let a:={X with vH:=X.vH.dropLast,vW:=X.vW+1}
 {wu (a.vC.length-p.1) a with v8:=p.2}
def empty:HX:=⟨[],[],[],[],[],[],[],[],[],[],[[]],0,0,[],[],0⟩
end HX
inductive Rl where
 |heap|wN|yh|yP|nodes|numbers|yc|yR|yE|zO|up|vI|vN|vF|vO|vR|vE|vC|vH|xH (i:Nat)|vU (i:Nat)
 deriving DecidableEq
abbrev Yv:=Rl->Nat
def vG(l:X8):Yb:=l.map λ(x:Nat)=>D.int x
def vP(r:Row):D:=.vV (.str r.1::vG r.2)
def xB(p:Ys):D:=.vV [.int p.1,.int p.2]
def M7(e:Nat×Nat×D):D:=.vV [.int e.1,.int e.2.1,e.2.2]
def encC(a:Yv):A3->D
 | .made n=>.vV [.str "made",.int n]
 | .vR s=>.vV [.str "known",vP s]
 | .wY k m g i=>.vV [.str "edge",.int k,.int m,.int g,.ref (a (.vU i))]
def encM(a:Yv)(p:Ys):D:=.vV [.int p.1,.ref (a (.vU p.2))]
def yD(a:Yv)(X:HX):Yr:=
 [(
  "bank",.ref (a .yh)),("unions",.ref (a .yE)),("edges",.ref (a .vF)),("forest",.ref (a .vO)),("known",.ref (a .vR)),("above",.ref (a .vE)),("waiting",.ref (a (.vU X.v8))),("backs",.int X.vW),
  ("changes",.ref (a .vC)),("marks",.ref (a .vH)),("made",.int X.made)]
def EN(a:Yv):Yr:=[("nodes",.ref (a .nodes)),("numbers",.ref (a .numbers)),("weights",.ref (a .yc)),("depths",.ref (a .yR))]
def JQ(a:Yv):Yr:=[("above",.ref (a .up)),("lots",.ref (a .vI)),("merged",.ref (a .vN))]
def xW(a:Yg):Yh:=a.zipIdx.map λp=>(vP p.1,.int p.2)
def wZ(l:Yw):Yh:=l.map λp=>(vP p.1,.int p.2)
def zx(a:Yv)(l:Yi):Yh:=l.map λp=>(.int p.1,.ref (a (.vU p.2)))
def xZ(a:Yv)(n:Nat):Yb:=(List.range n).map λi=>.ref (a (.xH i))
def vY(a:Yv)(X:HX):Rl->Option wQ
 | .heap=>some (.inst 556 (a .wN))
 | .wN=>some (.ns (yD a X))
 | .yh=>some (.inst 186 (a .yP))
 | .yP=>some (.ns (EN a))
 | .nodes=>some (.vK (X.vB.map vP))
 | .numbers=>some (.wc (xW X.vB))
 | .yc=>some (.vK (vG X.yr))
 | .yR=>some (.vK (vG X.zm))
 | .yE=>some (.inst 354 (a .zO))
 | .zO=>some (.ns (JQ a))
 | .up=>some (.vK (vG X.up))
 | .vI=>some (.vK (xZ a X.vI.length))
 | .vN=>some (.vK (X.vN.map xB))
 | .vF=>some (.vK (X.vF.map M7))
 | .vO=>some (.vK (vG X.vO))
 | .vR=>some (.wc (wZ X.vR))
 | .vE=>some (.wc (zx a X.vE))
 | .vC=>some (.vK (X.vC.map (encC a)))
 | .vH=>some (.vK (X.vH.map (encM a)))
 | .xH i=>(X.vI[i]?).map λl=>.vK (vG l)
 | .vU i=>(X.vU[i]?).map λl=>.vK (vG l)
def A3.id:A3->Nat
 | .wY _ _ _ i=>i
 |_=>0
structure Cj(X:HX):Prop where
 w:X.v8<X.vU.length
 u:∀p∈X.vE,p.2<X.vU.length
 c:∀p∈X.vC,p.id<X.vU.length
 m:∀p∈X.vH,p.2<X.vU.length
abbrev Fz:=Nat->wQ->Prop
structure wg(σ:St)(nm:Yv)(X:HX)(F:Fz):Prop where
 get:∀r c,vY nm X r=some c->σ.μ (nm r)=some c
 inj:∀r r',(vY nm X r).isSome=true->(vY nm X r').isSome=true->nm r=nm r'->r=r'
 fr:∀n c,F n c->σ.μ n=some c
 ap:∀r n c,(vY nm X r).isSome=true->F n c->nm r≠n
 ids:Cj X
structure Ql(σ:St)(nm:Yv)(C:Rl->Option wQ)(F:Fz):Prop where
 get:∀r c,C r=some c->σ.μ (nm r)=some c
 inj:∀r r',(C r).isSome=true->(C r').isSome=true->nm r=nm r'->r=r'
 fr:∀n c,F n c->σ.μ n=some c
 ap:∀r n c,(C r).isSome=true->F n c->nm r≠n
def Im(C:Rl->Option wQ)(r:Rl)(c:wQ):Rl->Option wQ:=λq=>if q=r then some c else C q
theorem MI:Im C r c r=some c:=B rfl
def j7:=@MI
theorem Sx(h:q≠r):Im C r c q=C q:=J h
def kP:=@Sx
def x9(a:Yv)(r:Rl)(n:Nat):Yv:=λq=>if q=r then n else a q
theorem Jh:x9 a r n r=n:=B rfl
def iW:=@Jh
theorem ON(h:q≠r):x9 a r n q=a q:=J h
def mU:=@ON
def yU(b:Yv)(X:HX)(a:Yv):Prop:=∀r,(vY b X r).isSome=true->a r=b r
theorem yU.refl(a:Yv)(X:HX):yU a X a:=λ_ _=>rfl
def jI:=@yU.refl
theorem MK(h:yU j X e)(d:Cj X)(r:Rl):vY e X r=vY j X r:=by
 have hd:∀i,i<X.vU.length->e (.vU i)=j (.vU i):=λi f=>h _ (by simp[vY,f]);have k:∀i,i<X.vI.length->e (.xH i)=j (.xH i):=λi f=>h _ (by simp[vY,f]);cases r with
 |heap=>simp only[vY];rw[h .wN rfl]
 |wN=>simp only[vY,yD];rw[h .yh rfl,h .yE rfl,h .vF rfl,h .vO rfl,h .vR rfl,h .vE rfl,hd _ d.w,h .vC rfl,h .vH rfl]
 |yh=>simp only[vY];rw[h .yP rfl]
 |yP=>simp only[vY,EN];rw[h .nodes rfl,h .numbers rfl,h .yc rfl,h .yR rfl]
 |yE=>simp only[vY];rw[h .zO rfl]
 |zO=>simp only[vY,JQ];rw[h .up rfl,h .vI rfl,h .vN rfl]
 |vI=>simp only[vY,xZ];rw[aK λi f=>by rw[k i (by simpa using f)]]
 |vE=>simp only[vY,zx];rw[aK λp g=>by rw[hd _ (d.u p g)]]
 |vC=>
  simp only[vY];rw[aK λp g=>?_];have:=d.c p g;cases p with
  |wY a b c i=>simp only[encC];rw[hd i this]
  |_=>rfl
 |vH=>
  simp only[vY];rw[aK λp g=>?_];simp only[encM];rw[hd _ (d.m p g)]
 |_=>rfl
def rK:=@MK
theorem wg.put(H:wg o f X F)(r:Rl)(j:(vY f X r).isSome=true)(p:vY f i r=some c')(m:∀d,d≠r->vY f i d=vY f X d)(ids:Cj i):wg (o.put (f r) c') f i F:=by
 have g:∀d,(vY f i d).isSome=true->(vY f X d).isSome=true:=λd h=>by
  by_cases e:d=r
  .rw[e];exact j
  .rw[<-m d e];exact h
 refine⟨λd c h=>?_,λa b k l e=>H.inj a b (g a k) (g b l) e,λn c h=>?_,λd n c k l=>H.ap d n c (g d k) l,ids⟩
 .by_cases e:d=r
  .subst e;rw[p]at h;cases h;exact cj _ _ _
  .have s:=h
   rw[m d e]at h;rw[dD λq=>e (H.inj _ _ (by rw[h];rfl) j q)];exact H.get d c h
 .rw[dD λq=>H.ap r n c j h q.symm];exact H.fr n c h
theorem wg.c(H:wg b a X F):Ql b a (vY a X) F:=⟨H.get,H.inj,H.fr,H.ap⟩
theorem Ql.h(H:Ql l f C F)(k:∀r c,vY f X r=some c->C r=some c)(j:Cj X):wg l f X F:=by
 have d:∀r,(vY f X r).isSome=true->(C r).isSome=true:=λr h=>by
  let⟨c,e⟩:=aT.mp h;rw[k r c e];rfl
 exact⟨λr c h=>H.get r c (k r c h),λa b g i e=>H.inj a b (d a g) (d b i) e,H.fr,λr n c g i=>H.ap r n c (d r g) i,j⟩
theorem Ql.put(H:Ql l k C F)(r:Rl)(g:(C r).isSome=true):Ql (l.put (k r) c') k (Im C r c') F:=by
 have f:∀d,(Im C r c' d).isSome=true->(C d).isSome=true:=λd h=>by
  by_cases e:d=r
  .rw[e];exact g
  .rw[kP e]at h;exact h
 refine⟨λd c h=>?_,λa b i j e=>H.inj a b (f a i) (f b j) e,λn c h=>?_,λd n c i j=>H.ap d n c (f d i) j⟩
 .by_cases e:d=r
  .subst e;rw[j7]at h;cases h;exact cj _ _ _
  .rw[kP e]at h
   rw[dD λq=>e (H.inj _ _ (by rw[h];rfl) g q)];exact H.get d c h
 .rw[dD λq=>H.ap r n c g h q.symm];exact H.fr n c h
theorem Ql.new(H:Ql o p C F)(r:Rl)(s:o.μ n=none)(u:C r=none):Ql (o.put n c) (x9 p r n) (Im C r c) F:=by
 have fresh:∀m d,o.μ m=some d->m≠n:=λm d e q=>by rw[q,s]at e;cases e
 have j:∀f,f≠r->(Im C r c f).isSome=true->(C f).isSome=true/\p f≠n:=λf e h=>by
  rw[kP e]at h;let⟨d,hd⟩:=aT.mp h;exact⟨h,fresh _ _ (H.get f d hd)⟩
 refine⟨λf t h=>?_,λa b l k e=>?_,λm d h=>?_,λf m d l k=>?_⟩
 .by_cases e:f=r
  .subst e;rw[j7]at h;cases h
   rw[iW];exact cj _ _ _
  .rw[kP e]at h
   have:=H.get f t h;rw[mU e,dD (fresh _ _ this)];exact this
 .by_cases i:a=r
  .by_cases g:b=r
   .rw[i,g]
   .rw[i,iW,mU g]at e
    exact absurd e.symm (j b g k).2
  .by_cases g:b=r
   .rw[g,iW,mU i]at e
    exact absurd e (j a i l).2
   .rw[mU i,mU g]at e
    exact H.inj a b (j a i l).1 (j b g k).1 e
 .rw[dD (fresh _ _ (H.fr m d h))];exact H.fr m d h
 .by_cases e:f=r
  .rw[e,iW]
   exactλq=>fresh _ _ (H.fr m d k) q.symm
  .rw[mU e]
   exact H.ap f m d (j f e l).1 k
theorem wg.XM(b:vY a X r=none):yU a X (x9 a r n):=λq h=>mU (by rintro rfl;rw[b]at h;cases h)
theorem wg.le(H:wg b d X F)(h:St.le b a):wg a d X F:=⟨λr c e=>h _ _ (H.get r c e),H.inj,λn c e=>h _ _ (H.fr n c e),H.ap,H.ids⟩
theorem NH{C:Rl->Option wQ}(g:yU i X a)(d:Cj X)(b:List Rl)(j:∀r∈b,vY a f r=C r)(h:∀r,r∉b->C r=vY i X r/\vY a f r=vY a X r):∀r c,vY a f r=some c->C r=some c:=λr c e=>by
 by_cases q:r∈b
 .rw[<-j r q];exact e
 .let⟨e1,k⟩:=h r q
  rw[e1,<-rK g d,<-k];exact e
theorem KA(e1:X.vI.length<=a.vI.length)(c:X.vU.length<=a.vU.length)(h:(vY d X r).isSome=true):(vY b a r).isSome=true:=by
 cases r with
 |xH i=>
  have:i<X.vI.length:=by simpa[vY]using h
  have:i<a.vI.length:=by omega
  simp[vY,this]
 |vU i=>
  have:i<X.vU.length:=by simpa[vY]using h
  have:i<a.vU.length:=by omega
  simp[vY,this]
 |_=>rfl
theorem yU.sub(h:yU c b a)(e1:X.vI.length<=b.vI.length)(e:X.vU.length<=b.vU.length):yU c X a:=λr q=>h r (KA e1 e q)
theorem yU.trans(h:yU e X a)(f:yU a c b)(e1:X.vI.length<=c.vI.length)(g:X.vU.length<=c.vU.length):yU e X b:=λr q=>(f r (KA e1 g q)).trans (h r q)
theorem Cj.of(h:Cj X)(e1:a.v8=X.v8)(d:a.vE=X.vE)(e:a.vC=X.vC)(f:a.vH=X.vH)(b:a.vU.length=X.vU.length):Cj a:=⟨by rw[e1,b];exact h.w,by rw[d,b];exact h.u,by rw[e,b];exact h.c,by rw[f,b];exact h.m⟩
theorem wg.W_(H:wg b a X F)(u:X8):wg (b.put (a .up) (.vK (vG u))) a {X with up:=u} F:=H.put .up rfl rfl (λr e=>by cases r<;>first|rfl|exact absurd rfl e) (H.ids.of rfl rfl rfl rfl rfl)
theorem wg.Kf(H:wg b a X F)(u:Yi):wg (b.put (a .vN) (.vK (u.map xB))) a {X with vN:=u} F:=H.put .vN rfl rfl (λr e=>by cases r<;>first|rfl|exact absurd rfl e) (H.ids.of rfl rfl rfl rfl rfl)
theorem wg.NB(H:wg b a X F)(u:List (Nat×Nat×D)):wg (b.put (a .vF) (.vK (u.map M7))) a {X with vF:=u} F:=H.put .vF rfl rfl (λr e=>by cases r<;>first|rfl|exact absurd rfl e) (H.ids.of rfl rfl rfl rfl rfl)
theorem wg.Kg(H:wg b a X F)(u:X8):wg (b.put (a .vO) (.vK (vG u))) a {X with vO:=u} F:=H.put .vO rfl rfl (λr e=>by cases r<;>first|rfl|exact absurd rfl e) (H.ids.of rfl rfl rfl rfl rfl)
theorem wg.Nz(H:wg b a X F)(u:Yw):wg (b.put (a .vR) (.wc (wZ u))) a {X with vR:=u} F:=H.put .vR rfl rfl (λr e=>by cases r<;>first|rfl|exact absurd rfl e) (H.ids.of rfl rfl rfl rfl rfl)
theorem wg.Vy(H:wg b a X F)(u:X8):wg (b.put (a .yc) (.vK (vG u))) a {X with yr:=u} F:=H.put .yc rfl rfl (λr e=>by cases r<;>first|rfl|exact absurd rfl e) (H.ids.of rfl rfl rfl rfl rfl)
theorem wg.VA(H:wg b a X F)(u:X8):wg (b.put (a .yR) (.vK (vG u))) a {X with zm:=u} F:=H.put .yR rfl rfl (λr e=>by cases r<;>first|rfl|exact absurd rfl e) (H.ids.of rfl rfl rfl rfl rfl)
theorem wg.A_(H:wg b a X F)(u:Yi)(h:∀p∈u,p.2<X.vU.length):wg (b.put (a .vE) (.wc (zx a u))) a {X with vE:=u} F:=H.put .vE rfl rfl (λr e=>by cases r<;>first|rfl|exact absurd rfl e) ⟨H.ids.w,h,H.ids.c,H.ids.m⟩
theorem wg.AO(H:wg b a X F)(u:List A3)(h:∀p∈u,p.id<X.vU.length):wg (b.put (a .vC) (.vK (u.map (encC a)))) a {X with vC:=u} F:=H.put .vC rfl rfl (λr e=>by cases r<;>first|rfl|exact absurd rfl e) ⟨H.ids.w,H.ids.u,h,H.ids.m⟩
theorem wg.Ny(H:wg b a X F)(u:Yi)(h:∀p∈u,p.2<X.vU.length):wg (b.put (a .vH) (.vK (u.map (encM a)))) a {X with vH:=u} F:=H.put .vH rfl rfl (λr e=>by cases r<;>first|rfl|exact absurd rfl e) ⟨H.ids.w,H.ids.u,H.ids.c,h⟩
theorem wg.Tf(H:wg b a X F)(u:Nat):wg (b.put (a .wN) (.ns (yD a {X with made:=u}))) a {X with made:=u} F:=H.put .wN rfl rfl (λr e=>by cases r<;>first|rfl|exact absurd rfl e) (H.ids.of rfl rfl rfl rfl rfl)
theorem wg.Um(H:wg b a X F)(u:Nat):wg (b.put (a .wN) (.ns (yD a {X with vW:=u}))) a {X with vW:=u} F:=H.put .wN rfl rfl (λr e=>by cases r<;>first|rfl|exact absurd rfl e) (H.ids.of rfl rfl rfl rfl rfl)
theorem wg.VY(H:wg b a X F)(u:Nat)(h:u<X.vU.length):wg (b.put (a .wN) (.ns (yD a {X with v8:=u}))) a {X with v8:=u} F:=H.put .wN rfl rfl (λr e=>by cases r<;>first|rfl|exact absurd rfl e) ⟨h,H.ids.u,H.ids.c,H.ids.m⟩
theorem wg.Vz(H:wg b a X F)(i:Nat)(l:X8)(h:i<X.vI.length):wg (b.put (a (.xH i)) (.vK (vG l))) a {X with vI:=X.vI.set i l} F:=
 H.put (.xH i) (by simp[vY,h]) (by simp[vY,h]) (λr e=>by
  cases r with
  |xH j=>simp only[vY];rw[cy λq=>e (by rw[q])]
  |vI=>simp only[vY];rw[gm]
  |_=>rfl) (H.ids.of rfl rfl rfl rfl rfl)
theorem wg.Qy(H:wg b a X F)(i:Nat)(l:X8)(h:i<X.vU.length):wg (b.put (a (.vU i)) (.vK (vG l))) a (X.xq i l) F:=
 H.put (.vU i) (by simp[vY,h]) (by simp[vY,h,HX.xq]) (λr e=>by
  cases r with
  |vU j=>simp only[vY,HX.xq];rw[cy λq=>e (by rw[q])]
  |_=>rfl) (H.ids.of rfl rfl rfl rfl (by simp[HX.xq]))
theorem wg.vU(H:wg a b X F)(h:i<X.vU.length):a.μ (b (.vU i))=some (.vK (vG (X.us i))):=H.get (.vU i) _ (by simp[vY,HX.us,h])
theorem wg.xH(H:wg a b X F)(h:i<X.vI.length):a.μ (b (.xH i))=some (.vK (vG (X.vI.getD i []))):=H.get (.xH i) _ (by simp[vY,h])
theorem wg.Qz(H:wg g a X F){n:Nat}(l:X8)(j:g.μ n=none):wg (g.put n (.vK (vG l))) (x9 a (.vU X.vU.length) n) (X.yK l) F/\yU a X (x9 a (.vU X.vU.length) n):=by
 have f:vY a X (.vU X.vU.length)=none:=by simp[vY]
 have h:yU a X (x9 a (.vU X.vU.length) n):=wg.XM f;have le:X.vU.length<=(X.yK l).vU.length:=by simp[HX.yK]
 refine⟨(H.c.new (.vU X.vU.length) j f).h (NH h H.ids [.vU X.vU.length] (λr b=>?_) λr b=>?_) ⟨c9 H.ids.w le,λp d=>c9 (H.ids.u p d) le,λp d=>c9 (H.ids.c p d) le,λp d=>c9 (H.ids.m p d) le⟩,h⟩
 .rw[aj.mp b,j7];simp[vY,HX.yK]
 .rw[aj]at b
  refine⟨kP b,?_⟩;cases r with
  |vU i=>
   have k:i≠X.vU.length:=λe=>b (by rw[e]);simp only[vY,HX.yK];by_cases c:i<X.vU.length
   .rw[aY c]
   .rw[aO (by simp;omega),aO (by omega)]
  |_=>rfl
abbrev vr(x:String)(d:D):Str×D:=(Str.ofString x,d)
def Xc(a:FuncData)(b:Ye):Bool:=
 (match a.body with| .stmts _=>true| .expr _=>false)&&a.closure.isEmpty&&a.globals==mainGlobals&&a.builtins==builtinsNs&&a.scope.kind==.function&&!a.scope.isCoroutine&&!a.scope.isGenerator&&
  (a.scope.names.all λp=>p.2 !=.free)&&(a.scope.names.lookup ("__classdict__":Str)).isNone&&decide (a.scope.names.map (·.1)).Nodup&&decide b.Nodup&&
  (b.all λx=>a.scope.names.lookup x==some .local||a.scope.names.lookup x==some .cell)
theorem wK.of(k:BI w a f)(c:codeIn (KF w) f.code f.qualname=true)(h:Xc f d=true):wK w a f d:=by
 simp only[Xc,bN,aM,gD,jk,List.isEmpty_iff,iN]at h;let⟨⟨⟨⟨⟨⟨⟨⟨⟨⟨⟨l,m⟩,n⟩,o⟩,p⟩,q⟩,r⟩,s⟩,t⟩,g⟩,i⟩,j⟩:=h;refine⟨k,c,?_,m,n,o,p,q,r,s,t,g,i,j⟩;cases u:f.body with
 |stmts b=>rfl
 |expr e=>rw[u]at l;cases l
theorem wK.ok{w:Yz}{n:YB}(f:Fd n){l:Ye}(c:codeIn (KF w) f.1.code f.1.qualname=true:=by rfl)(h:Xc f.1 l=true:=by decide+kernel):wK w n f.1 l:=.of f.2 c h
theorem CF.XZ(o:wK w a d b)(h:∀A c,we n A->yX d a c->SE w A c (b.zip []) g (execs (xm d.body) c) (λ_ f=>P .none f) P)(i:bindArgs d ⟨[],[]⟩=pure (b.zip []):=by intros;rfl):CF w (n+1) (.ref a) [] g P:=CF.fn o (λj e=>by match j,e with|[],_=>exact i) h
theorem CF.XY(o:wK w a f b)(h:∀A c,we n A->yX f a c->SE w A c (b.zip [i]) j (execs (xm f.body) c) (λ_ g=>P .none g) P)(k:∀d,bindArgs f ⟨[d],[]⟩=pure (b.zip [d]):=by intros;rfl):CF w (n+1) (.ref a) [i] j P:=CF.fn o (λl e=>by match l,e with|[d],_=>exact k d) h
def je:=@CF.XY
theorem CF.XX(o:wK w a g b)(h:∀A c,we n A->yX g a c->SE w A c (b.zip [j,k]) l (execs (xm g.body) c) (λ_ i=>P .none i) P)(m:∀d f,bindArgs g ⟨[d,f],[]⟩=pure (b.zip [d,f]):=by intros;rfl):CF w (n+1) (.ref a) [j,k] l P:=CF.fn o (λp e=>by match p,e with|[d,f],_=>exact m d f) h
def f9:=@CF.XX
theorem CF.XW(o:wK w a i b)(h:∀A c,we n A->yX i a c->SE w A c (b.zip [k,l,m]) p (execs (xm i.body) c) (λ_ j=>P .none j) P)(q:∀d f g,bindArgs i ⟨[d,f,g],[]⟩=pure (b.zip [d,f,g]):=by intros;rfl):CF w (n+1) (.ref a) [k,l,m] p P:=CF.fn o (λr e=>by match r,e with|[d,f,g],_=>exact q d f g) h
def nQ:=@CF.XW
theorem CF.Xd(o:wK w a j b)(h:∀A c,we n A->yX j a c->SE w A c (b.zip [l,m,p,q]) r (execs (xm j.body) c) (λ_ k=>P .none k) P)(s:∀d f g i,bindArgs j ⟨[d,f,g,i],[]⟩=pure (b.zip [d,f,g,i]):=by intros;rfl):CF w (n+1) (.ref a) [l,m,p,q] r P:=CF.fn o (λt e=>by match t,e with|[d,f,g,i],_=>exact s d f g i) h
theorem S5{w:Yz}:wO w 354 "above":={}
def n_:=@S5
theorem Vj{w:Yz}:wO w 354 "lots":={}
def uH:=@Vj
theorem CW{w:Yz}:wO w 354 "merged":={}
def II:Fd 297:=⟨_,rfl⟩
def B4:Fd 304:=⟨_,rfl⟩
def EI:Fd 311:=⟨_,rfl⟩
def AQ:Fd 318:=⟨_,rfl⟩
def Ae:Fd 325:=⟨_,rfl⟩
def Ct:Fd 344:=⟨_,rfl⟩
def EG:Fd 351:=⟨_,rfl⟩
theorem RD{w:Yz}:wK w 297 II.1 ["self"]:=.ok II
theorem Ot{w:Yz}:wK w 304 B4.1 ["self"]:=.ok B4
theorem RH{w:Yz}:wK w 311 EI.1 ["self","a"]:=.ok EI
theorem LQ{w:Yz}:wK w 318 AQ.1 ["self","a","b"]:=.ok AQ
theorem Jd{w:Yz}:wK w 325 Ae.1 ["self","a"]:=.ok Ae
theorem RK{w:Yz}:wK w 344 Ct.1 ["self","many"]:=.ok Ct
theorem Rw{w:Yz}:wK w 351 EG.1 ["self","many"]:=.ok EG
theorem wg.pu(H:wg g i X F)(h:PE w A b j g (eval e b) (.ref (i .yE)))(k:wO w 354 a)(l:(JQ i).lookup a=some d)(m:eval (.Attribute e a f) b=(do
  let o <-eval e b
  standAt f.atName
  let r <-holding [o] (getAttr o a true)
  letTemporaryGo e o r
  pure r):=by with_unfolding_all rfl):PE w A b j g (eval (.Attribute e a f) b) d:=
 jG h (H.get .yE _ rfl) (H.get .zO _ rfl) k l m
theorem L5(h:i<l.length):(vG l)[((i:Nat):Int).toNat]? =some (.int (l.getD i 0:Nat)):=by simp[vG,h]
def iF:=@L5
theorem LZ:(vG l).length=l.length:=by simp[vG]
def bh:=@LZ
def HW(b:St)(a:Yv)(X:HX):Prop:=∀r,r≠.vO->∀c,vY a X r=some c->b.μ (a r)=some c
theorem wg.hw(H:wg a b X F):HW a b X:=λr _=>H.get r
theorem wg.XU(H:wg b a X F):HW (b.drop (a .vO)) a X:=λr d c e=>by
 rw[kC λq=>d (H.inj _ _ (by rw[e];rfl) rfl q)];exact H.get r c e
theorem KR(H:HW l c X)(x:∀i,i<X.up.length->X.up.getD i i<=i)(C:X.up.length<=1000)(y:a<X.up.length):PF w 1 (.ref 311) [.ref (c .yE),.int a] l (.int (X.vQ a)):=by
 refine eF (f9 RH λA f E z=>?_);have d:=z.scope;refine aq (M:=λm b=>b=l/\∃o:Nat,m=[vr "self" (.ref (c .yE)),vr "a" (.int o)]/\o=X.vQ a) (nv (λn m b=>b=l/\m=[vr "self" (.ref (c .yE)),vr "a" (.int n)]/\n<X.up.length/\xr X.up n=xr X.up a) a ⟨rfl,rfl,y,rfl⟩ ?_) ?_
 .rintro n r b ⟨rfl,rfl,e,t⟩
  have u:∀{s} {p},PE w A f [vr "self" (.ref (c .yE)),vr "a" (.int n)] b (eval (.Attribute (.Name "self" p) "above" s) f) (.ref (c .up)):=λ{_ _}=>jG (O d rfl) (H .yE (by simp) _ rfl) (H .zO (by simp) _ rfl) n_ rfl;have g:(vG X.up).length<=1000000:=by rw[bh];omega
  refine⟨_,bf (eG u (O d rfl) (.m (H .up (by simp) _ rfl)) (by omega) (iF e) g) (O d rfl) F0,λq=>?_,λq=>?_⟩
  .have v:X.up.getD n 0=X.up.getD n n:=by simp[e]
   have h:X.up.getD n n<n:=by
    have:=x n e;have:((X.up.getD n 0:Nat):Int)≠n:=by simpa using q
    omega
   refine dj (aq (M:=λj k=>k=b/\j=vr "a" (.int (X.up.getD n n:Nat))::[vr "self" (.ref (c .yE)),vr "a" (.int n)]) (fV d rfl (eG u (O d rfl) (.m (H .up (by simp) _ rfl)) (by omega) (iF e) g) ⟨rfl,by rw[v]⟩) ?_);rintro j k ⟨rfl,rfl⟩;refine bw ⟨_,.cons rfl (.cons rfl .nil),_,h,rfl,rfl,by omega,?_⟩;rw[<-t];conv=>rhs;rw[xr]
   rw[dif_pos h]
  .refine⟨rfl,n,rfl,?_⟩
   have:¬X.up.getD n n<n:=by
    have v:X.up.getD n 0=X.up.getD n n:=by simp[e]
    have:((X.up.getD n 0:Nat):Int)=n:=by simpa using q
    omega
   show n=xr X.up a;rw[<-t,xr,sr this]
 .rintro r b ⟨rfl,o,rfl,rfl⟩
  exact bQ (cH (O d rfl) ⟨rfl,cN _⟩)
def JO(w:Yz)(k:Nat)(g:YB)(h:Rl)(b:Yb)(X i:HX)(d:D):Prop:=∀(f:St) (c:Yv) (F:Fz),wg f c X F->CF w k (.ref g) (.ref (c h)::b) f λj e=>j=d/\∃a,yU c X a/\wg e a i F
theorem Gj(H:wg b c X F)(f:X.up.length<=1000):PF w 1 (.ref 304) [.ref (c .yE)] b (.int X.up.length):=by
 refine eF (je Ot λA e g d=>?_);have a:=d.scope;exact bQ (cH (eY a rfl (H.pu (O a rfl) n_ rfl) (.vK (.m (H.get .up _ rfl))) bh (by omega)) ⟨rfl,cN _⟩)
theorem Jo:xZ a (n+1)=xZ a n++[.ref (a (.xH n))]:=by simp[xZ,iU]
theorem RS(I:X.vI.length=X.up.length)(L:X.up.length<=1000):JO w 1 297 .yE [] X X.JN (.int X.up.length):=by
 intro m a F H;refine je RD λA h f x=>?_;have j:=x.scope;have u:∀{m} {a} {X} {k p},wg m a X F->PE w A h [vr "self" (.ref (a .yE))] m (eval (.Attribute (.Name "self" p) "above" k) h) (.ref (a .up)):=λH=>H.pu (O j rfl) n_ rfl;have lo:∀{m} {a} {X} {k p},wg m a X F->PE w A h [vr "self" (.ref (a .yE))] m (eval (.Attribute (.Name "self" p) "lots" k) h) (.ref (a .vI)):=λH=>H.pu (O j rfl) uH rfl;let o:HX:={X with up:=X.up++[X.up.length]};refine aq (M:=λb l=>b=[vr "self" (.ref (a .yE))]/\wg l a o F) (eK j (e_ (u H) (H.get .up _ rfl) ((eY j rfl (u H) (.vK (.m (H.get .up _ rfl))) bh (by omega)).g ⟨_,H.get .up _ rfl,by rw[bh];omega,rfl,?_⟩))) ?_
 .exact H.put .up rfl (by simp[vY,o,vG]) (λy e=>by cases y<;>first|rfl|exact absurd rfl e) (H.ids.of rfl rfl rfl rfl rfl)
 .rintro b E ⟨rfl,g⟩
  refine aq (M:=λb l=>b=[vr "self" (.ref (a .yE))]/\∃d,yU a X d/\wg l d X.JN F) (eK j (e_ (lo g) (g.get .vI _ rfl) (kg (jg (bq rfl (eY j rfl (lo g) (.vK (.m (g.get .vI _ rfl))) (by simp[xZ];rfl) (by show X.vI.length<=_;omega)))) λn v=>?_))) ?_
  .have z:a .vI≠n:=λe=>by have:=g.get .vI _ rfl;rw[e,v]at this;cases this
   have t:vY a o (.xH X.vI.length)=none:=by simp[vY,o]
   have q:yU a o (x9 a (.xH X.vI.length) n):=wg.XM t;refine⟨_,by rw[dD z];exact g.get .vI _ rfl,by simp[xZ];show X.vI.length<=_;omega,rfl,_,q.sub (ao _) (ao _),?_⟩;have s:=(g.c.new (.xH X.vI.length) (c:=.vK [.int X.vI.length]) v t).put .vI (c':=.vK (xZ a X.vI.length++[.ref n])) rfl;refine s.h (NH q g.ids [.vI,.xH X.vI.length] (λr f=>?_) λr f=>?_) (H.ids.of rfl rfl rfl rfl rfl)
   .simp only[aG,pC,or_false]at f
    rcases f with rfl|rfl
    .rw[j7]
     show some (wQ.vK (xZ _ (X.vI++[[X.vI.length]]).length))=_;rw[aF,ia,Jo,iW];have:=(rK q g.ids .vI);simp only[vY,fu,wQ.vK.injEq]at this;rw[show xZ (x9 a (.xH X.vI.length) n) X.vI.length=xZ a X.vI.length from this]
    .rw[kP (by simp),j7]
     simp[vY,HX.JN,vG]
   .simp only[aG,pC,or_false,not_or]at f
    refine⟨by rw[kP f.1,kP f.2],?_⟩;cases r with
    |vI=>exact absurd rfl f.1
    |xH i=>
     have M:i≠X.vI.length:=λe=>f.2 (by rw[e]);simp only[vY,HX.JN,o];by_cases c:i<X.vI.length
     .rw[aY c]
     .rw[aO (by simp;omega),aO (by omega)]
    |_=>rfl
  .rintro b G ⟨rfl,d,q,s⟩
   have e:d .yE=a .yE:=q .yE rfl;rw[<-e];have C:X.JN.up.length=X.up.length+1:=by simp[HX.JN]
   exact bQ (cH (cI (eY j rfl (s.pu (O j rfl) n_ rfl) (.vK (.m (s.get .up _ rfl))) (by rw[bh,C]) (by omega)) bC r7) ⟨by congr 1;omega,d,q,s⟩)
theorem m_find{w:Yz}:wA w 354 "find" 311:={}
theorem Eb{w:Yz}:wA w 354 "members" 325:={}
structure BQ(X:HX):Prop where
 up:∀i,i<X.up.length->X.up.getD i i<=i
 lo:X.vI.length=X.up.length
 z:X.up.length<=100
 lz:∀i,(X.vI.getD i []).length<=60
theorem Rf(b:∀i,i<l.length->l.getD i i<=i):∀(n:Nat),n<l.length->xr l n<=n:=by
 intro n;induction n using Nat.strongRecOn with
 |ind n a=>
  intro h;rw[xr];split
  .rename_i c
   exact bg (a _ c (by omega)) (l_ c)
  .exact ao _
theorem BQ.vQ(b:BQ X)(h:a<X.up.length):X.vQ a<X.up.length:=gg (Rf b.up a h) h
theorem BQ.find(b:BQ X)(H:wg c d X F)(e:a<X.up.length):PF w 1 (.ref 311) [.ref (d .yE),.int a] c (.int (X.vQ a)):=KR H.hw b.up (by have:=b.z;omega) e
theorem wg.Na(H:wg k n X F)(b:BQ X)(p:we 1 A){a:Nat}(h:PE w A d m k (eval o d) (.ref (n .yE)))(q:PE w A d m k (eval e d) (.int a))(r:a<X.up.length)(s:A7 e d:=by rfl)(g:attributeBase o "find" d (eval o d)=eval o d:=by rfl)(l:Ns1 f e d:=by rfl)(hf:methodCallForm ([e].length+([]:List Keyword).length) (backTo f (starEach [e] d)) (backToKw f (keywordEach [] d))=true:=by rfl)(i:(j.endLine==f.line)=true:=by rfl):
 PE w A d m k (eval (.Call (.Attribute o "find" j) [e] [] f) d) (.int (X.vQ a)):=
 dQ h (H.get .yE _ rfl) (H.get .zO _ rfl) m_find rfl EI.2 (bq s q) (b.find H r) p g l hf i
theorem Bj(h:i<n):(xZ a n)[((i:Nat):Int).toNat]? =some (.ref (a (.xH i))):=by simp[xZ,h]
theorem Dg(H:wg f g X F)(b:BQ X){m:X8}(e:a<X.up.length)(h:m.Perm (X.vI.getD (X.vQ a) []))(i:m.Pairwise (·<=·)):PF w 2 (.ref 325) [.ref (g .yE),.int a] f (.vK (vG m)):=by
 refine eF (f9 Jd λA l j k=>?_);have c:=k.scope;have d:=b.vQ e;rw[<-b.lo]at d;refine bQ (cH (uW c rfl (eG (H.pu (O c rfl) uH rfl) (H.Na b j (O c rfl) (O c rfl) e) (.m (H.get .vI _ rfl)) (by omega) (Bj d) (by simp[xZ];have:=b.z;have:=b.lo;omega)) (.m (H.xH d)) h i (by have:=b.lz (X.vQ a);omega)) ⟨rfl,cN _⟩)
theorem D9{i x:Nat}:(vG l).set (((i:Nat):Int).toNat) (.int x)=vG (l.set i x):=by simp[vG,List.map_set]
theorem L6:vG l++vG m=vG (l++m):=by simp[vG]
def lG:=@L6
theorem Lo(c:BQ X){a b:Nat}(y:a<X.up.length)(m:b<X.up.length)(W:X.vN.length<=1000):JO w 2 318 .yE [.int a,.int b] X (if X.xj a b=X.w_ a b then X else X.Cp (X.xj a b) (X.w_ a b)) (if X.xj a b=X.w_ a b then .none else .vV [.int (X.xj a b),.int (X.w_ a b)]):=by
 intro q j F H;refine nQ LQ λA o s E=>?_;have h:=E.scope;have G:=s.handled;have Y:=c.vQ y;have fb:=c.vQ m;have z:=Te (X.vQ a) (X.vQ b);have hk:X.xj a b<X.up.length:=by unfold HX.xj;omega
 have hg:X.w_ a b<X.up.length:=by unfold HX.w_;omega
 generalize u:X.xj a b=k at*;generalize v:X.w_ a b=g at*;refine aq (M:=λd f=>f=q/\d=[vr "gone" (.int g),vr "kept" (.int k),vr "self" (.ref (j .yE)),vr "a" (.int a),vr "b" (.int b)]) (bR ((uW h rfl (gV (bE rfl rfl (H.Na c s (O h rfl) (O h rfl) y) (H.Na c s (O h rfl) (O h rfl) m))) .f z.1 z.2 (by simp)).g
  (kh G (.vK .f) (bZ (ff h rfl (bZ (ff h rfl (gW ⟨rfl,?_⟩)))))))) ?_
 .rw[<-u,<-v];rfl
 .rintro d f ⟨rfl,rfl⟩
  refine aq (M:=λd f=>f=f/\k≠g/\wg f j X F/\d=[vr "gone" (.int g),vr "kept" (.int k),vr "self" (.ref (j .yE)),vr "a" (.int a),vr "b" (.int b)]) (dH (bf (O h rfl) (O h rfl) k8) (λm=>?_) λm=>?_) ?_
  .have e:k=g:=by
    have:(k:Int)=g:=by simpa using m
    omega
   refine bQ (cH tQ ?_);rw[B e,B e];exact⟨rfl,j,jI _ _,H⟩
  .have e:¬k=g:=by
    have:¬(k:Int)=g:=by simpa using m
    omega
   exact bw ⟨rfl,e,H,rfl⟩
  rintro d f ⟨-,p,H,rfl⟩;rw[J p,J p];have nz:=c.z;apply aq (M:=λd f=>wg f j {X with up:=X.up.set g k} F/\d=[vr "gone" (.int g),vr "kept" (.int k),vr "self" (.ref (j .yE)),vr "a" (.int a),vr "b" (.int b)]) (bR ((O h rfl).g (GA.BS (H.pu (O h rfl) n_ rfl) (O h rfl) (H.get .up _ rfl) (by omega) (by rw[bh];omega) (by rw[bh];omega) ⟨by rw[D9];exact H.W_ _,rfl⟩)));rintro d S ⟨n,rfl⟩;have lo:=c.lo;have t:k<X.vI.length:=by omega
  have C:g<X.vI.length:=by omega
  have l:∀{q} {X} {x} {i} {I L M N},wg q j X F->X.vI.length<=100->i<X.vI.length->look (AQ.1.scope.names) [vr "gone" (.int g),vr "kept" (.int k),vr "self" (.ref (j .yE)),vr "a" (.int a),vr "b" (.int b)] (Str.ofString x)=some (.int i)->
   PE w A o [vr "gone" (.int g),vr "kept" (.int k),vr "self" (.ref (j .yE)),vr "a" (.int a),vr "b" (.int b)] q (eval (.Subscript (.Attribute (.Name "self" I) "lots" L) (.Name (Str.ofString x) M) N) o) (.ref (j (.xH i))):=
   λH hz P Q=>eG (H.pu (O h rfl) uH rfl) (O h Q) (.m (H.get .vI _ rfl)) (by omega) (Bj P) (by simp[xZ];omega)
  have z1:=c.lz k;have z2:=c.lz g;refine aq (M:=λd f=>wg f j {X with up:=X.up.set g k,vI:=X.vI.set k (X.vI.getD k []++X.vI.getD g [])} F/\d=[vr "gone" (.int g),vr "kept" (.int k),vr "self" (.ref (j .yE)),vr "a" (.int a),vr "b" (.int b)])
   (eK h (GE.extend (l n (by show X.vI.length<=100;omega) t rfl) (n.xH t) (l n (by show X.vI.length<=100;omega) C rfl) (.m (n.xH C)) (by rw[bh,bh];show(X.vI.getD k []).length+(X.vI.getD g []).length<=_;omega) ⟨by rw[lG];exact n.Vz k _ t,rfl⟩)) ?_
  rintro d T ⟨r,rfl⟩;refine aq (M:=λd f=>wg f j (X.Cp k g) F/\d=[vr "gone" (.int g),vr "kept" (.int k),vr "self" (.ref (j .yE)),vr "a" (.int a),vr "b" (.int b)])
   (eK h (e_ (r.pu (O h rfl) CW rfl) (r.get .vN _ rfl) ((bK (bE rfl rfl (O h rfl) (O h rfl))).g ⟨_,r.get .vN _ rfl,by simp;omega,?_,rfl⟩))) ?_
  .have:=r.Kf (X.vN++[(k,g)])
   rw[aL]at this;exact this
  rintro d V ⟨R,rfl⟩;exact bQ (cH (bK (bE rfl rfl (O h rfl) (O h rfl))) ⟨rfl,j,jI _ _,R⟩)
theorem SK(a:BQ X)(u:X.vN=m++[(k,g)])(hk:k<X.up.length)(hg:g<X.up.length)(Q:(X.vI.getD g []).length<=(X.vI.getD k []).length)(hz:m.length<=1000):JO w 1 344 .yE [.int m.length] X X.z5 .none:=by
 intro v h F H;refine f9 RK λA l R S=>?_;have d:=S.scope;have y:=R.handled;have lo:=a.lo;have nz:=a.z;have r:k<X.vI.length:=by omega
 have I:g<X.vI.length:=by omega
 have z1:=a.lz k;have T:X.vN.getLastD (0,0)=(k,g):=by rw[u];simp
 have e1:X.vN.dropLast=m:=by rw[u];simp
 let L:HX:={X with vN:=m};let M:HX:={L with up:=X.up.set g g};have N:X.z5={M with vI:=X.vI.set k ((X.vI.getD k []).take ((X.vI.getD k []).length-(X.vI.getD g []).length))}:=by unfold HX.z5;rw[T,e1]
 let e:Md:=[vr "self" (.ref (h .yE)),vr "many" (.int m.length)];refine aq (nv (λn b c=>b=e/\(n=1/\wg c h X F\/n=0/\wg c h X.z5 F)) 1 ⟨rfl,.inl ⟨rfl,H⟩⟩ ?_) (λb c H=>bw ⟨rfl,h,jI _ _,H⟩);have j:∀{v} {Y} {G p} {P},wg v h Y F->look Ct.1.scope.names P "self"=some (.ref (h .yE))->PE w A l P v (eval (.Attribute (.Name "self" p) "merged" G) l) (.ref (h .vN)):=λH s=>H.pu (O d s) CW rfl;rintro n b c ⟨rfl,⟨rfl,H⟩|⟨rfl,H⟩⟩
 .refine⟨_,bf (eY d rfl (j H rfl) (.vK (.m (H.get .vN _ rfl))) (by simp[u];rfl) (by omega)) (qc d rfl y (O d rfl) bC) rA,λ_=>?_,λz=>?_⟩
  .refine dj (aq (M:=λb c=>wg c h L F/\b=vr "gone" (.int g)::vr "kept" (.int k)::e) (bR (jZ (j H rfl) (d:=xB (k,g)) (l:=m.map xB) (by rw[H.get .vN _ rfl,u];simp) (by simp;omega) (kh y .vV (bZ (ff d rfl (bZ (ff d rfl (gW ⟨?_,rfl⟩)))))))) ?_)
   .exact H.Kf m
   rintro b a0 ⟨C,rfl⟩;apply aq (M:=λb c=>wg c h M F/\b=vr "gone" (.int g)::vr "kept" (.int k)::e) (bR ((O d rfl).g (GA.BS (C.pu (O d rfl) n_ rfl) (O d rfl) (C.get .up _ rfl) (by omega) (by rw[bh];show _<X.up.length;omega) (by rw[bh];show X.up.length<=_;omega) ⟨by rw[D9];exact C.W_ _,rfl⟩)));rintro b o ⟨q,rfl⟩;have f:∀{x} {i} {V W p3 p4},i<X.vI.length->look (Ct.1.scope.names) (vr "gone" (.int g)::vr "kept" (.int k)::e) (Str.ofString x)=some (.int i)->
    PE w A l (vr "gone" (.int g)::vr "kept" (.int k)::e) o (eval (.Subscript (.Attribute (.Name "self" V) "lots" W) (.Name (Str.ofString x) p3) p4) l) (.ref (h (.xH i))):=
    λhi s=>eG (q.pu (O d rfl) uH rfl) (O d s) (.m (q.get .vI _ rfl)) (by omega) (Bj hi) (by simp[xZ];show X.vI.length<=_;omega)
   have t:∀{E},y9 w E o (binaryOp .Sub) (.int (X.vI.getD k []).length) (.int (X.vI.getD g []).length) (.int ((X.vI.getD k []).length-(X.vI.getD g []).length:Nat)):=λ{E}=>by
    have:=r7 (w:=w) (A:=E) (σ:=o) (a:=(X.vI.getD k []).length) (b:=(X.vI.getD g []).length)
    rwa[<-Int.ofNat_sub Q]at this
   refine aq (M:=λb c=>wg c h X.z5 F/\b=vr "gone" (.int g)::vr "kept" (.int k)::e) (uX (f r rfl) (cI (eY d rfl (f r rfl) (.vK (.m (q.xH r))) bh (by show(X.vI.getD k []).length<=_;omega)) (eY d rfl (f I rfl) (.vK (.m (q.xH I))) bh (by show(X.vI.getD g []).length<=_;omega)) t)
    (q.xH r) (by rw[bh];exact Nat.sub_le _ _) (by rw[bh];show(X.vI.getD k []).length<=_;omega) ⟨?_,rfl⟩) ?_
   .have:=q.Vz k ((X.vI.getD k []).take ((X.vI.getD k []).length-(X.vI.getD g []).length)) r
    rw[N];unfold vG at this⊢;rw[iR]at this;exact this
   rintro b b0 ⟨H3,rfl⟩;exact bw ⟨e,.cons rfl (.cons rfl .nil),0,by omega,rfl,.inr ⟨rfl,H3⟩⟩
  .rw[i_]at z;omega
 .have s:X.z5.vN=m:=by rw[N]
  refine⟨_,bf (eY d rfl (j H rfl) (.vK (.m (H.get .vN _ rfl))) (by simp[s];rfl) (by omega)) (qc d rfl y (O d rfl) bC) rA,λz=>?_,λ_=>H⟩;rw[aM]at z;omega
theorem QS(a:BQ X)(M:X.up.length=n+1)(z:X.vQ n=n)(N:X.vI.getD n []=[n]):JO w 3 351 .yE [.int n] X {X with up:=X.up.take n,vI:=X.vI.take n} .none:=by
 intro u m F H;refine f9 Rw λA s v P=>?_;have j:=P.scope;have G:=v.handled;have lo:=a.lo;have S:=a.z;let f:Md:=[vr "self" (.ref (m .yE)),vr "many" (.int n)];refine aq (M:=λb g=>g=u/\b=f) (dj (fV j rfl (qc j rfl G (O j rfl) bC) ⟨f,.cons rfl (.cons ?_ .nil),rfl,rfl⟩)) ?_
 .show some (D.int (max (n:Int) 0))=some (.int n)
  rw[show max (n:Int) 0=n by omega]
 rintro b g ⟨rfl,rfl⟩;have I:∀{L} {u} {Y} {C p},wg u m Y F->look EG.1.scope.names L "self"=some (.ref (m .yE))->PE w A s L u (eval (.Attribute (.Name "self" p) "above" C) s) (.ref (m .up)):=λH Q=>H.pu (O j Q) n_ rfl;refine aq (M:=λb h=>h=g/\b=f) (iD (ds:=[.int n]) (λk b h=>h=g/\b=f) (eW G (PE.EB j rfl (O j rfl) (eY j rfl (I H rfl) (.vK (.m (H.get .up _ rfl))) (by rw[bh,M]) (by omega))) (.inr (.inr (.inl ⟨n,(n+1:Nat),rfl,?_,by omega,by omega⟩))))
  ⟨rfl,rfl⟩ (λk d b h hd q=>?_) (λb h q=>q)) ?_
 .rw[show(((n+1:Nat):Int)-n).toNat=1 by omega];simp
 .obtain⟨rfl,rfl⟩:=q
  have E:d= .int n:=by
   cases k with
   |zero=>simpa using hd.symm
   |succ k=>simp at hd
  subst E;refine⟨vr "a" (.int n)::f,ig j rfl,dj ?_⟩;refine aq (M:=λt o=>o=h/\t=vr "a" (.int n)::f) (dH (b:=false) (bf (dQ (O j rfl) (H.get .yE _ rfl) (H.get .zO _ rfl) Eb rfl Ae.2 (bq rfl (O j rfl)) (Dg H a (by omega) (by rw[z,N]) (by simp)) v)
   (gV (bq rfl (O j rfl))) (Iz v (.d rfl) (.d rfl) (by simp[vG]))) (λe=>by cases e) λ_=>bw ⟨rfl,rfl⟩) ?_
  rintro t o ⟨rfl,rfl⟩;exact bw ⟨f,.cons rfl (.cons rfl .nil),rfl,rfl⟩
 rintro b h ⟨rfl,rfl⟩;have R:∀{l},(vG l).take n=vG (l.take n):=λ{l}=>by simp[vG,iR]
 apply aq (M:=λb g=>wg g m {X with up:=X.up.take n} F/\b=f) (uX (I H rfl) (O j rfl) (H.get .up _ rfl) (by rw[bh];omega) (by rw[bh];omega) ⟨by rw[R];exact H.W_ _,rfl⟩);rintro b o ⟨x,rfl⟩;refine aq (uX (x.pu (O j rfl) uH rfl) (O j rfl) (x.get .vI _ rfl) (by simp[xZ];omega) (by simp[xZ];omega) ?_) λb g y=>bw ⟨rfl,m,jI _ _,y⟩;have y:=x.c.put .vI (c':=.vK ((xZ m X.vI.length).take n)) rfl;refine y.h (λr c e=>?_) (H.ids.of rfl rfl rfl rfl rfl);cases r with
 |vI=>
  rw[j7,<-e];simp only[vY,bU,xZ];rw[<-iR,List.take_range]
 |xH i=>
  rw[kP (by simp)];simp only[vY]at e⊢;rw[vj]at e;split at e
  .exact e
  .cases e
 |_=>rw[kP (by simp)];exact e
inductive Pt where
 |v (b:Bool)|f (p:Pt)|g (p q:Pt)
 deriving DecidableEq
def wU(b:Bool):Str:=if b then "?y" else "?x"
def Pt.enc:Pt->D
 | .v b=>.vV [.str (wU b)]
 | .f p=>.vV [.str "f",p.enc]
 | .g p q=>.vV [.str "g",p.enc,q.enc]
def Pt.yO:Pt->Bool
 | .v _=>true
 |_=>false
def Pt.depth:Pt->Nat
 | .v _=>1
 | .f p=>1+p.depth
 | .g p q=>1+max p.depth q.depth
theorem Md.le.push(h:a.lookup x=none):Md.le a ((x,d)::a):=λy e q=>by
 rw[bH];by_cases c:y=x
 .subst c;rw[h]at q;cases q
 .rw[J c];exact q
def dW:=@Md.le.push
theorem Le.nm(c:a.scope=S)(e:S.names.lookup x=some .local)(f:b.lookup x=none):Le w A a b g (.Name x p) d ((x,d)::b):=⟨tN c e,dW f⟩
def fP:=@Le.nm
theorem Le.Ij(d:A.handled=none)(f:a.scope=S)(g:S.names.lookup x=some .local)(i:S.names.lookup y=some .local)(j:b.lookup x=none)(l:List.lookup y ((x,c)::b)=none):Le w A a b o (.Tuple [.Name x p,.Name y q] k n) (.vV [c,m]) ((y,m)::(x,c)::b):=⟨Tc.Ij d f g i,λz e h=>dW l z e (dW j z e h)⟩
def tU:=@Le.Ij
def B5:Fd 67:=⟨_,rfl⟩
def AU:Fd 74:=⟨_,rfl⟩
def AL:Fd 79:=⟨_,rfl⟩
theorem Ox{w:Yz}:wK w 67 B5.1 ["text"]:=.ok B5
theorem LS{w:Yz}:wK w 74 AU.1 ["t"]:=.ok AU
theorem OH{w:Yz}:wK w 79 AL.1 ["t"]:=.ok AL
theorem KP{w:Yz}:nsIn (KF w) mainGlobals "depth"=some (some (.ref 79)):=by kernel_rfl
theorem Sl{w:Yz}:nsIn (KF w) mainGlobals "is_op"=some (some (.ref 67)):=by kernel_rfl
theorem G8{w:Yz}:nsIn (KF w) mainGlobals "is_variable"=some (some (.ref 74)):=by kernel_rfl
def Ik(x:Str):Bool:=x !=""&&x.cps.toList.all λc=>!((Str.mk #[c]).length>0&&(Str.mk #[c]).cps.all Unicode.isSpace)&&(Builtin.Str.occurrences "()[]{},:" ⟨#[c]⟩ 0 (Str.ofString "()[]{},:").length 1).isEmpty
theorem Pb(h:Ik x=true)(C:x.cps.size<=1000):PF w 1 (.ref 67) [.str x] a (.bool true):=by
 refine eF (je Ox λA y g j=>?_);have b:=j.scope;have k:=g.handled;let⟨l,d⟩:=dB.mp h;have d:=dz.mp d;have m:y9 w A a (compareOp .NotEq) (.str x) (.str "") (.bool true):=by have:=Uo (w:=w) (A:=A) (σ:=a) (x:=x) (y:="");rwa[l]at this
 refine bQ (cH (sy (b:=true) (iX (O b rfl) cS m) (λ_=>?_) (λe=>by cases e)) ⟨rfl,cN _⟩);refine iX (jq (ds:=[]) ((mh (S:=B5.1.scope) (tg:=wH) (lk:=none) x.cps.toList (λc=>.str ⟨#[c]⟩) (λ_=>false) (λc=>.str ⟨#[c]⟩) b ⟨by rfl,by rfl,by decide+kernel,by rfl,by rfl⟩ (eW k (O b rfl) (.inr (.inr (.inr ⟨x,rfl,rfl⟩)))) trivial rfl (by simp;omega)
  λi f c n=>?_).mono λt z q=>⟨by rw[q.1];simp,q.2⟩)) (gV Ab.nil) (uI g (.d rfl) (.d rfl) (by simp))
 let⟨o,p⟩:=dB.mp (d c n);have r:(((Str.mk #[c]).length>0:Bool)&&(Str.mk #[c]).cps.all Unicode.isSpace)=false:=by rw[<-jk];exact o
 have s:OP w A a (λu=>call (.builtin "str.isspace") u) [.str ⟨#[c]⟩] (.bool false):=by have:=DH (w:=w) (A:=A) (σ:=a) (x:=⟨#[c]⟩);rwa[r]at this
 have v:y9 w A a (compareOp .In) (.str ⟨#[c]⟩) (.str "()[]{},:") (.bool false):=by have:=LL (w:=w) (A:=A) (σ:=a) (x:="()[]{},:") (y:=⟨#[c]⟩);rwa[p]at this
 exact⟨_,fP f rfl rfl,rL (lY (mV (uV (O f rfl) IsT.str PySem.F.plainAttrs_str pI PySem.F.type_str_isspace bG s)) λ_=>lY (bf (O f rfl) cS v) λ_=>PB.or_nil),λe=>by cases e⟩
theorem Uv:Ik "a"=true:=by decide+kernel
theorem Uu:Ik "b"=true:=by decide+kernel
theorem Ut:Ik "f"=true:=by decide+kernel
theorem Us:Ik "g"=true:=by decide+kernel
theorem Hv(b:Bool)(t u:Tok):(sliceMade (wU b) t none (some (1,u)) none= .val (.str (wU b) t)/\("?":Str)=wU b)\/sliceMade (wU b) t none (some (1,u)) none= .str "?":=by cases b<;>exact .inr rfl
theorem Mj(p:Pt):PF w 1 (.ref 74) [p.enc] h (.bool p.yO):=by
 refine eF (je LS λA d i c=>?_);have a:=c.scope;cases p with
 |v b=>
  exact bQ (cH (sy (b:=true) (iX (eY (n:=1) a rfl (O a rfl) .vV rfl (by decide)) bC k8) (λ_=>iX (PE.I5 (x:=wU b) (c7 (O a rfl) bC (j:=0) rfl rfl) bC (Hv b) (by decide)) cS oY) (λe=>by cases e)) ⟨rfl,cN _⟩)
 |f q=>exact bQ (cH (sy (b:=false) (iX (eY (n:=2) a rfl (O a rfl) .vV rfl (by decide)) bC k8) (λe=>by cases e) (λe=>rfl)) ⟨rfl,cN _⟩)
 |g q r=>exact bQ (cH (sy (b:=false) (iX (eY (n:=3) a rfl (O a rfl) .vV rfl (by decide)) bC k8) (λe=>by cases e) (λe=>rfl)) ⟨rfl,cN _⟩)
def Pt.wI:Pt->List Pt
 | .v _=>[]
 | .f p=>[p]
 | .g p q=>[p,q]
theorem PL(p:Pt):∃h,p.enc= .vV (h::p.wI.map Pt.enc)/\p.depth=1+(p.wI.map Pt.depth).foldl max 0:=by
 cases p with
 |v b=>exact⟨_,rfl,rfl⟩
 |f p=>exact⟨_,rfl,by simp[Pt.depth,Pt.wI]⟩
 |g p q=>exact⟨_,rfl,by simp[Pt.depth,Pt.wI]⟩
theorem foldl_max{l:X8}:(∀x∈l,x<=l.foldl max m)/\m<=l.foldl max m/\(l.foldl max m=m\/l.foldl max m∈l):=by
 induction l generalizing m with
 |nil=>exact⟨λ_ h=>(nomatch h),ao _,.inl rfl⟩
 |cons a l d=>
  let⟨e,f,b⟩:=d (m:=max m a);rw[dg];refine⟨λx c=>?_,by omega,?_⟩
  .rcases aG.mp c with rfl|c
   .omega
   .exact e x c
  .rcases b with b|b
   .rw[b]
    rcases iJ m a with q|q
    .rw[gQ q];exact .inr (.head _)
    .rw[g_ q];exact .inl rfl
   .exact .inr (.tail _ b)
theorem VB{A:YA}(b:A.handled=none):OP w A σ (λc=>call (.builtin "max") c) [.vK (vG l++[.int 0])] (.int (l.foldl max 0:Nat)):=by
 let⟨d,g,e⟩:=foldl_max (l:=l) (m:=0);refine RQ (ns:=l.map (λ(x:Nat)=>(x:Int))++[0]) b (by rw[show vG l++[D.int 0]=(l.map (λ(x:Nat)=>(x:Int))++[0]).map D.int by simp[vG]];exact .f) ?_ λx a=>?_
 .rcases e with h|h
  .rw[h];simp
  .exact aR _ (b9 h)
 .rcases aB.mp a with a|a
  .obtain⟨y,f,rfl⟩:=aa.mp a
   exact Int.ofNat_le.mpr (d y f)
  .rw[aj.mp a];omega
theorem PW:∀p:Pt,PF w p.depth (.ref 79) [p.enc] g (.int p.depth):=by
 suffices h:∀n (p:Pt),p.depth=n->PF w n (.ref 79) [p.enc] g (.int p.depth)fromλp=>h _ p rfl
 intro n;induction n using Nat.strongRecOn with
 |ind n o=>
  intro p y;let⟨h,d,hd⟩:=PL p;have a:n=(p.wI.map Pt.depth).foldl max 0+1:=by omega
  rw[d];generalize i:(p.wI.map Pt.depth).foldl max 0=m at*;rw[a];refine eF (je OH λA v j r=>?_);have b:=r.scope;have k:=j.handled;have s:D.int (p.depth:Nat)= .int (1+(m:Nat)):=by rw[hd];simp
  refine bQ (cH (d:=.int (1+(m:Nat))) (cI bC (lF (Nm b rfl) (bq rfl (cI (d1:=.vK (vG (p.wI.map Pt.depth))) (jq ((jT (S:=AL.1.scope) (tg:=wH) (lk:=none) p.wI Pt.enc (λq=>.int q.depth) b ⟨by rfl,by rfl,by decide+kernel,by rfl,by rfl⟩
   (eW k (fO (a:=1) (O b rfl) bC (by omega) (by simp) (by simp;cases p<;>simp[Pt.wI])) (.inr (.inl (by simp)))) trivial rfl (by cases p<;>simp[Pt.wI]) λl c q u=>?_).mono λt x e=>⟨by rw[e.1];simp[vG],e.2⟩)) (gV (bq rfl bC)) (BV .f .f (by simp[vG];cases p<;>simp[Pt.wI])))) ?_) lQ) ⟨s.symm,cN _⟩)
  .have f:q.depth<=m:=by rw[<-i];exact foldl_max.1 _ (b9 u)
   exact⟨_,fP c rfl rfl,gF (dJ c rfl KP) AL.2 (bq rfl (O c rfl)) ((o q.depth (by omega) q rfl).room f) j⟩
  .have:=VB (w:=w) (A:=A) (σ:=g) (l:=p.wI.map Pt.depth) k
   rw[i]at this;exact this
section
variable{K V:Type}[DecidableEq K]{ek:K->D}{ev:V->D}
abbrev zc(a:K->D)(b:V->D)(l:List (K×V)):Yh:=l.map λp=>(a p.1,b p.2)
theorem mem_keys(d:∀a b,ek a=ek b->a=b){l:List (K×V)}:ek k∈(zc ek ev l).map (·.1)↔k∈l.map (·.1):=by
 simp only[bD,aa,Function.comp];exact⟨λ⟨p,c,e⟩=>⟨p,c,d _ _ e⟩,λ⟨p,c,e⟩=>⟨p,c,by rw[e]⟩⟩
theorem PU(d:∀a b,ek a=ek b->a=b){k:K}:ze (zc ek ev l) (ek k)=(vJ l k).map ev:=by
 unfold ze vJ;induction l with
 |nil=>rfl
 |cons p l f=>
  simp only[zc,bF,p8];by_cases c:p.1=k
  .simp[c]
  .have:¬ek p.1=ek k:=λe=>c (d _ _ e)
   simp only[c,this,oE];exact f
def lA:=@PU
theorem PM(d:∀a b,ek a=ek b->a=b){l:List (K×V)}:wM (zc ek ev l) (ek k) (ev v)=zc ek ev (wJ l k v):=by
 classical
 unfold wM wJ;by_cases c:k∈l.map (·.1)
 .rw[B ((mem_keys d).mpr c),B c]
  simp only[zc,bD];refine aK λp _=>?_;simp only[Function.comp];by_cases e:p.1=k
  .simp[e]
  .have:¬ek p.1=ek k:=λq=>e (d _ _ q)
   simp[e,this]
 .rw[J λq=>c ((mem_keys d).mp q),J c]
  simp[zc]
def iA:=@PM
theorem PX(c:∀a b,ek a=ek b->a=b){k:K}:A9 (zc ek ev l) (ek k)=zc ek ev (xT l k):=by
 classical
 unfold A9 xT;simp only[zc,p9];congr 1;refine iw λp _=>?_;simp only[Function.comp];by_cases e:p.1=k
 .simp[e]
 .have:¬ek p.1=ek k:=λq=>e (c _ _ q)
  simp[e,this]
def tR:=@PX
end
theorem D_:∀{l m:X8},vG l=vG m->l=m
 |[],[],_=>rfl
 |[],_::_,h=>by simp[vG]at h
 |_::_,[],h=>by simp[vG]at h
 |a::l,b::m,h=>by
  have d:D.int a::vG l=D.int b::vG m:=h;injection d with c e
  injection c with c
  rw[D_ e,k6 c]
theorem JD(r s)(h:vP r=vP s):r=s:=by
 let⟨a,l⟩:=r;let⟨b,m⟩:=s;unfold vP at h;injection h with h
 injection h with c d
 injection c with c
 exact gr c (D_ d)
def gc:=@JD
theorem Sd(a b:Nat)(h:D.int (a:Int)= .int (b:Int)):a=b:=by injection h with h;exact k6 h
def j3:=@Sd
theorem Sg(l):A2 (vG l)=true:=BY.mpr λd hd=>by obtain⟨x,_,rfl⟩:=aa.mp hd;rfl
theorem Rn(l)(k):yJ (vG l) k=true:=jF.mpr λd hd=>by
 obtain⟨x,_,rfl⟩:=aa.mp hd;cases k<;>rfl
theorem U3(h:PyData.strOk r.1=true):(vP r).kd=some 2:=by
 show(if(A2 (.str r.1::vG r.2)&&yJ (.str r.1::vG r.2) 7)=true then some 2 else none)=some 2;rw[B];rw[dB];exact⟨by show(D.hk (.str r.1)&&A2 (vG r.2))=true;rw[Sg];rfl,by show(D.pl (.str r.1) 7&&yJ (vG r.2) 7)=true;rw[Rn,jH];exact h⟩
def jQ:=@U3
theorem U4(n):(D.int n).kd=some 0:=rfl
def oZ:=@U4
structure S_(X:HX):Prop where
 s:∀r∈X.vB,PyData.strOk r.1=true
 w:X.yr.length=X.vB.length
 d:X.zm.length=X.vB.length
 z:X.vB.length<=100
 b:∀x∈X.yr,x<=2^40
theorem LY(a:Yg):xW a=zc vP (λn:Nat=>D.int n) a.zipIdx:=rfl
def rM:=@LY
theorem S_.kn(a:S_ X):wG 2 (xW X.vB):=λp c=>by
 obtain⟨q,e,rfl⟩:=aa.mp c;exact jQ (a.s _ (qU e))
def E5:Fd 105:=⟨_,rfl⟩
def Cq:Fd 110:=⟨_,rfl⟩
def Bm:Fd 117:=⟨_,rfl⟩
def EK:Fd 136:=⟨_,rfl⟩
def TU:Fd 143:=⟨_,rfl⟩
def EH:Fd 150:=⟨_,rfl⟩
theorem OJ(w):wK w 105 E5.1 ["self"]:=.of E5.2 rfl (by decide+kernel)
theorem Rx(w):wK w 110 Cq.1 ["self","op","kids"]:=.of Cq.2 rfl (by decide+kernel)
theorem Jc(w):wK w 117 Bm.1 ["self","op"]:=.of Bm.2 rfl (by decide+kernel)
theorem RJ(w):wK w 136 EK.1 ["self","many"]:=.of EK.2 rfl (by decide+kernel)
theorem V9(w):wK w 143 TU.1 ["self","n"]:=.of TU.2 rfl (by decide+kernel)
theorem RG(w):wK w 150 EH.1 ["self","n"]:=.of EH.2 rfl (by decide+kernel)
theorem S4(w):wO w 186 "nodes":=⟨by kernel_rfl,by kernel_rfl,by kernel_rfl⟩
def qd:=@S4
theorem Ex(w):wO w 186 "numbers":=⟨by kernel_rfl,by kernel_rfl,by kernel_rfl⟩
theorem Br(w):wO w 186 "weights":=⟨by kernel_rfl,by kernel_rfl,by kernel_rfl⟩
theorem CY(w):wO w 186 "depths":=⟨by kernel_rfl,by kernel_rfl,by kernel_rfl⟩
theorem L8(w):wA w 186 "require" 117:=⟨by kernel_rfl,by kernel_rfl,by kernel_rfl⟩
section
variable{X:HX}
theorem wg.pb(H:wg g i X F)(h:PE w A b j g (eval e b) (.ref (i .yh)))(k:wO w 186 a)(l:(EN i).lookup a=some d)(m:eval (.Attribute e a f) b=(do
  let o <-eval e b
  standAt f.atName
  let r <-holding [o] (getAttr o a true)
  letTemporaryGo e o r
  pure r):=by with_unfolding_all rfl):PE w A b j g (eval (.Attribute e a f) b) d:=
 jG h (H.get .yh _ rfl) (H.get .yP _ rfl) k l m
theorem J'(h:n<X.vB.length):(X.vB.map vP)[((n:Nat):Int).toNat]? =some (vP (X.row n)):=by simp[HX.row,h]
theorem P5(H:wg b c X F)(e:X.vB.length<=1000):PF w 1 (.ref 105) [.ref (c .yh)] b (.int X.vB.length):=by
 refine eF (je (OJ w) λA d f a=>?_);exact bQ (cH (eY a.scope rfl (H.pb (O a.scope rfl) (qd w) rfl) (.vK (.m (H.get .nodes _ rfl))) (by simp) (by omega)) ⟨rfl,cN _⟩)
theorem VZ(H:wg b c X F)(f:X.vB.length<=1000)(d:n<X.vB.length):PF w 1 (.ref 143) [.ref (c .yh),.int n] b (.str (X.row n).1):=by
 refine eF (f9 (V9 w) λA e g a=>?_);exact bQ (cH (c7 (eG (H.pb (O a.scope rfl) (qd w) rfl) (O a.scope rfl) (.m (H.get .nodes _ rfl)) (by omega) (J' d) (by simp;omega)) bC (j:=0) (by simp[seqIndex?]) rfl) ⟨rfl,cN _⟩)
theorem KG(H:wg b c X F)(f:X.vB.length<=1000)(d:n<X.vB.length)(g:(X.row n).2.length<=100):PF w 1 (.ref 150) [.ref (c .yh),.int n] b (.vV (vG (X.row n).2)):=by
 refine eF (f9 (RG w) λA e h a=>?_);exact bQ (cH (fO (a:=1) (eG (H.pb (O a.scope rfl) (qd w) rfl) (O a.scope rfl) (.m (H.get .nodes _ rfl)) (by omega) (J' d) (by simp;omega)) bC (by omega) (by simp) (by simp[vG];omega)) ⟨rfl,cN _⟩)
theorem I_(H:wg b g X F)(h:Ik x=true)(i:x.cps[0]? =some c)(j:(Str.mk #[c]=="?")=false)(k:x.cps.size<=1000):PF w 2 (.ref 117) [.ref (g .yh),.str x] b .none:=by
 refine eF (f9 (Jc w) λA o l m=>?_);have d:=m.scope;have n:y9 w A b (compareOp .Eq) (.str (Str.mk #[c])) (.str "?") (.bool false):=by have:=oY (w:=w) (A:=A) (σ:=b) (x:=Str.mk #[c]) (y:="?");rwa[j]at this
 apply aq (M:=λf a=>a=b) (dH (rL (lY (PB.not (mV (gF (dJ d rfl Sl) B5.2 (bq rfl (O d rfl)) (Pb h k) l))) λ_=>lY (bf (uY (O d rfl) bC (by decide) (by decide) i) cS n) λ_=>PB.or_nil)) (λe=>by cases e) λ_=>bw rfl);rintro f a rfl;exact bw ⟨rfl,cN _⟩
theorem DU{l:Yg}(h:l[i]? =some r):(r,i)∈l.zipIdx:=by
 rw[mK];exact⟨i,by rw[nh,h];simp⟩
theorem NF(h:r∈X.vB):∃i,X.idx r=some i/\X.vB[i]? =some r/\i<X.vB.length:=by
 unfold HX.idx;cases e:X.vB.findIdx? λs=>decide (s=r)with
 |none=>exact absurd (gk.mp e r h) (by simp)
 |some i=>
  let⟨a,b,_⟩:=jc.mp e;exact⟨i,rfl,by rw[au a];simpa using b,a⟩
theorem D6:(xW X.vB).map (·.1)=X.vB.map vP:=by
 unfold xW;rw[bD,show((λp=>p.1)∘λp:Row×Nat=>(vP p.1,D.int p.2))=vP∘Prod.fst from rfl,<-bD,uC]
theorem Je(h:r∉a):wM (xW a) (vP r) (.int a.length)=xW (a++[r]):=by
 rw[rM,rM,show D.int (a.length:Nat)=(λn=>D.int n) a.length from rfl,iA gc];unfold wJ;rw[J (by rw[uC];exact h),vm];simp[zc]
structure zW(x:Str):Prop where
 o:Ik x=true
 s:PyData.strOk x=true
 c:∃c,x.cps[0]? =some c/\(Str.mk #[c]=="?")=false
 z:x.cps.size<=1000
theorem Ud(c:A.handled=none)(b:∀x∈l,x<=2^40)(d:l.length<=100):OP w A k (λf=>call (.builtin "sum") f) [.vK (vG l)] (.int l.sum):=by
 have e:vG l=(l.map λ(x:Nat)=>(x:Int)).map D.int:=by simp[vG]
 have g:((l.sum:Nat):Int)=(l.map λ(x:Nat)=>(x:Int)).sum:=by
  clear b d e;induction l with
  |nil=>rfl
  |cons a l h=>simp[h]
 rw[g];refine QU c (by rw[e];exact .f) (λx i=>?_) (by simp;omega);obtain⟨y,j,rfl⟩:=aa.mp i;have:=b y j;omega
theorem QT{X:HX}(a:S_ X)(b:zW r.1)(hk:∀k∈r.2,k<X.vB.length)(hl:r.2.length<=50):JO w 3 110 .yh [.str r.1,.vV (vG r.2)] X (if r∈X.vB then X else X.FY r) (.int (X.zq r)):=by
 intro E o F H;refine nQ (Rx w) λA z P he=>?_;have g:=he.scope;have S:=P.handled;have nz:=a.z;let⟨c0,a0,b0⟩:=b.c;have kr:=jQ b.s;let j:Md:=[vr "node" (vP r),vr "self" (.ref (o .yh)),vr "op" (.str r.1),vr "kids" (.vV (vG r.2))];have n:∀{E} {X} {I p} {T},wg E o X F->look Cq.1.scope.names T "self"=some (.ref (o .yh))->PE w A z T E (eval (.Attribute (.Name "self" p) "nodes" I) z) (.ref (o .nodes)):=λH v=>H.pb (O g v) (qd w) rfl;have u:∀{E} {X} {I p} {T},wg E o X F->look Cq.1.scope.names T "self"=some (.ref (o .yh))->PE w A z T E (eval (.Attribute (.Name "self" p) "numbers" I) z) (.ref (o .numbers)):=λH v=>H.pb (O g v) (Ex w) rfl;apply aq (M:=λf h=>f=j/\h=E) (fV g rfl (cI (bK (bq rfl (O g rfl))) (jw (K7 g rfl) (bq rfl (O g rfl)) Fj) (qy (by simp[vG];omega))) ⟨rfl,rfl⟩);rintro f h ⟨rfl,rfl⟩;by_cases l:r∈X.vB
 .rw[B l]
  let⟨i,hi,d0,e0⟩:=NF l;have ea:X.zq r=i:=by unfold HX.zq;rw[hi];rfl
  rw[ea];refine bQ (dH (b:=true) (bf (O g rfl) (u H rfl) (rN P (.m (H.get .numbers _ rfl)) kr a.kn (by rw[D6];simp;exact⟨r.1,r.2,l,rfl⟩))) (λ_=>?_) λe=>by cases e);exact bQ (cH (nP (u H rfl) (O g rfl) (qe P (.m (H.get .numbers _ rfl)) kr a.kn (aa.mpr ⟨(r,i),DU d0,rfl⟩)) (.inr (.inl ⟨_,.m (H.get .numbers _ rfl)⟩))) ⟨rfl,o,jI _ _,H⟩)
 .rw[J l]
  have ea:X.zq r=X.vB.length:=by
   unfold HX.zq HX.idx;rw[gk.mpr λs g=>by simp;rintro rfl;exact l g]
   rfl
  rw[ea];refine aq (M:=λf L=>f=j/\L=h) (dH (b:=false) (bf (O g rfl) (u H rfl) (rN P (.m (H.get .numbers _ rfl)) kr a.kn ⟨λe=>(by cases e),λe=>?_⟩)) (λe=>by cases e) λ_=>bw ⟨rfl,rfl⟩) ?_
  .rw[D6]at e
   let⟨s,g,e⟩:=aa.mp e;exact absurd (gc _ _ e▸g) l
  rintro f L ⟨rfl,rfl⟩;apply aq (M:=λf C=>f=j/\C=L) (eK g ((dQ (O g rfl) (H.get .yh _ rfl) (H.get .yP _ rfl) (L8 w) rfl Bm.2 (bq rfl (O g rfl)) (I_ H b.o a0 b0 b.z) P).g ⟨rfl,rfl⟩));rintro f C ⟨rfl,rfl⟩;refine aq (M:=λf m=>f=j/\m=C) (iD (λk f m=>f=j/\m=C) (eW S (fO (a:=1) (O g rfl) bC (by omega) (by simp) (by simp[vG];omega)) (.inr (.inl rfl))) ⟨rfl,rfl⟩ (λk d f m hd q=>?_) λf m q=>q) ?_
  .obtain⟨rfl,rfl⟩:=q
   have hm:=aH hd;obtain⟨x,v,rfl⟩:=aa.mp hm;have e0:=hk x v;refine⟨vr "kid" (.int x)::j,ig g rfl,dj ?_⟩;refine aq (M:=λf M=>f=vr "kid" (.int x)::j/\M=m) (dH (b:=!(decide ((0:Int)<=x)&&decide ((x:Int)<X.vB.length))) (PB.not (PB.PY bC (O g rfl) (eY g rfl (n H rfl) (.vK (.m (H.get .nodes _ rfl))) (by simp) (by omega)) V0 JU)) (λe=>?_) λ_=>bw ⟨rfl,rfl⟩) ?_
   .exfalso
    have:(decide ((0:Int)<=x)&&decide ((x:Int)<X.vB.length))=true:=by simp;omega
    rw[this]at e;cases e
   rintro f M ⟨rfl,rfl⟩;exact bw ⟨j,dW rfl,rfl,rfl⟩
  rintro f m ⟨rfl,rfl⟩;let C1:=Im (vY o X) .numbers (.wc (xW (X.vB++[r])));refine aq (M:=λf h=>f=j/\Ql h o C1 F) (bR ((eY (n:=X.vB.length) g rfl (n H rfl) (.vK (.m (H.get .nodes _ rfl))) (by simp) (by omega)).g (fj P (u H rfl) (O g rfl) (H.get .numbers _ rfl) kr a.kn (by simp[xW];omega) ⟨rfl,?_⟩))) ?_
  .rw[Je l];exact H.c.put .numbers rfl
  rintro f M ⟨rfl,V⟩;let X1:HX:={X with vB:=X.vB++[r]};refine aq (M:=λf h=>f=j/\wg h o X1 F) (eK g (e_ (jG (O g rfl) (V.get .yh _ rfl) (V.get .yP _ rfl) (qd w) rfl) (V.get .nodes _ rfl) ((O g rfl).g ⟨_,V.get .nodes _ rfl,by simp;omega,rfl,?_⟩))) ?_
  .refine(V.put .nodes rfl).h (λq c e=>?_) (H.ids.of rfl rfl rfl rfl rfl)
   cases q with
   |nodes=>rw[j7,<-e];simp[vY,X1]
   |_=>exact e
  rintro f f0 ⟨rfl,Q⟩;let X2:HX:={X1 with yr:=X.yr++[1+(r.2.map λk=>X.yr.getD k 0).sum]};let X3:HX:={X2 with zm:=X.zm++[1+(r.2.map λk=>X.zm.getD k 0).foldl max 0]};refine aq (M:=λf h=>f=j/\wg h o X2 F) (eK g (e_ (Q.pb (O g rfl) (Br w) rfl) (Q.get .yc _ rfl) ((cI bC (lF (WJ g rfl) (bq rfl (jq (ds:=vG (r.2.map λk=>X.yr.getD k 0)) ((jT r.2 (λx=>.int x) (λx=>.int (X.yr.getD x 0:Nat)) g ⟨by rfl,by rfl,by decide+kernel,by rfl,by rfl⟩
   (eW S (fO (a:=1) (O g rfl) bC (by omega) (by simp) (by simp[vG];omega)) (.inr (.inl rfl))) trivial rfl (by omega) λY G x v=>?_).mono λt h e=>⟨by rw[e.1];simp[vG],e.2⟩))) (Ud S (λx v=>?_) (by simp;omega))) lQ).g ⟨_,Q.get .yc _ rfl,?_,rfl,?_⟩))) ?_
  .have N:=hk x v
   exact⟨_,fP G rfl rfl,eG (Q.pb (O G rfl) (Br w) rfl) (O G rfl) (.m (Q.get .yc _ rfl)) (by omega) (iF (by rw[a.w];exact N)) (by rw[bh];show X.yr.length<=_;rw[a.w];omega)⟩
  .obtain⟨y,hy,rfl⟩:=aa.mp v
   have W:=hk y hy;have:X.yr.getD y 0∈X.yr:=by rw[<-a.w]at W;simp[W]
   exact a.b _ this
  .rw[bh];show X.yr.length<=_;rw[a.w];omega
  .have:=Q.Vy (X.yr++[1+(r.2.map λk=>X.yr.getD k 0).sum])
   rw[<-lG]at this;have e1:D.int (1+((r.2.map λk=>X.yr.getD k 0).sum:Nat))= .int ((1+(r.2.map λk=>X.yr.getD k 0).sum:Nat)):=by simp
   rw[e1];exact this
  rintro f g0 ⟨rfl,R⟩;refine aq (M:=λf h=>f=j/\wg h o X3 F) (eK g (e_ (R.pb (O g rfl) (CY w) rfl) (R.get .yR _ rfl) ((cI bC (lF (Nm g rfl) (bq rfl (cI (d1:=.vK (vG (r.2.map λk=>X.zm.getD k 0))) (jq ((jT r.2 (λx=>.int x) (λx=>.int (X.zm.getD x 0:Nat)) g ⟨by rfl,by rfl,by decide+kernel,by rfl,by rfl⟩
   (eW S (fO (a:=1) (O g rfl) bC (by omega) (by simp) (by simp[vG];omega)) (.inr (.inl rfl))) trivial rfl (by omega) λY G x v=>?_).mono λt h e=>⟨by rw[e.1];simp[vG],e.2⟩)) (gV (bq rfl bC)) (BV .f .f (by simp[vG];omega)))) (VB S)) lQ).g ⟨_,R.get .yR _ rfl,?_,rfl,?_⟩))) ?_
  .have N:=hk x v
   exact⟨_,fP G rfl rfl,eG (R.pb (O G rfl) (CY w) rfl) (O G rfl) (.m (R.get .yR _ rfl)) (by omega) (iF (by rw[a.d];exact N)) (by rw[bh];show X.zm.length<=_;rw[a.d];omega)⟩
  .rw[bh];show X.zm.length<=_;rw[a.d];omega
  .have:=R.VA (X.zm++[1+(r.2.map λk=>X.zm.getD k 0).foldl max 0])
   rw[<-lG]at this;have e1:D.int (1+((r.2.map λk=>X.zm.getD k 0).foldl max 0:Nat))= .int ((1+(r.2.map λk=>X.zm.getD k 0).foldl max 0:Nat)):=by simp
   rw[e1];exact this
  rintro f h0 ⟨rfl,H4⟩;exact bQ (cH (cI (eY (n:=X.vB.length+1) g rfl (n H4 rfl) (.vK (.m (H4.get .nodes _ rfl))) (by simp[X3,X2,X1]) (by omega)) bC r7) ⟨by congr 1;omega,o,jI _ _,H4⟩)
theorem Bd(h:l.length=n+1):l=l.take n++[l.getD n x]:=by
 have a:n<l.length:=by omega
 conv=>lhs;rw[<-jt n l]
 congr 1;rw[iM a,sS (by omega)];simp[a]
theorem Jf{r:Row}(h:r∉a):A9 (xW (a++[r])) (vP r)=xW a:=by
 rw[rM,rM,tR gc];congr 1;unfold xT;rw[vm,fK,fW.mpr λp b=>?_,sX.mpr λp b=>?_,d7]
 .simp only[lJ,p7,aj]at b
  rw[b];simp
 .have:=qU b
  simp only[aM];rintro rfl;exact h this
theorem SI{X:HX}(a:S_ X)(o:X.vB.length=n+1)(j:X.vB.Nodup):JO w 2 136 .yh [.int n] X {X with vB:=X.vB.take n,yr:=X.yr.take n,zm:=X.zm.take n} .none:=by
 intro v h F H;refine f9 (RJ w) λA l N S=>?_;have g:=S.scope;have P:=N.handled;have nz:=a.z;let i:Md:=[vr "self" (.ref (h .yh)),vr "many" (.int n)];let s:HX:={X with vB:=X.vB.take n};let t:HX:={s with yr:=X.yr.take n};let x:HX:={t with zm:=X.zm.take n};generalize m:X.row n=r at*;have E:n<X.vB.length:=by omega
 have u:X.vB=X.vB.take n++[r]:=by rw[<-m];exact Bd o
 have G:r∈X.vB:=by rw[u];simp
 have I:r∉X.vB.take n:=λq=>by
  rw[u]at j;have:=(b6.mp j).2.2;exact this r q r (by simp) rfl
 have f:∀{v} {X} {L p} {Q},wg v h X F->look EK.1.scope.names Q "self"=some (.ref (h .yh))->PE w A l Q v (eval (.Attribute (.Name "self" p) "nodes" L) l) (.ref (h .nodes)):=λH T=>H.pb (O g T) (qd w) rfl;refine aq (nv (λk b d=>b=i/\(k=1/\wg d h X F\/k=0/\wg d h x F)) 1 ⟨rfl,.inl ⟨rfl,H⟩⟩ ?_) (λb d H=>bw ⟨rfl,h,jI _ _,H⟩);rintro k b d ⟨rfl,⟨rfl,H⟩|⟨rfl,H⟩⟩
 .refine⟨_,bf (eY (n:=n+1) g rfl (f H rfl) (.vK (.m (H.get .nodes _ rfl))) (by simp[o]) (by omega)) (qc g rfl P (O g rfl) bC) rA,λ_=>?_,λy=>?_⟩
  .have M:X.vB.map vP=(X.vB.take n).map vP++[vP r]:=by
    conv=>lhs;rw[u]
    simp
   have R:=H.c.put .nodes (c':=.vK ((X.vB.take n).map vP)) rfl;refine aq (M:=λb d=>b=i/\wg d h s F) (eK g (GE.Vx N (H.pb (O g rfl) (Ex w) rfl) (H.get .numbers _ rfl) (jZ (f H rfl) (by rw[H.get .nodes _ rfl,M]) (by simp;omega)
    ⟨xW X.vB,.int n,R.get .numbers _ rfl,jQ (a.s _ G),a.kn,aa.mpr ⟨(r,n),DU (by rw[<-m];simp[HX.row,E]),rfl⟩,by simp[xW];omega,rfl,?_⟩))) ?_
   .refine(R.put .numbers rfl).h (λq c e=>?_) (H.ids.of rfl rfl rfl rfl rfl)
    cases q with
    |numbers=>
     rw[j7,<-e];have:A9 (xW X.vB) (vP r)=xW (X.vB.take n):=by
      conv=>lhs;rw[u]
      exact Jf I
     rw[this];rfl
    |_=>exact e
   rintro b W ⟨rfl,z⟩;refine aq (M:=λb d=>b=i/\wg d h t F) (eK g (jZ (d:=.int (X.yr.getD n 0:Nat)) (z.pb (O g rfl) (Br w) rfl) ?_ (by rw[bh];simp;omega) ⟨rfl,z.Vy _⟩)) ?_
   .rw[z.get .yc _ rfl]
    have:=Bd (x:=0) (by rw[a.w];exact o);congr 2;conv=>lhs;rw[show s.yr=X.yr from rfl,this]
    simp[vG]
   rintro b Y ⟨rfl,C⟩;refine aq (M:=λb d=>b=i/\wg d h x F) (eK g (jZ (d:=.int (X.zm.getD n 0:Nat)) (C.pb (O g rfl) (CY w) rfl) ?_ (by rw[bh];simp;omega) ⟨rfl,C.VA _⟩)) ?_
   .rw[C.get .yR _ rfl]
    have:=Bd (x:=0) (by rw[a.d];exact o);congr 2;conv=>lhs;rw[show t.zm=X.zm from rfl,this]
    simp[vG]
   rintro b a0 ⟨rfl,V⟩;exact bw ⟨0,by omega,rfl,.inr ⟨rfl,V⟩⟩
  .rw[i_]at y;omega
 .refine⟨_,bf (eY (n:=n) g rfl (f H rfl) (.vK (.m (H.get .nodes _ rfl))) (by simp[x,t,s];omega) (by omega)) (qc g rfl P (O g rfl) bC) rA,λy=>?_,λ_=>H⟩
  rw[aM]at y;omega
end
theorem C3:∀{l m:Yb},(l.Pairwise λa b=>wX a b=true)->(m.Pairwise λa b=>wX a b=true)->(∀x,x∈l↔x∈m)->l=m
 |[],[],_,_,_=>rfl
 |[],b::m,_,_,h=>absurd ((h b).mpr (.head _)) (by simp)
 |a::l,[],_,_,h=>absurd ((h a).mp (.head _)) (by simp)
 |a::l,b::m,g,i,h=>by
  let⟨d,j⟩:=gZ.mp g;let⟨f,k⟩:=gZ.mp i;have e:a=b:=by
   rcases aG.mp ((h a).mp (.head _))with e|n
   .exact e
   rcases aG.mp ((h b).mpr (.head _))with e|o
   .exact e.symm
   have:=IK (d b o) (f a n);rw[n9]at this;cases this
  subst e;rw[C3 j k λx=>?_];have:=h x;simp only[aG]at this;constructor
  .intro c
   rcases this.mp (.inr c)with rfl|q
   .have:=d x c;rw[n9]at this;cases this
   .exact q
  .intro c
   rcases this.mpr (.inr c)with rfl|q
   .have:=f x c;rw[n9]at this;cases this
   .exact q
def lZ:=@C3
def zo(N:Nat)(l:X8):X8:=(List.range N).filter λx=>decide (x∈l)
theorem Gp(N:Nat)(p:Nat->Bool):(vG ((List.range N).filter p)).Pairwise λa b=>wX a b=true:=by
 unfold vG;rw[b5];exact(eB).filter p |>.imp λh=>by simp[wX];exact h
theorem L7:d∈vG l↔∃x∈l,d= .int x:=by
 unfold vG;rw[aa];exact⟨λ⟨x,a,b⟩=>⟨x,a,b.symm⟩,λ⟨x,a,b⟩=>⟨x,a,b.symm⟩⟩
def nB:=@L7
theorem OT(a:∀x∈l,x<N):x∈zo N l↔x∈l:=by
 unfold zo;simp only[aV,aZ,aM];exact⟨λh=>h.2,λh=>⟨a x h,h⟩⟩
def tT:=@OT
theorem PE.Ug(n:we 14 A)(o:c.scope=S)(v:GI S "sorted")(j:GI S "set")(h:PE w A c z q (eval e c) d)(hd:xA q d (vG l))(s:∀x∈l,x<N)(P:l.length<64)(C:A7 e c:=by rfl)(E:Ns1 f e c:=by rfl)(F:A7 (.Call (.Name "set" t) [e] [] f) c:=by rfl)(G:Ns1 m (.Call (.Name "set" t) [e] [] f) c:=by rfl):
 PE w A c z q (eval (.Call (.Name "sorted" p) [.Call (.Name "set" t) [e] [] f] [] m) c) (.vK (vG (zo N l))):=by
 refine pJ ((j8 (n.mono (by omega)) (ki o v) (CE.set n (Nl o j) h hd (λQ g R _=>Ds (VV w)) (λd ⟨k,e⟩=>by subst e;exact⟨rfl,rfl⟩) trivial
  (λd i=>let⟨x,_,e⟩:=nB.mp i;⟨x,e⟩) (by rw[bh];omega) (by omega) C E) (λH u=>⟨λ_=>.inl ⟨0,.inl rfl,λd i=>?_⟩,?_⟩) F G).mono λr M ⟨e1,H,⟨I,L,T⟩,S⟩=>⟨?_,e1⟩)
 .obtain⟨x,_,rfl⟩:=nB.mp ((u.1 d).mp i);rfl
 .have:=u.2.2;rw[bh]at this;omega
 .refine lZ (S.BP (L rfl)) (Gp _ _) λx=>?_
  rw[S.perm.mem_iff,I,nB,nB];exact⟨λ⟨y,a,b⟩=>⟨y,(tT s).mpr a,b⟩,λ⟨y,a,b⟩=>⟨y,(tT s).mp a,b⟩⟩
def pn:=@PE.Ug
theorem Vn{w:Yz}:wO w 556 "bank":={}
def r8:=@Vn
theorem Qg{w:Yz}:wO w 556 "unions":={}
def kj:=@Qg
theorem S6{w:Yz}:wO w 556 "edges":={}
def sA:=@S6
theorem CZ{w:Yz}:wO w 556 "forest":={}
theorem Fg{w:Yz}:wO w 556 "known":={}
theorem S7{w:Yz}:wO w 556 "above":={}
def iT:=@S7
theorem MY{w:Yz}:wO w 556 "waiting":={}
def rO:=@MY
theorem Cb{w:Yz}:wO w 556 "backs":={}
theorem MZ{w:Yz}:wO w 556 "changes":={}
def nF:=@MZ
theorem Ff{w:Yz}:wO w 556 "marks":={}
theorem Vm{w:Yz}:wO w 556 "made":={}
def B_:Fd 408:=⟨_,rfl⟩
theorem OF{w:Yz}:wK w 408 B_.1 ["self","n"]:=.ok B_
theorem Ks{w:Yz}:wA w 556 "find" 408:={}
def B6:Fd 379:=⟨_,rfl⟩
theorem Oz{w:Yz}:wK w 379 B6.1 ["self"]:=.ok B6
theorem Kr{w:Yz}:wA w 556 "size" 379:={}
def E4:Fd 384:=⟨_,rfl⟩
theorem OA{w:Yz}:wK w 384 E4.1 ["self","n"]:=.ok E4
theorem RX{w:Yz}:wA w 556 "node" 384:={}
def Ge:Fd 389:=⟨_,rfl⟩
theorem UN{w:Yz}:wK w 389 Ge.1 ["self","op","numbers"]:=.ok Ge
theorem Tp{w:Yz}:wA w 556 "add" 389:={}
def Ga:Fd 394:=⟨_,rfl⟩
theorem UA{w:Yz}:wK w 394 Ga.1 ["self","term"]:=.ok Ga
theorem Tj{w:Yz}:wA w 556 "put" 394:={}
def E3:Fd 422:=⟨_,rfl⟩
theorem Ow{w:Yz}:wK w 422 E3.1 ["self","a","b","reason"]:=.ok E3
theorem RW{w:Yz}:wA w 556 "merge" 422:={}
def CO:Fd 436:=⟨_,rfl⟩
theorem LR{w:Yz}:wK w 436 CO.1 ["self"]:=.ok CO
theorem O3{w:Yz}:wA w 556 "settle" 436:={}
def Aw:Fd 457:=⟨_,rfl⟩
theorem HN{w:Yz}:wK w 457 Aw.1 ["self","c"]:=.ok Aw
theorem Jm{w:Yz}:wA w 556 "members" 457:={}
def Av:Fd 462:=⟨_,rfl⟩
theorem HM{w:Yz}:wK w 462 Av.1 ["self","c"]:=.ok Av
theorem Jl{w:Yz}:wA w 556 "nodes_of" 462:={}
def E2:Fd 481:=⟨_,rfl⟩
theorem Ou{w:Yz}:wK w 481 E2.1 ["self","c"]:=.ok E2
theorem RT{w:Yz}:wA w 556 "users" 481:={}
def IF:Fd 518:=⟨_,rfl⟩
theorem Rz{w:Yz}:wK w 518 IF.1 ["self"]:=.ok IF
theorem UT{w:Yz}:wA w 556 "push" 518:={}
def Ni:Fd 525:=⟨_,rfl⟩
theorem UB{w:Yz}:wK w 525 Ni.1 ["self"]:=.ok Ni
theorem Wb{w:Yz}:wA w 556 "pop" 525:={}
def AP:Fd 546:=⟨_,rfl⟩
theorem LO{w:Yz}:wK w 546 AP.1 ["self","n"]:=.ok AP
theorem OZ{w:Yz}:wA w 556 "unmake" 546:={}
def CN:Fd 553:=⟨_,rfl⟩
theorem LP{w:Yz}:wK w 553 CN.1 ["self","change"]:=.ok CN
theorem O0{w:Yz}:wA w 556 "unjoin" 553:={}
def zB:Fd 533:=⟨_,rfl⟩
theorem Kp{w:Yz}:wA w 556 "look_at" 533:={}
def zC:Fd 541:=⟨_,rfl⟩
theorem Kq{w:Yz}:wA w 556 "join" 541:={}
def B7:Fd 401:=⟨_,rfl⟩
theorem OB{w:Yz}:wK w 401 B7.1 ["self","n"]:=.ok B7
def B8:Fd 429:=⟨_,rfl⟩
theorem OD{w:Yz}:wK w 429 B8.1 ["self","a","b","reason"]:=.ok B8
theorem Wg{w:Yz}:wA w 186 "op" 143:={}
theorem Ku{w:Yz}:wA w 186 "kids" 150:={}
theorem RY{w:Yz}:wA w 186 "take" 110:={}
theorem UU{w:Yz}:wA w 186 "cut" 136:={}
theorem Wf{w:Yz}:wA w 186 "size" 105:={}
theorem RU{w:Yz}:wA w 354 "make" 297:={}
theorem Ti{w:Yz}:wA w 354 "size" 304:={}
theorem O1{w:Yz}:wA w 354 "merge" 318:={}
theorem RV{w:Yz}:wA w 354 "back" 344:={}
theorem US{w:Yz}:wA w 354 "cut" 351:={}
theorem P_{K V:Type}[DecidableEq K]{l:List (K×V)}{k:K}{v:V}(h:vJ l k=some v):(k,v)∈l:=by
 unfold vJ at h;obtain⟨p,c,d⟩:=bu.mp h;have e:=p5 c;have f:=kL c;obtain⟨a,b⟩:=p;simp at e d;subst e d;exact f
def fG:=@P_
structure Af(X:HX):Prop where
 u:BQ X
 b:S_ X
 n:X.vB.length=X.up.length
 z:X.up.length<=50
 k:∀n,n<X.up.length->∀k∈(X.row n).2,k<X.up.length
 kl:∀n,(X.row n).2.length<=2
 rt:∀c,c<X.up.length->X.vQ (X.vQ c)=X.vQ c
 us:∀c,c<X.up.length->∃i,vJ X.vE (X.vQ c)=some i
 ul:∀c,c<X.up.length->(X.us (X.uid (X.vQ c))).length<=60/\∀x∈X.us (X.uid (X.vQ c)),x<X.up.length
 lt:∀c,c<X.up.length->∀x∈X.vI.getD (X.vQ c) [],x<X.up.length
 l8:∀c,c<X.up.length->(X.vI.getD (X.vQ c) []).length<=13
section
variable{X:HX}
theorem wg.ph(H:wg g i X F)(h:PE w A b j g (eval e b) (.ref (i .heap)))(k:wO w 556 a)(l:(yD i X).lookup a=some d)(m:eval (.Attribute e a f) b=(do
  let o <-eval e b
  standAt f.atName
  let r <-holding [o] (getAttr o a true)
  letTemporaryGo e o r
  pure r):=by with_unfolding_all rfl):PE w A b j g (eval (.Attribute e a f) b) d:=
 jG h (H.get .heap _ rfl) (H.get .wN _ rfl) k l m
theorem G6(H:HW d e X)(b:BQ X)(f:a<X.up.length):PF w 2 (.ref 408) [.ref (e .heap),.int a] d (.int (X.vQ a)):=by
 refine eF (f9 OF λA h g c=>?_);exact bQ (cH (dQ (jG (O c.scope rfl) (H .heap (by simp) _ rfl) (H .wN (by simp) _ rfl) kj rfl) (H .yE (by simp) _ rfl) (H .zO (by simp) _ rfl) m_find rfl EI.2 (bq rfl (O c.scope rfl)) (KR H b.up (by have:=b.z;omega) f) g) ⟨rfl,cN _⟩)
theorem wg.find(H:wg k n X F)(b:BQ X)(p:we 2 A){a:Nat}(h:PE w A d m k (eval o d) (.ref (n .heap)))(q:PE w A d m k (eval e d) (.int a))(r:a<X.up.length)(s:A7 e d:=by rfl)(g:attributeBase o "find" d (eval o d)=eval o d:=by rfl)(l:Ns1 f e d:=by rfl)(hf:methodCallForm ([e].length+([]:List Keyword).length) (backTo f (starEach [e] d)) (backToKw f (keywordEach [] d))=true:=by rfl)(i:(j.endLine==f.line)=true:=by rfl):
 PE w A d m k (eval (.Call (.Attribute o "find" j) [e] [] f) d) (.int (X.vQ a)):=
 dQ h (H.get .heap _ rfl) (H.get .wN _ rfl) Ks rfl B_.2 (bq s q) (G6 H.hw b r) p g l hf i
theorem G0(H:wg a b X F)(c:X.vB.length<=1000):PF w 2 (.ref 379) [.ref (b .heap)] a (.int X.vB.length):=by
 refine eF (je Oz λA f d e=>?_);exact bQ (cH (dQ (H.ph (O e.scope rfl) r8 rfl) (H.get .yh _ rfl) (H.get .yP _ rfl) Wf rfl E5.2 bG (P5 H c) d) ⟨rfl,cN _⟩)
theorem Pg(H:wg i j X F)(a:BQ X)(f:X.vB.length<=1000){n:Nat}(g:n<X.vB.length)(l:∀k∈(X.row n).2,k<X.up.length)(s:(X.row n).2.length<=50):PF w 3 (.ref 384) [.ref (j .heap),.int n] i (vP (X.sig n)):=by
 refine eF (f9 OA λA q c m=>?_);have b:=m.scope;have o:=c.handled;refine bQ (cH (cI (bK (bq rfl (dQ (H.ph (O b rfl) r8 rfl) (H.get .yh _ rfl) (H.get .yP _ rfl) Wg rfl TU.2 (bq rfl (O b rfl)) (VZ H f g) (c.mono (by omega)))))
  (jx b rfl (jq (ds:=vG ((X.row n).2.map X.vQ)) ((jT (X.row n).2 (λx=>.int x) (λx=>.int (X.vQ x)) b ⟨by rfl,by rfl,by decide+kernel,by rfl,by rfl⟩
   (eW o (dQ (H.ph (O b rfl) r8 rfl) (H.get .yh _ rfl) (H.get .yP _ rfl) Ku rfl EH.2 (bq rfl (O b rfl)) (KG H f g (by omega)) (c.mono (by omega))) (.inr (.inl rfl))) trivial rfl (by omega) λh d x p=>?_).mono λt r e=>⟨by rw[e.1];simp[vG],e.2⟩)) .f (by rw[bh];simp;omega)) (qy (by rw[bh];simp;omega))) ⟨rfl,cN _⟩)
 exact⟨_,fP d rfl rfl,H.find a c (O d rfl) (O d rfl) (l x p)⟩
theorem wg.node(H:wg j p X F)(a:BQ X)(q:X.vB.length<=1000)(r:we 3 A)(s:n<X.vB.length)(t:∀k∈(X.row n).2,k<X.up.length)(u:(X.row n).2.length<=50)(h:PE w A b m j (eval o b) (.ref (p .heap)))(v:PE w A b m j (eval e b) (.int n))(x:A7 e b:=by rfl)(f:attributeBase o "node" b (eval o b)=eval o b:=by rfl)(l:Ns1 d e b:=by rfl)(hf:methodCallForm ([e].length+([]:List Keyword).length) (backTo d (starEach [e] b)) (backToKw d (keywordEach [] b))=true:=by rfl)(g:(i.endLine==d.line)=true:=by rfl):
 PE w A b m j (eval (.Call (.Attribute o "node" i) [e] [] d) b) (vP (X.sig n)):=
 dQ h (H.get .heap _ rfl) (H.get .wN _ rfl) RX rfl E4.2 (bq x v) (Pg H a q s t u) r f l hf g
theorem HS(H:wg d e X F)(b:Af X)(f:a<X.up.length)(g:m.Perm (X.vI.getD (X.vQ a) []))(h:m.Pairwise (·<=·)):PF w 3 (.ref 457) [.ref (e .heap),.int a] d (.vK (vG m)):=by
 refine eF (f9 HN λA j i c=>?_);exact bQ (cH (dQ (H.ph (O c.scope rfl) kj rfl) (H.get .yE _ rfl) (H.get .zO _ rfl) Eb rfl Ae.2 (bq rfl (O c.scope rfl)) (Dg H b.u f g h) i) ⟨rfl,cN _⟩)
theorem Lh(a:Af X){c:Nat}(d:c<X.up.length):(D.int (X.vQ c),D.ref (e (.vU (X.uid (X.vQ c)))))∈zx e X.vE:=by
 let⟨i,b⟩:=a.us c d;refine aa.mpr ⟨(X.vQ c,i),fG b,?_⟩;have:X.uid (X.vQ c)=i:=by unfold HX.uid;rw[b];rfl
 rw[this]
theorem T9(a:Af X)(b:Cj X){c:Nat}(e:c<X.up.length):X.uid (X.vQ c)<X.vU.length:=by
 let⟨i,d⟩:=a.us c e;have:X.uid (X.vQ c)=i:=by unfold HX.uid;rw[d];rfl
 rw[this];exact b.u _ (fG d)
theorem O9:wG 0 (zx b X.vE):=λp a=>by obtain⟨q,_,rfl⟩:=aa.mp a;rfl
def k_:=@O9
theorem Ml(H:wg f g X F)(b:Af X){a:Nat}(c:a<X.up.length):PF w 15 (.ref 481) [.ref (g .heap),.int a] f (.vK (vG (zo X.up.length (X.us (X.uid (X.vQ a)))))):=by
 refine eF (f9 Ou λA i e h=>?_);have d:=h.scope;exact bQ (cH (pn e d rfl rfl (nP (H.ph (O d rfl) iT rfl) (H.find b.u (e.mono (by omega)) (O d rfl) (O d rfl) c) (qe e (.m (H.get .vE _ rfl)) (oZ _) k_ (Lh b c)) (.inr (.inl ⟨_,.m (H.get .vE _ rfl)⟩))) (.m (H.vU (T9 b H.ids c))) (b.ul a c).2 (by have:=(b.ul a c).1;omega)) ⟨rfl,cN _⟩)
theorem N9(h:PyData.strOk r.1=true):yQ (vP r):=⟨jQ h,_,rfl,λe a=>by
 rcases aG.mp a with rfl|a
 .exact .inr rfl
 .obtain⟨x,_,rfl⟩:=nB.mp a;exact .inl rfl⟩
theorem Kl:∀(l m:X8),FN (vG l) (vG m)=true
 |[],_=>by simp[vG,FN]
 |_::_,[]=>by simp[vG,FN]
 |a::l,b::m=>by
  show(D.ok (.int a) (.int b)&&FN (vG l) (vG m))=true;rw[Kl l m];rfl
theorem Uy(r s:Row):(vP r).ok (vP s)=true:=by
 show(D.ok (.str r.1) (.str s.1)&&FN (vG r.2) (vG s.2))=true;rw[Kl];rfl
theorem J9:∀{r:Yb},(∀x∈r,∃s:Row,x=vP s)->∃a:Yg,r=a.map vP
 |[],_=>⟨[],rfl⟩
 |x::r,h=>by
  obtain⟨s,rfl⟩:=h _ (.head _);obtain⟨a,rfl⟩:=J9 λy b=>h y (.tail _ b);exact⟨s::a,rfl⟩
theorem HO(H:wg W nm X F)(f:Af X)(M:a<X.up.length):CF w 15 (.ref 462) [.ref (nm .heap),.int a] W λd o=>o=W/\∃j:Yg,d= .vK (j.map vP)/\(∀s,s∈j↔∃n∈X.vI.getD (X.vQ a) [],s=X.sig n)/\j.length<=13:=by
 refine f9 HM λA a0 p N=>?_;have u:=N.scope;have hA:=p.handled;have hz:=f.n;have R:=f.l8 a M;obtain⟨m,v,T⟩:∃m,m.Perm (X.vI.getD (X.vQ a) [])/\m.Pairwise (·<=·):=⟨(X.vI.getD (X.vQ a) []).mergeSort,List.mergeSort_perm _ _,by
  have:=List.pairwise_mergeSort (le:=λa b=>decide (a<=b)) (λa b c G I=>by simp at*;omega) (λa b=>by simp;omega) (X.vI.getD (X.vQ a) []);exact this.imp λh=>by simpa using h⟩
 have b0:m.length<=13:=by rw[v.length_eq];exact R
 have y:∀x∈m,x<X.up.length:=λx i=>f.lt a M x (v.mem_iff.mp i);have z:∀x∈m,PyData.strOk (X.sig x).1=true:=λx i=>f.b.s (X.row x) (by
  have:=y x i;rw[<-hz]at this;unfold HX.row;simp[this])
 have E:∀s,s∈m.map X.sig↔∃n∈X.vI.getD (X.vQ a) [],s=X.sig n:=λs=>by
  rw[aa];exact⟨λ⟨n,G,I⟩=>⟨n,v.mem_iff.mp G,I.symm⟩,λ⟨n,G,I⟩=>⟨n,v.mem_iff.mpr G,I.symm⟩⟩
 refine bQ (oX (qw ((j8 (P:=λL=>(∀x,x∈L↔x∈(m.map X.sig).map vP)/\L.length<=13) (p.mono (by omega)) (ki u rfl) ((CE.set p (Nl u rfl) (jq ((jT m (λx=>.int x) (λx=>vP (X.sig x)) u ⟨by rfl,by rfl,by decide+kernel,by rfl,by rfl⟩
  (eW hA (dQ (O u rfl) (H.get .heap _ rfl) (H.get .wN _ rfl) Jm rfl Aw.2 (bq rfl (O u rfl)) (HS H f M v T) (p.mono (by omega))) (.inl rfl)) trivial rfl (by omega) λY P x i=>?_).mono λt o e=>⟨e.1,e.2⟩)) .f (λA' g ρ h8=>MX h8) (λd hd=>⟨tF hd.pl.1 (by omega),hd.pl.2⟩) ?_ (λd hd=>?_) (by simp;omega) (by omega)).mono λl q=>⟨λx=>by rw[q.1,bD];rfl,by have:=q.2.2;simp at this;omega⟩) (λL k=>⟨λ_=>.inr ⟨1,λd hd=>?_,λd hd e N=>?_⟩,by omega⟩)).mono λr o ⟨e1,L,k,S⟩=>?_)))
 .have:=y x i
  exact⟨_,fP P rfl rfl,H.node f.u (by have:=f.z;omega) (p.mono (by omega)) (by omega) (f.k x this) (by have:=f.kl x;omega) (O P rfl) (O P rfl)⟩
 .exact⟨.inl rfl,λ_=>by decide,by decide⟩
 .obtain⟨x,i,rfl⟩:=aa.mp hd
  exact N9 (z x i)
 .obtain⟨s,C,rfl⟩:=aa.mp ((k.1 d).mp hd)
  obtain⟨x,i,rfl⟩:=aa.mp C;exact⟨jQ (z x i),_,_,rfl,rfl⟩
 .obtain⟨s,C,rfl⟩:=aa.mp ((k.1 d).mp hd)
  obtain⟨s2,c0,rfl⟩:=aa.mp ((k.1 e).mp N);exact Uy _ _
 .subst e1
  have V:∀x∈r,∃s,x=vP s:=λx i=>by
   let⟨s,_,e⟩:=aa.mp ((k.1 x).mp (S.perm.mem_iff.mp i));exact⟨s,e.symm⟩
  obtain⟨j,rfl⟩:=J9 V;refine⟨rfl,j,rfl,λs=>?_,?_⟩
  .rw[<-E]
   have:=k.1 (vP s);rw[<-S.perm.mem_iff]at this;have i1:vP s∈j.map vP↔s∈j:=⟨λh=>by let⟨t,Q,e⟩:=aa.mp h;exact gc _ _ e▸Q,λh=>b9 h⟩;have i2:vP s∈(m.map X.sig).map vP↔s∈m.map X.sig:=⟨λh=>by let⟨t,Q,e⟩:=aa.mp h;exact gc _ _ e▸Q,λh=>b9 h⟩;rw[i1,i2]at this;exact this
  .have:=S.perm.length_eq;have:=k.2;simp at*;omega
end
section
variable{K V:Type}[DecidableEq K]
theorem OU{p:K×V}(h:p∈wJ l k v):p∈l\/p=(k,v):=by
 unfold wJ at h;split at h
 .let⟨q,a,e⟩:=aa.mp h
  split at e
  .rename_i c;subst e;rw[<-c];exact .inr rfl
  .subst e;exact .inl a
 .rcases aB.mp h with h|h
  .exact .inl h
  .exact .inr (aj.mp h)
def lq:=@OU
theorem GH{p:K×V}(h:p∈xT l k):p∈l:=(aV.mp h).1
end
theorem Li(a:Yv)(l:Yi):zx a l=zc (λc:Nat=>D.int c) (λi:Nat=>D.ref (a (.vU i))) l:=rfl
def nD:=@Li
theorem Mh(l:Yw):wZ l=zc vP (λi:Nat=>D.int i) l:=rfl
def j9:=@Mh
theorem wg.hf(H:wg f e X F)(g:b.scope=S)(h:look S.names i x=some (.ref (e .heap)))(j:wO w 556 a)(k:(yD e X).lookup a=some d):PE w A b i f (eval (.Attribute (.Name x p) a l) b) d:=H.ph (O g h) j k
theorem wg.above(H:wg b d X F)(g:we 0 A){c i:Nat}(h:PE w A a f b (eval o a) (.ref (d .vE)))(j:PE w A a f b (eval e a) (.int c))(k:vJ X.vE c=some i)(l:∀o i,subscripted e false o i=operate [o,i] (getItem o i):=by intro _ _;rfl):PE w A a f b (eval (.Subscript o e p) a) (.ref (d (.vU i))):=nP h j (qe g (.m (H.get .vE _ rfl)) (oZ _) k_ (aa.mpr ⟨(c,i),fG k,rfl⟩)) (.inr (.inl ⟨_,.m (H.get .vE _ rfl)⟩)) l
theorem SY(a:Cj X)(h:vJ X.vE c=some i):i<X.vU.length:=a.u _ (fG h)
def oh:=@SY
theorem IW:(zx a l).length=l.length:=by simp[zx]
def l5:=@IW
structure W5(X:HX):Prop where
 e:X.vF.length<=10000
 f:X.vO.length<=10000
 m:X.vN.length<=900
 u:X.vE.length<=10000
 d:∀i,(X.us i).length<=10000
structure Sz(X:HX):Prop extends W5 X where
 k:X.vR.length<=10000
 c:X.vC.length<=10000
 r:X.vH.length<=10000
theorem Pj{r:D}(h:BQ X)(f:W5 X)(ha:a<X.up.length)(hb:b<X.up.length)(a0:X.xj a b=k)(b0:X.w_ a b=g)(hk:vJ X.vE k=some z)(hg:vJ X.vE g=some x):JO w 3 429 .heap [.int a,.int b,r] X (X.yW a b r k g) (.bool (decide (k≠g))):=by
 intro σ E F H;refine CF.Xd OD λA m0 S he=>?_;have o:=he.scope;have hA:=S.handled;let M:HX:={X with vF:=X.vF++[(a,b,r)]};let y:(Yv)->Md:=λE=>[vr "self" (.ref (E .heap)),vr "a" (.int a),vr "b" (.int b),vr "reason" r];refine aq (M:=λj m=>j=y E/\wg m E M F) (eK o (e_ (H.hf o rfl sA rfl) (H.get .vF _ rfl) ((bK (bI rfl (O o rfl) (bE rfl rfl (O o rfl) (O o rfl)))).g ⟨_,H.get .vF _ rfl,by simp;have:=f.e;omega,rfl,?_⟩))) ?_
 .have:=H.NB (X.vF++[(a,b,r)])
  rw[aL]at this;exact this
 rintro j Q ⟨rfl,H1⟩;have U1:BQ M:=⟨h.up,h.lo,h.z,h.lz⟩;have um:=Lo (w:=w) (X:=M) U1 (a:=a) (b:=b) ha hb (by have:=f.m;show X.vN.length<=1000;omega);rw[show M.xj a b=k from a0,show M.w_ a b=g from b0]at um;let C:HX:=M.Cp k g;refine aq (M:=λj m=>∃u,yU E X u/\wg m u (if k=g then M else C) F/\j=vr "merged" (if k=g then .none else .vV [.int k,.int g])::y u) (fC o rfl (cU (H1.hf o rfl kj rfl) (H1.get .yE _ rfl) (H1.get .zO _ rfl) O1 rfl AQ.2 S
  ((bE rfl rfl (O o rfl) (O o rfl)).gs ((um Q E F H1).room (by omega) |>.mono λd m ⟨e,u,ag,H'⟩=>⟨u,ag.sub (ao _) (ao _),H',by subst e;show _=vr "merged" _::y u;rw[show y u=y E by show[vr "self" (.ref (u .heap)),_,_,_]=_;rw[ag .heap rfl]]⟩)))) ?_
 rintro j c0 ⟨l,V,G,rfl⟩;by_cases e:k=g
 .simp only[B e]at G⊢
  rw[show decide (k≠g)=false by simp[e],show X.yW a b r k g=M by unfold HX.yW;rw[B e]];exact bQ (dH (b:=true) (bf (O o rfl) tQ Tg) (λ_=>bQ (cH kQ ⟨rfl,l,V,G⟩)) λq=>by cases q)
 .simp only[J e]at G⊢
  let s:HX:={C with vO:=C.vO++[C.vF.length-1]};let t:HX:=s.xq s.v8 (s.us s.v8++s.us (s.uid g));let v:HX:={t with vE:=xT t.vE g};let X6:HX:=v.yK (t.us (t.uid k)++t.us (t.uid g));let X7:HX:={X6 with vE:=wJ v.vE k v.vU.length};rw[show decide (k≠g)=true by simp[e],show X.yW a b r k g=X7 by unfold HX.yW;rw[J e]];have d0:t.uid k=z:=by show(vJ X.vE k).getD 0=z;rw[hk];rfl
  have R:s.uid g=x:=by show(vJ X.vE g).getD 0=x;rw[hg];rfl
  have Y:t.uid g=x:=R;let L:(Yv)->Md:=λE=>vr "gone" (.int g)::vr "kept" (.int k)::vr "merged" (.vV [.int k,.int g])::y E;apply aq (M:=λj m=>m=c0/\j=vr "merged" (.vV [.int k,.int g])::y l) (dH (b:=false) (bf (O o rfl) tQ Tg) (λq=>by cases q) λ_=>bw ⟨rfl,rfl⟩);rintro j m ⟨rfl,rfl⟩;apply aq (M:=λj N=>N=m/\j=L l) (bR ((O o rfl).g (kh hA .vV (bZ (ff o rfl (bZ (ff o rfl (gW ⟨rfl,rfl⟩))))))));rintro j N ⟨rfl,rfl⟩;refine aq (M:=λj m=>j=L l/\wg m l s F) (eK o (e_ (G.hf o rfl CZ rfl) (G.get .vO _ rfl) ((cI (eY (n:=C.vF.length) o rfl (G.hf o rfl sA rfl) (.vK (.m (G.get .vF _ rfl))) (by simp) (by have:=f.e;show(X.vF++[_]).length<=_;simp;omega)) bC r7).g ⟨_,G.get .vO _ rfl,by rw[bh];have:=f.f;show X.vO.length<=_;omega,rfl,?_⟩))) ?_
  .have:=G.Kg (C.vO++[C.vF.length-1])
   rw[<-lG]at this;have l0:1<=C.vF.length:=by show 1<=(X.vF++[_]).length;simp
   have e1:D.int ((C.vF.length:Int)-1)= .int ((C.vF.length-1:Nat)):=by congr 1;omega
   rw[e1];exact this
  rintro j n0 ⟨rfl,I⟩;have W:vJ s.vE g=some x:=hg;have e0:vJ s.vE k=some z:=hk;have lw:s.v8<s.vU.length:=I.ids.w;have lg:x<s.vU.length:=oh I.ids W;have lk:z<s.vU.length:=oh I.ids e0;refine aq (M:=λj m=>j=L l/\wg m l t F) (eK o (GE.extend (I.hf o rfl rO rfl) (I.vU lw) (I.above (S.mono (by omega)) (I.hf o rfl iT rfl) (O o rfl) W) (.m (I.vU lg)) (by rw[bh,bh];have h1:=f.d X.v8;have h2:=f.d x;show(X.us X.v8).length+(X.us x).length<=_;omega) ⟨rfl,?_⟩)) ?_
  .rw[lG]
   have:=I.Qy s.v8 (s.us s.v8++s.us x) lw;rw[<-R]at this⊢;exact this
  rintro j o0 ⟨rfl,P⟩;have l4:t.vU.length=s.vU.length:=by simp[t,HX.xq]
  have f0:vJ t.vE k=some z:=hk;have g0:vJ t.vE g=some x:=hg;have z4:∀i,(t.us i).length<=20000:=λi=>by
   have h1:=f.d X.v8;have h2:=f.d x;have h3:=f.d i;show((s.vU.set s.v8 (s.us s.v8++s.us (s.uid g))).getD i []).length<=_;rw[R];by_cases c:i=s.v8
   .subst c
    rw[ah,cZ lw];simp only[jz,aF];show(X.us X.v8).length+(X.us x).length<=_;omega
   .rw[ah,cy (fY c),<-ah]
    show(X.us i).length<=_;omega
  refine aq (M:=λj m=>∃u,yU l t u/\wg m u X7 F/\j=L l) (bR (GE.Xp ((P.above (S.mono (by omega)) (P.hf o rfl iT rfl) (O o rfl) f0).ge) λd1 Q ⟨e1,e2⟩=>by
   subst e1 e2;refine GE.Vx S (P.hf o rfl iT rfl) (P.get .vE _ rfl) ((O o rfl).g ⟨_,.ref (l (.vU x)),P.get .vE _ rfl,oZ g,k_,aa.mpr ⟨(g,x),fG g0,rfl⟩,by rw[l5];have:=f.u;show X.vE.length<=_;omega,?_⟩);have H5:wg (Q.put (l .vE) (.wc (A9 (zx l t.vE) (.int g)))) l v F:=by
    have:=P.A_ (xT t.vE g) (λp hp=>P.ids.u p (GH hp));rw[nD,<-tR j3]at this;exact this
   have h0:z<v.vU.length:=by show z<t.vU.length;omega
   have i0:x<v.vU.length:=by show x<t.vU.length;omega
   refine⟨vG (v.us z),vG (v.us x),.m (H5.vU h0),.m (H5.vU i0),by rw[bh,bh];have h1:=z4 z;have h2:=z4 x;show(t.us z).length+(t.us x).length<=_;omega,λn hn=>?_⟩;rw[lG];let⟨H6,T⟩:=H5.Qz (v.us z++v.us x) hn;have e6:v.yK (v.us z++v.us x)=X6:=by show v.yK _=v.yK (t.us (t.uid k)++t.us (t.uid g));rw[d0,Y];rfl
   rw[e6]at H6;have hh:x9 l (.vU v.vU.length) n .heap=l .heap:=T .heap rfl;have hu:x9 l (.vU v.vU.length) n .vE=l .vE:=T .vE rfl;refine fj S (H6.ph (O o (by rw[hh];rfl)) iT rfl) (O o rfl) (H6.get .vE _ rfl) (oZ k) k_ (by rw[l5];have:=f.u;show(xT X.vE g).length<=_;exact bg (cP _ _) (by omega)) ⟨_,T.sub (ao _) (ao _),?_,rfl⟩;have:=H6.A_ (wJ v.vE k v.vU.length) (λp hp=>by
    have l6:X6.vU.length=v.vU.length+1:=by simp[X6,HX.yK]
    rcases lq hp with q|q
    .have:=H5.ids.u p q;omega
    .rw[q,l6];exact dK _)
   rw[nD (x9 l (.vU v.vU.length) n),<-iA j3]at this;rw[iW]at this;exact this)) ?_
  rintro j p0 ⟨j0,k0,H7,rfl⟩;exact bQ (cH kQ ⟨rfl,j0,V.trans k0 (by show X.vI.length<=(X.vI.set _ _).length;simp) (by rw[l4];exact ao _),H7⟩)
theorem CF.Xv(o:AF w a d b i)(h:∀A c,we n A->yX d a c->c.cells.lookup ("__class__":Str)=some i->ST w A c (b.zip [j]) k (xm d.body) (execs (xm d.body) c) (λ_ g=>P .none g) P)(l:∀f,bindArgs d ⟨[f],[]⟩=pure (b.zip [f]):=by intros;rfl):CF w (n+1) (.ref a) [j] k P:=CF.Xb o (λm e=>by match m,e with|[f],_=>exact l f) h
theorem CF.Xu(o:AF w a d b j)(h:∀A c,we n A->yX d a c->c.cells.lookup ("__class__":Str)=some j->ST w A c (b.zip [k,l]) m (xm d.body) (execs (xm d.body) c) (λ_ i=>P .none i) P)(p:∀f g,bindArgs d ⟨[f,g],[]⟩=pure (b.zip [f,g]):=by intros;rfl):CF w (n+1) (.ref a) [k,l] m P:=CF.Xb o (λq e=>by match q,e with|[f,g],_=>exact p f g) h
theorem CF.Xs(o:AF w a d b l)(h:∀A c,we n A->yX d a c->c.cells.lookup ("__class__":Str)=some l->ST w A c (b.zip [m,p,q,r]) s (xm d.body) (execs (xm d.body) c) (λ_ k=>P .none k) P)(t:∀f g i j,bindArgs d ⟨[f,g,i,j],[]⟩=pure (b.zip [f,g,i,j]):=by intros;rfl):CF w (n+1) (.ref a) [m,p,q,r] s P:=CF.Xb o (λu e=>by match u,e with|[f,g,i,j],_=>exact t f g i j) h
def VI(b:FuncData)(a:Ye):Bool:=
 (match b.body with| .stmts _=>true| .expr _=>false)&&b.globals==mainGlobals&&b.builtins==builtinsNs&&b.scope.kind==.function&&!b.scope.isCoroutine&&!b.scope.isGenerator&&
  (b.scope.names.all λp=>p.2 !=.cell&&(p.2 !=.free||p.1=="__class__"))&&(b.scope.names.lookup ("__classdict__":Str)).isNone&&decide a.Nodup&&(a.all λx=>b.scope.names.lookup x==some .local)
theorem AF.of(k:BI w a f)(c:codeIn (KF w) f.code f.qualname=true)(Qo:f.closure=[(("__class__":Str),j)])(cell:((KF w).lookup j).isSome=true)(h:VI f d=true):AF w a f d j:=by
 simp only[VI,bN,aM,gD,jk,iN]at h;let⟨⟨⟨⟨⟨⟨⟨⟨⟨l,m⟩,n⟩,o⟩,p⟩,q⟩,r⟩,s⟩,g⟩,i⟩:=h;refine⟨k,c,?_,Qo,m,n,o,p,q,r,s,g,i,cell⟩;cases t:f.body with
 |stmts b=>rfl
 |expr e=>rw[t]at l;cases l
theorem LV{w:Yz}:AF w 541 zC.1 ["self","a","b","reason"] 492:=.of zC.2 rfl rfl rfl (by decide+kernel)
theorem LU{w:Yz}:AF w 533 zB.1 ["self","n"] 492:=.of zB.2 rfl rfl rfl (by decide+kernel)
theorem NW{w:Yz}:J2 w 541 zC.1 zC.1.scope 492 556 556 "join" 429 B8.1 where
 k:=zC.2
 sc:=rfl
 Qo:=by rfl
 hks:=by rfl
 hkc:=by rfl
 hka:=by rfl
 hk:=by rfl
 hat:=by rfl
 hp:=⟨_,by rfl,by rfl⟩
 W2:=⟨_,_,_,_,_,_,_,by rfl,by rfl,by rfl,by rfl⟩
 top:=by rfl
 cell:=⟨_,_,_,by rfl⟩
 hD:=⟨_,by rfl⟩
 hC:=⟨_,by rfl,by kernel_rfl⟩
 sub:=by kernel_rfl
 any:=by kernel_rfl
 sup:=by kernel_rfl
 k2:=B8.2
theorem NV{w:Yz}:J2 w 533 zB.1 zB.1.scope 492 556 556 "look_at" 401 B7.1 where
 k:=zB.2
 sc:=rfl
 Qo:=by rfl
 hks:=by rfl
 hkc:=by rfl
 hka:=by rfl
 hk:=by rfl
 hat:=by rfl
 hp:=⟨_,by rfl,by rfl⟩
 W2:=⟨_,_,_,_,_,_,_,by rfl,by rfl,by rfl,by rfl⟩
 top:=by rfl
 cell:=⟨_,_,_,by rfl⟩
 hD:=⟨_,by rfl⟩
 hC:=⟨_,by rfl,by kernel_rfl⟩
 sub:=by kernel_rfl
 any:=by kernel_rfl
 sup:=by kernel_rfl
 k2:=B7.2
theorem Iq{w:Yz}:yi w 556 "made":={}
section
variable{X:HX}
theorem O8(c:Af X)(f:a<X.up.length)(g:b<X.up.length):(∃i,vJ X.vE (X.xj a b)=some i)/\∃i,vJ X.vE (X.w_ a b)=some i:=by
 have d:=c.us a f;have e:=c.us b g;unfold HX.xj HX.w_;rcases iJ (X.vQ a) (X.vQ b)with h|h
 .rw[iV h,gQ h];exact⟨d,e⟩
 .rw[iL h,g_ h];exact⟨e,d⟩
theorem GN(c:Af X)(f:Sz X)(x:a<X.up.length)(y:b<X.up.length):JO w 4 541 .heap [.int a,.int b,r] X (X.join a b r) (.bool (decide (X.xj a b≠X.w_ a b))):=by
 intro T z F H;refine CF.Xs LV λA a0 t Q G=>?_;have h:=Q.scope;have V:=t.handled;have R:=Te (X.vQ a) (X.vQ b);let⟨⟨v,l⟩,C,m⟩:=O8 c x y;generalize n:X.xj a b=k at*;generalize o:X.w_ a b=g at*;have I:X.uid k=v:=by unfold HX.uid;rw[l];rfl
 have L:X.uid g=C:=by unfold HX.uid;rw[m];rfl
 let u:Md:=[vr "self" (.ref (z .heap)),vr "a" (.int a),vr "b" (.int b),vr "reason" r];let s:Md:=vr "gone" (.int g)::vr "kept" (.int k)::u;refine nj (M:=λi j=>j=T/\i=s) (tG (bR ((uW h rfl (gV (bE rfl rfl (H.find c.u (t.mono (by omega)) (O h rfl) (O h rfl) x) (H.find c.u (t.mono (by omega)) (O h rfl) (O h rfl) y))) .f R.1 R.2 (by simp)).g
  (kh V (.vK .f) (bZ (ff h rfl (bZ (ff h rfl (gW ⟨rfl,by rw[show s=vr "gone" (.int g)::vr "kept" (.int k)::u from rfl,<-n,<-o];rfl⟩))))))))) ?_
 rintro i j ⟨rfl,rfl⟩;let E:HX:={X with vC:=X.vC++[A3.wY k (X.us v).length g C]};have M:=H.vU (oh H.ids l);refine nj (M:=λi j=>i=s/\wg j z E F) (tG (eK h (e_ (H.hf h rfl nF rfl) (H.get .vC _ rfl) ((bK (bI rfl cS (bI rfl (O h rfl) (bI rfl
  (eY h rfl (H.above (t.mono (by omega)) (H.hf h rfl iT rfl) (O h rfl) l) (.vK (.m M)) bh (by have:=f.d v;omega)) (bE rfl rfl (O h rfl) (H.above (t.mono (by omega)) (H.hf h rfl iT rfl) (O h rfl) m)))))).g ⟨_,H.get .vC _ rfl,by simp;have:=f.c;omega,rfl,?_⟩)))) ?_
 .have:=H.AO (X.vC++[A3.wY k (X.us v).length g C]) (λp W=>by
   rcases aB.mp W with q|q
   .exact H.ids.c p q
   .rw[aj.mp q];exact oh H.ids m)
  rw[aL]at this;exact this
 rintro i N ⟨rfl,S⟩;have Y:X.join a b r=E.yW a b r k g:=by unfold HX.join;rw[n,o];dsimp only;rw[I,L]
 rw[Y];refine nj (M:=λ_ _=>False) (ST.ret (GT.super NW Q G rfl (S.get .heap _ rfl) t (eZ (bI rfl (O h rfl) (bE rfl rfl (O h rfl) (O h rfl))) ((Pj (X:=E) ⟨c.u.up,c.u.lo,c.u.z,c.u.lz⟩ ⟨f.e,f.f,f.m,f.u,f.d⟩ x y n o l m) N z F S |>.mono λd j ⟨e,P,ag,H'⟩=>⟨e,P,ag.sub (ao _) (ao _),H'⟩)))) λ_ _ q=>q.elim
def FT(X:HX):Prop:=∀p∈X.vR,PyData.strOk p.1.1=true/\p.2<X.up.length
theorem CD(h:FT X):wG 2 (wZ X.vR):=λp a=>by obtain⟨q,b,rfl⟩:=aa.mp a;exact jQ (h q b).1
theorem Nu(a:Af X)(b:n<X.up.length):PyData.strOk (X.sig n).1=true:=a.b.s (X.row n) (by
 rw[<-a.n]at b;unfold HX.row;simp[b])
theorem JF:ze (wZ X.vR) (vP s)=(vJ X.vR s).map λi=>D.int (i:Nat):=by rw[j9,lA gc]
def uZ:=@JF
theorem Jx:(wZ l).length=l.length:=by simp[wZ]
theorem P9{K V:Type}[DecidableEq K]{l:List (K×V)}{k:K}{v:V}(h:vJ l k=none):wJ l k v=l++[(k,v)]:=by
 unfold wJ;rw[J λq=>?_];obtain⟨p,a,e⟩:=aa.mp q;unfold vJ at h;rw[d_,gf]at h;exact h p a (by simp[e])
def qz:=@P9
theorem Ph{X:HX}(a:Af X)(b:Sz X)(K:FT X){n:Nat}(u:n<X.up.length):JO w 5 401 .heap [.int n] X (X.x_ n) .none:=by
 intro R m F H;refine f9 OB λA P p G=>?_;have c:=G.scope;have S:=a.n;have Q:=a.z;let v:Md:=[vr "self" (.ref (m .heap)),vr "n" (.int n)];have I:=jQ (Nu a u);refine aq (M:=λi f=>∃(o:Nat) (h:HX),i=vr "other" (.int o)::v/\wg f m h F/\((vJ X.vR (X.sig n)=some o/\h=X)\/(vJ X.vR (X.sig n)=none/\o=n/\h={X with vR:=X.vR++[(X.sig n,n)]})))
  (fC c rfl (GE.C4 p (H.hf c rfl Fg rfl) (H.get .vR _ rfl) (H.node a.u (by omega) (p.mono (by omega)) (by omega) (a.k n u) (by have:=a.kl n;omega) (O c rfl) (O c rfl)) (O c rfl) I (CD K) (by rw[Jx];have:=b.k;omega) (λd hd=>?_) λhd=>?_)) ?_
 .rw[uZ]at hd
  obtain⟨o,L,rfl⟩:=bu.mp hd;exact⟨o,X,rfl,H,.inl ⟨L,rfl⟩⟩
 .rw[uZ,d_]at hd
  refine⟨n,_,rfl,?_,.inr ⟨hd,rfl,rfl⟩⟩;have:=H.Nz (X.vR++[(X.sig n,n)]);rw[j9,<-qz hd,<-iA gc]at this;rw[qz hd]at this;exact this
 rintro i x ⟨o,h,rfl,k,r⟩;have g:h.up=X.up:=by rcases r with⟨_,rfl⟩|⟨_,_,rfl⟩<;>rfl
 have s:h.vI=X.vI:=by rcases r with⟨_,rfl⟩|⟨_,_,rfl⟩<;>rfl
 have z:BQ h:=⟨by rw[g];exact a.u.up,by rw[g,s];exact a.u.lo,by rw[g];exact a.u.z,by rw[s];exact a.u.lz⟩;have C:h.vQ=X.vQ:=by unfold HX.vQ;rw[g]
 have E:o<X.up.length:=by
  rcases r with⟨q,_⟩|⟨_,q,_⟩
  .exact(K _ (fG q)).2
  .omega
 refine aq (M:=λi f=>∃j,yU m X j/\wg f j (X.x_ n) F) (dH (bf (k.find z (p.mono (by omega)) (O c rfl) (O c rfl) (by rw[g];exact E)) (k.find z (p.mono (by omega)) (O c rfl) (O c rfl) (by rw[g];exact u)) F0) (λl=>?_) λl=>?_) λi f ⟨j,M,N⟩=>bw ⟨rfl,j,M,N⟩
 .rw[C]at l
  have t:X.vQ o≠X.vQ n:=λe=>by rw[e]at l;simp at l
  rcases r with⟨q,rfl⟩|⟨_,q,_⟩
  .have e:h.x_ n=h.join o n HX.zh:=by unfold HX.x_;rw[q];exact J t
   rw[e];refine aq (eK c (cU (O c rfl) (k.get .heap _ rfl) (k.get .wN _ rfl) Kq rfl zC.2 p (eZ (bI rfl (O c rfl) (bE rfl rfl (O c rfl) (bK (bq rfl cS)))) ((GN a b E u x m F k).mono λd f q=>q.2)))) λi f q=>bw q
  .exact absurd (by rw[q]) t
 .rw[C]at l
  have y:X.vQ o=X.vQ n:=by
   have:((X.vQ o:Nat):Int)=X.vQ n:=by simpa using l
   omega
  refine bw ⟨m,jI _ _,?_⟩;rcases r with⟨q,rfl⟩|⟨q,_,rfl⟩
  .have e:h.x_ n=h:=by unfold HX.x_;rw[q];exact B y
   rw[e];exact k
  .have e:X.x_ n={X with vR:=X.vR++[(X.sig n,n)]}:=by unfold HX.x_;rw[q]
   rw[e];exact k
theorem Af.congr(a:Af X)(e1:Y.vB=X.vB)(j:Y.yr=X.yr)(l:Y.zm=X.zm)(m:Y.up=X.up)(o:Y.vI=X.vI)(p:Y.vE=X.vE)(q:Y.vU=X.vU):Af Y:=by
 let⟨r,w,x,A,s,vN,e,d,f,g,y,t,h,c,i,v⟩:=Y;simp only at e1 j l m o p q;subst e1 j l m o p q;exact⟨⟨a.u.up,a.u.lo,a.u.z,a.u.lz⟩,⟨a.b.s,a.b.w,a.b.d,a.b.z,a.b.b⟩,a.n,a.z,a.k,a.kl,a.rt,a.us,a.ul,a.lt,a.l8⟩
theorem GL(g:Af X)(b:Sz X)(hc:X.vC.length<=9990)(K:FT X)(hn:n<X.up.length):JO w 6 533 .heap [.int n] X (X.look n) .none:=by
 intro σ M F H;refine CF.Xu LU λA d0 R he W=>?_;have t:=he.scope;have hz:=g.n;have e0:=g.z;let E:Md:=[vr "self" (.ref (M .heap)),vr "n" (.int n)];let l:HX:=X.xe n;have I:Af l:=g.congr (by simp only[l,HX.xe];split<;>rfl) (by simp only[l,HX.xe];split<;>rfl) (by simp only[l,HX.xe];split<;>rfl) (by simp only[l,HX.xe];split<;>rfl) (by simp only[l,HX.xe];split<;>rfl) (by simp only[l,HX.xe];split<;>rfl) (by simp only[l,HX.xe];split<;>rfl);have up1:l.up=X.up:=by simp only[l,HX.xe];split<;>rfl
 have P:l.vR=X.vR:=by simp only[l,HX.xe];split<;>rfl
 have f0:l.vC.length<=X.vC.length+1:=by simp only[l,HX.xe];split<;>simp
 have Z1:l.vC.length<=10000->Sz l:=λh=>by
  have q:l.vF=X.vF/\l.vO=X.vO/\l.vN=X.vN/\l.vE=X.vE/\l.vU=X.vU/\l.vH=X.vH:=by simp only[l,HX.xe];split<;>exact⟨rfl,rfl,rfl,rfl,rfl,rfl⟩
  let⟨q1,q2,q3,q4,q5,q6⟩:=q;exact{e:=by rw[q1];exact b.e,f:=by rw[q2];exact b.f,m:=by rw[q3];exact b.m,u:=by rw[q4];exact b.u,d:=λi=>by unfold HX.us;rw[q5];exact b.d i,k:=by rw[P];exact b.k,c:=h,r:=by rw[q6];exact b.r}
 have K1:FT l:=λp N=>by rw[P]at N;rw[up1];exact K p N
 refine nj (M:=λo s=>o=E/\wg s M l F) (tG (dH (bf (O t rfl) (H.hf t rfl Vm rfl) k8) (λz=>?_) λz=>?_)) ?_
 .have a:n=X.made:=by
   have:(n:Int)=X.made:=by simpa using z
   omega
  let Xa:HX:={X with vC:=X.vC++[.made n]};refine aq (M:=λo s=>o=E/\wg s M Xa F) (eK t (e_ (H.hf t rfl nF rfl) (H.get .vC _ rfl) ((bK (bE rfl rfl cS (O t rfl))).g ⟨_,H.get .vC _ rfl,by simp;omega,rfl,?_⟩))) ?_
  .have:=H.AO (X.vC++[.made n]) (λp N=>by
    rcases aB.mp N with q|q
    .exact H.ids.c p q
    .rw[aj.mp q];exact gg (bB _) H.ids.w)
   rw[aL]at this;exact this
  rintro o Q ⟨rfl,S⟩;refine aq (bR ((cI (O t rfl) bC lQ).g (nk (O t rfl) (S.get .heap _ rfl) (S.get .wN _ rfl) Iq ⟨rfl,?_⟩ (by simp[yD])))) λo Y q=>bw q;have:=S.Tf (n+1);have e1:l={Xa with made:=n+1}:=by show X.xe n=_;unfold HX.xe;rw[B a]
  rw[e1];exact this
 .have a:n≠X.made:=λq=>by rw[q]at z;simp at z
  have e1:l=X:=by show X.xe n=_;unfold HX.xe;rw[J a]
  rw[e1];exact bw ⟨rfl,H⟩
 rintro o Q ⟨rfl,C⟩;have L:n<l.up.length:=by rw[up1];exact hn
 have a0:l.vB.length=l.up.length:=I.n;apply nj (M:=λo s=>s=Q/\o=vr "node" (vP (l.sig n))::E) (tG (fV t rfl (C.node I.u (by rw[a0,up1];omega) (R.mono (by omega)) (by omega) (I.k n L) (by have:=I.kl n;omega) (O t rfl) (O t rfl)) ⟨rfl,rfl⟩));rintro o Y ⟨rfl,rfl⟩;have ks:=jQ (Nu I L);let v:HX:=if(vJ l.vR (l.sig n)).isSome then l else{l with vC:=l.vC++[.vR (l.sig n)]}
 have x:v=l\/v={l with vC:=l.vC++[.vR (l.sig n)]}:=by simp only[v];split;exact .inl rfl;exact .inr rfl
 refine nj (M:=λo s=>o=vr "node" (vP (l.sig n))::E/\wg s M v F) (tG (dH (b:=(vJ l.vR (l.sig n)).isNone) (bf (O t rfl) (C.hf t rfl Fg rfl) (sN R (.m (C.get .vR _ rfl)) ks (CD K1) ?_)) (λz=>?_) λz=>?_)) ?_
 .rw[<-rE,uZ,d_,iN]
 .have a:v={l with vC:=l.vC++[.vR (l.sig n)]}:=by
   simp only[v];rw[J];rw[iN]at z;rw[z];simp
  rw[a];refine aq (eK t (e_ (C.hf t rfl nF rfl) (C.get .vC _ rfl) ((bK (bE rfl rfl cS (O t rfl))).g ⟨_,C.get .vC _ rfl,by simp;omega,rfl,?_⟩))) λo s q=>bw q;have:=C.AO (l.vC++[.vR (l.sig n)]) (λp N=>by
   rcases aB.mp N with q|q
   .exact C.ids.c p q
   .rw[aj.mp q];exact gg (bB _) C.ids.w)
  rw[aL]at this;exact this
 .have a:v=l:=by
   simp only[v];rw[B];cases q:vJ l.vR (l.sig n)with
   |none=>rw[q]at z;cases z
   |some _=>rfl
  rw[a];exact bw ⟨rfl,C⟩
 rintro o b0 ⟨rfl,H2⟩;have O2:Af v:=by rcases x with a|a<;>rw[a];exact I;exact I.congr rfl rfl rfl rfl rfl rfl rfl
 have c0:v.up=l.up:=by rcases x with a|a<;>rw[a]
 have K2:FT v:=by rcases x with a|a<;>rw[a]<;>exact K1
 have g0:v.vC.length<=l.vC.length+1:=by rcases x with a|a<;>rw[a]<;>simp
 have G:=Z1 (by omega);have Z2:Sz v:=by
  rcases x with a|a
  .rw[a];exact G
  .rw[a];exact{e:=G.e,f:=G.f,m:=G.m,u:=G.u,d:=G.d,k:=G.k,c:=by simp;omega,r:=G.r}
 have eX:X.look n=v.x_ n:=rfl;rw[eX];refine nj (M:=λo s=>∃y,yU M X y/\wg s y (v.x_ n) F) (ST.expr (GT.super NV he W rfl (H2.get .heap _ rfl) R (eZ (bq rfl (O t rfl)) ((Ph O2 Z2 K2 (by rw[c0];exact L) b0 M F H2).mono λj s ⟨_,y,T,V⟩=>⟨y,T.sub ?_ ?_,V⟩))) (by unfold interactive;rw[t];rfl)) λo s ⟨y,T,V⟩=>tG (bw ⟨rfl,y,T,V⟩)
 .have:v.vI=X.vI:=by rcases x with a|a<;>rw[a]<;>(simp only[l,HX.xe];split<;>rfl)
  rw[this];exact ao _
 .have:v.vU=X.vU:=by rcases x with a|a<;>rw[a]<;>(simp only[l,HX.xe];split<;>rfl)
  rw[this];exact ao _
end
def DA(X Y:HX):Prop:=X.vI.length<=Y.vI.length/\X.vU.length<=Y.vU.length
theorem DA.refl(X:HX):DA X X:=⟨ao _,ao _⟩
theorem DA.trans(a:DA X Y)(b:DA Y c):DA X c:=⟨bg a.1 b.1,bg a.2 b.2⟩
theorem Mp:DA X (X.yW a b r k g):=by
 unfold HX.yW;split
 .exact⟨ao _,ao _⟩
 .exact⟨by show X.vI.length<=(X.vI.set _ _).length;simp,by show X.vU.length<=(_++[_]).length;simp[HX.xq,HX.Cp]⟩
theorem Pr:DA X (X.join a b r):=by
 unfold HX.join;let⟨c,d⟩:=Mp (X:={X with vC:=X.vC++[A3.wY (X.xj a b) (X.us (X.uid (X.xj a b))).length (X.w_ a b) (X.uid (X.w_ a b))]}) (a:=a) (b:=b) (r:=r) (k:=X.xj a b) (g:=X.w_ a b);exact⟨c,d⟩
theorem Ej:DA X (X.x_ n):=by
 unfold HX.x_;split
 .split
  .exact DA.refl _
  .exact Pr
 .exact⟨ao _,ao _⟩
theorem Pq:DA X (X.look n):=by
 have a:DA X (X.xe n):=by unfold HX.xe;split<;>exact⟨ao _,ao _⟩
 apply a.trans;unfold HX.look HX.AD;split
 .exact Ej
 .let⟨a,b⟩:=Ej (X:={X.xe n with vC:=(X.xe n).vC++[.vR ((X.xe n).sig n)]}) (n:=n)
  exact⟨a,b⟩
theorem G7:DA X (X.xq i l):=⟨ao _,by simp[HX.xq]⟩
theorem Pp:DA X X.xQ:=G7.trans Pq
theorem yU.tr(h:yU c X a)(e:yU a Y b)(g:DA X Y):yU c X b:=h.trans e g.1 g.2
structure yS(X:HX)(n:Nat):Prop where
 o:Af X
 z:Sz X
 c:X.vC.length<=9990
 k:FT X
 n:n<X.up.length
theorem GE.Io(h:Aj w A c g i (backTo f (starEach b c)) λds a=>ds.length<=100000/\P (.vV ds) a)(j:b.length<=1000:=by decide):GE w A c g i (eval (.Tuple b k f) c) P:=(GE.tuple (P:=λd a=>(∀ds,d= .vV ds->ds.length<=100000)/\P d a) (h.mono λds a q=>⟨λl e=>by injection e with e;rw[<-e];exact q.1,q.2⟩) j (λ_=>trivial) λds a q=>q.1 ds rfl).mono λd a q=>q.2
def nG:=@GE.Io
theorem Lx(I:HX->Prop)(m:HX->Nat)(R:∀X,I X->X.vM.length<=10000)(E:∀X,I X->X.vM≠[]->yS (X.xq X.v8 X.vM.dropLast) (X.vM.getLastD 0))(G:∀X,I X->X.vM≠[]->I X.xQ/\m X.xQ<m X)(H:wg S p X F)(T:I X):CF w 7 (.ref 436) [.ref (p .heap)] S λd b=>d= .none/\∃j h,I j/\j.vM=[]/\yU p X h/\DA X j/\wg b h j F:=by
 refine je LR λA a0 V W=>?_;have r:=W.scope;let t:Md:=[vr "self" (.ref (p .heap))];refine aq (M:=λc b=>∃j h,I j/\j.vM=[]/\yU p X h/\DA X j/\wg b h j F) (nv (λn c b=>c=t/\∃a f,n=m a/\I a/\yU p X f/\DA X a/\wg b f a F) (m X) ⟨rfl,X,p,rfl,T,jI _ _,DA.refl _,H⟩ ?_) λc b q=>bw ⟨rfl,q⟩;rintro n c b ⟨rfl,a,f,rfl,s,v,x,k⟩;have y:f .heap=p .heap:=v .heap rfl;have z:=k.ids.w;refine⟨_,bf (eY r rfl (k.hf r (by rw[y];rfl) rO rfl) (.vK (.m (k.vU z))) bh (by have:=R a s;show a.vM.length<=_;omega)) bC rA,λu=>?_,λu=>?_⟩
 .have l:a.vM≠[]:=λe=>by
   have:(a.us a.v8).length=0:=by rw[show a.us a.v8=a.vM from rfl,e];rfl
   rw[this]at u;simp at u
  have L:=E a s l;let⟨M,Y⟩:=G a s l;have hl:vG (a.us a.v8)=vG a.vM.dropLast++[.int (a.vM.getLastD 0:Nat)]:=by
   have e:a.vM=a.vM.dropLast++[a.vM.getLastD 0]:=by
    rw[iO,fR l];exact(cV l).symm
   rw[show a.us a.v8=a.vM from rfl];conv=>lhs;rw[e]
   simp[vG]
  have i:=k.vU z;rw[hl]at i;refine aq (M:=λc g=>c=t/\∃o,yU p X o/\wg g o a.xQ F) (eK r (cU (O r (by rw[y];rfl)) (k.get .heap _ rfl) (k.get .wN _ rfl) Kp rfl zB.2 V
   (b_ rfl (jZ (P:=λd g=>d= .int (a.vM.getLastD 0:Nat)/\wg g f (a.xq a.v8 a.vM.dropLast) F) (k.hf r (by rw[y];rfl) rO rfl) i (by rw[bh];have:=R a s;simp;omega) ⟨rfl,k.Qy _ _ z⟩) λd g ⟨e,C⟩=>gu ?_))) ?_
  .subst e
   exact(GL L.o L.z L.c L.k L.n g f F C).mono λd b0 ⟨_,N,P,H3⟩=>⟨rfl,N,v.tr P (x.trans G7),H3⟩
  rintro c g ⟨rfl,o,Q,C⟩;exact bw ⟨m a.xQ,Y,rfl,a.xQ,o,rfl,M,Q,x.trans Pp,C⟩
 .refine⟨a,f,s,?_,v,x,k⟩
  have:¬((0:Int)<(a.us a.v8).length):=by simpa using u
  exact pW (by show(a.us a.v8).length=0;omega)
theorem OQ(c:Af X)(d:Sz X)(f:a<X.up.length)(g:b<X.up.length):JO w 5 422 .heap [.int a,.int b,r] X (X.join a b r) (.bool (decide (X.xj a b≠X.w_ a b))):=by
 intro h i F H;refine CF.Xd Ow λA l j k=>?_;have e:=k.scope;exact bQ (oX (cU (O e rfl) (H.get .heap _ rfl) (H.get .wN _ rfl) Kq rfl zC.2 j (eZ (bI rfl (O e rfl) (bE rfl rfl (O e rfl) (O e rfl))) (GN c d f g h i F H))))
theorem Rj(a:Sz X):JO w 1 518 .heap [] X X.push .none:=by
 intro r e F H;refine je Rz λA v y s=>?_;have c:=s.scope;refine aq (M:=λl b=>∃g,yU e X g/\wg b g X.push F) (eK c (e_ (H.hf c rfl Ff rfl) (H.get .vH _ rfl) (nG (b_ (P1:=λd b=>d= .int X.vC.length/\b=r) rfl (eY c rfl (H.hf c rfl nF rfl) (.vK (.m (H.get .vC _ rfl))) (by simp) (by have:=a.c;omega)).ge λd h ⟨e1,f⟩=>by
  subst e1 f;refine b_ (P1:=λd b=>∃n,h.μ n=none/\d= .ref n/\b=h.put n (.vK (vG X.vM))) rfl (GE.Wi c rfl (H.hf c rfl rO rfl) (.vK (.m (H.vU H.ids.w))) (by rw[bh];have:=a.d X.v8;omega) λn k=>⟨n,k,rfl,rfl⟩) λd x ⟨n,k,e1,f⟩=>?_;subst e1 f;let⟨m,i⟩:=H.Qz X.vM k;have o:x9 e (.vU X.vU.length) n .vH=e .vH:=i .vH rfl;refine gu ⟨by simp,X.vH.map (encM e),?_,by simp;have:=a.r;omega,_,i,?_⟩
  .rw[<-o,m.get .vH _ rfl]
   have:=rK i H.ids .vH;simp only[vY,fu,wQ.vK.injEq]at this;rw[show(X.yK X.vM).vH=X.vH from rfl,this]
  .have t:(X.yK X.vM).vU.length=X.vU.length+1:=by simp[HX.yK]
   have j:=m.Ny (X.vH++[(X.vC.length,X.vU.length)]) (λp u=>by
    rcases aB.mp u with q|q
    .have:=H.ids.m p q;omega
    .rw[aj.mp q,t];exact dK _)
   rw[aL,o]at j;have e1:=rK i H.ids .vH;simp only[vY,fu,wQ.vK.injEq]at e1;rw[e1]at j;have f:[(X.vC.length,X.vU.length)].map (encM (x9 e (.vU X.vU.length) n))=[.vV [.int X.vC.length,.ref n]]:=by simp[encM,iW]
   rw[f]at j;exact j)))) λl b q=>bw ⟨rfl,q⟩
theorem MU{K V:Type}[DecidableEq K]{l:List (K×V)}{k a:K}{v:V}:vJ (wJ l k v) a=if a=k then some v else vJ l a:=by
 unfold vJ wJ;by_cases c:k∈l.map (·.1)
 .rw[B c]
  induction l with
  |nil=>simp at c
  |cons p l b=>
   simp only[bF,p8];by_cases e:p.1=k
   .simp only[B e]
    by_cases q:a=k
    .subst q;simp[e]
    .rw[J q]
     have f:¬p.1=a:=λh=>q (h.symm.trans e);simp only[f,oE];by_cases d:k∈l.map (·.1)
     .have:=b d;rw[J q]at this;exact this
     .congr 1
      have:(l.map λp=>if p.1=k then(p.1,v)else p)=l:=by
       conv=>rhs;rw[<-iZ l]
       refine aK λx g=>?_;rw[J λh:x.1=k=>d (h▸b9 g)];rfl
      rw[this]
   .simp only[J e]
    by_cases q:p.1=a
    .have:¬a=k:=λh=>e (q.trans h)
     simp[q,this]
    .simp only[q,oE]
     refine b ?_;rw[bF,aG]at c;exact c.resolve_left (fY e)
 .rw[J c,oR]
  by_cases q:a=k
  .subst q
   have:l.find? (λp=>decide (p.1=a))=none:=gf.mpr λp i=>by simp;exactλh=>c (h▸b9 i)
   rw[this];simp
  .rw[J q]
   cases l.find? λp=>decide (p.1=a)with
   |none=>simp[fY q]
   |some p=>simp
def fS:=@MU
theorem CU{K V:Type}[DecidableEq K]{l:List (K×V)}{k:K}{v:V}:(wJ l k v).length<=l.length+1:=by unfold wJ;split<;>simp
theorem Gy(b:∀i,i<l.length->l.getD i i<=i)(d:x<=l.length):∀n,n<l.length->xr (l++[x]) n=xr l n:=by
 intro n;induction n using Nat.strongRecOn with
 |ind n a=>
  intro h;have e:(l++[x]).getD n n=l.getD n n:=by simp[aY h]
  rw[xr];conv=>rhs;rw[xr]
  rw[e];split
  .rename_i c;exact a _ c (by omega)
  .rfl
def Bu(X:HX)(r:Row):HX:={((X.FY r).JN.yK [])with vE:=wJ X.vE X.vB.length X.vU.length}
theorem E1(r:Row):X.grow r=((Bu X r).zT r.2).foldl (HX.w7 X.vB.length) (Bu X r):=rfl
theorem Dk{l:List c}(h:l[k]? =some x):(l.take (k+1)).foldl f b=f ((l.take k).foldl f b) x:=by
 let⟨a,e⟩:=aP.mp h;rw[fz a,gv,e];rfl
theorem zG:∀(l:X8) (Y:HX),(l.foldl (HX.w7 n) Y).vE=Y.vE/\(l.foldl (HX.w7 n) Y).up=Y.up/\(l.foldl (HX.w7 n) Y).vU.length=Y.vU.length/\(l.foldl (HX.w7 n) Y).vI=Y.vI/\(l.foldl (HX.w7 n) Y).v8=Y.v8/\∀i,((l.foldl (HX.w7 n) Y).us i).length<=(Y.us i).length+l.length
 |[],Y=>⟨rfl,rfl,rfl,rfl,rfl,λi=>ao _⟩
 |c::l,Y=>by
  obtain⟨a,b,d,f,g,j⟩:=zG l (HX.w7 n Y c);refine⟨a,b,by rw[dg,d];simp[HX.w7,HX.xq],f,g,λi=>?_⟩;have h:=j i;rw[dg];have:((HX.w7 n Y c).us i).length<=(Y.us i).length+1:=by
   unfold HX.w7 HX.xq HX.us;simp only[ah];by_cases e:Y.uid c=i
   .subst e
    by_cases q:Y.uid c<Y.vU.length
    .rw[cZ q];simp
    .rw[aO (by simp;omega)];simp
   .rw[cy e];omega
  simp only[bO];omega
theorem NL{X:HX}(a:Af X)(b:Sz X){r:Row}(P:zW r.1)(hk:∀k∈r.2,k<X.up.length)(hl:r.2.length<=2)(L:r∉X.vB->yS (X.grow r) X.vB.length):JO w 16 389 .heap [.str r.1,.vV (vG r.2)] X (X.add r) (.int (X.zq r)):=by
 intro σ G F H;refine nQ UN λA s0 Q he=>?_;have j:=he.scope;have hA:=Q.handled;have hz:=a.n;have t0:=a.z;let g0:Md:=[vr "self" (.ref (G .heap)),vr "op" (.str r.1),vr "numbers" (.vV (vG r.2))];refine aq (M:=λf g=>∃S,yU G X S/\wg g S (if r∈X.vB then X else X.FY r) F/\f=vr "n" (.int (X.zq r))::g0) (fC j rfl (cU (H.hf j rfl r8 rfl) (H.get .yh _ rfl) (H.get .yP _ rfl) RY rfl Cq.2 Q
  (eZ (bE rfl rfl (O j rfl) (O j rfl)) ((QT a.b P (λk h=>by have:=hk k h;omega) (by omega) σ G F H).room (by omega) |>.mono λd g ⟨e,S,ag,H'⟩=>⟨S,ag,H',by subst e;rfl⟩)))) ?_
 rintro f a0 ⟨b0,c0,u,rfl⟩;have d0:b0 .heap=G .heap:=c0 .heap rfl;by_cases v:r∈X.vB
 .rw[B v]at u
  have eX:X.add r=X:=by unfold HX.add;rw[B v]
  rw[eX];let⟨i,R,_,u0⟩:=NF v;have ea:X.zq r=i:=by unfold HX.zq;rw[R];rfl
  refine bQ (dH (b:=true) (bf (O j rfl) (dQ (u.hf j (by rw[d0];rfl) kj rfl) (u.get .yE _ rfl) (u.get .zO _ rfl) Ti rfl B4.2 bG (Gj u (by omega)) (Q.mono (by omega))) ?_) (λ_=>bQ (cH (O j rfl) ⟨rfl,b0,c0,u⟩)) λe=>by cases e);have:=JU (w:=w) (A:=A) (σ:=a0) (a:=(X.zq r:Nat)) (b:=X.up.length)
  rwa[kE (by omega)]at this
 .rw[J v]at u
  have ea:X.zq r=X.vB.length:=by
   unfold HX.zq HX.idx;rw[gk.mpr λs j=>by simp;rintro rfl;exact v j]
   rfl
  have eX:X.add r=(X.grow r).look X.vB.length:=by unfold HX.add;rw[J v]
  rw[eX];generalize hN:X.vB.length=N at*;rw[ea];let m:Md:=vr "n" (.int N)::g0;let X1:HX:=X.FY r;refine aq (M:=λf g=>f=m/\g=a0) (dH (b:=false) (bf (O j rfl) (dQ (u.hf j (by rw[d0];rfl) kj rfl) (u.get .yE _ rfl) (u.get .zO _ rfl) Ti rfl B4.2 bG (Gj u (by show X.up.length<=_;omega)) (Q.mono (by omega))) ?_) (λe=>by cases e) λ_=>bw ⟨rfl,rfl⟩) ?_
  .have:=JU (w:=w) (A:=A) (σ:=a0) (a:=(N:Nat)) (b:=X.up.length)
   rwa[decide_eq_false (by omega)]at this
  rintro f g ⟨rfl,rfl⟩;have lo:=a.u.lo;refine aq (M:=λf g=>f=m/\∃o,yU G X o/\wg g o X1.JN F) (eK j (cU (u.hf j (by rw[d0];rfl) kj rfl) (u.get .yE _ rfl) (u.get .zO _ rfl) RU rfl II.2 Q
   (eZ bG ((RS (X:=X1) lo (by show X.up.length<=_;omega) g b0 F u).room (by omega) |>.mono λd k0 ⟨_,o,T,H2⟩=>⟨rfl,o,c0.trans T (ao _) (ao _),H2⟩)))) ?_
  rintro f k0 ⟨rfl,o,T,H2⟩;have l0:o .heap=G .heap:=T .heap rfl;let l:HX:=Bu X r;have m0:l={(X1.JN.yK [])with vE:=wJ X.vE N X.vU.length}:=by show Bu X r=_;unfold Bu;rw[hN]
  have g2:DA X l:=⟨by show X.vI.length<=(X.vI++[_]).length;simp,by show X.vU.length<=(X.vU++[_]).length;simp⟩;refine aq (M:=λf g=>f=m/\∃z,yU G X z/\wg g z l F) (bR (kg (jg Ab.nil) λn hn=>?_)) ?_
  .let⟨H3,I⟩:=H2.Qz [] hn
   have V:x9 o (.vU X1.JN.vU.length) n .heap=G .heap:=(I .heap rfl).trans l0;refine fj Q (H3.hf j (by rw[V];rfl) iT rfl) (O j rfl) (H3.get .vE _ rfl) (oZ N) k_ (by rw[l5];have:=b.u;show X.vE.length<=_;omega) ⟨rfl,_,T.trans I (by show X.vI.length<=(X.vI++[_]).length;simp) (ao _),?_⟩;have l3:(X1.JN.yK []).vU.length=X.vU.length+1:=by show(X.vU++[[]]).length=_;simp
   have:=H3.A_ (wJ X.vE N X.vU.length) (λp hp=>by
    rw[l3];rcases lq hp with q|q
    .have:=H.ids.u p q;omega
    .rw[q];exact dK _)
   rw[nD (x9 o (.vU X1.JN.vU.length) n),<-iA j3]at this;rw[show D.ref (x9 o (.vU X1.JN.vU.length) n (.vU X.vU.length))=D.ref n by congr 1;exact iW]at this;rw[m0];exact this
  rintro f w0 ⟨rfl,z,I,H3⟩;have V:z .heap=G .heap:=I .heap rfl;have U2:BQ l:=by
   refine⟨λi R=>?_,by show(X.vI++[_]).length=(X.up++[_]).length;simp[lo],by show(X.up++[_]).length<=_;simp;omega,λi=>?_⟩
   .have n0:i<(X.up++[X.up.length]).length:=R
    show(X.up++[X.up.length]).getD i i<=i;by_cases c:i<X.up.length
    .have:=a.u.up i c;simp[aY c];simpa[c]using this
    .simp at n0;have:i=X.up.length:=by omega
     subst this;simp
   .show((X.vI++[[X.vI.length]]).getD i []).length<=60
    by_cases c:i<X.vI.length
    .have:=a.u.lz i;simp[aY c];simpa[c]using this
    .by_cases c2:i=X.vI.length
     .subst c2;simp
     .rw[ah,aO (by simp;omega)];simp
  have f2:∀k∈r.2,l.vQ k=X.vQ k:=λk h=>Gy a.u.up (ao _) k (hk k h);have h0:l.up.length=X.up.length+1:=by show(X.up++[_]).length=_;simp
  have o0:∀c∈l.zT r.2,∃i,vJ l.vE c=some i:=λc W=>by
   let⟨_,h⟩:=aV.mp W;let⟨k,e0,e⟩:=aa.mp (by simpa using h:c∈r.2.map l.vQ);rw[f2 k e0]at e;let⟨i,R⟩:=a.us k (hk k e0);refine⟨i,?_⟩;show vJ (wJ X.vE X.vB.length X.vU.length) c=_;have:=a.u.vQ (hk k e0);rw[fS,J (by omega),<-e];exact R
  refine aq (M:=λf g=>f=m/\∃M,yU G X M/\wg g M (X.grow r) F) (iD (lk:=none) (tg:=wH) (ds:=vG (l.zT r.2)) (λk f g=>f=m/\wg g z (((l.zT r.2).take k).foldl (HX.w7 N) l) F) (eW hA (pn (N:=l.up.length) (l:=r.2.map l.vQ) (Q.mono (by omega)) j rfl rfl (jq ((jT (S:=Ge.1.scope) (tg:=wH) (lk:=none) r.2 (λx=>.int x) (λx=>.int (l.vQ x)) j ⟨by rfl,by rfl,by decide+kernel,by rfl,by rfl⟩
   (eW hA (O j rfl) (.inr (.inl rfl))) trivial rfl (by omega) λr0 W x hx=>?_).mono λt g e=>⟨e.1,e.2⟩)) (by simp[vG];exact .f) (λx hx=>?_) (by simp;omega)) (.inl rfl)) ⟨rfl,H3⟩ (λk d f g hd q=>?_) λf g ⟨e,C⟩=>⟨e,z,I,by rw[bh,bX]at C;rw[E1,hN];exact C⟩) ?_
  .have:=hk x hx
   exact⟨_,fP W rfl rfl,H3.find U2 (Q.mono (by omega)) (O W (by rw[V];rfl)) (O W rfl) (by rw[h0];omega)⟩
  .obtain⟨y,hy,rfl⟩:=aa.mp hx
   exact U2.vQ (by rw[h0];have:=hk y hy;omega)
  .obtain⟨rfl,C⟩:=q
   unfold vG at hd;rw[a_]at hd;obtain⟨c,W,rfl⟩:=bu.mp hd;rw[Dk W];let⟨a1,_,a3,a4,a5,a6⟩:=zG (n:=N) ((l.zT r.2).take k) l;generalize hY:((l.zT r.2).take k).foldl (HX.w7 N) l=Y at*;let⟨i,R⟩:=o0 c (aH W);rw[<-a1]at R;have ei:Y.uid c=i:=by unfold HX.uid;rw[R];rfl
   have li:i<Y.vU.length:=oh C.ids R;refine⟨vr "c" (.int c)::m,ig j rfl,dj (aq (M:=λf g=>f=vr "c" (.int c)::m/\wg g z (HX.w7 N Y c) F) (eK j (e_ (C.above (Q.mono (by omega)) (C.hf j (by rw[V];rfl) iT rfl) (O j rfl) R) (C.vU li) ((O j rfl).g ⟨_,C.vU li,?_,rfl,?_⟩))) ?_)⟩
   .rw[bh]
    have h1:=a6 i;have h2:(l.us i).length<=10000:=by
     show((X.vU++[[]]).getD i []).length<=_;by_cases c:i<X.vU.length
     .have:=b.d i;simp[aY c];simpa[HX.us,c]using this
     .have:(X.vU++[[]])[i]?.getD []=([]:X8):=by
       rw[kJ (by omega)];cases(i-X.vU.length)<;>simp
      rw[ah,this];simp
    have h3:((l.zT r.2).take k).length<=51:=by
     rw[bU];have:(l.zT r.2).length<=l.up.length:=by unfold HX.zT;exact bg (cP _ _) (by simp)
     omega
    omega
   .have:=C.Qy i (Y.us i++[N]) li
    rw[<-lG]at this;unfold HX.w7;rw[ei];exact this
   rintro f i0 ⟨rfl,H5⟩;exact bw ⟨m,dW rfl,rfl,H5⟩
  rintro f p0 ⟨rfl,M,j0,C⟩;have q0:M .heap=G .heap:=j0 .heap rfl;have Lk:=L v;have gG:DA X (X.grow r):=by
   let⟨_,_,a3,a4,_⟩:=zG (n:=X.vB.length) ((Bu X r).zT r.2) (Bu X r);rw[E1];exact⟨by rw[a4];exact g2.1,by rw[a3];exact g2.2⟩
  apply aq (M:=λf g=>f=m/\∃E,yU G X E/\wg g E ((X.grow r).look N) F) (eK j (cU (O j (by rw[q0];rfl)) (C.get .heap _ rfl) (C.get .wN _ rfl) Kp rfl zB.2 Q (eZ (bq rfl (O j rfl)) ((GL Lk.o Lk.z Lk.c Lk.k Lk.n p0 M F C).room (by omega) |>.mono λd i0 ⟨_,E,f0,H5⟩=>⟨rfl,E,j0.tr f0 gG,H5⟩))));rintro f i0 ⟨rfl,E,f0,H5⟩;exact bQ (cH (O j rfl) ⟨rfl,E,f0,H5⟩)
theorem Nx(a:Af X)(b:Sz X)(P:zW x)(L:(x,[])∉X.vB->yS (X.grow (x,[])) X.vB.length):JO w 17 394 .heap [.vV [.str x]] X (X.add (x,[])) (.int (X.zq (x,[]))):=by
 intro g i F H;refine f9 UA λA n d j=>?_;have c:=j.scope;have l:=d.handled;refine bQ (oX (cU (O c rfl) (H.get .heap _ rfl) (H.get .wN _ rfl) Tp rfl Ge.2 d (eZ (bE rfl rfl (c7 (xs:=[.str x]) (O c rfl) bC (j:=0) rfl rfl)
  (jx (ds:=[]) c rfl (jq ((jT (S:=Ga.1.scope) (tg:=wH) (lk:=none) ([]:X8) (λx=>.int x) (λx=>.int x) c ⟨by rfl,by rfl,by decide+kernel,by rfl,by rfl⟩ (eW l (fO (ds:=[.str x]) (a:=1) (O c rfl) bC (by omega) (by simp) (by simp)) (.inr (.inl rfl))) trivial rfl (by simp) λf p x m=>(nomatch m)).mono λt o e=>e)) .f (by simp)))
  (NL a b (r:=(x,[])) P (λk h=>nomatch h) (by simp) L g i F H))))
def zw(b:Yv)(X:HX)(a:Yv):Prop:=∀r,(∀i,r≠.xH i)->(vY b X r).isSome=true->a r=b r
theorem yU.d(h:yU b X a):zw b X a:=λr _ q=>h r q
theorem zw.refl(a:Yv)(X:HX):zw a X a:=λ_ _ _=>rfl
theorem O4(a:∀i,r≠.xH i)(e:X.vU.length<=Y.vU.length)(h:(vY c X r).isSome=true):(vY b Y r).isSome=true:=by
 cases r with
 |xH i=>exact absurd rfl (a i)
 |vU i=>
  have:i<X.vU.length:=by simpa[vY]using h
  have:i<Y.vU.length:=by omega
  simp[vY,this]
 |_=>rfl
theorem zw.trans(h:zw d X b)(f:zw b Y c)(e:X.vU.length<=Y.vU.length):zw d X c:=λr a q=>(f r a (O4 a e q)).trans (h r a q)
theorem D5{w:Yz}:yi w 556 "waiting":={}
theorem J7{w:Yz}:yi w 556 "backs":={}
theorem QK{X:HX}(a:i<X.vU.length):(X.xq i l).us j=if j=i then l else X.us j:=by
 unfold HX.xq HX.us;simp only[ah];by_cases e:j=i
 .subst e;rw[B rfl,cZ a];rfl
 .rw[J e,cy (fY e)]
def qi:=@QK
theorem zF:∀(l:X8) (Y:HX),(l.foldl HX.wB Y).vE=Y.vE/\(l.foldl HX.wB Y).up=Y.up/\(l.foldl HX.wB Y).vU.length=Y.vU.length/\(l.foldl HX.wB Y).vI=Y.vI/\(l.foldl HX.wB Y).vB=Y.vB/\(l.foldl HX.wB Y).yr=Y.yr/\(l.foldl HX.wB Y).zm=Y.zm
 |[],Y=>⟨rfl,rfl,rfl,rfl,rfl,rfl,rfl⟩
 |c::l,Y=>by
  let⟨a,b,d,e,f⟩:=zF l (HX.wB Y c);exact⟨a,b,by rw[dg,d];simp[HX.wB,HX.xq],e,f⟩
theorem Dq:∀(l:X8) (Y:HX),(∀c∈l,Y.uid c≠i)->(l.foldl HX.wB Y).us i=Y.us i
 |[],Y,_=>rfl
 |c::l,Y,h=>by
  rw[dg,Dq l (HX.wB Y c) λd hd=>h d (.tail _ hd)];have a:=h c (.head _);unfold HX.wB HX.xq HX.us;simp only[ah];rw[cy a]
structure TY(X:HX)(n:Nat):Prop where
 u:BQ X
 b:S_ X
 rl:X.vB.length=X.up.length
 z:X.up.length=n+1/\n<50
 k:∀k∈(X.row n).2,k<X.up.length
 kl:(X.row n).2.length<=2
 r:X.vQ n=n
 l:X.vI.getD n []=[n]
 nd:X.vB.Nodup
 us:∀c∈X.zT (X.row n).2,∃i,vJ X.vE c=some i/\X.us i≠[]/\(X.us i).length<=10000
 di:∀c∈X.zT (X.row n).2,∀d∈X.zT (X.row n).2,X.uid c=X.uid d->c=d
 un:∃i,vJ X.vE n=some i
 uz:X.vE.length<=10000
theorem O7(h:l≠[]):vG l=vG l.dropLast++[.int (l.getLastD 0:Nat)]:=by
 have e:l=l.dropLast++[l.getLastD 0]:=by
  rw[iO,fR h];exact(cV h).symm
 conv=>lhs;rw[e]
 simp[vG]
def VM(w:Yz)(k:Nat)(g:YB)(h:Rl)(b:Yb)(X i:HX)(d:D):Prop:=∀(f:St) (c:Yv) (F:Fz),wg f c X F->CF w k (.ref g) (.ref (c h)::b) f λj e=>j=d/\∃a,zw c X a/\wg e a i F
theorem Lj(V:TY X n):VM w 16 546 .heap [.int n] X (X.z7 n) .none:=by
 intro σ s F H;refine f9 LO λA m0 E he=>?_;have g:=he.scope;have hA:=E.handled;let⟨hz,n0⟩:=V.z;have o0:=V.rl;let f:Md:=[vr "self" (.ref (s .heap)),vr "n" (.int n)];let v:=X.zT (X.row n).2;refine aq (M:=λa b=>a=f/\wg b s (v.foldl HX.wB X) F) (iD (lk:=none) (tg:=wH) (ds:=vG v) (λk a b=>a=f/\wg b s ((v.take k).foldl HX.wB X) F) (eW hA (pn (N:=X.up.length) (l:=(X.row n).2.map X.vQ) (E.mono (by omega)) g rfl rfl (jq ((jT (S:=AP.1.scope) (tg:=wH) (lk:=none) (X.row n).2 (λx=>.int x) (λx=>.int (X.vQ x)) g ⟨by rfl,by rfl,by decide+kernel,by rfl,by rfl⟩
  (eW hA (dQ (H.hf g rfl r8 rfl) (H.get .yh _ rfl) (H.get .yP _ rfl) Ku rfl EH.2 (bq rfl (O g rfl)) (KG H (by omega) (by omega) (by have:=V.kl;omega)) (E.mono (by omega))) (.inr (.inl rfl))) trivial rfl (by have:=V.kl;omega) λl0 G x hx=>?_).mono λt b e=>⟨e.1,e.2⟩)) (by simp[vG];exact .f) (λx hx=>?_) (by have:=V.kl;simp;omega)) (.inl rfl)) ⟨rfl,H⟩ (λk d a b hd q=>?_) λa b ⟨e,m⟩=>⟨e,by rw[bh,bX]at m;exact m⟩) ?_
 .exact⟨_,fP G rfl rfl,H.find V.u (E.mono (by omega)) (O G rfl) (O G rfl) (V.k x hx)⟩
 .obtain⟨y,hy,rfl⟩:=aa.mp hx
  exact V.u.vQ (V.k y hy)
 .obtain⟨rfl,m⟩:=q
  unfold vG at hd;rw[a_]at hd;obtain⟨c,G,rfl⟩:=bu.mp hd;rw[Dk G];have R:=aH G;let⟨a1,_,a3,_⟩:=zF (v.take k) X;let⟨i,P,b0,p0⟩:=V.us c R;have eX:X.uid c=i:=by unfold HX.uid;rw[P];rfl
  have S:((v.take k).foldl HX.wB X).us i=X.us i:=Dq _ _ λd T e=>by
   have c0:=gz T;have:d=c:=V.di d c0 c R (by rw[e,eX]);subst this;let⟨j,hj,W⟩:=bS T;have d0:j<k:=by rw[bU]at hj;omega
   have hp:v.Pairwise (·<·):=(eB (n:=X.up.length)).filter _;let⟨hk,ek⟩:=aP.mp G;have:=kM.mp hp j k (by omega) hk d0;rw[List.getElem_take]at W;rw[W,ek]at this;exact gH _ this
  generalize hY:(v.take k).foldl HX.wB X=Y at*;have I:vJ Y.vE c=some i:=by rw[a1];exact P
  have ei:Y.uid c=i:=by unfold HX.uid;rw[I];rfl
  have li:i<Y.vU.length:=oh m.ids I;have r:=m.vU li;rw[S,O7 b0]at r;refine⟨vr "c" (.int c)::f,ig g rfl,dj (aq (M:=λa b=>a=vr "c" (.int c)::f/\wg b s (HX.wB Y c) F) (eK g (jZ (m.above (E.mono (by omega)) (m.hf g rfl iT rfl) (O g rfl) I) r (by rw[bh];simp;omega) ⟨rfl,?_⟩)) ?_)⟩
  .have:=m.Qy i (X.us i).dropLast li
   unfold HX.wB;rw[ei,S];exact this
  rintro a e0 ⟨rfl,H5⟩;exact bw ⟨f,dW rfl,rfl,H5⟩
 rintro a q0 ⟨rfl,H1⟩;let⟨a1,Q,a3,a4,a5,a6,a7⟩:=zF v X;let L:HX:=v.foldl HX.wB X;let⟨iu,f0⟩:=V.un;have g0:vJ L.vE n=some iu:=by rw[a1];exact f0
 let o:HX:={L with vE:=xT L.vE n};refine aq (M:=λa b=>a=f/\wg b s o F) (SE.K0 E (H1.hf g rfl iT rfl) (O g rfl) (H1.get .vE _ rfl) (oZ n) k_ (aa.mpr ⟨(n,iu),fG g0,rfl⟩) (by rw[l5];have:=V.uz;rw[a1];omega) ⟨rfl,?_⟩) ?_
 .have:=H1.A_ (xT L.vE n) (λp hp=>H1.ids.u p (GH hp))
  rw[nD,<-tR j3]at this;exact this
 rintro a h0 ⟨rfl,H2⟩;have U2:BQ o:=⟨λi P=>by rw[show o.up=X.up from Q]at P⊢;exact V.u.up i P,by rw[show o.up=X.up from Q,show o.vI=X.vI from a4];exact V.u.lo,by rw[show o.up=X.up from Q];exact V.u.z,λi=>by rw[show o.vI=X.vI from a4];exact V.u.lz i⟩;let u:HX:={o with up:=o.up.take n,vI:=o.vI.take n};apply aq (M:=λa b=>a=f/\∃l,yU s X l/\wg b l u F) (eK g (cU (H2.hf g rfl kj rfl) (H2.get .yE _ rfl) (H2.get .zO _ rfl) US rfl EG.2 E (eZ (bq rfl (O g rfl)) ((QS U2 (by rw[show o.up=X.up from Q];exact hz) (by unfold HX.vQ;rw[show o.up=X.up from Q];exact V.r) (by rw[show o.vI=X.vI from a4];exact V.l) h0 s F H2).room (by omega) |>.mono λd a0 ⟨_,l,z,M⟩=>⟨rfl,l,z.sub (by rw[show o.vI=X.vI from a4];exact ao _) (by show X.vU.length<=L.vU.length;rw[a3];exact ao _),M⟩))));rintro a a0 ⟨rfl,l,z,M⟩;have i0:l .heap=s .heap:=z .heap rfl;have N:u.vB=X.vB:=a5;have ew:u.yr=X.yr:=a6;have ed:u.zm=X.zm:=a7;have B3:S_ u:=⟨by rw[N];exact V.b.s,by rw[N,ew];exact V.b.w,by rw[N,ed];exact V.b.d,by rw[N];exact V.b.z,by rw[ew];exact V.b.b⟩;let X4:HX:={u with vB:=u.vB.take n,yr:=u.yr.take n,zm:=u.zm.take n};have dl:X.vU.length<=u.vU.length:=by show X.vU.length<=L.vU.length;rw[a3];exact ao _
 apply aq (M:=λa b=>a=f/\∃h,zw s X h/\wg b h X4 F) (eK g (cU (M.hf g (by rw[i0];rfl) r8 rfl) (M.get .yh _ rfl) (M.get .yP _ rfl) UU rfl EK.2 E (eZ (bq rfl (O g rfl)) ((SI B3 (by rw[N];omega) (by rw[N];exact V.nd) a0 l F M).room (by omega) |>.mono λd j0 ⟨_,h,C,m⟩=>⟨rfl,h,z.d.trans C.d dl,m⟩))));rintro a j0 ⟨rfl,h,C,m⟩;have k0:h .heap=s .heap:=C .heap (λ_=>by simp) rfl;apply aq (M:=λa b=>a=f/\wg b h (X.z7 n) F) (bR ((O g rfl).g (nk (O g (by rw[k0];rfl)) (m.get .heap _ rfl) (m.get .wN _ rfl) Iq ⟨rfl,m.Tf n⟩ (by simp[yD]))));rintro a e0 ⟨rfl,H5⟩;exact bw ⟨rfl,h,C,H5⟩
structure TZ(X:HX)(k m g i:Nat):Prop where
 z:W5 X
 e:X.vF≠[]
 i:i<X.vU.length
 j:k≠g->BQ X/\X.vO≠[]/\∃ms,X.vN=ms++[(k,g)]/\k<X.up.length/\g<X.up.length/\(X.vI.getD g []).length<=(X.vI.getD k []).length/\∃u,vJ X.vE k=some u
theorem GP(f:a->D)(h:l≠[]):∃d,l.map f=l.dropLast.map f++[d]:=⟨f (l.getLast h),by
 conv=>lhs;rw[<-cV h]
 simp⟩
theorem Ll(V:TZ X k m g i)(H:wg σ h X F):CF w 3 (.ref 553) [.ref (h .heap),encC h (.wY k m g i)] σ λd c=>d= .none/\∃b,yU h X b/\wg c b (X.xE k m g i) F:=by
 refine f9 LP λA f0 I he=>?_;have f:=he.scope;have hA:=I.handled;let a0:(Yv)->Md:=λh=>[vr "self" (.ref (h .heap)),vr "change" (encC h (.wY k m g i))];let o:(Yv)->Md:=λh=>vr "users" (.ref (h (.vU i)))::vr "gone" (.int g)::vr "many" (.int m)::vr "kept" (.int k)::vr "kind" (.str "edge")::a0 h;apply aq (M:=λe c=>c=σ/\e=o h) (bR ((O f rfl).g (kh hA .vV (bZ (ff f rfl (bZ (ff f rfl (bZ (ff f rfl (bZ (ff f rfl (bZ (ff f rfl (gW ⟨rfl,rfl⟩))))))))))))));rintro e c ⟨rfl,rfl⟩;let N:HX:={X with vF:=X.vF.dropLast};let⟨d1,e1⟩:=GP M7 V.e;apply aq (M:=λe c=>e=o h/\wg c h N F) (eK f (jZ (H.hf f rfl sA rfl) (by rw[H.get .vF _ rfl,e1]) (by have:=V.z.e;simp;omega) ⟨rfl,H.NB _⟩));rintro e g0 ⟨rfl,P⟩;refine aq (M:=λe c=>∃b,yU h X b/\wg c b (X.xE k m g i) F) (dH (bf (O f rfl) (O f rfl) F0) (λS=>?_) λS=>?_) λe c q=>bw ⟨rfl,q⟩
 .have s:k≠g:=by simp at S;omega
  let⟨a,hf,Q,hm,hk,hg,hl,u,hu⟩:=V.j s;let z:HX:={N with vO:=N.vO.dropLast};let⟨d2,e2⟩:=GP (λx:Nat=>D.int x) hf;apply aq (M:=λe c=>e=o h/\wg c h z F) (eK f (jZ (P.hf f rfl CZ rfl) (by rw[P.get .vO _ rfl];exact aU (λl=>some (wQ.vK l)) e2) (by rw[bh];exact bg (by rw[jM];exact Nat.sub_le _ _) (bg V.z.f (by decide))) ⟨rfl,P.Kg _⟩));rintro e b0 ⟨rfl,y⟩;have U2:BQ z:=⟨a.up,a.lo,a.z,a.lz⟩;have c0:X.vN.length=Q.length+1:=by rw[hm];simp
  have h0:=V.z.m;have bk:=SK (w:=w) (X:=z) U2 hm hk hg hl (by omega);refine aq (M:=λe c=>∃b,yU h X b/\e=o b/\wg c b z.z5 F) (eK f (cU (y.hf f rfl kj rfl) (y.get .yE _ rfl) (y.get .zO _ rfl) RV rfl Ct.2 I
   ((bq rfl (cI (eY (n:=Q.length+1) f rfl (y.pu (y.hf f rfl kj rfl) CW rfl) (.vK (.m (y.get .vN _ rfl))) (by rw[az];exact c0) (by omega)) bC r7)).gs ?_))) ?_
  .have e3:D.int (((Q.length+1:Nat):Int)-1)= .int (Q.length:Nat):=by congr 1;omega
   rw[e3];exact((bk b0 h F y).room (by omega)).mono λd c ⟨_,b,C,H'⟩=>⟨b,C.sub (ao _) (ao _),by
    show o h=o b;show _::_::_::_::_::[_,vr "change" (.vV [_,_,_,_,.ref _])]=_::_::_::_::_::[_,vr "change" (.vV [_,_,_,_,.ref _])];rw[C .heap rfl,C (.vU i) (by have:=V.i;simp[vY,z,N,this])],H'⟩
  rintro e i0 ⟨t,d0,rfl,E⟩;let Y:HX:=z.z5;have L:vJ Y.vE k=some u:=hu;have lu:u<Y.vU.length:=oh E.ids L;have eu:Y.uid k=u:=by show(vJ X.vE k).getD 0=u;rw[hu];rfl
  let T:HX:=Y.yK ((Y.us u).take m);let G:HX:={T with vE:=wJ Y.vE k Y.vU.length};have zd:∀j,(Y.us j).length<=10000:=V.z.d;have zu:Y.vE.length<=10000:=V.z.u;have e0:∀{W nb},yU W Y nb->o nb=o W:=λ{W nb} C=>by
   show _::_::_::_::_::[_,vr "change" (.vV [_,_,_,_,.ref _])]=_::_::_::_::_::[_,vr "change" (.vV [_,_,_,_,.ref _])];have hi:i<Y.vU.length:=V.i;rw[C .heap rfl,C (.vU i) (by simp[vY,hi])]
  refine aq (M:=λe c=>∃b,yU h X b/\yU t Y b/\e=o b/\wg c b G F) (bR (kg (oF (E.above (I.mono (by omega)) (E.hf f rfl iT rfl) (O f rfl) L) (.m (E.vU lu)) (O f rfl) (by rw[bh];exact bg (zd u) (by decide))) λn hn=>?_)) ?_
  .have et:(vG (Y.us u)).take m=vG ((Y.us u).take m):=by simp[vG]
   rw[et];let⟨v,r⟩:=E.Qz ((Y.us u).take m) hn;have hh:x9 t (.vU Y.vU.length) n .heap=t .heap:=r .heap rfl;refine fj I (v.ph (O f (by rw[hh];rfl)) iT rfl) (O f rfl) (v.get .vE _ rfl) (oZ k) k_ (by rw[l5];exact bg zu (by decide)) ⟨_,d0.trans r (by show X.vI.length<=(X.vI.set _ _).length;simp) (ao _),r,(e0 r).symm,?_⟩;have:=v.A_ (wJ Y.vE k Y.vU.length) (λp hp=>by
    have R:T.vU.length=Y.vU.length+1:=by simp[T,HX.yK]
    rcases lq hp with q|q
    .have h3:=E.ids.u p q;rw[R];exact fy h3
    .rw[q,R];exact dK _)
   rw[nD (x9 t (.vU Y.vU.length) n),<-iA j3]at this;rw[iW]at this;exact this
  rintro e j0 ⟨M,r,_,rfl,v⟩;refine aq (M:=λe c=>∃b,yU h X b/\wg c b (X.xE k m g i) F) (bR ((O f rfl).g (fj I (v.hf f rfl iT rfl) (O f rfl) (v.get .vE _ rfl) (oZ g) k_ (by rw[l5];exact bg (CU (l:=Y.vE) (k:=k) (v:=Y.vU.length)) (bg (Nat.succ_le_succ zu) (by decide))) ⟨M,r,?_⟩))) λe c q=>bw q;have:=v.A_ (wJ G.vE g i) (λp hp=>by
   rcases lq hp with q|q
   .exact v.ids.u p q
   .rw[q];have R:G.vU.length=X.vU.length+1:=by show(X.vU++[_]).length=_;simp
    show i<G.vU.length;rw[R];exact fy V.i)
  rw[nD M,<-iA j3]at this;have eq:X.xE k m g i={G with vE:=wJ G.vE g i}:=by
   unfold HX.xE;rw[J s];show _={({(Y.yK ((Y.us u).take m))with vE:=wJ Y.vE k Y.vU.length}:HX)with vE:=wJ (wJ Y.vE k Y.vU.length) g i};rw[<-eu]
  rw[eq];exact this
 .have s:k=g:=by simp at S;omega
  exact bw ⟨h,jI _ _,by unfold HX.xE;rw[B s];exact P⟩
def NN(X:HX):A3->Prop
 | .made n=>TY X n
 | .vR s=>s∈X.vR.map (·.1)/\X.vR.length<=10000/\FT X
 | .wY k m g i=>TZ X k m g i
def M8(X:HX):Prop:=∀c,X.vC.getLast?=some c->NN {X with vC:=X.vC.dropLast} c
theorem DX(X:HX)(c:A3):(X.xg c).vC=X.vC/\(X.xg c).vU.length>=X.vU.length/\(X.xg c).vH=X.vH/\(X.xg c).v8=X.v8:=by
 cases c with
 |made n=>
  have e:∀(l:X8) Y,(l.foldl HX.wB Y).vC=Y.vC/\(l.foldl HX.wB Y).vU.length>=Y.vU.length/\(l.foldl HX.wB Y).vH=Y.vH/\(l.foldl HX.wB Y).v8=Y.v8:=λl=>by
   induction l with
   |nil=>exactλY=>⟨rfl,ao _,rfl,rfl⟩
   |cons c l f=>
    intro Y;let⟨a,b,h,d⟩:=f (HX.wB Y c);exact⟨a,bg (by simp[HX.wB,HX.xq]) b,h,d⟩
  exact e _ X
 |vR s=>exact⟨rfl,ao _,rfl,rfl⟩
 |wY k m g i=>
  show(X.xE k m g i).vC=_/\(X.xE k m g i).vU.length>=_/\(X.xE k m g i).vH=_/\(X.xE k m g i).v8=_;unfold HX.xE;split
  .exact⟨rfl,ao _,rfl,rfl⟩
  .exact⟨rfl,by show(_++[_]).length>=_;simp[HX.z5],rfl,rfl⟩
theorem Ln(X:HX):X.xO.vC.length=X.vC.length-1/\X.xO.vU.length>=X.vU.length:=by
 unfold HX.xO;split
 .rename_i c h
  let⟨a,b,_⟩:=DX {X with vC:=X.vC.dropLast} c;exact⟨by rw[a];simp,b⟩
 .rename_i h
  rw[List.getLast?_eq_none_iff]at h;exact⟨by rw[h];rfl,ao _⟩
theorem Aa:∀(n:Nat) (X:HX),HX.wu (n+1) X=(HX.wu n X).xO
 |0,X=>rfl
 |n+1,X=>Aa n X.xO
theorem As:∀(n:Nat) (X:HX),(HX.wu n X).vC.length=X.vC.length-n/\(HX.wu n X).vU.length>=X.vU.length
 |0,X=>⟨rfl,ao _⟩
 |n+1,X=>by
  rw[Aa];let⟨a,b⟩:=As n X;let⟨c,d⟩:=Ln (HX.wu n X);exact⟨by rw[c,a];omega,bg b d⟩
theorem zw.cg(h:zw b {Y with vC:=d} a):zw b Y a:=λr c q=>h r c (by cases r<;>first|rfl|exact q)
theorem Ul{t pw:Nat}(T:X.vH=I++[(t,pw)])(hz:I.length<=10000)(hc:X.vC.length<=10000)(hu:∀j,j<X.vC.length-t->M8 (HX.wu j {X with vH:=I,vW:=X.vW+1})):VM w 17 525 .heap [] X X.pop .none:=by
 intro σ z F H;refine je UB λA n0 hr he=>?_;have u:=he.scope;have hA:=hr.handled;let W:Md:=[vr "self" (.ref (z .heap))];let v:Md:=vr "waiting" (.ref (z (.vU pw)))::vr "many" (.int t)::W;have el:X.vH.getLastD (0,0)=(t,pw):=by rw[T];simp
 have ed:X.vH.dropLast=I:=by rw[T];simp
 have a0:pw<X.vU.length:=H.ids.m (t,pw) (by rw[T];simp);apply aq (M:=λf h=>h=σ/\f=W) (dH (bf (eY (n:=I.length+1) u rfl (H.hf u rfl Ff rfl) (.vK (.m (H.get .vH _ rfl))) (by rw[T];simp) (by omega)) bC k8) (λq=>absurd q (by simp;omega)) λ_=>bw ⟨rfl,rfl⟩);rintro f h ⟨rfl,rfl⟩;let X1:HX:={X with vH:=I};refine aq (M:=λf h=>f=v/\wg h z X1 F) (bR (jZ (H.hf u rfl Ff rfl) (d:=encM z (t,pw)) (l:=I.map (encM z)) (by rw[H.get .vH _ rfl,T];simp) (by simp;omega) (kh hA .vV (bZ (ff u rfl (bZ (ff u rfl (gW ⟨rfl,?_⟩)))))))) ?_
 .exact H.Ny I λp V=>H.ids.m p (by rw[T];exact aR _ V)
 rintro f o0 ⟨rfl,H1⟩;let x:HX:={X1 with vW:=X.vW+1};refine aq (M:=λf h=>f=v/\wg h z x F) (bR ((cI (H1.hf u rfl Cb rfl) bC lQ).g (nk (O u rfl) (H1.get .heap _ rfl) (H1.get .wN _ rfl) J7 ⟨rfl,?_⟩ (by simp[yD])))) ?_
 .exact H1.Um (X.vW+1)
 rintro f p0 ⟨rfl,H2⟩;let m:=X.vC.length-t;refine aq (M:=λf h=>f=v/\∃l,zw z X l/\wg h l (HX.wu m x) F) (nv (λn f h=>f=v/\∃j l,j+n=m/\zw z X l/\wg h l (HX.wu j x) F) m ⟨rfl,0,z,by omega,zw.refl _ _,H2⟩ ?_) ?_
 .rintro n f e0 ⟨rfl,j,r,hj,L,C⟩
  let⟨l1,l2⟩:=As j x;have q0:(HX.wu j x).vC.length=X.vC.length-j:=l1;have f0:(HX.wu j x).vU.length>=X.vU.length:=l2;have M:=hu j;have hU:(HX.wu (j+1) x)=(HX.wu j x).xO:=Aa j x;have g0:HX.wu j {X with vH:=I,vW:=X.vW+1}=HX.wu j x:=rfl;rw[g0]at M;generalize hY:HX.wu j x=Y at*;have N:r .heap=z .heap:=L .heap (λ_=>by simp) rfl;refine⟨_,bf (eY u rfl (C.hf u (by rw[N];rfl) nF rfl) (.vK (.m (C.get .vC _ rfl))) (az ..) (by omega)) (O u rfl) rA,λhb=>?_,λhb=>?_⟩
  .have P:t<Y.vC.length:=by simpa using hb
   obtain⟨c,Q⟩:∃c,Y.vC.getLast?=some c:=⟨_,fR (by intro e;rw[e]at P;simp at P)⟩;have M:=M (by omega) c Q;obtain⟨G,E⟩:∃G,Y.vC=G++[c]:=qY.mp Q;have b0:Y.vC.dropLast=G:=by rw[E];simp
   have h0:Y.xO=HX.xg {Y with vC:=G} c:=by unfold HX.xO;rw[Q];simp only;rw[b0]
   rw[b0]at M;have r0:G.length<=10000:=by
    have:Y.vC.length=G.length+1:=by rw[E];simp
    omega
   have i0:∀p∈G,p.id<Y.vU.length:=λp V=>C.ids.c p (by rw[E];exact aR _ V);have m0:c.id<Y.vU.length:=C.ids.c c (by rw[E];simp);let Y1:HX:={Y with vC:=G};let R:Md:=vr "change" (encC r c)::v;refine dj (aq (M:=λf h=>f=R/\wg h r Y1 F) (bR (jZ (C.hf u (by rw[N];rfl) nF rfl) (d:=encC r c) (l:=G.map (encC r)) (by rw[C.get .vC _ rfl,E];simp) (by simp;omega) (ff u rfl ⟨rfl,C.AO G i0⟩))) ?_);rintro f c0 ⟨rfl,y⟩;refine aq (M:=λf h=>f=R/\∃l,zw r Y l/\wg h l (HX.xg Y1 c) F) ?_ λf s0 ⟨e,j0,k0,H5⟩=>bw ⟨v,by rw[e];exact dW rfl,n-1,by omega,rfl,j+1,j0,by omega,L.trans k0 f0,by rw[hU,h0];exact H5⟩;cases c with
   |made k=>
    refine dH (bf (c7 (O u rfl) bC rfl rfl) cS oY) (λ_=>?_) λq=>absurd q (by decide+kernel);exact aq (eK u (cU (O u (by rw[N];rfl)) (y.get .heap _ rfl) (y.get .wN _ rfl) OZ rfl AP.2 hr ((bq rfl (c7 (O u rfl) bC rfl rfl)).gs ((Lj M c0 r F y).room (by omega) |>.mono λd h ⟨_,l,S,H'⟩=>⟨rfl,l,S.cg,H'⟩)))) λf h q=>bw q
   |vR s=>
    refine dH (bf (c7 (O u rfl) bC rfl rfl) cS oY) (λq=>absurd q (by decide+kernel)) λ_=>aq (dH (bf (c7 (O u rfl) bC rfl rfl) cS oY) (λ_=>?_) λq=>absurd q (by decide+kernel)) λ_ _ q=>bw q;let⟨hk,l0,d0⟩:=M;let⟨⟨s',o⟩,V,e⟩:=aa.mp hk;dsimp only at e;subst e;refine aq (M:=λf h=>f=R/\∃l,zw r Y l/\wg h l (HX.xg Y1 (.vR s')) F) (SE.K0 hr (y.hf u (by rw[N];rfl) Fg rfl) (c7 (O u rfl) bC rfl rfl) (y.get .vR _ rfl) (jQ (d0 _ V).1) (CD d0) (aa.mpr ⟨_,V,rfl⟩) (by simp[wZ];exact bg l0 (by decide)) ⟨rfl,r,zw.refl _ _,?_⟩) λf h q=>bw q;have:=y.Nz (xT Y1.vR s');rw[j9,<-tR gc]at this;exact this
   |wY a b g i=>
    refine dH (bf (c7 (O u rfl) bC rfl rfl) cS oY) (λq=>absurd q (by decide+kernel)) λ_=>aq (dH (bf (c7 (O u rfl) bC rfl rfl) cS oY) (λq=>absurd q (by decide+kernel)) λ_=>?_) λ_ _ q=>bw q;exact aq (eK u (cU (O u (by rw[N];rfl)) (y.get .heap _ rfl) (y.get .wN _ rfl) O0 rfl CN.2 hr ((bq rfl (O u rfl)).gs ((Ll M y).room (by omega) |>.mono λd h ⟨_,l,S,H'⟩=>⟨rfl,l,zw.cg S.d,H'⟩)))) λf h q=>bw q
  .have P:¬t<Y.vC.length:=by simpa using hb
   have:j=m:=by omega
   rw[<-this,hY];exact⟨rfl,r,L,C⟩
 rintro f e0 ⟨rfl,r,L,C⟩;have l2:=(As m x).2;have N:r .heap=z .heap:=L .heap (λ_=>by simp) rfl;have hd:r (.vU pw)=z (.vU pw):=L (.vU pw) (λ_=>by simp) (by simp[vY,a0]);have y:=C.VY pw (c9 a0 l2);refine aq (M:=λf h=>f=v/\wg h r X.pop F) (bR ((O u rfl).g (nk (O u (by rw[N];rfl)) (C.get .heap _ rfl) (C.get .wN _ rfl) D5 ⟨rfl,?_⟩ (by simp[yD])))) λf c0 ⟨e,y⟩=>bw ⟨rfl,r,L,y⟩;have ep:X.pop={HX.wu m x with v8:=pw}:=by unfold HX.pop;rw[el,ed]
 rw[ep,<-hd];exact y
structure Fr(σ0 σ:St)(L:List (Nat×wQ)):Prop where
 nd:(L.map (·.1)).Nodup
 nw:∀p∈L,σ0.μ p.1=none
 c:∀p∈L,σ.μ p.1=some p.2
 old:∀n c,σ0.μ n=some c->σ.μ n=some c
theorem Fr.nil(a:St):Fr a a []:=⟨.nil,λ_ h=>(nomatch h),λ_ h=>(nomatch h),λ_ _ h=>h⟩
def o7:=@Fr.nil
theorem Fr.new{b f:St}{L:List (Nat×wQ)}(h:Fr b f L){n:Nat}{c:wQ}(i:f.μ n=none):Fr b (f.put n c) ((n,c)::L):=by
 have g:∀m d,f.μ m=some d->m≠n:=λm d e q=>by rw[q,i]at e;cases e
 have j:b.μ n=none:=by
  cases e:b.μ n with
  |none=>rfl
  |some d=>exact absurd rfl (g n d (h.old n d e))
 refine⟨bx.mpr ⟨λq=>?_,h.nd⟩,λp a=>?_,λp a=>?_,λm d e=>?_⟩
 .obtain⟨p,a,e⟩:=aa.mp q
  exact g _ _ (h.c p a) e
 .rcases aG.mp a with rfl|a
  .exact j
  .exact h.nw p a
 .rcases aG.mp a with rfl|a
  .exact cj _ _ _
  .rw[dD (g _ _ (h.c p a))];exact h.c p a
 .rw[dD (g _ _ (h.old m d e))];exact h.old m d e
theorem Fr.upd{b f:St}{L:List (Nat×wQ)}{n:Nat}{c g:wQ}(h:Fr b f ((n,c)::L)):Fr b (f.put n g) ((n,g)::L):=by
 obtain⟨i,hd⟩:=bx.mp h.nd;refine⟨h.nd,λp a=>?_,λp a=>?_,λm d e=>?_⟩
 .rcases aG.mp a with rfl|a
  .exact h.nw (n,c) (.head _)
  .exact h.nw p (.tail _ a)
 .rcases aG.mp a with rfl|a
  .exact cj _ _ _
  .rw[dD λq=>i (aa.mpr ⟨p,a,q⟩)];exact h.c p (.tail _ a)
 .rw[dD λq=>by have:=h.nw (n,c) (.head _);rw[q,this]at e;cases e];exact h.old m d e
theorem Fr.app{g j i:St}{L M:List (Nat×wQ)}(h:Fr g j L)(k:Fr j i M):Fr g i (M++L):=by
 refine⟨?_,λp f=>?_,λp f=>?_,λn c e=>k.old n c (h.old n c e)⟩
 .rw[aL,b6]
  refine⟨k.nd,h.nd,λa m b o e=>?_⟩;obtain⟨p,f,rfl⟩:=aa.mp m;obtain⟨q,r,rfl⟩:=aa.mp o;have l:=k.nw p f;rw[e,h.c q r]at l;cases l
 .rcases aB.mp f with f|f
  .cases e:g.μ p.1 with
   |none=>rfl
   |some d=>have:=h.old _ _ e;rw[k.nw p f]at this;cases this
  .exact h.nw p f
 .rcases aB.mp f with f|f
  .exact k.c p f
  .exact k.old _ _ (h.c p f)
theorem Fr.perm{a d:St}{L M:List (Nat×wQ)}(h:Fr a d L)(p:L.Perm M):Fr a d M:=⟨(p.map _).nodup_iff.mp h.nd,λq b=>h.nw q (p.mem_iff.mpr b),λq b=>h.c q (p.mem_iff.mpr b),h.old⟩
abbrev Ob(a b:St)(x m:Nat)(C:YB)(c:Yr)(L:List (Nat×wQ)):Prop:=Fr a b ((m,.ns c)::(x,.inst C m)::L)
section
variable{w:Yz}{A:YA}{env:Env}{md:Md}{σ σ0:St}
theorem SE.attr{S:Scope}{a:YD}{attr:Str}{p f g:Pos}{x m:Nat}{C:YB}{c:Yr}{L:List (Nat×wQ)}{Q:D->List (Nat×wQ)->Prop}{P:X5}(o:Ob σ0 σ x m C c L)(n:env.scope=S)(r:look S.names md "self"=some (.ref x))(s:yi w C attr)(t:c.length<=900)(h:GE w A env md σ (eval a env) λd e=>∃b,Fr σ e b/\Q d b)(u:(assignEach [.Attribute (.Name "self" p) attr f] env).map (·.2)=[PySem.assign (.Attribute (.Name "self" p) attr f) env]:=by rfl)(j:swappedStores [.Attribute (.Name "self" p) attr f] a env=pure none:=by rfl)(v:swapsWithSole [.Attribute (.Name "self" p) attr f] a g.line env=pure false:=by rfl):
 SE w A env md σ (exec (.Assign [.Attribute (.Name "self" p) attr f] a g) env) (λk l=>k=md/\∃d b,Q d b/\Ob σ0 l x m C (Cf c attr d) (b++L)) P:=by
 refine bR (GE.mono h λd e ⟨b,y,q⟩=>?_) u j v;have i:Ob σ0 e x m C c (b++L):=(o.app y).perm (by
  have z:(b++((m,wQ.ns c)::(x,wQ.inst C m)::L)).Perm (((m,wQ.ns c)::(x,wQ.inst C m)::L)++b):=tE;exact z.trans (by simp only[List.cons_append];exact .cons _ (.cons _ tE)))
 exact nk (O n r) (i.c (x,.inst C m) (.tail _ (.head _))) (i.c (m,.ns c) (.head _)) s ⟨rfl,d,b,q,i.upd⟩ t
def fF:=@SE.attr
abbrev QL(d:D)(a:List (Nat×wQ)):Prop:=∃n,d= .ref n/\a=[(n,.vK [])]
abbrev QD(d:D)(a:List (Nat×wQ)):Prop:=∃n,d= .ref n/\a=[(n,.wc [])]
theorem vL{a:Pos}:GE w A env md σ (eval (.List [] a) env) λd b=>∃c,Fr σ b c/\QL d c:=kg (jg bG) λn e=>⟨_,(o7 σ).new e,n,rfl,rfl⟩
theorem vD{a:Pos}:GE w A env md σ (eval (.Dict [] [] a) env) λd b=>∃c,Fr σ b c/\QD d c:=oq jy λn e=>⟨_,(o7 σ).new e,n,rfl,rfl⟩
theorem v0{a:Pos}{n:Nat}:GE w A env md σ (eval (.Constant (.int 0) n a) env) λd b=>∃c,Fr σ b c/\d= .int 0/\c=[]:=bC.g ⟨[],o7 σ,rfl,rfl⟩
def KX:Fd 98:=⟨_,rfl⟩
theorem OL{w:Yz}:wK w 98 KX.1 ["self"]:=.ok KX
theorem Q4{w:Yz}:yi w 186 "nodes":={}
theorem LA{w:Yz}:yi w 186 "numbers":={}
theorem Lz{w:Yz}:yi w 186 "weights":={}
theorem N8{w:Yz}:yi w 186 "depths":={}
theorem P6:CF w 2 (.ref 186) [] σ λd j=>∃L,Fr σ j L/\∃x m a b c e,d= .ref x/\L=[(m,.ns [("nodes",.ref a),("numbers",.ref b),("weights",.ref c),("depths",.ref e)]),(x,.inst 186 m),(e,.vK []),(c,.vK []),(b,.wc []),(a,.vK [])]:=by
 refine sC (fI:=98) (λw=>by kernel_rfl) (λw=>by kernel_rfl) (λw=>by kernel_rfl) λx m k l n=>?_;have o:Ob σ ((σ.put m (.ns [])).put x (.inst 186 m)) x m 186 [] []:=(((o7 σ).new l).new (by rw[dD n];exact k)).perm (.swap ..);refine je OL λA env q p=>?_;have i:=p.scope;refine aq (fF o i (by rfl) Q4 (aI rfl) vL) ?_;rintro g h ⟨rfl,_,_,⟨a,rfl,rfl⟩,f⟩;refine aq (fF f i (by rfl) LA (aI rfl) vD) ?_;rintro g h ⟨rfl,_,_,⟨b,rfl,rfl⟩,f⟩;refine aq (fF f i (by rfl) Lz (aI rfl) vL) ?_;rintro g h ⟨rfl,_,_,⟨c,rfl,rfl⟩,f⟩;refine aq (fF f i (by rfl) N8 (aI rfl) vL) ?_;rintro g h ⟨rfl,_,_,⟨e,rfl,rfl⟩,f⟩;exact bw ⟨rfl,_,f,x,m,a,b,c,e,rfl,rfl⟩
def KV:Fd 290:=⟨_,rfl⟩
theorem Ov{w:Yz}:wK w 290 KV.1 ["self"]:=.ok KV
theorem Q8{w:Yz}:yi w 354 "above":={}
theorem Uh{w:Yz}:yi w 354 "lots":={}
theorem N5{w:Yz}:yi w 354 "merged":={}
theorem EC{x m:Nat}{C:YB}(a:σ.μ x=none)(b:σ.μ m=none)(c:x≠m):Ob σ ((σ.put m (.ns [])).put x (.inst C m)) x m C [] []:=(((o7 σ).new b).new (by rw[dD c];exact a)).perm (.swap ..)
theorem QM:CF w 2 (.ref 354) [] σ λd i=>∃L,Fr σ i L/\∃x m a b c,d= .ref x/\L=[(m,.ns [("above",.ref a),("lots",.ref b),("merged",.ref c)]),(x,.inst 354 m),(c,.vK []),(b,.vK []),(a,.vK [])]:=by
 refine sC (fI:=290) (λw=>by kernel_rfl) (λw=>by kernel_rfl) (λw=>by kernel_rfl) λx m j k l=>?_;have o:=EC (C:=354) j k l;refine je Ov λA env p n=>?_;have h:=n.scope;refine aq (fF o h (by rfl) Q8 (aI rfl) vL) ?_;rintro f g ⟨rfl,_,_,⟨a,rfl,rfl⟩,e⟩;refine aq (fF e h (by rfl) Uh (aI rfl) vL) ?_;rintro f g ⟨rfl,_,_,⟨b,rfl,rfl⟩,e⟩;refine aq (fF e h (by rfl) N5 (aI rfl) vL) ?_;rintro f g ⟨rfl,_,_,⟨c,rfl,rfl⟩,e⟩;exact bw ⟨rfl,_,e,x,m,a,b,c,rfl,rfl⟩
def B9:Fd 372:=⟨_,rfl⟩
theorem OE{w:Yz}:wK w 372 B9.1 ["self"]:=.ok B9
def AK:Fd 504:=⟨_,rfl⟩
theorem LW{w:Yz}:AF w 504 AK.1 ["self"] 492:=.of AK.2 (by rfl) (by rfl) (by rfl) (by decide+kernel)
theorem Vb{w:Yz}:nsIn (KF w) mainGlobals "Bank"=some (some (.ref 186)):=by kernel_rfl
theorem PC{w:Yz}:nsIn (KF w) mainGlobals "Unions"=some (some (.ref 354)):=by kernel_rfl
theorem Ui{w:Yz}:yi w 556 "bank":={}
theorem N4{w:Yz}:yi w 556 "unions":={}
theorem Q7{w:Yz}:yi w 556 "edges":={}
theorem N7{w:Yz}:yi w 556 "forest":={}
theorem Q6{w:Yz}:yi w 556 "known":={}
theorem N6{w:Yz}:yi w 556 "above":={}
theorem LB{w:Yz}:yi w 556 "changes":={}
theorem Q5{w:Yz}:yi w 556 "marks":={}
def Nn(d:D)(L:List (Nat×wQ)):Prop:=∃x m a b c e,d= .ref x/\L=[(m,.ns [("nodes",.ref a),("numbers",.ref b),("weights",.ref c),("depths",.ref e)]),(x,.inst 186 m),(e,.vK []),(c,.vK []),(b,.wc []),(a,.vK [])]
def TX(d:D)(L:List (Nat×wQ)):Prop:=∃x m a b c,d= .ref x/\L=[(m,.ns [("above",.ref a),("lots",.ref b),("merged",.ref c)]),(x,.inst 354 m),(c,.vK []),(b,.vK []),(a,.vK [])]
abbrev XO(a b:D)(c d e f g:Nat):Yr:=[("bank",a),("unions",b),("edges",.ref c),("forest",.ref d),("known",.ref e),("above",.ref f),("waiting",.ref g),("backs",.int 0)]
theorem Pk{x m:Nat}(o:Ob σ0 σ x m 556 [] []):CF w 3 (.ref 372) [.ref x] σ λd s=>d= .none/\∃g h i j k l n p r,Nn g h/\TX i j/\Ob σ0 s x m 556 (XO g i k l n p r) ((r,.vK [])::(p,.wc [])::(n,.wc [])::(l,.vK [])::(k,.vK [])::(j++(h++[]))):=by
 refine je OE λA env t u=>?_;have e:=u.scope;refine aq (fF (Q:=Nn) o e (by rfl) Ui (aI rfl) (mY (dJ e (by rfl) Vb) (by rfl) t (eZ bG ((P6.room (by omega)).mono λd a ⟨L,f,q⟩=>⟨L,f,q⟩)))) ?_;rintro c a ⟨rfl,g,h,v,b⟩;refine aq (fF (Q:=TX) b e (by rfl) N4 (aI rfl) (mY (dJ e (by rfl) PC) (by rfl) t (eZ bG ((QM.room (by omega)).mono λd a ⟨L,f,q⟩=>⟨L,f,q⟩)))) ?_;rintro c a ⟨rfl,i,j,y,b⟩;refine aq (fF b e (by rfl) Q7 (aI rfl) vL) ?_;rintro c a ⟨rfl,_,_,⟨k,rfl,rfl⟩,b⟩;refine aq (fF b e (by rfl) N7 (aI rfl) vL) ?_;rintro c a ⟨rfl,_,_,⟨l,rfl,rfl⟩,b⟩;refine aq (fF b e (by rfl) Q6 (aI rfl) vD) ?_;rintro c a ⟨rfl,_,_,⟨n,rfl,rfl⟩,b⟩;refine aq (fF b e (by rfl) N6 (aI rfl) vD) ?_;rintro c a ⟨rfl,_,_,⟨p,rfl,rfl⟩,b⟩;refine aq (fF b e (by rfl) D5 (aI rfl) vL) ?_;rintro c a ⟨rfl,_,_,⟨r,rfl,rfl⟩,b⟩;refine aq (fF b e (by rfl) J7 (aI rfl) v0) ?_;rintro c a ⟨rfl,_,_,⟨rfl,rfl⟩,b⟩;exact bw ⟨rfl,g,h,i,j,k,l,n,p,r,v,y,b⟩
theorem NX{w:Yz}:J2 w 504 AK.1 AK.1.scope 492 556 556 "__init__" 372 B9.1 where
 k:=AK.2
 sc:=rfl
 Qo:=by rfl
 hks:=by rfl
 hkc:=by rfl
 hka:=by rfl
 hk:=by rfl
 hat:=by rfl
 hp:=⟨_,by rfl,by rfl⟩
 W2:=⟨_,_,_,_,_,_,_,by rfl,by rfl,by rfl,by rfl⟩
 top:=by rfl
 cell:=⟨_,_,_,by rfl⟩
 hD:=⟨_,by rfl⟩
 hC:=⟨_,by rfl,by kernel_rfl⟩
 sub:=by kernel_rfl
 any:=by kernel_rfl
 sup:=by kernel_rfl
 k2:=B9.2
theorem wg.of{T:List (Rl×Nat×wQ)}{X:HX}{d:Yv}{F:Fz}(f:Fr σ0 σ (T.map (·.2)))(t:∀r c,vY d X r=some c->(r,d r,c)∈T)(u:∀n c,F n c->σ0.μ n=some c)(ids:Cj X):wg σ d X F:=by
 have g:∀r,(vY d X r).isSome=true->∃c,(r,d r,c)∈T:=λr h=>by
  obtain⟨c,e⟩:=aT.mp h;exact⟨c,t r c e⟩
 refine⟨λr c h=>f.c (d r,c) (aa.mpr ⟨_,t r c h,rfl⟩),λa b k l e=>?_,λn c h=>f.old n c (u n c h),λr n c k l e=>?_,ids⟩
 .obtain⟨v,m⟩:=g a k
  obtain⟨G,z⟩:=g b l;have o:=f.nd;rw[bD]at o;change(T.map λp:Rl×Nat×wQ=>p.2.1).Nodup at o;obtain⟨i,C,x⟩:=bS m;obtain⟨j,E,q⟩:=bS z;have:i=j:=(jB (xs:=T.map λp:Rl×Nat×wQ=>p.2.1) (i:=i) (j:=j) (h₀:=by simpa using C) (h₁:=by simpa using E) o).mp (by simp[x,q,e]);subst this;rw[x]at q;injection q
 .obtain⟨v,m⟩:=g r k
  have y:=f.nw (d r,v) (aa.mpr ⟨_,m,rfl⟩);have s:=u n c l;rw[<-e]at s;dsimp only at y;rw[y]at s;cases s
theorem Jt{F:Fz}(hF:∀n c,F n c->σ.μ n=some c):CF w 5 (.ref 556) [] σ λd b=>∃e,d= .ref (e .heap)/\wg b e HX.empty F:=by
 refine sC (fI:=504) (λw=>by kernel_rfl) (λw=>by kernel_rfl) (λw=>by kernel_rfl) λx m hx hm ne=>?_;have o:=EC (C:=556) hx hm ne;refine CF.Xv LW λA env hr L H=>?_;have u:=L.scope;let I:Md:=[vr "self" (.ref x)];refine nj (M:=λa b=>a=I/\∃v y z C j k l s t,Nn v y/\TX z C/\Ob σ b x m 556 (XO v z j k l s t) ((t,.vK [])::(s,.wc [])::(l,.wc [])::(k,.vK [])::(j,.vK [])::(C++(y++[])))) (ST.expr (GT.super NX L H (by rfl) (o.c (x,.inst 556 m) (.tail _ (.head _))) hr (eZ bG ((Pk o).mono λd b q=>⟨rfl,q.2⟩))) (by unfold interactive;rw[u];rfl)) ?_;rintro a g ⟨rfl,v,y,z,C,j,k,l,s,t,⟨M,E,N,P,Q,R,rfl,rfl⟩,⟨S,G,T,V,W,rfl,rfl⟩,f⟩;refine tG (aq (fF f u (by rfl) LB (aI rfl) vL) ?_);rintro a g ⟨rfl,_,_,⟨X,rfl,rfl⟩,f⟩;refine aq (fF f u (by rfl) Q5 (aI rfl) vL) ?_;rintro a g ⟨rfl,_,_,⟨Y,rfl,rfl⟩,f⟩;refine aq (fF f u (by rfl) Iq (aI rfl) v0) ?_;rintro a g ⟨rfl,_,_,⟨rfl,rfl⟩,f⟩;let e:Yv:=λ| .heap=>x| .wN=>m| .yh=>M| .yP=>E| .nodes=>N| .numbers=>P| .yc=>Q| .yR=>R| .yE=>S| .zO=>G| .up=>T| .vI=>V| .vN=>W| .vF=>j| .vO=>k| .vR=>l| .vE=>s| .vC=>X| .vH=>Y| .xH _=>0| .vU _=>t
 refine bw ⟨rfl,e,rfl,wg.of (σ0:=σ) (T:=[(.wN,m,.ns (yD e HX.empty)),(.heap,x,.inst 556 m),(.vH,Y,.vK []),(.vC,X,.vK []),(.vU 0,t,.vK []),(.vE,s,.wc []),(.vR,l,.wc []),(.vO,k,.vK []),(.vF,j,.vK []),(.zO,G,.ns (JQ e)),(.yE,S,.inst 354 G),(.vN,W,.vK []),(.vI,V,.vK []),(.up,T,.vK []),(.yP,E,.ns (EN e)),(.yh,M,.inst 186 E),(.yR,R,.vK []),(.yc,Q,.vK []),(.numbers,P,.wc []),(.nodes,N,.vK [])]) f (λr c h=>?_) hF ⟨by decide,λp h=>(nomatch h),λp h=>(nomatch h),λp h=>(nomatch h)⟩⟩;cases r with
 |xH i=>cases h
 |vU i=>
  cases i with
  |zero=>cases h;exact .tail _ (.tail _ (.tail _ (.tail _ (.head _))))
  |succ i=>cases h
 |_=>cases h;repeat (first|exact .head _|apply List.Mem.tail)
end
abbrev Tb:=List (Bool×Nat)
abbrev Ym:=List Tb
def HX.Nd(X:HX)(c:Nat)(s:Row):Prop:=∃n∈X.vI.getD (X.vQ c) [],s=X.sig n
def HX.M(X:HX):Pt->Nat->Tb->Tb->Prop
 | .v b,c,t,a=>a=wJ t b c/\(vJ t b).getD c=c
 | .f p,c,t,a=>∃k,X.Nd c ("f",[k])/\X.M p k t a
 | .g p q,c,t,a=>∃k l d,X.Nd c ("g",[k,l])/\X.M p k t d/\X.M q l d a
def HX.MV(X:HX):Pt->Nat->(Bool->Nat)->Prop
 | .v b,c,v=>v b=c
 | .f p,c,v=>∃k,X.Nd c ("f",[k])/\X.MV p k v
 | .g p q,c,v=>∃k l,X.Nd c ("g",[k,l])/\X.MV p k v/\X.MV q l v
def Pt.has:Pt->Bool->Bool
 | .v a,b=>decide (a=b)
 | .f p,b=>p.has b
 | .g p q,b=>p.has b||q.has b
def Pt.vs(p:Pt):Yj:=[false,true].filter p.has
def Ah(N:Nat):Yj->Ym
 |[]=>[[]]
 |b::r=>(List.range N).flatMap λc=>(Ah N r).map ((b,c)::·)
def val(s:Tb)(b:Bool):Nat:=(vJ s b).getD 0
open Classical in
noncomputable def HX.yw(X:HX)(p:Pt)(c:Nat):Ym:=(Ah X.up.length p.vs).filter λs=>decide (X.MV p (X.vQ c) (val s))
def Pt.bd:Pt->Nat
 | .v _=>1
 | .f p=>13*p.bd
 | .g p q=>13*(p.bd*q.bd)
theorem SE.Sm(S:T.lookup x=some (.ref n))(V:W.μ n=some (.wc X))(h:SE w A L ((x,.wc X)::T) (W.drop n) t N P):SE w A L T W t N P:=by
 intro g R p s E Q F k1 k2;let⟨a,o,C,_⟩:=F.G.cell n _ V;let⟨o,G,hc,u,e,G'⟩:=F.G.Ba V C;have z:=F.F.mono u (aE p);have i:=F.G.low a (aH C);have Y:∀v,Rd w G p v (.ref n)->Rd w G p v (.wc X):=λv r=>by
  cases r with
  |ref q=>
   rw[C]at q;cases q;cases hc with
   |wc r kf=>exact .wc ⟨i,_,e⟩ (r.mono u (aE _)) kf
 refine h G R p s E Q ⟨G',{z with loc:=?_,FP:=?_}⟩ (λH I R2 j M k f F2 l n=>k1 H I R2 j M k ⟨f.gens,f.os,u.trans f.le,f.pre⟩ F2 l n)
  λv H I R2 j d k f G2 l rd y=>k2 v H I R2 j d k ⟨f.gens,f.os,u.trans f.le,f.pre⟩ G2 l rd y
 .let⟨o,es,ep,m,h1,h2,h3,h4,h5⟩:=z.loc
  refine⟨o,es,ep,m,h1,h2,h3,h4,λy d b i=>?_⟩;rw[bH]at b;by_cases c:y=x
  .subst c;rw[B rfl]at b;cases b
   let⟨v,q,r⟩:=h5 y _ S i;exact⟨v,q,Y v r⟩
  .rw[J c]at b;exact h5 y d b i
 .intro y d b i
  rw[bH]at b;by_cases c:y=x
  .subst c;rw[B rfl]at b;cases b
   let⟨c',o2,v2,q1,q2,q3,q4⟩:=z.FP y _ S i;exact⟨c',o2,v2,q1,q2,q3,Y v2 q4⟩
  .rw[J c]at b;exact z.FP y d b i
def BG(t:Tb):Yh:=t.map λp=>(.str (wU p.1),.int (p.2:Nat))
def xS(t:Tb):D:=.vV (t.map λp=>.vV [.str (wU p.1),.int (p.2:Nat)])
theorem Lg(a b:Bool)(h:D.str (wU a)= .str (wU b)):a=b:=by
 injection h with h
 cases a<;>cases b<;>first|rfl|exact absurd h (by decide+kernel)
def lH:=@Lg
def Vo(S:Scope)(t:Str)(a:Scope):Bool:=(if S.kind.isAnnotationScope then ScopeKind.function else S.kind)==.function&&S.names.lookup t==some .local&&!(a.names.any λ(n,k)=>n==t&&(k==.local||k==.cell))
theorem JR(f:b.scope=S)(h:Vo S x a=true)(g:(p.line==c.line)=true):swapsWithSole [.Name x p] (.ListComp i d a c) e b=pure true:=by
 show(pure (b.blockKind==.function&&b.kindOf x==some .local&&p.line==c.line&&!(a.names.any λ(n,k)=>n==x&&(k==.local||k==.cell))):Sem Bool)=_;unfold Env.blockKind Env.kindOf;rw[f,g,jH];exact aU pure h
theorem Td(f:b.scope=S)(h:Vo S x a=true)(g:(p.line==c.line)=true):swapsWithSole [.Name x p] (.DictComp i j d a c) e b=pure true:=by
 show(pure (b.blockKind==.function&&b.kindOf x==some .local&&p.line==c.line&&!(a.names.any λ(n,k)=>n==x&&(k==.local||k==.cell))):Sem Bool)=_;unfold Env.blockKind Env.kindOf;rw[f,g,jH];exact aU pure h
def Pt.op:Pt->Str
 | .v b=>wU b
 | .f _=>"f"
 | .g _ _=>"g"
theorem EL(p:Pt):p.enc= .vV (.str p.op::p.wI.map Pt.enc):=by cases p<;>rfl
def HX.MS(X:HX):List (Nat×Pt)->Tb->Tb->Prop
 |[],t,a=>a=t
 |(k,p)::r,t,a=>∃b,X.M p k t b/\X.MS r b a
theorem EW{X:HX}:∀{l:List (Nat×Pt)} {t:Tb},X.MS (l++[(k,p)]) t d↔∃c,X.MS l t c/\X.M p k c d
 |[],t=>⟨λ⟨c,h,e⟩=>⟨t,rfl,by rw[show d=c from e];exact h⟩,λ⟨c,e,h⟩=>⟨d,by rw[show c=t from e]at h;exact h,rfl⟩⟩
 |(g,i)::l,t=>⟨λ⟨c,h,r⟩=>by let⟨f,a,b⟩:=EW.mp r;exact⟨f,⟨c,h,a⟩,b⟩,λ⟨f,⟨c,h,a⟩,b⟩=>⟨c,h,EW.mpr ⟨f,a,b⟩⟩⟩
def HX.MR(X:HX)(p:Pt)(s:Row)(t a:Tb):Prop:=(s.1=p.op/\s.2.length=p.wI.length)/\X.MS (s.2.zip p.wI) t a
theorem Vk{X:HX}(h:p.yO=false):X.M p c t d↔∃s,X.Nd c s/\X.MR p s t d:=by
 cases p with
 |v b=>cases h
 |f p=>
  constructor
  .rintro⟨k,n,m⟩;exact⟨_,n,⟨rfl,rfl⟩,d,m,rfl⟩
  .rintro⟨⟨o,i⟩,n,⟨e1,j⟩,m⟩
   match i,j with
   |[k],_=>
    obtain⟨a,m,e⟩:=m;cases e;dsimp only at e1;subst e1;exact⟨k,n,m⟩
 |g p q=>
  constructor
  .rintro⟨k,l,a,n,r,u⟩;exact⟨_,n,⟨rfl,rfl⟩,a,r,d,u,rfl⟩
  .rintro⟨⟨o,i⟩,n,⟨e1,j⟩,m⟩
   match i,j with
   |[k,l],_=>
    let⟨a,r,w,u,e⟩:=m;cases e;dsimp only at e1;subst e1;exact⟨k,l,a,n,r,u⟩
def Ce:List Pt->Nat
 |[]=>1
 |p::r=>p.bd*Ce r
theorem EM:∀p:Pt,1<=p.bd
 | .v _=>ao _
 | .f p=>by have:=EM p;show 1<=13*_;omega
 | .g p q=>by have:=ji (EM p) (EM q);show 1<=13*_;omega
theorem Hs:∀{l:List Pt},Ce (l++[p])=Ce l*p.bd
 |[]=>by show p.bd*1=1*_;omega
 |q::l=>by show q.bd*Ce (l++[p])=q.bd*Ce l*p.bd;rw[Hs,Nat.mul_assoc]
theorem Fe:∀{l m:List Pt},Ce l<=Ce (l++m)
 |[],m=>by
  show 1<=Ce m;induction m with
  |nil=>exact ao _
  |cons q m a=>exact ji (EM q) a
 |q::l,m=>uD _ Fe
theorem K6{p:Pt}(h:p.yO=false):p.bd=13*Ce p.wI:=by
 cases p with
 |v b=>cases h
 |f p=>show 13*p.bd=13*(p.bd*1);rw[Nat.mul_one]
 |g p q=>show 13*(p.bd*q.bd)=13*(p.bd*(q.bd*1));rw[Nat.mul_one]
def zf(t:Tb):Prop:=(t.map (·.1)).Nodup
theorem zf.len(h:zf t):t.length<=2:=by
 have a:∀l:Yj,l.Nodup->l.length<=2:=λl h=>by
  have:∀b∈l,b∈[false,true]:=λb _=>by cases b<;>decide
  exact(eE h this)
 have:=a _ h
 rwa[az]at this
theorem An{K V:Type}[DecidableEq K]{l:List (K×V)}{k:K}{v:V}:(wJ l k v).map (·.1)=if k∈l.map (·.1)then l.map (·.1)else l.map (·.1)++[k]:=by
 unfold wJ;split
 .rw[bD]
  exact aK λp _=>by simp only[Function.comp];split<;>rfl
 .simp
theorem zf.set{t:Tb}(h:zf t)(b)(c):zf (wJ t b c):=by
 unfold zf;rw[An];split
 .exact h
 .rename_i q
  exact b6.mpr ⟨h,by simp,λx a y d e=>q (by rw[<-aj.mp d,<-e];exact a)⟩
theorem M9{X:HX}:∀{p:Pt} {c:Nat} {t a:Tb},X.M p c t a->zf t->zf a
 | .v b,c,t,a,⟨e,_⟩,h=>by rw[e];exact h.set b c
 | .f p,c,t,a,⟨k,_,m⟩,h=>M9 m h
 | .g p q,c,t,a,⟨k,l,g,_,d,f⟩,h=>M9 f (M9 d h)
theorem Tz{X:HX}:∀{l:List (Nat×Pt)} {t a:Tb},X.MS l t a->zf t->zf a
 |[],t,a,e,h=>by rw[show a=t from e];exact h
 |(k,p)::r,t,a,⟨c,m,b⟩,h=>Tz b (M9 m h)
def J1:Fd 209:=⟨_,rfl⟩
theorem UJ(w):wK w 209 J1.1 ["self","table","c","pattern"]:=.of J1.2 rfl (by decide+kernel)
theorem To(w):wA w 224 "extended" 209:=⟨by kernel_rfl,by kernel_rfl,by kernel_rfl⟩
theorem La(w):wO w 224 "heap":=⟨by kernel_rfl,by kernel_rfl,by kernel_rfl⟩
abbrev tD(t:Tb):D:=.wc (BG t)
theorem Ub(t):BG t=zc (λb=>D.str (wU b)) (λn:Nat=>D.int n) t:=rfl
theorem Wl(t):∀p∈BG t,p.1.kd=some 1:=λp a=>by obtain⟨q,_,rfl⟩:=aa.mp a;rfl
def tH:=@Wl
structure Xe(F:Fz)(nm:Yv)(wk wd:Nat):Prop where
 i:F wk (.inst 224 wd)
 n:F wd (.ns [("heap",.ref (nm .heap))])
theorem HZ(o:Af X)(W:Xe F nm wk wd):∀(p:Pt),p.bd<=1000->∀(σ:St) (t:Tb) (c:Nat),wg σ nm X F->zf t->c<X.up.length->CF w (15+p.depth) (.ref 209) [.ref wk,tD t,.int c,p.enc] σ λd u=>u=σ/\∃G:Ym,d= .vK (G.map tD)/\(∀I,I∈G↔X.M p c t I)/\G.length<=p.bd:=by
 intro p;induction h:p.depth using Nat.strongRecOn generalizing p with
 |_ n ih=>
 intro hb σ t c H ht hc;have hn:n=(n-1)+1:=by cases p<;>simp only[Pt.depth]at h<;>omega
 rw[hn,<-kY];refine CF.Xd (UJ w) λA i1 hr he=>?_;have L:=he.scope;have hA:=hr.handled;have e0:∀σ,PF w 1 (.ref 74) [.vV (.str p.op::p.wI.map Pt.enc)] σ (.bool p.yO):=λσ=>by rw[<-EL];exact Mj p
 have j1:=ht.len;rw[EL];let u0:Md:=[vr "self" (.ref wk),vr "table" (tD t),vr "c" (.int c),vr "pattern" (.vV (.str p.op::p.wI.map Pt.enc))];let V:Md:=vr "op" (.str p.op)::u0;have kl:p.wI.length<=2:=by cases p<;>simp[Pt.wI]
 apply aq (M:=λC u=>C=V/\u=σ) (fV L rfl (c7 (O L rfl) bC (j:=0) (by simp[seqIndex?]) rfl) ⟨rfl,rfl⟩);rintro C u ⟨rfl,rfl⟩;cases hv:p.yO with
 |true=>
  cases p with
  |f _=>cases hv
  |g _ _=>cases hv
  |v b=>
  refine bQ (dH (mV (hv▸gF (dJ L rfl G8) AU.2 (bq rfl (O L rfl)) ((e0 u).room (by omega)) hr)) (λ_=>?_) λq=>by cases q);apply aq (M:=λC M=>∃m,u.μ m=none/\C=vr "late" (.ref m)::V/\M=u.put m (.wc (BG t))) (fC L rfl (GE.Cu (IS L rfl) ((bq rfl (O L rfl)).gs ((FO.TV (MD .f (tH t) (by simp[BG];omega))).mono λd M ⟨m,h1,h2,h3⟩=>⟨m,h1,by rw[h2],h3⟩))));rintro C M ⟨m,hm,rfl,rfl⟩;refine aq (M:=λC M=>C=vr "late" (.ref m)::V/\M=u.put m (.wc (BG (wJ t b c)))) (bR ((O L rfl).g (fj hr (O L rfl) (O L rfl) (cj _ _ _) rfl (tH t) (by simp[BG];omega) ⟨rfl,?_⟩))) ?_
  .rw[l7]
   have:=iA (ev:=λn:Nat=>D.int n) lH (l:=t) (k:=b) (v:=c);exact aU (λl=>u.put m (.wc l)) this
  rintro C M ⟨rfl,rfl⟩;apply SE.Sm (x:="late") rfl (cj _ _ _);rw[uh hm];let G:Ym:=if(vJ t b).getD c=c then[wJ t b c]else[]
  refine bQ (cH (PE.Nf (bf (PE.QA hr (O L rfl) .f (O L rfl) (O L rfl) rfl (tH t) (x:=.int ((vJ t b).getD c:Nat)) ?_) (O L rfl) k8) (λq=>?_) λq=>?_) ⟨rfl,G,rfl,λI=>?_,?_⟩)
  .rw[Ub,show D.str (Pt.v b).op=(λb=>D.str (wU b)) b from rfl,lA lH]
   cases vJ t b<;>rfl
  .have q':(vJ t b).getD c=c:=by simp at q;omega
   rw[show G=[wJ t b c]from B q'];exact gV (bq rfl (O L rfl))
  .have q':¬(vJ t b).getD c=c:=by simp at q;omega
   rw[show G=[]from J q'];exact gV bG
  .show _↔I=_/\_
   by_cases q:(vJ t b).getD c=c
   .rw[show G=[wJ t b c]from B q];simp[q]
   .rw[show G=[]from J q];simp[q]
  .show G.length<=1
   by_cases q:(vJ t b).getD c=c
   .rw[show G=[wJ t b c]from B q];simp
   .rw[show G=[]from J q];simp
 |false=>
  have k1:2<=n:=by
   cases p<;>simp only[Pt.yO,Pt.depth]at hv h<;>first|cases hv|skip
   .rename_i p;have:1<=p.depth:=by cases p<;>simp[Pt.depth]
    omega
   .rename_i p q;have:1<=p.depth:=by cases p<;>simp[Pt.depth]
    omega
  have f0:∀q∈p.wI,q.depth<=n-1:=λq hq=>by
   cases p with
   |v b=>cases hv
   |f p=>rw[aj.mp hq];simp only[Pt.depth]at h;omega
   |g p r=>
    simp only[Pt.depth]at h;rcases aG.mp hq with rfl|hq
    .omega
    .rw[aj.mp hq];omega
  apply aq (M:=λC M=>C=V/\M=u) (dH (mV (hv▸gF (dJ L rfl G8) AU.2 (bq rfl (O L rfl)) ((e0 u).room (by omega)) hr)) (λq=>by cases q) λ_=>bw ⟨rfl,rfl⟩);rintro C M ⟨rfl,rfl⟩;let T:Nat->Md:=λm=>vr "found" (.ref m)::V;let st:Nat->Ym->St:=λm G=>M.put m (.vK (G.map tD));apply aq (M:=λC Y=>∃m,M.μ m=none/\C=T m/\Y=st m []) (fC L rfl (kg (jg bG) λm hm=>⟨m,hm,rfl,rfl⟩));rintro C Y ⟨m,hm,rfl,rfl⟩;have HH:∀G,wg (st m G) nm X F:=λG=>H.le (iY hm);refine aq (M:=λC Y=>∃G,C=T m/\Y=st m G/\(∀I,I∈G↔X.M p c t I)/\G.length<=p.bd) (SE.TS (PP:=λds=>∃rs:Yg,ds=rs.map vP/\(∀s,s∈rs↔X.Nd c s)/\rs.length<=13) (Qp.of hA (GE.mono (cU
   (jG (O L rfl) ((HH []).fr _ _ W.i) ((HH []).fr _ _ W.n) (La w) rfl) ((HH []).get .heap _ rfl) ((HH []).get .wN _ rfl) Jl rfl Av.2 hr (eZ (bq rfl (O L rfl)) ((HO (HH []) o hc).room (by omega)))) λd u ⟨e,rs,e2,q⟩=>⟨e,_,.inl e2,rs,rfl,q⟩)) λds ⟨rs,g0,c0,w0⟩=>⟨λk C u=>C=T m/\∃G,u=st m G/\(∀I,I∈G↔∃s∈rs.take k,X.MR p s t I)/\G.length<=k*Ce p.wI,⟨rfl,[],rfl,λI=>by simp,by simp⟩,?_,?_⟩) ?_
  .subst g0
   rintro k d C u hd ⟨rfl,G,rfl,x0,hl⟩;obtain⟨s,h0,rfl,y0⟩:=cB hd;have l1:k<rs.length:=(aP.mp h0).1;have d0:=K6 hv;have m1:(k+1)*Ce p.wI<=p.bd:=by rw[d0];exact jL _ (by omega)
   let i0:Md:=vr "node" (vP s)::T m;have j0:X.Nd c s:=(c0 s).mp (aH h0);have hN:∀N:Ym,(∀I,I∈N↔I∈G\/X.MR p s t I)->∀I,I∈N↔∃s∈rs.take (k+1),X.MR p s t I:=λN h I=>by
    rw[h,x0,y0];exact⟨λq=>q.elim (λ⟨s,a,b⟩=>⟨s,aR _ a,b⟩) λb=>⟨s,by simp,b⟩,λ⟨s',a,b⟩=>(aB.mp a).elim (λa=>.inl ⟨s',a,b⟩) λa=>.inr (by rw[<-aj.mp a];exact b)⟩
   refine⟨i0,ig L rfl,dj (aq (dH (rL (PB.and_cons (bf (c7 (O L rfl) bC (j:=0) (by simp[seqIndex?]) rfl) (O L rfl) oY) λ_=>PB.and_cons (bf (eY (n:=s.2.length+1) L rfl (O L rfl) .vV (by simp[vG]) ?_) (eY (n:=p.wI.length+1) L rfl (O L rfl) .vV (by simp) (by omega)) k8) λ_=>PB.and_nil)) (λq=>?_) λq=>?_) λC u q=>bw q)⟩
   .let⟨n0,l0,e⟩:=j0
    have:=o.kl n0;rw[e];show((X.row n0).2.map X.vQ).length+1<=_;rw[az];omega
   .simp only[bN,aM,gD,jH]at q
    let⟨q1,q2⟩:=q;have q2:s.2.length=p.wI.length:=by omega
    let Q:Ym->Md:=λE=>vr "tables" (.vK (E.map tD))::i0;apply aq (M:=λC u=>C=Q [t]/\u=st m G) (fV L rfl (gV (bq rfl (O L rfl))) ⟨rfl,rfl⟩);rintro C u ⟨rfl,rfl⟩;let S:List (Nat×Pt):=s.2.zip p.wI;have ez:((vG s.2).zip (p.wI.map Pt.enc)).map (λq=>D.vV [q.1,q.2])=S.map λq=>.vV [.int (q.1:Nat),q.2.enc]:=by
     unfold vG;rw[List.zip_map,bD];rfl
    have zb:∀j,Ce ((S.take j).map (·.2))<=Ce p.wI:=λj=>by
     have e:S.map (·.2)=p.wI:=by rw[List.map_snd_zip];omega
     rw[iR,e];have:=Fe (l:=p.wI.take j) (m:=p.wI.drop j)
     rwa[jt]at this
    refine aq (M:=λC u=>∃E,C=Q E/\u=st m G/\(∀I,I∈E↔X.MS S t I)/\E.length<=Ce p.wI) (iD (lk:=none) (tg:=DP) (ds:=S.map λq=>.vV [.int (q.1:Nat),q.2.enc]) (λj C u=>∃E,C=Q E/\u=st m G/\(∀I,I∈E↔X.MS (S.take j) t I)/\E.length<=Ce ((S.take j).map (·.2)))
     (ez▸IT.zip hA (WI L rfl) (bE rfl rfl (fO (a:=1) (ds:=.str s.1::vG s.2) (O L rfl) bC (by omega) (by simp) ?_) (fO (a:=1) (ds:=.str p.op::p.wI.map Pt.enc) (O L rfl) bC (by omega) (by simp) (by simp;omega))) (by simp[vG,q2])) ⟨[t],rfl,rfl,λI=>by simp[HX.MS],by simp[Ce]⟩ ?_ ?_ ⟨_,_,_,rfl⟩) ?_
    .rintro j d C u hd ⟨E,rfl,rfl,a0,m0⟩
     obtain⟨⟨k0,q⟩,z0,rfl,o0⟩:=cB hd;have p0:=aH z0;have hq:q∈p.wI:=(g9 p0).2;have q0:k0∈s.2:=(g9 p0).1;have t0:k0<X.up.length:=by
      let⟨n0,l0,e⟩:=j0;rw[e]at q0;obtain⟨x,hx,rfl⟩:=aa.mp q0;exact o.u.vQ (o.k n0 (o.lt c hc n0 l0) x hx)
     have r0:Ce ((S.take (j+1)).map (·.2))=Ce ((S.take j).map (·.2))*q.bd:=by rw[o0,aL];exact Hs
     have n1:=zb (j+1);have a1:q.bd<=1000:=by
      have h1:=ji (ao q.bd) (show 1<=Ce ((S.take j).map (·.2))from Fe (l:=[]));rw[oB q.bd (Ce _)]at h1;rw[d0]at hb;omega
     refine⟨vr "part" q.enc::vr "kid" (.int k0)::Q E,AS.Ij hA L rfl rfl,dj (aq (M:=λC u=>∃b0,Md.le b0 C/\∃E,b0=Q E/\u=st m G/\(∀I,I∈E↔X.MS (S.take (j+1)) t I)/\E.length<=Ce ((S.take (j+1)).map (·.2))) (l9 L rfl Cv.l (qg (FE.Jp (tg:=wH) (lk:=none) E tD (λx y=>(∀I,I∈y↔X.M q k0 x I)/\y.length<=q.bd) tD tD q.bd L ⟨by rfl,by rfl,by decide+kernel,by rfl,by rfl⟩ (eW hA (O L rfl) (.inl rfl)) trivial rfl ?_ (λx _ y hy=>hy.2) λf1 R x hx=>?_) λl u ⟨e1,P,yl,yp,e2⟩=>?_) (JR L rfl rfl)) λC u q=>bw q)⟩
     .have h1:=zb j
      have h2:=ji m0 (ao q.bd);have h3:=ji h1 (ao q.bd);rw[<-r0]at h2;omega
     .have b1:zf x:=Tz ((a0 x).mp hx) ht
      exact⟨_,fP R rfl rfl,wH,Qp.of hA (GE.mono (cU (P:=λd u=>u=st m G/\∃N,d= .vK (N.map tD)/\(∀I,I∈N↔X.M q k0 x I)/\N.length<=q.bd) (O R rfl) ((HH G).fr _ _ W.i) ((HH G).fr _ _ W.n) (To w) rfl J1.2 hr
       (eZ (bI rfl (O R rfl) (bE rfl rfl (O R rfl) (O R rfl))) ((ih q.depth (by have:=f0 q hq;omega) q rfl a1 (st m G) x k0 (HH G) b1 t0).room (by have:=f0 q hq;omega)))) λd u ⟨e,N,e2,h1,h2⟩=>⟨e,_,.inl e2,N,⟨h1,h2⟩,rfl⟩),trivial,
       λy=>⟨_,fP R rfl rfl,O R rfl⟩⟩
     .subst e1 e2
      rintro d Y ⟨rfl,rfl⟩;refine⟨Q P.flatten,by repeat (first|exact iH|refine gX rfl ?_),P.flatten,rfl,rfl,λI=>?_,?_⟩
      .rw[o0,EW,List.mem_flatten]
       constructor
       .rintro⟨y,hy,c1⟩
        obtain⟨i,hi,rfl⟩:=bS hy;have s0:i<E.length:=by omega
        let⟨y',e,hp,_⟩:=yp i E[i] (au s0);rw[au hi]at e;cases e;exact⟨E[i],(a0 _).mp (bT s0),(hp I).mp c1⟩
       .rintro⟨t1,a,b⟩
        obtain⟨i,hi,rfl⟩:=bS ((a0 t1).mpr a);let⟨y',e,hp,_⟩:=yp i E[i] (au hi);exact⟨y',aH e,(hp I).mpr b⟩
      .rw[r0]
       have fl:∀(P:List (Ym)),(∀y∈P,y.length<=q.bd)->P.flatten.length<=P.length*q.bd:=λP=>by
        induction P with
        |nil=>intro _;simp
        |cons y r ih=>
         intro hy;have h1:=hy y (.head _);have h2:=ih λz hz=>hy z (.tail _ hz);rw[List.flatten_cons,aF,bO,mX];omega
       refine bg (fl P λy hy=>?_) (by rw[yl];exact jL _ m0);obtain⟨i,hi,rfl⟩:=bS hy;let⟨y',e,hp,h3⟩:=yp i _ (au (by omega:i<E.length));rw[au hi]at e;cases e;exact h3
    .rintro C u ⟨E,rfl,rfl,a,b⟩
     rw[az,bX]at a b;have e:S.map (·.2)=p.wI:=by rw[List.map_snd_zip];omega
     rw[e]at b;exact⟨E,rfl,rfl,a,b⟩
    .rintro C u ⟨E,rfl,rfl,a0,g1⟩
     have o1:Ce p.wI<=1000:=by rw[d0]at hb;omega
     have d1:G.length+E.length<=(k+1)*Ce p.wI:=by rw[mX];omega
     refine aq (M:=λC u=>C=Q E/\u=st m (G++E)) (eK L (GE.extend (O L rfl) (cj _ _ _) (O L rfl) .f (by simp only[az];omega) ⟨rfl,?_⟩)) ?_
     .rw[<-aL];exact l7 _ _ _ _
     rintro C u ⟨rfl,rfl⟩;refine bw ⟨T m,by repeat (first|exact iH|refine gX rfl ?_),rfl,G++E,rfl,hN _ λI=>?_,by rw[aF];exact d1⟩;rw[aB,a0];exact⟨λh=>h.imp id λh=>⟨⟨q1,q2⟩,h⟩,λh=>h.imp id λh=>h.2⟩
    .simp[vG];omega
   .have q':¬(s.1=p.op/\s.2.length=p.wI.length):=λ⟨a,b⟩=>by
     rw[a,b]at q;simp at q
    refine bw ⟨T m,dW rfl,rfl,G,rfl,hN _ λI=>⟨.inl,λh=>h.elim id λh=>absurd h.1 q'⟩,by rw[mX];omega⟩
  .rintro C u ⟨rfl,G,rfl,a,b⟩
   subst g0;rw[az,bX]at a;refine⟨G,rfl,rfl,λI=>?_,?_⟩
   .rw[a,Vk hv]
    exact⟨λ⟨s,x,y⟩=>⟨s,(c0 s).mp x,y⟩,λ⟨s,x,y⟩=>⟨s,(c0 s).mpr x,y⟩⟩
   .rw[K6 hv]
    rw[az]at b;exact bg b (jL _ w0)
  .rintro C u ⟨G,rfl,rfl,a,b⟩
   apply SE.Ba (x:="found") (n:=m) rfl (cj _ _ _);rw[uh hm];exact bQ (cH (O L rfl) ⟨rfl,G,rfl,a,b⟩)
abbrev e1(q:Bool×Nat):D:=.vV [.str (wU q.1),.int (q.2:Nat)]
theorem AW{X:HX}:∀{p:Pt} {c:Nat} {v a:Bool->Nat},(∀b,p.has b=true->v b=a b)->X.MV p c v->X.MV p c a
 | .v b,c,v,a,h,m=>(h b (by simp[Pt.has])).symm.trans m
 | .f p,c,v,a,h,⟨k,n,m⟩=>⟨k,n,AW h m⟩
 | .g p q,c,v,a,h,⟨k,l,n,d,f⟩=>⟨k,l,n,AW (λb e=>h b (by simp[Pt.has,e])) d,AW (λb e=>h b (by simp[Pt.has,e])) f⟩
theorem Ac{X:HX}(i:∀c s,X.Nd c s->∀k∈s.2,k<N):∀{p:Pt} {c:Nat} {t f:Tb},X.M p c t f->c<N->(∀b d,vJ t b=some d->vJ f b=some d)/\(∀b,(vJ f b).isSome=((vJ t b).isSome||p.has b))/\(∀v:Bool->Nat,(∀b d,vJ f b=some d->v b=d)->X.MV p c v)/\((∀b d,vJ t b=some d->d<N)->∀b d,vJ f b=some d->d<N)
 | .v a,c,t,f,⟨e,h⟩,o=>by
  subst e;refine⟨λb d g=>?_,λb=>?_,λv j=>j a c ?_,λz b d g=>?_⟩
  .rw[fS]
   split
   .rename_i q;subst q;rw[g]at h;exact aU some h.symm
   .exact g
  .rw[fS]
   simp only[Pt.has];split
   .rename_i q;simp[q]
   .rename_i q;have A:¬a=b:=λe=>q e.symm;simp[A]
  .rw[fS,B rfl]
  .rw[fS]at g
   split at g
   .cases g;exact o
   .exact z b d g
 | .f p,c,t,f,⟨k,n,m⟩,o=>by
  let⟨r,u,w,x⟩:=Ac i m (i c _ n k (.head _));exact⟨r,u,λv j=>⟨k,n,w v j⟩,x⟩
 | .g p q,c,t,f,⟨k,l,I,n,C,E⟩,o=>by
  let⟨r,u,w,x⟩:=Ac i C (i c _ n k (.head _));let⟨y,F,G,H⟩:=Ac i E (i c _ n l (.tail _ (.head _)));exact⟨λb d h=>y b d (r b d h),λb=>by rw[F,u,Bool.or_assoc];rfl,λv j=>⟨k,l,n,w v λb d h=>j b d (y b d h),G v j⟩,λh=>H (x h)⟩
theorem zD{X:HX}:∀{p:Pt} {c:Nat} {t:Tb} {v:Bool->Nat},X.MV p c v->(∀b e,vJ t b=some e->v b=e)->∃f,X.M p c t f/\∀b e,vJ f b=some e->v b=e
 | .v a,c,t,v,m,h=>by
  refine⟨wJ t a c,⟨rfl,?_⟩,λb e g=>?_⟩
  .cases q:vJ t a with
   |none=>rfl
   |some d=>exact((h a d q).symm.trans m)
  .rw[fS]at g
   split at g
   .rename_i q;cases g;rw[q];exact m
   .exact h b e g
 | .f p,c,t,v,⟨k,n,m⟩,h=>by
  let⟨f,a,b⟩:=zD m h;exact⟨f,⟨k,n,a⟩,b⟩
 | .g p q,c,t,v,⟨k,l,n,i,j⟩,h=>by
  let⟨o,a,b⟩:=zD i h;let⟨f,r,s⟩:=zD j b;exact⟨f,⟨k,l,o,n,a,r⟩,s⟩
theorem CB:∀{r:Yj} {s:Tb},s∈Ah N r↔s.map (·.1)=r/\∀q∈s,q.2<N
 |[],s=>by
  rw[Ah,aj];exact⟨λe=>by subst e;exact⟨rfl,λq h=>(nomatch h)⟩,λ⟨e,_⟩=>by simpa using e⟩
 |b::r,s=>by
  rw[Ah,b7];constructor
  .rintro⟨c,j,h⟩
   obtain⟨g,f,rfl⟩:=aa.mp h;let⟨k,l⟩:=CB.mp f;exact⟨by rw[bF,k],λq a=>(aG.mp a).elim (λe=>by rw[e];exact aZ.mp j) (l q)⟩
  .rintro⟨d,i⟩
   match s,d with
   |(n,c)::g,d=>
    injection d with e1 m
    dsimp only at e1;subst e1;exact⟨c,aZ.mpr (i _ (.head _)),aa.mpr ⟨g,CB.mpr ⟨m,λq a=>i q (.tail _ a)⟩,rfl⟩⟩
def iP:=@CB
theorem AN:∀(r:Yj),(Ah N r).Pairwise λs t=>xD (s.map e1) (t.map e1)=true
 |[]=>lO ..
 |b::r=>by
  rw[Ah,ie];refine⟨λc _=>?_,(eB (n:=N)).imp λ{c a} h s d t f=>?_⟩
  .rw[b5]
   exact(AN r).imp λh=>by simp only[bF,xD,cE];exact h
  .obtain⟨i,_,rfl⟩:=aa.mp d
   obtain⟨j,_,rfl⟩:=aa.mp f;have:¬(e1 (b,c)=e1 (b,a)):=λe=>by injection e with e;injection e with _ e;injection e with e _;injection e with e;omega
   simp only[bF,xD,J this];have g:¬(D.int (c:Nat)=D.int (a:Nat)):=λe=>by injection e with e;omega
   simp only[e1,wX,xD,cE,J g];simpa using h
theorem MP(h:zf t):vJ t b=some c↔(b,c)∈t:=by
 refine⟨λe=>fG e,λm=>?_⟩;unfold vJ;cases q:t.find? λp=>decide (p.1=b)with
 |none=>have:=gf.mp q _ m;simp at this
 |some p=>
  have f:=kL q;have g:p.1=b:=by simpa using List.find?_some q
  let⟨i,k,d⟩:=bS f;let⟨j,l,a⟩:=bS m;have:i=j:=(jB (xs:=t.map λp:Bool×Nat=>p.1) (h₀:=by simpa using k) (h₁:=by simpa using l) h).mp (by simp[d,a,g]);subst this;rw[d]at a;rw[a];rfl
def pq:=@MP
def yF(p:Pt)(t:Tb):Tb:=p.vs.map λb=>(b,(vJ t b).getD 0)
theorem P0(p:Pt)(v:Bool->Nat):((p.vs.map λb=>(b,v b)).map e1).Pairwise λa b=>wX a b=true:=by
 have:([false,true].map λb=>e1 (b,v b)).Pairwise λa b=>wX a b=true:=by
  apply vn.mpr;have h:¬(D.str (wU false)= .str (wU true)):=λe=>absurd (lH _ _ e) (by decide);have c:(wU false).cps.toList<(wU true).cps.toList:=by decide+kernel
  simp only[wX,xD,J h];exact kE c
 rw[bD];exact(this.sublist (fJ _ eH))
theorem UR{p:Pt}:b∈p.vs↔p.has b=true:=by unfold Pt.vs;cases b<;>simp
def kX:=@UR
theorem BC{p:Pt}(d:zf t)(i:∀b,(vJ t b).isSome=p.has b)(S:J3 ((BG t).map xC) r):r=(yF p t).map e1:=by
 have e:(BG t).map xC=t.map e1:=by rw[BG,bD];rfl
 have g:∀a b,e1 a=e1 b->a=b:=λa b h=>by
  injection h with h;injection h with l f;injection f with f _
  exact gr (lH _ _ l) (j3 _ _ f)
 rw[e]at S;have m:(t.map e1).Nodup:=b5.mpr ((zE d).imp λh e=>h (g _ _ e));refine lZ (S.BP m) (P0 p _) λx=>?_;rw[S.perm.mem_iff,aa,aa];constructor
 .rintro⟨⟨b,c⟩,h,rfl⟩
  have j:=(pq d).mpr h;exact⟨(b,c),aa.mpr ⟨b,kX.mpr (by rw[<-i,j];rfl),by rw[j];rfl⟩,rfl⟩
 .rintro⟨q,h,rfl⟩
  obtain⟨b,n,rfl⟩:=aa.mp h;have:=i b;rw[kX.mp n]at this;let⟨c,k⟩:=aT.mp this;exact⟨(b,c),(pq d).mp k,by rw[k];rfl⟩
theorem NR(p:Pt):p.vs.Nodup:=(by decide:[false,true].Nodup).filter _
def oA:=@NR
theorem Gv{s:Tb}(h:s.map (·.1)=r)(a:r.Nodup):s=r.map λb=>(b,val s b):=by
 subst h;rw[bD];conv=>lhs;rw[<-iZ s]
 refine aK λq c=>?_;have:=(pq a).mpr (show(q.1,q.2)∈s from c);exact gr rfl (by show q.2=(vJ s q.1).getD 0;rw[this];rfl)
theorem QI{r:Yj}(a:r.Nodup){v:Bool->Nat}(c:b∈r):val (r.map λb=>(b,v b)) b=v b:=by
 unfold val;rw[(pq (by unfold zf;rw[bD];exact(iZ r).symm▸a)).mpr (aa.mpr ⟨b,c,rfl⟩)]
 rfl
theorem Cw{X:HX}(j:∀c s,X.Nd c s->∀k∈s.2,k<X.up.length){p:Pt}(l:X.vQ c<X.up.length):s∈X.yw p c↔∃e,X.M p (X.vQ c) [] e/\s=yF p e:=by
 classical
 unfold HX.yw;rw[aV,iP];constructor
 .rintro⟨⟨n,u⟩,o⟩
  obtain⟨e,m,a⟩:=zD (t:=[]) (by simpa using o) (λb f q=>by cases q);refine⟨e,m,?_⟩;let⟨_,h,_⟩:=Ac j m l;rw[Gv n (oA p)];refine aK λb g=>?_;have:=h b;rw[kX.mp g,Bool.or_true]at this;let⟨f,d⟩:=aT.mp this;rw[a b f d,d];rfl
 .rintro⟨e,m,rfl⟩
  let⟨_,h,r,i⟩:=Ac j m l;have i:=i λb f q=>by cases q
  refine⟨⟨?_,λq t=>?_⟩,?_⟩
  .unfold yF;rw[bD];exact iZ _
  .obtain⟨b,g,rfl⟩:=aa.mp t
   have:=h b;rw[kX.mp g,Bool.or_true]at this;let⟨f,d⟩:=aT.mp this;show(vJ e b).getD 0<_;rw[d];exact i b f d
  .simp only[aM]
   refine AW (λb g=>(QI (oA p) (kX.mpr g)).symm) (r (λb=>(vJ e b).getD 0) λb f q=>by rw[q];rfl)
theorem JP:∀p:Pt,∃b,p.has b=true
 | .v b=>⟨b,by simp[Pt.has]⟩
 | .f p=>(JP p)
 | .g p q=>let⟨b,h⟩:=JP p;⟨b,by simp[Pt.has,h]⟩
theorem M0(b:Bool):PyData.strOk (wU b)=true:=by cases b<;>decide+kernel
theorem VJ(h:s.length<=2):(xS s).kd=some 2:=by
 match s,h with
 |[],_=>rfl
 |[a],_=>simp[xS,D.kd,A2,D.hk,yJ,D.pl,M0]
 |[a,b],_=>simp[xS,D.kd,A2,D.hk,yJ,D.pl,M0]
theorem T3:∀{s t:Tb},s.map (·.1)=t.map (·.1)->FN (s.map e1) (t.map e1)=true
 |[],[],_=>rfl
 |[],_::_,e=>by cases e
 |_::_,[],e=>by cases e
 |a::s,b::t,e=>by
  injection e with e1 c
  simp[FN,D.ok,T3 c]
theorem Hh(h:xS s=xS t):s=t:=by
 injection h with h
 induction s generalizing t with
 |nil=>cases t with
  |nil=>rfl
  |cons=>cases h
 |cons a s e=>
  cases t with
  |nil=>cases h
  |cons b t=>
   injection h with c f
   injection c with c;injection c with g d;injection d with d _
   rw[e f,gr (lH _ _ g) (j3 _ _ d)]
theorem T5(p:Pt):p.vs.length<=2:=cP _ _
def mT:=@T5
def Nj:Fd 216:=⟨_,rfl⟩
theorem UI{w:Yz}:wK w 216 Nj.1 ["self","c","pattern"]:=.ok Nj
theorem Wd{w:Yz}:wA w 224 "found_in" 216:={}
theorem Es(p:Pt)(t:Tb):(yF p t).length<=2:=by unfold yF;rw[az];exact mT p
theorem JJ(p:Pt)(t:Tb):(yF p t).map (·.1)=p.vs:=by unfold yF;rw[bD];exact iZ _
theorem WQ(a:Af X):∀c s,X.Nd c s->∀k∈s.2,k<X.up.length:=by
 rintro c s ⟨n,b,rfl⟩ k e;by_cases d:c<X.up.length
 .obtain⟨x,f,rfl⟩:=aa.mp e
  exact a.u.vQ (a.k n (a.lt c d n b) x f)
 .have:X.vQ c=c:=by unfold HX.vQ;rw[xr,sr (by simp[fc d])]
  rw[this,ah,aO (by rw[a.u.lo];omega)]at b;cases b
theorem HV(f:Af X)(W:Xe F nm wk wd)(hb:p.bd<=1000)(H:wg σ nm X F)(hc:c<X.up.length)(f0:(X.yw p c).length<64):PF w (16+p.depth+1) (.ref 216) [.ref wk,.int c,p.enc] σ (.vK ((X.yw p c).map xS)):=by
 have n:=f.u.vQ hc;have hN:∀c s,X.Nd c s->∀k∈s.2,k<X.up.length:=WQ f;refine eF (nQ UI λA g0 z P=>?_);have j:=P.scope;have hA:=z.handled;let a0:Md:=[vr "self" (.ref wk),vr "c" (.int c),vr "pattern" p.enc];let l:Nat->Md:=λm=>vr "substs" (.ref m)::a0;let st:Nat->List (D×D)->St:=λm L=>σ.put m (.wc L);apply aq (M:=λi g=>∃m,σ.μ m=none/\i=l m/\g=st m []) (fC j rfl (oq jy λm hm=>⟨m,hm,rfl,rfl⟩));rintro i g ⟨m,hm,rfl,rfl⟩;have I:∀L,wg (st m L) nm X F:=λL=>H.le (iY hm);have R:∀t,(xS (yF p t)).kd=some 2:=λt=>VJ (Es p t);refine aq (M:=λi g=>∃L,i=l m/\g=st m L/\wh L/\∀x,x∈L.map (·.1)↔∃s∈X.yw p c,x=xS s) (SE.TS (lk:=none) (tg:=wH) (PP:=λM=>∃u,M=u.map tD/\(∀C,C∈u↔X.M p (X.vQ c) [] C)/\u.length<=p.bd) (Qp.of hA (GE.mono (cU (P:=λd g=>g=st m []/\∃u:Ym,d= .vK (u.map tD)/\(∀C,C∈u↔X.M p (X.vQ c) [] C)/\u.length<=p.bd)
  (O j rfl) ((I []).fr _ _ W.i) ((I []).fr _ _ W.n) (To w) rfl J1.2 z
  (eZ (bI (d:=tD []) rfl jy.XH (bE rfl rfl ((I []).find f.u (z.mono (by omega)) (jG (O j rfl) ((I []).fr _ _ W.i) ((I []).fr _ _ W.n) (La w) rfl) (O j rfl) hc) (O j rfl))) ((HZ f W p hb (st m []) [] (X.vQ c) (I []) cF n).room (by omega)))) λd g ⟨e,b0,e2,q⟩=>⟨e,_,.inl e2,b0,rfl,q⟩))
  λM ⟨u,T,E,h0⟩=>⟨λk i g=>i=l m/\∃L,g=st m L/\wh L/\wG 2 L/\L.length<=k/\∀x,x∈L.map (·.1)↔∃t∈u.take k,x=xS (yF p t),⟨rfl,[],rfl,cF,λ_ h=>(nomatch h),ao _,λx=>by simp⟩,?_,?_⟩) ?_
 .subst T
  rintro k d i g hd ⟨rfl,L,rfl,N,ka,kl,v⟩;obtain⟨t,V,rfl,c0⟩:=cB hd;have hM:=(E t).mp (aH V);have G:=M9 hM cF;have Y:=(Ac hN hM n).2.1;have i0:k<u.length:=(aP.mp V).1;refine⟨vr "table" (tD t)::l m,ig j rfl,dj (aq (M:=λi g=>i=vr "table" (tD t)::l m/\g=st m (wM L (xS (yF p t)) (.bool true))) (bR (kQ.g (fj z (O j rfl) (jx j rfl (pJ ((j8 (z.mono (by omega)) (ki j rfl) (CE.items (O j rfl) (by have:=G.len;simp[BG];omega)) (λM e=>?_)).mono λr g ⟨a,M,b,S⟩=>⟨BC G Y (b▸S),a⟩)) .f (by have:=Es p t;simp;omega)) (cj _ _ _) (R t) ka (by omega) ⟨rfl,l7 _ _ _ _⟩))) ?_)⟩
  .subst e
   refine⟨λ_=>.inr ⟨1,λd hd=>?_,λd hd e P=>?_⟩,?_⟩
   .obtain⟨q,Q,rfl⟩:=aa.mp hd
    obtain⟨r,z,rfl⟩:=aa.mp Q;exact⟨by simp[xC,D.kd,A2,D.hk,yJ,D.pl,M0],_,_,rfl,rfl⟩
   .obtain⟨q,Q,rfl⟩:=aa.mp hd
    obtain⟨r,z,rfl⟩:=aa.mp Q;obtain⟨q,Q,rfl⟩:=aa.mp P;obtain⟨r,z,rfl⟩:=aa.mp Q;simp[xC,D.ok,FN]
   .have:=G.len;simp[BG];omega
  rintro i g ⟨rfl,rfl⟩;refine bw ⟨l m,dW rfl,rfl,_,rfl,lE N,ka.wM (R t),?_,λx=>?_⟩
  .have y:=aU List.length (j6 (l:=L) (k:=xS (yF p t)) (v:=.bool true))
   rw[az]at y;rw[y];by_cases q:xS (yF p t)∈L.map (·.1)
   .rw[B q,az];omega
   .rw[J q,aF,az];simp;omega
  .rw[c0]
   have e:(x∈(wM L (xS (yF p t)) (.bool true)).map (·.1))↔x∈L.map (·.1)\/x=xS (yF p t):=by
    rw[j6];by_cases q:xS (yF p t)∈L.map (·.1)
    .rw[B q];exact⟨.inl,λh=>h.elim id λe=>by rw[e];exact q⟩
    .rw[J q,aB,aj]
   rw[e,v];simp only[aB,aj];exact⟨λh=>h.elim (λ⟨t,a,b⟩=>⟨t,.inl a,b⟩) λb=>⟨t,.inr rfl,b⟩,λ⟨C,a,b⟩=>a.elim (λa=>.inl ⟨C,a,b⟩) λa=>.inr (by rw[b,a])⟩
 .rintro i g ⟨rfl,L,rfl,N,ka,kl,v⟩
  subst T;rw[az,bX]at v;refine⟨L,rfl,rfl,N,λx=>?_⟩;rw[v];constructor
  .rintro⟨t,a,rfl⟩
   exact⟨_,(Cw hN n).mpr ⟨t,(E t).mp a,rfl⟩,rfl⟩
  .rintro⟨s,a,rfl⟩
   obtain⟨t,b,rfl⟩:=(Cw hN n).mp a;exact⟨t,(E t).mpr b,rfl⟩
 rintro i g ⟨L,rfl,rfl,N,v⟩;have o:∀s∈X.yw p c,s.map (·.1)=p.vs:=λs j=>by
  obtain⟨t,_,rfl⟩:=(Cw hN n).mp j;exact JJ p t
 have d0:=mT p;have e0:L.length<=(X.yw p c).length:=by
  have y:(L.map (·.1)).length<=((X.yw p c).map xS).length:=eE N λx hx=>by
   let⟨s,a,b⟩:=(v x).mp hx;exact aa.mpr ⟨s,a,b.symm⟩
  simpa using y
 refine bQ (oX (qw ((j8 (z.mono (by omega)) (ki j rfl) (CE.dict (O j rfl) (.m (cj _ _ _)) (by omega)) (λM e=>?_)).mono λr g ⟨a,M,b,S⟩=>?_)))
 .subst e
  refine⟨λ_=>.inr ⟨2,λd hd=>?_,λd hd e P=>?_⟩,by rw[az];omega⟩
  .obtain⟨s,h,rfl⟩:=(v d).mp hd
   have y:=o s h;refine⟨VJ (by rw[<-az (f:=λq=>q.1),y];exact d0),?_⟩
   match s,y with
   |[],y=>let⟨b,hb⟩:=JP p;have:=kX.mpr hb;rw[<-y]at this;cases this
   |q::s,y=>exact⟨e1 q,s.map e1,rfl,by simp[D.kd,A2,D.hk,yJ,D.pl,M0]⟩
  .obtain⟨s,h,rfl⟩:=(v d).mp hd
   obtain⟨s',h',rfl⟩:=(v e).mp P;exact T3 ((o s h).trans (o s' h').symm)
 .subst b
  refine⟨aU D.vK (lZ (S.BP N) ?_ λx=>?_),by rw[a];exact iY hm⟩
  .rw[b5]
   exact((AN p.vs).imp λh=>by rw[xS,xS,wX];exact h).sublist eH
  .rw[S.perm.mem_iff,v,aa]
   exact⟨λ⟨s,a,b⟩=>⟨s,a,b.symm⟩,λ⟨s,a,b⟩=>⟨s,a,b.symm⟩⟩
abbrev Mt:=Nat×Tb
abbrev Yl:=List Mt
def HX.Ak(X:HX)(m:Mt):Mt:=(X.vQ m.1,m.2.map λq=>(q.1,X.vQ q.2))
def HX.QB(X:HX)(a vF:Nat):X8:=(((List.range (X.vB.length-a)).map (a+·)).map X.vQ)++(X.vO.filter λb=>decide (vF<=b)).map λb=>X.vQ (X.vF.getD b (0,0,.none)).1
def HX.chg(X:HX)(a vF:Nat):X8:=zo X.up.length (X.QB a vF)
def HX.Dy(X:HX)(c:Nat):X8:=zo X.up.length (X.us (X.uid (X.vQ c)))
def HX.zg(X:HX)(a fresh:X8):X8:=zo X.up.length ((fresh.flatMap λc=>(X.Dy c).map X.vQ).filter λc=>decide (c∉a))
def HX.M1(X:HX):Nat->X8->X8->X8
 |0,a,_=>a
 |k+1,a,fresh=>X.M1 k (a++X.zg a fresh) (X.zg a fresh)
def HX.xP(X:HX)(a:X8)(k:Nat):X8:=zo X.up.length (X.M1 k a a)
structure CX where
 wz:List (Pt×List Mt)
 vH:List (Pt×(Ys))
 vW:Nat
def HX.yy(X:HX)(p:Pt):Yl:=(List.range X.up.length).flatMap λc=>(Ah X.up.length p.vs).map (c,·)
def CX.w4(C:CX)(X:HX):CX:=if C.vW=X.vW then C else⟨[],[],X.vW⟩
def CX.xN(C:CX)(X:HX)(p:Pt):Yl:=((vJ C.wz p).getD []).map X.Ak
def CX.xh(C:CX)(p:Pt):Ys:=(vJ C.vH p).getD (0,0)
noncomputable def CX.fresh(C:CX)(X:HX)(p:Pt):Yl:=(X.xP (X.chg (C.xh p).1 (C.xh p).2) (p.depth-1)).flatMap λc=>((X.yw p c).map (c,·)).filter λm=>decide (m∉C.xN X p)
noncomputable def CX.zj(C:CX)(X:HX)(p:Pt):CX:=⟨wJ C.wz p ((X.yy p).filter λm=>decide (m∈C.xN X p++C.fresh X p)),wJ C.vH p (X.vB.length,X.vF.length),C.vW⟩
structure KS{α:Type}(e:α->D)(k:Nat)(L:Yh)(l:List α):Prop where
 kf:wh L
 kd:wG k L
 m:∀x,x∈L.map (·.1)↔∃c∈l,x=e c
section
variable{l:List α}
theorem KS.nil:KS e k [] []:=⟨cF,λ_ h=>(nomatch h),λx=>by simp⟩
theorem OS:x∈(wM L k v).map (·.1)↔x∈L.map (·.1)\/x=k:=by
 classical
 rw[j6];by_cases q:k∈L.map (·.1)
 .rw[B q];exact⟨.inl,λh=>h.elim id λe=>by rw[e];exact q⟩
 .rw[J q,aB,aj]
theorem KS.set(h:KS e k L l)(d:(e c).kd=some k):KS e k (wM L (e c) v) (l++[c]):=by
 refine⟨lE h.kf,h.kd.wM d,λx=>?_⟩;rw[OS,h.m];simp only[aB,aj];exact⟨λq=>q.elim (λ⟨c,a,b⟩=>⟨c,.inl a,b⟩) λb=>⟨c,.inr rfl,b⟩,λ⟨f,a,b⟩=>a.elim (λa=>.inl ⟨f,a,b⟩) λa=>.inr (by rw[b,a])⟩
theorem KS.fold(f:b->d)(v:b->D):∀(a:List b) {L:Yh} {l:List d},KS e k L l->(∀x∈a,(e (f x)).kd=some k)->KS e k (a.foldl (λl x=>wM l (e (f x)) (v x)) L) (l++a.map f)
 |[],L,l,h,_=>by simpa using h
 |x::a,L,l,h,c=>by
  have:=KS.fold f v a (h.set (v:=v x) (c x (.head _))) λy g=>c y (.tail _ g);rw[cY]at this;exact this
theorem KS.len(h:KS e k L l):L.length<=l.length:=by
 have d:(L.map (·.1)).length<=(l.map e).length:=eE h.kf λx f=>by
  let⟨c,a,b⟩:=(h.m x).mp f;exact aa.mpr ⟨c,a,b.symm⟩
 simpa using d
theorem KS.TQ{l:X8}(h:KS e k L l)(d:∀x∈l,x<N):L.length<=N:=by
 have f:(L.map (·.1)).length<=((List.range N).map e).length:=eE h.kf λx g=>by
  let⟨c,a,b⟩:=(h.m x).mp g;exact aa.mpr ⟨c,aZ.mpr (d c a),b.symm⟩
 simpa using f
end
abbrev eN(c:Nat):D:=.int c
theorem PE.Gq{m N:Nat}(n:we 12 A)(o:f.scope=S)(s:GI S "sorted")(h:PE w A f t k (eval e f) (.ref m))(u:k.μ m=some (.wc L))(K:KS eN 0 L l)(i:∀x∈l,x<N)(F:N<64)(v:A7 e f:=by rfl)(z:Ns1 j e f:=by rfl):PE w A f t k (eval (.Call (.Name "sorted" p) [e] [] j) f) (.vK (vG (zo N l))):=by
 have G:=K.TQ i;refine pJ ((j8 n (ki o s) (CE.dict h (.m u) (by omega)) (λC q=>⟨λ_=>.inl ⟨0,.inl rfl,λd hd=>?_⟩,?_⟩) v z).mono λr E ⟨e1,C,q,S⟩=>⟨?_,e1⟩)
 .subst q;obtain⟨c,_,rfl⟩:=(K.m d).mp hd;rfl
 .subst q;rw[az];omega
 .subst q
  refine lZ (S.BP K.kf) (Gp _ _) λx=>?_;rw[S.perm.mem_iff,K.m,nB];exact⟨λ⟨y,a,b⟩=>⟨y,(tT i).mpr a,b⟩,λ⟨y,a,b⟩=>⟨y,(tT i).mp a,b⟩⟩
theorem Ue{a b:St}(h:∀k,a.μ k=b.μ k):a=b:=by cases a;cases b;congr;exact funext h
def uJ:=@Ue
structure S9 where
 ch:Nat
 Ld:Nat
 wk:Nat
 wd:Nat
 wz:Nat
 vH:Nat
abbrev Ci(h:Nat)(a:S9)(b:Nat):Yr:=[("heap",.ref h),("walker",.ref a.wk),("seen",.ref a.wz),("marks",.ref a.vH),("backs",.int b)]
structure Vu(F:Fz)(nm:Yv)(nc:S9)(b:Nat):Prop where
 i:F nc.ch (.inst 272 nc.Ld)
 n:F nc.Ld (.ns (Ci (nm .heap) nc b))
theorem NK{w:Yz}:wO w 272 "heap":={}
def Nk:Fd 247:=⟨_,rfl⟩
theorem UK{w:Yz}:wK w 247 Nk.1 ["self","mark"]:=.ok Nk
theorem We{w:Yz}:wA w 272 "changed" 247:={}
def Nh:Fd 252:=⟨_,rfl⟩
theorem Uz{w:Yz}:wK w 252 Nh.1 ["self","classes","steps"]:=.ok Nh
theorem Wa{w:Yz}:wA w 272 "reached" 252:={}
theorem wg.ch(H:wg e d X F)(W:Vu F d f b)(g:a.scope=S)(h:look S.names i x=some (.ref f.ch)):PE w A a i e (eval (.Attribute (.Name x p) "heap" j) a) (.ref (d .heap)):=jG (O g h) (H.fr _ _ W.i) (H.fr _ _ W.n) NK rfl
theorem SD(a:Af X)(d:∀c∈X.vO,c<X.vF.length/\(X.vF.getD c (0,0,.none)).1<X.up.length):∀x∈X.QB many vF,x<X.up.length:=λx e=>by
 rcases aB.mp e with h|h
 .obtain⟨y,b,rfl⟩:=aa.mp h
  obtain⟨z,f,rfl⟩:=aa.mp b;have:=aZ.mp f;rw[a.n]at this;exact a.u.vQ (by omega)
 .obtain⟨y,b,rfl⟩:=aa.mp h
  exact a.u.vQ (d y (aV.mp b).1).2
theorem JH(H:wg σ v X F)(W:Vu F v nc b)(a:Af X){f g:Nat}(e0:f<=1000)(g0:X.vO.length<=1000)(h0:X.vF.length<=1000)(he:∀l∈X.vO,l<X.vF.length/\(X.vF.getD l (0,0,.none)).1<X.up.length):PF w 14 (.ref 247) [.ref nc.ch,.vV [.int f,.int g]] σ (.vK (vG (X.chg f g))):=by
 refine eF (f9 UK λA R E a0=>?_);have o:=a0.scope;have hA:=E.handled;have hz:=a.z;have i0:=a.n;let b0:Md:=[vr "self" (.ref nc.ch),vr "mark" (.vV [.int f,.int g])];let S:Md:=vr "edges" (.int g)::vr "many" (.int f)::b0;let s:Nat->Md:=λm=>vr "found" (.ref m)::S;let st:Nat->List (D×D)->St:=λm L=>σ.put m (.wc L);let N:X8:=((List.range (X.vB.length-f)).map (f+·)).map X.vQ;apply aq (M:=λh u=>h=S/\u=σ) (bR ((O o rfl).g (kh hA .vV (bZ (ff o rfl (bZ (ff o rfl (gW ⟨rfl,rfl⟩))))))));rintro h u ⟨rfl,rfl⟩;refine aq (M:=λh j=>∃m L,u.μ m=none/\h=s m/\j=u.put m (.wc L)/\KS eN 0 L N) (l9 o rfl Cv.dc (qg (sO (c:=0) (tg:=wH) (lk:=none) E (List.range (X.vB.length-f)) (λi=>.int ((f:Int)+(i:Nat))) (λ_=>true) (λi=>eN (X.vQ (f+i))) (λ_=>.bool true) o ⟨by rfl,by rfl,by decide+kernel,by rfl,by rfl⟩
  (eW hA (PE.EB o rfl (O o rfl) (dQ (H.ch W o rfl) (H.get .heap _ rfl) (H.get .wN _ rfl) Kr rfl B6.2 bG (G0 H (by omega)) (E.mono (by omega)))) (.inr (.inr (.inl ⟨_,_,rfl,?_,by omega,by omega⟩)))) trivial rfl (by simp;omega) (λ_ _=>rfl) λf0 hc i hi=>?_) λt j ⟨e1,e2⟩=>?_) (Td o rfl rfl)) ?_
 .rw[show((X.vB.length:Int)-f).toNat=X.vB.length-f by omega]
 .have hi:=aZ.mp hi
  exact⟨_,fP hc rfl rfl,rfl,λ_=>⟨H.find a.u (E.mono (by omega)) (H.ch W hc rfl) (O (d:=.int (f+i:Nat)) hc rfl) (by omega),kQ⟩⟩
 .subst e1 e2
  rintro d j ⟨m,I,rfl,rfl⟩;refine⟨m,_,I,rfl,rfl,?_⟩;have:=KS.fold (e:=eN) (k:=0) (λi=>X.vQ (f+i)) (λ_=>D.bool true) (List.range (X.vB.length-f)) KS.nil (λ_ _=>rfl);rw[fW.mpr λ_ _=>rfl];simp only[N,bD];exact this
 rintro h j ⟨m,P,I,rfl,rfl,K1⟩;have HH:∀L,wg (st m L) v X F:=λL=>H.le (iY I);let l2:X8:=(X.vO.filter λl=>decide (g<=l)).map λl=>X.vQ (X.vF.getD l (0,0,.none)).1;have T:=SD a (many:=f) (vF:=g) he;have G:u.μ (v .vO)=some (.vK (vG X.vO)):=H.get .vO _ rfl;have mf:m≠v .vO:=λe=>by rw[<-e,I]at G;cases G
 let C:List (D×D)->St:=λL=>(u.drop (v .vO)).put m (.wc L);have dm:(u.drop (v .vO)).μ m=none:=by rw[kC mf];exact I
 have e1:∀L,(st m L).drop (v .vO)=C L:=λL=>uJ λk=>by
  simp only[St.drop,st,C,St.put];by_cases z:k=m
  .subst z;simp[mf]
  .simp[z]
 have e2:∀L,(C L).put (v .vO) (.vK (vG X.vO))=st m L:=λL=>uJ λk=>by
  simp only[St.drop,st,C,St.put];by_cases z:k=v .vO
  .subst z;rw[B rfl,J λq=>mf q.symm];exact G.symm
  .simp[z]
 have M:∀L,HW (C L) v X:=λL r E c e=>iY dm _ _ (H.XU r E c e);have Hf:∀L n c,F n c->(C L).μ n=some c:=λL n c e=>iY dm _ _ (by rw[kC λq=>H.ap .vO n c rfl e q.symm];exact H.fr n c e);refine aq (M:=λh j=>∃L,h=s m/\j=st m L/\KS eN 0 L (N++l2)) (iD (tg:=wH) (ds:=vG X.vO) (lk:=some (v .vO,.vK (vG X.vO))) (λk h j=>h=s m/\∃L,j=C L/\KS eN 0 L (N++((X.vO.take k).filter λl=>decide (g<=l)).map λl=>X.vQ (X.vF.getD l (0,0,.none)).1)) (IT.cell hA ((HH P).ph ((HH P).ch W o rfl) CZ rfl) ((HH P).get .vO _ rfl)) ⟨rfl,P,e1 P,by simpa using K1⟩ ?_ ?_) ?_
 .rintro k d h j hd ⟨rfl,L,rfl,K⟩
  unfold vG at hd;obtain⟨l,c0,rfl,V⟩:=cB hd;let⟨h1,h2⟩:=he l (aH c0);have Y:∀{p d0},PE w A R (vr "spot" (.int l)::s m) (C L) (eval (.Attribute (.Name "self" p) "heap" d0) R) (.ref (v .heap)):=λ{_ _}=>jG (O o rfl) (Hf L _ _ W.i) (Hf L _ _ W.n) NK rfl;refine⟨vr "spot" (.int l)::s m,ig o rfl,dj (aq (M:=λh j=>h=vr "spot" (.int l)::s m/\∃L,j=C L/\KS eN 0 L (N++((X.vO.take (k+1)).filter λl=>decide (g<=l)).map λl=>X.vQ (X.vF.getD l (0,0,.none)).1)) (dH (bf (O o rfl) (O o rfl) V3) (λq=>?_) λq=>?_) λh j ⟨e,q⟩=>bw ⟨s m,by rw[e];exact dW rfl,rfl,q⟩)⟩
  .have q':g<=l:=by simpa using q
   refine aq (M:=λh j=>h=vr "spot" (.int l)::s m/\j=C (wM L (eN (X.vQ (X.vF.getD l (0,0,.none)).1)) (.bool true))) (bR (kQ.g (fj E (O o rfl) (dQ Y (M L .heap (by simp) _ rfl) (M L .wN (by simp) _ rfl) Ks rfl B_.2 (bq rfl (c7 (xs:=[.int (X.vF.getD l (0,0,.none)).1,.int (X.vF.getD l (0,0,.none)).2.1,(X.vF.getD l (0,0,.none)).2.2]) (eG (jG Y (M L .heap (by simp) _ rfl) (M L .wN (by simp) _ rfl) sA rfl) (O o rfl) (.m (M L .vF (by simp) _ rfl)) (by omega) ?_ (by rw[az];omega)) bC (j:=0) rfl rfl)) (G6 (M L) a.u h2) (E.mono (by omega))) (cj _ _ _) (c:=0) rfl K.kd ?_ ⟨rfl,l7 _ _ _ _⟩))) ?_
   .show(X.vF.map M7)[l]? =_
    rw[a_,au h1];simp[M7,au h1]
   .have:=K.TQ (N:=X.up.length) λx Q=>by
     rcases aB.mp Q with Q|Q
     .exact T x (aR _ Q)
     .obtain⟨y,hy,rfl⟩:=aa.mp Q
      exact a.u.vQ (he y (gz (aV.mp hy).1)).2
    omega
   rintro h j ⟨rfl,rfl⟩;refine bw ⟨rfl,_,rfl,?_⟩;have:=K.set (c:=X.vQ (X.vF.getD l (0,0,.none)).1) (v:=.bool true) rfl;rw[V,fK,aL,<-cY];simpa[q']using this
  .have q':¬g<=l:=by simpa using q
   refine bw ⟨rfl,L,rfl,?_⟩;rw[V,fK,aL];simpa[q']using K
 .rintro h j ⟨rfl,L,rfl,K⟩
  rw[bh,bX]at K;exact⟨L,rfl,e2 L,K⟩
 rintro h j ⟨L,rfl,rfl,K⟩;exact bQ (cH (PE.Gq (E.mono (by omega)) o rfl (O o rfl) (cj _ _ _) K T (by omega)) ⟨rfl,iY I⟩)
theorem Uc(e:b.scope=S)(h:Vo S x a=false):swapsWithSole [.Name x p] (.DictComp g i c a f) d b=pure false:=by
 show(pure (b.blockKind==.function&&b.kindOf x==some .local&&p.line==f.line&&!(a.names.any λ(n,k)=>n==x&&(k==.local||k==.cell))):Sem Bool)=_;unfold Env.blockKind Env.kindOf;rw[e,uE];unfold Vo at h;rw[h];rfl
def J0:Fd 257:=⟨_,rfl⟩
theorem UG{w:Yz}:wK w 257 J0.1 ["self","match"]:=.ok J0
theorem Wc{w:Yz}:wA w 272 "image" 257:={}
def vZ(m:Mt):D:=.vV [.int m.1,xS m.2]
theorem CQ:(zo N l).length<=N:=by
 have:=cP (λx=>decide (x∈l)) (List.range N)
 rwa[cW]at this
theorem Su(h:x∈zo N l):x<N:=aZ.mp (aV.mp h).1
def sE:=@Su
section
variable{X:HX}
theorem Pe(H:wg n r X F)(W:Vu F r o b)(a:BQ X)(f:m.1<X.up.length)(u:m.2.length<=2)(j:∀q∈m.2,q.2<X.up.length):PF w 4 (.ref 257) [.ref o.ch,vZ m] n (vZ (X.Ak m)):=by
 refine eF (f9 UG λA v h k=>?_);have c:=k.scope;have i:=h.handled;let l:Md:=[vr "self" (.ref o.ch),vr "match" (vZ m)];apply aq (M:=λg d=>g=vr "subst" (xS m.2)::vr "c" (.int m.1)::l/\d=n) (bR ((O c rfl).g (kh i .vV (bZ (ff c rfl (bZ (ff c rfl (gW ⟨rfl,rfl⟩))))))));rintro g d ⟨rfl,rfl⟩;exact bQ (cH (bK (bE rfl rfl (H.find a (h.mono (by omega)) (H.ch W c rfl) (O c rfl) f) (jx c rfl (jq ((jT (S:=J0.1.scope) (tg:=wH) (lk:=none) m.2 e1 (λq=>e1 (q.1,X.vQ q.2)) c ⟨by rfl,by rfl,by decide+kernel,by rfl,by rfl⟩
  (eW i (O c rfl) (.inr (.inl rfl))) trivial rfl (by omega) λp f q s=>⟨_,tU i f rfl rfl rfl rfl,bK (bE rfl rfl (O f rfl) (H.find a (h.mono (by omega)) (H.ch W f rfl) (O f rfl) (j q s)))⟩).mono λt d e=>⟨e.1,e.2⟩)) .f (by simp;omega)))) ⟨by simp[vZ,HX.Ak,xS,bD],cN _⟩)
theorem Nq(h:x∈X.Dy c):x<X.up.length:=sE h
theorem Ja(H:wg σ nm X F)(W:Vu F nm nc b)(f:Af X)(h9:X.up.length<=9)(h7:∀c,c<X.up.length->(X.Dy c).length<=7)(Y:∀c∈s,c<X.up.length)(h0:s.length<=9){k:Nat}(hk:k<=100):PF w 17 (.ref 252) [.ref nc.ch,.vK (vG s),.int k] σ (.vK (vG (X.xP s k))):=by
 refine eF (nQ Uz λA m0 I i0=>?_);have p:=i0.scope;have R:=I.handled;let j0:Md:=[vr "self" (.ref nc.ch),vr "classes" (.vK (vG s)),vr "steps" (.int k)];let a0:Nat->Md:=λm=>vr "found" (.ref m)::j0;let st:Nat->List (D×D)->St:=λm L=>σ.put m (.wc L);refine aq (M:=λn g=>∃m L,σ.μ m=none/\n=a0 m/\g=σ.put m (.wc L)/\KS eN 0 L s) (fC p rfl (tO (FE.mono (sO (c:=0) (tg:=wH) (lk:=none) I s eN (λ_=>true) eN (λ_=>.bool true) p ⟨by rfl,by rfl,by decide+kernel,by rfl,by rfl⟩
  (eW R (O p rfl) (.inl rfl)) trivial rfl (by omega) (λ_ _=>rfl) λP v i hi=>?_).fe λt g ⟨e1,e2⟩=>?_)) (Uc p rfl)) ?_
 .exact⟨_,fP v rfl rfl,rfl,λ_=>⟨O v rfl,kQ⟩⟩
 .subst e1 e2
  intro m hm;refine⟨m,_,hm,rfl,rfl,?_⟩;have:=KS.fold (e:=eN) (k:=0) (λi=>i) (λ_=>D.bool true) s KS.nil (λ_ _=>rfl);rw[fW.mpr λ_ _=>rfl];rw[List.map_id']at this;exact this
 rintro n g ⟨m,L1,hm,rfl,rfl,K1⟩;have S:∀L,wg (st m L) nm X F:=λL=>H.le (iY hm);let C:X8->Md:=λq=>vr "fresh" (.vK (vG q))::a0 m;apply aq (M:=λn g=>n=C s/\g=st m L1) (fV p rfl (PE.Nb p rfl (O p rfl) (.vK .f) (by rw[bh];omega)) ⟨rfl,rfl⟩);rintro n g ⟨rfl,rfl⟩;refine aq (M:=λn g=>∃q L,n=C q/\g=st m L/\KS eN 0 L (X.M1 k s s)/\∀c∈X.M1 k s s,c<X.up.length) (iD (tg:=wH) (lk:=none) (ds:=(List.range k).map λi=>D.int (i:Nat)) (λj n g=>∃q L o,n=C q/\g=st m L/\KS eN 0 L o/\X.M1 (k-j) o q=X.M1 k s s/\(∀c∈o,c<X.up.length)/\(∀c∈q,c<X.up.length)/\q.length<=9)
  (eW R (rP p rfl (O p rfl)) (.inr (.inr (.inl ⟨_,_,rfl,by simp,by omega,by omega⟩)))) ⟨s,L1,s,rfl,rfl,K1,rfl,Y,Y,h0⟩ ?_ ?_) ?_
 .rintro j d n g hd ⟨q,L,o,rfl,rfl,K,z,T,b0,n0⟩
  obtain⟨j',hj,rfl,_⟩:=cB hd;have o0:j<k:=by have:=(aP.mp hj).1;simpa using this
  let M:X8:=q.flatMap λc=>(X.Dy c).map X.vQ;have l0:M.length<=63:=by
   have:∀l:X8,(∀c∈l,c<X.up.length)->(l.flatMap λc=>(X.Dy c).map X.vQ).length<=l.length*7:=λl=>by
    induction l with
    |nil=>intro _;simp
    |cons c l ih=>
     intro h;have h1:=h7 c (h c (.head _));have h2:=ih λx y=>h x (.tail _ y);simp only[kW,aF,az,bO];omega
   have:=this q b0;show(q.flatMap _).length<=63;omega
  have e0:∀x∈M,x<X.up.length:=λx y=>by
   let⟨c,v,h⟩:=b7.mp y;obtain⟨u,hu,rfl⟩:=aa.mp h;exact f.u.vQ (Nq hu)
  let c0:Md:=vr "step" (.int j')::C q;let Q:Md:=vr "above" (.vK (vG M))::c0;refine⟨c0,ig p rfl,dj (aq (M:=λn g=>n=Q/\g=st m L) (l9 p rfl Cv.l (qg (rq (tg:=wH) (lk:=none) q eN X.Dy eN (λc u=>eN (X.vQ u)) p ⟨by rfl,by rfl,by decide+kernel,by rfl,by rfl⟩
   (eW R (O p rfl) (.inl rfl)) trivial rfl ?_ λP v c d0=>⟨_,fP v rfl rfl,wH,eW R (dQ ((S L).ch W v rfl) ((S L).get .heap _ rfl) ((S L).get .wN _ rfl) RT rfl E2.2 (bq rfl (O v rfl)) (Ml (S L) f (b0 c d0)) (I.mono (by omega))) (.inl rfl),trivial,
    λu hu=>⟨_,fP v rfl rfl,(S L).find f.u (I.mono (by omega)) ((S L).ch W v rfl) (O v rfl) (Nq hu)⟩⟩) λt g ⟨e1,e2⟩=>?_) (JR p rfl rfl)) ?_)⟩
  .have:(q.flatMap X.Dy).length=M.length:=by
    show _=(q.flatMap λc=>(X.Dy c).map X.vQ).length;simp[gK]
   omega
  .subst e1 e2
   rintro d g ⟨rfl,rfl⟩;refine⟨?_,rfl⟩;have:(q.flatMap λx=>(X.Dy x).map λu=>eN (X.vQ u))=vG M:=by
    show _=(q.flatMap λc=>(X.Dy c).map X.vQ).map _;rw[pD];simp only[bD];rfl
   rw[this]
  rintro n g ⟨rfl,rfl⟩;let r:=X.zg o q;have G:∀c∈r,c<X.up.length:=λc h=>sE h;have f0:r.length<=9:=bg CQ h9;have g0:(M.filter λc=>decide (c∉o)).length<64:=gg (cP _ _) (by omega);refine aq (M:=λn g=>n=vr "fresh" (.vK (vG r))::Q/\g=st m L) (fV p rfl (pn (N:=X.up.length) (l:=M.filter λc=>decide (c∉o)) (I.mono (by omega)) p rfl rfl (jq ((mh (tg:=wH) (lk:=none) M eN (λc=>decide (c∉o)) eN p ⟨by rfl,by rfl,by decide+kernel,by rfl,by rfl⟩
   (eW R (O p rfl) (.inl rfl)) trivial rfl (by omega) λP v c d0=>?_).mono λt p0 e=>⟨e.1,e.2⟩)) .f (λx y=>e0 x (aV.mp y).1) g0) ⟨rfl,rfl⟩) ?_
  .refine⟨_,fP v rfl rfl,bf (O v rfl) (O v rfl) (sN I (.m (cj _ _ _)) (c:=0) rfl K.kd ?_),λ_=>O v rfl⟩
   rw[aM,K.m];exact nu ⟨λh=>⟨c,h,rfl⟩,λ⟨x,a,b⟩=>by rw[j3 _ _ b];exact a⟩
  rintro n g ⟨rfl,rfl⟩;let E:Md:=vr "fresh" (.vK (vG r))::Q;refine aq (M:=λn g=>∃L,n=E/\g=st m L/\KS eN 0 L (o++r)) (iD (tg:=wH) (lk:=none) (ds:=vG r) (λi n g=>∃L,n=E/\g=st m L/\KS eN 0 L (o++r.take i)) (eW R (O p rfl) (.inl rfl)) ⟨L,rfl,rfl,by simpa using K⟩ ?_ ?_) ?_
  .rintro i d n g hd ⟨V,rfl,rfl,N⟩
   unfold vG at hd;obtain⟨c,v,rfl,k0⟩:=cB hd;refine⟨vr "c" (.int c)::E,ig p rfl,dj (aq (M:=λn g=>n=vr "c" (.int c)::E/\g=st m (wM V (eN c) (.bool true))) (bR (kQ.g (fj I (O p rfl) (O p rfl) (cj _ _ _) (c:=0) rfl N.kd ?_ ⟨rfl,l7 _ _ _ _⟩))) ?_)⟩
   .have:=N.TQ (N:=X.up.length) λx y=>by
     rcases aB.mp y with y|y
     .exact T x y
     .exact G x (gz y)
    omega
   rintro n g ⟨rfl,rfl⟩;refine bw ⟨E,dW rfl,_,rfl,rfl,?_⟩;rw[k0,<-cY];exact N.set rfl
  .rintro n g ⟨V,rfl,rfl,N⟩
   rw[bh,bX]at N;exact⟨V,rfl,rfl,N⟩
  rintro n g ⟨V,rfl,rfl,N⟩;refine bw ⟨C r,by repeat (first|exact iH|refine gX rfl ?_),r,V,o++r,rfl,rfl,N,?_,λx y=>(aB.mp y).elim (T x) (G x),G,f0⟩;rw[<-z,show k-j=(k-(j+1))+1 by omega]
  rfl
 .rintro n g ⟨q,L,o,rfl,rfl,K,z,T,_⟩
  rw[az,cW,sP]at z;have z:o=X.M1 k s s:=z;subst z;exact⟨q,L,rfl,rfl,K,T⟩
 rintro n g ⟨q,L,rfl,rfl,K,T⟩;exact bQ (cH (PE.Gq (I.mono (by omega)) p rfl (O p rfl) (cj _ _ _) K T (by omega)) ⟨rfl,iY hm⟩)
end
theorem Mv(h:vZ m=vZ n):m=n:=by
 injection h with h;injection h with b a;injection a with a _
 exact gr (j3 _ _ b) (Hh a)
def rQ:=@Mv
theorem EX{l:X8}(f:l.Pairwise (·<·)){g:Nat->Ym}(i:∀c,(g c).Pairwise λs t=>xD (s.map e1) (t.map e1)=true):((l.flatMap λc=>(g c).map (c,·)).map vZ).Pairwise λa b=>wX a b=true:=by
 rw[b5,ie];refine⟨λc _=>?_,f.imp λ{c j} h s k t m=>?_⟩
 .rw[b5]
  refine(i c).imp λ{s t} h=>?_;have d:¬xS s=xS t:=λe=>by rw[Hh e]at h;have:=n9 (.vV (t.map e1));rw[wX]at this;rw[this]at h;cases h
  simp only[vZ,wX,xD,cE,J d];rw[xS,xS,wX];exact h
 .obtain⟨n,_,rfl⟩:=aa.mp k
  obtain⟨o,_,rfl⟩:=aa.mp m;have d:¬D.int (c:Nat)=D.int (j:Nat):=λe=>by have:=j3 _ _ e;omega
  simp only[vZ,wX,xD,J d];simpa using h
theorem SV(X:HX)(p:Pt):((X.yy p).map vZ).Pairwise λa b=>wX a b=true:=EX eB λ_=>AN _
theorem OW{X:HX}:m∈X.yy p↔m.1<X.up.length/\m.2.map (·.1)=p.vs/\∀q∈m.2,q.2<X.up.length:=by
 unfold HX.yy;rw[b7];constructor
 .rintro⟨c,a,h⟩
  obtain⟨s,b,rfl⟩:=aa.mp h;exact⟨aZ.mp a,iP.mp b⟩
 .rintro⟨d,e⟩
  exact⟨m.1,aZ.mpr d,aa.mpr ⟨m.2,iP.mpr e,rfl⟩⟩
def jh:=@OW
theorem J4(h:m.2.length<=2):(vZ m).kd=some 2:=by
 let⟨c,s⟩:=m
 match s,h with
 |[],_=>simp[vZ,xS,D.kd,A2,D.hk,yJ,D.pl,M0]
 |[a],_=>simp[vZ,xS,D.kd,A2,D.hk,yJ,D.pl,M0]
 |[a,b],_=>simp[vZ,xS,D.kd,A2,D.hk,yJ,D.pl,M0]
theorem PE.Q2{l r:Yl}(v:we 12 A)(y:c.scope=S)(z:GI S "sorted")(h:CE w A c C E (eval e c) (·=j))(F:vs.length<=2)(hd:j.Nodup)(f:∀x,x∈j↔∃m∈l,x=vZ m)(k:∀m∈l,m.2.map (·.1)=vs)(n:(r.map vZ).Pairwise λa b=>wX a b=true)(i:∀m,m∈r↔m∈l)(R:r.length<64)(G:A7 e c:=by rfl)(H:Ns1 o e c:=by rfl):PE w A c C E (eval (.Call (.Name "sorted" p) [e] [] o) c) (.vK (r.map vZ)):=by
 have u:j.length<=r.length:=by
  have I:j.length<=(r.map vZ).length:=eE hd λx L=>by
   obtain⟨m,a,rfl⟩:=(f x).mp L;exact b9 ((i m).mpr a)
  simpa using I
 have s:∀m∈l,m.2.length<=2:=λm f=>by rw[<-az (f:=λq=>q.1),k m f];exact F
 refine pJ ((j8 v (ki y z) h (λt q=>?_) G H).mono λT Q ⟨a,t,q,S⟩=>⟨?_,a⟩)
 .subst q
  refine⟨λ_=>.inr ⟨0,λd hd=>?_,λd hd e M=>?_⟩,by omega⟩
  .obtain⟨m,a,rfl⟩:=(f d).mp hd
   exact⟨J4 (s m a),_,_,rfl,rfl⟩
  .obtain⟨m,a,rfl⟩:=(f d).mp hd
   obtain⟨N,P,rfl⟩:=(f e).mp M;have:=T3 ((k m a).trans (k N P).symm);simp[vZ,xS,D.ok,FN,this]
 .subst q
  refine lZ (S.BP hd) n λx=>?_;rw[S.perm.mem_iff,f,aa];exact⟨λ⟨m,a,b⟩=>⟨m,(i m).mpr a,b.symm⟩,λ⟨m,a,b⟩=>⟨m,(i m).mp a,b.symm⟩⟩
def u5:=@PE.Q2
def HL(a:St)(b:Yv)(X:HX)(L:List (Nat×wQ)):Prop:=wg a b X (λn c=>(n,c)∈L)/\(L.map (·.1)).Nodup
theorem HL.put(h:HL f g X ((n,c)::L)):HL (f.put n c') g X ((n,c')::L):=by
 let⟨H,a⟩:=h;have i:=(bx.mp a).1;refine⟨⟨λr c e=>?_,H.inj,λm d h=>?_,λr m d b j=>?_,H.ids⟩,a⟩
 .rw[dD (H.ap r n _ (by rw[e];rfl) (.head _))];exact H.get r c e
 .rcases aG.mp h with q|q
  .cases q;exact cj _ _ _
  .rw[dD λe=>i (aa.mpr ⟨_,q,e⟩)];exact H.fr m d (.tail _ q)
 .rcases aG.mp j with q|q
  .cases q;exact H.ap r n c b (.head _)
  .exact H.ap r m d b (.tail _ q)
theorem HL.perm(h:HL b d X L)(p:L.Perm M):HL b d X M:=⟨⟨h.1.get,h.1.inj,λn c q=>h.1.fr n c (p.mem_iff.mpr q),λr n c a q=>h.1.ap r n c a (p.mem_iff.mpr q),h.1.ids⟩,(p.map _).nodup_iff.mp h.2⟩
theorem HL.sub(h:HL b d X L)(p:M.Sublist L):HL b d X M:=⟨⟨h.1.get,h.1.inj,λn c q=>h.1.fr n c (p.subset q),λr n c a q=>h.1.ap r n c a (p.subset q),h.1.ids⟩,h.2.sublist (p.map _)⟩
theorem HL.new(h:HL a f X L)(g:a.μ n=none):HL (a.put n c) f X ((n,c)::L):=by
 let⟨H,i⟩:=h;have fresh:∀m d,a.μ m=some d->m≠n:=λm d e q=>by rw[q,g]at e;cases e
 refine⟨⟨λr c e=>?_,H.inj,λm d h=>?_,λr m d b j=>?_,H.ids⟩,bx.mpr ⟨λq=>?_,i⟩⟩
 .rw[dD (fresh _ _ (H.get r c e))];exact H.get r c e
 .rcases aG.mp h with q|q
  .cases q;exact cj _ _ _
  .rw[dD (fresh _ _ (H.fr m d q))];exact H.fr m d q
 .rcases aG.mp j with q|q
  .cases q
   let⟨x,k⟩:=aT.mp b;exact fresh _ _ (H.get r x k)
  .exact H.ap r m d b q
 .let⟨p,l,e⟩:=aa.mp q
  exact fresh _ _ (H.fr p.1 p.2 l) e
theorem HL.at(h:HL a b X L)(m:(n,c)∈L):a.μ n=some c:=h.1.fr n c m
def zJ(C:CX):Yh:=zc Pt.enc (λa:Yl=>.vK (a.map vZ)) C.wz
def zz(C:CX):Yh:=zc Pt.enc (λq:Ys=>.vV [.int q.1,.int q.2]) C.vH
def zH(h:Nat)(a:S9)(C:CX):List (Nat×wQ):=[(a.Ld,.ns (Ci h a C.vW)),(a.wz,.wc (zJ C)),(a.vH,.wc (zz C)),(a.ch,.inst 272 a.Ld),(a.wk,.inst 224 a.wd),(a.wd,.ns [("heap",.ref h)])]
theorem Ca:∀p q:Pt,p.enc=q.enc->p=q
 | .v a,.v b,h=>by injection h with h;injection h with h;rw[lH _ _ h]
 | .v a,.f q,h=>by injection h with h;injection h with _ h;cases h
 | .v a,.g q r,h=>by injection h with h;injection h with _ h;cases h
 | .f p,.v b,h=>by injection h with h;injection h with _ h;cases h
 | .f p,.f q,h=>by injection h with h;injection h with _ h;injection h with h;rw[Ca p q h]
 | .f p,.g q r,h=>by injection h with h;injection h with _ h;injection h with _ h;cases h
 | .g p q,.v b,h=>by injection h with h;injection h with _ h;cases h
 | .g p q,.f r,h=>by injection h with h;injection h with _ h;injection h with _ h;cases h
 | .g p q,.g r s,h=>by injection h with h;injection h with _ h;injection h with c h;injection h with d;rw[Ca p r c,Ca q s d]
def qh:=@Ca
def Co:Fd 262:=⟨_,rfl⟩
theorem UH{w:Yz}:wK w 262 Co.1 ["self","pattern"]:=.ok Co
theorem Tn{w:Yz}:wA w 272 "found" 262:={}
theorem P4{w:Yz}:wO w 272 "walker":={}
theorem IQ{w:Yz}:wO w 272 "seen":={}
theorem K5{w:Yz}:wO w 272 "marks":={}
theorem SH{w:Yz}:wO w 272 "backs":={}
theorem K3{w:Yz}:yi w 272 "seen":={}
theorem Hq{w:Yz}:yi w 272 "marks":={}
theorem Hr{w:Yz}:yi w 272 "backs":={}
structure M_(X:HX)(C:CX)(p:Pt):Prop where
 O:Af X
 h9:X.up.length<=9
 h7:∀c,c<X.up.length->(X.Dy c).length<=7
 fl:X.vO.length<=1000
 el:X.vF.length<=1000
 fe:∀sp∈X.vO,sp<X.vF.length/\(X.vF.getD sp (0,0,.none)).1<X.up.length
 bd:p.bd<=1000
 kd:p.enc.kd=some 2
 dp:p.depth<=4
 ks:∀q∈C.wz,q.1.enc.kd=some 2
 km:∀q∈C.vH,q.1.enc.kd=some 2
 ls:C.wz.length<=1000
 lm:C.vH.length<=1000
 mp:(C.xh p).1<=1000
 sn:∀m∈(vJ C.wz p).getD [],m∈X.yy p
 sl:((vJ C.wz p).getD []).length<=1000
 sb:∀c,c<X.up.length->(X.yw p c).length<64
 z:((C.fresh X p).length<64)/\((X.yy p).filter λm=>decide (m∈C.xN X p++C.fresh X p)).length<64
theorem HL.Vw(h:HL a b X (L1++(n,c)::d)):HL (a.put n c') b X (L1++(n,c')::d):=(h.perm d9).put.perm d9.symm
def jf:=@HL.Vw
theorem VN(a:List (Nat×wQ)):Xe (λn c=>(n,c)∈a++(zH (nm .heap) nc C++R)) nm nc.wk nc.wd:=⟨aN _ (by simp[zH]),aN _ (by simp[zH])⟩
theorem WH(a:List (Nat×wQ)):Vu (λn c=>(n,c)∈a++(zH (nm .heap) nc C++R)) nm nc C.vW:=⟨aN _ (by simp[zH]),aN _ (by simp[zH])⟩
def k9:=@WH
theorem PE.ca(H:HL e b X (pre++(zH (b .heap) c C++R))){x attr:Str}(f:a.scope=S)(h:look S.names i x=some (.ref c.ch))(j:wO w 272 attr)(k:(Ci (b .heap) c C.vW).lookup attr=some d):PE w A a i e (eval (.Attribute (.Name x p) attr l) a) d:=jG (O f h) (H.at (k9 pre).i) (H.at (k9 pre).n) j k
def tK:=@PE.ca
theorem E0{l:List (Pt×V)}(h:∀q∈l,q.1.enc.kd=some 2):wG 2 (zc Pt.enc c l):=λx a=>by
 obtain⟨q,b,rfl⟩:=aa.mp a;exact h q b
theorem EZ{C:CX}(h:∀q∈C.wz,q.1.enc.kd=some 2):wG 2 (zJ C):=by unfold zJ;exact E0 h
theorem GR{C:CX}(h:∀q∈C.vH,q.1.enc.kd=some 2):wG 2 (zz C):=by unfold zz;exact E0 h
theorem Bl(a:Af X)(h:m∈X.yy p):X.Ak m∈X.yy p:=by
 obtain⟨b,c,d⟩:=jh.mp h;refine jh.mpr ⟨a.u.vQ b,?_,λq e=>?_⟩
 .rw[<-c];simp[HX.Ak,bD,Function.comp_def]
 .obtain⟨r,f,rfl⟩:=aa.mp e
  exact a.u.vQ (d r f)
theorem G9{p:Pt}(V:M_ X (C.w4 X) p)(H:HL σ E X (zH (E .heap) G C++R)):CF w 22 (.ref 262) [.ref G.ch,p.enc] σ λd r=>d= .vK (((C.w4 X).fresh X p).map vZ)/\∃b0,b0.ch=G.ch/\HL r E X (zH (E .heap) b0 ((C.w4 X).zj X p)++R):=by
 refine f9 UH λA n0 Q c1=>?_;have v:=c1.scope;have hA:=Q.handled;let t0:Md:=[vr "self" (.ref G.ch),vr "pattern" p.enc];refine aq (M:=λo r=>o=t0/\∃b0,b0.ch=G.ch/\HL r E X (zH (E .heap) b0 (C.w4 X)++R)) (dH (bf (tK (pre:=[]) H v (by rfl) SH (by rfl)) (H.1.ph (H.1.ch (k9 []) v (by rfl)) Cb (by rfl)) F0) (λq=>?_) λq=>?_) ?_
 .have q':C.vW≠X.vW:=by intro e;rw[e]at q;simp at q
  rw[CX.w4,J q'];refine aq (bR (nG (b_ (P1:=λd a0=>∃n,d= .ref n/\HL a0 E X ((n,.wc [])::(zH (E .heap) G C++R))) (by rfl) (oq jy λn hn=>⟨n,rfl,H.new hn⟩) λd a0 ⟨n1,e1,H1⟩=>
   b_ (P1:=λd a0=>∃n,d= .ref n/\HL a0 E X ((n,.wc [])::(n1,.wc [])::(zH (E .heap) G C++R))) (by rfl) (oq jy λn hn=>⟨n,rfl,H1.new hn⟩) λd2 c0 ⟨n2,e2,H2⟩=>
   b_ (P1:=λd r=>d= .int X.vW/\r=c0) (by rfl) (H2.1.ph (H2.1.ch (k9 [_,_]) v (by rfl)) Cb (by rfl)).ge λd3 o0 ⟨e3,e4⟩=>gu ⟨by simp,?_⟩)) (hsw:=by
   have e:n0.blockKind= .function:=by unfold Env.blockKind;rw[v];rfl
   unfold swappedStores;simp only[e]
   rfl)) λo r q=>bw q
  subst e1 e2 e3 e4;have a1:HL o0 E X ([(n2,.wc []),(n1,.wc [])]++(zH (E .heap) G C++R)):=H2;let u:S9:={G with wz:=n1};let g0:S9:={u with vH:=n2};have a2:=jf (c':=.ns (Ci (E .heap) u C.vW)) a1;have a3:=jf (c':=.ns (Ci (E .heap) g0 C.vW)) a2;have a4:=jf (c':=.ns (Ci (E .heap) g0 X.vW)) a3;have ai:∀{σ:St} {c:wQ},HL σ E X ([(n2,wQ.wc []),(n1,wQ.wc [])]++(G.Ld,c)::((zH (E .heap) G C).tail++R))->σ.μ G.ch=some (.inst 272 G.Ld)/\σ.μ G.Ld=some c:=λh=>⟨h.at (by simp[zH]),h.at (by simp)⟩;refine kh hA .vV (bZ (nk (O v (by rfl)) (ai a1).1 (ai a1).2 K3 (bZ (nk (O v (by rfl)) (ai a2).1 (ai a2).2 Hq (bZ (nk (O v (by rfl)) (ai a3).1 (ai a3).2 Hr (gW ⟨rfl,g0,rfl,?_⟩) (aI rfl))) (aI rfl))) (aI rfl)));refine HL.perm (HL.sub (M:=[(n2,.wc []),(n1,.wc [])]++(G.Ld,.ns (Ci (E .heap) g0 X.vW))::([(G.ch,.inst 272 G.Ld),(G.wk,.inst 224 G.wd),(G.wd,.ns [("heap",.ref (E .heap))])]++R)) a4 ?_) ?_
  .exact .cons_cons _ (.cons_cons _ (.cons_cons _ (.cons _ (.cons _ (.refl _)))))
  .show List.Perm ((n2,_)::(n1,_)::(G.Ld,_)::_) ((G.Ld,_)::(n1,_)::(n2,_)::_)
   exact((List.Perm.swap _ _ _).trans ((List.Perm.swap _ _ _).cons _)).trans (List.Perm.swap _ _ _)
 .have q':C.vW=X.vW:=k6 (by simpa using q)
  rw[CX.w4,B q'];exact bw ⟨rfl,G,rfl,H⟩
 generalize C.w4 X=C at V;rintro o a0 ⟨rfl,u,ec,H1⟩;have f:=V.O;let ms:Yl:=(vJ C.wz p).getD [];let mk:=C.xh p;let I:=C.xN X p;let rl:=X.xP (X.chg mk.1 mk.2) (p.depth-1);let g:Nat->Yl:=λc=>((X.yw p c).map (c,·)).filter λm=>decide (m∉I);let L:Yl:=rl.flatMap g;have x1:C.fresh X p=L:=rfl;let q0:Md:=vr "mark" (.vV [.int mk.1,.int mk.2])::t0;have P:∀md:Md,look Co.1.scope.names md "self"=some (.ref G.ch)->look Co.1.scope.names md "self"=some (.ref u.ch):=λmd h=>by rw[ec];exact h
 have e0:∀{S:List (Nat×wQ)} {C:CX},(u.wz,wQ.wc (zJ C))∈S++(zH (E .heap) u C++R):=λ{_ _}=>aN _ (by simp[zH]);have Y:∀{S:List (Nat×wQ)} {C:CX},(u.vH,wQ.wc (zz C))∈S++(zH (E .heap) u C++R):=λ{_ _}=>aN _ (by simp[zH]);refine aq (M:=λo r=>o=q0/\r=a0) (fV v (by rfl) (PE.QA Q (tK (pre:=[]) H1 v (P _ (by rfl)) K5 (by rfl)) (.m (H1.at (Y (S:=[])))) (O v (by rfl)) (bK (bE (by rfl) (by rfl) bC bC)) V.kd (GR V.km) ?_) ⟨rfl,rfl⟩) ?_
 .rw[zz,lA qh]
  show D.vV [.int (C.xh p).1,.int (C.xh p).2]=_;unfold CX.xh;cases vJ C.vH p<;>rfl
 rintro o r ⟨rfl,rfl⟩;refine aq (M:=λo c0=>∃KD,o=vr "known" (.wc KD)::q0/\c0=r/\KS vZ 2 KD I) (l9 v (by rfl) Cv.d (qg (sO (c:=2) Q ms vZ (λ_=>true) (λm=>vZ (X.Ak m)) (λ_=>.bool true) v ⟨by rfl,by rfl,by decide+kernel,by rfl,by rfl⟩
  (eW hA (PE.QA Q (tK (pre:=[]) H1 v (P _ (by rfl)) IQ (by rfl)) (.m (H1.at (e0 (S:=[])))) (O v (by rfl)) (gV bG) V.kd (EZ V.ks) ?_) (.inl rfl)) trivial rfl (bg V.sl (by decide)) (λm hm=>?_) λw1 hc m hm=>?_) λt c0 ⟨e1,e2⟩=>?_) (Td v (by rfl) (by rfl))) ?_
 .rw[zJ,lA qh]
  show D.vK (((vJ C.wz p).getD []).map vZ)=_;cases vJ C.wz p<;>rfl
 .have:=(jh.mp (Bl f (V.sn m hm))).2.1
  exact J4 (by rw[<-az,this];exact mT p)
 .obtain⟨h1,h2,h3⟩:=jh.mp (V.sn m hm)
  exact⟨_,fP hc (by rfl) (by rfl),rfl,λ_=>⟨dQ (O hc (by rw[ec];rfl)) (H1.at (k9 []).i) (H1.at (k9 []).n) Wc (by rfl) J0.2 (bq (by rfl) (O hc (by rfl))) (Pe H1.1 (k9 []) f.u h1 (by rw[<-az,h2];exact mT p) h3) (Q.mono (by omega)),kQ⟩⟩
 .subst e1 e2
  rintro d o0 ⟨rfl,rfl⟩;refine⟨_,rfl,rfl,?_⟩;rw[fW.mpr λ_ _=>rfl];have:=KS.fold X.Ak (λ_=>D.bool true) ms KS.nil (λm hm=>by
   have:=(jh.mp (Bl f (V.sn m hm))).2.1;exact J4 (by rw[<-az,this];exact mT p))
  exact this
 rintro o c0 ⟨KD,rfl,rfl,K⟩;let d1:Md:=vr "known" (.wc KD)::q0;let j:=zH (E .heap) u C++R;have f1:∀m∈I,m∈X.yy p:=λm hm=>by
  obtain⟨m0,h0,rfl⟩:=aa.mp hm;exact Bl f (V.sn m0 h0)
 have u0:∀c∈rl,c<X.up.length:=λc hc=>sE hc;have w0:∀m∈L,m∈X.yy p:=λm hm=>by
  obtain⟨c,hc,h⟩:=b7.mp hm;obtain⟨s,g1,rfl⟩:=aa.mp (aV.mp h).1;obtain⟨a,b⟩:=iP.mp (aV.mp g1).1;exact jh.mpr ⟨u0 c hc,a,b⟩
 have i1:L.length<64:=V.z.1;have j1:∀k,((rl.take k).flatMap g).length<=L.length:=λk=>by
  have:L=(rl.take k).flatMap g++(rl.drop k).flatMap g:=by rw[<-jW,jt]
  rw[this,aF];exact lK _ _
 let T:Nat->Md:=λm=>vr "fresh" (.ref m)::d1;refine aq (M:=λo r=>∃m,o=T m/\HL r E X ((m,.vK (([]:Yl).map vZ))::j)) (fC v (by rfl) (kg (jg bG) λm hm=>⟨m,rfl,H1.new hm⟩)) ?_;rintro o o0 ⟨m,rfl,H3⟩;have W3:=λ{l:Yl}=>k9 (nm:=E) (nc:=u) (C:=C) (R:=R) [(m,wQ.vK (l.map vZ))];have f0:∀{md:Md},look Co.1.scope.names md "self"=some (.ref G.ch)->∀{p0:Pos} {σ:St},PE w A n0 md σ (eval (.Name "self" p0) n0) (.ref u.ch):=λ{_} h {_ _}=>O v (P _ h);have ed:D.int ((p.depth:Int)-1)= .int (p.depth-1:Nat):=by
  have:1<=p.depth:=by cases p<;>simp[Pt.depth]
  congr 1;omega
 have hN:=f.z;refine aq (M:=λo r=>o=T m/\HL r E X ((m,.vK (L.map vZ))::j)) (iD (tg:=wH) (lk:=none) (ds:=vG rl) (λk o r=>o=T m/\HL r E X ((m,.vK (((rl.take k).flatMap g).map vZ))::j))
  (eW hA (dQ (f0 (by rfl)) (H3.at W3.i) (H3.at W3.n) Wa (by rfl) Nh.2 (bE (by rfl) (by rfl) (dQ (f0 (by rfl)) (H3.at W3.i) (H3.at W3.n) We (by rfl) Nk.2 (bq (by rfl) (O v (by rfl))) (JH H3.1 W3 f V.mp V.fl V.el V.fe) (Q.mono (by omega)))
   (ed▸cI (gF (dJ v (by rfl) KP) AL.2 (bq (by rfl) (O v (by rfl))) (PW p) (Q.mono (by have:=V.dp;omega))) bC r7)) (Ja H3.1 W3 f V.h9 V.h7 (λc h=>sE h) (bg CQ V.h9) (by have:=V.dp;omega)) (Q.mono (by omega))) (.inl rfl)) ⟨rfl,H3⟩ ?_ ?_) ?_
 .rintro k d o x0 hd ⟨rfl,M⟩
  unfold vG at hd;obtain⟨c,hc,rfl,k1⟩:=cB hd;have y0:=u0 c (aH hc);let d0:Md:=vr "c" (.int c)::T m;let N:=(rl.take k).flatMap g;have i0:(rl.take (k+1)).flatMap g=N++g c:=by rw[k1,jW];simp[N]
  have l1:=j1 (k+1);rw[i0,aF]at l1;have W4:=λ{l:Yl}=>VN (nm:=E) (nc:=u) (C:=C) (R:=R) [(m,wQ.vK (l.map vZ))];refine⟨d0,ig v (by rfl),dj (aq (M:=λo r=>o=d0/\HL r E X ((m,.vK ((N++g c).map vZ))::j)) (iD (tg:=wH) (lk:=none) (ds:=(X.yw p c).map xS) (λi o r=>o=d0/\HL r E X ((m,.vK ((N++(((X.yw p c).take i).map (c,·)).filter λm=>decide (m∉I)).map vZ))::j))
   (eW hA (dQ (tK (pre:=[(m,_)]) M v (P _ (by rfl)) P4 (by rfl)) (M.at W4.i) (M.at W4.n) Wd (by rfl) Nj.2 (bE (by rfl) (by rfl) (O v (by rfl)) (O v (by rfl))) (HV f W4 V.bd M.1 y0 (V.sb c y0)) (Q.mono (by have:=V.dp;omega))) (.inl rfl)) ⟨rfl,by rw[List.take_zero,oG,List.filter_nil,d7];exact M⟩ ?_ ?_) ?_)⟩
  .rintro i d o r0 m1 ⟨rfl,W⟩
   obtain⟨s,o1,rfl,p1⟩:=cB m1;let s0:Md:=vr "subst" (xS s)::d0;have q1:=aH o1;obtain⟨a1,a2⟩:=iP.mp (aV.mp q1).1;have v1:((((X.yw p c).take i).map (c,·)).filter λm=>decide (m∉I)).length<=(g c).length:=by
    refine List.Sublist.length_le (List.Sublist.filter _ (fJ _ (oK _ _)))
   have z0:(((X.yw p c).take (i+1)).map (c,·)).filter (λm=>decide (m∉I))=(((X.yw p c).take i).map (c,·)).filter (λm=>decide (m∉I))++if(c,s)∉I then[(c,s)]else[]:=by
    rw[p1,aL,fK];congr 1;by_cases z:(c,s)∈I<;>simp[z]
   refine⟨s0,ig v (by rfl),dj (aq (M:=λo r=>o=s0/\HL r E X ((m,.vK ((N++(((X.yw p c).take (i+1)).map (c,·)).filter λm=>decide (m∉I)).map vZ))::j)) (dH (bf (bK (bE (by rfl) (by rfl) (O v (by rfl)) (O v (by rfl)))) (O v (by rfl)) (sN (b:=decide ((c,s)∉I)) (k:=vZ (c,s)) Q .f (J4 (m:=(c,s)) (by rw[<-az (f:=λq:Bool×Nat=>q.1),a1];exact mT p)) K.kd ?_)) (λq=>?_) λq=>?_) λo r ⟨e,h⟩=>bw ⟨d0,by rw[e];exact dW (by rfl),rfl,h⟩)⟩
   .rw[aM,K.m]
    exact nu ⟨λh=>⟨_,h,rfl⟩,λ⟨x,a,b⟩=>by rw[rQ b];exact a⟩
   .have q':(c,s)∉I:=by simpa using q
    refine aq (M:=λo r=>o=s0/\HL r E X ((m,.vK ((N++(((X.yw p c).take (i+1)).map (c,·)).filter λm=>decide (m∉I)).map vZ))::j)) (eK v (e_ (O v (by rfl)) (W.at (.head _)) ((bK (bE (by rfl) (by rfl) (O v (by rfl)) (O v (by rfl)))).g ⟨_,W.at (.head _),by rw[az,aF];omega,rfl,?_⟩))) λo r q=>bw q;have:=W.put (c':=.vK ((N++(((X.yw p c).take i).map (c,·)).filter λm=>decide (m∉I)).map vZ++[vZ (c,s)]));have e2:∀F:Yl,(N++(F++[(c,s)])).map vZ=(N++F).map vZ++[vZ (c,s)]:=λF=>by simp
    rw[z0,B q',e2];exact this
   .have q':¬(c,s)∉I:=by simpa using q
    refine bw ⟨rfl,?_⟩;rw[z0,J q',d7];exact W
  .rintro o r0 ⟨rfl,W⟩
   rw[az,bX]at W;exact⟨rfl,W⟩
  rintro o r0 ⟨rfl,W⟩;refine bw ⟨T m,dW (by rfl),rfl,?_⟩;rw[i0];exact W
 .rintro o x0 ⟨rfl,M⟩
  rw[bh,bX]at M;exact⟨rfl,M⟩
 rintro o x0 ⟨rfl,M⟩;let C6:CX:={C with vH:=wJ C.vH p (X.vB.length,X.vF.length)};have r1:X.vB.length<=1000:=by have:=f.n;omega
 have W6:=k9 (nm:=E) (nc:=u) (C:=C) (R:=R) [(m,wQ.vK (L.map vZ))];refine aq (M:=λo r=>o=T m/\HL r E X ((m,.vK (L.map vZ))::(zH (E .heap) u C6++R))) (bR ((bK (bE (by rfl) (by rfl) (dQ (M.1.ch W6 v (P _ (by rfl))) (M.1.get .heap _ rfl) (M.1.get .wN _ rfl) Kr (by rfl) B6.2 bG (G0 M.1 r1) (Q.mono (by omega)))
  (eY (n:=X.vF.length) v (by rfl) (M.1.ph (M.1.ch W6 v (P _ (by rfl))) sA (by rfl)) (.vK (.m (M.1.get .vF _ rfl))) (by simp) (by have:=V.el;omega)))).g (fj Q (tK (pre:=[(m,_)]) M v (P _ (by rfl)) K5 (by rfl)) (O v (by rfl)) (M.at (Y (S:=[(m,_)]))) V.kd (GR V.km) (by simp[zz];have:=V.lm;omega) ⟨rfl,?_⟩))) ?_
 .have:=jf (L1:=[(m,.vK (L.map vZ)),(u.Ld,.ns (Ci (E .heap) u C.vW)),(u.wz,.wc (zJ C))]) (n:=u.vH) (c':=.wc (zz C6)) M
  have e:wM (zz C) p.enc (.vV [.int X.vB.length,.int X.vF.length])=zz C6:=iA (ev:=λq:Ys=>D.vV [.int q.1,.int q.2]) qh (v:=(X.vB.length,X.vF.length));rw[e];exact this
 rintro o r0 ⟨rfl,W⟩;let al:Yl:=(X.yy p).filter λm=>decide (m∈I++L);let C7:CX:=C.zj X p;have s1:=SV X p;have j0:(L.map vZ).Pairwise λa b=>wX a b=true:=by
  have:=EX (l:=rl) ((eB (n:=X.up.length)).filter _) (g:=λc=>X.yw p c) λc=>(AN p.vs).filter _;refine this.sublist (fJ _ ?_);show List.Sublist (rl.flatMap g) _;have t1:∀l:X8,List.Sublist (l.flatMap g) (l.flatMap λc=>(X.yw p c).map (c,·)):=λl=>by
   induction l with
   |nil=>exact .slnil
   |cons c l ih=>rw[kW,kW];exact eH.append ih
  exact t1 rl
 have k0:(L.map vZ).Nodup:=j0.imp λh e=>by rw[e,n9]at h;cases h
 have u1:∀x∈L,x∉I:=λx P=>by
  obtain⟨c,_,h⟩:=b7.mp P;simpa using(aV.mp h).2
 have l0:∀x∈I++L,x∈X.yy p:=λx P=>(aB.mp P).elim (f1 x) (w0 x);have b1:∀x∈X.yy p,x.2.map (·.1)=p.vs:=λx P=>(jh.mp P).2.1;have y1:KD.length<=1000:=bg K.len (by have:=V.sl;simpa[I,CX.xN]using this);refine aq (M:=λo r=>o=T m/\HL r E X ((m,.vK (L.map vZ))::(zH (E .heap) u C7++R))) (bR ((u5 (l:=I++L) (r:=al) (Q.mono (by omega)) v (by rfl) (CE.seq (cI (pJ (FE.list_dict hA (uG v (by rfl)) (O v (by rfl)) .f (by omega))) (O v (by rfl)) (BV .f (.m (W.at (.head _))) (by simp;omega))) (.vK .f) (by simp;omega)) (mT p) ?_ ?_ (λx P=>b1 x (l0 x P)) (s1.sublist (fJ _ eH)) (λx=>?_) V.z.2).g
  (fj Q (tK (pre:=[(m,_)]) W v (P _ (by rfl)) IQ (by rfl)) (O v (by rfl)) (W.at (e0 (S:=[(m,_)]) (C:=C6))) V.kd (EZ (C:=C6) V.ks) (by simp[zJ];have:=V.ls;show C.wz.length<=_;omega) ⟨rfl,?_⟩))) ?_
 .refine b6.mpr ⟨K.kf,k0,λa ha b hb e=>?_⟩
  obtain⟨x,h1,rfl⟩:=(K.m a).mp ha;obtain⟨y,h2,rfl⟩:=aa.mp hb;rw[rQ e]at h1;exact u1 y h2 h1
 .intro x
  rw[aB,K.m,aa];simp only[aB];exact⟨λh=>h.elim (λ⟨c,a,b⟩=>⟨c,.inl a,b⟩) λ⟨c,a,b⟩=>⟨c,.inr a,b.symm⟩,λ⟨c,a,b⟩=>a.elim (λa=>.inl ⟨c,a,b⟩) λa=>.inr ⟨c,a,b.symm⟩⟩
 .show x∈List.filter _ _↔_
  rw[aV,aM];exact⟨λh=>h.2,λh=>⟨l0 x h,h⟩⟩
 .have:=jf (L1:=[(m,.vK (L.map vZ)),(u.Ld,.ns (Ci (E .heap) u C.vW))]) (n:=u.wz) (c':=.wc (zJ C7)) W
  have e:wM (zJ C6) p.enc (.vK (al.map vZ))=zJ C7:=iA (ev:=λms:Yl=>D.vK (ms.map vZ)) qh (v:=al);rw[e];exact this
 rintro o z1 ⟨rfl,H6⟩;exact bQ (cH (u5 (l:=L) (r:=L) (Q.mono (by omega)) v (by rfl) (CE.seq (O v (by rfl)) (.vK (.m (H6.at (.head _)))) (by simp;omega)) (mT p) k0 (λx=>by rw[aa];exact⟨λ⟨c,a,b⟩=>⟨c,a,b.symm⟩,λ⟨c,a,b⟩=>⟨c,a,b.symm⟩⟩) (λx P=>b1 x (w0 x P)) j0 (λ_=>.rfl) i1) ⟨rfl,u,ec,H6.sub (.cons _ (.refl _))⟩)
def IJ:Fd 269:=⟨_,rfl⟩
theorem RL{w:Yz}:wK w 269 IJ.1 ["self","pattern"]:=.ok IJ
theorem UW{w:Yz}:wA w 272 "all_found" 269:={}
def KU:Fd 204:=⟨_,rfl⟩
theorem Oq{w:Yz}:wK w 204 KU.1 ["self","heap"]:=.ok KU
def KW:Fd 242:=⟨_,rfl⟩
theorem OI{w:Yz}:wK w 242 KW.1 ["self","heap"]:=.ok KW
theorem QG{w:Yz}:yi w 224 "heap":={}
theorem Sy{w:Yz}:yi w 272 "heap":={}
theorem MJ{w:Yz}:yi w 272 "walker":={}
theorem PA{w:Yz}:nsIn (KF w) mainGlobals "Walker"=some (some (.ref 224)):=by kernel_rfl
section
variable{C:CX}
theorem JM:vJ (C.zj X p).wz p=some ((X.yy p).filter λm=>decide (m∈C.xN X p++C.fresh X p)):=by
 unfold CX.zj;rw[fS,B rfl]
theorem FJ(V:M_ X (C.w4 X) p)(H:HL r e X (zH (e .heap) g C++R)):CF w 23 (.ref 269) [.ref g.ch,p.enc] r λd b=>d= .vK (((X.yy p).filter λm=>decide (m∈(C.w4 X).xN X p++(C.w4 X).fresh X p)).map vZ)/\∃a,a.ch=g.ch/\HL b e X (zH (e .heap) a ((C.w4 X).zj X p)++R):=by
 refine f9 RL λA u n j=>?_;have c:=j.scope;let k:Md:=[vr "self" (.ref g.ch),vr "pattern" p.enc];apply aq (M:=λf b=>f=k/\∃a,a.ch=g.ch/\HL b e X (zH (e .heap) a ((C.w4 X).zj X p)++R)) (eK c (cU (O c rfl) (H.at (k9 []).i) (H.at (k9 []).n) Tn rfl Co.2 n (eZ (bq rfl (O c rfl)) ((G9 V H).mono λd b q=>⟨rfl,q.2⟩))));rintro f v ⟨rfl,l,o,i⟩;have s:∀q∈((C.w4 X).zj X p).wz,q.1.enc.kd=some 2:=λq t=>by
  rcases lq t with h|h
  .exact V.ks q h
  .rw[h];exact V.kd
 refine bQ (cH (PE.Nb c rfl (nP (tK (pre:=[]) i c (by rw[o];rfl) IQ rfl) (O c rfl) (qe n (.m (i.at (c:=.wc (zJ ((C.w4 X).zj X p))) (by simp[zH]))) V.kd (EZ s) ?_) (.inr (.inl ⟨_,.m (i.at (c:=.wc (zJ ((C.w4 X).zj X p))) (by simp[zH]))⟩))) (.vK .f) (by rw[az];have:=V.z.2;omega)) ⟨rfl,l,o,i⟩);exact aa.mpr ⟨_,fG JM,rfl⟩
theorem HL.fr(h:HL j k X R)(f:Fr j g L):HL g k X (L++R):=by
 let⟨H,l⟩:=h;refine⟨⟨λr c e=>f.old _ _ (H.get r c e),H.inj,λn c q=>?_,λr n c i q=>?_,H.ids⟩,?_⟩
 .rcases aB.mp q with q|q
  .exact f.c _ q
  .exact f.old _ _ (H.fr n c q)
 .rcases aB.mp q with q|q
  .intro e
   let⟨x,m⟩:=aT.mp i;have d:=H.get r x m;rw[e,f.nw _ q]at d;cases d
  .exact H.ap r n c i q
 .rw[aL]
  refine b6.mpr ⟨f.nd,l,λa o b s e=>?_⟩;obtain⟨p,t,rfl⟩:=aa.mp o;obtain⟨q,u,rfl⟩:=aa.mp s;have d:=H.fr q.1 q.2 u;rw[<-e,f.nw _ t]at d;cases d
theorem IV:CF w 2 (.ref 224) [.ref h] c λd a=>∃L,Fr c a L/\∃x m,d= .ref x/\L=[(m,.ns [("heap",.ref h)]),(x,.inst 224 m)]:=by
 refine sC (fI:=204) (λw=>by kernel_rfl) (λw=>by kernel_rfl) (λw=>by kernel_rfl) λx m e f g=>?_;have o:=EC (C:=224) e f g;refine f9 Oq λA k p i=>?_;have b:=i.scope;apply aq (fF (Q:=λd L=>d= .ref h/\L=[]) o b rfl QG (aI rfl) ((O b rfl).g ⟨[],o7 _,rfl,rfl⟩));rintro l n ⟨rfl,_,_,⟨rfl,rfl⟩,j⟩;exact bw ⟨rfl,_,j,x,m,rfl,rfl⟩
theorem Ie(H:HL n a X R):CF w 4 (.ref 272) [.ref (a .heap)] n λd l=>∃g,d= .ref g.ch/\HL l a X (zH (a .heap) g ⟨[],[],X.vW⟩++R):=by
 refine sC (fI:=242) (λw=>by kernel_rfl) (λw=>by kernel_rfl) (λw=>by kernel_rfl) λx m p q r=>?_;have o:=EC (C:=272) p q r;refine f9 OI λA y s t=>?_;have b:=t.scope;apply aq (fF (Q:=λd L=>d= .ref (a .heap)/\L=[]) o b rfl Sy (aI rfl) ((O b rfl).g ⟨[],o7 _,rfl,rfl⟩));rintro c f ⟨rfl,_,_,⟨rfl,rfl⟩,e⟩;apply aq (fF (Q:=λd L=>∃x m,d= .ref x/\L=[(m,.ns [("heap",.ref (a .heap))]),(x,.inst 224 m)]) e b rfl MJ (aI rfl) (mY (dJ b rfl PA) rfl s (eZ (bq rfl (O b rfl)) ((IV (h:=a .heap)).room (by omega)))));rintro c f ⟨rfl,_,_,⟨i,h,rfl,rfl⟩,e⟩;apply aq (fF e b rfl K3 (aI rfl) vD);rintro c f ⟨rfl,_,_,⟨j,rfl,rfl⟩,e⟩;apply aq (fF e b rfl Hq (aI rfl) vD);rintro c f ⟨rfl,_,_,⟨k,rfl,rfl⟩,e⟩;have u:=H.fr e;apply aq (fF (Q:=λd L=>d= .int X.vW/\L=[]) e b rfl Hr (aI rfl) ((u.1.hf b rfl Cb rfl).g ⟨[],o7 _,rfl,rfl⟩));rintro c z ⟨rfl,_,_,⟨rfl,rfl⟩,v⟩;let g:S9:=⟨x,m,i,h,j,k⟩;refine bw ⟨rfl,g,rfl,HL.perm (H.fr v) (List.Perm.append_right _ ?_)⟩;show List.Perm [(m,wQ.ns (Ci (a .heap) g X.vW)),(x,.inst 272 m),(k,.wc []),(j,.wc []),(h,.ns [("heap",.ref (a .heap))]),(i,.inst 224 h)] [(m,.ns (Ci (a .heap) g X.vW)),(j,.wc []),(k,.wc []),(x,.inst 272 m),(i,.inst 224 h),(h,.ns [("heap",.ref (a .heap))])];refine .cons _ ?_;exact((List.Perm.swap _ _ _).trans (((List.Perm.swap _ _ _).cons _).trans (List.Perm.swap _ _ _))).trans (((((List.Perm.swap _ _ _).cons _).cons _).cons _))
end
def zX(a:X8)(t b:Nat):Nat:=(if t<a.length then a.getD t 0 else(3*t*t+5*t+7)/2)%b
def yx:List Pt:=[.f (.v false),.g (.v false) (.v true),.f (.f (.v false)),.g (.v false) (.v false),.g (.f (.v false)) (.v true),.v false,.f (.g (.v true) (.v false))]
def Pt.Dw:Pt->Yj
 | .v b=>[b]
 | .f p=>p.Dw
 | .g p q=>p.Dw++q.Dw
def w6(hd:Yw):Pt->(Bool->Nat)->Yo
 | .v b,v=>some (v b)
 | .f p,v=>(w6 hd p v).bind λk=>vJ hd ("f",[k])
 | .g p q,v=>(w6 hd p v).bind λk=>(w6 hd q v).bind λl=>vJ hd ("g",[k,l])
abbrev sD(l:Yr):Yh:=zc D.str (λd=>d) l
theorem F7(l:Yr):wG 1 (sD l):=λp a=>by obtain⟨q,_,rfl⟩:=aa.mp a;rfl
theorem str_inj(a b:Str)(h:D.str a= .str b):a=b:=by injection h
theorem EA:wM (sD l) (.str x) d=sD (wJ l x d):=iA str_inj
abbrev xV(a:X8)(t:Nat):Yh:=sD [("cells",.vK (vG a)),("turn",.int t)]
def IE:Fd 574:=⟨_,rfl⟩
theorem Ry{w:Yz}:wK w 574 IE.1 ["wheel","many"]:=.ok IE
theorem U8{w:Yz}:nsIn (KF w) mainGlobals "_law_spin"=some (some (.ref 574)):=by kernel_rfl
def IG:Fd 567:=⟨_,rfl⟩
theorem RB{w:Yz}:wK w 567 IG.1 []:=.ok IG
theorem U9{w:Yz}:nsIn (KF w) mainGlobals "_law_patterns"=some (some (.ref 567)):=by kernel_rfl
def Wt:{a:YB//∀w,nsIn (KF w) mainGlobals "_law_one"=some (some (.ref a))}:=⟨_,λ_=>rfl⟩
def Wn:{a:YB//∀w,nsIn (KF w) mainGlobals "_law_two"=some (some (.ref a))}:=⟨_,λ_=>rfl⟩
def JZ:Fd 584:=⟨_,rfl⟩
theorem UC{w:Yz}:wK w 584 JZ.1 ["pattern"]:=.ok JZ
theorem Tr{w:Yz}:nsIn (KF w) mainGlobals "_law_marks"=some (some (.ref 584)):=by kernel_rfl
def F_:Fd 589:=⟨_,rfl⟩
theorem Uw{w:Yz}:wK w 589 F_.1 ["heads","pattern","table"]:=.ok F_
theorem Tq{w:Yz}:nsIn (KF w) mainGlobals "_law_worth"=some (some (.ref 589)):=by kernel_rfl
theorem PE.sD(c:we m A)(h:PE w A a e b (eval o a) f)(hd:yg b f (sD l))(i:(x,d)∈l):PE w A a e b (eval (.Subscript o (.Constant (.str x) n k) j) a) d:=nP h cS (qe c hd (c:=1) rfl (F7 l) (aa.mpr ⟨_,i,rfl⟩)) (.inr (.inl ⟨_,hd⟩))
theorem QZ{j t f:Nat}(u:p.μ j=some (.wc (xV c t)))(H:0<f)(E:f<1000)(I:c.length<=1000)(v:t<=1000):CF w 1 (.ref 574) [.ref j,.int f] p λd h=>d= .int (zX c t f)/\h=p.put j (.wc (xV c (t+1))):=by
 refine f9 Ry λA F k x=>?_;have g:=x.scope;have y:=k.handled;let r:Md:=[vr "wheel" (.ref j),vr "many" (.int f)];let l:Md:=vr "turn" (.int t)::r;apply aq (M:=λi h=>i=l/\h=p) (fV g rfl (PE.sD k (O g rfl) (.m u) (.tail _ (.head _))) ⟨rfl,rfl⟩);rintro i s ⟨rfl,rfl⟩;let m:=s.put j (.wc (xV c (t+1)));refine aq (M:=λi h=>i=l/\h=m) (bR ((cI (O g rfl) bC lQ).g (fj k (O g rfl) cS u (c:=1) rfl (F7 _) (by simp) ⟨rfl,?_⟩))) ?_
 .rw[EA];rfl
 rintro i G ⟨rfl,rfl⟩;have n:m.μ j=some (.wc (xV c (t+1))):=cj _ _ _;have z:∀a b:Nat,Int.fmod (a:Int) b=(a%b:Nat):=λa b=>by rw[qV _ (by omega)];rfl
 refine bQ (cH (cI (d1:=.int ((if t<c.length then c.getD t 0 else(3*t*t+5*t+7)/2:Nat))) (PE.Nf (bf (O g rfl) (eY (n:=c.length) g rfl (PE.sD k (O g rfl) (.m n) (.head _)) (.vK .f) bh (by omega)) JU) (λq=>?_) λq=>?_) (O g rfl) (Iw (by omega))) ⟨aU D.int (z _ _),rfl⟩)
 .have o:t<c.length:=by simpa using q
  rw[B o];exact eG (PE.sD k (O g rfl) (.m n) (.head _)) (O g rfl) .f (by omega) (iF o) (by rw[bh];omega)
 .have o:¬t<c.length:=by simpa using q
  rw[J o];have L:3*t*t<=3000000:=by have:=ji (uD 3 v) v;omega
  have e:D.int (Int.fdiv (3*(t:Int)*t+5*t+7) 2)= .int ((3*t*t+5*t+7)/2:Nat):=by
   congr 1
  rw[<-e];refine cI (cI (cI (cI (cI bC (O g rfl) (Iv (by omega))) (O g rfl) (Iv (by omega))) (cI bC (O g rfl) (Iv (by omega))) lQ) bC lQ) bC (Rv y (by omega) ?_);have C:((3*(t:Int)*t+5*t+7))=((3*t*t+5*t+7:Nat):Int):=by push_cast;rfl
  rw[C];omega
theorem Ro:PF w 1 (.ref 567) [] b (.vV (yx.map Pt.enc)):=by
 refine eF (CF.XZ RB λA a h e=>?_);have d:=e.scope;have o:∀{p} {c} {b},PE w A a c b (eval (.Name "_law_one" p) a) (Pt.v false).enc:=λ{_ _ _}=>PE.VH d rfl (Wt.2 w) rfl (λg f=>.cons (.str _ _) .nil);have t:∀{p} {c} {b},PE w A a c b (eval (.Name "_law_two" p) a) (Pt.v true).enc:=λ{_ _ _}=>PE.VH d rfl (Wn.2 w) rfl (λg f=>.cons (.str _ _) .nil);exact bQ (cH (bK (bI rfl (bK (bE rfl rfl cS o)) (bI rfl (bK (bI rfl cS (bE rfl rfl o t))) (bI rfl (bK (bE rfl rfl cS (bK (bE rfl rfl cS o)))) (bI rfl (bK (bI rfl cS (bE rfl rfl o o))) (bI rfl (bK (bI rfl cS (bE rfl rfl (bK (bE rfl rfl cS o)) t))) (bI rfl o (bI rfl (bK (bE rfl rfl cS (bK (bI rfl cS (bE rfl rfl t o))))) bG)))))))) ⟨rfl,cN _⟩)
theorem UP:∀p:Pt,p.Dw.length<=1000->PF w p.depth (.ref 584) [p.enc] F (.vK (p.Dw.map λb=>.str (wU b))):=by
 suffices h:∀n (p:Pt),p.depth=n->p.Dw.length<=1000->PF w n (.ref 584) [p.enc] F (.vK (p.Dw.map λb=>.str (wU b)))fromλp=>h _ p rfl
 intro n;induction n using Nat.strongRecOn with
 |ind n I=>
  intro p y k;have L:n=(n-1)+1:=by cases p<;>simp only[Pt.depth]at y<;>omega
  rw[L];have z:=EL p;rw[z];have P:p.wI.length<=2:=by cases p<;>simp[Pt.wI]
  refine eF (je UC λA N x M=>?_);have i:=M.scope;have G:=x.handled;let C:Md:=[vr "pattern" (.vV (.str p.op::p.wI.map Pt.enc))];have l:p.yO=true↔D.str p.op∈[D.str "?x",D.str "?y"]:=by
   cases p with
   |v b=>cases b<;>simp[Pt.yO,Pt.op,wU]
   |f q=>
    refine⟨(λh=>by cases h),λh=>?_⟩;have:("f":Str)="?x"\/("f":Str)="?y":=by simpa[Pt.op]using h
    exact absurd this (by decide+kernel)
   |g q r=>
    refine⟨(λh=>by cases h),λh=>?_⟩;have:("g":Str)="?x"\/("g":Str)="?y":=by simpa[Pt.op]using h
    exact absurd this (by decide+kernel)
  have m:(D.str p.op).pl 20=true:=by
   cases p with
   |v b=>simp only[D.pl];exact M0 b
   |f _=>simp only[D.pl];show PyData.strOk "f"=true;decide+kernel
   |g _ _=>simp only[D.pl];show PyData.strOk "g"=true;decide+kernel
  have o:∀q∈p.wI,q.depth<n/\q.depth<=n-1:=λq a=>by
   cases p with
   |v b=>cases a
   |f p=>rw[aj.mp a];simp only[Pt.depth]at y;omega
   |g p r=>
    simp only[Pt.depth]at y;rcases aG.mp a with rfl|a
    .omega
    .rw[aj.mp a];omega
  have E:∀q∈p.wI,q.Dw.length<=1000:=λq a=>by
   cases p with
   |v b=>cases a
   |f p=>rw[aj.mp a];exact k
   |g p r=>
    have:(p.Dw++r.Dw).length<=1000:=k;rw[aF]at this;rcases aG.mp a with rfl|a
    .omega
    .rw[aj.mp a];omega
  have s:p.yO=false->p.Dw=p.wI.flatMap Pt.Dw:=λh=>by
   cases p with
   |v b=>cases h
   |f q=>simp[Pt.Dw,Pt.wI]
   |g q r=>simp[Pt.Dw,Pt.wI]
  cases d:p.yO with
  |true=>
   refine bQ (dH (b:=true) (bf (c7 (xs:=.str p.op::p.wI.map Pt.enc) (O i rfl) bC (j:=0) (by simp[seqIndex?]) rfl) (bK (bE rfl rfl cS cS)) (D8 x m (by decide+kernel) ⟨λ_=>l.mp d,λ_=>rfl⟩)) (λ_=>bQ (cH (gV (bq rfl (c7 (xs:=.str p.op::p.wI.map Pt.enc) (O i rfl) bC (j:=0) (by simp[seqIndex?]) rfl))) ⟨?_,cN _⟩)) λq=>by cases q);cases p with
   |v b=>rfl
   |_=>cases d
  |false=>
   apply aq (M:=λu c=>u=C/\c=F) (dH (b:=false) (bf (c7 (xs:=.str p.op::p.wI.map Pt.enc) (O i rfl) bC (j:=0) (by simp[seqIndex?]) rfl) (bK (bE rfl rfl cS cS)) (D8 x m (by decide+kernel) ⟨(λh=>by cases h),λh=>by rw[l.mpr h]at d;cases d⟩)) (λq=>by cases q) λ_=>bw ⟨rfl,rfl⟩);rintro u c ⟨rfl,rfl⟩;refine bQ (cH (jq ((rq (tg:=wH) (lk:=none) p.wI Pt.enc Pt.Dw (λb=>.str (wU b)) (λ_ b=>.str (wU b)) i ⟨by rfl,by rfl,by decide+kernel,by rfl,by rfl⟩ (eW G (fO (a:=1) (O i rfl) bC (by omega) (by simp) (by simp;omega)) (.inr (.inl (by simp)))) trivial rfl ?_ λH j q a=>⟨_,fP j rfl rfl,wH,eW G (gF (dJ j rfl Tr) JZ.2 (bq rfl (O j rfl)) ((I q.depth ?_ q rfl (E q a)).room ?_) x) (.inl rfl),trivial,λb Q=>⟨_,fP j rfl rfl,O j rfl⟩⟩).mono λt c e=>⟨e.1,e.2⟩)) ⟨?_,cN _⟩)
   .rw[<-s d];omega
   .exact(o q a).1
   .exact(o q a).2
   .rw[s d,pD]
def zV:Yo->D
 |some k=>.int k
 |none=>.none
theorem E7{hd:Yw}(h:∀r:Row,k≠vP r):ze (wZ hd) k=none:=by
 unfold ze;rw[d_,gf];intro x a;obtain⟨q,_,rfl⟩:=aa.mp a;simpa usingλe=>h q.1 e.symm
theorem Cy(h:D.none∈l)(r:Row):D.vV (.str o::l)≠vP r:=λe=>by
 injection e with e;injection e with _ e
 rw[e]at h;let⟨x,_,q⟩:=aa.mp h;cases q
theorem Lf(hd:Yw)(v:Bool->Nat){p:Pt}(c:p.yO=false):(ze (wZ hd) (.vV (.str p.op::p.wI.map λq=>zV (w6 hd q v)))).getD .none=zV (w6 hd p v):=by
 have a:∀r,(ze (wZ hd) (vP r)).getD .none=zV (vJ hd r):=λr=>by
  rw[j9,lA gc];cases vJ hd r<;>rfl
 cases p with
 |v b=>cases c
 |f q=>
  simp only[w6,Pt.wI,Pt.op,bF,oG];cases h:w6 hd q v with
  |none=>rw[E7 (Cy (by simp[zV]))];rfl
  |some k=>exact a ("f",[k])
 |g q r=>
  simp only[w6,Pt.wI,Pt.op,bF,oG];cases h:w6 hd q v with
  |none=>rw[E7 (Cy (by simp[zV]))];rfl
  |some k=>
   cases d:w6 hd r v with
   |none=>rw[E7 (Cy (by simp[zV]))];rfl
   |some l=>exact a ("g",[k,l])
theorem NP{hd:Yw}(G:∀q∈hd,PyData.strOk q.1.1=true):∀p:Pt,(∀b,p.has b=true->(vJ t b).isSome=true)->PF w p.depth (.ref 589) [.wc (wZ hd),p.enc,tD t] Q (zV (w6 hd p (val t))):=by
 suffices h:∀n p,p.depth=n->(∀b,p.has b=true->(vJ t b).isSome=true)->PF w n (.ref 589) [.wc (wZ hd),p.enc,tD t] Q (zV (w6 hd p (val t)))fromλp=>h _ p rfl
 intro n;induction n using Nat.strongRecOn with
 |ind n V=>
  intro p E R;have W:n=(n-1)+1:=by cases p<;>simp only[Pt.depth]at E<;>omega
  rw[W];have H:=EL p;rw[H];have kl:p.wI.length<=2:=by cases p<;>simp[Pt.wI]
  refine eF (nQ Uw λA a0 m X=>?_);have d:=X.scope;have Y:=m.handled;let I:Md:=[vr "heads" (.wc (wZ hd)),vr "pattern" (.vV (.str p.op::p.wI.map Pt.enc)),vr "table" (tD t)];have L:wG 2 (wZ hd):=λx F=>by obtain⟨q,a,rfl⟩:=aa.mp F;exact jQ (G q a)
  cases s:p.yO with
  |true=>
   cases p with
   |f q=>cases s
   |g q r=>cases s
   |v b=>
   let⟨c,j⟩:=aT.mp (R b (by simp[Pt.has]));have hm:=fG j;have u:(D.str (wU b),D.int (c:Nat))∈BG t:=aa.mpr ⟨_,hm,rfl⟩;refine bQ (dH (b:=true) (bf (c7 (xs:=.str (wU b)::[]) (O d rfl) bC (j:=0) (by simp[seqIndex?]) rfl) (O d rfl) (rN m .f (c:=1) rfl (tH t) ⟨λ_=>aa.mpr ⟨_,u,rfl⟩,λ_=>rfl⟩)) (λ_=>bQ (cH (nP (O d rfl) (c7 (xs:=.str (wU b)::[]) (O d rfl) bC (j:=0) (by simp[seqIndex?]) rfl) (qe m .f (c:=1) rfl (tH t) u) (.inr (.inl ⟨_,.f⟩))) ⟨?_,cN _⟩)) λq=>by cases q);show D.int (c:Nat)= .int (val t b:Nat);unfold val;rw[j];rfl
  |false=>
   have y:∀b,("f":Str)≠wU b/\("g":Str)≠wU b:=λb=>by cases b<;>exact⟨by decide+kernel,by decide+kernel⟩
   have M:D.str p.op∉(BG t).map (·.1):=λh=>by
    let⟨x,F,e⟩:=aa.mp h;obtain⟨q,a,rfl⟩:=aa.mp F;have e:wU q.1=p.op:=str_inj _ _ e;cases p with
    |v b=>cases s
    |f _=>exact(y q.1).1 e.symm
    |g _ _=>exact(y q.1).2 e.symm
   apply aq (M:=λz l=>z=I/\l=Q) (dH (b:=false) (bf (c7 (xs:=.str p.op::p.wI.map Pt.enc) (O d rfl) bC (j:=0) (by simp[seqIndex?]) rfl) (O d rfl) (rN m .f (c:=1) rfl (tH t) ⟨(λh=>by cases h),λh=>absurd h M⟩)) (λq=>by cases q) λ_=>bw ⟨rfl,rfl⟩);rintro z l ⟨rfl,rfl⟩;have i:∀q∈p.wI,q.depth<n/\q.depth<=n-1/\∀b,q.has b=true->p.has b=true:=λq a=>by
    cases p with
    |v b=>cases a
    |f p=>rw[aj.mp a];simp only[Pt.depth]at E;exact⟨by omega,by omega,λb h=>h⟩
    |g p r=>
     simp only[Pt.depth]at E;rcases aG.mp a with rfl|a
     .exact⟨by omega,by omega,λb h=>by simp[Pt.has,h]⟩
     .rw[aj.mp a];exact⟨by omega,by omega,λb h=>by simp[Pt.has,h]⟩
   have N:p.wI≠[]:=by
    cases p with
    |v b=>cases s
    |f q=>simp[Pt.wI]
    |g q r=>simp[Pt.wI]
   have P:(D.vV ([.str p.op]++p.wI.map λq=>zV (w6 hd q (val t)))).kd=some 2:=by
    have C:∀o k,(zV o).hk=true/\(zV o).pl k=true:=λo k=>by cases o<;>exact⟨by simp[zV,D.hk],by simp[zV,D.pl]⟩
    have S:PyData.strOk "f"=true/\PyData.strOk "g"=true:=by decide+kernel
    cases p with
    |v b=>cases s
    |f q=>simp[D.kd,A2,D.hk,yJ,D.pl,Pt.op,Pt.wI,S.1,C,λo=>(C o 0).1]
    |g q r=>simp[D.kd,A2,D.hk,yJ,D.pl,Pt.op,Pt.wI,S.2,C,λo=>(C o 0).1]
   refine bQ (cH (PE.Xq m (O d rfl) .f (cI (bK (bq rfl (c7 (xs:=.str p.op::p.wI.map Pt.enc) (O d rfl) bC (j:=0) (by simp[seqIndex?]) rfl))) (jx d rfl (jq ((jT (S:=F_.1.scope) (tg:=wH) (lk:=none) p.wI Pt.enc (λq=>zV (w6 hd q (val t))) d ⟨by rfl,by rfl,by decide+kernel,by rfl,by rfl⟩
    (eW Y (fO (a:=1) (O d rfl) bC (by omega) (by simp) (by simp;omega)) (.inr (.inl (by simp)))) trivial rfl (by omega) λT j q a=>?_).mono λt l e=>⟨e.1,e.2⟩)) .f (by simp;omega)) (Kh (by simp) (by simpa using N) (by simp;omega))) P L rfl) ⟨Lf hd (val t) s,cN _⟩)
   exact⟨_,fP j rfl rfl,gF (dJ j rfl Tq) F_.2 (bI rfl (O j rfl) (bE rfl rfl (O j rfl) (O j rfl))) ((V q.depth (i q a).1 q rfl λb hb=>R b ((i q a).2.2 b hb)).room (i q a).2.1) m⟩
def wV(L:X8)(i:Nat):Nat:=L.getD i 0
def xd(L:X8)(p:Ys):X8:=L.map λx=>if x=max (wV L p.1) (wV L p.2)then min (wV L p.1) (wV L p.2)else x
def yf(L:X8)(r:Row):Row:=(r.1,r.2.map (wV L))
def Cm(a:Yg)(L:X8)(s:List (Row×Nat)×List (Ys))(n:Nat):List (Row×Nat)×List (Ys):=
 let g:=yf L (a.getD n (default,[]))
 match vJ s.1 g with
 |some m=>(s.1,if wV L m=wV L n then s.2 else s.2++[(m,n)])
 |none=>(s.1++[(g,n)],s.2)
def scan(a:Yg)(L:X8):List (Row×Nat)×List (Ys):=(List.range a.length).foldl (Cm a L) ([],[])
def M6(a:Yg):Nat->X8->List (Ys)->X8
 |0,L,_=>L
 |k+1,L,W=>if W=[]then L else M6 a k (W.foldl xd L) (scan a (W.foldl xd L)).2
def xx(a:Yg)(b:Yi):X8:=M6 a (a.length+2) (List.range a.length) b
def cnt(N:Nat)(L:X8):Nat:=((List.range N).filter λx=>decide (x∈L)).length
theorem Oe:∀(n:Nat) (a:Yc),a.length=n->(∀(j:Nat) (v:Yx),a[j]? =some v->∃t,v=Value.int (j:Int) t)->wR w g k a (vG (List.range n)):=by
 intro n;induction n with
 |zero=>intro a h _;rw[pW h];exact .nil
 |succ n f=>
  intro a h c;have b:a≠[]:=λe=>by rw[e]at h;cases h
  let⟨t,i⟩:=c n (a.getLast b) (by rw[List.getLast_eq_getElem,au (by omega)];simp[h]);have e:a=a.dropLast++[Value.int (n:Int) t]:=by rw[<-i];exact(cV b).symm
  rw[e,iU];unfold vG;rw[aL];refine(f a.dropLast (by simp;omega) λj v d=>c j v ?_).append (.cons (.int _ _) .nil);rw[e];rw[aY (aP.mp d).1];exact d
theorem FE.O5{n:Nat}(M:A.handled=none)(N:PV w A a H m (eval (.Name f p) a) (.type "list"))(h:PE w A a H m (eval e a) (.zR 0 n))(hz:n<=100000)(P:starEach [e] a=(false,eval e a)::starEach [] a:=by rfl)(b:(backTo x (starEach [e] a)).any (·.1)=false:=by rfl):
 FE w A a H m (zS w) (eval (.Call (.Name f p) [e] [] x) a) λr y=>r=vG (List.range n)/\y=m:=by
 intro g R I s E Q F k;refine dF (N g R I s E _ F λS o T=>dZ b (fE b (arg1 P (h g R I S E _ T λv L V z q u r=>?_))));cases r with
 |zR W=>
 have c:Builtin.Range.rangeSize 0 n 1=(n:Int):=by
  unfold Builtin.Range.rangeSize;simp only[show(1:Int)>0 from by decide,cE,Int.ediv_one];split<;>omega
 have C:Builtin.Range.small 0 n 1=true:=by
  unfold Builtin.Range.small;rw[c];unfold Builtin.Range.rangeFitsLong;have G:(2:Int)^63=9223372036854775808:=by decide
  simp[G];omega
 refine call_list_range M (u.G.sub _ _ W) C c (by omega) λX Y i c' l hc d=>?_;have G3:=u.G.keep l;refine k {L with heap:=X,toks:=Y} V z L.heap.objs.size _ _ m ⟨(o.trans q).gens,(o.trans q).os,(o.trans q).le,(o.trans q).pre⟩ ⟨G3,u.F⟩ (u.G.free (ao _) hc) ⟨i.toList,c',by simp[v9],Oe n _ (by simpa using d.1) λj v hj=>?_⟩ ⟨rfl,rfl⟩;let⟨t,e⟩:=d.2 j v (by simpa using hj);exact⟨t,by rw[e];simp⟩
theorem SM(h:i<L.length):wV L i∈L:=by unfold wV;rw[ah,au h];exact bT h
def nq:=@SM
theorem Mb:(xd L p).length=L.length:=az ..
def rR:=@Mb
theorem G_:∀(W:Yi) (L:X8),(W.foldl xd L).length=L.length
 |[],_=>rfl
 |p::W,L=>(G_ W (xd L p)).trans rR
def tV:=@G_
theorem L_(a:p.1<L.length)(b:p.2<L.length):∀x∈xd L p,x∈L:=λx c=>by
 obtain⟨y,d,rfl⟩:=aa.mp c;split
 .rcases iJ (wV L p.1) (wV L p.2)with h|h
  .rw[iV h];exact nq a
  .rw[iL h];exact nq b
 .exact d
theorem CM:∀(W:Yi) (L:X8),(∀q∈W,q.1<L.length/\q.2<L.length)->∀x∈W.foldl xd L,x∈L
 |[],_,_,x,h=>h
 |p::W,L,a,x,h=>L_ (a p (.head _)).1 (a p (.head _)).2 x (CM W (xd L p) (λq b=>by rw[rR];exact a q (.tail _ b)) x h)
theorem Ma(a:wV L p.1≠wV L p.2):max (wV L p.1) (wV L p.2)∉xd L p:=λh=>by
 let⟨y,b,e⟩:=aa.mp h;split at e
 .omega
 .rename_i c;exact c e
theorem NI{L:X8}:((List.range N).filter λx=>decide (x∈L)).Nodup:=fZ.filter _
theorem Vf{L M:X8}(h:∀x∈M,x∈L):cnt N M<=cnt N L:=
 NI.length_le_of_subset λx a=>by
  rw[aV,aM]at a⊢;exact⟨a.1,h x a.2⟩
theorem NJ(h:∀x∈M,x∈L)(b:y<N)(c:y∈L)(d:y∉M):cnt N M<cnt N L:=by
 have e:(y::(List.range N).filter λx=>decide (x∈M)).Nodup:=bx.mpr ⟨λq=>d (by rw[aV,aM]at q;exact q.2),NI⟩;have:=e.length_le_of_subset (l₂:=(List.range N).filter λx=>decide (x∈L)) λx a=>by
  rw[aV,aM];rcases aG.mp a with rfl|a
  .exact⟨aZ.mpr b,c⟩
  .rw[aV,aM]at a
   exact⟨a.1,h x a.2⟩
 rw[bO]at this;exact this
structure WO(vB:Yg)(L:X8)(k:Nat)(s:List (Row×Nat)×List (Ys)):Prop where
 f:∀q∈s.1,q.2<k/\q.1=yf L (vB.getD q.2 (default,[]))
 w:∀q∈s.2,q.1<k/\q.2<k/\wV L q.1≠wV L q.2/\yf L (vB.getD q.1 (default,[]))=yf L (vB.getD q.2 (default,[]))
 l:s.1.length<=k/\s.2.length<=k
def zY(a:Yg)(L:X8)(k:Nat):=(List.range k).foldl (Cm a L) ([],[])
theorem I8:zY a L (k+1)=Cm a L (zY a L k) k:=by unfold zY;rw[iU,gv];rfl
def u6:=@I8
theorem Gw(e:Yg)(L:X8):∀k,WO e L k (zY e L k)
 |0=>⟨λ_ h=>(nomatch h),λ_ h=>(nomatch h),⟨ao _,ao _⟩⟩
 |k+1=>by
  let⟨f,g,j⟩:=Gw e L k;rw[u6];generalize zY e L k=s at*;unfold Cm;dsimp only;split
  .rename_i m l
   have d:=fG l;let⟨n,i⟩:=f _ d;dsimp only at n i;refine⟨λq d=>⟨by have:=(f q d).1;omega,(f q d).2⟩,λq d=>?_,?_⟩
   .split at d
    .let⟨a,b,c⟩:=g q d;exact⟨by omega,by omega,c⟩
    .rename_i o
     rcases aB.mp d with d|d
     .let⟨a,b,c⟩:=g q d;exact⟨by omega,by omega,c⟩
     .rw[aj.mp d];exact⟨by show m<k+1;omega,dK _,o,i.symm⟩
   .let⟨p,r⟩:=j
    refine⟨by show s.1.length<=k+1;omega,?_⟩;show(if wV L m=wV L k then s.2 else s.2++[(m,k)]).length<=k+1;by_cases c:wV L m=wV L k
    .rw[B c];omega
    .rw[J c,aF];simp;omega
  .refine⟨λq d=>?_,λq d=>?_,?_⟩
   .rcases aB.mp d with d|d
    .exact⟨by have:=(f q d).1;omega,(f q d).2⟩
    .rw[aj.mp d];exact⟨dK _,rfl⟩
   .let⟨a,b,c⟩:=g q d;exact⟨by omega,by omega,c⟩
   .simp;omega
def tW:=@Gw
structure zM(vB:Yg)(v7:Yi)(n:Nat)(L:X8)(W:Yi):Prop where
 len:L.length=vB.length
 lt:∀x∈L,x<vB.length
 w:∀q∈W,q.1<vB.length/\q.2<vB.length
 run:M6 vB n L W=xx vB v7
 m:W≠[]->cnt vB.length L+1<=n\/(cnt vB.length L<=n/\∀q∈W,wV L q.1≠wV L q.2)
theorem WE:cnt N L<=N:=by unfold cnt;exact bg (cP _ _) (by simp)
theorem Ir(c:∀q∈b,q.1<a.length/\q.2<a.length):zM a b (a.length+2) (List.range a.length) b:=⟨by simp,λx d=>aZ.mp d,c,rfl,λ_=>.inl (by have:=WE (N:=a.length) (L:=List.range a.length);omega)⟩
theorem zM.step(h:zM c j n L W)(s:W≠[]):∃k,n=k+1/\zM c j k (W.foldl xd L) (scan c (W.foldl xd L)).2:=by
 have g:=h.len;have d:∀q∈W,q.1<L.length/\q.2<L.length:=λq i=>by rw[g];exact h.w q i
 have f:=CM W L d;have r:=Vf (N:=c.length) f
 match W,s,h,d,f,r with
 |p::t,_,h,d,f,r=>
  have o:=d p (.head _);have y:1<=cnt c.length L:=by
   have:=NJ (N:=c.length) (L:=L) (M:=[]) (λx h=>(nomatch h)) (h.lt _ (nq o.1)) (nq o.1) (by simp);omega
  have z:1<=n:=by rcases h.m (by simp)with q|q<;>omega
  refine⟨n-1,by omega,⟨(tV _ _).trans g,λx u=>h.lt x (f x u),λq i=>?_,?_,λ_=>.inr ⟨?_,λq i=>?_⟩⟩⟩
  .let⟨a,b,_⟩:=(tW c _ c.length).w q i;exact⟨a,b⟩
  .have:=h.run
   rw[show n=(n-1)+1 by omega,M6,J (by simp)]at this;exact this
  .rcases h.m (by simp)with q|⟨q,e⟩
   .omega
   .have v:=e p (.head _)
    have l:max (wV L p.1) (wV L p.2)∈L:=by
     rcases iJ (wV L p.1) (wV L p.2)with h|h
     .rw[gQ h];exact nq o.2
     .rw[g_ h];exact nq o.1
    have:=NJ (N:=c.length) f (h.lt _ l) l λq=>Ma v (CM t (xd L p) (λq i=>by rw[rR];exact d q (.tail _ i)) _ q);omega
  .exact((tW c _ c.length).w q i).2.2.1
theorem zM.fin(h:zM b a n L []):L=xx b a:=by
 rw[<-h.run];cases n<;>simp[M6]
def Cn:Fd 579:=⟨_,rfl⟩
theorem UD{w:Yz}:wK w 579 Cn.1 ["rows","pairs"]:=.ok Cn
theorem Wx{w:Yz}:nsIn (KF w) mainGlobals "_law_leasts"=some (some (.ref 579)):=by kernel_rfl
theorem Nt(e:b.scope=S)(h:Vo S x a=false):swapsWithSole [.Name x p] (.ListComp g c a f) d b=pure false:=by
 show(pure (b.blockKind==.function&&b.kindOf x==some .local&&p.line==f.line&&!(a.names.any λ(n,k)=>n==x&&(k==.local||k==.cell))):Sem Bool)=_;unfold Env.blockKind Env.kindOf;rw[e,uE];unfold Vo at h;rw[h];rfl
theorem enum_rows(a:Yg):Bb (a.map vP)=(List.range a.length).map λn=>.vV [.int (n:Nat),vP (a.getD n (default,[]))]:=by
 unfold Bb;apply gw;intro i;rw[a_,a_,nh,a_];by_cases h:i<a.length
 .simp[h]
 .simp[h]
theorem BW{a:Yg}(c:∀r∈a,PyData.strOk r.1=true)(b:n<a.length):PyData.strOk (yf L (a.getD n (default,[]))).1=true:=by
 show PyData.strOk (a.getD n (default,[])).1=true;rw[ah,au b];exact c _ (bT b)
theorem Mg{c:Yg}(h1:σ.μ S=some (.vK (c.map vP)))(h2:σ.μ np=some (.vK (p.map xB)))(hp:∀q∈p,q.1<c.length/\q.2<c.length)(hz:c.length<=1000/\p.length<=1000)(g0:∀r∈c,PyData.strOk r.1=true)(hk:∀r∈c,r.2.length<=2/\∀k∈r.2,k<c.length):PF w 2 (.ref 579) [.ref S,.ref np] σ (.vK (vG (xx c p))):=by
 let⟨a1,b1⟩:=hz;refine eF (f9 UD λA Q hr he=>?_);have l:=he.scope;have N:=hr.handled;have d0:Q.blockKind= .function:=by unfold Env.blockKind;rw[l];rfl
 let l0:Md:=[vr "rows" (.ref S),vr "pairs" (.ref np)];let E:X8->List (Ys)->Md:=λL W=>vr "leasts" (.vK (vG L))::vr "wish" (.vK (W.map xB))::l0;have m0:∀n,n<c.length->(c.getD n (default,[]))∈c:=λn hn=>by rw[ah,au hn];exact bT hn
 refine aq (M:=λf h=>f=E (List.range c.length) p/\h=σ) (dj (bR ((bK (bE rfl rfl (pJ (FE.O5 N (uG l rfl) (rP l rfl (eY (n:=c.length) l rfl (O l rfl) (.vK (.m h1)) (by simp) (by omega))) (by omega))) (PE.Nb l rfl (O l rfl) (.vK (.m h2)) (by simp;omega)))).g
  (kh N .vV (bZ (ff l rfl (bZ (ff l rfl (gW ⟨E (List.range c.length) p,by repeat (first|exact iH|refine gX rfl ?_),rfl,rfl⟩))))))) (hsw:=by
   unfold swappedStores Env.kindOf;rw[d0,l]
   rfl))) ?_
 rintro f h ⟨rfl,rfl⟩;refine aq (M:=λf u=>f=E (xx c p) []/\u=h) (nv (λn f u=>u=h/\∃L W,f=E L W/\zM c p n L W) (c.length+2) ⟨rfl,_,_,rfl,Ir hp⟩ ?_) ?_
 .rintro n f u ⟨rfl,L,W,rfl,V⟩
  have k0:∀W:Yi,(D.vK (W.map xB)).pl 20=true:=λW=>by
   simp only[D.pl];exact jF.mpr λd hd=>by
    obtain⟨q,_,rfl⟩:=aa.mp hd;simp[xB,D.pl,yJ]
  refine⟨_,bf (O l rfl) (gV bG) (Iz (b:=decide (W≠[])) hr (.d (k0 W)) (.d rfl) (by rw[aM];exact nu ⟨λe=>by rw[e];rfl,λe=>by cases W with|nil=>rfl|cons=>cases e⟩)),λhb=>?_,λhb=>?_⟩
  .have hW:W≠[]:=by simpa using hb
   obtain⟨k,rfl,V2⟩:=V.step hW;have a0:=V.len;let o:=W.foldl xd L;refine dj (aq (M:=λf h=>f=E o W/\h=u) (iD (lk:=none) (tg:=wH) (ds:=W.map xB) (λj f h=>f=E ((W.take j).foldl xd L) W/\h=u) (eW N (O l rfl) (.inl rfl)) ⟨rfl,rfl⟩ ?_ ?_) ?_)
   .rintro j d f h hd ⟨rfl,rfl⟩
    obtain⟨q,hq,rfl,h0⟩:=cB hd;let H:=(W.take j).foldl xd L;have c1:H.length=c.length:=(tV _ _).trans a0;let⟨q1,q2⟩:=V.w q (aH hq);have n0:(W.take (j+1)).foldl xd L=xd H q:=by rw[h0,gv];rfl
    let lo:Int:=min (wV H q.1:Int) (wV H q.2);let hi:Int:=max (wV H q.1:Int) (wV H q.2);let v:Md:=vr "other" (.int q.2)::vr "one" (.int q.1)::E H W;let e0:Md:=vr "high" (.int hi)::vr "low" (.int lo)::v;have get:∀{x} {i} {p1 p2 p3},i<c.length->look Cn.1.scope.names v (Str.ofString x)=some (.int i)->PE w A Q v h (eval (.Subscript (.Name "leasts" p1) (.Name (Str.ofString x) p2) p3) Q) (.int (wV H i:Nat)):=λhi hx=>eG (O l rfl) (O l hx) .f (by omega) (iF (by omega)) (by rw[bh];omega);refine⟨v,AS.Ij N l rfl rfl,dj (aq (M:=λf u=>f=e0/\u=h) (bR ((bK (bE rfl rfl (PE.min2 l rfl N (get q1 rfl) (get q2 rfl)) (qc l rfl N (get q1 rfl) (get q2 rfl)))).g (kh N .vV (bZ (ff l rfl (bZ (ff l rfl (gW ⟨rfl,rfl⟩))))))) (hsw:=by
     unfold swappedStores Env.kindOf;rw[d0,l]
     rfl)) ?_)⟩
    rintro f b0 ⟨rfl,rfl⟩;refine aq (M:=λf u=>f=vr "leasts" (.vK (vG (xd H q)))::e0/\u=b0) (fC l rfl (qw ((jT (S:=Cn.1.scope) (tg:=wH) (lk:=none) H eN (λx=>eN (if x=max (wV H q.1) (wV H q.2)then min (wV H q.1) (wV H q.2)else x)) l ⟨by rfl,by rfl,by decide+kernel,by rfl,by rfl⟩ (eW N (O l rfl) (.inl rfl)) trivial rfl (by omega) λc0 T x hx=>?_).fe.mono λt I ⟨e1,e2⟩=>⟨?_,e2⟩)) (Nt l rfl)) ?_
    .refine⟨_,fP T rfl rfl,PE.Nf (bf (O T rfl) (O T rfl) k8) (λb=>?_) λb=>?_⟩
     .have b':(x:Int)=hi:=by simpa using b
      rw[B (by simp only[hi]at b';omega)];have o0:eN (min (wV H q.1) (wV H q.2))= .int lo:=by show D.int _=D.int _;congr 1;simp only[lo];omega
      exact Eq.mpr (aU (PE w A c0 _ b0 _) o0) (O T rfl)
     .have b':¬(x:Int)=hi:=by simpa using b
      rw[J (by simp only[hi]at b';omega)];exact O T rfl
    .rw[e1];show _=vr "leasts" (.vK (vG (H.map _)))::e0;simp[vG,bD]
    rintro f I ⟨rfl,rfl⟩;exact bw ⟨E (xd H q) W,by repeat (first|exact iH|refine gX rfl ?_),by rw[n0],rfl⟩
   .rintro f h ⟨rfl,rfl⟩
    rw[az,bX];exact⟨rfl,rfl⟩
   rintro f h ⟨rfl,rfl⟩;have f1:o.length=c.length:=(tV _ _).trans a0;let R:Nat->Nat->Md:=λC F=>vr "firsts" (.ref C)::vr "wish" (.ref F)::E o W;refine aq (M:=λf I=>∃C F,h.μ C=none/\h.μ F=none/\F≠C/\f=R C F/\I=(h.put C (.wc [])).put F (.vK [])) (pP (names:=["firsts","wish"]) N (nG (b_ (P1:=λd f0=>∃n,h.μ n=none/\d= .ref n/\f0=h.put n (.wc [])) rfl (oq jy λn hn=>⟨n,hn,rfl,rfl⟩) λd1 s1 ⟨C,hf,e1,e2⟩=>
    b_ (P1:=λd f0=>∃n,s1.μ n=none/\d= .ref n/\f0=s1.put n (.vK [])) rfl (kg (jg bG) λn hn=>⟨n,hn,rfl,rfl⟩) λd2 s2 ⟨F,M,e3,e4⟩=>gu ⟨by simp,_,.vV,rfl,?_⟩)) (by
     unfold swappedStores Env.kindOf;rw[d0,l]
     rfl)) ?_
   .subst e1 e2 e3 e4
    have ne:F≠C:=λe=>by rw[e,cj]at M;cases M
    rw[dD ne]at M;exact bZ (lR l rfl (bZ (lR l rfl (gW ⟨C,F,hf,M,ne,rfl,rfl⟩))))
   rintro f I ⟨C,F,hf,M,ne,rfl,rfl⟩;have nf:C≠S:=λe=>by rw[e,h1]at hf;cases hf
   have nw:F≠S:=λe=>by rw[e,h1]at M;cases M
   let P:List (Row×Nat)×List (Ys)->St:=λs=>((h.drop S).put C (.wc (wZ s.1))).put F (.vK (s.2.map xB));let su:List (Row×Nat)×List (Ys)->St:=λs=>(h.put C (.wc (wZ s.1))).put F (.vK (s.2.map xB));have e1:(su ([],[])).drop S=P ([],[]):=uJ λk=>by
    simp only[su,P,St.drop,St.put];by_cases z:k=S
    .subst z;rw[B rfl,J λq=>nw q.symm,J λq=>nf q.symm,B rfl]
    .simp[z]
   have e2:∀s,(P s).put S (.vK (c.map vP))=su s:=λs=>uJ λk=>by
    simp only[su,P,St.drop,St.put];by_cases z:k=S
    .subst z;rw[B rfl,J λq=>nw q.symm,J λq=>nf q.symm];exact h1.symm
    .simp[z]
   refine aq (M:=λf I=>f=R C F/\I=su (scan c o)) (iD (lk:=some (S,.vK (c.map vP))) (tg:=DP) (ds:=(List.range c.length).map λn=>.vV [.int (n:Nat),vP (c.getD n (default,[]))]) (λk f I=>f=R C F/\I=P (zY c o k)) (enum_rows c▸IT.enum N (BE l rfl) (O l rfl) (by rw[dD (fY nw),dD (fY nf)];exact h1)) ⟨rfl,e1⟩ ?_ ?_ ⟨_,_,_,rfl⟩) ?_
   .rintro k d f i0 hd ⟨rfl,rfl⟩
    obtain⟨n,hn,rfl,h0⟩:=cB hd;have p0:n=k/\k<c.length:=by
     let⟨a,b⟩:=aP.mp hn;rw[vo]at b;rw[cW]at a;exact⟨b.symm,a⟩
    obtain⟨rfl,X⟩:=p0;have q0:=m0 n X;let⟨g1,r0⟩:=hk _ q0;have s0:=BW (L:=o) g0 X;rw[u6];have sk:=tW c o n;generalize i1:zY c o n=s at*;generalize t0:c.getD n (default,[])=r at*;generalize Y:yf o r=g at*;have j0:(vP g).kd=some 2:=jQ s0;have u0:wG 2 (wZ s.1):=λx hx=>by
     obtain⟨q,hq,rfl⟩:=aa.mp hx;let⟨a,b⟩:=sk.f q hq;exact jQ (by rw[b];exact BW g0 (by omega))
    have w0:=sk.l;let v:Md:=vr "row" (vP r)::vr "n" (.int n)::R C F;let G:List (Row×Nat)×Nat:=match vJ s.1 g with
     |some m=>(s.1,m)
     |none=>(s.1++[(g,n)],n)
    have x0:(P s).μ C=some (.wc (wZ s.1)):=by
     show(St.put _ F _).μ C=_;rw[dD (fY ne),cj]
    have y0:G.2<c.length:=by
     show(match vJ s.1 g with|some m=>(s.1,m)|none=>(s.1++[(g,n)],n)).2<_;cases ha:vJ s.1 g with
     |none=>exact X
     |some m=>have:=(sk.f _ (fG ha)).1;show m<_;dsimp only at this;omega
    refine⟨v,AS.Ij N l rfl rfl,dj (aq (M:=λf h=>f=vr "first" (.int G.2)::v/\h=P (G.1,s.2)) (fC l rfl (GE.C4 hr (O l rfl) x0 (cI (d1:=.vV [.str r.1]) (d2:=.vV (vG (r.2.map (wV o)))) (bK (bq rfl (c7 (xs:=.str r.1::vG r.2) (O l rfl) bC (j:=0) (by simp[seqIndex?]) rfl))) (jx l rfl (jq ((jT (S:=Cn.1.scope) (tg:=wH) (lk:=none) r.2 eN (λk=>eN (wV o k)) l ⟨by rfl,by rfl,by decide+kernel,by rfl,by rfl⟩
     (eW N (fO (a:=1) (ds:=.str r.1::vG r.2) (O l rfl) bC (by omega) (by simp) (by simp[vG];omega)) (.inr (.inl rfl))) trivial rfl (by omega) λc0 T x hx=>?_).mono λt h e=>⟨by rw[e.1];simp[vG],e.2⟩)) .f (by simp[vG];omega)) (qy (by simp[vG];omega))) (O l rfl) (show(D.vV ([.str r.1]++vG (r.2.map (wV o)))).kd=some 2 by rw[<-Y]at j0;exact j0) u0 (by simp[wZ];omega) ?_ ?_)) ?_)⟩
    .exact⟨_,fP T rfl rfl,eG (O T rfl) (O T rfl) .f (by omega) (iF (by have:=r0 x hx;omega)) (by rw[bh];omega)⟩
    .intro d hd
     have ek:D.vV ([.str r.1]++vG (r.2.map (wV o)))=vP g:=by rw[<-Y];rfl
     rw[ek,j9,lA gc]at hd;obtain⟨m,hm,rfl⟩:=bu.mp hd;have:G=(s.1,m):=by show(match vJ s.1 g with|some m=>(s.1,m)|none=>(s.1++[(g,n)],n))=_;rw[hm]
     rw[this];exact⟨rfl,rfl⟩
    .intro hd
     have ek:D.vV ([.str r.1]++vG (r.2.map (wV o)))=vP g:=by rw[<-Y];rfl
     rw[ek,j9,lA gc,d_]at hd;have:G=(s.1++[(g,n)],n):=by show(match vJ s.1 g with|some m=>(s.1,m)|none=>(s.1++[(g,n)],n))=_;rw[hd]
     rw[this];refine⟨rfl,?_⟩;have e5:wM (wZ s.1) (vP g) (.int (n:Nat))=wZ (s.1++[(g,n)]):=by
      rw[j9,iA (ev:=λn:Nat=>D.int n) gc,qz hd];rfl
     rw[ek,e5];exact uJ λk=>by
      simp only[P,St.put];by_cases z:k=C
      .subst z;rw[B rfl,J (fY ne),B rfl]
      .simp[z]
    rintro f j1 ⟨rfl,rfl⟩;have z0:Cm c o s n=(G.1,if wV o G.2=wV o n then s.2 else s.2++[(G.2,n)]):=by
     unfold Cm;simp only[t0,Y];show _=((match vJ s.1 g with|some m=>(s.1,m)|none=>(s.1++[(g,n)],n)).1,if wV o (match vJ s.1 g with|some m=>(s.1,m)|none=>(s.1++[(g,n)],n)).2=wV o n then s.2 else s.2++[((match vJ s.1 g with|some m=>(s.1,m)|none=>(s.1++[(g,n)],n)).2,n)]);cases vJ s.1 g with
     |none=>simp
     |some m=>rfl
    rw[z0];have gl:∀{x} {i} {p1 p2 p3},i<c.length->look Cn.1.scope.names (vr "first" (.int G.2)::v) (Str.ofString x)=some (.int i)->PE w A Q (vr "first" (.int G.2)::v) (P (G.1,s.2)) (eval (.Subscript (.Name "leasts" p1) (.Name (Str.ofString x) p2) p3) Q) (.int (wV o i:Nat)):=λhi hx=>eG (O l rfl) (O l hx) .f (by omega) (iF (by omega)) (by rw[bh];omega);refine aq (M:=λf h=>f=vr "first" (.int G.2)::v/\h=P (G.1,if wV o G.2=wV o n then s.2 else s.2++[(G.2,n)])) (dH (bf (gl y0 rfl) (gl X rfl) F0) (λq=>?_) λq=>?_) λf h ⟨a,b⟩=>bw ⟨R C F,by rw[a];exactλy e q=>dW rfl y e (dW rfl y e (dW rfl y e q)),rfl,b⟩
    .have q':¬wV o G.2=wV o n:=λe=>by rw[e]at q;simp at q
     rw[J q'];refine aq (M:=λf h=>f=vr "first" (.int G.2)::v/\h=P (G.1,s.2++[(G.2,n)])) (eK l (e_ (O l rfl) (cj _ _ _) ((bK (bE rfl rfl (O l rfl) (O l rfl))).g ⟨_,cj _ _ _,by rw[az];have:=w0.2;show s.2.length<=100000;omega,rfl,?_⟩))) λf h q=>bw q;show St.put (St.put _ _ _) _ _=St.put _ _ _;rw[l7,aL];rfl
    .have q':wV o G.2=wV o n:=k6 (by simpa using q)
     rw[B q'];exact bw ⟨rfl,rfl⟩
   .rintro f i0 ⟨rfl,rfl⟩
    rw[az,cW];exact⟨rfl,e2 _⟩
   rintro f i0 ⟨rfl,rfl⟩;apply SE.Ba (x:="wish") (n:=F) rfl (cj _ _ _);rw[show(su (scan c o)).drop F=h.put C (.wc (wZ (scan c o).1))from uh (by rw[dD ne];exact M)];exact SE.WA (iY hf) (bw ⟨E o (scan c o).2,by repeat (first|exact iH|refine gX rfl ?_),k,dK k,rfl,o,_,rfl,V2⟩)
  .have hW:W=[]:=by simpa using hb
   subst hW;rw[V.fin];exact⟨rfl,rfl⟩
 .rintro f u ⟨rfl,rfl⟩
  exact bQ (cH (O l rfl) ⟨rfl,cN _⟩)
def za(a:Yg)(L:X8):Yw:=(List.range a.length).foldl (λh n=>wJ h (yf L (a.getD n (default,[]))) (wV L n)) []
def FZ(a:X8)(d:Yj):Ym:=d.foldl (λe b=>e.flatMap λt=>a.map λc=>t++[(b,c)]) [[]]
def zp(N:Nat)(p:Pt):Yl:=(List.range N).flatMap λc=>(Ah N p.vs).map (c,·)
def A8(a:Yg)(L:X8)(p:Pt):Yl:=(FZ (zo a.length L) p.vs).filterMap λt=>(w6 (za a L) p (val t)).map (·,t)
def xF(a:Yg)(L:X8)(p:Pt):Yl:=(zp a.length p).filter λm=>decide (m∈A8 a L p)
def Gd:Fd 594:=⟨_,rfl⟩
theorem UM{w:Yz}:wK w 594 Gd.1 ["rows","leasts","pattern"]:=.ok Gd
theorem Wz{w:Yz}:nsIn (KF w) mainGlobals "_law_all"=some (some (.ref 594)):=by kernel_rfl
theorem Ad:∀(l a:Yh),wh (a++l)->l.foldl (λa p=>wM a p.1 p.2) a=a++l
 |[],a,_=>(d7 a).symm
 |p::l,a,h=>by
  classical
  have b:p.1∉a.map (·.1):=λq=>by
   unfold wh at h;rw[aL,b6]at h;exact h.2.2 _ q _ (.head _) rfl
  have e:wM a p.1 p.2=a++[p]:=by unfold wM;rw[J b]
  rw[dg,e,Ad l (a++[p]) (by rw[cY];exact h),cY];rfl
theorem Be(e:X8):∀(f:Yj) (a:Ym) (k:Yj),(∀t∈a,t.map (·.1)=k)->∀t∈f.foldl (λa b=>a.flatMap λt=>e.map λc=>t++[(b,c)]) a,t.map (·.1)=k++f
 |[],a,k,h,t,d=>by rw[d7];exact h t d
 |b::f,a,k,h,t,d=>by
  have:=Be e f _ (k++[b]) (λt d=>by
   let⟨g,i,q⟩:=b7.mp d;obtain⟨c,_,rfl⟩:=aa.mp q;rw[aL,h g i];rfl) t d
  rw[this,cY];rfl
theorem D0{cls:X8}(g:∀c∈cls,c<N):∀(f:Yj) (a:Ym),(∀t∈a,∀q∈t,q.2<N)->∀t∈f.foldl (λa b=>a.flatMap λt=>cls.map λc=>t++[(b,c)]) a,∀q∈t,q.2<N
 |[],a,h,t,d=>h t d
 |b::f,a,h,t,d=>D0 g f _ (λt d q e=>by
  let⟨i,j,r⟩:=b7.mp d;obtain⟨c,k,rfl⟩:=aa.mp r;rcases aB.mp e with e|e
  .exact h i j q e
  .rw[aj.mp e];exact g c k) t d
theorem J6{cls:X8}(i:cls.Nodup):∀(f:Yj) (d:Ym),d.Nodup->(f.foldl (λd b=>d.flatMap λt=>cls.map λc=>t++[(b,c)]) d).Nodup
 |[],d,h=>h
 |b::f,d,h=>J6 i f _ (by
  rw[iC,ie];refine⟨λt _=>?_,h.imp λ{t u} g x j y k e=>?_⟩
  .rw[b5]
   exact i.imp λ{a c} g e=>g (by have:=List.append_cancel_left e;injection this with this;injection this)
  .obtain⟨a,_,rfl⟩:=aa.mp j
   obtain⟨c,_,rfl⟩:=aa.mp k;exact g (List.append_inj e (by have:=aU List.length e;simpa using this)).1)
theorem Gn(a:X8):∀(e:Yj) (d:Ym),(e.foldl (λd b=>d.flatMap λt=>a.map λc=>t++[(b,c)]) d).length=d.length*a.length^e.length
 |[],d=>by simp
 |b::e,d=>by
  rw[dg,Gn a e];simp only[gK,az,bO];rw[List.map_const',sY,sL,Nat.mul_assoc,oB (a.length^_)]
theorem Pn(f:∀x∈L,x<a.length)(g:L.length=a.length):∀q∈za a L,q.2<a.length/\∃n,n<a.length/\q.1=yf L (a.getD n (default,[])):=by
 have e:∀(l:X8) h,(∀n∈l,n<a.length)->(∀q∈h,q.2<a.length/\∃n,n<a.length/\q.1=yf L (a.getD n (default,[])))->∀q∈l.foldl (λh n=>wJ h (yf L (a.getD n (default,[]))) (wV L n)) h,q.2<a.length/\∃n,n<a.length/\q.1=yf L (a.getD n (default,[])):=λl=>by
  induction l with
  |nil=>exactλh _ c=>c
  |cons n l i=>
   intro h b c;refine i _ (λm j=>b m (.tail _ j)) λq d=>?_;rcases lq d with d|rfl
   .exact c q d
   .exact⟨f _ (nq (by rw[g];exact b n (.head _))),n,b n (.head _),rfl⟩
 exact e _ [] (λn b=>aZ.mp b) λq h=>nomatch h
theorem NQ{hd:Yw}(h:∀q∈hd,q.2<N)(a:∀b,v b<N):∀(p:Pt) {k:Nat},w6 hd p v=some k->k<N
 | .v b,k,e=>by cases e;exact a b
 | .f p,k,e=>by let⟨_,_,e⟩:=dU.mp e;exact h _ (fG e)
 | .g p q,k,e=>by
  let⟨_,_,e⟩:=dU.mp e;let⟨_,_,e⟩:=dU.mp e;exact h _ (fG e)
abbrev eV(b:Bool):D:=.str (wU b)
theorem AI:∀(p:Pt) (b:Bool),b∈p.Dw↔p.has b=true
 | .v a,b=>by simp[Pt.Dw,Pt.has,eq_comm]
 | .f p,b=>AI p b
 | .g p q,b=>by simp[Pt.Dw,Pt.has,AI p b,AI q b]
theorem VQ(p:Pt):(p.vs.map eV).Pairwise λa b=>wX a b=true:=by
 have c:(wU false).cps.toList<(wU true).cps.toList:=by decide+kernel
 have:([false,true].map eV).Pairwise λa b=>wX a b=true:=vn.mpr (by simp only[wX];exact kE c);exact this.sublist (fJ _ eH)
theorem PE.QY{q:Pt}(y:we 14 A)(z:c.scope=S)(G:GI S "sorted")(u:GI S "set")(h:PE w A c H I (eval e c) (.vK (q.Dw.map eV)))(hz:q.Dw.length<64)(i:A7 e c:=by rfl)(j:Ns1 f e c:=by rfl)(l:A7 (.Call (.Name "set" C) [e] [] f) c:=by rfl)(m:Ns1 v (.Call (.Name "set" C) [e] [] f) c:=by rfl):
 PE w A c H I (eval (.Call (.Name "sorted" p) [.Call (.Name "set" C) [e] [] f] [] v) c) (.vK (q.vs.map eV)):=by
 refine pJ ((j8 (y.mono (by omega)) (ki z G) (CE.set (lim:=4000) (nd:=true) (I:=λ_ _=>True) (el:=λd=>∃b,d=eV b) y (Nl z u) h .f (λA' g ρ _ s a L M t n x N Q E i j l m P R T ⟨b,V⟩=>Ds (VU w) s a L M t n x N Q E i j l m P R (λd hd=>let⟨b,e⟩:=T d hd;⟨wU b,e⟩) ⟨wU b,V⟩) (λd ⟨k,e⟩=>by subst e;exact⟨by simp only[D.pl];exact M0 k,by simp only[D.hk]⟩) trivial
  (λd o=>let⟨x,_,e⟩:=aa.mp o;⟨x,e.symm⟩) (by rw[az];omega) (by omega) i j) (λn F=>⟨λ_=>.inl ⟨1,.inr rfl,λd o=>?_⟩,?_⟩) l m).mono λr Y ⟨e1,n,⟨W,X,m3⟩,S⟩=>⟨?_,e1⟩)
 .obtain⟨x,_,rfl⟩:=aa.mp ((F.1 d).mp o);rfl
 .have:=F.2.2;rw[az]at this;omega
 .refine lZ (S.BP (X rfl)) (VQ q) λx=>?_
  rw[S.perm.mem_iff,W,aa,aa];exact⟨λ⟨b,a,e⟩=>⟨b,kX.mpr ((AI q b).mp a),e⟩,λ⟨b,a,e⟩=>⟨b,(AI q b).mpr (kX.mp a),e⟩⟩
theorem Dj(b:Yg)(L:X8):∀(l:X8) (h:Yw),(l.map λn=>(vP (yf L (b.getD n (default,[]))),D.int (wV L n:Nat))).foldl (λa p=>wM a p.1 p.2) (wZ h)=wZ (l.foldl (λh n=>wJ h (yf L (b.getD n (default,[]))) (wV L n)) h)
 |[],h=>rfl
 |n::l,h=>by
  rw[bF,dg,dg,<-Dj b L l];congr 1;rw[j9];exact iA (ev:=λn:Nat=>D.int n) gc
theorem Jw{nr:Nat}(h1:σ.μ nr=some (.vK (f.map vP)))(hL:L.length=f.length)(d0:∀x∈L,x<f.length)(hz:f.length<=50)(e0:∀r∈f,PyData.strOk r.1=true)(hk:∀r∈f,r.2.length<=2/\∀k∈r.2,k<f.length)(hp:p.Dw.length<64)(hd:p.depth<=4)(hw:(xF f L p).length<64):PF w 16 (.ref 594) [.ref nr,.vK (vG L),p.enc] σ (.vK ((xF f L p).map vZ)):=by
 refine eF (nQ UM λA f1 M he=>?_);have z:=he.scope;have Q:=M.handled;have o0:∀n,n<f.length->(f.getD n (default,[]))∈f:=λn P=>by rw[ah,au P];exact bT P
 let f0:Md:=[vr "rows" (.ref nr),vr "leasts" (.vK (vG L)),vr "pattern" p.enc];let hd:=za f L;let g0:Md:=vr "heads" (.wc (wZ hd))::f0;let fr:Nat->D×D:=λn=>(vP (yf L (f.getD n (default,[]))),.int (wV L n:Nat));refine aq (M:=λi v=>i=g0/\v=σ) (fV z rfl (jw (IS z rfl) (bq rfl (jq (ds:=((List.range f.length).map fr).map xC) ((jT (S:=Gd.1.scope) (tg:=DP) (lk:=some (nr,.vK (f.map vP))) (List.range f.length) (λn=>.vV [.int (n:Nat),vP (f.getD n (default,[]))]) (λn=>xC (fr n)) z ⟨by rfl,by rfl,by decide+kernel,by rfl,by rfl⟩
  (enum_rows f▸IT.enum Q (BE z rfl) (O z rfl) h1) ⟨_,_,_,rfl⟩ (Me h1) (by simp;omega) λH j n P=>?_).mono λt v e=>⟨by rw[e.1,bD];rfl,e.2⟩))) (FO.XI (Dp (M.mono (by omega)) .f (c:=2) ?_ (by simp;omega)))) ⟨?_,rfl⟩) ?_
 .have P:=aZ.mp P
  let⟨g1,p0⟩:=hk _ (o0 n P);generalize q0:f.getD n (default,[])=r at*;have ev:xC (fr n)= .vV [.vV ([.str r.1]++vG (r.2.map (wV L))),.int (wV L n:Nat)]:=by simp only[fr,q0];rfl
  rw[ev];refine⟨_,tU Q j rfl rfl rfl rfl,bK (bE rfl rfl (cI (d1:=.vV [.str r.1]) (d2:=.vV (vG (r.2.map (wV L)))) (bK (bq rfl (c7 (xs:=.str r.1::vG r.2) (O j rfl) bC (j:=0) (by simp[seqIndex?]) rfl))) (jx j rfl (jq ((jT (tg:=wH) (lk:=none) r.2 eN (λk=>eN (wV L k)) j ⟨by rfl,by rfl,by decide+kernel,by rfl,by rfl⟩
   (eW Q (fO (a:=1) (ds:=.str r.1::vG r.2) (O j rfl) bC (by omega) (by simp) (by simp[vG];omega)) (.inr (.inl rfl))) trivial rfl (by omega) λc1 Y x hx=>⟨_,fP Y rfl rfl,eG (O Y rfl) (O Y rfl) .f (by omega) (iF (by have:=p0 x hx;omega)) (by rw[bh];omega)⟩).mono λt v e=>⟨by rw[e.1];simp[vG],e.2⟩)) .f (by simp[vG];omega)) (qy (by simp[vG];omega))) (eG (O j rfl) (O j rfl) .f (by omega) (iF (by omega)) (by rw[bh];omega)))⟩
 .intro q E
  obtain⟨n,P,rfl⟩:=aa.mp E;exact jQ (BW e0 (aZ.mp P))
 .have:=Dj f L (List.range f.length) []
  exact aU (λx=>vr "heads" (.wc x)::f0) this
 rintro i v ⟨rfl,rfl⟩;let u:=zo f.length L;let F:Ym->Md:=λo=>vr "tables" (.vK (o.map tD))::g0;let step:Ym->Bool->Ym:=λo b=>o.flatMap λt=>u.map λc=>t++[(b,c)];have k0:u.length<=50:=bg CQ hz;have vl:=mT p;apply aq (M:=λi R=>i=F [[]]/\R=v) (fV z rfl (gV (bq rfl jy.XH)) ⟨rfl,rfl⟩);rintro i R ⟨rfl,rfl⟩;have tl:∀k,((p.vs.take k).foldl step [[]]).length<=2500:=λk=>by
  rw[Gn u (p.vs.take k) [[]]];have h1:(p.vs.take k).length<=2:=bg (m_ _ _) vl;have h2:u.length^(p.vs.take k).length<=50^(p.vs.take k).length:=Nat.pow_le_pow_left k0 _;have h3:50^(p.vs.take k).length<=50^2:=jN (by omega) h1;simp only[ia,Nat.one_mul];omega
 refine aq (M:=λi C=>i=F (FZ u p.vs)/\C=R) (iD (lk:=none) (tg:=wH) (ds:=p.vs.map eV) (λk i C=>i=F ((p.vs.take k).foldl step [[]])/\C=R) (eW Q (PE.QY (q:=p) (M.mono (by omega)) z rfl rfl (gF (dJ z rfl Tr) JZ.2 (bq rfl (O z rfl)) (UP p (by omega)) (M.mono (by omega))) hp) (.inl rfl)) ⟨rfl,rfl⟩ ?_ ?_) ?_
 .rintro k d i C r0 ⟨rfl,rfl⟩
  obtain⟨b,hb,rfl,h0⟩:=cB r0;let o:=(p.vs.take k).foldl step [[]];have g:∀t∈o,t.map (·.1)=p.vs.take k:=λt s=>by
   have:=Be u (p.vs.take k) [[]] [] (λt s=>by rw[aj.mp s];rfl) t s;simpa using this
  have i0:(p.vs.take (k+1)).foldl step [[]]=step o b:=by rw[h0,gv];rfl
  have s0:=tl k;have T:=tl (k+1);rw[i0]at T;have a0:(p.vs.take k++[b]).Nodup:=by rw[<-h0];exact(oA p).sublist (oK _ _)
  refine⟨vr "mark" (eV b)::F o,ig z rfl,dj (aq (M:=λi v=>i=vr "tables" (.vK ((step o b).map tD))::vr "mark" (eV b)::F o/\v=C) (l9 z rfl Cv.l (qg (rq (tg:=wH) (lk:=none) o tD (λ_=>u) eN (λt c=>tD (t++[(b,c)])) z ⟨by rfl,by rfl,by decide+kernel,by rfl,by rfl⟩
   (eW Q (O z rfl) (.inl rfl)) trivial rfl ?_ λH j t s=>⟨_,fP j rfl rfl,wH,eW Q (pn (N:=f.length) (l:=L) (M.mono (by omega)) j rfl rfl (O j rfl) .f d0 (by omega)) (.inl rfl),trivial,λc i1=>⟨_,fP j rfl rfl,?_⟩⟩) λt c0 ⟨e1,e2⟩=>?_) (JR z rfl rfl)) ?_)⟩
  .have:(step o b).length=(o.flatMap λ_=>u).length:=by simp[step,gK]
   omega
  .have hok:zf (t++[(b,c)]):=by
    unfold zf;rw[aL,g t s];exact a0
   have d1:=hok.len;have t0:wh ((t++[(b,c)]).map λq=>(D.str (wU q.1),D.int (q.2:Nat))):=by
    unfold wh;rw[bD];have:((t++[(b,c)]).map ((·.1)∘λq=>(D.str (wU q.1),D.int (q.2:Nat))))=((t++[(b,c)]).map (·.1)).map eV:=by rw[bD];rfl
    rw[this];exact b5.mpr (List.Pairwise.imp (λne e=>ne (lH _ _ e)) hok)
   have e3:(BG (t++[(b,c)])).foldl (λa p=>wM a p.1 p.2) []=BG (t++[(b,c)]):=Ad _ [] t0;have j1:(t++[(b,c)]).length=t.length+1:=by simp
   have e4:(BG t).map xC++[D.vV [eV b,eN c]]=(BG (t++[(b,c)])).map xC:=by simp[BG,xC]
   show PE w A H _ C _ (.wc (BG (t++[(b,c)])));rw[<-e3];exact jw (IS j rfl) (bq rfl (e4▸cI (pJ (FE.Js Q (uG j rfl) (O j rfl) (by simp[BG];omega))) (gV (bq rfl (bK (bE rfl rfl (O j rfl) (O j rfl))))) (BV .f .f (by simp[BG];omega)))) (FO.XI (Dp (M.mono (by omega)) .f (c:=1) (tH _) (by simp[BG];omega)))
  .subst e1 e2
   rintro d u0 ⟨rfl,rfl⟩;refine⟨?_,rfl⟩;have:(o.flatMap λx=>u.map λc=>tD (x++[(b,c)]))=(step o b).map tD:=by
    simp only[step,pD,bD];rfl
   rw[this]
  rintro i c0 ⟨rfl,rfl⟩;exact bw ⟨F (step o b),by repeat (first|exact iH|refine gX rfl ?_),by rw[i0],rfl⟩
 .rintro i C ⟨rfl,rfl⟩
  rw[az,bX];exact⟨rfl,rfl⟩
 rintro i C ⟨rfl,rfl⟩;let o:=FZ u p.vs;have g:∀t∈o,t.map (·.1)=p.vs:=λt s=>by
  have:=Be u p.vs [[]] [] (λt s=>by rw[aj.mp s];rfl) t s;simpa using this
 have s0:o.length<=2500:=by have:=tl p.vs.length;rwa[bX]at this
 have I:=Pn d0 hL;have w0:∀q∈hd,PyData.strOk q.1.1=true:=λq E=>by
  let⟨n,P,e⟩:=(I q E).2;rw[e];exact BW e0 P
 have N:∀t∈o,∀b,p.has b=true->(vJ t b).isSome=true:=λt s b hb=>by
  have W:b∈t.map (·.1):=by rw[g t s];exact kX.mpr hb
  obtain⟨q,E,rfl⟩:=aa.mp W;rw[(pq (by unfold zf;rw[g t s];exact oA p)).mpr (show(q.1,q.2)∈t from E)];rfl
 let X:Tb->D:=λt=>.vV [zV (w6 hd p (val t)),xS t];let x0:Md:=vr "told" (.vK (o.map X))::F o;refine aq (M:=λi v=>i=x0/\v=C) (l9 z rfl Cv.l (qg (jT (S:=Gd.1.scope) (tg:=wH) (lk:=none) o tD X z ⟨by rfl,by rfl,by decide+kernel,by rfl,by rfl⟩ (eW Q (O z rfl) (.inl rfl)) trivial rfl (by omega) λH j t s=>⟨_,fP j rfl rfl,?_⟩) λt c0 ⟨e1,e2⟩=>?_) (JR z rfl rfl)) ?_
 .have j0:zf t:=by unfold zf;rw[g t s];exact oA p
  have l0:∀b,(vJ t b).isSome=p.has b:=λb=>by
   cases hb:p.has b with
   |true=>exact N t s b hb
   |false=>
    cases q:vJ t b with
    |none=>rfl
    |some c=>
     have:b∈p.vs:=by rw[<-g t s];exact aa.mpr ⟨_,fG q,rfl⟩
     rw[kX,hb]at this;cases this
  have m0:yF p t=t:=(Gv (g t s) (oA p)).symm;have T:=j0.len;refine bK (bE rfl rfl (gF (dJ j rfl Tq) F_.2 (bI rfl (O j rfl) (bE rfl rfl (O j rfl) (O j rfl))) (NP w0 p (N t s)) (M.mono (by omega))) (jx j rfl (pJ ((j8 (M.mono (by omega)) (ki j rfl) (CE.items (O j rfl) (by simp[BG];omega)) (λds e=>?_)).mono λr v ⟨a,ds,b,S⟩=>⟨(BC j0 l0 (b▸S)).trans (by rw[m0]),a⟩)) .f (by simp;omega)));subst e;refine⟨λ_=>.inr ⟨1,λd hd=>?_,λd hd e he=>?_⟩,?_⟩
  .obtain⟨q,E,rfl⟩:=aa.mp hd
   obtain⟨r,M,rfl⟩:=aa.mp E;exact⟨by simp[xC,D.kd,A2,D.hk,yJ,D.pl,M0],_,_,rfl,rfl⟩
  .obtain⟨q,E,rfl⟩:=aa.mp hd
   obtain⟨r,M,rfl⟩:=aa.mp E;obtain⟨q,E,rfl⟩:=aa.mp he;obtain⟨r,M,rfl⟩:=aa.mp E;simp[xC,D.ok,FN]
  .simp[BG];omega
 .subst e1 e2
  rintro d u0 ⟨rfl,rfl⟩;exact⟨rfl,rfl⟩
 rintro i c0 ⟨rfl,rfl⟩;have G:∀t∈o,∀q∈t,q.2<f.length:=λt s=>D0 (cls:=u) (N:=f.length) (λc j=>sE j) p.vs [[]] (λt s q E=>by rw[aj.mp s]at E;cases E) t s;have n0:∀t∈o,∀b,val t b<f.length:=λt s b=>by
  unfold val;cases q:vJ t b with
  |some c=>exact G t s _ (fG q)
  |none=>
   let⟨b0,y0⟩:=JP p;let⟨c,j⟩:=aT.mp (N t s b0 y0);have:=G t s _ (fG j);show 0<_;dsimp only at this;omega
 have eL:(o.filter λt=>(w6 hd p (val t)).isSome).map X=(A8 f L p).map vZ:=by
  have z0:∀l:Ym,(l.filter λt=>(w6 hd p (val t)).isSome).map X=(l.filterMap λt=>(w6 hd p (val t)).map (·,t)).map vZ:=λl=>by
   induction l with
   |nil=>rfl
   |cons t l ih=>
    cases q:w6 hd p (val t)with
    |none=>rw[lM,jX,q];exact ih
    |some k=>
     rw[lM,jX,q];simp only[Option.isSome_some,cE,p6,bF,ih];congr 1;simp only[X,q];rfl
  exact z0 o
 have V:∀m,m∈A8 f L p->m.2∈o/\w6 hd p (val m.2)=some m.1:=λm W=>by
  let⟨t,s,e⟩:=vp.mp W;obtain⟨k,a1,rfl⟩:=bu.mp e;exact⟨s,a1⟩
 have b1:∀m∈A8 f L p,m∈zp f.length p:=λm W=>by
  let⟨a,b⟩:=V m W;exact b7.mpr ⟨m.1,aZ.mpr (NQ (λq E=>(I q E).1) (n0 m.2 a) p b),aa.mpr ⟨m.2,iP.mpr ⟨g m.2 a,G m.2 a⟩,rfl⟩⟩
 have a0:((A8 f L p).map vZ).Nodup:=by
  have h1:=J6 (cls:=u) (fZ.filter _) p.vs [[]] (by simp);refine b5.mpr (rY.mpr (h1.imp λ{a b} ne x hx y hy e=>?_));obtain⟨k,_,rfl⟩:=bu.mp hx;obtain⟨l,_,rfl⟩:=bu.mp hy;have:=rQ e;exact ne (aU (·.2) this)
 refine bQ (cH (u5 (vs:=p.vs) (l:=A8 f L p) (r:=xF f L p) (M.mono (by omega)) z rfl (CE.seq (jq (ds:=(A8 f L p).map vZ) ((mh (tg:=wH) (lk:=none) o X (λt=>(w6 hd p (val t)).isSome) X z ⟨by rfl,by rfl,by decide+kernel,by rfl,by rfl⟩ (eW Q (O z rfl) (.inl rfl)) trivial rfl (by omega) λH j t s=>?_).mono λt v e=>⟨e.1.trans eL,e.2⟩)) (.vK .f) ?_) vl a0 (λx=>by rw[aa];exact⟨λ⟨c,a,b⟩=>⟨c,a,b.symm⟩,λ⟨c,a,b⟩=>⟨c,a,b.symm⟩⟩) (λm W=>g _ (V m W).1) ?_ (λm=>?_) hw) ⟨rfl,cN _⟩)
 .refine⟨_,fP j rfl rfl,bf (c7 (xs:=[zV (w6 hd p (val t)),xS t]) (O j rfl) bC (j:=0) rfl rfl) tQ ?_,λ_=>O j rfl⟩
  have:(!isNone (zV (w6 hd p (val t))))=(w6 hd p (val t)).isSome:=by cases w6 hd p (val t)<;>rfl
  rw[<-this];exact Oo
 .rw[az]
  have:(A8 f L p).length<=o.length:=List.length_filterMap_le _ _;omega
 .exact(EX eB λ_=>AN _).sublist (fJ _ eH)
 .unfold xF
  rw[aV,aM];exact⟨λh=>h.2,λh=>⟨b1 m h,h⟩⟩
structure LX where
 vB:List Row
 v7:List (Ys)
 v_:List (Ys)
 wz:List (Pt×List Mt)
def conv(L:X8)(m:Mt):Mt:=(wV L m.1,m.2.map λq=>(q.1,wV L q.2))
def LX.L(Y:LX):X8:=xx Y.vB Y.v7
def LX.ya(Y:LX)(p:Pt):Yl:=xF Y.vB Y.L p
def LX.vR(Y:LX)(p:Pt):Yl:=((vJ Y.wz p).getD []).map (conv Y.L)
def LX.ask(Y:LX)(p:Pt):LX:={Y with wz:=wJ Y.wz p (Y.ya p)}
structure XQ(k:Nat)(X:HX)(C:CX)(Y:LX):Prop where
 O:Af X
 Z:Sz X
 r:Y.vB=X.vB
 rl:2<=Y.vB.length/\Y.vB.length<=8
 pl:Y.v7.length<=k
 ll:Y.v_.length<=k
 pr:∀q∈Y.v7,q.1<Y.vB.length/\q.2<Y.vB.length
 sn:Y.wz.length<=1000
 sp:∀q∈Y.wz,q.1∈yx/\q.2.length<64/\∀m∈q.2,m∈zp Y.vB.length q.1
structure Laws(Good:Nat->HX->CX->LX->Prop)(m:HX->Nat):Prop where
 ini:(Af HX.empty/\Sz HX.empty/\yS (HX.empty.grow ("a",[])) 0)/\Af (HX.empty.add ("a",[]))/\Sz (HX.empty.add ("a",[]))/\yS ((HX.empty.add ("a",[])).grow ("b",[])) (HX.empty.add ("a",[])).vB.length/\
  Good 0 ((HX.empty.add ("a",[])).add ("b",[])) ⟨[],[],((HX.empty.add ("a",[])).add ("b",[])).vW⟩ ⟨[("a",[]),("b",[])],[],[],[]⟩
 TL:∀{k X C Y},Good k X C Y->XQ k X C Y
 pre:∀{k X C Y},Good k X C Y->X.vM≠[]->yS (X.xq X.v8 X.vM.dropLast) (X.vM.getLastD 0)
 dec:∀{k X C Y},Good k X C Y->X.vM≠[]->Good k X.xQ C Y/\m X.xQ<m X
 skip:∀{k X C Y},Good k X C Y->Good (k+1) X C Y
 ask:∀{k X C Y p},k<20->Good k X C Y->X.vM=[]->p∈yx->M_ X (C.w4 X) p/\(Y.ya p).length<64/\(C.w4 X).fresh X p=((Y.ya p).filter λm=>decide (m∉Y.vR p))/\
  ((X.yy p).filter λm=>decide (m∈(C.w4 X).xN X p++(C.w4 X).fresh X p))=Y.ya p/\Good (k+1) X ((C.w4 X).zj X p) (Y.ask p)
 add:∀{k X C Y} {r:Row},k<20->Good k X C Y->Y.vB.length<=7->((∃a,r=(("f",[a]):Row)/\a<Y.vB.length)\/∃a b,r=(("g",[a,b]):Row)/\a<Y.vB.length/\b<Y.vB.length)->
  (r∉X.vB->yS (X.grow r) X.vB.length)/\Good (k+1) (X.add r) C {Y with vB:=if r∈Y.vB then Y.vB else Y.vB++[r]}
 merge:∀{k X C Y a b r},k<20->Good k X C Y->a<Y.vB.length->b<Y.vB.length->Good (k+1) (X.join a b r) C {Y with v7:=Y.v7++[(a,b)]}
 push:∀{k X C Y},k<20->Good k X C Y->Good (k+1) X.push C {Y with v_:=Y.v_++[(Y.vB.length,Y.v7.length)]}
 pop:∀{k X C Y ls many zU},k<20->Good k X C Y->Y.v_=ls++[(many,zU)]->(∃ms n pw,X.vH=ms++[(n,pw)]/\ms.length<=10000/\X.vC.length<=10000/\∀j,j<X.vC.length-n->M8 (HX.wu j {X with vH:=ms,vW:=X.vW+1}))/\
  Good (k+1) X.pop C ⟨Y.vB.take many,Y.v7.take zU,ls,[]⟩
structure Cr where
 vB:List Row
 up:List Nat
 vI:List (X8)
 vN:List (Ys)
 vF:List (Nat×Nat×D)
 vO:List Nat
 kn:Row->Option Nat
 us:Nat->Option (X8)
theorem Cr.eq{a b:Cr}(c:a.vB=b.vB)(d:a.up=b.up)(e:a.vI=b.vI)(f:a.vN=b.vN)(g:a.vF=b.vF)(h:a.vO=b.vO)(i:∀s,a.kn s=b.kn s)(j:∀x,a.us x=b.us x):a=b:=by
 cases a;cases b
 simp only at c d e f g h i j;rw[c,d,e,f,g,h,funext i,funext j]
def nJ:=@Cr.eq
inductive CC where
 |made (n:Nat)
 |vR (s:Row)
 |wY (k m g:Nat) (l:X8)
namespace Cr
def vQ(c:Cr)(a:Nat):Nat:=xr c.up a
def row(c:Cr)(n:Nat):Row:=c.vB.getD n (default,[])
def sig(c:Cr)(n:Nat):Row:=((c.row n).1,(c.row n).2.map c.vQ)
def xH(c:Cr)(n:Nat):X8:=c.vI.getD n []
def ul(c:Cr)(x:Nat):X8:=(c.us x).getD []
def grow(c:Cr)(r:Row):Cr:={c with vB:=c.vB++[r],up:=c.up++[c.up.length],vI:=c.vI++[[c.vI.length]],us:=λx=>if x=c.vB.length then some []else if x∈r.2.map c.vQ then(c.us x).map (·++[c.vB.length])else c.us x}
def Lc(c:Cr)(s:Row)(m:Nat):Cr:={c with kn:=λr=>if r=s then some m else c.kn r}
def jn(c:Cr)(a b:Nat)(r:D)(k g:Nat):Cr:=
 if k=g then{c with vF:=c.vF++[(a,b,r)]}else
  {c with
   vF:=c.vF++[(a,b,r)],up:=c.up.set g k,vI:=c.vI.set k (c.xH k++c.xH g),vN:=c.vN++[(k,g)],vO:=c.vO++[c.vF.length],
   us:=λx=>if x=g then none else if x=k then some (c.ul k++c.ul g)else c.us x}
def xg(c:Cr):CC->Cr
 | .made n=>{c with vB:=c.vB.take n,up:=c.up.take n,vI:=c.vI.take n,us:=λx=>if x=n then none else if x∈(c.row n).2.map c.vQ then(c.us x).map List.dropLast else c.us x}
 | .vR s=>{c with kn:=λr=>if r=s then none else c.kn r}
 | .wY k m g l=>if k=g then{c with vF:=c.vF.dropLast}else
  {c with
   vF:=c.vF.dropLast,vO:=c.vO.dropLast,vN:=c.vN.dropLast,up:=c.up.set g g,vI:=c.vI.set k ((c.xH k).take ((c.xH k).length-(c.xH g).length)),
   us:=λx=>if x=g then some l else if x=k then some ((c.ul k).take m)else c.us x}
end Cr
def vw(X:HX):Cr:=⟨X.vB,X.up,X.vI,X.vN,X.vF,X.vO,vJ X.vR,λc=>(vJ X.vE c).map X.us⟩
def yH(X:HX):A3->CC
 | .made n=>.made n
 | .vR s=>.vR s
 | .wY k m g i=>.wY k m g (if k=g then[]else X.us i)
theorem J_(h:b.getD a a<a):xr b a=xr b (b.getD a a):=by
 conv=>lhs;rw[xr]
 rw[dif_pos h]
theorem N_(h:¬b.getD a a<a):xr b a=a:=by rw[xr,sr h]
def lB:=@N_
theorem Cz(b:X8):∀a,¬b.getD (xr b a) (xr b a)<xr b a:=by
 intro a;induction a using Nat.strongRecOn with
 |ind a c=>
  rw[xr];split
  .rename_i h;exact c _ h
  .rename_i h;exact h
theorem LD(b:X8)(a:Nat):xr b (xr b a)=xr b a:=by
 conv=>lhs;rw[xr]
 rw[sr (Cz b a)]
theorem Rg(b:X8):∀a,xr b a<=a:=by
 intro a;induction a using Nat.strongRecOn with
 |ind a c=>
  rw[xr];split
  .rename_i h;exact bg (c _ h) (l_ h)
  .exact ao _
theorem Oa(j:g<b.length)(d:xr b g=g)(f:xr b k=k)(i:k<g):∀a,xr (b.set g k) a=if xr b a=g then k else xr b a:=by
 have l:∀r,xr b r=r->¬b.getD r r<r:=λr h=>by have:=Cz b r;rwa[h]at this
 have c:∀a,a≠g->(b.set g k).getD a a=b.getD a a:=λa h=>by
  simp only[ah];rw[cy (fY h)]
 intro a;induction a using Nat.strongRecOn with
 |ind a m=>
  by_cases e:a=g
  .subst e
   rw[d,B rfl,xr];have:(b.set a k).getD a a=k:=by simp[ah,cZ j]
   rw[dif_pos (by rw[this];exact i),this,xr,sr (by rw[c k (by omega)];exact l k f)]
  .by_cases h:b.getD a a<a
   .rw[J_ (by rw[c a e];exact h),c a e,m _ h,J_ h]
   .rw[lB (by rw[c a e];exact h),lB h,J e]
structure wm(c:Cr):Prop where
 n1:c.vB.length=c.up.length
 n2:c.vI.length=c.up.length
 n8:c.up.length<=8
 up:∀i,i<c.up.length->c.up.getD i i<=i
 nd:c.vB.Nodup
 kid:∀n,∀k∈(c.row n).2,k<n
 kl:∀n,(c.row n).2.length<=2
 op:∀r∈c.vB,zW r.1
 ln:∀i,(c.xH i).Nodup/\∀x∈c.xH i,x<c.up.length
 lm:∀i,i<c.up.length->c.vQ i=i->∀x,x∈c.xH i↔x<c.up.length/\c.vQ x=i
 ud:∀x,(c.us x).isSome=true↔x<c.up.length/\c.vQ x=x
 um:∀x l,c.us x=some l->∀y,y∈l↔y<c.up.length/\∃k∈(c.row y).2,c.vQ k=x
 uc:∀x l,c.us x=some l->∀y,l.count y<=((c.row y).2.filter λk=>decide (c.vQ k=x)).length
 mg:(c.vN.map (·.2)).Nodup/\∀p∈c.vN,p.2<c.up.length/\c.vQ p.2≠p.2
 fm:c.vO.length=c.vN.length
 fe:∀sp∈c.vO,sp<c.vF.length
 ee:∀e∈c.vF,e.1<c.up.length
 kn:∀s m,c.kn s=some m->m<c.up.length/\s.1=(c.row m).1/\s.2.length=(c.row m).2.length/\∀x∈s.2,x<c.up.length
theorem Vd(c:Cr)(a:Nat):c.vQ a<=a:=Rg _ _
def uK:=@Vd
theorem PG(c:Cr)(a:Nat):c.vQ (c.vQ a)=c.vQ a:=LD _ _
def c_:=@PG
theorem wm.Rb(h:wm c)(a:c.up.length<=n):c.row n=(default,[]):=by
 unfold Cr.row;rw[ah,aO (by rw[h.n1];exact a)];rfl
theorem Pu(c:Cr)(r:Row)(n:Nat):(c.grow r).row n=if n=c.vB.length then r else c.row n:=by
 unfold Cr.row Cr.grow;simp only[ah];by_cases h:n<c.vB.length
 .rw[aY h,J (by omega)]
 .by_cases e:n=c.vB.length
  .subst e;simp
  .rw[aO (by simp;omega),J e,aO (by omega)]
def jJ:=@Pu
theorem Px(h:wm c)(r:Row)(n:Nat):(c.grow r).vQ n=c.vQ n:=by
 unfold Cr.vQ Cr.grow;by_cases a:n<c.up.length
 .exact Gy h.up (ao _) n a
 .have b:¬(c.up++[c.up.length]).getD n n<n:=by
   by_cases e:n=c.up.length
   .subst e;simp
   .rw[ah,aO (by simp;omega)];simp
  rw[lB b,lB (by rw[ah,aO (by omega)];simp)]
def mW:=@Px
section
variable{c:Cr}
theorem T6(h:wm c)(a:c.up.length<=x):c.us x=none:=by
 cases e:c.us x with
 |none=>rfl
 |some l=>have:=(h.ud x).mp (by rw[e];rfl);omega
theorem Ko(h:wm c)(r:Row)(l:X8):l.map (c.grow r).vQ=l.map c.vQ:=aK λk _=>mW h r k
theorem Ek(h:wm c)(r:Row):(c.grow r).xg (.made c.vB.length)=c:=by
 have a:=h.n1;have b:(c.grow r).row c.vB.length=r:=by rw[jJ,B rfl]
 refine nJ ?_ ?_ ?_ rfl rfl rfl (λ_=>rfl) λx=>?_
 .show(c.vB++[r]).take c.vB.length=c.vB;simp
 .show(c.up++[_]).take c.vB.length=c.up;rw[a];simp
 .show(c.vI++[_]).take c.vB.length=c.vI;rw[a,<-h.n2];simp
 .show(if x=c.vB.length then none else if x∈((c.grow r).row c.vB.length).2.map (c.grow r).vQ then((c.grow r).us x).map List.dropLast else(c.grow r).us x)=c.us x
  rw[b,Ko h];by_cases e:x=c.vB.length
  .rw[B e,T6 h (by omega)]
  .rw[J e]
   show(if x∈r.2.map c.vQ then(if x=c.vB.length then some []else if x∈r.2.map c.vQ then(c.us x).map (·++[c.vB.length])else c.us x).map List.dropLast else(if x=c.vB.length then some []else if x∈r.2.map c.vQ then(c.us x).map (·++[c.vB.length])else c.us x))=c.us x;rw[J e];by_cases q:x∈r.2.map c.vQ
   .rw[B q,B q]
    cases c.us x with
    |none=>rfl
    |some l=>simp
   .rw[J q,J q]
theorem GQ(a:c.kn s=none):(c.Lc s m).xg (.vR s)=c:=by
 refine nJ rfl rfl rfl rfl rfl rfl (λt=>?_) λ_=>rfl;show(if t=s then none else if t=s then some m else c.kn t)=c.kn t;by_cases e:t=s
 .rw[B e,e,a]
 .rw[J e,J e]
theorem Sa(h:wm c)(q:k<c.up.length)(d:g<c.up.length)(p:c.vQ k=k)(f:c.vQ g=g):(c.jn a b r k g).xg (.wY k (c.ul k).length g (if k=g then[]else c.ul g))=c:=by
 unfold Cr.jn;by_cases e:k=g
 .rw[B e]
  show(if k=g then _ else _)=c;rw[B e];exact nJ rfl rfl rfl rfl (by show(c.vF++[_]).dropLast=_;simp) rfl (λ_=>rfl) λ_=>rfl
 .rw[J e,J e]
  show(if k=g then _ else _)=c;rw[J e];have j:c.up.getD g g=g:=by
   have t:=h.up g d;have u:¬c.up.getD g g<g:=by have:=Cz c.up g;rw[show xr c.up g=g from f]at this;exact this
   omega
  have n:k<c.vI.length:=by rw[h.n2];exact q
  let⟨v,l⟩:=aT.mp ((h.ud k).mpr ⟨q,p⟩);let⟨w,m⟩:=aT.mp ((h.ud g).mpr ⟨d,f⟩);refine nJ rfl ?_ ?_ ?_ ?_ ?_ (λ_=>rfl) λx=>?_
  .show(c.up.set g k).set g g=c.up
   rw[List.set_set];apply gw;intro i;by_cases z:i=g
   .subst z
    rw[cZ d];rw[ah,au d]at j;rw[au d];exact aU some j.symm
   .rw[cy (fY z)]
  .show(c.vI.set k (c.xH k++c.xH g)).set k (((c.vI.set k (c.xH k++c.xH g)).getD k []).take (((c.vI.set k (c.xH k++c.xH g)).getD k []).length-((c.vI.set k (c.xH k++c.xH g)).getD g []).length))=c.vI
   rw[List.set_set];have e1:(c.vI.set k (c.xH k++c.xH g)).getD k []=c.xH k++c.xH g:=by rw[ah,cZ n];rfl
   have s:(c.vI.set k (c.xH k++c.xH g)).getD g []=c.xH g:=by rw[ah,cy e,<-ah];rfl
   rw[e1,s,aF,nY,List.take_left];apply gw;intro i;by_cases z:i=k
   .subst z
    rw[cZ n,au n];simp[Cr.xH,au n]
   .rw[cy (fY z)]
  .show(c.vN++[_]).dropLast=_;simp
  .show(c.vF++[_]).dropLast=_;simp
  .show(c.vO++[_]).dropLast=_;simp
  .show(if x=g then some (c.ul g)else if x=k then some (((if k=g then none else if k=k then some (c.ul k++c.ul g)else c.us k).getD []).take (c.ul k).length)else(if x=g then none else if x=k then some (c.ul k++c.ul g)else c.us x))=c.us x
   rw[J e,B rfl];by_cases z:x=g
   .rw[B z,z,m];simp[Cr.ul,m]
   .rw[J z]
    by_cases o:x=k
    .rw[B o,o,l];simp[Cr.ul,l]
    .rw[J o,J z,J o]
end
theorem Vc(h:wm c)(b:a<c.up.length):c.vQ a<c.up.length:=gg (uK c a) b
def fX:=@Vc
theorem CI(h:wm c)(r:Row)(i:Nat):(c.grow r).xH i=if i=c.up.length then[i]else c.xH i:=by
 have a:=h.n2;unfold Cr.xH Cr.grow;simp only[ah];by_cases q:i<c.vI.length
 .rw[aY q,J (by omega)]
 .by_cases e:i=c.up.length
  .subst e;rw[B rfl,<-a];simp
  .rw[aO (by simp;omega),J e,aO (by omega)]
theorem Pw(h:wm c)(R:r∉c.vB)(I:∀k∈r.2,k<c.up.length)(S:r.2.length<=2)(T:zW r.1)(h7:c.up.length<=7):wm (c.grow r):=by
 have C:=h.n1;have E:(c.grow r).up.length=c.up.length+1:=by simp[Cr.grow]
 have v:=mW h r;have F:c.vQ c.up.length=c.up.length:=lB (by simp);have w:∀x l,(c.grow r).us x=some l->(x=c.up.length/\l=[])\/(x<c.up.length/\∃g,c.us x=some g/\l=if x∈r.2.map c.vQ then g++[c.up.length]else g):=λx l e=>by
  have e:(if x=c.vB.length then some []else if x∈r.2.map c.vQ then(c.us x).map (·++[c.vB.length])else c.us x)=some l:=e;by_cases z:x=c.vB.length
  .rw[B z]at e;cases e;exact .inl ⟨by omega,rfl⟩
  .rw[J z]at e
   by_cases q:x∈r.2.map c.vQ
   .rw[B q]at e
    obtain⟨g,t,rfl⟩:=bu.mp e;exact .inr ⟨((h.ud x).mp (by rw[t];rfl)).1,g,t,by rw[B q,C]⟩
   .rw[J q]at e
    exact .inr ⟨((h.ud x).mp (by rw[e];rfl)).1,l,e,by rw[J q]⟩
 refine{n1:=by simp[Cr.grow,C],n2:=by simp[Cr.grow,h.n2],n8:=by omega,up:=?_,nd:=?_,kid:=?_,kl:=?_,op:=?_,ln:=?_,lm:=?_,ud:=?_,um:=?_,uc:=?_,mg:=?_,fm:=h.fm,fe:=h.fe,ee:=?_,kn:=?_}
 .intro i V
  show(c.up++[c.up.length]).getD i i<=i;rw[ah];by_cases q:i<c.up.length
  .rw[aY q,<-ah];exact h.up i q
  .have:i=c.up.length:=by omega
   subst this;simp
 .show(c.vB++[r]).Nodup
  exact b6.mpr ⟨h.nd,by simp,λx j y W e=>R (by rw[<-aj.mp W,<-e];exact j)⟩
 .intro n k o
  rw[jJ]at o;split at o
  .have:=I k o;omega
  .exact h.kid n k o
 .intro n;rw[jJ];split
  .exact S
  .exact h.kl n
 .intro x j
  rcases aB.mp (show x∈c.vB++[r]from j)with q|q
  .exact h.op x q
  .rw[aj.mp q];exact T
 .intro i
  rw[CI h];split
  .rename_i e;exact⟨by simp,λx j=>by rw[aj.mp j];omega⟩
  .exact⟨(h.ln i).1,λx j=>by have:=(h.ln i).2 x j;omega⟩
 .intro i V L x
  rw[v]at L;rw[CI h,v,E];split
  .rename_i e
   rw[aj];refine⟨λq=>by rw[q,e];exact⟨by omega,F⟩,λ⟨M,u⟩=>?_⟩;have:=uK c x;by_cases z:x<c.up.length
   .have:=fX h z;omega
   .omega
  .rename_i e
   rw[h.lm i (by omega) L];refine⟨λq=>⟨by omega,q.2⟩,λ⟨M,u⟩=>⟨?_,u⟩⟩;by_cases z:x<c.up.length
   .exact z
   .have:x=c.up.length:=by omega
    rw[this,F]at u;omega
 .intro x
  rw[v,E];show(if x=c.vB.length then some []else if x∈r.2.map c.vQ then(c.us x).map (·++[c.vB.length])else c.us x).isSome=true↔_;by_cases z:x=c.vB.length
  .rw[B z];subst z;rw[C];simp[F]
  .rw[J z]
   have:(if x∈r.2.map c.vQ then(c.us x).map (·++[c.vB.length])else c.us x).isSome=(c.us x).isSome:=by split<;>simp
   rw[this,h.ud];exact⟨λq=>⟨by omega,q.2⟩,λq=>⟨by omega,q.2⟩⟩
 .intro x l e y
  simp only[v,jJ,E];rcases w x l e with⟨rfl,rfl⟩|⟨j,g,t,rfl⟩
  .refine⟨λq=>(nomatch q),λ⟨M,k,u,q3⟩=>?_⟩
   have G:k<c.up.length:=by
    split at u
    .exact I k u
    .have:=h.kid y k u;omega
   have:=fX h G;omega
  .have H:y∈(if x∈r.2.map c.vQ then g++[c.up.length]else g)↔y∈g\/(y=c.up.length/\x∈r.2.map c.vQ):=by
    by_cases q:x∈r.2.map c.vQ
    .rw[B q,aB,aj];simp[q]
    .rw[J q];simp[q]
   rw[H,h.um x g t];constructor
   .rintro(⟨a,k,b,d⟩|⟨rfl,q⟩)
    .exact⟨by omega,k,by rw[J (by omega)];exact b,d⟩
    .let⟨k,b,d⟩:=aa.mp q
     exact⟨by omega,k,by rw[B C.symm];exact b,d⟩
   .rintro⟨a,k,b,d⟩
    by_cases z:y=c.vB.length
    .rw[B z]at b;exact .inr ⟨by omega,aa.mpr ⟨k,b,d⟩⟩
    .rw[J z]at b;exact .inl ⟨by omega,k,b,d⟩
 .intro x l e y
  simp only[v,jJ];rcases w x l e with⟨rfl,rfl⟩|⟨j,g,t,rfl⟩
  .simp
  .have X:=h.uc x g t y
   have A:¬c.up.length∈g:=λq=>by have:=((h.um x g t c.up.length).mp q).1;omega
   by_cases z:y=c.vB.length
   .rw[B z]
    have N:y=c.up.length:=by omega
    have P:g.count y=0:=vq.mpr (by rw[N];exact A);by_cases q:x∈r.2.map c.vQ
    .rw[B q,oU,P]
     let⟨k,b,d⟩:=aa.mp q;have:0<(r.2.filter λk=>decide (c.vQ k=x)).length:=mu (aV.mpr ⟨b,by simpa using d⟩);rw[N];simp;omega
    .rw[J q,P];omega
   .rw[J z]
    by_cases q:x∈r.2.map c.vQ
    .rw[B q,oU]
     have:[c.up.length].count y=0:=vq.mpr (by simp;omega);omega
    .rw[J q];exact X
 .exact⟨h.mg.1,λp Q=>⟨by have:=(h.mg.2 p Q).1;omega,by rw[v];exact(h.mg.2 p Q).2⟩⟩
 .exactλe Y=>by have:=h.ee e Y;omega
 .intro s m e
  let⟨a,b,d,f⟩:=h.kn s m e;rw[jJ,J (by omega)];exact⟨by omega,b,d,λx j=>by have:=f x j;omega⟩
section
variable{c:Cr}
theorem R9(h:wm c)(a:m<c.up.length)(b:s.1=(c.row m).1)(d:s.2.length=(c.row m).2.length)(f:∀x∈s.2,x<c.up.length):wm (c.Lc s m):=
 {
  n1:=h.n1,n2:=h.n2,n8:=h.n8,up:=h.up,nd:=h.nd,kid:=h.kid,kl:=h.kl,op:=h.op,ln:=h.ln,lm:=h.lm,ud:=h.ud,um:=h.um,uc:=h.uc,mg:=h.mg,fm:=h.fm,fe:=h.fe,ee:=h.ee
  kn:=λt n e=>by
   have e:(if t=s then some m else c.kn t)=some n:=e;by_cases q:t=s
   .rw[B q]at e;cases e;subst q;exact⟨a,b,d,f⟩
   .rw[J q]at e;exact h.kn t n e}
theorem U6(h:wm c)(i:g<c.up.length)(d:c.vQ k=k)(f:c.vQ g=g)(j:k<=g)(n:Nat):(c.jn a b r k g).vQ n=if c.vQ n=g then k else c.vQ n:=by
 unfold Cr.jn;by_cases e:k=g
 .rw[B e]
  show c.vQ n=_;split
  .rename_i q;rw[q,e]
  .rfl
 .rw[J e]
  exact Oa i f d (by omega) n
def uL:=@U6
theorem IC(n:Nat):(c.jn a b r k g).row n=c.row n:=by unfold Cr.jn;split<;>rfl
theorem JX:(c.jn a b r k g).up.length=c.up.length:=by
 unfold Cr.jn;split
 .rfl
 .simp
theorem KQ(p q t:d->Bool)(hd:∀x,p x=true->q x=true->False)(b:∀x,t x=(p x||q x)):∀l:List d,(l.filter p).length+(l.filter q).length=(l.filter t).length
 |[]=>rfl
 |a::l=>by
  have e:=KQ p q t hd b l;have f:=hd a;simp only[lM,b a];cases e1:p a<;>cases g:q a
  .simpa using e
  .simp;omega
  .simp;omega
  .exact(f e1 g).elim
theorem U5(h:wm c)(ha:a<c.up.length)(S:k<c.up.length)(T:g<c.up.length)(j:c.vQ k=k)(f:c.vQ g=g)(a0:k<=g):wm (c.jn a b r k g):=by
 have o:=uL h (a:=a) (b:=b) (r:=r) T j f a0;have A:=λn=>IC (c:=c) (a:=a) (b:=b) (r:=r) (k:=k) (g:=g) n;have t:=JX (c:=c) (a:=a) (b:=b) (r:=r) (k:=k) (g:=g);by_cases e:k=g
 .have ej:c.jn a b r k g={c with vF:=c.vF++[(a,b,r)]}:=by unfold Cr.jn;rw[B e]
  rw[ej];exact{
   n1:=h.n1,n2:=h.n2,n8:=h.n8,up:=h.up,nd:=h.nd,kid:=h.kid,kl:=h.kl,op:=h.op,ln:=h.ln,lm:=h.lm,ud:=h.ud,um:=h.um,uc:=h.uc,mg:=h.mg,fm:=h.fm
   fe:=λY hs=>by have:=h.fe Y hs;show Y<(c.vF++[_]).length;rw[aF];omega
   ee:=λx C=>by
    rcases aB.mp C with q|q
    .exact h.ee x q
    .rw[aj.mp q];exact ha
   kn:=h.kn}
 have d0:k<g:=by omega
 let⟨lk,I⟩:=aT.mp ((h.ud k).mpr ⟨S,j⟩);let⟨lg,L⟩:=aT.mp ((h.ud g).mpr ⟨T,f⟩);have uk:c.ul k=lk:=by unfold Cr.ul;rw[I];rfl
 have ug:c.ul g=lg:=by unfold Cr.ul;rw[L];rfl
 have M:∀x,(c.jn a b r k g).us x=if x=g then none else if x=k then some (lk++lg)else c.us x:=λx=>by
  unfold Cr.jn;rw[J e,<-uk,<-ug]
 have H:∀i,(c.jn a b r k g).xH i=if i=k then c.xH k++c.xH g else c.xH i:=λi=>by
  unfold Cr.jn;rw[J e];show(c.vI.set k (c.xH k++c.xH g)).getD i []=_;rw[ah];by_cases q:i=k
  .subst q;rw[cZ (by rw[h.n2];exact S),B rfl];rfl
  .rw[cy (fY q),J q,<-ah];rfl
 have V:(c.jn a b r k g).vN=c.vN++[(k,g)]:=by unfold Cr.jn;rw[J e]
 have W:(c.jn a b r k g).vO=c.vO++[c.vF.length]:=by unfold Cr.jn;rw[J e]
 have X:(c.jn a b r k g).vF=c.vF++[(a,b,r)]:=by unfold Cr.jn;rw[J e]
 have N:(c.jn a b r k g).vB=c.vB:=by unfold Cr.jn;rw[J e]
 have b0:(c.jn a b r k g).kn=c.kn:=by unfold Cr.jn;rw[J e]
 refine{n1:=by rw[N,t];exact h.n1,n2:=?_,n8:=by rw[t];exact h.n8,up:=?_,nd:=by rw[N];exact h.nd,kid:=λn=>by rw[A];exact h.kid n,kl:=λn=>by rw[A];exact h.kl n,op:=by rw[N];exact h.op,ln:=?_,lm:=?_,ud:=?_,um:=?_,uc:=?_,mg:=?_,fm:=by rw[W,V];simp[h.fm],fe:=?_,ee:=?_,kn:=λs m q=>by rw[b0]at q;rw[A,t];exact h.kn s m q}
 .unfold Cr.jn;rw[J e];simp[h.n2]
 .intro i Q
  rw[t]at Q;have c0:(c.jn a b r k g).up=c.up.set g k:=by unfold Cr.jn;rw[J e]
  rw[c0,ah];by_cases q:i=g
  .subst q;rw[cZ Q];simp;omega
  .rw[cy (fY q),<-ah];exact h.up i Q
 .intro i
  rw[H,t];split
  .refine⟨b6.mpr ⟨(h.ln k).1,(h.ln g).1,λx C y hy P=>?_⟩,λx C=>?_⟩
   .subst P
    have h1:=((h.lm k S j x).mp C).2;have F:=((h.lm g T f x).mp hy).2;omega
   .rcases aB.mp C with q|q
    .exact(h.ln k).2 x q
    .exact(h.ln g).2 x q
  .exact h.ln i
 .intro i Q R x
  rw[t]at Q;rw[o]at R;rw[H,t,o];have i1:i≠g:=λq=>by subst q;rw[f,B rfl]at R;omega
  have i2:c.vQ i=i:=by
   by_cases q:c.vQ i=g
   .rw[B q]at R;rw[<-R];exact j
   .rw[J q]at R;exact R
  by_cases q:i=k
  .subst q
   rw[B rfl,aB,h.lm i S j,h.lm g T f];constructor
   .rintro(⟨u,v⟩|⟨u,v⟩)
    .exact⟨u,by rw[J (by omega)];exact v⟩
    .exact⟨u,by rw[B v]⟩
   .rintro⟨u,v⟩
    by_cases z:c.vQ x=g
    .exact .inr ⟨u,z⟩
    .rw[J z]at v;exact .inl ⟨u,v⟩
  .rw[J q,h.lm i Q i2]
   constructor
   .rintro⟨u,v⟩;exact⟨u,by rw[J (by omega)];exact v⟩
   .rintro⟨u,v⟩
    by_cases z:c.vQ x=g
    .rw[B z]at v;omega
    .rw[J z]at v;exact⟨u,v⟩
 .intro x
  rw[M,t,o];by_cases q:x=g
  .subst q;rw[B rfl,f,B rfl];simp;intro _;omega
  .rw[J q]
   by_cases E:x=k
   .subst E;rw[B rfl,j,J q];simp[S]
   .rw[J E,h.ud]
    by_cases z:c.vQ x=g
    .rw[B z];constructor<;>(rintro⟨_,_⟩;omega)
    .rw[J z]
 .intro x l d y
  rw[M]at d;rw[A,t];by_cases q:x=g
  .rw[B q]at d;cases d
  rw[J q]at d;by_cases E:x=k
  .rw[B E]at d;cases d;subst E
   rw[aB,h.um _ _ I,h.um _ _ L];constructor
   .rintro(⟨u,v,w,z⟩|⟨u,v,w,z⟩)
    .exact⟨u,v,w,by rw[o,J (by omega)];exact z⟩
    .exact⟨u,v,w,by rw[o,B z]⟩
   .rintro⟨u,v,w,z⟩
    rw[o]at z;by_cases G:c.vQ v=g
    .exact .inr ⟨u,v,w,G⟩
    .rw[J G]at z;exact .inl ⟨u,v,w,z⟩
  .rw[J E]at d
   rw[h.um x l d];constructor
   .rintro⟨u,v,w,z⟩;exact⟨u,v,w,by rw[o,J (by omega)];exact z⟩
   .rintro⟨u,v,w,z⟩
    rw[o]at z;by_cases G:c.vQ v=g
    .rw[B G]at z;omega
    .rw[J G]at z;exact⟨u,v,w,z⟩
 .intro x l d y
  rw[M]at d;rw[A];by_cases q:x=g
  .rw[B q]at d;cases d
  rw[J q]at d;by_cases E:x=k
  .rw[B E]at d;cases d;subst E
   rw[oU,<-KQ (λu=>decide (c.vQ u=x)) (λu=>decide (c.vQ u=g)) _ (λu h1 F=>by simp at h1 F;omega) (λu=>?_) (c.row y).2]
   .exact Nat.add_le_add (h.uc _ _ I y) (h.uc _ _ L y)
   .rw[o]
    by_cases z:c.vQ u=g
    .simp[z]
    .simp[z]
  .rw[J E]at d
   have:((c.row y).2.filter λu=>decide ((c.jn a b r k g).vQ u=x))=(c.row y).2.filter λu=>decide (c.vQ u=x):=iw λu _=>by
    rw[o];by_cases z:c.vQ u=g
    .rw[B z];simp;omega
    .rw[J z]
   rw[this];exact h.uc x l d y
 .rw[V,aL]
  refine⟨b6.mpr ⟨h.mg.1,by simp,λx C y hy P=>?_⟩,λp hp=>?_⟩
  .obtain⟨p,hp,rfl⟩:=aa.mp C
   have:y=g:=by simpa using hy
   have F:=(h.mg.2 p hp).2;rw[P,this]at F;exact F f
  .rw[t,o]
   rcases aB.mp hp with q|q
   .refine⟨(h.mg.2 p q).1,λz=>?_⟩
    have F:=(h.mg.2 p q).2;by_cases G:c.vQ p.2=g
    .rw[B G]at z;rw[<-z,j]at F;exact F rfl
    .rw[J G]at z;exact F z
   .rw[aj.mp q]
    refine⟨T,λz=>?_⟩;simp only at z;rw[f,B rfl]at z;omega
 .intro Y hs
  rw[W]at hs;rw[X,aF];rcases aB.mp hs with q|q
  .have:=h.fe Y q;omega
  .rw[aj.mp q];simp
 .intro x C
  rw[X]at C;rw[t];rcases aB.mp C with q|q
  .exact h.ee x q
  .rw[aj.mp q];exact ha
end
def wC(a:Yg)(n:Nat):Row:=a.getD n (default,[])
structure DB(vB:Yg)(ps:Yi)(f:Nat->Nat):Prop where
 t:∀p∈ps,f p.1=f p.2
 c:∀n m,n<vB.length->m<vB.length->(wC vB n).1=(wC vB m).1->(wC vB n).2.map f=(wC vB m).2.map f->f n=f m
theorem DB.more(h:DB (d++[r]) j f):DB d j f:=by
 have e:∀n,n<d.length->wC (d++[r]) n=wC d n:=λn g=>by
  unfold wC;simp only[ah];rw[aY g]
 exact⟨h.t,λn m g i a b=>h.c n m (by simp;omega) (by simp;omega) (by rw[e n g,e m i];exact a) (by rw[e n g,e m i];exact b)⟩
structure yL(c:Cr)(ps:Yi)(w:X8):Prop where
 zU:∀p∈ps,c.vQ p.1=c.vQ p.2
 sd:∀f,DB c.vB ps f->∀i,f (c.vQ i)=f i
 ks:∀s m,c.kn s=some m->∀f,DB c.vB ps f->s.2.map f=(c.row m).2.map f
 cm:∀n,n<c.up.length->n∈w\/∃m,c.kn (c.sig n)=some m/\c.vQ m=c.vQ n
 wb:∀n∈w,n<c.up.length
 el:c.vF.length<=ps.length+c.vN.length
 pb:∀p∈ps,p.1<c.up.length/\p.2<c.up.length
theorem IB(h:wm c)(d:g<c.up.length)(a:c.vQ g=g)(y:Nat):y∈c.ul g↔y<c.up.length/\∃k∈(c.row y).2,c.vQ k=g:=by
 let⟨l,b⟩:=aT.mp ((h.ud g).mpr ⟨d,a⟩);have:c.ul g=l:=by unfold Cr.ul;rw[b];rfl
 rw[this];exact h.um g l b y
theorem yL.drop(S:yL c b (n::w))(h:n∈w\/∃m,c.kn (c.sig n)=some m/\c.vQ m=c.vQ n):yL c b w:=
 {
  S with
  cm:=λm a=>by
   rcases S.cm m a with q|q
   .rcases aG.mp q with rfl|q
    .exact h
    .exact .inl q
   .exact .inr q
  wb:=λm a=>S.wb m (bV _ a)}
theorem yL.perm(S:yL c b w)(h:∀x,x∈w↔x∈d):yL c b d:={S with cm:=λm a=>(S.cm m a).imp (h m).mp id,wb:=λm a=>S.wb m ((h m).mpr a)}
theorem yL.sg(S:yL c a w)(b:DB c.vB a f)(n:Nat):(c.sig n).2.map f=(c.row n).2.map f:=by
 unfold Cr.sig;rw[bD];exact aK λk _=>S.sd f b k
theorem yL.jn(h:wm c)(S:yL c L w)(ha:a<c.up.length)(hb:b<c.up.length)(P:g<c.up.length)(T:c.vQ k=k)(t:c.vQ g=g)(V:k<=g)(F:(c.vQ a=k/\c.vQ b=g)\/(c.vQ a=g/\c.vQ b=k))(hc:∀f,DB c.vB j f->DB c.vB L f/\f a=f b)(ht:∀p∈j,p∈L\/p=(a,b))(W:(k≠g/\L.length<=j.length)\/j.length=L.length+1):yL (c.jn a b r k g) j (if k=g then w else w++c.ul g):=by
 have d:=uL h (a:=a) (b:=b) (r:=r) P T t V;have x:=λn=>IC (c:=c) (a:=a) (b:=b) (r:=r) (k:=k) (g:=g) n;have Q:=JX (c:=c) (a:=a) (b:=b) (r:=r) (k:=k) (g:=g);have G:(c.jn a b r k g).vB=c.vB:=by unfold Cr.jn;split<;>rfl
 have A:(c.jn a b r k g).kn=c.kn:=by unfold Cr.jn;split<;>rfl
 have X:(c.jn a b r k g).vF=c.vF++[(a,b,r)]:=by unfold Cr.jn;split<;>rfl
 have Y:(c.jn a b r k g).vN.length=c.vN.length+if k=g then 0 else 1:=by unfold Cr.jn;split<;>simp
 refine⟨λp R=>?_,λf E i=>?_,λs m e f E=>?_,λn o=>?_,λn o=>?_,?_,λp R=>?_⟩
 .rcases ht p R with q|rfl
  .rw[d,d,S.zU p q]
  .rw[d,d]
   rcases F with⟨u,v⟩|⟨u,v⟩
   .rw[u,v,B rfl];split<;>rfl
   .rw[u,v,B rfl];split<;>rfl
 .rw[G]at E
  let⟨l,H⟩:=hc f E;rw[d];split
  .rename_i q
   have hk:f k=f g:=by
    have M:=S.sd f l a;have N:=S.sd f l b;rcases F with⟨u,v⟩|⟨u,v⟩
    .rw[u]at M;rw[v]at N;rw[M,N,H]
    .rw[u]at M;rw[v]at N;rw[M,N,H]
   rw[hk,<-q];exact S.sd f l i
  .exact S.sd f l i
 .rw[G]at E;rw[A]at e;rw[x];exact S.ks s m e f (hc f E).1
 .rw[Q]at o
  rcases S.cm n o with q|⟨m,e1,e2⟩
  .left;split
   .exact q
   .exact aR _ q
  .by_cases I:k=g
   .have C:∀n,(c.jn a b r k g).vQ n=c.vQ n:=λn=>by
     rw[d];split
     .rename_i q;rw[q,I]
     .rfl
    right
    refine⟨m,?_,by rw[C,C,e2]⟩;rw[A,show(c.jn a b r k g).sig n=c.sig n by unfold Cr.sig;rw[x,aK λk _=>C k]];exact e1
   .by_cases q:∃y∈(c.row n).2,c.vQ y=g
    .left;rw[J I];exact aN _ ((IB h P t n).mpr ⟨o,q⟩)
    .right
     refine⟨m,?_,by rw[d,d,e2]⟩;rw[A,show(c.jn a b r k g).sig n=c.sig n by
      unfold Cr.sig;rw[x,aK λy hy=>by rw[d,J λz=>q ⟨y,hy,z⟩]]]
     exact e1
 .rw[Q]
  split at o
  .exact S.wb n o
  .rcases aB.mp o with q|q
   .exact S.wb n q
   .exact((IB h P t n).mp q).1
 .rw[X,Y,aF]
  have:=S.el;rcases W with⟨u,v⟩|u
  .rw[J u];simp;omega
  .simp;omega
 .rw[Q]
  rcases ht p R with q|rfl
  .exact S.pb p q
  .exact⟨ha,hb⟩
theorem yL.grow(h:wm c)(S:yL c j w):yL (c.grow r) j (c.up.length::w):=by
 have a:=mW h r;have t:=h.n1;have b:(c.grow r).up.length=c.up.length+1:=by simp[Cr.grow]
 refine⟨λp q=>by rw[a,a];exact S.zU p q,λf d i=>by rw[a];exact S.sd f d.more i,λs m e f d=>?_,λn g=>?_,λn g=>?_,S.el,λp k=>by have:=S.pb p k;rw[b];omega⟩
 .rw[jJ,J (by have:=(h.kn s m e).1;omega)]
  exact S.ks s m e f d.more
 .rw[b]at g
  by_cases q:n=c.up.length
  .subst q;exact .inl (.head _)
  .rcases S.cm n (by omega)with l|⟨m,e1,o⟩
   .exact .inl (bV _ l)
   .right
    refine⟨m,?_,by rw[a,a,o]⟩;rw[show(c.grow r).sig n=c.sig n by unfold Cr.sig;rw[jJ,J (by omega),Ko h]];exact e1
 .rw[b]
  rcases aG.mp g with rfl|q
  .omega
  .have:=S.wb n q;omega
theorem yL.Lc(h:wm c)(S:yL c g (n::w))(i:c.kn (c.sig n)=none):yL (c.Lc (c.sig n) n) g w:=by
 refine⟨S.zU,S.sd,λs m e f b=>?_,λm a=>?_,λm a=>S.wb m (bV _ a),S.el,S.pb⟩
 .have e:(if s=c.sig n then some n else c.kn s)=some m:=e
  by_cases q:s=c.sig n
  .rw[B q]at e;cases e;rw[q];exact S.sg b n
  .rw[J q]at e;exact S.ks s m e f b
 .by_cases q:c.sig m=c.sig n
  .by_cases z:m∈w
   .exact .inl z
   .right
    refine⟨n,?_,?_⟩
    .show(if c.sig m=c.sig n then some n else c.kn (c.sig m))=some n
     rw[B q]
    .rcases S.cm m a with p|⟨o,e1,d⟩
     .rcases aG.mp p with rfl|p
      .rfl
      .exact absurd p z
     .rw[q,i]at e1;cases e1
  .rcases S.cm m a with p|⟨o,e1,d⟩
   .rcases aG.mp p with rfl|p
    .exact absurd rfl q
    .exact .inl p
   .right
    refine⟨o,?_,d⟩;show(if c.sig m=c.sig n then some n else c.kn (c.sig m))=some o;rw[J q];exact e1
structure AX where
 cr:Cr
 wt:List Nat
 cs:List CC
 ms:List (Nat×List Nat)
namespace AX
def kp(x:AX)(a b:Nat):Nat:=min (x.cr.vQ a) (x.cr.vQ b)
def gn(x:AX)(a b:Nat):Nat:=max (x.cr.vQ a) (x.cr.vQ b)
def join(x:AX)(a b:Nat)(r:D):AX:=⟨x.cr.jn a b r (x.kp a b) (x.gn a b),if x.kp a b=x.gn a b then x.wt else x.wt++x.cr.ul (x.gn a b),.wY (x.kp a b) (x.cr.ul (x.kp a b)).length (x.gn a b) (if x.kp a b=x.gn a b then[]else x.cr.ul (x.gn a b))::x.cs,x.ms⟩
def look(x:AX)(n:Nat):AX:=
 match x.cr.kn (x.cr.sig n)with
 |some o=>if x.cr.vQ o=x.cr.vQ n then x else x.join o n HX.zh
 |none=>⟨x.cr.Lc (x.cr.sig n) n,x.wt,.vR (x.cr.sig n)::x.cs,x.ms⟩
def grow(x:AX)(r:Row):AX:=⟨x.cr.grow r,x.wt,.made x.cr.vB.length::x.cs,x.ms⟩
def xQ(x:AX):AX:=({x with wt:=x.wt.dropLast}:AX).look (x.wt.getLastD 0)
def push(x:AX):AX:={x with ms:=(x.cs.length,x.wt)::x.ms}
end AX
inductive A6:Cr->CC->Cr->Prop
 |made (c:Cr) (r:Row) (hk:∀k∈r.2,k<c.up.length):A6 c (.made c.vB.length) (c.grow r)
 |vR (c:Cr) (s:Row) (m:Nat) (h:c.kn s=none):A6 c (.vR s) (c.Lc s m)
 |wY (c:Cr) (a b:Nat) (r:D) (k g:Nat) (hk:k<c.up.length) (hg:g<c.up.length) (hkr:c.vQ k=k) (hgr:c.vQ g=g):A6 c (.wY k (c.ul k).length g (if k=g then[]else c.ul g)) (c.jn a b r k g)
theorem A6.back(h:wm c)(s:A6 c j l):l.xg j=c:=by
 cases s with
 |made r i=>exact Ek h r
 |vR s m e=>exact GQ e
 |wY a b r k g i n d f=>exact Sa h i n d f
def Qk:Cr->List CC->Prop
 |_,[]=>True
 |c,b::l=>∃a,wm a/\A6 a b c/\Qk a l
def Cc:Cr->List CC->Nat->Cr
 |c,_,0=>c
 |c,[],_+1=>c
 |c,a::l,j+1=>Cc (c.xg a) l j
def Al:Cr->List CC->List (Ys)->List (Nat×List Nat)->List (Ys)->Prop
 |_,_,_,[],[]=>True
 |c,l,d,(n,w)::e,(b,a)::f=>n<=l.length/\b<=c.vB.length/\a<=d.length/\(Cc c l (l.length-n)).vB=c.vB.take b/\yL (Cc c l (l.length-n)) (d.take a) w/\w.length<=16*(Cc c l (l.length-n)).vN.length/\
  Al (Cc c l (l.length-n)) (l.drop (l.length-n)) (d.take a) e f
 |_,_,_,_,_=>False
theorem Al.ext(m:c'.xg b=c)(d:∃j,c'.vB=c.vB++j):∀{f:List (Nat×List Nat)} {g:Yi},Al c l i f g->Al c' (b::l) (i++e) f g
 |[],[],h=>trivial
 |(n,w)::f,(k,a)::g,h=>by
  let⟨y,o,p,q,r,s,t⟩:=h;let⟨j,d⟩:=d;have e1:(b::l).length-n=(l.length-n)+1:=by simp;omega
  have u:Cc c' (b::l) ((b::l).length-n)=Cc c l (l.length-n):=by rw[e1];show Cc (c'.xg b) l _=_;rw[m]
  have v:(i++e).take a=i.take a:=by rw[jP p]
  have x:(b::l).drop ((b::l).length-n)=l.drop (l.length-n):=by rw[e1];rfl
  unfold Al;rw[u,v,x];exact⟨by simp;omega,by rw[d];simp;omega,by simp;omega,by rw[d,q,jP o],r,s,t⟩
 |[],_::_,h=>h.elim
 |_::_,[],h=>h.elim
theorem Al.len:∀{e:List (Nat×List Nat)} {d:Yi},Al c l f e d->e.length=d.length:=by
 intro e;induction e generalizing c l f with
 |nil=>intro d h;cases d with
  |nil=>rfl
  |cons a d=>exact h.elim
 |cons a e g=>intro d h;cases d with
  |nil=>exact h.elim
  |cons b d=>simp only[bO];rw[g h.2.2.2.2.2.2]
theorem Qk.Cc:∀{l:List CC},wm c->Qk c l->∀j,j<=l.length->wm (Cc c l j)/\Qk (Cc c l j) (l.drop j):=by
 intro l;induction l generalizing c with
 |nil=>intro I h j a;cases j with
  |zero=>exact⟨I,trivial⟩
  |succ j=>exact absurd a (by simp)
 |cons d l e=>
  intro I h j a;cases j with
  |zero=>exact⟨I,h⟩
  |succ j=>
   let⟨f,b,s,h⟩:=h;show wm (Mine.Cc (c.xg d) l j)/\_;rw[s.back b];have:=e b h j (by simpa using a);exact⟨this.1,by show Qk (Mine.Cc (c.xg d) l j) _;rw[s.back b];exact this.2⟩
structure yz(x:AX)(ps ls:Yi)(w:X8):Prop where
 I:wm x.cr
 S:yL x.cr ps w
 wl:x.wt.length<=16*x.cr.vN.length
 h:Qk x.cr x.cs
 l:Al x.cr x.cs ps x.ms ls
def AX.me(x:AX):Nat:=(x.cr.up.length-x.cr.vN.length)*17+x.wt.length
theorem T7(h:wm c):(c.ul g).length<=16:=by
 unfold Cr.ul;cases e:c.us g with
 |none=>simp
 |some l=>
  have j:∀N (l:X8),(∀y∈l,y<N)->(∀y,l.count y<=2)->l.length<=2*N:=λN=>by
   induction N with
   |zero=>intro l d f;cases l with
    |nil=>simp
    |cons a l=>exact absurd (d a (.head _)) (by omega)
   |succ N k=>
    intro l d f;have e1:l.length=l.count N+(l.filter λy=>decide (y≠N)).length:=by
     clear d f;induction l with
     |nil=>rfl
     |cons a l n=>
      by_cases q:a=N
      .subst q;rw[i8 (by simp),List.count_cons_self,bO];omega
      .rw[i9 (by simpa using q),List.count_cons_of_ne q,bO,bO];omega
    have:=k (l.filter λy=>decide (y≠N)) (λy i=>by
     let⟨a,b⟩:=aV.mp i;have:=d y a;simp at b;omega) (λy=>by
      have m:=f y;exact bg (List.Sublist.count_le y eH) m)
    have:=f N;omega
  have o:=h.n8;have:=j c.up.length l (λy i=>((h.um g l e y).mp i).1) λy=>bg (h.uc g l e y) (bg (cP _ _) (h.kl y));show l.length<=16;omega
def uM:=@T7
theorem F6(h:wm c):c.vN.length<=c.up.length:=by
 have:=eE h.mg.1 (l₂:=List.range c.up.length) λy a=>by
  obtain⟨p,b,rfl⟩:=aa.mp a;exact aZ.mpr (h.mg.2 p b).1
 simpa using this
theorem JW(x:AX)(h:wm x.cr)(e:a<x.cr.up.length)(f:b<x.cr.up.length):x.kp a b<x.cr.up.length/\x.gn a b<x.cr.up.length/\x.cr.vQ (x.kp a b)=x.kp a b/\x.cr.vQ (x.gn a b)=x.gn a b/\x.kp a b<=x.gn a b/\((x.cr.vQ a=x.kp a b/\x.cr.vQ b=x.gn a b)\/(x.cr.vQ a=x.gn a b/\x.cr.vQ b=x.kp a b)):=by
 have c:=fX h e;have d:=fX h f;unfold AX.kp AX.gn;rcases iJ (x.cr.vQ a) (x.cr.vQ b)with q|q
 .rw[iV q,gQ q]
  exact⟨c,d,c_ _ _,c_ _ _,q,.inl ⟨rfl,rfl⟩⟩
 .rw[iL q,g_ q]
  exact⟨d,c,c_ _ _,c_ _ _,q,.inr ⟨rfl,rfl⟩⟩
theorem yz.join(A:yz x m F w)(n:a<x.cr.up.length)(t:b<x.cr.up.length)(G:∀f,DB x.cr.vB (m++e) f->DB x.cr.vB m f/\f a=f b)(y:e=[]/\x.cr.vQ a≠x.cr.vQ b\/e=[(a,b)]):yz (x.join a b r) (m++e) F (if x.kp a b=x.gn a b then w else w++x.cr.ul (x.gn a b))/\(x.kp a b≠x.gn a b->(x.join a b r).me<x.me):=by
 let⟨z,o,c,d,g,i⟩:=JW x A.I n t;have C:=U5 (a:=a) (b:=b) (r:=r) A.I n z o c d g;have st:A6 x.cr _ (x.join a b r).cr:=A6.wY x.cr a b r _ _ z o c d;have j:(x.join a b r).cr.vN.length=x.cr.vN.length+if x.kp a b=x.gn a b then 0 else 1:=by unfold AX.join Cr.jn;simp only;split<;>simp
 have s:(x.join a b r).cr.up.length=x.cr.up.length:=JX;have L:=uM A.I (g:=x.gn a b);have wl:=A.wl;refine⟨⟨C,yL.jn A.I A.S n t o c d g i G (λp H=>?_) ?_,?_,⟨x.cr,A.I,st,A.h⟩,A.l.ext (st.back A.I) ⟨[],?_⟩⟩,λk=>?_⟩
 .rcases aB.mp H with q|q
  .exact .inl q
  .rcases y with⟨rfl,_⟩|rfl
   .cases q
   .exact .inr (aj.mp q)
 .rcases y with⟨rfl,k⟩|rfl
  .left;exact⟨λq=>k (by rcases i with⟨u,v⟩|⟨u,v⟩<;>rw[u,v,q]),by simp⟩
  .right;simp
 .rw[j]
  show(if x.kp a b=x.gn a b then x.wt else x.wt++x.cr.ul (x.gn a b)).length<=_;split
  .omega
  .rw[aF];omega
 .unfold AX.join Cr.jn;simp only;split<;>simp
 .have E:=F6 C
  have E:(x.join a b r).cr.vN.length<=(x.join a b r).cr.up.length:=E;unfold AX.me;rw[s,j,J k]at*;show _+(if x.kp a b=x.gn a b then x.wt else x.wt++x.cr.ul (x.gn a b)).length<_;rw[J k,aF];omega
theorem K4(h:DB a (b++e) f):DB a b f:=⟨λp c=>h.t p (aR _ c),h.c⟩
theorem yz.look(A:yz x i F (n::x.wt))(d:n<x.cr.up.length):yz (x.look n) i F (x.look n).wt/\(x.look n).me<=x.me:=by
 unfold AX.look;split
 .rename_i o a
  split
  .rename_i q;exact⟨{A with S:=A.S.drop (.inr ⟨o,a,q⟩)},ao _⟩
  .rename_i q
   have b:=(A.I.kn _ _ a).1;have G:=A.I.kn _ _ a;have c:x.kp o n≠x.gn o n:=by unfold AX.kp AX.gn;omega
   have H:∀f,DB x.cr.vB (i++[]) f->DB x.cr.vB i f/\f o=f n:=λf e=>by
    have e:=K4 e;refine⟨e,e.c o n (by rw[A.I.n1];exact b) (by rw[A.I.n1];exact d) G.2.1.symm ?_⟩;show(x.cr.row o).2.map f=(x.cr.row n).2.map f;rw[<-A.S.ks _ _ a f e,A.S.sg e n]
   obtain⟨j,L⟩:=A.join b d H (.inl ⟨rfl,q⟩)
   .rw[d7,J c]at j
    refine⟨{j with S:=?_},l_ (L c)⟩;have M:(x.join o n HX.zh).wt=x.wt++x.cr.ul (x.gn o n):=J c;rw[M];apply j.S.drop;let⟨C,E,r,g,s,t⟩:=JW x A.I b d;by_cases z:∃y∈(x.cr.row n).2,x.cr.vQ y=x.gn o n
    .exact .inl (aN _ ((IB A.I E g n).mpr ⟨d,z⟩))
    .right
     have m:=uL A.I (a:=o) (b:=n) (r:=HX.zh) E r g s;refine⟨o,?_,?_⟩
     .show(x.cr.jn o n HX.zh (x.kp o n) (x.gn o n)).kn ((x.cr.jn o n HX.zh (x.kp o n) (x.gn o n)).sig n)=some o
      have w:(x.cr.jn o n HX.zh (x.kp o n) (x.gn o n)).kn=x.cr.kn:=by unfold Cr.jn;split<;>rfl
      rw[w,show(x.cr.jn o n HX.zh (x.kp o n) (x.gn o n)).sig n=x.cr.sig n by
       unfold Cr.sig;rw[IC,aK λy p=>by rw[m,J λN=>z ⟨y,p,N⟩]]]
      exact a
     .show(x.cr.jn o n HX.zh (x.kp o n) (x.gn o n)).vQ o=(x.cr.jn o n HX.zh (x.kp o n) (x.gn o n)).vQ n
      rw[m,m];rcases t with⟨u,v⟩|⟨u,v⟩<;>rw[u,v,B rfl]<;>split<;>rfl
 .rename_i a
  refine⟨⟨R9 A.I d rfl (by simp[Cr.sig]) λy p=>?_,A.S.Lc A.I a,A.wl,⟨x.cr,A.I,.vR _ _ _ a,A.h⟩,?_⟩,ao _⟩
  .obtain⟨k,C,rfl⟩:=aa.mp (show y∈(x.cr.row n).2.map x.cr.vQ from p)
   exact fX A.I (j5 (A.I.kid n k C) d)
  .have:=A.l.ext (e:=[]) (c':=x.cr.Lc (x.cr.sig n) n) (GQ a) ⟨[],by simp[Cr.Lc]⟩
   rw[d7]at this;exact this
theorem yz.xQ(A:yz x d e x.wt)(a:x.wt≠[]):yz x.xQ d e x.xQ.wt/\x.xQ.me<x.me/\x.wt.getLastD 0<x.cr.up.length:=by
 have b:x.wt=x.wt.dropLast++[x.wt.getLastD 0]:=by
  have:x.wt.getLastD 0=x.wt.getLast a:=by rw[iO,fR a];rfl
  rw[this];exact(cV a).symm
 have k:x.wt.length=x.wt.dropLast.length+1:=by
  have:=aU List.length b;rw[aF]at this;exact this
 have f:x.wt.getLastD 0∈x.wt:=by
  have:x.wt.getLastD 0=x.wt.getLast a:=by rw[iO,fR a];rfl
  rw[this];exact List.getLast_mem a
 have c:x.wt.getLastD 0<x.cr.up.length:=A.S.wb _ f;have wl:=A.wl;have g:∀y,y∈x.wt↔y∈x.wt.getLastD 0::x.wt.dropLast:=λy=>by
  have:y∈x.wt↔y∈x.wt.dropLast++[x.wt.getLastD 0]:=by rw[<-b]
  rw[this];simp[or_comm]
 let⟨i,j⟩:=yz.look (x:={x with wt:=x.wt.dropLast}) ⟨A.I,A.S.perm g,by show x.wt.dropLast.length<=16*x.cr.vN.length;omega,A.h,A.l⟩ c;refine⟨i,gg j ?_,c⟩;show(x.cr.up.length-x.cr.vN.length)*17+x.wt.dropLast.length<(x.cr.up.length-x.cr.vN.length)*17+x.wt.length;omega
theorem yz.grow(A:yz x b c x.wt)(d:r∉x.cr.vB)(a:∀k∈r.2,k<x.cr.up.length)(e:r.2.length<=2)(f:zW r.1)(g:x.cr.up.length<=7):yz (x.grow r) b c (x.cr.vB.length::(x.grow r).wt):=by
 refine⟨Pw A.I d a e f g,?_,A.wl,⟨x.cr,A.I,.made _ _ a,A.h⟩,?_⟩
 .rw[A.I.n1];exact A.S.grow A.I
 .have:=A.l.ext (e:=[]) (Ek A.I r) ⟨[r],rfl⟩
  rw[d7]at this;exact this
theorem yz.tell(A:yz x d e x.wt)(g:a<x.cr.up.length)(i:b<x.cr.up.length):yz (x.join a b r) (d++[(a,b)]) e (x.join a b r).wt:=by
 have:=(A.join (r:=r) g i (λf c=>⟨K4 c,c.t (a,b) (by simp)⟩) (.inr rfl)).1;unfold AX.join;exact this
theorem yz.push(A:yz x a b x.wt):yz x.push a ((x.cr.vB.length,a.length)::b) x.push.wt:=by
 refine⟨A.I,A.S,A.wl,A.h,?_⟩;show Al x.cr x.cs a ((x.cs.length,x.wt)::x.ms) ((x.cr.vB.length,a.length)::b);unfold Al;rw[sP,show Cc x.cr x.cs 0=x.cr by cases x.cs<;>rfl,bX,bX];exact⟨ao _,ao _,ao _,rfl,A.S,A.wl,A.l⟩
theorem yz.pop(A:yz x c ls x.wt)(d:ls=(many,zU)::a)(e:x.ms=(n,w)::f):n<=x.cs.length/\yz ⟨Cc x.cr x.cs (x.cs.length-n),w,x.cs.drop (x.cs.length-n),f⟩ (c.take zU) a w/\(Cc x.cr x.cs (x.cs.length-n)).vB=x.cr.vB.take many:=by
 have:=A.l;rw[d,e]at this;let⟨g,o,p,i,j,k,m⟩:=this;have b:=Qk.Cc A.I A.h (x.cs.length-n) (by omega);exact⟨g,⟨b.1,j,k,b.2,m⟩,i⟩
theorem Bq{K V:Type}[DecidableEq K]{l:List (K×V)}{k a:K}:vJ (xT l k) a=if a=k then none else vJ l a:=by
 unfold vJ xT;rw[List.find?_filter];by_cases e:a=k
 .subst e
  rw[B rfl,d_,gf];intro p _;simp
 .rw[J e]
  congr 2;funext p;by_cases q:p.1=a
  .simp[q,e]
  .simp[q]
theorem K_{K V:Type}[DecidableEq K]{l:List (K×V)}(h:(l.map (·.1)).Nodup){p:K×V}(a:p∈l):vJ l p.1=some p.2:=by
 induction l with
 |nil=>cases a
 |cons q l b=>
  rw[bF,bx]at h;unfold vJ;rw[p8];rcases aG.mp a with rfl|a
  .simp
  .have:¬q.1=p.1:=λe=>h.1 (e▸b9 a)
   simp only[this,oE];exact b h.2 a
theorem MT{K V:Type}[DecidableEq K]{l:List (K×V)}{k:K}:(vJ l k).isSome=true↔k∈l.map (·.1):=by
 unfold vJ;rw[oV,List.find?_isSome,aa];simp
def rS:=@MT
theorem Qa{K V:Type}[DecidableEq K]{l:List (K×V)}{k a:K}{v:V}(h:vJ l k=none):vJ (l++[(k,v)]) a=if a=k then some v else vJ l a:=by
 rw[<-qz h,fS]
theorem FI{K V:Type}[DecidableEq K]{l:List (K×V)}{k:K}{v:V}(h:(l.map (·.1)).Nodup):((wJ l k v).map (·.1)).Nodup:=by
 rw[An];split
 .exact h
 .rename_i q
  exact b6.mpr ⟨h,by simp,λx a y b e=>q (by rw[<-aj.mp b,<-e];exact a)⟩
def mj:=@FI
theorem FL{K V:Type}[DecidableEq K]{l:List (K×V)}{k:K}(h:(l.map (·.1)).Nodup):((xT l k).map (·.1)).Nodup:=h.sublist (fJ _ eH)
def sQ:=@FL
theorem MW{K V:Type}[DecidableEq K]{l:List (K×V)}{k:K}(h:k∉l.map (·.1)):xT l k=l:=by
 unfold xT;exact fW.mpr λp a=>by
  simp;exactλe=>h (e▸b9 a)
theorem Qd{K V:Type}[DecidableEq K]{l:List (K×V)}{k:K}(h:(l.map (·.1)).Nodup)(a:k∈l.map (·.1)):(xT l k).length+1=l.length:=by
 induction l with
 |nil=>cases a
 |cons p l b=>
  rw[bF,bx]at h;by_cases e:p.1=k
  .have:xT (p::l) k=xT l k:=by unfold xT;rw[i8 (by simp[e])]
   rw[this,MW (e▸h.1)];rfl
  .have:xT (p::l) k=p::xT l k:=by unfold xT;rw[i9 (by simp[e])]
   rw[this,bO,bO,b h.2];rw[bF,aG]at a;exact a.resolve_left (fY e)
def BH:A3->X8
 | .wY k _ g i=>if k=g then[]else[i]
 |_=>[]
def HX.rest(X:HX):X8:=X.vH.map (·.2)++X.vC.flatMap BH
structure WF(X:HX):Prop where
 w:X.v8<X.vU.length
 u1:∀c i,vJ X.vE c=some i->i<X.vU.length/\i≠X.v8/\i∉X.rest
 u2:∀c d i,vJ X.vE c=some i->vJ X.vE d=some i->c=d
 uk:(X.vE.map (·.1)).Nodup
 r1:X.rest.Nodup
 r2:∀i∈X.rest,i<X.vU.length/\i≠X.v8
 ec:∀k m g i,A3.wY k m g i∈X.vC->i<X.vU.length
 kk:(X.vR.map (·.1)).Nodup
 md:X.made=X.vB.length
 cl:X.vC.length=X.vB.length+X.vR.length+X.vF.length
 dl:∀i,(X.us i).length<=200
 wl:X.yr.length=X.vB.length
 dp:X.zm.length=X.vB.length
 wb:∀i,X.yr.getD i 0<=3^(i+1)
def VW(X:HX):AX:=⟨vw X,X.vM,(X.vC.map (yH X)).reverse,(X.vH.map λp=>(p.1,X.us p.2)).reverse⟩
theorem AX.eq{x y:AX}(a:x.cr=y.cr)(b:x.wt=y.wt)(c:x.cs=y.cs)(d:x.ms=y.ms):x=y:=by
 cases x;cases y;simp only at a b c d;rw[a,b,c,d]
def mS:=@AX.eq
theorem Vg{l:List A3}(h:∀i∈l.flatMap BH,Y.us i=X.us i):l.map (yH Y)=l.map (yH X):=aK λc a=>by
 cases c with
 |made n=>rfl
 |vR s=>rfl
 |wY k m g i=>
  show CC.wY k m g (if k=g then[]else Y.us i)=CC.wY k m g (if k=g then[]else X.us i);by_cases e:k=g
  .rw[B e,B e]
  .rw[J e,J e,h i (b7.mpr ⟨_,a,by show i∈(if k=g then[]else[i]);rw[J e];exact .head _⟩)]
def r9:=@Vg
theorem UQ{X Y:HX}{l:Yi}(h:∀i∈l.map (·.2),Y.us i=X.us i):(l.map λp=>(p.1,Y.us p.2))=l.map λp=>(p.1,X.us p.2):=aK λp a=>by
 rw[h p.2 (b9 a)]
def uN:=@UQ
def Qv(f:X8->X8)(X:HX)(c:Nat):HX:=X.xq (X.uid c) (f (X.us (X.uid c)))
theorem CL(f:X8->X8):∀(l:X8) (X:HX),(l.map X.uid).Nodup->(∀c∈l,X.uid c<X.vU.length)->∃D,l.foldl (Qv f) X={X with vU:=D}/\D.length=X.vU.length/\∀i,D.getD i []=if i∈l.map X.uid then f (X.us i)else X.us i
 |[],X,_,_=>⟨X.vU,rfl,rfl,λi=>by simp[HX.us]⟩
 |c::l,X,a,b=>by
  rw[bF,bx]at a;have g:=b c (.head _);let⟨D,e,j,h⟩:=CL f l (Qv f X c) a.2 (λd hd=>by
   show X.uid d<(X.vU.set _ _).length;rw[gm];exact b d (.tail _ hd))
  refine⟨D,e,by rw[j];show(X.vU.set _ _).length=_;rw[gm],λi=>?_⟩;rw[h i];have k:(Qv f X c).us i=if i=X.uid c then f (X.us (X.uid c))else X.us i:=qi g
  have m:l.map (Qv f X c).uid=l.map X.uid:=rfl;rw[m,k,bF];by_cases q:i=X.uid c
  .rw[J (q▸a.1),B q,B (by rw[q];exact .head _),q]
  .rw[J q]
   by_cases z:i∈l.map X.uid
   .rw[B z,B (.tail _ z)]
   .rw[J z,J (by simp only[aG];exactλy=>y.elim q z)]
section
variable{X:HX}
theorem WF.us(W:WF X)(h:vJ X.vE c=some i):X.uid c=i:=by unfold HX.uid;rw[h];rfl
theorem VO(X:HX)(c:Nat):(vw X).us c=(vJ X.vE c).map X.us:=rfl
def pK:=@VO
theorem DO(X:HX)(h:vJ X.vE c=some i):(vw X).ul c=X.us i:=by unfold Cr.ul;rw[pK,h];rfl
theorem MQ(I:wm (vw X))(a:c<X.up.length)(b:X.vQ c=c):∃i,vJ X.vE c=some i:=by
 have:=(I.ud c).mpr ⟨a,b⟩;rw[pK,oV]at this;exact aT.mp this
def gO:=@MQ
theorem J5(W:WF X)(f:∃i,vJ X.vE c=some i)(hd:∃i,vJ X.vE d=some i)(e:X.uid c=X.uid d):c=d:=by
 let⟨i,a⟩:=f;let⟨j,b⟩:=hd;rw[W.us a,W.us b]at e;exact W.u2 c d i a (e▸b)
theorem Kn(W:WF X){l:X8}(a:l.Nodup)(h:∀c∈l,∃i,vJ X.vE c=some i):(l.map X.uid).Nodup:=by
 induction l with
 |nil=>simp
 |cons c l b=>
  rw[bx]at a;rw[bF,bx];refine⟨λq=>?_,b a.2 λd hd=>h d (.tail _ hd)⟩;let⟨d,hd,e⟩:=aa.mp q;exact a.1 (J5 W (h d (.tail _ hd)) (h c (.head _)) e▸hd)
theorem ND(X:HX)(a:X8):(X.zT a).Nodup:=fZ.filter _
theorem RP:c∈X.zT a↔c<X.up.length/\c∈a.map X.vQ:=by unfold HX.zT;rw[aV,aZ,aM]
def ou:=@RP
end
def HX.wL(X:HX)(r:Row):HX:=(X.grow r).xe X.vB.length
theorem Oc(a:Yi)(b:List A3)(c:A3):a.map (·.2)++(b++[c]).flatMap BH=(a.map (·.2)++b.flatMap BH)++BH c:=by simp
def qA:=@Oc
theorem Wj{a b:Nat}{f:Nat->Nat}{n:Nat}(c:∀k,f k<=3^n){l:X8}(d:l.length<=2):1+(l.map f).sum<=3^(n+1):=by
 have p:1<=3^n:=Nat.one_le_pow _ _ (by omega)
 match l,d with
 |[],_=>simp;omega
 |[a],_=>have:=c a;simp;omega
 |[a,b],_=>have:=c a;have:=c b;simp;omega
theorem Py(W:WF X)(I:wm (vw X)){r:Row}(S:∀k∈r.2,k<X.up.length)(hl:r.2.length<=2)(h7:X.up.length<=7)(I':wm ((vw X).grow r)):WF (X.wL r)/\VW (X.wL r)=(VW X).grow r:=by
 have n1:X.vB.length=X.up.length:=I.n1;have n2:X.vI.length=X.up.length:=I.n2;let Y:=Bu X r;have Yu:∀c,c≠X.vB.length->vJ Y.vE c=vJ X.vE c:=λc j=>by
  show vJ (wJ X.vE X.vB.length X.vU.length) c=_;rw[fS,J j]
 have T:∀k,Y.vQ k=X.vQ k:=mW I r;have E:∀c∈Y.zT r.2,c<X.up.length/\X.vQ c=c:=λc j=>by
  obtain⟨k,u,rfl⟩:=aa.mp (ou.mp j).2;rw[T];exact⟨fX I (S k u),c_ (vw X) k⟩
 have F:∀c∈Y.zT r.2,∃i,vJ X.vE c=some i:=λc j=>gO I (E c j).1 (E c j).2;have M:∀c∈Y.zT r.2,Y.uid c=X.uid c:=λc j=>by
  unfold HX.uid;rw[Yu c (by have:=(E c j).1;omega)]
 have A:(Y.zT r.2).map Y.uid=(Y.zT r.2).map X.uid:=aK M;have o:∀i,i∈(Y.zT r.2).map Y.uid↔∃c,c∈r.2.map X.vQ/\vJ X.vE c=some i:=λi=>by
  rw[A,aa];constructor
  .rintro⟨c,j,rfl⟩
   let⟨i,f⟩:=F c j;have:=(ou.mp j).2;rw[aK λk _=>T k]at this;exact⟨c,this,by rw[W.us f];exact f⟩
  .rintro⟨c,j,f⟩
   refine⟨c,ou.mpr ⟨?_,by rw[aK λk _=>T k];exact j⟩,W.us f⟩;obtain⟨k,u,rfl⟩:=aa.mp j;have:X.vQ k<X.up.length:=fX I (S k u);show _<(X.up++[X.up.length]).length;rw[aF];omega
 have dl:Y.vU.length=X.vU.length+1:=by show(X.vU++[[]]).length=_;simp
 let⟨D,eD,lD,Q⟩:=CL (·++[X.vB.length]) (Y.zT r.2) Y (by rw[A];exact Kn W (ND _ _) F) (λc j=>by
  let⟨i,f⟩:=F c j;rw[M c j,W.us f,dl];have:=(W.u1 c i f).1;omega)
 have l:X.wL r={Y with vU:=D,vC:=X.vC++[.made X.vB.length],made:=X.vB.length+1}:=by
  have e1:X.grow r={Y with vU:=D}:=eD;unfold HX.wL HX.xe;rw[e1];exact B (show X.vB.length=X.made from W.md.symm)
 have v:∀i,i<X.vU.length->Y.us i=X.us i:=λi f=>by
  show(X.vU++[[]]).getD i []=X.vU.getD i [];rw[ah,aY f,<-ah]
 have N:Y.us X.vU.length=[]:=by
  show(X.vU++[[]]).getD X.vU.length []=[];simp
 have P:X.vU.length∉(Y.zT r.2).map Y.uid:=λq=>by
  let⟨c,_,f⟩:=(o _).mp q;have:=(W.u1 _ _ f).1;omega
 have C:∀i,i<X.vU.length->(∀c,vJ X.vE c≠some i)->D.getD i []=X.us i:=λi f h=>by
  rw[Q i,J λq=>by let⟨c,_,e⟩:=(o _).mp q;exact h c e,v i f]
 have V:∀i∈X.rest,D.getD i []=X.us i:=λi f=>C i (W.r2 i f).1 λc e=>(W.u1 c i e).2.2 f;have t:(X.wL r).rest=X.rest:=by
  rw[l];show X.vH.map (·.2)++(X.vC++[_]).flatMap BH=_;rw[qA];simp[BH,HX.rest]
 have G:∀c,vJ (X.wL r).vE c=if c=X.vB.length then some X.vU.length else vJ X.vE c:=λc=>by rw[l];exact fS
 have n:∀i,(X.wL r).us i=D.getD i []:=λi=>by rw[l];rfl
 have x:(X.wL r).vU.length=X.vU.length+1:=by rw[l];show D.length=_;rw[lD,dl]
 have y:(X.wL r).v8=X.v8:=by rw[l];rfl
 refine⟨{w:=by rw[y,x];have:=W.w;omega,u1:=λc i h=>?_,u2:=λc d i L H=>?_,uk:=?_,r1:=by rw[t];exact W.r1,r2:=λi f=>?_,ec:=λk m g i h=>?_,kk:=by rw[l];exact W.kk,md:=by rw[l];show _=(X.vB++[r]).length;simp,cl:=?_,dl:=λi=>?_,wl:=?_,dp:=?_,wb:=λi=>?_},?_⟩
 .rw[G]at h
  rw[x,y,t];have ww:=W.w;split at h
  .cases h;exact⟨by omega,by omega,λq=>by have:=(W.r2 _ q).1;omega⟩
  .let⟨a,b,c⟩:=W.u1 c i h;exact⟨by omega,b,c⟩
 .rw[G]at L H
  split at L
  .rename_i e1
   cases L
   split at H
   .rename_i R;omega
   .have:=(W.u1 d _ H).1;omega
  .split at H
   .cases H;have:=(W.u1 c _ L).1;omega
   .exact W.u2 c d i L H
 .rw[l];exact mj W.uk
 .rw[t]at f;rw[x,y];let⟨a,b⟩:=W.r2 i f;exact⟨by omega,b⟩
 .rw[x]
  rw[l]at h;rcases aB.mp (show A3.wY k m g i∈X.vC++[.made X.vB.length]from h)with q|q
  .have:=W.ec k m g i q;omega
  .cases aj.mp q
 .rw[l]
  show(X.vC++[_]).length=(X.vB++[r]).length+X.vR.length+X.vF.length;have:=W.cl;simp;omega
 .rw[n,Q]
  split
  .rename_i q
   let⟨c,_,f⟩:=(o _).mp q;rw[v i (W.u1 c i f).1];have:=uM I (g:=c);rw[DO X f]at this;simp;omega
  .by_cases e:i<X.vU.length
   .rw[v i e];exact W.dl i
   .have:Y.us i=[]:=by
     by_cases R:i=X.vU.length
     .rw[R];exact N
     .show Y.vU.getD i []=[]
      rw[ah,aO (by omega)];rfl
    rw[this];simp
 .rw[l];show(X.yr++[_]).length=(X.vB++[r]).length;simp[W.wl]
 .rw[l];show(X.zm++[_]).length=(X.vB++[r]).length;simp[W.dp]
 .rw[l]
  show(X.yr++[1+(r.2.map λk=>X.yr.getD k 0).sum]).getD i 0<=_;rw[ah];by_cases e:i<X.yr.length
  .rw[aY e,<-ah];exact W.wb i
  .by_cases R:i=X.yr.length
   .rw[R]
    rw[kJ (ao _),sP];show 1+(r.2.map λk=>X.yr.getD k 0).sum<=_;have e3:r.2.map (λk=>X.yr.getD k 0)=r.2.map λk=>if k<X.yr.length then X.yr.getD k 0 else 0:=aK λk u=>by
     rw[B];rw[W.wl,n1];exact S k u
    rw[e3];exact Wj (a:=0) (b:=0) (λk=>by
     split
     .rename_i q
      exact bg (W.wb k) (jN (by omega) (by omega))
     .exact bB _) hl
   .rw[aO (by rw[aF];show _+1<=i;omega)];exact bB _
 .refine mS (nJ ?_ ?_ ?_ ?_ ?_ ?_ (λs=>?_) λc=>?_) ?_ ?_ ?_
  .rw[l];rfl
  .rw[l];rfl
  .rw[l];rfl
  .rw[l];rfl
  .rw[l];rfl
  .rw[l];rfl
  .rw[l];rfl
  .show(vJ (X.wL r).vE c).map (X.wL r).us=if c=X.vB.length then some []else if c∈r.2.map X.vQ then((vJ X.vE c).map X.us).map (·++[X.vB.length])else(vJ X.vE c).map X.us
   rw[G];by_cases e:c=X.vB.length
   .rw[B e,B e]
    show some ((X.wL r).us X.vU.length)=_;rw[n,Q,J P,N]
   .rw[J e,J e]
    cases j:vJ X.vE c with
    |none=>simp
    |some i=>
     show some ((X.wL r).us i)=if c∈r.2.map X.vQ then some (X.us i++[X.vB.length])else some (X.us i)
     rw[n,Q,v i (W.u1 c i j).1];by_cases q:c∈r.2.map X.vQ
     .rw[B q,B ((o i).mpr ⟨c,q,j⟩)]
     .rw[J q,J λz=>?_]
      let⟨d,hd,e⟩:=(o i).mp z;exact q (W.u2 c d i j e▸hd)
  .show(X.wL r).us (X.wL r).v8=X.us X.v8
   rw[n,y];exact C _ W.w λc e=>(W.u1 c _ e).2.1 rfl
  .show((X.wL r).vC.map (yH (X.wL r))).reverse= .made X.vB.length::(X.vC.map (yH X)).reverse
   have:(X.wL r).vC=X.vC++[.made X.vB.length]:=by rw[l]
   have j:=r9 (X:=X) (Y:=X.wL r) (l:=X.vC) λi f=>by rw[n];exact V i (aN _ f)
   rw[this,aL,dN,j];rfl
  .show((X.wL r).vH.map λp=>(p.1,(X.wL r).us p.2)).reverse=_
   have:(X.wL r).vH=X.vH:=by rw[l];rfl
   rw[this,uN (X:=X) (Y:=X.wL r) λi f=>?_]
   .rfl
   .rw[n];exact V i (aR _ f)
def HX.Gf(X:HX)(n:Nat):HX:={X with vC:=X.vC++[.vR (X.sig n)],vR:=X.vR++[(X.sig n,n)]}
theorem Qf(W:WF X)(b:vJ X.vR (X.sig n)=none):WF (X.Gf n)/\VW (X.Gf n)=⟨(vw X).Lc (X.sig n) n,X.vM,.vR (X.sig n)::(VW X).cs,(VW X).ms⟩:=by
 have a:(X.Gf n).rest=X.rest:=by
  show X.vH.map (·.2)++(X.vC++[_]).flatMap BH=_;rw[qA];simp[BH,HX.rest]
 refine⟨{w:=W.w,u1:=by rw[a];exact W.u1,u2:=W.u2,uk:=W.uk,r1:=by rw[a];exact W.r1,r2:=by rw[a];exact W.r2,ec:=λk m g i h=>?_,kk:=?_,md:=W.md,cl:=?_,dl:=W.dl,wl:=W.wl,dp:=W.dp,wb:=W.wb},?_⟩
 .rcases aB.mp (show A3.wY k m g i∈X.vC++[.vR (X.sig n)]from h)with q|q
  .exact W.ec k m g i q
  .cases aj.mp q
 .have:=mj (k:=X.sig n) (v:=n) W.kk
  rw[qz b]at this;exact this
 .show(X.vC++[_]).length=X.vB.length+(X.vR++[_]).length+X.vF.length
  have:=W.cl;simp;omega
 .refine mS (nJ rfl rfl rfl rfl rfl rfl (λs=>?_) λc=>rfl) rfl ?_ rfl
  .exact Qa b
  .show((X.vC++[_]).map (yH (X.Gf n))).reverse=_
   rw[aL,dN];rfl
def HX.yN(X:HX)(a b:Nat)(r:D)(k g:Nat):HX:=
 {
  X with
  vF:=X.vF++[(a,b,r)],up:=X.up.set g k,vI:=X.vI.set k (X.vI.getD k []++X.vI.getD g []),vN:=X.vN++[(k,g)],vO:=X.vO++[X.vF.length],
  vE:=wJ (xT X.vE g) k X.vU.length,vU:=(X.vU.set X.v8 (X.us X.v8++X.us (X.uid g)))++[X.us (X.uid k)++X.us (X.uid g)],
  vC:=X.vC++[.wY k (X.us (X.uid k)).length g (X.uid g)]}
theorem join_eq(W:WF X)(d:X.xj a b≠X.w_ a b)(e:∃i,vJ X.vE (X.xj a b)=some i)(f:∃i,vJ X.vE (X.w_ a b)=some i):X.join a b r=X.yN a b r (X.xj a b) (X.w_ a b):=by
 let⟨i,g⟩:=e;let⟨j,k⟩:=f;have e1:∀u c,vJ X.vE c=some u->(X.xq X.v8 (X.us X.v8++X.us (X.uid (X.w_ a b)))).us (X.uid c)=X.us (X.uid c):=λu c h=>by
  rw[qi W.w,J];rw[W.us h];exact(W.u1 _ _ h).2.1
 unfold HX.join HX.yW;dsimp only;rw[J d];show HX.mk _ _ _ _ _ _ _ _ _ _ _ _ _ _ _ _=HX.mk _ _ _ _ _ _ _ _ _ _ _ _ _ _ _ _;have l:=e1 _ _ g;have m:=e1 _ _ k;congr 1
 .show X.vO++[(X.vF++[(a,b,r)]).length-1]=_
  simp
 .show wJ (xT X.vE _) _ (X.xq _ _).vU.length=_
  congr 1;show(X.vU.set _ _).length=_;rw[gm]
 .show X.vU.set X.v8 (X.us X.v8++X.us (X.uid (X.w_ a b)))++[(X.xq X.v8 (X.us X.v8++X.us (X.uid (X.w_ a b)))).us (X.uid (X.xj a b))++(X.xq X.v8 (X.us X.v8++X.us (X.uid (X.w_ a b)))).us (X.uid (X.w_ a b))]=X.vU.set X.v8 (X.us X.v8++X.us (X.uid (X.w_ a b)))++[X.us (X.uid (X.xj a b))++X.us (X.uid (X.w_ a b))]
  rw[l,m]
theorem O_(W:WF X)(I:wm (vw X))(f:k≠g)(hk:k<X.up.length)(hg:g<X.up.length)(R:X.vQ k=k)(S:X.vQ g=g)(hw:X.vM.length<=150):WF (X.yN a b r k g)/\VW (X.yN a b r k g)=⟨(vw X).jn a b r k g,X.vM++(vw X).ul g,.wY k ((vw X).ul k).length g ((vw X).ul g)::(VW X).cs,(VW X).ms⟩:=by
 let⟨i,M⟩:=gO I hk R;let⟨j,n⟩:=gO I hg S;have T:=W.us M;have E:=W.us n;have N:=DO X M;have F:=DO X n;have l1:=uM I (g:=k);have l2:=uM I (g:=g);have a0:i≠j:=λe=>f (W.u2 k g i M (e▸n));have l:(X.yN a b r k g).rest=X.rest++[j]:=by
  show X.vH.map (·.2)++(X.vC++[_]).flatMap BH=_;rw[qA];show X.rest++(if k=g then[]else[X.uid g])=_;rw[J f,E]
 have P:∀c,vJ (X.yN a b r k g).vE c=if c=k then some X.vU.length else if c=g then none else vJ X.vE c:=λc=>by
  show vJ (wJ (xT X.vE g) k X.vU.length) c=_;rw[fS,Bq]
 have G:(X.yN a b r k g).vU.length=X.vU.length+1:=by show((X.vU.set _ _)++[_]).length=_;simp
 have u:∀q,(X.yN a b r k g).us q=if q=X.vU.length then X.us i++X.us j else if q=X.v8 then X.vM++X.us j else X.us q:=λq=>by
  show((X.vU.set X.v8 (X.us X.v8++X.us (X.uid g)))++[X.us (X.uid k)++X.us (X.uid g)]).getD q []=_;rw[T,E,ah];by_cases e:q=X.vU.length
  .subst e
   rw[B rfl,kJ (by rw[gm];exact ao _)];simp
  .rw[J e]
   by_cases e2:q<X.vU.length
   .rw[aY (by rw[gm];exact e2),<-ah]
    exact qi W.w
   .rw[aO (by rw[aF,gm];show _+1<=q;omega)]
    rw[J (by have:=W.w;omega)];unfold HX.us;rw[ah,aO (by omega)]
 have H:∀q,q<X.vU.length->q≠X.v8->(X.yN a b r k g).us q=X.us q:=λq o m=>by rw[u,J (by omega),J m]
 have ww:=W.w;refine⟨{w:=by rw[G];show X.v8<_;omega,u1:=λc q h=>?_,u2:=λc d q o m=>?_,uk:=mj (sQ W.uk),r1:=?_,r2:=λq A=>?_,ec:=λV Y g' q h=>?_,kk:=W.kk,md:=W.md,cl:=?_,dl:=λq=>?_,wl:=W.wl,dp:=W.dp,wb:=W.wb},?_⟩
 .rw[P]at h
  rw[G,l];show _/\q≠X.v8/\_;split at h
  .cases h
   refine⟨by omega,by omega,λz=>?_⟩;rcases aB.mp z with z|z
   .have:=(W.r2 _ z).1;omega
   .have:=aj.mp z;have:=(W.u1 _ _ n).1;omega
  .split at h
   .cases h
   .rename_i n1 n2
    let⟨x,y,z⟩:=W.u1 c q h;refine⟨by omega,y,λt=>?_⟩;rcases aB.mp t with t|t
    .exact z t
    .rw[aj.mp t]at h;exact n2 (W.u2 c g j h n)
 .rw[P]at o m
  by_cases v:c=k
  .rw[B v]at o;cases o
   by_cases C:d=k
   .rw[v,C]
   .rw[J C]at m
    split at m
    .cases m
    .have:=(W.u1 _ _ m).1;omega
  .rw[J v]at o
   split at o
   .cases o
   .by_cases C:d=k
    .rw[B C]at m;cases m
     have:=(W.u1 _ _ o).1;omega
    .rw[J C]at m
     split at m
     .cases m
     .exact W.u2 c d q o m
 .rw[l]
  exact b6.mpr ⟨W.r1,by simp,λx hx y hy e=>(W.u1 _ _ n).2.2 (by rw[<-aj.mp hy,<-e];exact hx)⟩
 .rw[l]at A
  rw[G];show _/\q≠X.v8;rcases aB.mp A with z|z
  .let⟨x,y⟩:=W.r2 q z;exact⟨by omega,y⟩
  .rw[aj.mp z];let⟨x,y,_⟩:=W.u1 _ _ n;exact⟨by omega,y⟩
 .rw[G]
  rcases aB.mp (show A3.wY V Y g' q∈X.vC++[.wY k (X.us (X.uid k)).length g (X.uid g)]from h)with z|z
  .have:=W.ec V Y g' q z;omega
  .cases aj.mp z
   rw[E];have:=(W.u1 _ _ n).1;omega
 .show(X.vC++[_]).length=X.vB.length+X.vR.length+(X.vF++[_]).length
  have:=W.cl;simp;omega
 .rw[u]
  rw[N]at l1;rw[F]at l2;split
  .rw[aF];omega
  .split
   .rw[aF];omega
   .exact W.dl q
 .refine mS (nJ ?_ ?_ ?_ ?_ ?_ ?_ (λs=>?_) λc=>?_) ?_ ?_ ?_
  .show _=((vw X).jn a b r k g).vB;unfold Cr.jn;rw[J f];rfl
  .show _=((vw X).jn a b r k g).up;unfold Cr.jn;rw[J f];rfl
  .show _=((vw X).jn a b r k g).vI;unfold Cr.jn;rw[J f];rfl
  .show _=((vw X).jn a b r k g).vN;unfold Cr.jn;rw[J f];rfl
  .show _=((vw X).jn a b r k g).vF;unfold Cr.jn;rw[J f];rfl
  .show _=((vw X).jn a b r k g).vO;unfold Cr.jn;rw[J f];rfl
  .show _=((vw X).jn a b r k g).kn s;unfold Cr.jn;rw[J f];rfl
  .show(vJ (X.yN a b r k g).vE c).map (X.yN a b r k g).us=((vw X).jn a b r k g).us c
   unfold Cr.jn;rw[J f];show _=if c=g then none else if c=k then some ((vw X).ul k++(vw X).ul g)else(vJ X.vE c).map X.us
   rw[P,N,F];by_cases v:c=k
   .rw[B v,J (by omega),B v]
    show some ((X.yN a b r k g).us X.vU.length)=_;rw[u,B rfl]
   .rw[J v]
    by_cases L:c=g
    .rw[B L,B L];rfl
    .rw[J L,J L,J v]
     cases Q:vJ X.vE c with
     |none=>rfl
     |some q=>
      let⟨x,y,_⟩:=W.u1 _ _ Q;exact aU some (H q x y)
  .show(X.yN a b r k g).us X.v8=_
   rw[u,J (by omega),B rfl,F]
  .show((X.vC++[_]).map (yH (X.yN a b r k g))).reverse=_
   have Q:=r9 λq A=>by
    let⟨x,y⟩:=W.r2 q (aN _ A);exact H q x y
   rw[aL,dN,Q];show CC.wY k (X.us (X.uid k)).length g (if k=g then[]else(X.yN a b r k g).us (X.uid g))::_=_;rw[J f,T,E,H j (W.u1 _ _ n).1 (W.u1 _ _ n).2.1,N,F]
   rfl
  .show(X.vH.map λp=>(p.1,(X.yN a b r k g).us p.2)).reverse=_
   rw[uN λq A=>?_]
   .rfl
   .let⟨x,y⟩:=W.r2 q (aR _ A)
    exact H q x y
def HX.F8(X:HX)(a b:Nat)(r:D)(k:Nat):HX:={X with vF:=X.vF++[(a,b,r)],vC:=X.vC++[.wY k (X.us (X.uid k)).length k (X.uid k)]}
theorem Pa(W:WF X)(f:∃i,vJ X.vE k=some i):WF (X.F8 a b r k)/\VW (X.F8 a b r k)=⟨(vw X).jn a b r k k,X.vM,.wY k ((vw X).ul k).length k []::(VW X).cs,(VW X).ms⟩:=by
 let⟨i,c⟩:=f;have d:(X.F8 a b r k).rest=X.rest:=by
  show X.vH.map (·.2)++(X.vC++[_]).flatMap BH=_;rw[qA];show X.rest++(if k=k then[]else[X.uid k])=_;simp
 refine⟨{w:=W.w,u1:=by rw[d];exact W.u1,u2:=W.u2,uk:=W.uk,r1:=by rw[d];exact W.r1,r2:=by rw[d];exact W.r2,ec:=λe m g q h=>?_,kk:=W.kk,md:=W.md,cl:=?_,dl:=W.dl,wl:=W.wl,dp:=W.dp,wb:=W.wb},?_⟩
 .rcases aB.mp (show A3.wY e m g q∈X.vC++[.wY k (X.us (X.uid k)).length k (X.uid k)]from h)with z|z
  .exact W.ec e m g q z
  .cases aj.mp z
   rw[W.us c];exact(W.u1 _ _ c).1
 .show(X.vC++[_]).length=X.vB.length+X.vR.length+(X.vF++[_]).length
  have:=W.cl;simp;omega
 .have j:(vw X).jn a b r k k={vw X with vF:=X.vF++[(a,b,r)]}:=by unfold Cr.jn;rw[B rfl];rfl
  refine mS (by rw[j];rfl) rfl ?_ rfl;show((X.vC++[_]).map (yH (X.F8 a b r k))).reverse=_;rw[aL,dN];show CC.wY k (X.us (X.uid k)).length k (if k=k then[]else _)::_=_;rw[B rfl,W.us c,DO X c];rfl
theorem GX(W:WF X)(I:wm (vw X))(i:a<X.up.length)(j:b<X.up.length)(k:X.vM.length<=150):WF (X.join a b r)/\VW (X.join a b r)=(VW X).join a b r:=by
 let⟨g,h,d,f,m,n⟩:=JW (VW X) I i j;have g:X.xj a b<X.up.length:=g;have h:X.w_ a b<X.up.length:=h;have d:X.vQ (X.xj a b)=X.xj a b:=d;have f:X.vQ (X.w_ a b)=X.w_ a b:=f;by_cases e:X.xj a b=X.w_ a b
 .have e1:X.join a b r=X.F8 a b r (X.xj a b):=by
   unfold HX.join HX.yW;dsimp only;rw[B e,<-e];rfl
  obtain⟨A,c⟩:=Pa W (gO I g d);rw[e1];refine⟨A,c.trans ?_⟩;have l:(VW X).gn a b=X.xj a b:=e.symm;unfold AX.join;rw[l,show(VW X).kp a b=X.xj a b from rfl,B rfl,B rfl];rfl
 .rw[join_eq W e (gO I g d) (gO I h f)]
  obtain⟨A,c⟩:=O_ W I e g h d f k;refine⟨A,c.trans ?_⟩;unfold AX.join;rw[J (show¬(VW X).kp a b=(VW X).gn a b from e),J (show¬(VW X).kp a b=(VW X).gn a b from e)];rfl
theorem GK(W:WF X)(I:wm (vw X))(a:n<X.up.length)(b:X.vM.length<=150):WF (X.AD n)/\VW (X.AD n)=(VW X).look n:=by
 unfold HX.AD AX.look;rw[show(VW X).cr.kn ((VW X).cr.sig n)=vJ X.vR (X.sig n)from rfl];cases h:vJ X.vR (X.sig n)with
 |none=>
  have e:(if(none:Yo).isSome=true then X else{X with vC:=X.vC++[.vR (X.sig n)]}).x_ n=X.Gf n:=by
   rw[J (by simp)];unfold HX.x_;rw[show vJ ({X with vC:=X.vC++[A3.vR (X.sig n)]}:HX).vR (({X with vC:=X.vC++[A3.vR (X.sig n)]}:HX).sig n)=none from h]
   rfl
  rw[e];exact Qf W h
 |some o=>
  have e:(if(some o:Yo).isSome=true then X else{X with vC:=X.vC++[.vR (X.sig n)]}).x_ n=if X.vQ o=X.vQ n then X else X.join o n HX.zh:=by
   rw[B (show(some o).isSome=true from rfl)];unfold HX.x_;rw[h]
  rw[e];show _/\_=if(VW X).cr.vQ o=(VW X).cr.vQ n then VW X else(VW X).join o n HX.zh
  by_cases q:X.vQ o=X.vQ n
  .rw[B q,B (show(VW X).cr.vQ o=(VW X).cr.vQ n from q)];exact⟨W,rfl⟩
  .rw[J q,J (show¬(VW X).cr.vQ o=(VW X).cr.vQ n from q)]
   exact GX W I (I.kn _ _ h).1 a b
theorem QF(W:WF X)(e:l.length<=200):WF (X.xq X.v8 l)/\VW (X.xq X.v8 l)={VW X with wt:=l}:=by
 have a:(X.xq X.v8 l).vU.length=X.vU.length:=by show(X.vU.set _ _).length=_;rw[gm]
 have b:∀q,q≠X.v8->(X.xq X.v8 l).us q=X.us q:=λq h=>by rw[qi W.w,J h]
 refine⟨{w:=by rw[a];exact W.w,u1:=by rw[a];exact W.u1,u2:=W.u2,uk:=W.uk,r1:=W.r1,r2:=by rw[a];exact W.r2,ec:=by rw[a];exact W.ec,kk:=W.kk,md:=W.md,cl:=W.cl,dl:=λi=>?_,wl:=W.wl,dp:=W.dp,wb:=W.wb},?_⟩
 .rw[qi W.w];split
  .exact e
  .exact W.dl i
 .refine mS (nJ rfl rfl rfl rfl rfl rfl (λs=>rfl) λc=>?_) ?_ ?_ ?_
  .show(vJ X.vE c).map (X.xq X.v8 l).us=(vJ X.vE c).map X.us
   cases f:vJ X.vE c with
   |none=>rfl
   |some q=>exact aU some (b q (W.u1 _ _ f).2.1)
  .show(X.xq X.v8 l).us X.v8=l
   rw[qi W.w,B rfl]
  .show(X.vC.map (yH (X.xq X.v8 l))).reverse=_
   rw[r9 λq d=>b q (W.r2 q (aN _ d)).2];rfl
  .show(X.vH.map λp=>(p.1,(X.xq X.v8 l).us p.2)).reverse=_
   rw[uN λq d=>b q (W.r2 q (aR _ d)).2];rfl
theorem Oh(W:WF X):WF X.push/\VW X.push=(VW X).push:=by
 have b:X.push.vU.length=X.vU.length+1:=by show(X.vU++[_]).length=_;simp
 have a:∀q,q<X.vU.length->X.push.us q=X.us q:=λq h=>by
  show(X.vU++[X.vM]).getD q []=X.vU.getD q [];rw[ah,aY h,<-ah]
 have f:X.push.us X.vU.length=X.vM:=by
  show(X.vU++[X.vM]).getD X.vU.length []=X.vM;simp
 have j:∀q,q∈X.push.rest↔q=X.vU.length\/q∈X.rest:=λq=>by
  show q∈(X.vH++[(X.vC.length,X.vU.length)]).map (·.2)++X.vC.flatMap BH↔_;unfold HX.rest;simp only[aL,aB,bF,oG,aj];constructor
  .rintro((h|h)|h)
   .exact .inr (.inl h)
   .exact .inl h
   .exact .inr (.inr h)
  .rintro(h|h|h)
   .exact .inl (.inr h)
   .exact .inl (.inl h)
   .exact .inr h
 have r:=W.w;refine⟨{w:=by rw[b];show X.v8<_;omega,u1:=λc i h=>?_,u2:=W.u2,uk:=W.uk,r1:=?_,r2:=λi l=>?_,ec:=λk m g i h=>?_,kk:=W.kk,md:=W.md,cl:=W.cl,dl:=λi=>?_,wl:=W.wl,dp:=W.dp,wb:=W.wb},?_⟩
 .let⟨x,y,z⟩:=W.u1 c i h
  rw[b,j];exact⟨by omega,y,λq=>q.elim (by omega) z⟩
 .show((X.vH++[(X.vC.length,X.vU.length)]).map (·.2)++X.vC.flatMap BH).Nodup
  have:((X.vH++[(X.vC.length,X.vU.length)]).map (·.2)++X.vC.flatMap BH).Perm (X.vU.length::X.rest):=by
   rw[aL,cY];exact d9
  rw[this.nodup_iff,bx];exact⟨λq=>by have:=(W.r2 _ q).1;omega,W.r1⟩
 .rw[b]
  show _/\i≠X.v8;rcases(j i).mp l with rfl|q
  .exact⟨by omega,by omega⟩
  .let⟨x,y⟩:=W.r2 i q;exact⟨by omega,y⟩
 .rw[b];have:=W.ec k m g i h;omega
 .by_cases e:i<X.vU.length
  .rw[a i e];exact W.dl i
  .by_cases n:i=X.vU.length
   .rw[n,f];exact W.dl _
   .have:X.push.us i=[]:=by
     show X.push.vU.getD i []=[];rw[ah,aO (by omega)];rfl
    rw[this];simp
 .refine mS (nJ rfl rfl rfl rfl rfl rfl (λs=>rfl) λc=>?_) ?_ ?_ ?_
  .show(vJ X.vE c).map X.push.us=(vJ X.vE c).map X.us
   cases o:vJ X.vE c with
   |none=>rfl
   |some q=>exact aU some (a q (W.u1 _ _ o).1)
  .exact a _ W.w
  .show(X.vC.map (yH X.push)).reverse=_
   rw[r9 λq d=>a q (W.r2 q (aN _ d)).1];rfl
  .show((X.vH++[(X.vC.length,X.vU.length)]).map λp=>(p.1,X.push.us p.2)).reverse=_
   rw[aL,dN,uN λq d=>a q (W.r2 q (aR _ d)).1];show(X.vC.length,X.push.us X.vU.length)::_=((VW X).cs.length,X.vM)::_;rw[f];have:(VW X).cs.length=X.vC.length:=by show(X.vC.map (yH X)).reverse.length=_;simp
   rw[this];rfl
section
variable{X:HX}
theorem Rc(a:n<X.vB.length):X.row n∈X.vB:=by
 unfold HX.row;rw[ah,au a];exact bT a
theorem IA{l:X8}(h:l.Nodup)(a:∀x∈l,x<N):l.length<=N:=by
 have:=h.length_le_of_subset λx b=>aZ.mpr (a x b);simpa using this
theorem Ky(I:wm (vw X))(i:Nat):(X.vI.getD i []).length<=8:=bg (IA (I.ln i).1 (I.ln i).2) I.n8
theorem W8(I:wm (vw X)):BQ X:=⟨I.up,I.n2,by have:X.up.length<=8:=I.n8;omega,λi=>by have:=Ky I i;omega⟩
theorem XJ(W:WF X)(I:wm (vw X)):S_ X:=by
 have e:X.vB.length=X.up.length:=I.n1;have f:X.up.length<=8:=I.n8;refine⟨λr b=>(I.op r b).s,W.wl,W.dp,by omega,λx c=>?_⟩;obtain⟨i,d,rfl⟩:=bS c;have a:=W.wb i;rw[ah,au d]at a;have a:X.yr[i]<=3^(i+1):=a;have g:3^(i+1)<=3^9:=jN (by omega) (by have:=W.wl;omega);have h:3^9<=2^40:=aI rfl;omega
theorem hok(W:WF X)(I:wm (vw X)):Af X:=by
 have e:X.vB.length=X.up.length:=I.n1;have h:X.up.length<=8:=I.n8;refine⟨W8 I,XJ W I,e,by omega,λn f k g=>j5 (I.kid n k g) f,I.kl,λc _=>c_ (vw X) c,λc b=>gO I (fX I b) (c_ (vw X) c),λc b=>?_,λc b x d=>(I.ln _).2 x d,λc _=>by have:=Ky I (X.vQ c);omega⟩;let⟨i,a⟩:=gO I (fX I b) (c_ (vw X) c);have a:vJ X.vE (X.vQ c)=some i:=a;rw[W.us a];refine⟨by have:=W.dl i;have:=uM I (g:=X.vQ c);rw[DO X a]at this;omega,λx d=>?_⟩;exact((I.um (X.vQ c) (X.us i) (by rw[pK,a];rfl) x).mp d).1
theorem DV(W:WF X)(I:wm (vw X)):X.vE.length<=8:=by
 have h:=IA (N:=8) W.uk λc a=>by
  have b:=rS.mpr a;have:=((I.ud c).mp (by rw[pK,oV];exact b)).1;have d:X.up.length<=8:=I.n8;have:c<X.up.length:=this;omega
 simpa using h
theorem XA(W:WF X)(I:wm (vw X))(a:X.vF.length<=900):W5 X:=by
 have b:X.up.length<=8:=I.n8;have m:X.vN.length<=X.up.length:=F6 I;have f:X.vO.length=X.vN.length:=I.fm;have u:=DV W I;exact⟨by omega,by omega,by omega,by omega,λi=>by have:=W.dl i;omega⟩
def EE:List (X8):=[]::((List.range 8).map λa=>[a])++(List.range 8).flatMap λa=>(List.range 8).map λb=>[a,b]
theorem Jk:∀(l:X8),l.length<=2->(∀x∈l,x<8)->l∈EE
 |[],_,_=>by simp[EE]
 |[a],_,h=>aR _ (.tail _ (aa.mpr ⟨a,aZ.mpr (h a (.head _)),rfl⟩))
 |[a,b],_,h=>aN _ (b7.mpr ⟨a,aZ.mpr (h a (.head _)),aa.mpr ⟨b,aZ.mpr (h b (.tail _ (.head _))),rfl⟩⟩)
theorem Ju:EE.length=73:=by decide
theorem Bk(W:WF X)(I:wm (vw X)):X.vR.length<=600:=by
 have i:X.up.length<=8:=I.n8;have h:=W.kk.length_le_of_subset (l₂:=(List.range 8).flatMap λm=>EE.map λl=>((X.row m).1,l)) λs e=>by
  let⟨m,f⟩:=aT.mp (rS.mpr e);let⟨a,b,c,d⟩:=I.kn s m f;have a:m<X.up.length:=a;have j:=I.kl m;refine b7.mpr ⟨m,aZ.mpr (by omega),aa.mpr ⟨s.2,Jk _ (by omega) λx g=>?_,gr b.symm rfl⟩⟩;have:x<X.up.length:=d x g;omega
 rw[gK]at h;simp only[az,Ju]at h;have:((List.range 8).map λ_=>73).sum=584:=by decide
 omega
theorem VD(W:WF X)(I:wm (vw X)):FT X:=λp c=>by
 let⟨a,b,_⟩:=I.kn p.1 p.2 (K_ W.kk c);refine⟨?_,a⟩;rw[b];exact(I.op _ (Rc (by have d:X.vB.length=X.up.length:=I.n1;rw[d];exact a))).s
theorem Ig(W:WF X)(I:wm (vw X))(a:X.vF.length<=900):X.vC.length<=1600:=by
 have b:=W.cl;have c:=Bk W I;have d:X.vB.length=X.up.length:=I.n1;have e:X.up.length<=8:=I.n8;omega
def uo:=@Ig
theorem Qx(W:WF X)(I:wm (vw X))(a:X.vF.length<=900)(b:X.vH.length<=900):Sz X:={XA W I a with k:=by have:=Bk W I;omega,c:=by have:=uo W I a;omega,r:=by omega}
theorem NC(W:WF X)(I:wm (vw X))(a:X.vF.length<=900)(b:X.vH.length<=900)(c:n<X.up.length):yS X n:=⟨hok W I,Qx W I a b,by have:=uo W I a;omega,VD W I,c⟩
theorem QJ(W:WF X)(I:wm (vw X)){c:Nat}(e:c<X.up.length):(X.Dy c).length<=7:=by
 have j:X.up.length<=8:=I.n8;let⟨i,b⟩:=gO I (fX I e) (c_ (vw X) c);have b:vJ X.vE (X.vQ c)=some i:=b;have f:(X.Dy c).Nodup:=fZ.filter _;have d:∀x∈X.Dy c,0<x/\x<8:=λx a=>by
  unfold HX.Dy zo at a;rw[aV,aZ,aM,W.us b]at a;let⟨_,k,g,_⟩:=(I.um (X.vQ c) (X.us i) (by rw[pK,b];rfl) x).mp a.2;have:=I.kid x k g;omega
 have h:(0::X.Dy c).Nodup:=bx.mpr ⟨λq=>by have:=(d 0 q).1;omega,f⟩;have:=IA (N:=8) h λx a=>by
  rcases aG.mp a with rfl|q
  .omega
  .exact(d x q).2
 simpa using this
end
theorem A6.GJ(h:A6 a (.made n) c):n=a.vB.length/\∃r,c=a.grow r/\∀k∈r.2,k<a.up.length:=by cases h;exact⟨rfl,_,rfl,by assumption⟩
theorem A6.Eh(h:A6 a (.vR s) c):∃m,a.kn s=none/\c=a.Lc s m:=by cases h;exact⟨_,by assumption,rfl⟩
theorem A6.Hi(h:A6 d (.wY k m g l) c):∃a b r,k<d.up.length/\g<d.up.length/\d.vQ k=k/\d.vQ g=g/\c=d.jn a b r k g:=by
 cases h;exact⟨_,_,_,by assumption,by assumption,by assumption,by assumption,rfl⟩
theorem Lm(W:WF X)(I:wm (vw X))(S:X.vF.length<=900){P:List A3}{E:A3}(t:X.vC=P++[E]){o:Cr}(A:wm o)(st:A6 o (yH X E) (vw X)):NN {X with vC:=P} E:=by
 have Q:X.vB.length=X.up.length:=I.n1;have n8:X.up.length<=8:=I.n8;cases E with
 |made n=>
  obtain⟨F,r,e,R⟩:=A6.GJ st;have e1:X.vB=o.vB++[r]:=aU Cr.vB e;have T:X.up.length=n+1:=by rw[<-Q,e1,F];simp
  have f:=W8 I;have h:=XJ W I;have V:X.row n=r:=by
   have:=jJ o r n;rw[<-e,B F]at this;exact this
  have H:∀k,X.vQ k=o.vQ k:=λk=>by have:=mW A r k;rw[<-e]at this;exact this
  have C:=A.n1;have v:∀c∈X.zT (X.row n).2,c<o.up.length/\X.vQ c=c/\∃i,vJ X.vE c=some i/\X.us i≠[]:=λc t=>by
   obtain⟨k,p,rfl⟩:=aa.mp (ou.mp t).2;have G:X.vQ k<o.up.length:=by rw[H];exact fX A (R k (V▸p))
   obtain⟨i,y⟩:=gO I (c:=X.vQ k) (by omega) (c_ (vw X) k);refine⟨G,c_ (vw X) k,i,y,λq=>?_⟩;have L:(vw X).us (X.vQ k)=some (X.us i):=by rw[pK,y];rfl
   have z:n∈X.us i:=(I.um _ _ L n).mpr ⟨by show n<X.up.length;omega,k,p,rfl⟩;rw[q]at z;cases z
  refine TY.mk ⟨f.up,f.lo,f.z,f.lz⟩ ⟨h.s,h.w,h.d,h.z,h.b⟩ Q ⟨T,by omega⟩ (λk p=>?_) (I.kl n) ?_ ?_ I.nd (λc t=>?_) (λc t d hd q=>?_) ?_ ?_
  .have:k<n:=I.kid n k p
   show k<X.up.length;omega
  .show X.vQ n=n
   rw[H,F,C];exact lB (by simp)
  .have:=CI A r n
   rw[<-e,B (by omega)]at this;exact this
  .obtain⟨_,_,i,y,z⟩:=v c t
   exact⟨i,y,z,by have:=W.dl i;show(X.us i).length<=10000;omega⟩
  .obtain⟨_,_,i,y,_⟩:=v c t
   obtain⟨_,_,j,Y,_⟩:=v d hd;exact J5 W ⟨i,y⟩ ⟨j,Y⟩ q
  .have G:X.vQ n=n:=by rw[H,F,C];exact lB (by simp)
   exact gO (X:=X) I (by omega) G
  .have:=DV W I
   show X.vE.length<=10000;omega
 |vR s=>
  obtain⟨m,G,e⟩:=A6.Eh st;have L:vJ X.vR s=some m:=by
   have:=congrFun (aU Cr.kn e) s;have z:(o.Lc s m).kn s=some m:=B rfl;rw[z]at this;exact this
  have:=Bk W I;have K:=VD W I;exact⟨rS.mp (by show(vJ X.vR s).isSome=true;rw[L];rfl),by show X.vR.length<=10000;omega,K⟩
 |wY k m g i=>
  obtain⟨a,b,r,R,hg,a0,b0,e⟩:=A6.Hi st;have l:=XA W I S;have f:=W8 I;have d0:X.up.length=o.up.length:=by have:=JX (c:=o) (a:=a) (b:=b) (r:=r) (k:=k) (g:=g);rw[<-e]at this;exact this
  have M:X.vF=o.vF++[(a,b,r)]:=by
   have:=aU Cr.vF e;refine this.trans ?_;unfold Cr.jn;split<;>rfl
  refine TZ.mk ⟨l.e,l.f,l.m,l.u,l.d⟩ (by show X.vF≠[];rw[M];simp) (W.ec k m g i (by rw[t];simp)) λw=>?_;have ej:o.jn a b r k g={o with vF:=o.vF++[(a,b,r)],up:=o.up.set g k,vI:=o.vI.set k (o.xH k++o.xH g),vN:=o.vN++[(k,g)],vO:=o.vO++[o.vF.length],us:=λx=>if x=g then none else if x=k then some (o.ul k++o.ul g)else o.us x}:=by
   unfold Cr.jn;rw[J w]
  rw[ej]at e;have N:X.vI=o.vI.set k (o.xH k++o.xH g):=aU Cr.vI e;have e0:=A.n2;refine⟨⟨f.up,f.lo,f.z,f.lz⟩,?_,o.vN,aU Cr.vN e,by show k<X.up.length;omega,by show g<X.up.length;omega,?_,?_⟩
  .have:X.vO=o.vO++[o.vF.length]:=aU Cr.vO e
   show X.vO≠[];rw[this];simp
  .show(X.vI.getD g []).length<=(X.vI.getD k []).length
   rw[N,ah,ah,cy w,cZ (by omega)];show(o.vI[g]?.getD []).length<=(o.xH k++o.xH g).length;rw[<-ah,aF];unfold Cr.xH;omega
  .have:(vw X).us k=some (o.ul k++o.ul g):=by
    rw[e];show(if k=g then none else if k=k then _ else _)=_;rw[J w,B rfl]
   rw[pK]at this;obtain⟨u,hu,_⟩:=bu.mp this;exact⟨u,hu⟩
theorem QN(W:WF X)(I:wm (vw X))(L:X.vC=A++[cc])(I0:wm o)(st:A6 o (yH X cc) (vw X)):WF (({X with vC:=A}:HX).xg cc)/\VW (({X with vC:=A}:HX).xg cc)=⟨(vw X).xg (yH X cc),X.vM,(A.map (yH X)).reverse,(VW X).ms⟩:=by
 have n1:X.vB.length=X.up.length:=I.n1;have n8:X.up.length<=8:=I.n8;have q0:=W.cl;have er:X.rest=(X.vH.map (·.2)++A.flatMap BH)++BH cc:=by unfold HX.rest;rw[L,qA]
 have m0:A.length+1=X.vC.length:=by rw[L];simp
 have e0:∀k m g i,A3.wY k m g i∈A->i<X.vU.length:=λk m g i h=>W.ec k m g i (by rw[L];exact aR _ h);have sub:∀i,i∈X.vH.map (·.2)++A.flatMap BH->i∈X.rest:=λi h=>by rw[er];exact aR _ h
 have N:(X.vH.map (·.2)++A.flatMap BH).Nodup:=by have:=W.r1;rw[er]at this;exact(b6.mp this).1
 cases cc with
 |made n=>
  let⟨hn,r,e,hk⟩:=A6.GJ st;have e1:X.vB=o.vB++[r]:=aU Cr.vB e;have e2:X.up.length=n+1:=by rw[<-n1,e1,hn];simp
  have hr:X.row n=r:=by
   have:=jJ o r n;rw[<-e,B hn]at this;exact this
  have fn:∀k,X.vQ k=o.vQ k:=λk=>by have:=mW I0 r k;rw[<-e]at this;exact this
  have P:∀c∈X.zT (X.row n).2,∃i,vJ X.vE c=some i:=λc L=>by
   obtain⟨k,f0,rfl⟩:=aa.mp (ou.mp L).2;have h0:X.vQ k<o.up.length:=by rw[fn];exact fX I0 (hk k (hr▸f0))
   have:=I0.n1;exact gO I (by omega) (c_ (vw X) k)
  let l:HX:={X with vC:=A};let⟨D,eD,lD,hD⟩:=CL List.dropLast (X.zT (X.row n).2) l (Kn W (ND _ _) P) (λc L=>by
   let⟨i,v⟩:=P c L;show X.uid c<X.vU.length;rw[W.us v];exact(W.u1 c i v).1)
  have lD:D.length=X.vU.length:=lD;have hD:∀i,D.getD i []=if i∈(X.zT (X.row n).2).map X.uid then(X.us i).dropLast else X.us i:=hD
  have E:l.xg (.made n)={l with vU:=D,vE:=xT X.vE n,up:=X.up.take n,vI:=X.vI.take n,vB:=X.vB.take n,yr:=X.yr.take n,zm:=X.zm.take n,made:=n}:=by
   show HX.z7 l n=_;unfold HX.z7;have:(l.zT (l.row n).2).foldl HX.wB l={l with vU:=D}:=eD;rw[this]
  have S:∀c i,vJ X.vE c=some i->(i∈(X.zT (X.row n).2).map X.uid↔c∈(X.row n).2.map X.vQ):=λc i v=>by
   constructor
   .intro q
    let⟨d,hd,e⟩:=aa.mp q;let⟨j,hj⟩:=P d hd;rw[W.us hj]at e;rw[W.u2 c d i v (e▸hj)];exact(ou.mp hd).2
   .intro q
    have F:c<X.up.length:=((I.ud c).mp (by rw[pK,v];rfl)).1;exact aa.mpr ⟨c,ou.mpr ⟨F,q⟩,W.us v⟩
  have T:∀i,(∀c,vJ X.vE c≠some i)->D.getD i []=X.us i:=λi h=>by
   rw[hD,J λq=>?_];let⟨d,hd,e⟩:=aa.mp q;let⟨j,hj⟩:=P d hd;rw[W.us hj]at e;exact h d (e▸hj)
  have M:∀i∈X.rest,D.getD i []=X.us i:=λi v=>T i λc e=>(W.u1 c i e).2.2 v;have H:∀c,vJ (xT X.vE n) c=if c=n then none else vJ X.vE c:=λc=>Bq
  have G:∀i,(l.xg (.made n)).us i=D.getD i []:=λi=>by rw[E];rfl
  have lt:∀c i,vJ (xT X.vE n) c=some i->vJ X.vE c=some i:=λc i h=>by
   rw[H]at h;split at h
   .cases h
   .exact h
  show WF (l.xg (.made n))/\VW (l.xg (.made n))=_;refine⟨?_,?_⟩
  .rw[E]
   refine{w:=by show X.v8<D.length;rw[lD];exact W.w,u1:=λc i h=>?_,u2:=λc d i F C=>W.u2 c d i (lt c i F) (lt d i C),uk:=sQ W.uk,r1:=N,r2:=λi v=>?_,ec:=λk m g i h=>?_,kk:=W.kk,md:=?_,cl:=?_,dl:=λi=>?_,wl:=?_,dp:=?_,wb:=λi=>?_}
   .let⟨x,y,z⟩:=W.u1 c i (lt c i h)
    show i<D.length/\_;rw[lD];exact⟨x,y,λq=>z (sub i q)⟩
   .show i<D.length/\_
    rw[lD];exact W.r2 i (sub i v)
   .show i<D.length
    rw[lD];exact e0 k m g i h
   .show n=(X.vB.take n).length
    rw[bU];omega
   .show A.length=(X.vB.take n).length+X.vR.length+X.vF.length
    rw[bU];omega
   .show(D.getD i []).length<=200
    rw[hD];have:=W.dl i;split
    .rw[jM];omega
    .exact this
   .show(X.yr.take n).length=(X.vB.take n).length
    rw[bU,bU,W.wl]
   .show(X.zm.take n).length=(X.vB.take n).length
    rw[bU,bU,W.dp]
   .show(X.yr.take n).getD i 0<=_
    rw[ah,vj];split
    .rw[<-ah];exact W.wb i
    .exact bB _
  .refine mS (nJ ?_ ?_ ?_ ?_ ?_ ?_ (λs=>?_) λc=>?_) ?_ ?_ ?_
   .rw[E];rfl
   .rw[E];rfl
   .rw[E];rfl
   .rw[E];rfl
   .rw[E];rfl
   .rw[E];rfl
   .rw[E];rfl
   .have e3:(l.xg (.made n)).vE=xT X.vE n:=by rw[E]
    show(vJ (l.xg (.made n)).vE c).map (l.xg (.made n)).us=if c=n then none else if c∈(X.row n).2.map X.vQ then((vJ X.vE c).map X.us).map List.dropLast else(vJ X.vE c).map X.us
    rw[e3,H];by_cases q:c=n
    .rw[B q,B q];rfl
    .rw[J q,J q]
     cases L:vJ X.vE c with
     |none=>simp
     |some i=>
      show some ((l.xg (.made n)).us i)=if _ then some (X.us i).dropLast else some (X.us i)
      rw[G,hD];by_cases z:c∈(X.row n).2.map X.vQ
      .rw[B z,B ((S c i L).mpr z)]
      .rw[J z,J λt=>z ((S c i L).mp t)]
   .have:(l.xg (.made n)).v8=X.v8:=by rw[E]
    show(l.xg (.made n)).us (l.xg (.made n)).v8=X.us X.v8;rw[this,G];exact T _ λc e=>(W.u1 c _ e).2.1 rfl
   .have:(l.xg (.made n)).vC=A:=by rw[E]
    show((l.xg (.made n)).vC.map (yH _)).reverse=_;rw[this,r9 (X:=X) λi v=>by rw[G];exact M i (sub i (aN _ v))]
   .have:(l.xg (.made n)).vH=X.vH:=by rw[E]
    show((l.xg (.made n)).vH.map λp=>(p.1,(l.xg (.made n)).us p.2)).reverse=_;rw[this,uN (X:=X) λi v=>by rw[G];exact M i (sub i (aR _ v))];rfl
 |vR s=>
  let⟨m,h0,e⟩:=A6.Eh st;have F:vJ X.vR s=some m:=by
   have:=congrFun (aU Cr.kn e) s;have C:(o.Lc s m).kn s=some m:=B rfl;rw[C]at this;exact this
  have hs:=Qd W.kk (rS.mp (by rw[F];rfl));refine⟨{w:=W.w,u1:=λc i h=>?_,u2:=W.u2,uk:=W.uk,r1:=N,r2:=λi v=>W.r2 i (sub i v),ec:=e0,kk:=sQ W.kk,md:=W.md,cl:=?_,dl:=W.dl,wl:=W.wl,dp:=W.dp,wb:=W.wb},?_⟩
  .let⟨x,y,z⟩:=W.u1 c i h
   exact⟨x,y,λq=>z (sub i q)⟩
  .show A.length=X.vB.length+(xT X.vR s).length+X.vF.length
   omega
  .refine mS (nJ rfl rfl rfl rfl rfl rfl (λt=>?_) λc=>rfl) rfl rfl rfl
   exact Bq
 |wY k m g id=>
  let⟨a,b,r,hk,hg,n0,o0,e⟩:=A6.Hi st;have g0:X.vF=o.vF++[(a,b,r)]:=by
   have:=aU Cr.vF e;apply this.trans;unfold Cr.jn;split<;>rfl
  have p0:X.vF.dropLast.length+1=X.vF.length:=by rw[g0];simp
  by_cases f:k=g
  .have E:({X with vC:=A}:HX).xg (.wY k m g id)={X with vC:=A,vF:=X.vF.dropLast}:=by
    show HX.xE _ k m g id=_;unfold HX.xE;dsimp only;rw[B f]
   rw[E];refine⟨{w:=W.w,u1:=λc i h=>?_,u2:=W.u2,uk:=W.uk,r1:=N,r2:=λi v=>W.r2 i (sub i v),ec:=e0,kk:=W.kk,md:=W.md,cl:=?_,dl:=W.dl,wl:=W.wl,dp:=W.dp,wb:=W.wb},?_⟩
   .let⟨x,y,z⟩:=W.u1 c i h
    exact⟨x,y,λq=>z (sub i q)⟩
   .show A.length=X.vB.length+X.vR.length+X.vF.dropLast.length
    omega
   .refine mS ?_ rfl rfl rfl
    show _=(if k=g then _ else _);rw[B f];rfl
  .have ej:o.jn a b r k g={o with vF:=o.vF++[(a,b,r)],up:=o.up.set g k,vI:=o.vI.set k (o.xH k++o.xH g),vN:=o.vN++[(k,g)],vO:=o.vO++[o.vF.length],us:=λx=>if x=g then none else if x=k then some (o.ul k++o.ul g)else o.us x}:=by
    unfold Cr.jn;rw[J f]
   have e':=e;rw[ej]at e';have i0:X.vN=o.vN++[(k,g)]:=aU Cr.vN e';have a0:X.vN.getLastD (0,0)=(k,g):=by rw[i0];simp
   obtain⟨u,hu⟩:∃u,vJ X.vE k=some u:=by
    have:(vw X).us k=some (o.ul k++o.ul g):=by
     rw[e'];show(if k=g then none else if k=k then _ else _)=_;rw[J f,B rfl]
    rw[pK]at this;let⟨u,hu,_⟩:=bu.mp this;exact⟨u,hu⟩
   have uu:=W.us hu;let l:HX:={X with vC:=A};have E:l.xg (.wY k m g id)={l with
    vF:=X.vF.dropLast,vO:=X.vO.dropLast,vN:=X.vN.dropLast,up:=X.up.set g g,vI:=X.vI.set k ((X.vI.getD k []).take ((X.vI.getD k []).length-(X.vI.getD g []).length)),
    vU:=X.vU++[(X.us u).take m],vE:=wJ (wJ X.vE k X.vU.length) g id}:=by
    show HX.xE _ k m g id=_;unfold HX.xE;dsimp only;rw[J f];unfold HX.z5;dsimp only;rw[show l.vN.getLastD (0,0)=(k,g)from a0];show HX.mk _ _ _ _ _ _ _ _ _ _ _ _ _ _ _ _=HX.mk _ _ _ _ _ _ _ _ _ _ _ _ _ _ _ _;congr 1;show X.vU++[(X.us (X.uid k)).take m]=_;rw[uu]
   show WF (l.xg (.wY k m g id))/\VW (l.xg (.wY k m g id))=_;rw[E];have d0:BH (.wY k m g id)=[id]:=J f;rw[d0]at er;have Y:id∈X.rest:=by rw[er];simp
   have j0:id∉X.vH.map (·.2)++A.flatMap BH:=λq=>by
    have:=W.r1;rw[er]at this;exact(b6.mp this).2.2 id q id (by simp) rfl
   let⟨k0,l0⟩:=W.r2 id Y;have H:∀c,vJ (wJ (wJ X.vE k X.vU.length) g id) c=if c=g then some id else if c=k then some X.vU.length else vJ X.vE c:=λc=>by rw[fS,fS]
   have ho:∀q,q<X.vU.length->(X.vU++[(X.us u).take m]).getD q []=X.us q:=λq h=>by
    rw[ah,aY h,<-ah];rfl
   have b0:(X.vU++[(X.us u).take m]).getD X.vU.length []=(X.us u).take m:=by simp
   have ww:=W.w;have dl:(X.vU++[(X.us u).take m]).length=X.vU.length+1:=by simp
   refine⟨{w:=by show X.v8<(X.vU++[(X.us u).take m]).length;rw[dl];omega,u1:=λc i h=>?_,u2:=λc d i F C=>?_,uk:=mj (mj W.uk),r1:=N,r2:=λi v=>?_,ec:=λk' m' g' i h=>?_,kk:=W.kk,md:=W.md,cl:=?_,dl:=λi=>?_,wl:=W.wl,dp:=W.dp,wb:=W.wb},?_⟩
   .rw[H]at h
    show i<(X.vU++[(X.us u).take m]).length/\_;rw[dl];split at h
    .cases h;exact⟨by omega,l0,j0⟩
    .split at h
     .cases h;exact⟨by omega,by show _≠X.v8;omega,λq=>by have:=(W.r2 _ (sub _ q)).1;omega⟩
     .let⟨x,y,z⟩:=W.u1 c i h
      exact⟨by omega,y,λq=>z (sub i q)⟩
   .rw[H]at F C
    by_cases Q:c=g
    .rw[B Q]at F;cases F
     by_cases R:d=g
     .rw[Q,R]
     .rw[J R]at C
      split at C
      .cases C;omega
      .exact absurd Y (W.u1 _ _ C).2.2
    .rw[J Q]at F
     by_cases V:c=k
     .rw[B V]at F;cases F
      by_cases R:d=g
      .rw[B R]at C;cases C;omega
      .rw[J R]at C
       split at C
       .omega
       .have:=(W.u1 _ _ C).1;omega
     .rw[J V]at F
      by_cases R:d=g
      .rw[B R]at C;cases C;exact absurd Y (W.u1 _ _ F).2.2
      .rw[J R]at C
       split at C
       .cases C;have:=(W.u1 _ _ F).1;omega
       .exact W.u2 c d i F C
   .show i<(X.vU++[(X.us u).take m]).length/\_
    rw[dl];let⟨x,y⟩:=W.r2 i (sub i v);exact⟨by omega,y⟩
   .show i<(X.vU++[(X.us u).take m]).length
    rw[dl];have:=e0 k' m' g' i h;omega
   .show A.length=X.vB.length+X.vR.length+X.vF.dropLast.length
    omega
   .show((X.vU++[(X.us u).take m]).getD i []).length<=200
    by_cases q:i<X.vU.length
    .rw[ho i q];exact W.dl i
    .by_cases q2:i=X.vU.length
     .rw[q2,b0,bU];have:=W.dl u;omega
     .rw[ah,aO (by omega)];exact bB _
   .refine mS (nJ ?_ ?_ ?_ ?_ ?_ ?_ (λs=>?_) λc=>?_) ?_ ?_ ?_
    .show _=(if k=g then _ else _:Cr).vB;rw[J f];rfl
    .show _=(if k=g then _ else _:Cr).up;rw[J f];rfl
    .show _=(if k=g then _ else _:Cr).vI;rw[J f];rfl
    .show _=(if k=g then _ else _:Cr).vN;rw[J f];rfl
    .show _=(if k=g then _ else _:Cr).vF;rw[J f];rfl
    .show _=(if k=g then _ else _:Cr).vO;rw[J f];rfl
    .show _=(if k=g then _ else _:Cr).kn s;rw[J f];rfl
    .show(vJ (wJ (wJ X.vE k X.vU.length) g id) c).map (λq=>(X.vU++[(X.us u).take m]).getD q [])=(if k=g then _ else _:Cr).us c
     rw[J f,H];show _=if c=g then some (if k=g then[]else X.us id)else if c=k then some (((vw X).ul k).take m)else(vJ X.vE c).map X.us
     rw[J f,DO X hu];by_cases Q:c=g
     .rw[B Q,B Q];exact aU some (ho id k0)
     .rw[J Q,J Q]
      by_cases V:c=k
      .rw[B V,B V];exact aU some b0
      .rw[J V,J V]
       cases L:vJ X.vE c with
       |none=>rfl
       |some q=>exact aU some (ho q (W.u1 _ _ L).1)
    .exact ho _ W.w
    .show(A.map (yH _)).reverse=(A.map (yH X)).reverse
     congr 1;exact r9 λi v=>ho i (W.r2 i (sub i (aN _ v))).1
    .show(X.vH.map λp=>(p.1,(X.vU++[(X.us u).take m]).getD p.2 [])).reverse=_
     rw[aK λp hp=>by rw[ho p.2 (W.r2 _ (sub _ (aR _ (b9 hp)))).1]];rfl
theorem SG(h:l.getLast?=some c):l=l.dropLast++[c]:=by
 let⟨a,e⟩:=qY.mp h;rw[e];simp
theorem Tu(h:X.vC=a++[b]):(VW X).cs=yH X b::(a.map (yH X)).reverse:=by
 show(X.vC.map (yH X)).reverse=_;rw[h,aL,dN];rfl
theorem Xi(W:WF X)(I:wm (vw X))(a:X.vF.length<=900)(H:Qk (vw X) (VW X).cs):M8 X:=λc b=>by
 have e:=SG b;rw[Tu e]at H;let⟨f,d,st,_⟩:=H;exact Lm W I a e d st
theorem HR(h:A6 d f c):d.vF.length<=c.vF.length:=by
 cases h with
 |made r i=>exact ao _
 |vR s m e=>exact ao _
 |wY a b r k g=>
  have:(d.jn a b r k g).vF=d.vF++[(a,b,r)]:=by unfold Cr.jn;split<;>rfl
  rw[this,aF];omega
theorem DY:∀(j:Nat) (X:HX),WF X->wm (vw X)->X.vF.length<=900->Qk (vw X) (VW X).cs->j<=X.vC.length->WF (HX.wu j X)/\wm (vw (HX.wu j X))/\(HX.wu j X).vF.length<=900/\Qk (vw (HX.wu j X)) (VW (HX.wu j X)).cs/\VW (HX.wu j X)=⟨Cc (vw X) (VW X).cs j,X.vM,(VW X).cs.drop j,(VW X).ms⟩/\(HX.wu j X).vH=X.vH
 |0,X,W,I,o,H,_=>⟨W,I,o,H,by show VW X=_;cases h:(VW X).cs<;>exact mS rfl rfl (by rw[h];rfl) rfl,rfl⟩
 |j+1,X,W,I,o,H,g=>by
  have r:X.vC≠[]:=λe=>by rw[e]at g;simp at g
  obtain⟨c,d,e⟩:∃c d,X.vC=c++[d]:=⟨_,_,(cV r).symm⟩;have f:=Tu e;rw[f]at H;let⟨i,k,st,s⟩:=H;let⟨p,a⟩:=QN W I e k st;have t:X.xO=({X with vC:=c}:HX).xg d:=by
   unfold HX.xO;rw[e];simp
  have m:=DX ({X with vC:=c}:HX) d;rw[<-t]at p a m;rw[st.back k]at a;have l:vw X.xO=i:=aU AX.cr a;have q:(VW X.xO).cs=(c.map (yH X)).reverse:=by rw[a]
  have n:X.xO.vF.length<=900:=by
   have:X.xO.vF=i.vF:=aU Cr.vF l;have u:i.vF.length<=X.vF.length:=HR st;rw[this];omega
  have b:=DY j X.xO p (by rw[l];exact k) n (by rw[l,q];exact s) (by rw[m.1];rw[e]at g;simpa using g);show WF (HX.wu j X.xO)/\_;refine⟨b.1,b.2.1,b.2.2.1,b.2.2.2.1,b.2.2.2.2.1.trans ?_,b.2.2.2.2.2.trans m.2.2.1⟩;rw[q,l,f];refine mS ?_ ?_ rfl ?_
  .show Cc i _ j=Cc ((vw X).xg (yH X d)) _ j
   rw[st.back k]
  .have:=aU AX.wt a;exact this
  .have:=aU AX.ms a;exact this
theorem QO(X:HX)(c:A3)(a:Yi)(b:Nat):({X with vH:=a,vW:=b}:HX).xg c={X.xg c with vH:=a,vW:=b}:=by
 cases c with
 |vR s=>rfl
 |made n=>
  have d:∀(l:X8) Y,l.foldl HX.wB {Y with vH:=a,vW:=b}={l.foldl HX.wB Y with vH:=a,vW:=b}:=λl=>by
   induction l with
   |nil=>exactλY=>rfl
   |cons c l f=>exactλY=>f (Y.wB c)
  show HX.z7 _ n={HX.z7 X n with vH:=a,vW:=b};unfold HX.z7;dsimp only;have e:(({X with vH:=a,vW:=b}:HX).zT (({X with vH:=a,vW:=b}:HX).row n).2)=X.zT (X.row n).2:=rfl;rw[e,d]
 |wY k m g i=>
  show HX.xE _ k m g i={HX.xE X k m g i with vH:=a,vW:=b};unfold HX.xE;dsimp only;split<;>rfl
theorem Bc(a:Yi)(b:Nat):∀(j:Nat) (X:HX),HX.wu j {X with vH:=a,vW:=b}={HX.wu j X with vH:=a,vW:=b}
 |0,X=>rfl
 |j+1,X=>by
  show HX.wu j (HX.xO _)={HX.wu j X.xO with vH:=a,vW:=b};have:HX.xO {X with vH:=a,vW:=b}={X.xO with vH:=a,vW:=b}:=by
   unfold HX.xO;dsimp only;cases X.vC.getLast? with
   |none=>rfl
   |some c=>exact QO {X with vC:=X.vC.dropLast} c a b
  rw[this,Bc a b j X.xO]
theorem DW(W:WF X)(d:X.vH=a++[p])(b:Nat):WF {X with vH:=a,vW:=b}:=by
 have e:∀i,i∈a.map (·.2)++X.vC.flatMap BH->i∈X.rest:=λi h=>by
  unfold HX.rest;rw[d];rcases aB.mp h with q|q
  .exact aR _ (by rw[aL];exact aR _ q)
  .exact aN _ q
 refine{w:=W.w,u1:=λc i h=>?_,u2:=W.u2,uk:=W.uk,r1:=?_,r2:=λi h=>W.r2 i (e i h),ec:=W.ec,kk:=W.kk,md:=W.md,cl:=W.cl,dl:=W.dl,wl:=W.wl,dp:=W.dp,wb:=W.wb}
 .let⟨x,y,z⟩:=W.u1 c i h
  exact⟨x,y,λq=>z (e i q)⟩
 .refine W.r1.sublist ?_
  show List.Sublist (a.map (·.2)++X.vC.flatMap BH) (X.vH.map (·.2)++X.vC.flatMap BH);rw[d];exact List.Sublist.append (fJ _ (List.sublist_append_left _ _)) (List.Sublist.refl _)
theorem Rm(W:WF X)(d:X.vH=a++[p])(b:Nat):WF {X with vH:=a,vW:=b,v8:=p.2}/\VW {X with vH:=a,vW:=b,v8:=p.2}=⟨vw X,X.us p.2,(VW X).cs,(a.map λq=>(q.1,X.us q.2)).reverse⟩:=by
 have f:=DW W d b;have g:p.2∈X.rest:=by unfold HX.rest;rw[d];simp
 have j:p.2∉a.map (·.2)++X.vC.flatMap BH:=λq=>by
  have:=W.r1;unfold HX.rest at this;rw[d,aL,cY]at this;have k:=(d9 (a:=p.2) (l₁:=a.map (·.2)) (l₂:=X.vC.flatMap BH)).nodup_iff.mp this;exact(bx.mp k).1 q
 refine⟨{w:=(W.r2 _ g).1,u1:=λc i h=>?_,u2:=W.u2,uk:=W.uk,r1:=f.r1,r2:=λi h=>⟨(f.r2 i h).1,λe=>?_⟩,ec:=W.ec,kk:=W.kk,md:=W.md,cl:=W.cl,dl:=W.dl,wl:=W.wl,dp:=W.dp,wb:=W.wb},rfl⟩
 .let⟨x,y,z⟩:=f.u1 c i h
  exact⟨x,λe=>(W.u1 c i h).2.2 (e▸g),z⟩
 .have e:i=p.2:=e
  exact j (e▸h)
def Az(a:Yg)(f:Nat->Nat):Pt->Nat->(Bool->Nat)->Prop
 | .v b,c,v=>v b=c
 | .f p,c,v=>∃n k,n<a.length/\f n=c/\wC a n=(("f",[k]):Row)/\Az a f p (f k) v
 | .g p q,c,v=>∃n k l,n<a.length/\f n=c/\wC a n=(("g",[k,l]):Row)/\Az a f p (f k) v/\Az a f q (f l) v
theorem Az.congr:∀{p:Pt} {c:Nat},(∀b,p.has b=true->v b=o b)->Az i f p c v->Az i f p c o
 | .v b,c,h,m=>(h b (by simp[Pt.has])).symm.trans m
 | .f p,c,h,⟨n,k,a,b,d,e⟩=>⟨n,k,a,b,d,e.congr h⟩
 | .g p q,c,h,⟨n,k,l,a,b,d,e,g⟩=>⟨n,k,l,a,b,d,e.congr λx j=>h x (by simp[Pt.has,j]),g.congr λx j=>h x (by simp[Pt.has,j])⟩
theorem Az.xr(d:∀n,f (f n)=f n):∀{p:Pt} {c:Nat},Az o f p c v->f c=c->∀b,p.has b=true->f (v b)=v b
 | .v a,c,m,j,b,i=>by
  have:a=b:=by simpa[Pt.has]using i
  subst this;rw[show v a=c from m];exact j
 | .f p,c,⟨n,k,_,_,_,e⟩,j,b,i=>e.xr d (d k) b i
 | .g p q,c,⟨n,k,l,_,_,_,e,g⟩,j,b,i=>by
  rcases nI.mp (show(p.has b||q.has b)=true from i)with h|h
  .exact e.xr d (d k) b h
  .exact g.xr d (d l) b h
theorem Az.low(j:∀n,f n<=n)(o:∀n,n<i.length->∀k∈(wC i n).2,k+1<N):∀{p:Pt} {c:Nat},Az i f p c v->(p.yO=true->c+1<N)->∀b,p.has b=true->v b+1<N
 | .v a,c,m,s,b,r=>by
  have:a=b:=by simpa[Pt.has]using r
  subst this;rw[show v a=c from m];exact s rfl
 | .f p,c,⟨n,k,a,_,d,e⟩,s,b,r=>e.low j o (λ_=>by have:=o n a k (by rw[d];exact .head _);have:=j k;omega) b r
 | .g p q,c,⟨n,k,l,a,_,d,e,g⟩,s,b,r=>by
  rcases nI.mp (show(p.has b||q.has b)=true from r)with h|h
  .exact e.low j o (λ_=>by have:=o n a k (by rw[d];exact .head _);have:=j k;omega) b h
  .exact g.low j o (λ_=>by have:=o n a l (by rw[d];exact .tail _ (.head _));have:=j l;omega) b h
theorem I9(h:n<N):wC (a.take N) n=wC a n:=by
 unfold wC;simp only[ah];rw[List.getElem?_take_of_lt h]
def nU:=@I9
theorem Az.now(j:N<=vB.length)(i:∀n,∀k∈(wC vB n).2,k<n)(h:∀n,n<N->f (t n)=f n):∀{p:Pt} {c:Nat},Az (vB.take N) t p c v->Az vB f p (f c) λb=>f (v b)
 | .v a,c,m=>aU f m
 | .f p,c,⟨n,k,a,b,d,e⟩=>by
  rw[bU]at a;rw[nU (by omega)]at d;have o:=i n k (by rw[d];exact .head _);have:=e.now j i h;rw[h k (by omega)]at this;exact⟨n,k,by omega,by rw[<-b,h n (by omega)],d,this⟩
 | .g p q,c,⟨n,k,l,a,b,d,e,g⟩=>by
  rw[bU]at a;rw[nU (by omega)]at d;have o:=i n k (by rw[d];exact .head _);have u:=i n l (by rw[d];exact .tail _ (.head _));have r:=e.now j i h;have s:=g.now j i h;rw[h k (by omega)]at r;rw[h l (by omega)]at s;exact⟨n,k,l,by omega,by rw[<-b,h n (by omega)],d,r,s⟩
theorem Bo:∀p:Pt,1<=p.depth
 | .v _=>ao _
 | .f p=>by simp[Pt.depth]
 | .g p q=>by simp[Pt.depth]
theorem Az.old{R:Nat->Nat->Prop}(M:∀n,∀k∈(wC o n).2,k<n)(F:∀n,n<o.length->¬R 0 (f n)->n<N/\f0 n=f n)(T:∀j c,R j c->R (j+1) c)(P:∀j n,n<o.length->∀k∈(wC o n).2,R j (f k)->R (j+1) (f n)):∀{p:Pt} {c:Nat},Az o f p c v->¬R (p.depth-1) c->Az (o.take N) f0 p c v:=by
 have u:∀i j c,R i c->R (i+j) c:=λi j c h=>by
  induction j with
  |zero=>exact h
  |succ j G=>exact T _ _ G
 intro p;induction p with
 |v b=>exactλ{c} m _=>m
 |f p G=>
  rintro c ⟨n,k,a,b,d,e⟩ s;have s:¬R p.depth c:=by
   have:(Pt.f p).depth-1=p.depth:=by simp[Pt.depth]
   rw[this]at s;exact s
  have H:=Bo p;have a0:=M n k (by rw[d];exact .head _);have A:¬R 0 (f n):=λq=>s (by have:=u 0 p.depth c (b▸q);rwa[j4]at this);have E:¬R (p.depth-1) (f k):=λq=>s (by
   have:=P _ n a k (by rw[d];exact .head _) q;rw[vt H,b]at this;exact this)
  let⟨x,y⟩:=F n a A;let⟨z,w⟩:=F k (by omega) λq=>E (by have:=u 0 (p.depth-1) _ q;rwa[j4]at this);refine⟨n,k,by rw[bU];omega,by rw[y,b],by rw[nU x];exact d,?_⟩;rw[w];exact G e E
 |g p q I L=>
  rintro c ⟨n,k,l,a,b,d,e,g⟩ s;have s:¬R (max p.depth q.depth) c:=by
   have:(Pt.g p q).depth-1=max p.depth q.depth:=by simp[Pt.depth]
   rw[this]at s;exact s
  have H:=Bo p;have V:=Bo q;have A:¬R 0 (f n):=λC=>s (by have:=u 0 (max p.depth q.depth) c (b▸C);rwa[j4]at this);let⟨x,y⟩:=F n a A;have step:∀(r:Pt) t,1<=r.depth->r.depth<=max p.depth q.depth->t∈(wC o n).2->¬R (r.depth-1) (f t)/\f0 t=f t:=λr t W X Q=>by
   have S:¬R (r.depth-1) (f t):=λC=>s (by
    have:=P _ n a t Q C;rw[vt W,b]at this;have:=u _ (max p.depth q.depth-r.depth) _ this
    rwa[uF X]at this)
   have:=M n t Q;exact⟨S,(F t (by omega) λC=>S (by have:=u 0 (r.depth-1) _ C;rwa[j4]at this)).2⟩
  let⟨Y,k2⟩:=step p k H (Nat.le_max_left _ _) (by rw[d];exact .head _);let⟨l1,l2⟩:=step q l V (Nat.le_max_right _ _) (by rw[d];exact .tail _ (.head _));refine⟨n,k,l,by rw[bU];omega,by rw[y,b],by rw[nU x];exact d,?_,?_⟩
  .rw[k2];exact I e Y
  .rw[l2];exact L g l1
section
variable{X:HX}
theorem Se:x∈zo N l↔x<N/\x∈l:=by unfold zo;rw[aV,aZ,aM]
def iE:=@Se
theorem RO(W:WF X)(I:wm (vw X))(e:c<X.up.length):u∈X.Dy c↔u<X.up.length/\∃k∈(X.row u).2,X.vQ k=X.vQ c:=by
 let⟨i,d⟩:=gO I (fX I e) (c_ (vw X) c);have d:vJ X.vE (X.vQ c)=some i:=d;unfold HX.Dy;rw[iE,W.us d];have:=I.um (X.vQ c) (X.us i) (by rw[pK,d];rfl) u;constructor
 .rintro⟨a,b⟩;exact this.mp b
 .intro h;exact⟨h.1,this.mpr h⟩
structure RI(X:HX)(f s:X8):Prop where
 a:∀x∈s,x∈f
 b:∀x∈f,x∉s->∀u∈X.Dy x,X.vQ u∈f
theorem Gx(I:wm (vw X))(b:x∈s)(a:u∈X.Dy x):X.vQ u∈f++X.zg f s:=by
 by_cases q:X.vQ u∈f
 .exact aR _ q
 .refine aN _ (iE.mpr ⟨fX I (iE.mp a).1,aV.mpr ⟨b7.mpr ⟨x,b,b9 a⟩,by simpa using q⟩⟩)
theorem RI.next(I:wm (vw X))(h:RI X f s):RI X (f++X.zg f s) (X.zg f s):=
 ⟨λx c=>aN _ c,λx c e u d=>by
  rcases aB.mp c with q|q
  .by_cases z:x∈s
   .exact Gx I z d
   .exact aR _ (h.b x q z u d)
  .exact absurd q e⟩
theorem Gz:∀(k:Nat) (f s:X8) {x:Nat},x∈X.M1 k f s->x∈X.M1 (k+1) f s
 |0,f,s,x,h=>aR _ h
 |k+1,f,s,x,h=>Gz k (f++X.zg f s) (X.zg f s) h
theorem Nv(I:wm (vw X)):∀(k:Nat) (f s:X8) {x u:Nat},RI X f s->x∈X.M1 k f s->u∈X.Dy x->X.vQ u∈X.M1 (k+1) f s
 |0,f,s,x,u,h,b,a=>by
  show X.vQ u∈f++X.zg f s;by_cases z:x∈s
  .exact Gx I z a
  .exact aR _ (h.b x b z u a)
 |k+1,f,s,x,u,h,b,a=>Nv I k (f++X.zg f s) (X.zg f s) (h.next I) b a
theorem Dc(h:x∈X.xP a j):x∈X.xP a (j+1):=iE.mpr ⟨(iE.mp h).1,Gz _ _ _ (iE.mp h).2⟩
theorem Od(W:WF X)(I:wm (vw X))(a:n<X.up.length)(e:k∈(X.row n).2)(h:X.vQ k∈X.xP b j):X.vQ n∈X.xP b (j+1):=by
 have d:k<n:=I.kid n k e;have f:X.vQ k<X.up.length:=fX I (j5 d a);refine iE.mpr ⟨fX I a,Nv I j b b ⟨λx c=>c,λx c a=>absurd c a⟩ (iE.mp h).2 ((RO W I f).mpr ⟨a,k,e,(c_ (vw X) k).symm⟩)⟩
def Cr.CH(c:Cr)(N e x:Nat):Prop:=(∃n,N<=n/\n<c.vB.length/\c.vQ n=x)\/∃a∈c.vO,e<=a/\c.vQ (c.vF.getD a (0,0,.none)).1=x
theorem GG:x∈X.QB N e↔(vw X).CH N e x:=by
 unfold HX.QB Cr.CH;rw[aB,bD,aa,aa];constructor
 .rintro(⟨n,g,rfl⟩|⟨d,h,rfl⟩)
  .exact .inl ⟨N+n,by omega,by have:=aZ.mp g;show _<X.vB.length;omega,rfl⟩
  .let⟨a,b⟩:=aV.mp h
   exact .inr ⟨d,a,of_decide_eq_true b,rfl⟩
 .rintro(⟨n,f,c,rfl⟩|⟨d,f,c,rfl⟩)
  .have c:n<X.vB.length:=c
   refine .inl ⟨n-N,aZ.mpr (by omega),?_⟩;show X.vQ (N+(n-N))=X.vQ n;rw[uF f]
  .exact .inr ⟨d,aV.mpr ⟨f,kE c⟩,rfl⟩
theorem C_(i:∀x∈e,X.vQ x=x):∀(k:Nat) {x:Nat},x∈X.xP e k->X.vQ x=x:=by
 have g:∀k f s,(∀x∈f,X.vQ x=x)->∀x∈X.M1 k f s,X.vQ x=x:=λk=>by
  induction k with
  |zero=>exactλf s h x d=>h x d
  |succ k j=>
   intro f s h x d;refine j (f++X.zg f s) (X.zg f s) (λy l=>?_) x d;rcases aB.mp l with q|q
   .exact h y q
   .let⟨a,_⟩:=aV.mp (iE.mp q).2
    let⟨c,_,b⟩:=b7.mp a;obtain⟨u,_,rfl⟩:=aa.mp b;exact c_ (vw X) u
 exactλk x d=>g k e e i x (iE.mp d).2
theorem PZ(h:x∈X.chg N e):X.vQ x=x:=by
 rcases GG.mp (iE.mp h).2 with⟨n,_,_,rfl⟩|⟨a,_,_,rfl⟩
 .exact c_ (vw X) _
 .exact c_ (vw X) _
theorem ED(I:wm (vw X))(f:c<X.up.length)(d:X.vQ c=c):X.Nd c s↔∃n,n<X.vB.length/\X.vQ n=c/\s=X.sig n:=by
 have g:X.vB.length=X.up.length:=I.n1;unfold HX.Nd;rw[d,g];constructor
 .rintro⟨n,h,e⟩
  let⟨a,b⟩:=(I.lm c f d n).mp h;exact⟨n,a,b,e⟩
 .rintro⟨n,a,b,e⟩
  exact⟨n,(I.lm c f d n).mpr ⟨a,b⟩,e⟩
theorem JS:((c,l):Row)=X.sig n↔(X.row n).1=c/\(X.row n).2.map X.vQ=l:=by
 unfold HX.sig;rw[iQ];exact⟨λ⟨a,b⟩=>⟨a.symm,b.symm⟩,λ⟨a,b⟩=>⟨a.symm,b.symm⟩⟩
theorem Uj(I:wm (vw X))(b:n<X.vB.length)(a:k∈(X.row n).2):k<X.up.length:=by
 have c:X.vB.length=X.up.length:=I.n1;have:k<n:=I.kid n k a;omega
def r_:=@Uj
theorem zA(I:wm (vw X)):∀{p:Pt} {c:Nat},c<X.up.length->X.vQ c=c->(X.MV p c v↔Az X.vB X.vQ p c v)
 | .v b,c,_,_=>Iff.rfl
 | .f p,c,r,s=>by
  constructor
  .rintro⟨k,u,m⟩
   let⟨n,d,e,f⟩:=(ED I r s).mp u;let⟨e1,g⟩:=JS.mp f;obtain⟨a,o,w⟩:∃a,(X.row n).2=[a]/\X.vQ a=k:=by
    match h:(X.row n).2,g with
    |[a],g=>exact⟨a,rfl,by simpa using g⟩
   have i:=r_ I d (k:=a) (by rw[o];exact .head _);rw[<-w]at m;exact⟨n,a,d,e,gr e1 o,(zA I (fX I i) (c_ (vw X) _)).mp m⟩
  .rintro⟨n,k,d,e,f,m⟩
   have i:=r_ I d (k:=k) (by rw[show X.row n=_ from f];exact .head _);refine⟨X.vQ k,(ED I r s).mpr ⟨n,d,e,JS.mpr ?_⟩,(zA I (fX I i) (c_ (vw X) _)).mpr m⟩;rw[show X.row n=_ from f];exact⟨rfl,rfl⟩
 | .g p q,c,r,s=>by
  constructor
  .rintro⟨k,l,u,m,t⟩
   let⟨n,d,e,f⟩:=(ED I r s).mp u;let⟨e1,g⟩:=JS.mp f;obtain⟨a,j,o,w,y⟩:∃a j,(X.row n).2=[a,j]/\X.vQ a=k/\X.vQ j=l:=by
    match h:(X.row n).2,g with
    |[a,j],g=>exact⟨a,j,rfl,by simpa using g⟩
   have i:=r_ I d (k:=a) (by rw[o];exact .head _);have x:=r_ I d (k:=j) (by rw[o];exact .tail _ (.head _));rw[<-w]at m;rw[<-y]at t;exact⟨n,a,j,d,e,gr e1 o,(zA I (fX I i) (c_ (vw X) _)).mp m,(zA I (fX I x) (c_ (vw X) _)).mp t⟩
  .rintro⟨n,k,l,d,e,f,m,t⟩
   have i:=r_ I d (k:=k) (by rw[show X.row n=_ from f];exact .head _);have x:=r_ I d (k:=l) (by rw[show X.row n=_ from f];exact .tail _ (.head _));refine⟨X.vQ k,X.vQ l,(ED I r s).mpr ⟨n,d,e,JS.mpr ?_⟩,(zA I (fX I i) (c_ (vw X) _)).mpr m,(zA I (fX I x) (c_ (vw X) _)).mpr t⟩;rw[show X.row n=_ from f];exact⟨rfl,rfl⟩
end
structure DF(vB:Yg)(L:X8)(f:Nat->Nat):Prop where
 len:L.length=vB.length
 eq:∀i,i<vB.length->wV L i=f i
 id:∀i,f (f i)=f i
 le:∀i,f i<=i
 k:∀n,n<vB.length->∀k∈(wC vB n).2,k<n
 c:∀n m,n<vB.length->m<vB.length->(wC vB n).1=(wC vB m).1->(wC vB n).2.map f=(wC vB m).2.map f->f n=f m
theorem DF.sig(S:DF a L f)(b:n<a.length):yf L (wC a n)=((wC a n).1,(wC a n).2.map f):=by
 unfold yf;rw[aK λk d=>S.eq k (by have:=S.k n b k d;omega)]
theorem Mn(S:DF g L f):vJ (za g L) s=some c↔∃n,n<g.length/\yf L (wC g n)=s/\f n=c:=by
 have j:∀N,N<=g.length->∀c,vJ ((List.range N).foldl (λh n=>wJ h (yf L (g.getD n (default,[]))) (wV L n)) []) s=some c↔∃n,n<N/\yf L (wC g n)=s/\f n=c:=λN=>by
  induction N with
  |zero=>intro _ c;simp[vJ]
  |succ N k=>
   intro o c;rw[iU,gv,dg,List.foldl_nil,fS];have l:yf L (g.getD N (default,[]))=yf L (wC g N):=rfl;rw[l];by_cases e:s=yf L (wC g N)
   .rw[B e]
    constructor
    .intro h;exact⟨N,by omega,e.symm,by rw[<-S.eq N (by omega)];exact dI h⟩
    .rintro⟨n,p,i,m⟩
     rw[e,S.sig (by omega),S.sig (by omega)]at i;rw[S.eq N (by omega),<-m,S.c n N (by omega) (by omega) (aU (·.1) i) (aU (·.2) i)]
   .rw[J e,k (by omega)]
    constructor
    .rintro⟨n,a,b⟩;exact⟨n,by omega,b⟩
    .rintro⟨n,a,b,d⟩
     refine⟨n,?_,b,d⟩;by_cases z:n=N
     .rw[z]at b;exact absurd b.symm e
     .omega
 exact j _ (ao _) c
def rT:=@Mn
theorem ym(S:DF i L f):∀{p:Pt} {c:Nat},w6 (za i L) p v=some c↔Az i f p c v
 | .v b,c=>by
  show some (v b)=some c↔v b=c;rw[fu]
 | .f p,c=>by
  show((w6 (za i L) p v).bind λk=>vJ (za i L) ("f",[k]))=some c↔_;rw[dU];constructor
  .rintro⟨k,o,r⟩
   let⟨n,a,b,d⟩:=(rT S).mp r;rw[S.sig a,iQ]at b;obtain⟨j,s,t⟩:∃j,(wC i n).2=[j]/\f j=k:=by
    match h:(wC i n).2,b.2 with
    |[j],u=>exact⟨j,rfl,by simpa using u⟩
   rw[<-t]at o;exact⟨n,j,a,d,gr b.1 s,(ym S).mp o⟩
  .rintro⟨n,k,a,b,d,e⟩
   exact⟨f k,(ym S).mpr e,(rT S).mpr ⟨n,a,by rw[S.sig a,d];rfl,b⟩⟩
 | .g p q,c=>by
  show((w6 (za i L) p v).bind λk=>(w6 (za i L) q v).bind λl=>vJ (za i L) ("g",[k,l]))=some c↔_;rw[dU];constructor
  .rintro⟨k,o,r⟩
   let⟨l,w,x⟩:=dU.mp r;let⟨n,a,b,d⟩:=(rT S).mp x;rw[S.sig a,iQ]at b;obtain⟨j,m,s,t,y⟩:∃j m,(wC i n).2=[j,m]/\f j=k/\f m=l:=by
    match h:(wC i n).2,b.2 with
    |[j,m],u=>exact⟨j,m,rfl,by simpa using u⟩
   rw[<-t]at o;rw[<-y]at w;exact⟨n,j,m,a,d,gr b.1 s,(ym S).mp o,(ym S).mp w⟩
  .rintro⟨n,k,l,a,b,d,e,g⟩
   exact⟨f k,(ym S).mpr e,dU.mpr ⟨f l,(ym S).mpr g,(rT S).mpr ⟨n,a,by rw[S.sig a,d];rfl,b⟩⟩⟩
def rU:=@ym
theorem Ea{j:X8}:∀(k:Yj) (f:Ym) {t:Tb},t∈k.foldl (λf b=>f.flatMap λt=>j.map λc=>t++[(b,c)]) f↔∃g∈f,∃a,t=g++a/\a.map (·.1)=k/\∀q∈a,q.2∈j
 |[],f,t=>by
  constructor
  .intro h;exact⟨t,h,[],by simp,rfl,λq d=>(nomatch d)⟩
  .rintro⟨g,h,a,rfl,e,_⟩
   have:a=[]:=by simpa using e
   rw[this,d7];exact h
 |b::k,f,t=>by
  rw[dg,Ea k];constructor
  .rintro⟨g,l,a,rfl,e,i⟩
   let⟨n,o,p⟩:=b7.mp l;obtain⟨c,r,rfl⟩:=aa.mp p;refine⟨n,o,(b,c)::a,by simp,by rw[bF,e],λq d=>?_⟩;rcases aG.mp d with rfl|d
   .exact r
   .exact i q d
  .rintro⟨g,l,a,rfl,e,i⟩
   match a,e,i with
   |(m,c)::a,e,i=>
    rw[bF,pX]at e;let⟨e1,s⟩:=e;have e1:m=b:=e1;subst e1;exact⟨g++[(m,c)],b7.mpr ⟨g,l,aa.mpr ⟨c,i _ (.head _),rfl⟩⟩,a,by simp,s,λq d=>i q (.tail _ d)⟩
theorem GF:t∈FZ a b↔t.map (·.1)=b/\∀q∈t,q.2∈a:=by
 unfold FZ;rw[Ea];constructor
 .rintro⟨c,h,d,rfl,e⟩
  rw[aj.mp h];exact e
 .intro h;exact⟨[],.head _,t,rfl,h⟩
theorem OV:m∈zp N p↔m.1<N/\m.2.map (·.1)=p.vs/\∀q∈m.2,q.2<N:=by
 unfold zp;rw[b7];constructor
 .rintro⟨c,d,h⟩
  obtain⟨t,e,rfl⟩:=aa.mp h;exact⟨aZ.mp d,iP.mp e⟩
 .rintro⟨a,b⟩
  exact⟨m.1,aZ.mpr a,aa.mpr ⟨m.2,iP.mpr b,rfl⟩⟩
def ku:=@OV
theorem OR(S:DF d L f)(n:m∈zp d.length p):m∈A8 d L p↔(∀q∈m.2,f q.2=q.2)/\Az d f p m.1 (val m.2):=by
 let⟨u,o,k⟩:=ku.mp n;unfold A8;rw[vp];have hd:∀x,x<d.length->(x∈zo d.length L↔f x=x):=λx j=>by
  rw[iE];constructor
  .rintro⟨_,h⟩
   obtain⟨i,l,rfl⟩:=bS h;have:wV L i=L[i]:=by unfold wV;rw[ah,au l];rfl
   rw[<-this,S.eq i (by rw[<-S.len];exact l)];exact S.id i
  .intro h
   refine⟨j,?_⟩;have:=nq (L:=L) (i:=x) (by rw[S.len];exact j);rw[S.eq x j,h]at this;exact this
 constructor
 .rintro⟨t,r,e⟩
  obtain⟨c,s,rfl⟩:=bu.mp e;exact⟨λq g=>(hd q.2 (k q g)).mp ((GF.mp r).2 q g),(rU S).mp s⟩
 .rintro⟨a,b⟩
  exact⟨m.2,GF.mpr ⟨o,λq g=>(hd q.2 (k q g)).mpr (a q g)⟩,by rw[(rU S).mpr b];rfl⟩
def qC:=@OR
theorem VP(p:Pt):p.vs.Nodup:=by
 unfold Pt.vs;exact(by decide:[false,true].Nodup).filter _
theorem val_eq{p:Pt}(h:t.map (·.1)=p.vs)(a:q∈t):val t q.1=q.2:=by
 unfold val;rw[K_ (by rw[h];exact VP p) a];rfl
def uO:=@val_eq
theorem Np{p:Pt}(h:t.map (·.1)=p.vs)(c:p.has b=true):(b,val t b)∈t:=by
 have:b∈t.map (·.1):=by rw[h];exact kX.mpr c
 obtain⟨q,a,rfl⟩:=aa.mp this;rw[uO h a];exact a
theorem ER{p:Pt}{t:Tb}(h:t.map (·.1)=p.vs)(a:q∈t):p.has q.1=true:=kX.mp (by rw[<-h];exact b9 a)
theorem NS{p:Pt}(g:Nat->Nat)(h:t.map (·.1)=p.vs)(a:p.has b=true):val (t.map λq=>(q.1,g q.2)) b=g (val t b):=by
 have c:(t.map λq=>(q.1,g q.2)).map (·.1)=p.vs:=by rw[bD];exact h
 exact uO c (q:=(b,g (val t b))) (aa.mpr ⟨(b,val t b),Np h a,rfl⟩)
theorem OY(i:∀n,f (f n)=f n){p:Pt}{m:Mt}(h:m.2.map (·.1)=p.vs)(o:∀q∈m.2,f q.2=q.2)(c:Az j f p m.1 (val m.2)):f m.1=m.1:=by
 cases p with
 |v b=>
  have:val m.2 b=m.1:=c;rw[<-this];exact o _ (Np h (by simp[Pt.has]))
 |f p=>let⟨n,k,a,b,d,e⟩:=c;rw[<-b];exact i n
 |g p q=>let⟨n,k,l,a,b,d,e⟩:=c;rw[<-b];exact i n
theorem OX(c:∀n,f (f n)=f n){p:Pt}{m:Mt}(h:m.2.map (·.1)=p.vs)(d:f m.1=m.1)(e:Az b f p m.1 (val m.2)):∀q∈m.2,f q.2=q.2:=λq a=>by
 have:=e.xr c d q.1 (ER h a);rw[uO h a]at this;exact this
def xw(c:Cr)(N e:Nat)(S:Yl)(p:Pt):Prop:=
 N<=c.vB.length/\e<=c.vF.length/\∃a:Nat->Nat,(∀n,n<N->a n<N/\c.vQ (a n)=c.vQ n/\a (a n)=a n)/\(∀n,n<c.vB.length->c.CH N e (c.vQ n)\/(n<N/\a n=c.vQ n))/\
  ∀m,m∈S↔m∈zp N p/\(∀q∈m.2,a q.2=q.2)/\Az (c.vB.take N) a p m.1 (val m.2)
theorem D4(c:Cr)(p:Pt):xw c 0 0 [] p:=⟨bB _,bB _,λn=>n,λn h=>absurd h (by omega),λn a=>.inl (.inl ⟨n,bB _,a,rfl⟩),λm=>⟨λh=>(nomatch h),λ⟨h,_⟩=>absurd (ku.mp h).1 (by omega)⟩⟩
theorem CH.keep{c f:Cr}{g:Nat->Nat}(j:∀n,n<c.vB.length->f.vQ n=g (c.vQ n))(k:c.vB.length<=f.vB.length)(l:c.vB.length=c.up.length)(i:∀d∈c.vO,d∈f.vO/\f.vF.getD d (0,0,.none)=c.vF.getD d (0,0,.none))(I:wm c)(h:c.CH N e x):f.CH N e (g x):=by
 rcases h with⟨n,a,b,rfl⟩|⟨d,a,b,rfl⟩
 .exact .inl ⟨n,a,by omega,j n b⟩
 .let⟨u,v⟩:=i d a
  refine .inr ⟨d,u,b,?_⟩;have m:(c.vF.getD d (0,0,.none)).1<c.up.length:=by
   have:=I.fe d a;rw[ah,au this];exact I.ee _ (bT this)
  rw[v];exact j _ (by omega)
theorem xw.step{d c:Cr}(I:wm d)(st:A6 d W c)(X:∀k m g l,W= .wY k m g l->k<=g/\∀j,j=d.vF.length->k≠g->c.vQ (c.vF.getD j (0,0,.none)).1=k){N e:Nat}(h:xw d N e S p):xw c N e S p:=by
 let⟨A,C,E,v,F,G⟩:=h;have R:=I.n1;cases st with
 |made r Y=>
  have f:=mW I r;have el:(d.grow r).vB.length=d.vB.length+1:=by simp[Cr.grow]
  refine⟨by omega,C,E,λn i=>by rw[f,f];exact v n i,λn i=>?_,λm=>?_⟩
  .by_cases q:n<d.vB.length
   .rw[f]
    refine(F n q).imp (λz=>?_) id;exact CH.keep (g:=id) (λn _=>f n) (by omega) R (λj u=>⟨u,rfl⟩) I z
   .exact .inl (.inl ⟨n,by omega,i,rfl⟩)
  .rw[G m]
   have:(d.grow r).vB.take N=d.vB.take N:=by
    show(d.vB++[r]).take N=_;rw[jP A]
   rw[this]
 |vR s m u=>exact⟨A,C,E,v,F,G⟩
 |wY a b r k g Y hg H L=>
  let⟨M,P⟩:=X _ _ _ _ rfl;have f:=uL I (a:=a) (b:=b) (r:=r) hg H L M;have o:(d.jn a b r k g).vB=d.vB:=by unfold Cr.jn;split<;>rfl
  have w:(d.jn a b r k g).vF=d.vF++[(a,b,r)]:=by unfold Cr.jn;split<;>rfl
  have Q:∀j∈d.vO,j∈(d.jn a b r k g).vO/\(d.jn a b r k g).vF.getD j (0,0,.none)=d.vF.getD j (0,0,.none):=λj u=>by
   refine⟨by
    unfold Cr.jn;split
    .exact u
    .exact aR _ u,?_⟩
   rw[w,ah,aY (I.fe j u),<-ah]
  refine⟨by rw[o];exact A,by rw[w,aF];omega,E,λn i=>⟨(v n i).1,by rw[f,f,(v n i).2.1],(v n i).2.2⟩,λn i=>?_,λm=>by rw[o];exact G m⟩;rw[o]at i;rcases F n i with z|⟨T,V⟩
  .left
   rw[f];exact CH.keep (g:=λx=>if x=g then k else x) (λn _=>f n) (by rw[o];exact ao _) R Q I z
  .by_cases q:d.vQ n=g\/d.vQ n=k
   .by_cases t:k=g
    .right
     refine⟨T,?_⟩;rw[f,V];split
     .rename_i e1;rw[e1,t]
     .rfl
    .left
     have:(d.jn a b r k g).vQ n=k:=by
      rw[f];rcases q with q|q
      .rw[B q]
      .rw[J (by omega),q]
     rw[this];refine .inr ⟨d.vF.length,?_,C,P _ rfl t⟩;unfold Cr.jn;rw[J t];exact aN _ (.head _)
   .right
    refine⟨T,?_⟩;rw[f,J λy=>q (.inl y)];exact V
def uq:=@xw.step
theorem KH(x:AX)(I:wm x.cr)(o:a<x.cr.up.length)(s:b<x.cr.up.length)(h:xw x.cr N e S p):xw (x.join a b r).cr N e S p:=by
 let⟨t,n,c,d,f,i⟩:=JW x I o s;refine uq I (A6.wY x.cr a b r _ _ t n c d) (λk m g l q=>?_) h;cases q;refine⟨f,λz w y=>?_⟩;have j:(x.cr.jn a b r (x.kp a b) (x.gn a b)).vF=x.cr.vF++[(a,b,r)]:=by unfold Cr.jn;split<;>rfl
 rw[j,w];have:(x.cr.vF++[(a,b,r)]).getD x.cr.vF.length (0,0,.none)=(a,b,r):=by simp
 rw[this,uL I n c d f];rcases i with⟨u,v⟩|⟨u,v⟩
 .rw[u,J y]
 .rw[u,B rfl]
theorem Ec(x:AX)(I:wm x.cr)(b:n<x.cr.up.length)(h:xw x.cr N e S p):xw (x.look n).cr N e S p:=by
 unfold AX.look;split
 .rename_i o a
  split
  .exact h
  .exact KH x I (I.kn _ _ a).1 b h
 .rename_i a
  exact uq I (A6.vR x.cr _ n a) (λ_ _ _ _ q=>nomatch q) h
theorem Mq(x:AX)(I:wm x.cr)(a:∀k∈r.2,k<x.cr.up.length)(h:xw x.cr N e S p):xw (x.grow r).cr N e S p:=uq I (A6.made x.cr r a) (λ_ _ _ _ q=>nomatch q) h
theorem SN(a:i<L.length):wV (xd L p) i=if wV L i=max (wV L p.1) (wV L p.2)then min (wV L p.1) (wV L p.2)else wV L i:=by
 unfold wV xd;simp only[ah,a_,au a]
 rfl
def qj:=@SN
theorem Bf(a:Yg)(L:X8):∀k,∀n,n<k->∃m,vJ (zY a L k).1 (yf L (wC a n))=some m/\(wV L m=wV L n\/(m,n)∈(zY a L k).2)
 |0=>λn h=>absurd h (by omega)
 |k+1=>λn h=>by
  have i:=Bf a L k;rw[u6];generalize zY a L k=s at*;have j:∀l (g t:Row) (v u:Nat),vJ l t=some u->vJ (l++[(g,v)]) t=some u:=λl g t v u e=>by
   unfold vJ at*;rw[oR];cases q:l.find? λp=>decide (p.1=t)with
   |none=>rw[q]at e;cases e
   |some z=>rw[q]at e;exact e
  unfold Cm;dsimp only;split
  .rename_i m b
   by_cases e:n=k
   .subst e
    refine⟨m,b,?_⟩;by_cases q:wV L m=wV L n
    .exact .inl q
    .right;rw[J q];simp
   .let⟨c,d,f⟩:=i n (by omega)
    refine⟨c,d,f.imp id λq=>?_⟩;split
    .exact q
    .exact aR _ q
  .rename_i b
   by_cases e:n=k
   .subst e
    refine⟨n,?_,.inl rfl⟩;unfold vJ at*;rw[oR];rw[d_]at b;show((List.find? (λp=>decide (p.1=yf L (a.getD n (default,[])))) s.1).or _).map _=_;rw[b];simp[wC]
   .let⟨c,d,f⟩:=i n (by omega)
    exact⟨c,j _ _ _ _ _ d,f⟩
structure LI(vB:Yg)(ps:Yi)(L:X8)(W:Yi):Prop where
 len:L.length=vB.length
 le:∀i,i<vB.length->wV L i<=i
 sd:∀f,DB vB ps f->∀i,i<vB.length->f (wV L i)=f i
 ws:∀q∈W,q.1<vB.length/\q.2<vB.length/\∀f,DB vB ps f->f q.1=f q.2
 td:∀q∈ps,wV L q.1=wV L q.2\/q∈W
 fi:W=[]->∀n m,n<vB.length->m<vB.length->yf L (wC vB n)=yf L (wC vB m)->wV L n=wV L m
theorem LI.low(l:∀q∈h,q.1<c.length/\q.2<c.length):∀(W:Yi) {L:X8},L.length=c.length->(∀i,i<c.length->wV L i<=i)->(∀f,DB c h f->∀i,i<c.length->f (wV L i)=f i)->(∀q∈W,q.1<c.length/\q.2<c.length/\∀f,DB c h f->f q.1=f q.2)->(∀q∈h,wV L q.1=wV L q.2\/q∈W)->(∀i,i<c.length->wV (W.foldl xd L) i<=i)/\(∀f,DB c h f->∀i,i<c.length->f (wV (W.foldl xd L) i)=f i)/\(∀q∈h,wV (W.foldl xd L) q.1=wV (W.foldl xd L) q.2)
 |[],L,r,j,d,n,o=>⟨j,d,λq g=>(o q g).resolve_right (by simp)⟩
 |p::W,L,r,j,d,n,o=>by
  let⟨s,t,u⟩:=n p (.head _);have v:=j _ s;have w:=j _ t;refine LI.low l W (L:=xd L p) (rR.trans r) (λi m=>?_) (λf k i m=>?_) (λq g=>n q (.tail _ g)) λq g=>?_
  .rw[qj (by omega)]
   have:=j i m;split<;>omega
  .rw[qj (by omega)]
   split
   .rename_i e
    have a:=d f k _ s;have b:=d f k _ t;rw[<-d f k i m,e];have:=u f k;rcases iJ (wV L p.1) (wV L p.2)with q|q
    .rw[iV q,gQ q,a,b,this]
    .rw[iL q,g_ q,a,b,this]
   .exact d f k i m
  .let⟨x,y⟩:=l q g
   rcases o q g with e|e
   .left;rw[qj (by omega),qj (by omega),e]
   .rcases aG.mp e with rfl|e
    .left
     rw[qj (by omega),qj (by omega)];rcases iJ (wV L q.1) (wV L q.2)with z|z
     .rw[iV z,gQ z,B rfl]
      split<;>omega
     .rw[iL z,g_ z,B rfl]
      split<;>omega
    .exact .inr e
theorem LI.step(o:∀q∈r,q.1<d.length/\q.2<d.length)(x:∀n,∀k∈(wC d n).2,k<d.length)(h:LI d r L W):LI d r (W.foldl xd L) (scan d (W.foldl xd L)).2:=by
 let⟨a,b,c⟩:=LI.low o W h.len h.le h.sd h.ws h.td;have y:(W.foldl xd L).length=d.length:=(tV _ _).trans h.len;generalize W.foldl xd L=M at*;refine⟨y,a,b,λq l=>?_,λq l=>.inl (c q l),λe n m z A C=>?_⟩
 .let⟨u,v,_,s⟩:=(tW d M d.length).w q l
  refine⟨u,v,λf t=>t.c _ _ u v ?_ ?_⟩
  .exact aU (·.1) s
  .have E:(wC d q.1).2.map (wV M)=(wC d q.2).2.map (wV M):=aU (·.2) s
   have g:∀n,(wC d n).2.map f=((wC d n).2.map (wV M)).map f:=λn=>by
    rw[bD];exact aK λk p=>(b f t k (x n k p)).symm
   rw[g,g q.2,E]
 .let⟨G,w,i⟩:=Bf d M d.length n z
  let⟨H,F,j⟩:=Bf d M d.length m A;have e:(zY d M d.length).2=[]:=e;rw[e]at i j;rw[C,F]at w;cases w;have i:=i.resolve_right (by simp);have j:=j.resolve_right (by simp);rw[<-i,j]
theorem LI.end(e:∀q∈c,q.1<a.length/\q.2<a.length)(d:∀n,∀k∈(wC a n).2,k<a.length):∀(n:Nat) {L:X8} {W:Yi},zM a c n L W->LI a c L W->LI a c (xx a c) []:=by
 intro n;induction n with
 |zero=>
  intro L W h I;by_cases b:W=[]
  .subst b;have:=h.fin;subst this;exact I
  .let⟨k,d,_⟩:=h.step b;cases d
 |succ n g=>
  intro L W h I;by_cases b:W=[]
  .subst b;have:=h.fin;subst this;exact I
  .let⟨k,f,i⟩:=h.step b
   cases f;exact g i (I.step e d)
theorem Jv(s:a.Nodup)(b:∀q∈o,q.1<a.length/\q.2<a.length)(p:∀n,∀k∈(wC a n).2,k<a.length):LI a o (xx a o) []:=by
 have h:∀i,i<a.length->wV (List.range a.length) i=i:=λi c=>by unfold wV;simp[ah,gJ c]
 refine LI.end b p _ (Ir b) ⟨by simp,λi c=>by rw[h i c];exact ao _,λf r i c=>by rw[h i c],λq d=>⟨(b q d).1,(b q d).2,λf r=>r.t q d⟩,λq d=>.inr d,λ_ n m j t g=>?_⟩;have e:∀n,yf (List.range a.length) (wC a n)=wC a n:=λn=>by
  unfold yf;rw[aK (g:=id) λk l=>h k (p n k l),iZ]
 rw[e,e]at g;unfold wC at g;rw[ah,ah,au j,au t]at g;rw[(jB s).mp g]
theorem settled(I:wm c)(S:yL c e []):∀i,i<c.up.length->wV (xx c.vB e) i=c.vQ i:=by
 have l:∀n,∀k∈(wC c.vB n).2,k<c.vB.length:=λn k d=>by
  have r:k<n:=I.kid n k d;by_cases q:n<c.vB.length
  .omega
  .have:c.row n=(default,[]):=I.Rb (by rw[<-I.n1];omega)
   rw[show wC c.vB n=c.row n from rfl,this]at d;cases d
 have f:=Jv I.nd (λq s=>by rw[I.n1];exact S.pb q s) l;generalize xx c.vB e=L at*;have t:DB c.vB e (wV L):=⟨λp u=>(f.td p u).resolve_right (by simp),λn m g h a b=>f.fi rfl n m g h (gr a b)⟩;have v:DB c.vB e c.vQ:=⟨S.zU,λn m g h a b=>by
  rw[I.n1]at g h;let⟨o,e1,w⟩:=(S.cm n g).resolve_left (by simp);let⟨z,x,y⟩:=(S.cm m h).resolve_left (by simp);have:c.sig n=c.sig m:=gr a b;rw[this,x]at e1;cases e1;rw[<-w,y]⟩
 intro i j;have r:=f.sd _ v i (by rw[I.n1];exact j);have A:=S.sd _ t i;have C:=f.le (c.vQ i) (by rw[I.n1];exact fX I j);have E:=uK c (wV L i);omega
structure LN where
 w:Nat
 vB:Nat
 v7:Nat
 v_:Nat
 wz:Nat
abbrev yV(h b:Nat)(a:LN):Yr:=[("heap",.ref h),("changes",.ref b),("rows",.ref a.vB),("pairs",.ref a.v7),("levels",.ref a.v_),("seen",.ref a.wz)]
def y_(l:List (Pt×List Mt)):Yh:=zc Pt.enc (λa:Yl=>.vK (a.map vZ)) l
def Qm(h b:Nat)(a:LN)(Y:LX):List (Nat×wQ):=[(a.w,.wc (sD (yV h b a))),(a.vB,.vK (Y.vB.map vP)),(a.v7,.vK (Y.v7.map xB)),(a.v_,.vK (Y.v_.map xB)),(a.wz,.wc (y_ Y.wz))]
abbrev WS(c:St)(a:Yv)(X:HX)(b:S9)(C:CX)(d:LN)(Y:LX)(R:List (Nat×wQ)):Prop:=HL c a X (Qm (a .heap) b.ch d Y++(zH (a .heap) b C++R))
theorem WS.wd(H:WS b c X d C a Y R):b.μ a.w=some (.wc (sD (yV (c .heap) d.ch a))):=H.at (by simp[Qm])
theorem WS.vB(H:WS a c X d C b Y R):a.μ b.vB=some (.vK (Y.vB.map vP)):=H.at (by simp[Qm])
theorem WS.v7(H:WS a c X d C b Y R):a.μ b.v7=some (.vK (Y.v7.map xB)):=H.at (by simp[Qm])
theorem WS.v_(H:WS a c X d C b Y R):a.μ b.v_=some (.vK (Y.v_.map xB)):=H.at (by simp[Qm])
theorem WS.wz(H:WS a c X d C b Y R):a.μ b.wz=some (.wc (y_ Y.wz)):=H.at (by simp[Qm])
theorem PE.wo(H:WS c e X f C b Y R)(h:we m A)(i:a.scope=S)(j:look S.names k x=some (.ref b.w))(l:(y,d)∈yV (e .heap) f.ch b):PE w A a k c (eval (.Subscript (.Name x p) (.Constant (.str y) n q) o) a) d:=PE.sD h (O i j) (.m H.wd) l
def jr:=@PE.wo
def Ng:Fd 613:=⟨_,rfl⟩
theorem Ux{w:Yz}:wK w 613 Ng.1 ["world"]:=.ok Ng
theorem Wo{w:Yz}:nsIn (KF w) mainGlobals "_law_taken_back"=some (some (.ref 613)):=by kernel_rfl
def Gb:Fd 599:=⟨_,rfl⟩
theorem UL{w:Yz}:wK w 599 Gb.1 ["world","pattern","is_whole"]:=.ok Gb
theorem Tt{w:Yz}:nsIn (KF w) mainGlobals "_law_asked_right"=some (some (.ref 599)):=by kernel_rfl
def Cs:Fd 606:=⟨_,rfl⟩
theorem RE{w:Yz}:wK w 606 Cs.1 ["world","op","kids"]:=.ok Cs
theorem U_{w:Yz}:nsIn (KF w) mainGlobals "_law_added_right"=some (some (.ref 606)):=by kernel_rfl
section
variable{Good:Nat->HX->CX->LX->Prop}
theorem V5:zW "f":=⟨Ut,by decide+kernel,⟨_,by rfl,by decide+kernel⟩,by decide+kernel⟩
theorem V4:zW "g":=⟨Us,by decide+kernel,⟨_,by rfl,by decide+kernel⟩,by decide+kernel⟩
theorem Qe(V:Laws Good m)(I:k<20)(G:Good k X C Y)(h7:Y.vB.length<=7)(S:(∃a,r=(("f",[a]):Row)/\a<Y.vB.length)\/∃a b,r=(("g",[a,b]):Row)/\a<Y.vB.length/\b<Y.vB.length)(H:WS T nm X L C u Y R):CF w 18 (.ref 606) [.ref u.w,.str r.1,.vV (vG r.2)] T λd g=>d= .bool true/\∃X' C' Y' l a0 N,N.w=u.w/\l .heap=nm .heap/\Good (k+1) X' C' Y'/\WS g l X' a0 C' N Y' R:=by
 have f:=V.TL G;let⟨b0,G2⟩:=V.add I G h7 S;have hP:zW r.1:=by rcases S with⟨a,rfl,_⟩|⟨a,b,rfl,_⟩;exact V5;exact V4
 have t:(∀k∈r.2,k<X.up.length)/\r.2.length<=2:=by
  have e:=f.O.n;rw[f.r]at S;rcases S with⟨a,rfl,h⟩|⟨a,b,rfl,M,W⟩
  .exact⟨λk I=>by rw[aj.mp I];omega,by simp⟩
  .exact⟨λk I=>by simp at I;omega,by simp⟩
 refine nQ RE λA P n he=>?_;have p:=he.scope;have hA:=n.handled;let y:D:=.vV (vG r.2);let c0:Md:=[vr "world" (.ref u.w),vr "op" (.str r.1),vr "kids" y];let F:Md:=vr "n" (.int (X.zq r))::c0;have hE:=f.r;have hn:=f.O.n;have hz:=f.rl;have e0:=t.2;apply aq (M:=λj g=>j=F/\∃l,l .heap=nm .heap/\WS g l (X.add r) L C u Y R) (fC p rfl (cU (jr H n p rfl (.head _)) (H.1.get .heap _ rfl) (H.1.get .wN _ rfl) Tp rfl Ge.2 n (eZ (bE rfl rfl (O p rfl) (O p rfl)) (((NL f.O f.Z hP t.1 t.2 b0) T nm _ H.1).room (by omega) |>.mono λd g ⟨e,l,ag,H'⟩=>by subst e;exact⟨rfl,l,ag .heap rfl,by unfold WS;rw[ag .heap rfl];exact⟨H',H.2⟩⟩))));rintro j f0 ⟨rfl,v,eh,E⟩;let o:LX:={Y with vB:=if r∈Y.vB then Y.vB else Y.vB++[r]};have z:∀{md} {T} {p1 p2 p3 p4} {kk},look Cs.1.scope.names md "op"=some (.str r.1)->look Cs.1.scope.names md "kids"=some y->PE w A P md T (eval (.BinOp (.Tuple [.Name "op" p1] kk p2) .Add (.Name "kids" p3) p4) P) (vP r):=λM W=>cI (bK (bq rfl (O p M)) (by simp)) (O p W) (qy (by simp[vG];omega));have eN:(X.zq r=Y.vB.length↔r∉Y.vB)/\X.zq r<o.vB.length/\o.vB.getD (X.zq r) (default,[])=r:=by
  have ex:X.zq r=(Y.vB.findIdx? λs=>decide (s=r)).getD Y.vB.length:=by rw[hE];rfl
  rw[ex];by_cases c:r∈Y.vB
  .obtain⟨i,hi⟩:∃i,Y.vB.findIdx? (λs=>decide (s=r))=some i:=aT.mp (by rw[List.findIdx?_isSome,List.any_eq_true];exact⟨r,c,by simp⟩)
   let⟨M,W,_⟩:=jc.mp hi;simp only[o,hi,B c,jz];refine⟨⟨λe=>by omega,λh=>absurd c h⟩,M,?_⟩;rw[ah,au M];simpa using W
  .have hi:Y.vB.findIdx? (λs=>decide (s=r))=none:=gk.mpr λx hx=>by simpa usingλe:x=r=>c (e▸hx)
   simp only[o,hi,J c,Option.getD_none];exact⟨by simp[c],by simp,by simp⟩
 refine aq (M:=λj g=>j=F/\WS g v (X.add r) L C u o R) (dH (bf (O p rfl) (eY (n:=Y.vB.length) p rfl (jr E n p rfl (.tail _ (.tail _ (.head _)))) (.vK (.m E.vB)) (by simp) (by omega)) k8) (λq=>?_) λq=>?_) ?_
 .have q':r∉Y.vB:=eN.1.mp (k6 (by simpa using q))
  refine aq (M:=λj g=>j=F/\WS g v (X.add r) L C u o R) (eK p (e_ (jr E n p rfl (.tail _ (.tail _ (.head _)))) E.vB ((z rfl rfl).g ⟨_,E.vB,by simp;omega,rfl,?_⟩))) λj g q=>bw q;have:=jf (L1:=[(u.w,.wc (sD (yV (v .heap) L.ch u)))]) (n:=u.vB) (c':=.vK (o.vB.map vP)) E;have e:Y.vB.map vP++[vP r]=o.vB.map vP:=by simp only[o,J q'];simp
  rw[e];exact this
 .have q':r∈Y.vB:=by
   refine qW λh=>?_;rw[eN.1.mpr h]at q;simp at q
  have:o=Y:=by simp only[o,B q']
  rw[this];exact bw ⟨rfl,E⟩
 rintro j g0 ⟨rfl,H2⟩;have d0:=jQ hP.s;have h0:o.vB.length<=9:=by
  show(if r∈Y.vB then Y.vB else Y.vB++[r]).length<=9;by_cases c:r∈Y.vB
  .rw[B c];omega
  .rw[J c,aF];simp;omega
 have Q:(vP r).pl 20=true:=by
  have:=hP.s;simp only[vP,D.pl,yJ,this,q_];exact jF.mpr λd hd=>by obtain⟨x,_,rfl⟩:=aa.mp hd;simp[D.pl]
 exact bQ (cH (iX (eG (jr H2 n p rfl (.tail _ (.tail _ (.head _)))) (O p rfl) (.m H2.vB) (by omega) (x:=vP r) (by
  show(o.vB.map vP)[X.zq r]? =_;have h:=eN.2.2;rw[ah,au eN.2.1]at h;rw[a_,au eN.2.1];exact aU (λr=>some (vP r)) h) (by rw[az];omega)) (z rfl rfl) (uI (b:=true) n (.d Q) (.d Q) (by simp))) ⟨rfl,X.add r,C,o,v,L,u,rfl,eh,G2,H2⟩)
end
section
variable{Good:Nat->HX->CX->LX->Prop}
theorem Oi(l:Yi):yJ (l.map xB) 19=true:=jF.mpr λd hd=>by
 obtain⟨q,_,rfl⟩:=aa.mp hd;simp[xB,D.pl,yJ]
theorem NU(V:Laws Good m)(hk:k<20)(G:Good k X C Y)(H:WS σ P X r C i Y R):CF w 19 (.ref 613) [.ref i.w] σ λd j=>d= .none/\∃Q S T o M p,p.w=i.w/\o .heap=P .heap/\Good (k+1) Q S T/\WS j o Q M S p T R:=by
 have f:=V.TL G;refine je Ux λA a0 l he=>?_;have t:=he.scope;have hA:=l.handled;have b0:a0.blockKind= .function:=by unfold Env.blockKind;rw[t];rfl
 have hz:=f.rl;have hp:=f.pl;have hl:=f.ll;let W:Md:=[vr "world" (.ref i.w)];refine aq (M:=λs j=>∃Q S T o M p,p.w=i.w/\o .heap=P .heap/\Good (k+1) Q S T/\WS j o Q M S p T R) (dH (bf (jr H l t rfl (.tail _ (.tail _ (.tail _ (.tail _ (.head _)))))) (gV bG) (Iz (b:=decide (Y.v_≠[])) l (.c H.v_ (by simp only[D.pl];exact Oi _)) (.d rfl) (by rw[aM];exact nu ⟨λe=>by rw[e];rfl,λe=>by cases h:Y.v_ with|nil=>rfl|cons=>rw[h]at e;cases e⟩))) (λq=>?_) λq=>?_) λs j q=>bw ⟨rfl,q⟩
 .have q':Y.v_≠[]:=by simpa using q
  obtain⟨I,lv,N⟩:∃I lv,Y.v_=I++[lv]:=⟨_,_,(cV q').symm⟩;let⟨v,x⟩:=lv;let⟨⟨ms,n,pw,hm,c0,d0,hu⟩,G2⟩:=V.pop hk G N;apply aq (M:=λs j=>s=W/\∃o,o .heap=P .heap/\WS j o X.pop r C i Y R) (eK t (cU (jr H l t rfl (.head _)) (H.1.get .heap _ rfl) (H.1.get .wN _ rfl) Wb rfl Ni.2 l (eZ bG (((Ul hm c0 d0 hu) σ P _ H.1).room (by omega) |>.mono λd j ⟨_,o,ag,H'⟩=>⟨rfl,o,ag .heap (λ_=>by simp) rfl,by unfold WS;rw[ag .heap (λ_=>by simp) rfl];exact⟨H',H.2⟩⟩))));rintro s u ⟨rfl,g,eh,H1⟩;let Y1:LX:={Y with v_:=I};let e0:Md:=vr "told" (.int x)::vr "many" (.int v)::W;have f0:Y.v_.length=I.length+1:=by rw[N];simp
  refine aq (M:=λs j=>s=e0/\WS j g X.pop r C i Y1 R) (bR (jZ (jr H1 l t rfl (.tail _ (.tail _ (.tail _ (.tail _ (.head _)))))) (d:=xB (v,x)) (l:=I.map xB) (by rw[H1.v_,N,aL];rfl) (by rw[az];omega) (kh hA .vV (bZ (ff t rfl (bZ (ff t rfl (gW ⟨rfl,?_⟩)))))))) ?_
  .exact jf (L1:=[(i.w,.wc (sD (yV (g .heap) r.ch i))),(i.vB,.vK (Y.vB.map vP)),(i.v7,.vK (Y.v7.map xB))]) (n:=i.v_) (c':=.vK (I.map xB)) H1
  rintro s g0 ⟨rfl,H2⟩;let L:LX:=⟨Y.vB.take v,Y.v7.take x,I,[]⟩;let B0:=Qm (g .heap) r.ch i Y1++(zH (g .heap) r C++R);refine aq (M:=λs j=>∃p,p.w=i.w/\WS j g X.pop r C p L R) (bR (nG (b_ (P1:=λd u=>∃a,d= .ref a/\HL u g X.pop ((a,.vK (L.vB.map vP))::B0)) rfl (kg (oF (jr H2 l t rfl (.tail _ (.tail _ (.head _)))) (.m H2.vB) (O t rfl) (by rw[az];show Y.vB.length<=_;omega)) λa ha=>⟨a,rfl,by rw[<-iR];exact HL.new H2 ha⟩) λd1 s1 ⟨a,ea,Ha⟩=>
   b_ (P1:=λd u=>∃b,d= .ref b/\HL u g X.pop ((b,.vK (L.v7.map xB))::(a,.vK (L.vB.map vP))::B0)) rfl (kg (oF (PE.sD l (O t rfl) (.m (Ha.at (.tail _ (.head _)))) (.tail _ (.tail _ (.tail _ (.head _))))) (.m (Ha.at (c:=.vK (Y.v7.map xB)) (.tail _ (.tail _ (.tail _ (.head _)))))) (O t rfl) (by rw[az];omega)) λb hb=>⟨b,rfl,by rw[<-iR];exact HL.new Ha hb⟩) λd2 s2 ⟨b,eb,Hb⟩=>
   b_ (P1:=λd u=>∃c,d= .ref c/\HL u g X.pop ((c,.wc [])::(b,.vK (L.v7.map xB))::(a,.vK (L.vB.map vP))::B0)) rfl (oq jy λc hc=>⟨c,rfl,HL.new Hb hc⟩) λd3 s3 ⟨c,ec,Hc⟩=>gu ⟨by simp,?_⟩)) (hsw:=by
    unfold swappedStores Env.kindOf;rw[b0,t]
    rfl)) λs j ⟨p,e,h⟩=>bw ⟨_,_,_,g,r,p,e,eh,G2,h⟩
  subst ea eb ec;let y:LN:={i with vB:=a};let z:LN:={y with v7:=b};let E:LN:={z with wz:=c};let F:List (Nat×wQ):=[(c,.wc []),(b,.vK (L.v7.map xB)),(a,.vK (L.vB.map vP))];have a2:=jf (L1:=F) (n:=i.w) (c':=.wc (sD (yV (g .heap) r.ch y))) Hc;have a3:=jf (L1:=F) (n:=i.w) (c':=.wc (sD (yV (g .heap) r.ch z))) a2;have a4:=jf (L1:=F) (n:=i.w) (c':=.wc (sD (yV (g .heap) r.ch E))) a3;have e1:wM (sD (yV (g .heap) r.ch i)) (.str "rows") (.ref a)=sD (yV (g .heap) r.ch y):=by rw[EA];rfl
  have e2:wM (sD (yV (g .heap) r.ch y)) (.str "pairs") (.ref b)=sD (yV (g .heap) r.ch z):=by rw[EA];rfl
  have e3:wM (sD (yV (g .heap) r.ch z)) (.str "seen") (.ref c)=sD (yV (g .heap) r.ch E):=by rw[EA];rfl
  refine kh hA .vV (bZ (fj l (O t rfl) cS (Hc.at (.tail _ (.tail _ (.tail _ (.head _))))) (c:=1) rfl (F7 _) (by simp) (bZ (fj l (O t rfl) cS (by rw[e1];exact a2.at (.tail _ (.tail _ (.tail _ (.head _))))) (c:=1) rfl (F7 _) (by simp) (bZ (fj l (O t rfl) cS (by rw[e1,e2];exact a3.at (.tail _ (.tail _ (.tail _ (.head _))))) (c:=1) rfl (F7 _) (by simp) (gW ⟨E,rfl,?_⟩)))))));rw[e1,e2,e3];refine HL.perm (HL.sub (M:=F++(i.w,.wc (sD (yV (g .heap) r.ch E)))::(i.v_,.vK (I.map xB))::(zH (g .heap) r C++R)) a4 ?_) ?_
  .exact .cons_cons _ (.cons_cons _ (.cons_cons _ (.cons_cons _ (.cons _ (.cons _ (.cons_cons _ (.cons _ (.refl _))))))))
  .show List.Perm ((c,_)::(b,_)::(a,_)::(i.w,_)::(i.v_,_)::_) ((i.w,_)::(a,_)::(b,_)::(i.v_,_)::(c,_)::_)
   refine(d9 (l₁:=[(c,_),(b,_),(a,_)])).trans (.cons _ ?_);refine(d9 (l₁:=[(c,_),(b,_)])).trans (.cons _ ?_);refine(d9 (l₁:=[(c,_)])).trans (.cons _ ?_);exact .swap _ _ _
 .have q':Y.v_=[]:=by simpa using q
  exact bw ⟨X,C,Y,P,r,i,rfl,rfl,V.skip G,H⟩
end
theorem Oj:∀p∈yx,p.enc.kd=some 2/\p.Dw.length<64/\p.depth<=4:=by
 have a:PyData.strOk "f"=true/\PyData.strOk "g"=true:=by decide+kernel
 intro p b;simp only[yx,aG,pC,or_false]at b;rcases b with rfl|rfl|rfl|rfl|rfl|rfl|rfl<;>refine⟨?_,by decide,by decide⟩<;>simp[Pt.enc,D.kd,A2,D.hk,yJ,D.pl,M0,a.1,a.2]
def qB:=@Oj
theorem zM.end:∀(n:Nat) {L:X8} {W:Yi},zM b a n L W->∃k,zM b a k (xx b a) []:=by
 intro n;induction n with
 |zero=>
  intro L W h;by_cases c:W=[]
  .subst c;have:=h.fin;subst this;exact⟨_,h⟩
  .let⟨k,d,_⟩:=h.step c;cases d
 |succ n e=>
  intro L W h;by_cases c:W=[]
  .subst c;have:=h.fin;subst this;exact⟨_,h⟩
  .let⟨k,d,f⟩:=h.step c
   cases d;exact e f
theorem Dh(c:∀q∈b,q.1<a.length/\q.2<a.length):(xx a b).length=a.length/\∀x∈xx a b,x<a.length:=by
 let⟨k,h⟩:=zM.end _ (Ir c);exact⟨h.len,h.lt⟩
theorem TA(m:Mt):∀k,(vZ m).pl (k+3)=true:=λk=>by
 simp only[vZ,xS,D.pl,yJ,q_,jH];exact jF.mpr λd hd=>by obtain⟨q,_,rfl⟩:=aa.mp hd;simp[D.pl,yJ,M0]
theorem Vl(l:Yl):(D.vK (l.map vZ)).pl 20=true:=by
 simp only[D.pl];exact jF.mpr λd hd=>by obtain⟨q,_,rfl⟩:=aa.mp hd;exact TA q 16
def uP:=@Vl
section
variable{Good:Nat->HX->CX->LX->Prop}
theorem Ht(V:Laws Good m)(hk:k<20)(G:Good k X C Y)(hp:p∈yx)(H:WS σ nm X Q C v Y R):CF w 25 (.ref 599) [.ref v.w,p.enc,.bool b] σ λd f=>d= .bool true/\∃X' C' Y' E j i0,i0.w=v.w/\E .heap=nm .heap/\Good (k+1) X' C' Y'/\WS f E X' j C' i0 Y' R:=by
 let⟨pk,pm,pd⟩:=qB p hp;refine nQ UL λA w0 n he=>?_;have u:=he.scope;have hA:=n.handled;let j0:Md:=[vr "world" (.ref v.w),vr "pattern" p.enc,vr "is_whole" (.bool b)];apply aq (M:=λo f=>o=j0/\∃X' E,E .heap=nm .heap/\Good k X' C Y/\X'.vM=[]/\WS f E X' Q C v Y R) (eK u (cU (jr H n u rfl (.head _)) (H.1.get .heap _ rfl) (H.1.get .wN _ rfl) O3 rfl CO.2 n (eZ bG ((Lx (λX=>Good k X C Y) m (λX g=>(V.TL g).Z.d X.v8) (λX g=>V.pre g) (λX g=>V.dec g) H.1 G).room (by omega) |>.mono λd f ⟨_,X',E,g,hw,ag,_,H'⟩=>⟨rfl,X',E,ag .heap rfl,g,hw,by unfold WS;rw[ag .heap rfl];exact⟨H',H.2⟩⟩))));rintro o o0 ⟨rfl,z,s,eh,G1,hw,M⟩;let⟨VF,hz,p0,m0,G2⟩:=V.ask hk G1 hw hp;have c:=V.TL G1;have x0:=c.rl;have y0:=c.pl;let⟨b0,q0⟩:=Dh c.pr;have F:∀r∈Y.vB,PyData.strOk r.1=true/\r.2.length<=2/\∀k∈r.2,k<Y.vB.length:=λr hr=>by
  have c0:=hr;rw[c.r]at c0;let⟨i,hi,e⟩:=bS c0;have er:z.row i=r:=by unfold HX.row;rw[ah,au hi];exact e
  have r0:i<z.up.length:=by rw[<-c.O.n];exact hi
  refine⟨c.O.b.s r c0,by rw[<-er];exact c.O.kl i,λk hk=>?_⟩;rw[c.r,c.O.n];exact c.O.k i r0 k (by rw[er];exact hk)
 let L:=Y.L;let k0:Md:=vr "leasts" (.vK (vG L))::j0;apply aq (M:=λo f=>o=k0/\f=o0) (fV u rfl (gF (dJ u rfl Wx) Cn.2 (bE rfl rfl (jr M n u rfl (.tail _ (.tail _ (.head _)))) (jr M n u rfl (.tail _ (.tail _ (.tail _ (.head _)))))) (Mg M.vB M.v7 c.pr ⟨by omega,by omega⟩ (λr h=>(F r h).1) λr h=>(F r h).2) (n.mono (by omega))) ⟨rfl,rfl⟩);rintro o f ⟨rfl,rfl⟩;let d0:Md:=vr "every" (.vK ((Y.ya p).map vZ))::k0;apply aq (M:=λo W=>o=d0/\W=f) (fV u rfl (gF (dJ u rfl Wz) Gd.2 (bI rfl (jr M n u rfl (.tail _ (.tail _ (.head _)))) (bE rfl rfl (O u rfl) (O u rfl))) (Jw M.vB b0 q0 (by omega) (λr h=>(F r h).1) (λr h=>(F r h).2) pm pd hz) (n.mono (by omega))) ⟨rfl,rfl⟩);rintro o W ⟨rfl,rfl⟩;let ms:Yl:=(vJ Y.wz p).getD [];let kn:=Y.vR p;have s0:ms.length<64/\∀x∈ms,x∈zp Y.vB.length p:=by
  show((vJ Y.wz p).getD []).length<64/\∀x∈(vJ Y.wz p).getD [],x∈zp Y.vB.length p;cases q:vJ Y.wz p with
  |none=>exact⟨by decide,λx h=>(nomatch h)⟩
  |some l=>exact(c.sp _ (fG q)).2
 have l0:wG 2 (y_ Y.wz):=by unfold y_;exact E0 λq hq=>(qB _ (c.sp q hq).1).1
 let e0:Md:=vr "known" (.vK (kn.map vZ))::d0;refine aq (M:=λo f0=>o=e0/\f0=W) (fC u rfl (qw ((jT (S:=Gb.1.scope) (tg:=wH) (lk:=none) ms vZ (λx=>vZ (conv L x)) u ⟨by rfl,by rfl,by decide+kernel,by rfl,by rfl⟩ (eW hA (PE.QA n (jr M n u rfl (.tail _ (.tail _ (.tail _ (.tail _ (.tail _ (.head _))))))) (.m M.wz) (O u rfl) (gV bG) pk l0 (x:=.vK (ms.map vZ)) ?_) (.inl rfl)) trivial rfl (by omega) λn0 I x hx=>?_).fe.mono λt N ⟨a,b⟩=>?_)) (Nt u rfl)) ?_
 .unfold y_
  rw[lA qh];show D.vK (((vJ Y.wz p).getD []).map vZ)=_;cases vJ Y.wz p<;>rfl
 .let⟨c1,h1,h2⟩:=b7.mp (s0.2 x hx)
  obtain⟨s1,h3,rfl⟩:=aa.mp h2;have h1:=aZ.mp h1;let⟨h4,h5⟩:=iP.mp h3;have z0:s1.length<=2:=by rw[<-az (f:=λq=>q.1),h4];exact mT p
  have gt:∀{md} {P} {S} {x} {i} {p1 p2 p3},P.scope=S->i<Y.vB.length->look S.names md "leasts"=some (.vK (vG L))->look S.names md (Str.ofString x)=some (.int i)->PE w A P md W (eval (.Subscript (.Name "leasts" p1) (.Name (Str.ofString x) p2) p3) P) (.int (wV L i:Nat)):=λI hi h1 h2=>eG (O I h1) (O I h2) .f (by omega) (iF (by rw[show L.length=Y.vB.length from b0];exact hi)) (by rw[bh,show L.length=Y.vB.length from b0];omega);exact⟨_,tU hA I rfl rfl rfl rfl,bK (bE rfl rfl (gt I h1 rfl rfl) (jx I rfl (jq (ds:=(s1.map λq=>(q.1,wV L q.2)).map e1) ((jT (tg:=wH) (lk:=none) s1 e1 (λq=>e1 (q.1,wV L q.2)) I ⟨by rfl,by rfl,by decide+kernel,by rfl,by rfl⟩
   (eW hA (O I rfl) (.inr (.inl rfl))) trivial rfl (by omega) λu0 g0 q hq=>⟨_,tU hA g0 rfl rfl rfl rfl,bK (bE rfl rfl (O g0 rfl) (gt g0 (h5 q hq) rfl rfl))⟩).mono λt f e=>⟨by rw[e.1,bD];rfl,e.2⟩)) .f (by rw[az];show(s1.map _).length<=_;rw[az];omega)))⟩
 .subst a b
  refine⟨?_,rfl⟩;show _=vr "known" (.vK ((ms.map (conv L)).map vZ))::d0;rw[bD];rfl
 rintro o f0 ⟨rfl,rfl⟩;let T:=Y.ask p;have t0:WS f0 s z Q C v Y R:=M;refine aq (M:=λo N=>o=e0/\WS N s z Q C v T R) (bR ((O u rfl).g (fj n (jr M n u rfl (.tail _ (.tail _ (.tail _ (.tail _ (.tail _ (.head _))))))) (O u rfl) M.wz pk l0 (by simp[y_];have:=c.sn;omega) ⟨rfl,?_⟩))) ?_
 .have:=jf (L1:=[(v.w,.wc (sD (yV (s .heap) Q.ch v))),(v.vB,.vK (Y.vB.map vP)),(v.v7,.vK (Y.v7.map xB)),(v.v_,.vK (Y.v_.map xB))]) (n:=v.wz) (c':=.wc (y_ T.wz)) t0
  have e:wM (y_ Y.wz) p.enc (.vK ((Y.ya p).map vZ))=y_ T.wz:=iA (ev:=λms:Yl=>D.vK (ms.map vZ)) qh;rw[e];exact this
 rintro o N ⟨rfl,H4⟩;have H5:HL N s z (zH (s .heap) Q C++(Qm (s .heap) Q.ch v T++R)):=H4.perm (qu _ _ _);have a0:∀{f} {j} {C'},j.ch=Q.ch->HL f s z (zH (s .heap) j C'++(Qm (s .heap) Q.ch v T++R))->WS f s z j C' v T R:=λe h=>by
  unfold WS;rw[e];exact h.perm (qu _ _ _)
 cases b with
 |true=>
  refine bQ (dH (b:=true) (mV (O u rfl)) (λ_=>bQ (oX (qD (P1:=λd f=>d= .vK ((Y.ya p).map vZ)/\∃j,j.ch=Q.ch/\WS f s z j ((C.w4 z).zj z p) v T R) (cU (jr H4 n u rfl (.tail _ (.head _))) (H5.at (k9 []).i) (H5.at (k9 []).n) UW rfl IJ.2 n (eZ (bq rfl (O u rfl)) (((FJ VF H5).room (by omega)).mono λd f ⟨e,j,ec,h⟩=>⟨by rw[e,m0],j,ec,a0 ec h⟩))) λd1 h0 ⟨e1,j,ec,H6⟩=>?_))) λq=>by cases q);subst e1;exact(O u rfl).g ⟨.bool true,uI n (.d (uP _)) (.d (uP _)) (by simp),rfl,z,_,T,s,j,v,rfl,eh,G2,H6⟩
 |false=>
  apply aq (M:=λo h0=>o=e0/\h0=N) (dH (b:=false) (mV (O u rfl)) (λq=>by cases q) λ_=>bw ⟨rfl,rfl⟩);rintro o h0 ⟨rfl,rfl⟩;refine bQ (oX (qD (P1:=λd f=>d= .vK (((Y.ya p).filter λm=>decide (m∉Y.vR p)).map vZ)/\∃j,j.ch=Q.ch/\WS f s z j ((C.w4 z).zj z p) v T R) (cU (jr H4 n u rfl (.tail _ (.head _))) (H5.at (k9 []).i) (H5.at (k9 []).n) Tn rfl Co.2 n (eZ (bq rfl (O u rfl)) (((G9 VF H5).room (by omega)).mono λd f ⟨e,j,ec,h⟩=>⟨by rw[e,p0],j,ec,a0 ec h⟩))) λd1 a1 ⟨e1,j,ec,H6⟩=>?_));subst e1;refine(jq (ds:=((Y.ya p).filter λm=>decide (m∉Y.vR p)).map vZ) ((mh (tg:=wH) (lk:=none) (Y.ya p) vZ (λm=>decide (m∉Y.vR p)) vZ u ⟨by rfl,by rfl,by decide+kernel,by rfl,by rfl⟩ (eW hA (O u rfl) (.inl rfl)) trivial rfl (by omega) λn0 I x hx=>?_).mono λt f e=>⟨e.1,e.2⟩)).g ⟨.bool true,uI n (.d (uP _)) (.d (uP _)) (by simp),rfl,z,_,T,s,j,v,rfl,eh,G2,H6⟩;refine⟨_,fP I rfl rfl,bf (O I rfl) (O I rfl) (Ft n (TA x 17) (.d (uP kn)) ?_),λ_=>O I rfl⟩;rw[aM,aa];exact nu ⟨λh=>⟨x,h,rfl⟩,λ⟨y,a,b⟩=>by rw[<-rQ b];exact a⟩
end
theorem Az.vals{P:Nat->Prop}(j:∀n,n<i.length->∀k∈(wC i n).2,P (f k)):∀{p:Pt} {c:Nat},Az i f p c v->P c->∀b,p.has b=true->P (v b)
 | .v a,c,m,r,b,o=>by
  have:a=b:=by simpa[Pt.has]using o
  subst this;rw[show v a=c from m];exact r
 | .f p,c,⟨n,k,a,_,d,e⟩,r,b,o=>e.vals j (j n a k (by rw[d];exact .head _)) b o
 | .g p q,c,⟨n,k,l,a,_,d,e,g⟩,r,b,o=>by
  rcases nI.mp (show(p.has b||q.has b)=true from o)with h|h
  .exact e.vals j (j n a k (by rw[d];exact .head _)) b h
  .exact g.vals j (j n a l (by rw[d];exact .tail _ (.head _))) b h
section
variable{C:CX}
theorem Q3(I:wm (vw X))(S:yL (vw X) c []):DF X.vB (xx X.vB c) X.vQ:=by
 have d:X.vB.length=X.up.length:=I.n1;have e:∀q∈c,q.1<X.vB.length/\q.2<X.vB.length:=λq f=>by rw[d];exact S.pb q f
 refine⟨(Dh e).1,λi p=>settled I S i (by show i<X.up.length;omega),c_ (vw X),uK (vw X),λn _ k g=>I.kid n k g,λn m r s a b=>?_⟩;let⟨o,e1,h⟩:=(S.cm n (by show n<X.up.length;omega)).resolve_left (by simp);let⟨t,j,l⟩:=(S.cm m (by show m<X.up.length;omega)).resolve_left (by simp);have:(vw X).sig n=(vw X).sig m:=gr a b;rw[this,j]at e1;cases e1;exact h.symm.trans l
theorem SX(I:wm (vw X))(p:Pt):X.yy p=zp X.vB.length p:=by
 have a:X.vB.length=X.up.length:=I.n1;rw[a];rfl
def sF:=@SX
def HX.Vr(X:HX)(p:Pt)(m:Mt):Prop:=(∀q∈m.2,X.vQ q.2=q.2)/\Az X.vB X.vQ p m.1 (val m.2)
theorem Fw(I:wm (vw X))(e:∀x∈g,X.vQ x=x)(h:m∈X.yy p)(i:m.1∈X.xP g j)(f:X.MV p (X.vQ m.1) (val m.2)):X.Vr p m:=by
 have d:=C_ e j i;let⟨a,b,c⟩:=jh.mp h;rw[d]at f;have:=(zA I a d).mp f;exact⟨OX (c_ (vw X)) b d this,this⟩
theorem JB(I:wm (vw X))(a:X.vQ m.1=m.1)(b:∀q∈m.2,X.vQ q.2=q.2):X.Ak m=m:=by
 unfold HX.Ak;rw[a,aK (g:=id) λq c=>by rw[b q c];rfl,iZ]
theorem FA(W:WF X)(I:wm (vw X))(H:xw (vw X) (C.xh p).1 (C.xh p).2 ((vJ C.wz p).getD []) p){m:Mt}(F:m∈X.yy p)(e:X.Vr p m)(u:m.1∉X.xP (X.chg (C.xh p).1 (C.xh p).2) (p.depth-1)):m∈C.xN X p:=by
 have v:X.vB.length=X.up.length:=I.n1;let⟨Y,he,s,G,L,M⟩:=H;let⟨a,b,c⟩:=jh.mp F;have d:X.vQ m.1=m.1:=OY (c_ (vw X)) b e.1 e.2;let R:Nat->Nat->Prop:=λj x=>x∈X.xP (X.chg (C.xh p).1 (C.xh p).2) j;have w:∀n,n<X.vB.length->¬R 0 (X.vQ n)->n<(C.xh p).1/\s n=X.vQ n:=λn o N=>by
  rcases L n o with z|z
  .refine absurd ?_ N
   have y:X.vQ n<X.up.length:=fX I (by show n<X.up.length;omega);exact iE.mpr ⟨y,iE.mpr ⟨y,GG.mpr z⟩⟩
  .exact z
 have f:=Az.old (R:=R) (N:=(C.xh p).1) (f0:=s) (λn k g=>I.kid n k g) w (λj x h=>Dc h) (λj n o k g h=>Od W I (by rw[<-v];exact o) g h) e.2 u;have t:∀i,R 0 m.1->R i m.1:=λi h=>by
  induction i with
  |zero=>exact h
  |succ i P=>exact Dc P
 let⟨A,E⟩:=w m.1 (by rw[v];exact a) (by rw[d];exactλq=>u (t _ q));rw[d]at E;have Q:=f.vals (P:=λx=>x<(C.xh p).1/\s x=x) (λn o k g=>by
  rw[bU]at o;rw[nU (by omega)]at g;have:k<n:=I.kid n k g;let⟨S,z2,T⟩:=G k (by omega);exact⟨S,T⟩) ⟨A,E⟩
 have r:∀q∈m.2,q.2<(C.xh p).1/\s q.2=q.2:=λq l=>by
  have:=Q q.1 (ER b l);rw[uO b l]at this;exact this
 have V:=(M m).mpr ⟨ku.mpr ⟨A,b,λq l=>(r q l).1⟩,λq l=>(r q l).2,f⟩;exact aa.mpr ⟨m,V,JB I d e.1⟩
theorem Fx(I:wm (vw X))(H:xw (vw X) (C.xh p).1 (C.xh p).2 ((vJ C.wz p).getD []) p)(d:m∈C.xN X p):X.Vr p m:=by
 let⟨e,u,v,f,w,g⟩:=H;obtain⟨i,h,rfl⟩:=aa.mp d;let⟨a,b,c⟩:=(g i).mp h;let⟨x,j,y⟩:=ku.mp a;have:=c.now (vB:=X.vB) (f:=X.vQ) e (λn k l=>I.kid n k l) λn o=>(f n o).2.1;refine⟨λq s=>?_,this.congr λb t=>(NS X.vQ j t).symm⟩;obtain⟨r,z,rfl⟩:=aa.mp s;exact c_ (vw X) r.2
theorem Dm(P:Nat->Bool)(g:Nat->List b):∀l:X8,(l.filter P).flatMap g=l.flatMap λc=>if P c then g c else[]
 |[]=>rfl
 |a::l=>by
  rw[lM,kW,<-Dm P g l];split<;>simp
open Classical in
theorem Ms(X:HX)(C:CX)(p:Pt):C.fresh X p=(X.yy p).filter λm=>decide (m.1∈X.xP (X.chg (C.xh p).1 (C.xh p).2) (p.depth-1)/\X.MV p (X.vQ m.1) (val m.2)/\m∉C.xN X p):=by
 unfold CX.fresh HX.yy;have a:X.xP (X.chg (C.xh p).1 (C.xh p).2) (p.depth-1)=(List.range X.up.length).filter λx=>decide (x∈X.xP (X.chg (C.xh p).1 (C.xh p).2) (p.depth-1)):=by
  conv=>lhs;unfold HX.xP zo
  exact iw λx b=>by
   rw[pF,show X.xP (X.chg (C.xh p).1 (C.xh p).2) (p.depth-1)=zo X.up.length _ from rfl,iE];exact⟨λh=>⟨aZ.mp b,h⟩,λh=>h.2⟩
 rw[a,Dm,List.filter_flatMap];rw[<-a];refine aU List.flatten (aK λc e=>?_);show(if decide (c∈_)=true then _ else _)=_;unfold HX.yw;rw[p9,p9,vA];by_cases q:c∈X.xP (X.chg (C.xh p).1 (C.xh p).2) (p.depth-1)
 .rw[B (by simpa using q)]
  refine aU _ (iw λt d=>?_);simp[q,and_comm]
 .rw[J (by simpa using q)]
  symm
  rw[List.map_eq_nil_iff,sX];intro t d;simp[q]
theorem CJ(W:WF X)(I:wm (vw X))(S:DF X.vB L X.vQ)(H:xw (vw X) (C.xh p).1 (C.xh p).2 ((vJ C.wz p).getD []) p):C.fresh X p=(xF X.vB L p).filter λm=>decide (m∉C.xN X p):=by
 rw[Ms];unfold xF;rw[vA,<-sF I];refine iw λm f=>?_;have g:=qC S (p:=p) (m:=m) (by rw[<-sF I];exact f);have g:m∈A8 X.vB L p↔X.Vr p m:=g;have e:∀x∈X.chg (C.xh p).1 (C.xh p).2,X.vQ x=x:=λx i=>PZ i;rw[<-Bool.decide_and,pF,g];constructor
 .rintro⟨a,b,c⟩;exact⟨c,Fw I e f a b⟩
 .rintro⟨c,d⟩
  by_cases q:m.1∈X.xP (X.chg (C.xh p).1 (C.xh p).2) (p.depth-1)
  .have h:=C_ e _ q
   refine⟨q,?_,c⟩;rw[h];exact(zA I (jh.mp f).1 h).mpr d.2
  .exact absurd (FA W I H f d q) c
theorem Hg(W:WF X)(I:wm (vw X))(S:DF X.vB L X.vQ)(H:xw (vw X) (C.xh p).1 (C.xh p).2 ((vJ C.wz p).getD []) p):((X.yy p).filter λm=>decide (m∈C.xN X p++C.fresh X p))=xF X.vB L p:=by
 unfold xF;rw[<-sF I];refine iw λm b=>?_;have a:=qC S (p:=p) (m:=m) (by rw[<-sF I];exact b);have a:m∈A8 X.vB L p↔X.Vr p m:=a;rw[pF,aB,CJ W I S H,aV,a,aM];unfold xF;rw[aV,aM,a,<-sF I];constructor
 .rintro(q|⟨⟨_,q⟩,_⟩)
  .exact Fx I H q
  .exact q
 .intro q
  by_cases z:m∈C.xN X p
  .exact .inl z
  .exact .inr ⟨⟨b,q⟩,z⟩
end
theorem CS(N:Nat):∀a:Yj,(Ah N a).length=N^a.length
 |[]=>rfl
 |b::r=>by
  rw[Ah,gK];simp only[az,CS N r,List.map_const',sY,cW,bO];rw[sL,oB]
theorem E9(N:Nat):∀f:Yj,(Ah N f).Nodup
 |[]=>by simp[Ah]
 |b::r=>by
  rw[Ah,iC,ie];refine⟨λc _=>?_,fZ.imp λ{c d} a x g y h e=>?_⟩
  .rw[b5]
   exact(E9 N r).imp λ{s t} a e=>a (by injection e)
  .obtain⟨s,_,rfl⟩:=aa.mp g
   obtain⟨t,_,rfl⟩:=aa.mp h;injection e with e1 _
   injection e1 with _ i
   exact a i
theorem SR(N:Nat)(p:Pt):(zp N p).Nodup:=by
 unfold zp;rw[iC,ie];refine⟨λc _=>?_,fZ.imp λ{c d} a x b y f e=>?_⟩
 .rw[b5]
  exact(E9 N p.vs).imp λ{s t} a e=>a (by injection e)
 .obtain⟨s,_,rfl⟩:=aa.mp b
  obtain⟨t,_,rfl⟩:=aa.mp f;injection e with e1 _
  exact a e1
theorem QH(p:Pt):p.vs.length<=2:=by
 unfold Pt.vs;exact cP _ _
def Qw(N:Nat)(p:Pt):Ym:=if p.yO then Ah N p.vs else Ah 7 p.vs
theorem Gm(a:N<=8)(p:Pt):(Qw N p).length<=49:=by
 unfold Qw;split
 .rename_i h
  rw[CS];have:p.vs.length=1:=by
   cases p with
   |v b=>cases b<;>rfl
   |f p=>cases h
   |g p q=>cases h
  rw[this,Nat.pow_one];omega
 .rw[CS]
  exact bg (jN (by omega) (QH p)) (by decide)
theorem Nr(I:wm (vw X))(a:t.map (·.1)=p.vs)(d:∀q∈t,q.2<X.up.length)(h:Az X.vB X.vQ p c (val t)):t∈Qw X.up.length p:=by
 have i:X.vB.length=X.up.length:=I.n1;have j:X.up.length<=8:=I.n8;unfold Qw;cases f:p.yO with
 |true=>exact iP.mpr ⟨a,d⟩
 |false=>
  refine iP.mpr ⟨a,λq b=>?_⟩;have:=h.low (N:=8) (uK (vw X)) (λn l k g=>by have:k<n:=I.kid n k g;omega) (λe=>by rw[f]at e;cases e) q.1 (ER a b);rw[uO a b]at this;omega
theorem KC(I:wm (vw X))(S:DF X.vB L X.vQ):(xF X.vB L p).length<=49:=by
 have f:X.vB.length=X.up.length:=I.n1;have c:∀m∈xF X.vB L p,m∈zp X.vB.length p/\Az X.vB X.vQ p m.1 (val m.2):=λm h=>by
  unfold xF at h;rw[aV,aM]at h;exact⟨h.1,((qC S h.1).mp h.2).2⟩
 have g:((xF X.vB L p).map (·.2)).Nodup:=by
  rw[iC,b5];have i:(xF X.vB L p).Nodup:=(SR _ p).filter _;refine List.Pairwise.imp_of_mem (λ{a b} j k l e=>l ?_) i;have d:=(rU S).mpr (c a j).2;have n:=(rU S).mpr (c b k).2;rw[e,n]at d;exact gr (dI d).symm e
 have:=g.length_le_of_subset λt o=>by
  obtain⟨m,h,rfl⟩:=aa.mp o;let⟨a,b⟩:=c m h;let⟨v,r,s⟩:=ku.mp a;exact Nr I r (λq u=>by rw[<-f];exact s q u) b
 rw[az]at this;exact bg this (Gm I.n8 p)
open Classical in
theorem NY(I:wm (vw X))(e:c<X.up.length):(X.yw p c).length<=49:=by
 have f:(X.yw p c).Nodup:=(E9 _ _).filter _;have:=f.length_le_of_subset λt d=>by
  unfold HX.yw at d;rw[aV,aM]at d;let⟨a,b⟩:=iP.mp d.1;exact Nr I a b ((zA I (fX I e) (c_ (vw X) c)).mp d.2)
 exact bg this (Gm I.n8 p)
theorem Rp:∀p∈yx,p.bd<=1000:=by decide
theorem Xw(W:WF X)(I:wm (vw X))(v:X.vF.length<=900)(S:DF X.vB L X.vQ)(k:p∈yx)(H:xw (vw X) (C.xh p).1 (C.xh p).2 ((vJ C.wz p).getD []) p)(o:∀q∈C.wz,q.1∈yx)(r:∀q∈C.vH,q.1∈yx)(w:C.wz.length<=20)(x:C.vH.length<=20)(y:((vJ C.wz p).getD []).length<64):M_ X C p:=by
 have z:X.vB.length=X.up.length:=I.n1;have A:X.up.length<=8:=I.n8;let⟨s,E,t⟩:=qB p k;have F:X.vN.length<=X.up.length:=F6 I;have G:X.vO.length=X.vN.length:=I.fm;have g:=Hg W I S H;have i:=CJ W I S H;have M:=KC (p:=p) I S;refine⟨hok W I,by omega,λc e=>QJ W I e,by omega,by omega,λf h=>⟨I.fe f h,?_⟩,Rp p k,s,t,λq d=>(qB _ (o q d)).1,λq d=>(qB _ (r q d)).1,by omega,by omega,?_,λm j=>?_,by omega,λc e=>by have:=NY (p:=p) I e;omega,?_,?_⟩
 .have l:f<X.vF.length:=I.fe f h
  rw[ah,au l];exact I.ee _ (bT l)
 .have:(C.xh p).1<=X.vB.length:=H.1
  omega
 .let⟨n,_,N,_,_,u⟩:=H
  have n:(C.xh p).1<=X.vB.length:=n;let⟨a,b,c⟩:=ku.mp ((u m).mp j).1;exact jh.mpr ⟨by omega,b,λq d=>by have:=c q d;omega⟩
 .rw[i]
  exact gg (cP _ _) (by omega)
 .rw[g];omega
structure xU(X:HX)(ps ls:Yi):Prop where
 W:WF X
 A:yz (VW X) ps ls X.vM
 p:ps.length<=20
 l:ls.length<=20
theorem xU.I(G:xU X a b):wm (vw X):=G.A.I
theorem xU.e(G:xU X a b):X.vF.length<=900:=by
 have c:X.vF.length<=a.length+X.vN.length:=G.A.S.el;have d:X.vN.length<=X.up.length:=F6 G.I;have f:X.up.length<=8:=G.I.n8;have:=G.p;omega
theorem xU.m(G:xU X b a):X.vH.length=a.length:=by
 have c:(VW X).ms.length=a.length:=G.A.l.len;have d:(VW X).ms.length=X.vH.length:=by show(X.vH.map _).reverse.length=_;simp
 omega
theorem xU.w(G:xU X a b):X.vM.length<=128:=by
 have c:X.vM.length<=16*X.vN.length:=G.A.wl;have d:X.vN.length<=X.up.length:=F6 G.I;have f:X.up.length<=8:=G.I.n8;omega
theorem xU.n(G:xU X a b):X.vB.length=X.up.length:=G.I.n1
theorem xU.of(W:WF Y)(V:VW Y=x)(A:yz x a b x.wt)(c:a.length<=20)(d:b.length<=20):xU Y a b:=⟨W,by subst V;exact A,c,d⟩
def sG:=@xU.of
theorem Ed(x:AX)(n:Nat):(x.look n).cr.vB=x.cr.vB:=by
 unfold AX.look;split
 .split
  .rfl
  .show(x.cr.jn _ _ _ _ _).vB=_
   unfold Cr.jn;split<;>rfl
 .rfl
theorem By(X:HX)(n:Nat):(X.AD n).vW=X.vW:=by
 have d:∀(c:HX) a b r,(c.join a b r).vW=c.vW:=λc a b r=>by
  unfold HX.join HX.yW;dsimp only;split<;>rfl
 have e:∀c:HX,(c.x_ n).vW=c.vW:=λc=>by
  unfold HX.x_;split
  .split
   .rfl
   .exact d _ _ _ _
  .rfl
 unfold HX.AD;rw[e];split<;>rfl
theorem xU.xQ(G:xU X i j)(k:X.vM≠[]):yS (X.xq X.v8 X.vM.dropLast) (X.vM.getLastD 0)/\xU X.xQ i j/\X.xQ.vB=X.vB/\X.xQ.vW=X.vW/\VW X.xQ=(VW X).xQ/\(VW X.xQ).me<(VW X).me/\X.vM.getLastD 0<X.up.length:=by
 have u:=G.w;let⟨g,d⟩:=QF (l:=X.vM.dropLast) G.W (by rw[jM];omega);let⟨A,o,a⟩:=G.A.xQ k;have a:X.vM.getLastD 0<X.up.length:=a;have h:wm (vw (X.xq X.v8 X.vM.dropLast)):=by
  have:vw (X.xq X.v8 X.vM.dropLast)=vw X:=aU AX.cr d;rw[this];exact G.I
 have q:(X.xq X.v8 X.vM.dropLast).vM=X.vM.dropLast:=aU AX.wt d;let⟨r,s⟩:=GK (n:=X.vM.getLastD 0) g h a (by rw[q,jM];omega);have f:X.xQ=(X.xq X.v8 X.vM.dropLast).AD (X.vM.getLastD 0):=by
  unfold HX.xQ HX.look;have:(X.xq X.v8 X.vM.dropLast).xe (X.vM.getLastD 0)=X.xq X.v8 X.vM.dropLast:=by
   unfold HX.xe;have b:(X.xq X.v8 X.vM.dropLast).made=X.vB.length:=G.W.md;have t:=G.n;rw[J (by rw[b];omega)]
  rw[this]
 have c:VW X.xQ=(VW X).xQ:=by rw[f,s,d];rfl
 refine⟨NC g h G.e ?_ a,sG (by rw[f];exact r) c A G.p G.l,?_,by rw[f];exact By _ _,c,by rw[c];exact o,a⟩
 .have b:=G.m
  have t:=G.l;show X.vH.length<=900;omega
 .have b:X.xQ.vB=(VW X).xQ.cr.vB:=aU (λx=>x.cr.vB) c
  rw[b];exact Ed _ _
theorem xU.add(G:xU X t u)(v:r∉X.vB)(y:∀k∈r.2,k<X.up.length)(z:r.2.length<=2)(L:zW r.1)(C:X.up.length<=7):yS (X.grow r) X.vB.length/\xU (X.add r) t u/\(X.add r).vB=X.vB++[r]/\(X.add r).vW=X.vW/\VW (X.add r)=((VW X).grow r).look X.vB.length:=by
 have f:=G.A.grow v y z L C;have f:yz ((VW X).grow r) t u (X.vB.length::((VW X).grow r).wt):=f;let⟨E,d⟩:=Py G.W G.I y z C f.I;have n1:=G.n;have F:wm (vw (X.wL r)):=by
  have:vw (X.wL r)=(vw X).grow r:=aU AX.cr d;rw[this];exact f.I
 have g:X.vB.length<(X.up++[X.up.length]).length:=by rw[aF];show _<_+1;omega
 have h:X.vB.length<(X.wL r).up.length:=by
  have:(X.wL r).up=X.up++[X.up.length]:=aU (λx=>x.cr.up) d;rw[this];exact g
 have M:(X.wL r).vM=X.vM:=aU AX.wt d;have e1:(X.wL r).vF=X.vF:=aU (λx=>x.cr.vF) d;have N:(X.wL r).vH.length<=900:=by
  have H:(VW (X.wL r)).ms.length=(VW X).ms.length:=aU (λx=>x.ms.length) d;have h2:(VW (X.wL r)).ms.length=(X.wL r).vH.length:=by show((X.wL r).vH.map _).reverse.length=_;simp
  have h3:(VW X).ms.length=X.vH.length:=by show(X.vH.map _).reverse.length=_;simp
  have:=G.m;have:=G.l;omega
 let⟨P,Q⟩:=GK (n:=X.vB.length) E F h (by rw[M];have:=G.w;omega);let⟨R,_⟩:=f.look (by show X.vB.length<((VW X).cr.grow r).up.length;exact g);have o:X.add r=(X.wL r).AD X.vB.length:=by
  unfold HX.add;rw[J v];rfl
 have q:VW (X.add r)=((VW X).grow r).look X.vB.length:=by rw[o,Q,d]
 have i:X.wL r={X.grow r with vC:=(X.wL r).vC,made:=(X.wL r).made}:=by
  unfold HX.wL HX.xe;split<;>rfl
 have j:=NC E F (by rw[e1];exact G.e) N h;have S:(X.wL r).vW=X.vW:=by
  have s:∀(l:X8) Y n,(l.foldl (HX.w7 n) Y).vW=Y.vW:=λl=>by
   induction l with
   |nil=>exactλY n=>rfl
   |cons c l T=>exactλY n=>T (Y.w7 n c) n
  rw[i];show(X.grow r).vW=_;rw[E1,s];rfl
 refine⟨?_,sG (by rw[o];exact P) q R G.p G.l,?_,?_,q⟩
 .have b:=j.z
  have a:=j.o;have hc:=j.c;have a0:(X.grow r).vC.length<=(X.wL r).vC.length:=by
   unfold HX.wL HX.xe;split
   .show _<=((X.grow r).vC++[_]).length
    rw[aF];omega
   .exact ao _
  rw[i]at a;have V:Af (X.grow r):=Af.congr a rfl rfl rfl rfl rfl rfl rfl;have K:=j.k;rw[i]at b K;exact⟨V,⟨⟨b.e,b.f,b.m,b.u,b.d⟩,b.k,by omega,b.r⟩,by omega,K,by rw[i]at h;exact h⟩
 .have H:(X.add r).vB=(((VW X).grow r).look X.vB.length).cr.vB:=aU (λx=>x.cr.vB) q
  rw[H];exact Ed _ _
 .rw[o,By];exact S
theorem xU.merge(G:xU X c h)(d:a<X.up.length)(f:b<X.up.length)(k:c.length<20):xU (X.join a b r) (c++[(a,b)]) h/\(X.join a b r).vB=X.vB/\(X.join a b r).vW=X.vW/\VW (X.join a b r)=(VW X).join a b r:=by
 let⟨i,g⟩:=GX (r:=r) G.W G.I d f (by have:=G.w;omega);have j:=G.A.tell (r:=r) d f;refine⟨sG i g j (by rw[aF];show _+1<=20;omega) G.l,?_,?_,g⟩
 .unfold HX.join HX.yW;dsimp only;split<;>rfl
 .unfold HX.join HX.yW;dsimp only;split<;>rfl
theorem xU.push(G:xU X a b)(f:b.length<20):xU X.push a ((X.vB.length,a.length)::b)/\VW X.push=(VW X).push:=by
 let⟨d,c⟩:=Oh G.W;exact⟨sG d c G.A.push G.p (by simp;omega),c⟩
theorem xU.pop(G:xU X N ((many,zU)::ls)):(∃a n pw,X.vH=a++[(n,pw)]/\a.length<=10000/\X.vC.length<=10000/\∀j,j<X.vC.length-n->M8 (HX.wu j {X with vH:=a,vW:=X.vW+1}))/\xU X.pop (N.take zU) ls/\X.pop.vB=X.vB.take many/\X.pop.vW=X.vW+1:=by
 have u:=G.m;have o:X.vH≠[]:=λe=>by rw[e]at u;simp at u
 obtain⟨a,p,e⟩:∃a p,X.vH=a++[p]:=⟨_,_,(cV o).symm⟩;let⟨n,pw⟩:=p;have f:(VW X).ms=(n,X.us pw)::(a.map λp=>(p.1,X.us p.2)).reverse:=by
  show(X.vH.map _).reverse=_;rw[e,aL,dN];rfl
 let⟨P,v,b⟩:=G.A.pop rfl f;have q:(VW X).cs.length=X.vC.length:=by show(X.vC.map (yH X)).reverse.length=_;simp
 rw[q]at P v b;have y:=λj z=>DY j X G.W G.I G.e G.A.h z;have M:=uo G.W G.I G.e;refine⟨⟨a,n,pw,e,?_,by omega,λj z=>?_⟩,?_⟩
 .have:X.vH.length=a.length+1:=by rw[e];simp
  have:=G.l;omega
 .let⟨k,C,e1,E,h,d⟩:=y j (by omega)
  rw[Bc];rw[e]at d;have i:=DW k d (X.vW+1);exact Xi i C e1 E
 .let⟨k,C,e1,E,h,d⟩:=y (X.vC.length-n) (by omega)
  rw[e]at d;let⟨i,F⟩:=Rm k d (X.vW+1);have H:X.pop={HX.wu (X.vC.length-n) X with vH:=a,vW:=X.vW+1,v8:=pw}:=by
   unfold HX.pop;have Q:X.vH.getLastD (0,0)=(n,pw):=by rw[e];simp
   have R:X.vH.dropLast=a:=by rw[e];simp
   dsimp only;rw[Q,R,Bc]
  have c:=aU AX.ms h;have c:((HX.wu (X.vC.length-n) X).vH.map λp=>(p.1,(HX.wu (X.vC.length-n) X).us p.2)).reverse=(VW X).ms:=c;rw[d,aL,dN,f]at c;have g:=List.cons.inj c;have r:(HX.wu (X.vC.length-n) X).us pw=X.us pw:=(Prod.mk.inj g.1).2;have s:vw (HX.wu (X.vC.length-n) X)=Cc (vw X) (VW X).cs (X.vC.length-n):=aU AX.cr h;have t:(VW (HX.wu (X.vC.length-n) X)).cs=(VW X).cs.drop (X.vC.length-n):=aU AX.cs h;rw[<-H]at i F;have L:VW X.pop=⟨Cc (vw X) (VW X).cs (X.vC.length-n),X.us pw,(VW X).cs.drop (X.vC.length-n),(a.map λp=>(p.1,X.us p.2)).reverse⟩:=by
   rw[F];exact mS s r t g.2
  refine⟨sG i L v ?_ ?_,?_,by rw[H]⟩
  .rw[bU];have:=G.p;omega
  .have:=G.l;simp at this;omega
  .have:X.pop.vB=(Cc (vw X) (VW X).cs (X.vC.length-n)).vB:=aU (λx=>x.cr.vB) L
   rw[this];exact b
structure AA(k:Nat)(X:HX)(C:CX)(Y:LX):Prop where
 G:xU X Y.v7 Y.v_.reverse
 r:Y.vB=X.vB
 r2:2<=Y.vB.length
 lv:∀l∈Y.v_,2<=l.1
 pl:Y.v7.length<=k
 ll:Y.v_.length<=k
 sn:Y.wz.length<=k/\Y.wz.length<=20
 sp:∀q∈Y.wz,q.1∈yx/\q.2.length<64/\∀m∈q.2,m∈zp Y.vB.length q.1
 ci:(C.vW=X.vW/\C.wz=Y.wz/\(∀q∈C.vH,q.1∈yx)/\C.vH.length<=k/\C.vH.length<=20/\∀p,xw (vw X) (C.xh p).1 (C.xh p).2 ((vJ C.wz p).getD []) p)\/(C.vW<X.vW/\Y.wz=[])
theorem MO(h:N<=M)(d:m∈zp N p):m∈zp M p:=by
 let⟨a,b,c⟩:=ku.mp d;exact ku.mpr ⟨by omega,b,λq e=>by have:=c q e;omega⟩
theorem AA.TL(F:AA k X C Y):XQ k X C Y:=by
 have a:=F.G.n;have c:X.up.length<=8:=F.G.I.n8;have m:=F.G.m;have l:=F.G.l;refine⟨hok F.G.W F.G.I,Qx F.G.W F.G.I F.G.e (by omega),F.r,⟨F.r2,by rw[F.r];omega⟩,F.pl,F.ll,λq b=>?_,by have:=F.sn.2;omega,F.sp⟩;have:=F.G.A.S.pb q b;rw[F.r,a];exact this
theorem AA.more(F:AA k X C Y):AA (k+1) X C Y:=
 {
  F with
  pl:=by have:=F.pl;omega
  ll:=by have:=F.ll;omega
  sn:=⟨by have:=F.sn.1;omega,F.sn.2⟩
  ci:=by
   rcases F.ci with⟨a,b,c,d,e,f⟩|h
   .exact .inl ⟨a,b,c,by omega,e,f⟩
   .exact .inr h}
theorem AA.next(F:AA k X C Y)(G:xU h g.v7 g.v_.reverse)(s:g.vB=h.vB)(j:Y.vB.length<=g.vB.length)(n:h.vW=X.vW)(i:g.wz=Y.wz)(lv:∀l∈g.v_,2<=l.1)(pl:g.v7.length<=k+1)(ll:g.v_.length<=k+1)(t:∀N e S p,xw (vw X) N e S p->xw (vw h) N e S p):AA (k+1) h C g:=by
 refine⟨G,s,by have:=F.r2;omega,lv,pl,ll,by rw[i];exact⟨by have:=F.sn.1;omega,F.sn.2⟩,λq o=>?_,?_⟩
 .rw[i]at o
  let⟨a,b,c⟩:=F.sp q o;exact⟨a,b,λm u=>MO j (c m u)⟩
 .rcases F.ci with⟨a,b,c,d,e,f⟩|⟨a,b⟩
  .exact .inl ⟨by rw[n];exact a,by rw[i];exact b,c,by omega,e,λp=>t _ _ _ _ (f p)⟩
  .exact .inr ⟨by rw[n];exact a,by rw[i];exact b⟩
theorem AA.w4(F:AA k X C Y):(C.w4 X).vW=X.vW/\(C.w4 X).wz=Y.wz/\(∀q∈(C.w4 X).vH,q.1∈yx)/\(C.w4 X).vH.length<=k/\(C.w4 X).vH.length<=20/\∀p,xw (vw X) ((C.w4 X).xh p).1 ((C.w4 X).xh p).2 ((vJ (C.w4 X).wz p).getD []) p:=by
 unfold CX.w4;rcases F.ci with⟨a,h⟩|⟨a,b⟩
 .rw[B a];exact⟨a,h⟩
 .rw[J (by omega),b]
  exact⟨rfl,rfl,λq c=>(nomatch c),bB _,bB _,λp=>D4 _ p⟩
theorem AA.ask(R:k<20)(F:AA k X C Y)(E:X.vM=[])(t:p∈yx):M_ X (C.w4 X) p/\(Y.ya p).length<64/\(C.w4 X).fresh X p=((Y.ya p).filter λm=>decide (m∉Y.vR p))/\((X.yy p).filter λm=>decide (m∈(C.w4 X).xN X p++(C.w4 X).fresh X p))=Y.ya p/\AA (k+1) X ((C.w4 X).zj X p) (Y.ask p):=by
 have T:=F.G.n;let⟨H,h,v,V,I,j⟩:=F.w4;have L:yL (vw X) Y.v7 []:=by have:=F.G.A.S;rw[E]at this;exact this
 have S:=Q3 F.G.I L;have w:Y.L=xx X.vB Y.v7:=by unfold LX.L;rw[F.r]
 have o:Y.ya p=xF X.vB (xx X.vB Y.v7) p:=by unfold LX.ya;rw[w,F.r]
 have i:=Hg F.G.W F.G.I S (j p);have u:=CJ F.G.W F.G.I S (j p);have W:=KC (p:=p) F.G.I S;have g:((vJ Y.wz p).getD []).length<64/\∀m∈(vJ Y.wz p).getD [],m∈zp Y.vB.length p:=by
  cases e:vJ Y.wz p with
  |none=>exact⟨by simp,λm d=>(nomatch d)⟩
  |some l=>exact⟨(F.sp _ (fG e)).2.1,(F.sp _ (fG e)).2.2⟩
 have M:(C.w4 X).xN X p=Y.vR p:=by
  unfold CX.xN LX.vR;rw[h];refine aK λm d=>?_;let⟨a,b,c⟩:=ku.mp (g.2 m d);rw[F.r]at a c;unfold HX.Ak conv;rw[w,S.eq _ a];congr 1;exact aK λq f=>by rw[S.eq _ (c q f)]
 have N:=Xw F.G.W F.G.I F.G.e S t (j p) (λq f=>(F.sp q (by rw[h]at f;exact f)).1) v (by rw[h];exact F.sn.2) I (by rw[h];exact g.1);have x:((X.yy p).filter λm=>decide (m∈(C.w4 X).xN X p++(C.w4 X).fresh X p))=Y.ya p:=by rw[i,o]
 refine⟨N,by rw[o];omega,by rw[u,o,M],x,?_⟩;have Q:=F.sn;have y:=CU (l:=Y.wz) (k:=p) (v:=Y.ya p);have A:=CU (l:=(C.w4 X).vH) (k:=p) (v:=(X.vB.length,X.vF.length));refine⟨F.G,F.r,F.r2,F.lv,iy F.pl,iy F.ll,⟨bg y (by omega),bg y (by omega)⟩,λq f=>?_,.inl ⟨H,?_,λq f=>?_,bg A (by omega),bg A (by omega),λq=>?_⟩⟩
 .rcases lq (show q∈wJ Y.wz p (Y.ya p)from f)with z|rfl
  .exact F.sp q z
  .refine⟨t,by show(Y.ya p).length<64;rw[o];omega,λm d=>?_⟩
   have d:m∈xF Y.vB Y.L p:=d;unfold xF at d;exact(aV.mp d).1
 .show wJ (C.w4 X).wz p _=wJ Y.wz p _
  rw[h];exact aU _ x
 .rcases lq (show q∈wJ (C.w4 X).vH p (X.vB.length,X.vF.length)from f)with z|rfl
  .exact v q z
  .exact t
 .show xw (vw X) ((vJ (wJ (C.w4 X).vH p (X.vB.length,X.vF.length)) q).getD (0,0)).1 ((vJ (wJ (C.w4 X).vH p (X.vB.length,X.vF.length)) q).getD (0,0)).2 ((vJ (wJ (C.w4 X).wz p _) q).getD []) q
  rw[fS,fS];by_cases e:q=p
  .rw[B e,B e,e]
   refine⟨ao _,ao _,X.vQ,λn s=>⟨?_,c_ (vw X) n,c_ (vw X) n⟩,λn s=>.inr ⟨s,rfl⟩,λm=>?_⟩
   .have s:n<X.vB.length:=s
    have:=fX F.G.I (a:=n) (by show n<X.up.length;omega);have:X.vQ n<X.up.length:=this;show X.vQ n<X.vB.length;omega
   .show m∈(X.yy p).filter _↔_
    rw[i];unfold xF;rw[aV,aM];have P:(vw X).vB.take X.vB.length=X.vB:=bX;show m∈zp X.vB.length p/\m∈A8 X.vB (xx X.vB Y.v7) p↔m∈zp X.vB.length p/\(∀q∈m.2,X.vQ q.2=q.2)/\Az ((vw X).vB.take X.vB.length) X.vQ p m.1 (val m.2);rw[P];constructor
    .rintro⟨a,b⟩;exact⟨a,(qC S a).mp b⟩
    .rintro⟨a,b⟩;exact⟨a,(qC S a).mpr b⟩
  .rw[J e,J e];exact j q
theorem AA.xQ(F:AA k X C Y)(h:X.vM≠[]):AA k X.xQ C Y/\(VW X.xQ).me<(VW X).me:=by
 let⟨_,G,i,g,j,l,m⟩:=F.G.xQ h;refine⟨⟨G,by rw[i];exact F.r,F.r2,F.lv,F.pl,F.ll,F.sn,F.sp,?_⟩,l⟩;rcases F.ci with⟨a,b,c,d,e,f⟩|⟨a,b⟩
 .refine .inl ⟨by rw[g];exact a,b,c,d,e,λp=>?_⟩
  have:vw X.xQ=(({VW X with wt:=(VW X).wt.dropLast}:AX).look ((VW X).wt.getLastD 0)).cr:=aU AX.cr j;rw[this];exact Ec _ F.G.I m (f p)
 .exact .inr ⟨by rw[g];exact a,b⟩
theorem JV:zW "f"/\zW "g"/\zW "a"/\zW "b":=by
 refine⟨⟨?_,?_,⟨_,rfl,?_⟩,?_⟩,⟨?_,?_,⟨_,rfl,?_⟩,?_⟩,⟨?_,?_,⟨_,rfl,?_⟩,?_⟩,⟨?_,?_,⟨_,rfl,?_⟩,?_⟩⟩<;>decide+kernel
theorem AA.add{r:Row}(F:AA k X C Y)(o:Y.vB.length<=7)(d:(∃a,r=(("f",[a]):Row)/\a<Y.vB.length)\/∃a b,r=(("g",[a,b]):Row)/\a<Y.vB.length/\b<Y.vB.length):(r∉X.vB->yS (X.grow r) X.vB.length)/\AA (k+1) (X.add r) C {Y with vB:=if r∈Y.vB then Y.vB else Y.vB++[r]}:=by
 have w:=F.G.n;rw[F.r]at o d;have f:∀x∈r.2,x<X.up.length:=λx i=>by
  rcases d with⟨a,rfl,h⟩|⟨a,b,rfl,j,l⟩
  .have:x=a:=by simpa using i
   omega
  .have:x=a\/x=b:=by simpa using i
   omega
 have m:r.2.length<=2:=by
  rcases d with⟨a,rfl,h⟩|⟨a,b,rfl,j,l⟩
  .show 1<=2;omega
  .show 2<=2;omega
 have n:zW r.1:=by
  rcases d with⟨a,rfl,h⟩|⟨a,b,rfl,j,l⟩
  .exact JV.1
  .exact JV.2.1
 by_cases c:r∈X.vB
 .refine⟨λh=>absurd c h,?_⟩
  have e1:X.add r=X:=by unfold HX.add;rw[B c]
  have g:(if r∈Y.vB then Y.vB else Y.vB++[r])=Y.vB:=B (by rw[F.r];exact c);rw[e1,g];exact F.more
 .let⟨q,G,s,t,u⟩:=F.G.add c f m n (by omega)
  refine⟨λ_=>q,?_⟩;have g:(if r∈Y.vB then Y.vB else Y.vB++[r])=Y.vB++[r]:=J (by rw[F.r];exact c);rw[g];refine F.next G (by rw[s];show Y.vB++[r]=_;rw[F.r]) (by show _<=(Y.vB++[r]).length;rw[aF];omega) t rfl F.lv (iy F.pl) (iy F.ll) λN e S p h=>?_;have:vw (X.add r)=(((VW X).grow r).look X.vB.length).cr:=aU AX.cr u;rw[this];have v:=F.G.A.grow c f m n (by show X.up.length<=7;omega);refine Ec _ v.I ?_ (Mq _ F.G.I f h);show X.vB.length<(X.up++[X.up.length]).length;rw[aF];show _<_+1;omega
theorem AA.merge{r:D}(l:k<20)(F:AA k X C Y)(c:a<Y.vB.length)(d:b<Y.vB.length):AA (k+1) (X.join a b r) C {Y with v7:=Y.v7++[(a,b)]}:=by
 have m:=F.G.n;rw[F.r]at c d;have j:=F.pl;let⟨G,f,g,i⟩:=F.G.merge (r:=r) (a:=a) (b:=b) (by omega) (by omega) (by omega);refine F.next G (by rw[f];exact F.r) (ao _) g rfl F.lv (by show(Y.v7++[_]).length<=_;rw[aF];show _+1<=_;omega) (iy F.ll) λN e S p h=>?_;have:vw (X.join a b r)=((VW X).join a b r).cr:=aU AX.cr i;rw[this];exact KH _ F.G.I (by show a<X.up.length;omega) (by show b<X.up.length;omega) h
theorem AA.push(d:k<20)(F:AA k X C Y):AA (k+1) X.push C {Y with v_:=Y.v_++[(Y.vB.length,Y.v7.length)]}:=by
 have c:=F.ll;let⟨G,a⟩:=F.G.push (by rw[List.length_reverse];omega);refine F.next ?_ F.r (ao _) rfl rfl (λl b=>?_) (iy F.pl) (by show(Y.v_++[_]).length<=_;rw[aF];show _+1<=_;omega) λN e S p h=>?_
 .show xU X.push Y.v7 (Y.v_++[(Y.vB.length,Y.v7.length)]).reverse
  rw[dN,F.r];exact G
 .rcases aB.mp (show l∈Y.v_++[_]from b)with q|q
  .exact F.lv l q
  .rw[aj.mp q];exact F.r2
 .have:vw X.push=vw X:=aU AX.cr a
  rw[this];exact h
theorem AA.pop(F:AA k X C Y)(b:Y.v_=ls++[(many,zU)]):(∃c n pw,X.vH=c++[(n,pw)]/\c.length<=10000/\X.vC.length<=10000/\∀j,j<X.vC.length-n->M8 (HX.wu j {X with vH:=c,vW:=X.vW+1}))/\AA (k+1) X.pop C ⟨Y.vB.take many,Y.v7.take zU,ls,[]⟩:=by
 have G:=F.G;rw[b,dN]at G;let⟨d,e,f,g⟩:=xU.pop (many:=many) (zU:=zU) (ls:=ls.reverse) G;have lv:=F.lv (many,zU) (by rw[b];simp);have r2:=F.r2;refine⟨d,e,by rw[f,<-F.r],?_,λl h=>F.lv l (by rw[b];exact aR _ h),?_,?_,⟨bB _,bB _⟩,λq i=>(nomatch i),.inr ⟨?_,rfl⟩⟩
 .show 2<=(Y.vB.take many).length
  have lv:2<=many:=lv;rw[bU];omega
 .show(Y.v7.take zU).length<=_
  have:=F.pl;rw[bU];omega
 .have m:=F.ll
  rw[b,aF]at m;show ls.length<=_;omega
 .rw[g]
  rcases F.ci with⟨a,_⟩|⟨a,_⟩<;>omega
theorem JG:xU HX.empty [] []:=by
 have I:wm (vw HX.empty):=
  {
   n1:=rfl,n2:=rfl,n8:=bB _,up:=λi h=>absurd h (mH _),nd:=cF,kid:=λn k a=>by simp[Cr.row,vw,HX.empty]at a,kl:=λn=>by simp[Cr.row,vw,HX.empty],op:=λr h=>(nomatch h)
   ln:=λi=>by simp[Cr.xH,vw,HX.empty],lm:=λi h=>absurd h (mH _),ud:=λx=>⟨λh=>(nomatch h),λh=>absurd h.1 (mH _)⟩,um:=λx l h=>(nomatch h),uc:=λx l h=>(nomatch h),mg:=⟨cF,λp h=>(nomatch h)⟩,fm:=rfl
   fe:=λx h=>(nomatch h),ee:=λx h=>(nomatch h),kn:=λs m h=>(nomatch h)}
 refine⟨{w:=Nat.zero_lt_one,u1:=λc i h=>(nomatch h),u2:=λc d i h=>(nomatch h),uk:=cF,r1:=cF,r2:=λi h=>(nomatch h),ec:=λk m g i h=>(nomatch h),kk:=cF,md:=rfl,cl:=rfl,dl:=λi=>?_,wl:=rfl,dp:=rfl,wb:=λi=>bB _},⟨I,?_,bB _,trivial,trivial⟩,bB _,bB _⟩
 .cases i<;>exact bB _
 .exact⟨λp h=>(nomatch h),λf b i=>by
   have:(VW HX.empty).cr.vQ i=i:=lB (by show¬([]:X8).getD i i<i;simp);rw[this],λs m h=>(nomatch h),λn h=>absurd h (mH _),λn h=>(nomatch h),bB _,λp h=>(nomatch h)⟩
def nW:=@JG
theorem Xo:Laws AA λX=>(VW X).me:=by
 refine⟨?_,λF=>F.TL,λF c=>(F.G.xQ c).1,λF c=>F.xQ c,λF=>F.more,λb F c f=>F.ask b c f,λb F g i=>F.add g i,λb F j m=>F.merge b j m,λb F=>F.push b,λb F n=>F.pop n⟩;let⟨o,a,d,u,_⟩:=nW.add (r:=(("a",[]):Row)) (λh=>(nomatch h)) (λk h=>(nomatch h)) (bB _) JV.2.2.1 (bB _);have d:(HX.empty.add ("a",[])).vB=[(("a",[]):Row)]:=d;have v:(HX.empty.add ("a",[])).up.length=1:=by rw[<-a.n,d];rfl
 have r:(("b",[]):Row)∉[(("a",[]):Row)]:=by decide+kernel
 let⟨s,t,e,w,_⟩:=a.add (r:=(("b",[]):Row)) (by rw[d];exact r) (λk h=>(nomatch h)) (bB _) JV.2.2.2 (by omega);rw[d]at e;refine⟨⟨hok nW.W nW.I,Qx nW.W nW.I (bB _) (bB _),o⟩,hok a.W a.I,Qx a.W a.I a.e (by rw[a.m];exact bB _),s,?_⟩;exact⟨t,e.symm,ao _,λl h=>(nomatch h),ao _,ao _,⟨ao _,bB _⟩,λq h=>(nomatch h),.inl ⟨rfl,rfl,λq h=>(nomatch h),ao _,bB _,λp=>D4 _ p⟩⟩
def zK:Fd 618:=⟨_,rfl⟩
theorem UE{w:Yz}:wK w 618 zK.1 ["script"]:=.ok zK
theorem PD{w:Yz}:nsIn (KF w) mainGlobals "Levels"=some (some (.ref 556)):=by kernel_rfl
theorem Mr{w:Yz}:nsIn (KF w) mainGlobals "Changes"=some (some (.ref 272)):=by kernel_rfl
theorem V7:zW "a":=⟨Uv,by decide+kernel,⟨_,by rfl,by decide+kernel⟩,by decide+kernel⟩
theorem V6:zW "b":=⟨Uu,by decide+kernel,⟨_,by rfl,by decide+kernel⟩,by decide+kernel⟩
def AM(a:List Int):X8:=(a.take 60).map λx=>(x.fmod 1000003).toNat
theorem JI(a:List Int):(a.take 60).map (λx=>D.int (x.fmod 1000003))=vG (AM a):=by
 unfold AM vG;rw[bD];refine aK λx _=>?_;have:0<=x.fmod 1000003:=by rw[qV _ (by decide)];exact Int.emod_nonneg _ (by decide)
 show D.int (x.fmod 1000003)=D.int ((x.fmod 1000003).toNat:Nat);congr 1;omega
theorem WS.Vv(h:WS a b X d C e Y ((n,c)::R)):WS (a.put n c') b X d C e Y ((n,c')::R):=by
 unfold WS at h⊢;rw[<-cY]at h⊢;exact h.Vw
theorem WS.swap(h:WS c d X e C f Y (a::b::R)):WS c d X e C f Y (b::a::R):=by
 unfold WS at h⊢;rw[<-cY]at h⊢;exact h.perm (tB _ (.swap _ _ _))
theorem WS.at(h:WS a b X d C e Y R)(m:(n,c)∈R):a.μ n=some c:=HL.at h (aN _ (aN _ m))
theorem GE.Xk{t many g:Nat}(h:WS l p X q C s Y ((g,.wc (xV e t))::R))(u:we (r+1) A)(m:c.scope=S)(v:GI S "_law_spin")(x:look S.names n "wheel"=some (.ref g))(y:PE w A c n l (eval arg c) (.int many))(z:0<many)(i:many<1000)(E:e.length<=1000)(F:t<=1000)(G:TN (.Name "wheel" o) arg c:=by rfl)(H:A7 arg c:=by rfl)(j:Vp k (.Name "wheel" o) arg c:=by rfl):
 GE w A c n l (eval (.Call (.Name "_law_spin" I) [.Name "wheel" o,arg] [] k) c) λd f=>d= .int (zX e t many)/\WS f p X q C s Y ((g,.wc (xV e (t+1)))::R):=
 lT (dJ m v U8) IE.2 u (eZ (bE G H (O m x) y) ((QZ (h.at (.head _)) z i E F).room (by omega) |>.mono λd f ⟨a,b⟩=>⟨a,by rw[b];exact h.Vv⟩)) (hns:=j)
def qk:=@GE.Xk
theorem GE.st(h:GE w A a e f t P):GE w A a e f (do let x <-t;standAt n;pure x) P:=λg R i s E Q F k=>Z (h g R i s E _ F λv j l b d c x m r p=>Z (aX (U (k v j l b d c x m r p))))
def rB:=@GE.st
section
variable{Good:Nat->HX->CX->LX->Prop}
set_option maxHeartbeats 4000000 in
theorem UY(V:Laws Good m)(hx:H.length<=63)(c0:∀(A:YA) (y:Env),y.scope=zK.1.scope->we 59 A->∀(i:Yv) (u:S9) (o:LN) (r:Nat) (σ:St) (X:HX),Good 0 X ⟨[],[],X.vW⟩ ⟨[("a",[]),("b",[])],[],[],[]⟩->(AM H).length<=60->WS σ i X u ⟨[],[],X.vW⟩ o ⟨[("a",[]),("b",[])],[],[],[]⟩ [(r,.wc (xV (AM H) 0))]->SE w A y (vr "world" (.ref o.w)::vr "heap" (.ref (i .heap))::vr "wheel" (.ref r)::[vr "script" (.vK (H.map D.int))]) σ (execs ((xm zK.1.body).drop 5) y) (λ_ _=>False) (λd _=>d= .bool true)):CF w 60 (.ref 618) [.vK (H.map D.int)] σ λd _=>d= .bool true:=by
 refine je UE λA y M he=>?_;have v:=he.scope;have hA:=M.handled;have o0:y.blockKind= .function:=by unfold Env.blockKind;rw[v];rfl
 let k:=AM H;have g0:k.length<=60:=by show(List.map _ (H.take 60)).length<=60;rw[az];exact jV _ _
 let h0:Md:=[vr "script" (.vK (H.map D.int))];let Y:Nat->Md:=λr=>vr "wheel" (.ref r)::h0;refine aq (M:=λj f=>∃r,j=Y r/\f.μ r=some (.wc (xV k 0))) (fC v rfl (tO (FE.dict (c:=1) M (v7:=[(_,_),(_,_)]) ?_ rfl (by simp) (by simp)))) ?_
 .refine lC (P1:=λd f=>d= .vK (vG k)/\f=σ) (cS (n:=0) (pos:=⟨0,0,0,0⟩)) (rB (PE.ge (jq (ds:=vG k) ((jT (S:=zK.1.scope) (tg:=wH) (lk:=none) (H.take 60) D.int (λx=>.int (x.fmod 1000003)) v ⟨by rfl,by rfl,by decide+kernel,by rfl,by rfl⟩
   (eW hA (pJ (oF (b:=60) (O v rfl) .f bC (by simp;omega))) (.inl (by rw[iR]))) trivial rfl (by simp;omega) λn0 hc x hx=>?_).mono λt f e=>⟨e.1.trans (JI H),e.2⟩)))) λd1 a0 ⟨e1,e2⟩=>lC (P1:=λd f=>d= .int 0/\f=a0) (cS (n:=0) (pos:=⟨0,0,0,0⟩)) (rB bC.ge) λd2 b0 ⟨e3,e4⟩=>Qq.nil ⟨?_,by simp,λn G=>?_⟩
  .exact⟨_,fP hc rfl rfl,cI (jw (WN hc rfl) (bq rfl (O hc rfl)) JA) bC (Iw (by decide))⟩
  .intro p W;simp at W;rcases W with rfl|rfl<;>rfl
  .subst e1 e2 e3 e4
   refine⟨n,rfl,(cj _ _ _).trans (aU (λl=>some (wQ.wc l)) ?_)⟩;exact Ad [(D.str "cells",D.vK (vG k)),(D.str "turn",D.int 0)] [] (by
    show[D.str "cells",D.str "turn"].Nodup;refine bx.mpr ⟨λh=>?_,by simp⟩;have:=str_inj _ _ (aj.mp h);exact absurd this (by decide+kernel))
 rintro j a0 ⟨r,rfl,i0⟩;let z:List (Nat×wQ):=[(r,.wc (xV k 0))];let L:Nat->Nat->Md:=λr h=>vr "heap" (.ref h)::Y r;refine aq (M:=λj f=>∃i,j=L r (i .heap)/\HL f i HX.empty z) (fC v rfl (mY (dJ v rfl PD) rfl M (eZ bG (((Jt (F:=λn c=>(n,c)∈z) λn c q=>by
  obtain⟨rfl,rfl⟩:n=r/\c= .wc (xV k 0):=by simpa[z]using q
  exact i0).room (by omega)).mono λd f ⟨i,e,h⟩=>⟨i,by rw[e],h,by simp[z]⟩)))) ?_
 rintro j b0 ⟨i,rfl,H2⟩;let⟨⟨i1,i2,i3⟩,i4,i5,i6,iG⟩:=V.ini;let X1:HX:=HX.empty.add ("a",[]);let I:HX:=X1.add ("b",[]);refine aq (M:=λj f=>∃i,j=L r (i .heap)/\HL f i X1 z) (eK v (cU (O v rfl) (H2.1.get .heap _ rfl) (H2.1.get .wN _ rfl) Tj rfl Ga.2 M (eZ (bq rfl (bK (bq rfl cS))) (((Nx i1 i2 V7 λ_=>i3) b0 i _ H2.1).room (by omega) |>.mono λd f ⟨_,N,ag,H'⟩=>⟨N,by rw[ag .heap rfl],H',H2.2⟩)))) ?_;rintro j j0 ⟨i,rfl,H3⟩;refine aq (M:=λj f=>∃i,j=L r (i .heap)/\HL f i I z) (eK v (cU (O v rfl) (H3.1.get .heap _ rfl) (H3.1.get .wN _ rfl) Tj rfl Ga.2 M (eZ (bq rfl (bK (bq rfl cS))) (((Nx i4 i5 V6 λ_=>i6) j0 i _ H3.1).room (by omega) |>.mono λd f ⟨_,N,ag,H'⟩=>⟨N,by rw[ag .heap rfl],H',H3.2⟩)))) ?_;rintro j k0 ⟨i,rfl,H4⟩;let C:LX:=⟨[("a",[]),("b",[])],[],[],[]⟩;let P:CX:=⟨[],[],I.vW⟩;have l0:∀h S (o:LN),([(D.str "heap",D.ref h),(.str "changes",.ref S),(.str "rows",.ref o.vB),(.str "pairs",.ref o.v7),(.str "levels",.ref o.v_),(.str "seen",.ref o.wz)]:Yh).foldl (λa p=>wM a p.1 p.2) []=sD (yV h S o):=λh S o=>by
  have e:=Ad (sD (yV h S o)) [] (by
   show((yV h S o).map λp=>(D.str p.1,p.2)).map (·.1) |>.Nodup;rw[bD];have:((yV h S o).map ((·.1)∘λp=>(D.str p.1,p.2)))=(["heap","changes","rows","pairs","levels","seen"]:Ye).map D.str:=rfl;rw[this];refine b5.mpr (List.Pairwise.imp (λne e=>ne (str_inj _ _ e)) (?_:List.Nodup _))
   decide+kernel)
  exact e
 refine aq (M:=λj f=>∃i u o,j=vr "world" (.ref o.w)::L r (i .heap)/\WS f i I u P o C z) (fC v rfl (tO (FE.dict (c:=1) M (v7:=[(_,_),(_,_),(_,_),(_,_),(_,_),(_,_)]) ?_ rfl (by simp) (by simp)))) ?_
 .let T:Pos:=⟨0,0,0,0⟩
  refine lC (P1:=λd f=>d= .ref (i .heap)/\f=k0) (cS (n:=0) (pos:=T)) (rB (PE.ge (O v rfl))) λd0 s0 ⟨e0,f0⟩=>?_;subst e0 f0;refine lC (P1:=λd f=>∃u,d= .ref u.ch/\HL f i I (zH (i .heap) u P++z)) (cS (n:=0) (pos:=T)) (rB (mY (dJ v rfl Mr) rfl M (eZ (bq rfl (O v rfl)) ((Ie H4).room (by omega))))) λd1 s1 ⟨u,e1,G1⟩=>?_;subst e1;refine lC (P1:=λd f=>∃a,d= .ref a/\HL f i I ((a,.vK (C.vB.map vP))::(zH (i .heap) u P++z))) (cS (n:=0) (pos:=T)) (rB (kg (jg (bE rfl rfl (bK (bq rfl cS)) (bK (bq rfl cS)))) λn G=>⟨n,rfl,G1.new G⟩)) λd2 s2 ⟨a,e2,G2⟩=>?_;subst e2;refine lC (P1:=λd f=>∃b,d= .ref b/\HL f i I ((b,.vK (C.v7.map xB))::(a,.vK (C.vB.map vP))::(zH (i .heap) u P++z))) (cS (n:=0) (pos:=T)) (rB (kg (jg bG) λn G=>⟨n,rfl,G2.new G⟩)) λd3 s3 ⟨b,e3,G3⟩=>?_;subst e3;refine lC (P1:=λd f=>∃c,d= .ref c/\HL f i I ((c,.vK (C.v_.map xB))::(b,.vK (C.v7.map xB))::(a,.vK (C.vB.map vP))::(zH (i .heap) u P++z))) (cS (n:=0) (pos:=T)) (rB (kg (jg bG) λn G=>⟨n,rfl,G3.new G⟩)) λd4 s4 ⟨c,e4,G4⟩=>?_;subst e4;refine lC (P1:=λd f=>∃e,d= .ref e/\HL f i I ((e,.wc (y_ C.wz))::(c,.vK (C.v_.map xB))::(b,.vK (C.v7.map xB))::(a,.vK (C.vB.map vP))::(zH (i .heap) u P++z))) (cS (n:=0) (pos:=T)) (rB (oq jy λn G=>⟨n,rfl,G4.new G⟩)) λd5 s5 ⟨e,e5,G5⟩=>?_;subst e5;refine Qq.nil ⟨λp W=>?_,by simp,λn G=>?_⟩
  .simp at W;rcases W with rfl|rfl|rfl|rfl|rfl|rfl<;>rfl
  .let o:LN:=⟨n,a,b,c,e⟩
   refine⟨i,u,o,rfl,?_⟩;rw[l0 (i .heap) u.ch o];refine(G5.new G).perm (.cons _ ?_);show List.Perm ((e,_)::(c,_)::(b,_)::(a,_)::_) ((a,_)::(b,_)::(c,_)::(e,_)::_);refine(d9 (l₁:=[(e,_),(c,_),(b,_)])).trans (.cons _ ?_);refine(d9 (l₁:=[(e,_),(c,_)])).trans (.cons _ ?_);exact .swap _ _ _
 rintro j m0 ⟨i,u,o,rfl,H5⟩;exactλg R ρ s E Q F k1 k2=>c0 A y v M i u o r m0 I iG g0 H5 g R ρ s E Q F (λs' g' R' p0 j f x F so q=>q.elim) k2
end
theorem Ol(h:n<7):∃p,yx[n]? =some p/\p∈yx:=⟨yx[n]'h,au h,bT _⟩
theorem Q0(h:0<many):zX cells t many<many:=qI _ h
def oz:=@Q0
section
variable{Good:Nat->HX->CX->LX->Prop}
theorem WS.new(h:WS a b X d C e Y R)(f:a.μ n=none):WS (a.put n c) b X d C e Y ((n,c)::R):=by
 have:=HL.new (c:=c) h f;unfold WS;rw[<-cY]at this⊢;exact this.perm d9.symm
abbrev M3(b:List Int)(c h d a e:Nat):Md:=vr "some" (.ref e)::vr "laps" (.int a)::vr "world" (.ref d)::vr "heap" (.ref h)::vr "wheel" (.ref c)::[vr "script" (.vK (b.map D.int))]
abbrev R2(b t c:Nat)(a:X8)(d:List Pt):List (Nat×wQ):=[(b,.wc (xV a t)),(c,.vK (d.map Pt.enc))]
def VL(Good:Nat->HX->CX->LX->Prop)(a:X8)(d:List Pt)(e h f g k t:Nat)(i:St):Prop:=∃b X j C c Y,b .heap=h/\c.w=f/\Good k X C Y/\WS i b X j C c Y (R2 e t g a d)
theorem RZ(t:v.scope=zK.1.scope)(R:we 59 A)(G:Good 0 X C Y)(hc:c.length<=60)(H:WS σ o X E C r Y [(s,.wc (xV c 0))])(h:∀u z k f,z<=12->k.length=2->(∀p∈k,p∈yx)->VL Good c k s (o .heap) r.w u 0 3 f->SE w A v (M3 L s (o .heap) r.w z u) f (execs (((xm zK.1.body).drop 7)) v) N P):SE w A v (vr "world" (.ref r.w)::vr "heap" (.ref (o .heap))::vr "wheel" (.ref s)::[vr "script" (.vK (L.map D.int))]) σ (execs ((xm zK.1.body).drop 5) v) N P:=by
 have hA:=R.handled;have T:v.blockKind= .function:=by unfold Env.blockKind;rw[t];rfl
 let a0:Md:=vr "world" (.ref r.w)::vr "heap" (.ref (o .heap))::vr "wheel" (.ref s)::[vr "script" (.vK (L.map D.int))];let I:=6+zX c 0 7;have V:I<=12:=by have:=oz (cells:=c) (t:=0) (many:=7) (by omega);show 6+_<=12;omega
 refine aq (M:=λg f=>∃u,g=M3 L s (o .heap) r.w I u/\WS f o X E C r Y (R2 s 1 u c [])) (dj (pP (names:=["laps","some"]) hA (nG (b_ (P1:=λd m=>d= .int I/\WS m o X E C r Y [(s,.wc (xV c 1))]) rfl (GE.binop (P1:=λd m=>d= .int 6/\m=σ) bC.ge λd1 m ⟨e1,M⟩=>?_) λd m ⟨e,S⟩=>
  b_ (P1:=λd l=>∃n,d= .ref n/\WS l o X E C r Y (R2 s 1 n c [])) rfl (kg (jg bG) λn hn=>⟨n,rfl,(S.new hn).swap⟩) λd2 l ⟨n,M,y⟩=>gu ⟨by simp,_,.vV,rfl,?_⟩)) (by
   unfold swappedStores Env.kindOf;rw[T,t]
   rfl))) ?_
 .subst e1 M
  refine(qk (many:=7) H R t rfl rfl bC (by decide) (by decide) (by omega) (by decide)).mono λd2 l ⟨a,b⟩=>?_;subst a;exact⟨_,lQ,by show D.int _=D.int _;congr 1,b⟩
 .subst e M
  exact bZ (lR t rfl (bZ (lR t rfl (gW ⟨M3 L s (o .heap) r.w I n,by repeat (first|exact iH|refine gX rfl ?_),n,rfl,y⟩))))
 rintro g m ⟨u,rfl,S⟩;let x:Md:=M3 L s (o .heap) r.w I u;refine aq (M:=λg f=>g=x/\∃k,k.length=2/\(∀p∈k,p∈yx)/\WS f o X E C r Y (R2 s 3 u c k)) (iD (lk:=none) (tg:=wH) (ds:=(List.range 2).map λi=>D.int (i:Nat)) (λj g f=>g=x/\∃k,k.length=j/\(∀p∈k,p∈yx)/\WS f o X E C r Y (R2 s (1+j) u c k)) (eW hA (rP (n:=2) t rfl bC) (.inr (.inr (.inl ⟨_,_,rfl,by simp,by decide,by decide⟩)))) ⟨rfl,[],rfl,λp h=>(nomatch h),S⟩ ?_ ?_) ?_
 .rintro j d g l hd ⟨rfl,k,F,Q,y⟩
  obtain⟨j',hj,rfl,_⟩:=cB hd;have b0:j<2:=by have:=(aP.mp hj).1;simpa using this
  let⟨q,hq,W⟩:=Ol (oz (cells:=c) (t:=1+j) (many:=7) (by decide));refine⟨vr "k" (.int j')::x,ig t rfl,dj (aq (M:=λg f=>g=vr "k" (.int j')::x/\WS f o X E C r Y (R2 s (1+(j+1)) u c (k++[q]))) (eK t (e_ (O t rfl) (y.at (.tail _ (.head _))) (GE.sub (P1:=λd f=>d= .vV (yx.map Pt.enc)/\f=l) (gF (dJ t rfl U9) IG.2 bG Ro (R.mono (by omega))).ge λd1 m ⟨e1,M⟩=>?_))) λg f ⟨e,h⟩=>bw ⟨x,by rw[e];exact dW rfl,rfl,k++[q],by simp[F],λp h=>(aB.mp h).elim (Q p) λh=>by rw[aj.mp h];exact W,h⟩)⟩;subst e1 M;refine(qk (many:=7) y R t rfl rfl bC (by decide) (by decide) (by omega) (by omega)).mono λd2 c0 ⟨a,b⟩=>?_;subst a;have d0:=oz (cells:=c) (t:=1+j) (many:=7) (by decide);refine⟨q.enc,KN (j:=zX c (1+j) 7) (by
   have:(yx.map Pt.enc).length=7:=by rfl
   rw[this];simp[seqIndex?];omega) (by rw[a_,hq];rfl) (by omega) (by omega),⟨_,b.at (.tail _ (.head _)),by simp[F];omega,rfl,?_⟩,.inr (.inr (.inl ⟨_,rfl⟩))⟩
  have:=(b.swap.Vv (c':=.vK ((k++[q]).map Pt.enc))).swap;have e:(k++[q]).map Pt.enc=k.map Pt.enc++[q.enc]:=by simp
  rw[<-e];exact this
 .rintro g l ⟨rfl,k,F,Q,y⟩
  rw[az,cW]at F y;exact⟨rfl,k,F,Q,y⟩
 rintro g l ⟨rfl,k,F,Q,y⟩;exact h u I k l V F Q ⟨o,X,E,C,r,Y,rfl,rfl,G,y⟩
end
section
variable{Good:Nat->HX->CX->LX->Prop}
def Ck(Good:Nat->HX->CX->LX->Prop)(a:X8)(b:List Pt)(c h d e k:Nat)(f:St):Prop:=∃t,t<=3+4*k/\VL Good a b c h d e k t f
def So:Stmt->List Stmt
 | .For _ _ b _ _=>b
 |_=>[]
abbrev R7:List Stmt:=So (((xm zK.1.body).drop 7).headD (.Pass ⟨0,0,0,0⟩))
abbrev XE(e:List Int)(f h g b i j N c d a:Nat):Md:=vr "way" (.int c)::vr "one" (.int d)::vr "other" (.int a)::vr "many" (.int N)::vr "is_right" (.bool true)::vr "lap" (.int j)::M3 e f h g b i
theorem UZ(V:Laws Good m)(k:P.scope=zK.1.scope)(Q:we 59 A)(hc:g.length<=60)(k0:E.length=2)(r0:∀p∈E,p∈yx)(hj:j<12)(I:Ck Good g E L h wn y j σ):SE w A P (vr "lap" (.int j)::M3 xs L h wn laps y) σ (execs R7 P) (λi f=>Md.le (M3 xs L h wn laps y) i/\Ck Good g E L h wn y (j+1) f) (λd _=>d= .bool true):=by
 obtain⟨t,ht,z,X,nc,C,u,Y,rfl,rfl,G,H⟩:=I;have hA:=Q.handled;have l0:P.blockKind= .function:=by unfold Env.blockKind;rw[k];rfl
 have c:=V.TL G;have hN:=c.rl;let N:=Y.vB.length;let m0:=M3 xs L (z .heap) u.w laps y;let t0:Md:=vr "lap" (.int j)::m0;refine aq (M:=λi f=>i=vr "many" (.int N)::vr "is_right" (.bool true)::t0/\f=σ) (pP (names:=["many","is_right"]) hA ((bK (bE rfl rfl (eY (n:=N) k rfl (jr H Q k rfl (.tail _ (.tail _ (.head _)))) (.vK (.m H.vB)) (by simp;rfl) (by show N<=_;omega)) kQ)).g ⟨_,.vV,rfl,bZ (lR k rfl (bZ (lR k rfl (gW ⟨rfl,rfl⟩))))⟩) (by
  unfold swappedStores Env.kindOf;rw[l0,k]
  rfl)) ?_
 rintro i b1 ⟨rfl,rfl⟩;let o:=zX g t 7;let s:=zX g (t+1) N;let l:=zX g (t+2) N;have h0:0<N:=by show 0<Y.vB.length;omega
 have n0:N<1000:=by show Y.vB.length<1000;omega
 have a1:o<7:=oz (by decide);have c0:s<N:=oz h0;have R:l<N:=oz h0;refine aq (M:=λi f=>i=XE xs L (z .heap) u.w laps y j N o s l/\WS f z X nc C u Y (R2 L (t+3) y g E)) (pP (names:=["way","one","other"]) hA (nG (b_ rfl (qk (many:=7) H Q k rfl rfl bC (by decide) (by decide) (by omega) (by omega)) λd1 s1 ⟨e1,H1⟩=>
  b_ rfl (qk (many:=N) H1 Q k rfl rfl (O k rfl) h0 n0 (by omega) (by omega)) λd2 s2 ⟨e2,M⟩=>
  b_ rfl (qk (many:=N) M Q k rfl rfl (O k rfl) h0 n0 (by omega) (by omega)) λd3 s3 ⟨e3,S⟩=>gu ⟨by simp,_,.vV,rfl,?_⟩)) (by
   unfold swappedStores Env.kindOf;rw[l0,k]
   rfl)) ?_
 .subst e1 e2 e3
  exact bZ (lR k rfl (bZ (lR k rfl (bZ (lR k rfl (gW ⟨rfl,S⟩))))))
 rintro i i0 ⟨rfl,M⟩;let v:Md:=XE xs L (z .heap) u.w laps y j N o s l;let F:Md:=vr "is_right" (.bool true)::m0;have j0:Md.le F v:=by repeat (first|exact iH|refine gX rfl ?_)
 have hk:j<20:=by omega
 have o0:∀{σ} {p0},PE w A P v σ (eval (.Name "heap" p0) P) (.ref (z .heap)):=λ{_ _}=>O k rfl;have c1:=c.pl;have g1:=c.ll;refine aq (M:=λi f=>i=F/\Ck Good g E L (z .heap) u.w y (j+1) f) (dj (dH (bf (O k rfl) bC k8) (λq=>?_) λq3=>aq (dH (bf (O k rfl) bC k8) (λq=>?_) λq4=>aq (dH (bf (O k rfl) bC rA) (λq=>?_) λq5=>aq (dH (rL (lY (bf (O k rfl) bC k8) λ_=>lY (bf (O k rfl) bC rA) λ_=>PB.or_nil)) (λq=>?_) λq=>?_) λ_ _ q=>bw q) λ_ _ q=>bw q) λ_ _ q=>bw q)) ?_
 .let T:LX:={Y with v_:=Y.v_++[(Y.vB.length,Y.v7.length)]}
  refine aq (M:=λi f=>i=v/\WS f z X nc C u T (R2 L (t+3) y g E)) (eK k (e_ (jr M Q k rfl (.tail _ (.tail _ (.tail _ (.tail _ (.head _)))))) M.v_ ((bK (bE rfl rfl (O k rfl) (eY (n:=Y.v7.length) k rfl (jr M Q k rfl (.tail _ (.tail _ (.tail _ (.head _))))) (.vK (.m M.v7)) (by simp) (by omega)))).g ⟨_,M.v_,by simp;omega,rfl,?_⟩))) ?_
  .have:=jf (L1:=[(u.w,.wc (sD (yV (z .heap) nc.ch u))),(u.vB,.vK (Y.vB.map vP)),(u.v7,.vK (Y.v7.map xB))]) (n:=u.v_) (c':=.vK (T.v_.map xB)) M
   have e:Y.v_.map xB++[.vV [.int (N:Nat),.int (Y.v7.length:Nat)]]=T.v_.map xB:=by simp only[T,aL];rfl
   rw[e];exact this
  rintro i W ⟨rfl,S⟩;refine aq (M:=λi f=>i=v/\Ck Good g E L (z .heap) u.w y (j+1) f) (eK k (cU o0 (S.1.get .heap _ rfl) (S.1.get .wN _ rfl) UT rfl IF.2 Q (eZ bG (((Rj c.Z) W z _ S.1).room (by omega) |>.mono λd f ⟨_,x,ag,H'⟩=>⟨rfl,t+3,by omega,x,X.push,nc,C,u,T,ag .heap rfl,rfl,V.push hk G,by unfold WS;rw[ag .heap rfl];exact⟨H',S.2⟩⟩)))) λi f ⟨e,h⟩=>bw ⟨F,by rw[e];exact j0,rfl,h⟩
 .refine aq (M:=λi f=>i=v/\Ck Good g E L (z .heap) u.w y (j+1) f) (eK k (lT (dJ k rfl Wo) Ng.2 Q (eZ (bq rfl (O k rfl)) (((NU V hk G M).room (by omega)).mono λd f ⟨_,X',C',Y',x,a0,b0,ew,eh,G',H'⟩=>⟨rfl,t+3,by omega,x,X',a0,C',b0,Y',eh,ew,G',H'⟩)))) λi f ⟨e,h⟩=>bw ⟨F,by rw[e];exact j0,rfl,h⟩
 .let b:Bool:=decide ((o:Int)=6)&&decide (Int.fmod ((s:Int)+l) 2=1)
  obtain⟨qp,hq,u0⟩:∃q,E[zX g (t+3) 2]? =some q/\q∈yx:=by
   have hl:zX g (t+3) 2<E.length:=by rw[k0];exact oz (by decide)
   exact⟨_,au hl,r0 _ (bT hl)⟩
  refine aq (M:=λi f=>i=vr "is_right" (.bool true)::v/\Ck Good g E L (z .heap) u.w y (j+1) f) (fC k rfl (lT (dJ k rfl Tt) Gb.2 Q (b_ (P1:=λd f=>d= .ref u.w/\f=i0) rfl (O k rfl).ge λd1 s1 ⟨e1,f1⟩=>b_ (P1:=λd f=>d=qp.enc/\WS f z X nc C u Y (R2 L (t+4) y g E)) rfl (GE.sub (P1:=λd f=>d= .ref y/\f=i0) ?_ λd0 s0 ⟨e0,f0⟩=>?_) λd2 s2 ⟨e2,S⟩=>b_ (P1:=λd f=>d= .bool b/\f=s2) rfl (PE.ge (sy (iX (O k rfl) bC k8) (λq6=>?_) λq6=>?_)) λd3 s3 ⟨e3,f3⟩=>gu ?_))) λi f ⟨e,h⟩=>bw ⟨F,by rw[e];repeat (first|exact iH|refine gX rfl ?_),rfl,h⟩
  .subst e1 f1;exact(O k rfl).ge
  .subst e0 f0
   subst f1;refine(qk (many:=2) M Q k rfl rfl bC (by decide) (by decide) (by omega) (by omega)).mono λd4 s4 ⟨a,H4⟩=>?_;subst a;have g0:=H4.at (n:=y) (c:=.vK (E.map Pt.enc)) (.tail _ (.head _));exact⟨qp.enc,KO (.m g0) (by omega) (by show(E.map Pt.enc)[zX g (t+3) 2]? =_;rw[a_,hq];rfl) (by simp[k0]),⟨rfl,H4⟩,.inl ⟨_,.m g0⟩⟩
  .have:b=decide (Int.fmod ((s:Int)+l) 2=1):=by show(_&&_)=_;rw[q6];rfl
   rw[this];exact iX (cI (cI (O k rfl) (O k rfl) lQ) bC (Iw (by decide))) bC k8
  .have:b=false:=by show(_&&_)=_;rw[q6];rfl
   rw[this]
  .subst e1 e2 e3 f3
   exact((Ht V hk G u0 S).room (by omega)).mono λd f ⟨e,X',C',Y',x,a0,b0,ew,eh,G',H'⟩=>⟨by rw[e],t+4,by omega,x,X',a0,C',b0,Y',eh,ew,G',H'⟩
 .let T:LX:={Y with v7:=Y.v7++[(s,l)]}
  refine aq (M:=λi f=>i=v/\WS f z X nc C u T (R2 L (t+3) y g E)) (eK k (e_ (jr M Q k rfl (.tail _ (.tail _ (.tail _ (.head _))))) M.v7 ((bK (bE rfl rfl (O k rfl) (O k rfl))).g ⟨_,M.v7,by simp;omega,rfl,?_⟩))) ?_
  .have:=jf (L1:=[(u.w,.wc (sD (yV (z .heap) nc.ch u))),(u.vB,.vK (Y.vB.map vP))]) (n:=u.v7) (c':=.vK (T.v7.map xB)) M
   have e:Y.v7.map xB++[.vV [.int (s:Nat),.int (l:Nat)]]=T.v7.map xB:=by simp only[T,aL];rfl
   rw[e];exact this
  rintro i W ⟨rfl,S⟩;have hn:=c.O.n;have hY:Y.vB.length=X.up.length:=by rw[c.r,hn]
  have w0:(1:Nat)+(Str.ofString (toString (j:Int))).length<=1000:=by
   have:∀j:Nat,j<12->(1:Nat)+(Str.ofString (toString (j:Int))).length<=1000:=by decide+kernel
   exact this j hj
  have q0:(j:Int).natAbs.log2<1920:=by
   have:=Nat.log2_le_self (j:Int).natAbs;omega
  refine aq (M:=λi f=>i=v/\Ck Good g E L (z .heap) u.w y (j+1) f) (eK k (cU o0 (S.1.get .heap _ rfl) (S.1.get .wN _ rfl) RW rfl E3.2 Q (eZ (bI rfl (O k rfl) (bE rfl rfl (O k rfl) (bK (bE rfl rfl cS (cI cS (jw (WK k rfl) (bq rfl (O k rfl)) (Fo q0)) (Ru w0)))))) (((OQ (a:=s) (b:=l) (r:=.vV [.str "told",.str (("t":Str)++Str.ofString (toString (j:Int)))]) c.O c.Z (by omega) (by omega)) W z _ S.1).room (by omega) |>.mono λd f ⟨_,x,ag,H'⟩=>⟨rfl,t+3,by omega,x,_,nc,C,u,T,ag .heap rfl,rfl,V.merge hk G c0 R,by unfold WS;rw[ag .heap rfl];exact⟨H',S.2⟩⟩)))) λi f ⟨e,h⟩=>bw ⟨F,by rw[e];exact j0,rfl,h⟩
 .have hw:o=0\/o=1:=by
   have h3:¬(o:Int)=3:=by simpa using q3
   have h4:¬(o:Int)=4:=by simpa using q4
   have h5:¬(4:Int)<o:=by simpa using q5
   have h2:¬(o:Int)=2:=λe=>by rw[e]at q;simp at q
   omega
  have h7:Y.vB.length<=7:=by
   have h2:¬(7:Int)<(N:Nat):=λe=>by
    rw[show decide ((7:Int)<(N:Nat))=true from kE e]at q;simp at q
   have:¬(7:Int)<(Y.vB.length:Nat):=h2;omega
  let r:Row:=if o=0 then("f",[s])else("g",[s,l])
  have x0:(∃a,r=(("f",[a]):Row)/\a<Y.vB.length)\/∃a b,r=(("g",[a,b]):Row)/\a<Y.vB.length/\b<Y.vB.length:=by
   by_cases e:o=0
   .exact .inl ⟨s,B e,c0⟩
   .exact .inr ⟨s,l,J e,c0,R⟩
  have y0:∀{p0 p1 p2} {n},PE w A P v i0 (eval (.Subscript (.Constant (.str "fg") n p0) (.Name "way" p1) p2) P) (.str r.1):=λ{_ _ _ _}=>by
   rcases hw with e|e
   .have:r.1=Str.mk #[102]:=by simp only[r,B e];decide+kernel
    rw[this];exact uY cS (O k rfl) (by omega) (by omega) (by rw[e];decide+kernel)
   .have:r.1=Str.mk #[103]:=by simp only[r,J (show¬o=0 by omega)];decide+kernel
    rw[this];exact uY cS (O k rfl) (by omega) (by omega) (by rw[e];decide+kernel)
  have z0:(D.vV ([.int (s:Nat),.int (l:Nat)].take (o+1)))= .vV (vG r.2):=by
   rcases hw with e|e
   .simp only[r,B e];rw[e];rfl
   .simp only[r,J (show¬o=0 by omega)];rw[e];rfl
  refine aq (M:=λi f=>i=vr "is_right" (.bool true)::v/\Ck Good g E L (z .heap) u.w y (j+1) f) (fC k rfl (lT (dJ k rfl U_) Cs.2 Q (eZ (bI rfl (O k rfl) (bE rfl rfl y0 (z0▸PE.HA (b:=o+1) (bK (bE rfl rfl (O k rfl) (O k rfl))) (cI (O k rfl) bC lQ) (by simp;omega) (by simp)))) (((Qe V hk G h7 x0 M).room (by omega)).mono λd f ⟨e,X',C',Y',x,a0,b0,ew,eh,G',H'⟩=>⟨by rw[e],t+3,by omega,x,X',a0,C',b0,Y',eh,ew,G',H'⟩)))) λi f ⟨e,h⟩=>bw ⟨F,by rw[e];repeat (first|exact iH|refine gX rfl ?_),rfl,h⟩
 rintro i W ⟨rfl,I3⟩;apply aq (M:=λi f=>i=F/\f=W) (dH (b:=false) (PB.not (b:=true) (mV (O k rfl))) (λq=>by cases q) λ_=>bw ⟨rfl,rfl⟩);rintro i h1 ⟨rfl,rfl⟩;exact bw ⟨dW rfl,I3⟩
end
section
variable{Good:Nat->HX->CX->LX->Prop}
theorem GB.RM{Q:St->Prop}(h:GE w A c j l (eval x c) λd f=>d= .bool true/\Q f)(m:∀a,isTrue x c a=(do let v <-a;standAt x.pos;holding [v] (truthy v)):=by intro _;rfl):
 GB w A c j l (isTrue (.UnaryOp .Not x y) c a) λb f=>b=false/\Q f:=by
 intro g R n s E o F k;show wpAny _ _ (do return !(<-isTrue x c (eval x c))) o E s;rw[m];refine Z (Z (h g R n s E _ F λv p t i d f x u r ⟨e,q⟩=>Z (aX ?_)));subst e;rw[r.yT];exact aC (eO (U (k _ p t i f x u ⟨rfl,q⟩)))
theorem HL.Ve(h:HL b f X ((n,c)::L)):HL (b.drop n) f X L:=by
 let⟨H,a⟩:=h;have g:=(bx.mp a).1;refine⟨⟨λr c e=>?_,H.inj,λm d h=>?_,λr m d i j=>H.ap r m d i (.tail _ j),H.ids⟩,(bx.mp a).2⟩
 .rw[kC (H.ap r n _ (by rw[e];rfl) (.head _))];exact H.get r c e
 .rw[kC λe=>g (aa.mpr ⟨_,h,e⟩)];exact H.fr m d (.tail _ h)
theorem O6(V:Laws Good m){o h z u c:Nat}(L:N.scope=zK.1.scope)(hr:we 59 A)(hc:l.length<=60)(P:M.length=2)(T:∀p∈M,p∈yx)(hl:c<=12)(I:Ck Good l M o h z u 0 σ):SE w A N (M3 xs o h z c u) σ (execs ((xm zK.1.body).drop 7) N) (λ_ _=>False) (λd _=>d= .bool true):=by
 have hA:=hr.handled;refine aq (M:=λn f=>n=M3 xs o h z c u/\Ck Good l M o h z u c f) (iD (ds:=(List.range c).map λi=>D.int (i:Nat)) (λj n f=>n=M3 xs o h z c u/\Ck Good l M o h z u j f) (eW hA (rP L rfl (O L rfl)) (.inr (.inr (.inl ⟨_,_,rfl,by simp,by omega,by omega⟩)))) ⟨rfl,I⟩ ?_ ?_) ?_
 .rintro j d n f hd ⟨rfl,I1⟩
  obtain⟨j',hj,rfl,_⟩:=cB hd;have a0:j'=j/\j<c:=by
   let⟨a,b⟩:=aP.mp hj;rw[vo]at b;rw[cW]at a;exact⟨b.symm,a⟩
  obtain⟨rfl,m0⟩:=a0;refine⟨_,ig L rfl,dj ?_⟩;have:=UZ (w:=w) (xs:=xs) (laps:=c) V L hr hc P T (by omega) I1;exactλg R ρ s E Q F k1 k2=>this g R ρ s E Q F (λs' g' R' b0 n f x F so ⟨le,I⟩=>k1 s' g' R' b0 n f x F so ⟨_,le,rfl,I⟩) k2
 .rintro n f ⟨rfl,I1⟩
  rw[az,cW]at I1;exact⟨rfl,I1⟩
 rintro n c0 ⟨rfl,t,ht,nm,X,nc,C,ln,Y,rfl,rfl,G,H⟩;have d0:=H.at (.tail _ (.head _));apply SE.Ba (x:="some") rfl d0;have H1:WS (c0.drop u) nm X nc C ln Y [(o,.wc (xV l t))]:=by
  have h2:=H.swap;unfold WS at h2⊢;rw[<-cY]at h2⊢;exact(h2.perm d9).Ve
 let n0:Md:=vr "some" (.vK (M.map Pt.enc))::M3 xs o (nm .heap) ln.w c u;let S:Nat->St->Prop:=λk f=>∃v X' W C' y Y',v .heap=nm .heap/\y.w=ln.w/\Good (c+k) X' C' Y'/\WS f v X' W C' y Y' [(o,.wc (xV l t))];refine aq (M:=λ_ _=>False) (oX (qD (P1:=λd f=>d= .vK []) (qw (FC.fe (FE.GO L ⟨by rfl,by rfl,by decide+kernel,by rfl,by rfl⟩ (eW hA (O L rfl) (.inl rfl)) λl0 r=>⟨trivial,λk t f=>t=[]/\S k f,⟨rfl,nm,X,nc,C,ln,Y,rfl,rfl,G,H1⟩,?_,?_⟩))) λd1 s1 e1=>?_)) λ_ _ q=>q.elim
 .rintro k d t' f hd ⟨rfl,v,X',W,C',y,Y',eh,ew,G',H'⟩
  obtain⟨q,hq,rfl,_⟩:=cB hd;have o0:k<2:=by rw[<-P];exact(aP.mp hq).1
  have e0:=T q (aH hq);refine⟨_,tN r rfl,dW rfl,GB.mono (GB.RM (lT (dJ r rfl Tt) Gb.2 hr (eZ (bI rfl (O r (by rw[ew];rfl)) (bE rfl rfl (O r rfl) kQ)) (((Ht V (by omega) G' e0 H').room (by omega)).mono λd f0 ⟨e,X2,C2,Y2,g0,h0,i0,j0,k0,G2,H2⟩=>⟨e,g0,X2,h0,C2,i0,Y2,k0.trans eh,j0.trans ew,G2,H2⟩)))) λb f0 ⟨e,q⟩=>⟨(λh=>by rw[e]at h;cases h),λ_=>⟨rfl,q⟩⟩⟩
 .rintro t' f ⟨rfl,_⟩
  rfl
 .subst e1
  exact(gV bG).g ⟨.bool true,uI hr (.d rfl) (.d rfl) (by simp),rfl⟩
end
def WR:Prop:=∀(w:Yz) (a:List Int) (b:St),a.length<=63->CF w 60 (.ref 618) [.vK (a.map D.int)] b λd _=>d= .bool true
theorem SJ(b:Base w h):GS w (λa=>h.get? a) (λ_=>none) [] ⟨λ_=>none⟩ h where
 base:=⟨h,b,λ_ _ e=>e⟩
 sub:=λ_ _ e=>e
 rest:=λ_ _ e=>nomatch e
 gR:=λ_ _ _=>rfl
 cell:=λ_ _ e=>nomatch e
 inj:=λ_ _ _ _ _ e=>nomatch e
 low:=λ_ h=>nomatch h
theorem HF:we 60 callerA:=⟨rfl,by decide+kernel,by decide+kernel⟩
set_option maxHeartbeats 8000000 in
theorem join(L:WR):PySem.Challenge.rw_pq0029_01.Holds:=hd (by
 intro w F i N P G Y p o pm cd a0 dV kV ho hd b0 hD q Q H I as k l s t u;have z:=kIn_of Y;have X:=(Ground.X G).1;apply Ground.open G;intro T f D TE TW
 wrow_args k l s t u
 rename_i A _ _ _ _ _ _ _ a j _ R _ S _ V _ M _;have y:p=618:=by
  have g:N "law"=some (.ref p):=q;let⟨W,es,ep,C,q2,q3,q4⟩:=T.g;have e:nsIn (KF w) mainGlobals "law"=some (some (.ref 618)):=by kernel_rfl
  rw[<-q4]at g;unfold nsIn at e;split at e
  .rename_i c d c0 n sl hK
   rw[z _ _ hK]at C;cases C;cases q2;unfold nsFind findBy at g;rw[<-Array.find?_toList]at g;split at e
   .rename_i E he
    rw[he]at g;have a1:E.val= .ref 618:=by injection e with e;injection e
    have m:E.val= .ref p:=by injection g
    rw[a1]at m;injection m with m;exact m.symm
   .split at e<;>cases e
  .cases e
 subst y;have b:Base w i.heap:=⟨z,⟨P,T.b,T.builtins⟩,T.nolimit,T.nodigits,T.seer rfl⟩;obtain⟨n,e⟩:∃n,i.heap.get? a=some (v9 "list" j.toArray n):=by
  let⟨W,g,h2,n,h3⟩:=R;cases S with
  |list h _=>rw[h]at g;cases g;cases h3;exact⟨_,h⟩
 have hz:A.length<=63:=by omega
 apply (L w A ⟨λ_=>none⟩ hz).og HF _ _ _ _ _ _ _ (SJ b) (.cons (.vK ⟨n,e⟩ (wR.EU V)) .nil);rintro v s' g' d0 d e0 x G' r rfl;have:=r.yT;subst this;refine⟨.inl ⟨_,_,[],rfl,λ_=>rfl,.bool true,by wrow_post,λ_=>⟨cF,λ_ h=>nomatch h⟩⟩,OldK.of_keep λb o e=>G'.sub _ _ (x.le _ _ e),x.os,.of_eq (x.gens.trans Q)⟩)
theorem holds_of{Good:Nat->HX->CX->LX->Prop}(V:Laws Good m):PySem.Challenge.rw_pq0029_01.Holds:=join λw l g h=>UY V h λA j c d n o p q g X G e H=>RZ c d G e H λr f s k i a b I=>O6 V c d e a b i ⟨3,by omega,I⟩
theorem holds:PySem.Challenge.rw_pq0029_01.Holds:=holds_of Xo
end Mine
theorem PySem.Challenge.cw_pq0029_01_holds : PySem.Challenge.rw_pq0029_01.Holds :=
 Mine.holds
