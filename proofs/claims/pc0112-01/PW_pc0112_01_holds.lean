import PyProof.Rows.All
import Wide.All
import OpenK.AllK
import Wide.FinOn
import Lean
import PySem.Challenge.RW_pc0112_01
set_option Elab.async false
local macro_rules | `(tactic| rfl') => `(tactic| kernel_rfl)
set_option genInjectivity false
set_option maxRecDepth 100000
set_option maxHeartbeats 400000
noncomputable section
open PySem PySem.W PyProof.Rows
set_option maxHeartbeats 0
namespace Mine
abbrev aT:=@Nat.le_trans
abbrev c0:=@Nat.exists_eq_add_of_le'
abbrev fh:=@PySem.W.Fast.te14364793385576792824
abbrev dh:=@Nat.add_le_add_left
abbrev fB:=@PySem.W.Fast.te10110043849684766642
abbrev fC:=@PySem.W.Fast.te12563942051412417395
abbrev c6:=@Bool.and_eq_true
abbrev cq:=@Nat.le_refl
abbrev ey:=@PySem.Heap.get?_push_of_some
abbrev dV:=@List.mem_cons_self
abbrev cG:=@Nat.le_succ
abbrev d5:=@List.length_append
abbrev ez:=@PySem.Heap.get?_push_size
abbrev eh:=@List.append_nil
abbrev eZ:=@Nat.le_add_right
abbrev dW:=@Nat.le_of_eq
abbrev eQ:=@List.length_map
abbrev eR:=@Decidable.em
abbrev gr:=@Nat.succ_le_succ
abbrev f9:=@Bool.or_eq_true
abbrev ha:=@List.lookup_cons
abbrev hZ:=@Nat.lt_of_le_of_lt
abbrev jC:=@Nat.add_le_add_right
abbrev jD:=@List.mem_append_left
abbrev iA:=@List.append_assoc
abbrev gs:=@PySem.Heap.lt_size
abbrev mc:=@List.getElem?_append_left
abbrev gP:=@Nat.ne_of_lt
abbrev nh:=@List.getElem?_append_right
abbrev i5:=@Bool.eq_iff_iff
abbrev h1:=@List.any_cons
abbrev md:=@Nat.ble_eq_true_of_le
abbrev ki:=@Bool.not_eq_true'
abbrev kj:=@List.not_mem_nil
abbrev kk:=@List.length_cons
abbrev oI:=@List.getElem?_eq_getElem
abbrev me:=@Nat.lt_of_lt_of_le
abbrev jE:=@Nat.add_assoc
abbrev i6:=@List.all_map
abbrev iB:=@Nat.zero_le
abbrev kl:=@PySem.Heap.size_push
abbrev oJ:=@Nat.lt_of_succ_lt_succ
abbrev jF:=@Nat.beq_refl
abbrev jG:=@Nat.add_comm
abbrev jH:=@Nat.le_of_lt
abbrev km:=@List.map_cons
abbrev oK:=@List.mem_of_getElem?
abbrev ni:=@List.getElem?_map
abbrev oL:=@Nat.mul_le_mul_left
abbrev ti:=@List.exists_mem_of_ne_nil
abbrev nj:=@List.map_append
abbrev qN:=@Bool.or_eq_false_iff
abbrev oM:=@Array.toList_push
abbrev tj:=@Nat.add_sub_cancel_left
abbrev mf:=@Nat.zero_add
abbrev qO:=@Nat.add_right_comm
abbrev oN:=@List.forIn_cons
abbrev qP:=@List.size_toArray
abbrev qQ:=@Nat.lt_succ_of_lt
abbrev qR:=@Nat.lt_of_succ_lt
abbrev qS:=@Nat.succ_ne_self
abbrev qT:=@List.filter_cons
abbrev qU:=@Nat.lt_succ_self
abbrev qV:=@Nat.zero_testBit
abbrev tk:=@List.mem_map_of_mem
abbrev tl:=@Array.length_toList
abbrev oO:=@List.all_cons
abbrev tm:=@List.zip_cons_cons
abbrev tn:=@Nat.add_sub_cancel
abbrev qW:=@Nat.testBit_and
abbrev tr:=@Nat.le_succ_of_le
abbrev oP:=@Nat.lt_or_ge
abbrev v0:=@Bool.beq_eq_decide_eq
abbrev v1:=@PySem.Heap.get?_update_self
abbrev v2:=@List.take_append_drop
abbrev v3:=@List.length_filter_le
abbrev ts:=@List.cons_append
abbrev tt:=@List.any_eq_true
abbrev qX:=@Nat.lt_irrefl
abbrev qY:=@List.mem_cons
abbrev tu:=@Nat.le_antisymm
abbrev tv:=@List.find?_cons
abbrev tw:=@Nat.le_add_left
abbrev tx:=@List.nil_append
abbrev mg:=@Eq.trans
abbrev zz:=@PySem.F.args_tuple_add_2
abbrev v4:=@PySem.Heap.IsSliceOf.new
abbrev zA:=@PySem.F.entry_tuple_add
abbrev zB:=@Nat.exists_eq_add_of_le
abbrev zC:=@Nat.le_of_succ_le_succ
abbrev zD:=@PySem.F.slot_tuple_add
abbrev zE:=@List.length_take_of_le
abbrev tz:=@Bool.false_or
abbrev v5:=@Bool.not_eq_true
abbrev v6:=@List.length_drop
abbrev zF:=@List.mem_append_right
abbrev zG:=@PySem.F.slot_dict_get
abbrev zH:=@Nat.not_succ_le_zero
abbrev v7:=@List.foldl_cons
abbrev tA:=@Classical.em
abbrev zI:=@Array.toList_append
abbrev v8:=@Int.negSucc_eq
abbrev v9:=@Nat.add_le_add
abbrev wa:=@List.nodup_nil
abbrev zJ:=@List.mem_singleton
abbrev zK:=@Int.natCast_nonneg
abbrev wb:=@List.take_nil
abbrev Ib:=@PyProof.Rows.getItem_tuple
abbrev Ic:=@List.mem_of_find?_eq_some
abbrev Ie:=@List.drop_eq_getElem_cons
abbrev zM:=@List.length_take
abbrev zN:=@List.getElem_mem
abbrev wc:=@List.map_map
abbrev zO:=@List.drop_length
abbrev Ig:=@PySem.F.slot_list_extend
abbrev wd:=@Nat.sub_self
abbrev Ih:=@PySem.F.args_dict_get_3
abbrev Ii:=@PySem.F.plainAttrs_list
abbrev zP:=@List.mem_append
abbrev zQ:=@Nat.min_le_left
abbrev zR:=@List.zip_append
abbrev zS:=@Nat.not_lt_zero
abbrev zT:=@List.length_nil
abbrev Ij:=@PySem.F.entry_dict_get
abbrev zU:=@List.drop_left
abbrev zV:=@List.forIn_nil
abbrev Ik:=@Nat.le_of_sub_eq_zero
abbrev Il:=@List.getElem?_toArray
abbrev qZ:=@Iff.rfl
abbrev zW:=@Nat.testBit_or
abbrev we:=@PySem.Walks.list
abbrev Im:=@Nat.sub_succ_lt_self
abbrev zX:=@Bool.and_true
abbrev zY:=@Bool.or_false
abbrev Io:=@Nat.add_left_cancel
abbrev Ip:=@List.length_take_le
abbrev zZ:=@Nat.mul_succ
abbrev z0:=@Nat.lt_trans
abbrev z1:=@Bool.true_or
noncomputable def an(s:String):Str:=s
abbrev cI:=Value->Shared->Prop
theorem oQ{α bR:Type}{x:Option α}{f:α->Option bR}{b:bR}(h:x.bind f=some b):∃a,x=some a/\f a=some b:=Option.bind_eq_some_iff.mp h
theorem nk{α bR:Type}{x:Option α}{f:α->bR}{b:bR}(h:x.map f=some b):∃a,x=some a/\f a=b:=Option.map_eq_some_iff.mp h
theorem ei{a b:Nat}(h:Nat.beq a b=true):a=b:=Nat.eq_of_beq_eq_true h
theorem fi{a b:Nat}(h:Nat.ble a b=true):a<=b:=Nat.le_of_ble_eq_true h
theorem dG{α:Type}{a b:α}(h:a∈[b]):a=b:=List.mem_singleton.mp h
abbrev pw:Program:=PySem.Challenge.pw_pc0112_01
noncomputable def z2:Stmt:=.Pass ⟨0,0,0,0⟩
def aA(i:Nat):Stmt:=pw.main.body.getD i z2
def c5(i j:Nat):Stmt:=match aA i with| .ClassDef _ _ _ b _ _ _ _ _ _ _=>b.getD j z2|_=>z2
noncomputable def mh:Stmt->Arguments| .FunctionDef _ a _ _ _ _ _ _ _ _=>a|_=>⟨[],[],none,[],[],none,[]⟩
noncomputable def q0:Stmt->List Stmt| .FunctionDef _ _ b _ _ _ _ _ _ _=>b|_=>[]
noncomputable def nl:Stmt->Scope| .FunctionDef _ _ _ _ _ _ s _ _ _=>s|_=>default
end Mine
end
noncomputable section
open PySem PySem.W PyProof.Rows
set_option maxHeartbeats 0
namespace Mine.Hd
theorem SO:PySem.Challenge.rw_pc0112_01.wellSaid=true:=by
 rw[PySem.W.Fast.te9446332074065402090]
 rfl'
noncomputable def gt:Obj:=⟨.type "tuple",none,.seq #[] 0,#[]⟩
noncomputable def z3:Obj:=⟨.none,none,.fields #[],#[]⟩
noncomputable def c9(l:List Value):Obj:=⟨.type "tuple",none,.seq l.toArray 0,#[]⟩
noncomputable def fY(l:List DictEntry)(n:Nat):Obj:=⟨.type "dict",none,.dict l.toArray n,#[]⟩
noncomputable def h2(l:List Value):Obj:=⟨.none,none,.fields l.toArray,#[]⟩
def Iq:=an "/claim/cut.py"
def k8(n:Str)(t1:Nat)(q:Str)(t2 z4:Nat)(l ac nn z5 bw:Int)(fr:Nat)(fn:Bool)(SP:Int)(di:Nat)(cg ch SQ:Value)(id:Int)(SR:Nat):Obj:=
 ⟨.type "code",none,.fields #[.str n t1,.str q t2,.str Iq z4,.int l 0,.int ac 0,.int nn 0,.int z5 0,.int bw 0,.ref fr,.bool fn,.int SP 0,.ref di,.none,cg,ch,SQ,.int id 0,.int l 0,.str Iq SR],#[]⟩
def Ir(s:Stmt)(n q:Str):Obj:=⟨.none,none,.func {name:=n,qualname:=q,params:=mh s,body:=.stmts (q0 s),scope:=nl s,globals:=builtinsNs,closure:=[],defaults:=.none,kwdefaults:=.none},#[]⟩
def It(s:Stmt)(n q:Str)(d mi c:Value):Obj:=⟨.type "function",none,.func {name:=n,qualname:=q,params:=mh s,body:=.stmts (q0 s),scope:=nl s,globals:=mainGlobals,closure:=[],defaults:=d,kwdefaults:=.none,pyModule:=mi,code:=c,builtins:=builtinsNs},#[]⟩
noncomputable def ay(P:Params)(k:Str)(t:Nat)(v:Value):DictEntry:=⟨PyData.keyHash P k,.str k t,v⟩
noncomputable def Iu:Nat->List Str->List Value
 |_,[]=>[]
 |t,k::r=> .str k t::Iu (t+1) r
def bL(s:Stmt)(n q:Str)(b t:Nat)(l ac bw:Int)(vs:List Str)(d mi:Value):List Obj:=
 [gt,z3,c9 (Iu (t+3) vs),gt,Ir s n q,k8 n t q (t+1) (t+2) l ac 0 0 bw b true 181 (b+1) (.ref (b+2)) (.ref (b+3)) (.ref (b+4)) (t+3+vs.length) (t+4+vs.length),It s n q d mi (.ref (b+5))]
def cJ(s:Stmt)(n q:Str)(b t:Nat)(l ac bw:Int)(d mi:Value):List Obj:=
 [gt,z3,Ir s n q,k8 n t q (t+1) (t+2) l ac 0 0 bw b true 181 (b+1) .none .none (.ref (b+2)) (t+3) (t+4),It s n q d mi (.ref (b+3))]
noncomputable def z6:List Obj->List Obj
 |a::_::r=>a::z6 r
 |[a]=>[a]
 |[]=>[]
@[irreducible] def fj:Nat->List Obj->BT
 |n+1,x::r=> .node x (fj n (z6 r)) (fj n (z6 r.tail))
 |_,_=> .nil
noncomputable def e9:List Obj->Nat->List (Nat×Obj)->List Obj
 |x::r,i,p::ps=>match Nat.beq i p.1 with
  |true=>p.2::e9 r (i+1) ps
  |false=>x::e9 r (i+1) (p::ps)
 |l,_,_=>l
def ej:Env:={scope:=pw.main.scope,locals:=mainNs,globals:=mainNs,cells:=[],code:=.ref 13,frame:=some 14}
def bd:List Stmt:=behindTheImports pw
def cm:Code:=.body bd ej
noncomputable def dK:Option Value:=some (.ref 6)
noncomputable def dp:Pos:=⟨0,0,0,0⟩
def Iw:=an "<module>"
def i7:=an "__main__"
def hb:=an "type.__subclasses__.Exception.0"
def k3:=an "type.__subclasses__.Exception.n"
def k4:=an "__name__"
def iC:=an "kindkeep.diags"
def dq:=an "__doc__"
def SS:=an "__package__"
def SU:=an "__loader__"
def SV:=an "__spec__"
def z7:=an "__annotations__"
def SW:=an "__builtins__"
def SX:=an "__file__"
def q1:=an "/claim/cut.py"
def z8:=an "__cached__"
def z9:=an "_wall"
def hw:=an "KeepError"
def SY:=an "k"
def iD:=an "__module__"
def oR:=an "__qualname__"
def iE:=an "__firstlineno__"
def fZ:=an "__init__"
def iF:=an "__static_attributes__"
noncomputable def Aa:Str:=⟨#[]⟩
def e6:=an "self"
def oS:=an "text"
def S0:=an "KeepError.__init__"
def oT:=an "number"
def np:=an "__weakref__"
def nq:=an "TooDeep"
def q2:=an "TooDeep.__init__"
def dH:=an "kindkeep.types"
def nt:=an "HostFault"
def S1:=an "Y_KEY"
def S2:=an "Y_BOOL"
def S3:=an "Y_STR"
def S4:=an "Y_NUM"
def S5:=an "Y_ENUM"
def S6:=an "Y_UNION"
def S7:=an "Y_INTER"
def S8:=an "Y_OBJ"
def S9:=an "Y_REF"
def Tb:=an "Y_PARAM"
def Tc:=an "Y_ARRAY"
def Td:=an "Y_TUPLE"
def wg:=an "Y_SIG"
def Te:=an "Y_INDEX"
def Tf:=an "Y_COND"
def Tg:=an "HostFault.__init__"
def Th:=an "Y_TPL"
def Ti:=an "Y_ALIAS"
def Tj:=an "ANY"
def Tl:=an "UNKNOWN"
def Tm:=an "NEVER"
def Tn:=an "VOID"
def To:=an "UNDEF"
def Tq:=an "NULLT"
def Ts:=an "STRING"
def Tt:=an "NUMBER"
def Tu:=an "FALSE_T"
def Tv:=an "TRUE_T"
def Tw:=an "OBJECTT"
def Tx:=an "EMPTY"
def Tz:=an "BOOLEAN"
def TA:=an "ERR"
def TB:=an "FRESH_F"
def TC:=an "FRESH_T"
def TD:=an "P_OPT"
def TE:=an "FAM_OTHER"
def TF:=an "FAM_STR"
def TG:=an "FAM_NUM"
def TH:=an "FAM_BOOL"
def TJ:=an "FAM_NULL"
def TK:=an "FAM_UNDEF"
def TL:=an "FAM_VOID"
def TM:=an "FAM_OBJ"
def TN:=an "MAX_UNION"
def TO:=an "FIRST_ROWS"
def TP:=an "LITERAL_ROWS"
def TQ:=an "MARKED_ROWS"
def TR:=an "any"
def TS:=an "unknown"
def TU:=an "never"
def TV:=an "void"
def wh:=an "undefined"
def TW:=an "null"
def Ab:=an "string"
def Ac:=an "object"
def TX:=an "error"
def TY:=an "OBJECT_ROWS"
def TZ:=an "KEY_FAMILIES"
def nu:=an "TypeTable"
def fS:=an "row"
def Ad:=an "put"
def T0:=an "TypeTable.__init__"
def cV:=an "t"
def T1:=an "TypeTable.row"
def T2:=an "TypeTable.put"
def T3:=an "bounds"
def T4:=an "decls"
def T5:=an "defaults"
def T6:=an "index"
def T7:=an "names"
def T8:=an "origins"
def T9:=an "renamed"
def Ua:=an "rows"
def Ub:=an "shaping"
def q3:=an "__dict__"
def nv:=an "Decl"
def Ae:=an "kind_of"
def Af:=an "str_type"
def Ag:=an "func_type"
def Ah:=an "new_param"
def Ix:=an "did"
def tB:=an "kind"
def oU:=an "name"
def Uc:=an "Decl.__init__"
def Ud:=an "abstract"
def Ue:=an "at"
def Uf:=an "bases"
def Ug:=an "body"
def Uh:=an "busy"
def Ui:=an "extends_class"
def Uj:=an "file"
def Uk:=an "members"
def Ul:=an "nid"
def Um:=an "params"
def Un:=an "static"
def Uo:=an "variances"
def dj:=an "tab"
def Up:=an "fresh"
def Iy:=an "sig"
def q4:=an "bound"
def Uq:=an "default"
def Ur:=an "pid"
def Ai:=an "new_decl"
def Aj:=an "parts_of"
def Al:=an "whole_of_row"
def Am:=an "regular_twin"
def An:=an "join_bools"
def Ao:=an "stays_beside"
def Ap:=an "top_of"
def Aq:=an "union"
def Ar:=an "add_undef"
def As:=an "is_literal"
def At:=an "is_unit"
def Au:=an "is_fresh"
def Av:=an "regular_one"
def Iz:=an "decl"
def Aw:=an "got"
def eS:=an "kindkeep.typeops"
def Ax:=an "common_family"
def Ay:=an "meet_family"
def Az:=an "family"
def AA:=an "is_nullish_family"
def Us:=an "MAX_DRAWN"
def Ut:=an "MEET_NEVER"
def Uu:=an "MEET_LEFT"
def Uv:=an "MEET_RIGHT"
def Uw:=an "MEET_BOTH"
def Ux:=an "PRIMITIVE_NAMES"
def AB:=an "all_units"
def AC:=an "all_values"
def AD:=an "units_clash"
def AE:=an "flat_props"
def AF:=an "shapes_clash"
def AG:=an "meet_nullish"
def IA:=an "parts"
def AH:=an "found"
def nw:=an "part"
def AI:=an "fam"
def IB:=an "whole"
def Uy:=an "charAt"
def Uz:=an "concat"
def UA:=an "includes"
def UB:=an "indexOf"
def UC:=an "length"
def UD:=an "slice"
def UE:=an "toLowerCase"
def UF:=an "toString"
def UG:=an "toUpperCase"
def wi:=an "one"
def tC:=an "other"
def hy:=an "s"
def AJ:=an "prop"
def q5:=an "fs"
def q6:=an "ft"
def AK:=an "meet_values"
def AL:=an "meet_objects"
def AM:=an "meet_case"
def AN:=an "lay_on"
def AO:=an "members_of_meet"
def AP:=an "meet_parts"
def AQ:=an "meet_two"
def AR:=an "inter"
def AS:=an "may_be_nullish"
def AT:=an "meet_may_be_nullish"
def AU:=an "not_nullish"
def AV:=an "remove_nullish"
def IC:=an "kept"
def wj:=an "out"
def UH:=an "held"
def UI:=an "case"
def UJ:=an "met"
def wk:=an "deep"
def ed:=an "kindkeep.hosts"
def AW:=an "literal_truth"
def AX:=an "truthy_of"
def AY:=an "truthy_part"
def AZ:=an "typeops_all_props"
def A0:=an "loose_props"
def A1:=an "lets_primitive"
def A2:=an "falsy_of"
def A3:=an "falsy_part"
def UK:=an "MOST_ROUNDS"
def UL:=an "MOST_SHAPES"
def UM:=an "PLAIN_ROWS"
def UN:=an "many"
def UO:=an "props"
def jI:=an "Thin"
def A4:=an "force"
def A5:=an "put_deferred"
def A6:=an "put_cond"
def A7:=an "lay_row"
def q7:=an "fits"
def q8:=an "lies"
def A8:=an "infers"
def A9:=an "tpl_fits"
def Ba:=an "shape_fits"
def Bb:=an "put_in"
def Bc:=an "own_sig"
def Bd:=an "list_prop"
def Be:=an "list_index"
def UP:=an "Thin.__init__"
def UR:=an "Thin.force"
def US:=an "Thin.put_deferred"
def Bf:=an "mapping"
def UT:=an "Thin.put_cond"
def UU:=an "Thin.lay_row"
def UV:=an "Thin.bound"
def UW:=an "Thin.fits"
def UX:=an "Thin.lies"
def UY:=an "pids"
def UZ:=an "check"
def U0:=an "ext"
def U1:=an "Thin.infers"
def U2:=an "Thin.tpl_fits"
def U3:=an "Thin.shape_fits"
def U4:=an "Thin.put_in"
def U5:=an "erased"
def U6:=an "Thin.own_sig"
def U7:=an "Thin.list_prop"
def U8:=an "Thin.list_index"
def ID:=an "most_rounds"
def ny:=an "RefHost"
def Bg:=an "plain_shape"
def wl:=an "shape"
def U9:=an "RefHost.__init__"
def Va:=an "RefHost.shape"
def Vb:=an "RefHost.fits"
def Vc:=an "RefHost.lies"
def Vd:=an "turn"
def iG:=an "kindkeep.narrowplain"
def Bh:=an "find_prop"
def Bi:=an "prop_row"
def Bj:=an "calls_of"
def Bl:=an "ctors_of"
def nz:=an "host"
def Ve:=an "WHOLES"
def IE:=an "boolean"
def Vf:=an "FAMILY_WORDS"
def i8:=an "kindkeep.narrow"
def Vg:=an "COERCED"
def Vh:=an "NULLISH"
def Bm:=an "plain_value"
def Bn:=an "plain_meets"
def Bo:=an "is_nullish_kind"
def Bp:=an "sharpen"
def Bq:=an "narrow_plain_truthy"
def Br:=an "nullish_side"
def Bs:=an "unknown_equal"
def Bt:=an "plain_equal_yes"
def Bu:=an "plain_equal_no"
def Bv:=an "narrow_plain_equal"
def Bw:=an "plain_typeof_part"
def Vi:=an "FREE_ROWS"
def tD:=an "strict"
def q9:=an "yes"
def Vj:=an "value"
def wm:=an "word"
def Vk:=an "told"
def jJ:=an "law_pc0112_01"
def Vl:=an "PRIMITIVES"
def Bx:=an "narrow_is_primitive"
def By:=an "all_primitive"
def Bz:=an "is_loose"
def BA:=an "part_meets"
def BB:=an "shape_allows"
def BC:=an "object_words"
def BD:=an "narrow_truthy"
def BE:=an "typeof_part"
def BF:=an "typeof_free"
def BG:=an "narrow_typeof"
def BH:=an "equal_part"
def BI:=an "narrow_equal"
def IF:=an "words"
def Vm:=an "_law_all"
def BJ:=an "_law_word"
def BK:=an "_law_like"
def Vn:=an "_law_true"
def Vo:=an "_law_orders"
def BL:=an "_law_words"
def BM:=an "_law_draw"
def BN:=an "_law_kinds"
def BP:=an "_law_holds"
def BQ:=an "_law_same"
def BR:=an "_law_turned"
def BS:=an "_law_right"
def BU:=an "law"
def Vp:=an "nums"
def Vq:=an "i"
def Vr:=an "named"
def IG:=an "v"
def IH:=an "w"
def F0(P:Params):List DictEntry:=[ay P dq 166 .none,ay P SS 167 .none,ay P SU 168 (.builtin "__main__.__loader__#opaque"),ay P SV 169 .none,ay P z7 170 (.ref 6),ay P SW 171 (.ref 4),ay P SX 173 (.str q1 172),ay P z8 174 .none,ay P z9 193 (.ref 21),ay P hw 226 (.ref 39),ay P nq 255 (.ref 60),ay P nt 282 (.ref 80),ay P S1 286 (.int 1 285),ay P S2 288 (.int 2 287),ay P S3 290 (.int 3 289),ay P S4 292 (.int 4 291),ay P S5 294 (.int 5 293),ay P S6 296 (.int 6 295),ay P S7 298 (.int 7 297),ay P S8 300 (.int 8 299),ay P S9 302 (.int 9 301),ay P Tb 304 (.int 10 303),ay P Tc 306 (.int 11 305),ay P Td 308 (.int 12 307),ay P wg 310 (.int 13 309),ay P Te 312 (.int 15 311),ay P Tf 314 (.int 16 313),ay P Th 316 (.int 18 315),ay P Ti 318 (.int 19 317),ay P Tj 320 (.int 0 319),ay P Tl 322 (.int 1 321),ay P Tm 324 (.int 2 323),ay P Tn 326 (.int 3 325),ay P To 328 (.int 4 327),ay P Tq 330 (.int 5 329),ay P Ts 332 (.int 6 331),ay P Tt 334 (.int 7 333),ay P Tu 336 (.int 8 335),ay P Tv 338 (.int 9 337),ay P Tw 340 (.int 10 339),ay P Tx 342 (.int 11 341),ay P Tz 344 (.int 12 343),ay P TA 346 (.int 13 345),ay P TB 348 (.int 14 347),ay P TC 350 (.int 15 349),ay P TD 352 (.int 1 351),ay P TE 354 (.int 0 353),ay P TF 356 (.int 1 355),ay P TG 358 (.int 2 357),ay P TH 360 (.int 3 359),ay P TJ 362 (.int 4 361),ay P TK 364 (.int 5 363),ay P TL 366 (.int 6 365),ay P TM 368 (.int 7 367),ay P TN 370 (.int 400 369),ay P TO 392 (.ref 105),ay P TP 393 (.ref 106),ay P TQ 394 (.ref 107),ay P TY 395 (.ref 108),ay P TZ 402 (.ref 109),ay P nu 456 (.ref 140),ay P nv 501 (.ref 161),ay P Ae 509 (.ref 172),ay P Af 519 (.ref 180),ay P Ag 527 (.ref 187),ay P Ah 542 (.ref 195),ay P Ai 552 (.ref 202),ay P Aj 561 (.ref 209),ay P Al 569 (.ref 216),ay P Am 578 (.ref 223),ay P An 585 (.ref 230),ay P Ao 594 (.ref 237),ay P Ap 602 (.ref 244),ay P Aq 608 (.ref 249),ay P Ar 616 (.ref 256),ay P As 624 (.ref 263),ay P At 632 (.ref 270),ay P Au 641 (.ref 277),ay P Av 649 (.ref 284),ay P Ax 655 (.ref 289),ay P Ay 666 (.ref 296),ay P Az 677 (.ref 303),ay P AA 684 (.ref 310),ay P Us 688 (.int 200 687),ay P Ut 690 (.int 0 689),ay P Uu 692 (.int 1 691),ay P Uv 694 (.int 2 693),ay P Uw 696 (.int 3 695),ay P Ux 706 (.ref 311),ay P AB 712 (.ref 316),ay P AC 718 (.ref 321),ay P AD 729 (.ref 328),ay P AE 739 (.ref 335),ay P AF 750 (.ref 342),ay P AG 760 (.ref 349),ay P AK 771 (.ref 356),ay P AL 782 (.ref 363),ay P AM 793 (.ref 370),ay P AN 806 (.ref 377),ay P AO 815 (.ref 384),ay P AP 821 (.ref 389),ay P AQ 834 (.ref 396),ay P AR 844 (.ref 403),ay P AS 857 (.ref 411),ay P AT 863 (.ref 416),ay P AU 871 (.ref 423),ay P AV 877 (.ref 428),ay P AW 884 (.ref 435),ay P AX 892 (.ref 442),ay P AY 898 (.ref 447),ay P AZ 910 (.ref 454),ay P A0 916 (.ref 459),ay P A1 922 (.ref 464),ay P A2 931 (.ref 471),ay P A3 937 (.ref 476),ay P UK 941 (.int 200 940),ay P UL 943 (.int 40 942),ay P UM 944 (.ref 477),ay P jI 1098 (.ref 592),ay P ny 1151 (.ref 634),ay P Bg 1161 (.ref 643),ay P Bh 1170 (.ref 650),ay P Bi 1180 (.ref 657),ay P Bj 1188 (.ref 664),ay P Bl 1196 (.ref 671),ay P Ve 1207 (.ref 672),ay P Vf 1222 (.ref 673),ay P Vg 1223 (.ref 674),ay P Vh 1224 (.ref 675),ay P Bm 1233 (.ref 682),ay P Bn 1247 (.ref 689),ay P Bo 1253 (.ref 694),ay P Bp 1259 (.ref 699),ay P Bq 1268 (.ref 706),ay P Br 1274 (.ref 711),ay P Bs 1280 (.ref 716),ay P Bt 1286 (.ref 721),ay P Bu 1298 (.ref 728),ay P Bv 1309 (.ref 735),ay P Bw 1320 (.ref 742),ay P Vi 1323 (.ref 743),ay P Vl 1324 (.ref 744),ay P Bx 1332 (.ref 751),ay P By 1338 (.ref 756),ay P Bz 1344 (.ref 761),ay P BA 1356 (.ref 768),ay P BB 1366 (.ref 775),ay P BC 1376 (.ref 782),ay P BD 1385 (.ref 789),ay P BE 1397 (.ref 796),ay P BF 1409 (.ref 803),ay P BG 1415 (.ref 808),ay P BH 1421 (.ref 813),ay P BI 1427 (.ref 818),ay P Vm 1444 (.ref 819),ay P BJ 1450 (.ref 826),ay P BK 1456 (.ref 833),ay P Vn 1465 (.ref 834),ay P Vo 1484 (.ref 841),ay P BL 1490 (.ref 848),ay P BM 1498 (.ref 855),ay P BN 1508 (.ref 862),ay P BP 1514 (.ref 867),ay P BQ 1523 (.ref 874),ay P BR 1532 (.ref 881),ay P BS 1538 (.ref 886),ay P BU 1544 (.ref 891)]
noncomputable def F1:List Value:=[.int 0 0,.ref 20,.int 5 0,.int 0 0,.ref 27,.int 10 0,.int 0 0,.ref 48,.int 15 0,.int 0 0,.ref 68,.int 69 0,.int 0 0,.ref 115,.int 94 0,.int 0 0,.ref 150,.int 112 0,.int 0 0,.ref 171,.int 114 0,.int 0 0,.ref 179,.int 116 0,.int 0 0,.ref 186,.int 118 0,.int 0 0,.ref 194,.int 124 0,.int 0 0,.ref 201,.int 128 0,.int 0 0,.ref 208,.int 135 0,.int 0 0,.ref 215,.int 144 0,.int 0 0,.ref 222,.int 149 0,.int 0 0,.ref 229,.int 153 0,.int 0 0,.ref 236,.int 157 0,.int 0 0,.ref 243,.int 162 0,.int 0 0,.ref 248,.int 179 0,.int 0 0,.ref 255,.int 181 0,.int 0 0,.ref 262,.int 183 0,.int 0 0,.ref 269,.int 185 0,.int 0 0,.ref 276,.int 188 0,.int 0 0,.ref 283,.int 192 0,.int 0 0,.ref 288,.int 196 0,.int 0 0,.ref 295,.int 205 0,.int 0 0,.ref 302,.int 222 0,.int 0 0,.ref 309,.int 231 0,.int 0 0,.ref 315,.int 234 0,.int 0 0,.ref 320,.int 237 0,.int 0 0,.ref 327,.int 245 0,.int 0 0,.ref 334,.int 253 0,.int 0 0,.ref 341,.int 261 0,.int 0 0,.ref 348,.int 267 0,.int 0 0,.ref 355,.int 277 0,.int 0 0,.ref 362,.int 285 0,.int 0 0,.ref 369,.int 299 0,.int 0 0,.ref 376,.int 313 0,.int 0 0,.ref 383,.int 320 0,.int 0 0,.ref 388,.int 329 0,.int 0 0,.ref 395,.int 343 0,.int 0 0,.ref 402,.int 351 0,.int 0 0,.ref 410,.int 365 0,.int 0 0,.ref 415,.int 370 0,.int 0 0,.ref 422,.int 378 0,.int 0 0,.ref 427,.int 380 0,.int 0 0,.ref 434,.int 384 0,.int 0 0,.ref 441,.int 389 0,.int 0 0,.ref 446,.int 391 0,.int 0 0,.ref 453,.int 399 0,.int 0 0,.ref 458,.int 413 0,.int 0 0,.ref 463,.int 421 0,.int 0 0,.ref 470,.int 432 0,.int 0 0,.ref 475,.int 438 0,.int 0 0,.ref 483,.int 486 0,.int 0 0,.ref 602,.int 501 0,.int 0 0,.ref 642,.int 514 0,.int 0 0,.ref 649,.int 519 0,.int 0 0,.ref 656,.int 525 0,.int 0 0,.ref 663,.int 527 0,.int 0 0,.ref 670,.int 534 0,.int 0 0,.ref 681,.int 545 0,.int 0 0,.ref 688,.int 557 0,.int 0 0,.ref 693,.int 560 0,.int 0 0,.ref 698,.int 568 0,.int 0 0,.ref 705,.int 572 0,.int 0 0,.ref 710,.int 587 0,.int 0 0,.ref 715,.int 599 0,.int 0 0,.ref 720,.int 610 0,.int 0 0,.ref 727,.int 621 0,.int 0 0,.ref 734,.int 629 0,.int 0 0,.ref 741,.int 645 0,.int 0 0,.ref 750,.int 647 0,.int 0 0,.ref 755,.int 649 0,.int 0 0,.ref 760,.int 654 0,.int 0 0,.ref 767,.int 664 0,.int 0 0,.ref 774,.int 671 0,.int 0 0,.ref 781,.int 683 0,.int 0 0,.ref 788,.int 685 0,.int 0 0,.ref 795,.int 697 0,.int 0 0,.ref 802,.int 706 0,.int 0 0,.ref 807,.int 709 0,.int 0 0,.ref 812,.int 716 0,.int 0 0,.ref 817,.int 728 0,.int 0 0,.ref 825,.int 730 0,.int 0 0,.ref 832,.int 734 0,.int 0 0,.ref 847,.int 736 0,.int 0 0,.ref 854,.int 738 0,.int 0 0,.ref 861,.int 744 0,.int 0 0,.ref 866,.int 755 0,.int 0 0,.ref 873,.int 759 0,.int 0 0,.ref 880,.int 761 0,.int 0 0,.ref 885,.int 775 0,.int 0 0,.ref 890]
def IJ(P:Params):List Obj:=[boot_o_0 P,boot_o_1 P,boot_o_2 P,boot_o_3 P,boot_o_4 P,boot_o_5 P,boot_o_6 P,boot_o_7 P,boot_o_8 P,boot_o_9 P,boot_o_10 P,gt,z3,k8 Iw 182 Iw 183 184 1 0 0 0 0 11 false 181 12 .none .none .none 185 186,⟨.type "frame",none,.plain,#[some (.ref 13),some (.ref 3),some (.ref 3),none,some (.str i7 164),none,some (.ref 0)]⟩]
def k9(P:Params):BT:=fj 12 (IJ P)
def IK(P:Params):List Obj:=e9 (IJ P) 0 [(2,⟨.none,none,.dict #[ay P hb 223 (.int 39 0),ay P k3 224 (.int 1 0)] 2,#[]⟩),(3,fY (ay P k4 165 (.str iC 194)::List.take 10 (F0 P)) 11),(12,h2 (.int 1 0::List.take 5 F1))]
def IL(P:Params):List Obj:=bL (aA 0) z9 z9 15 187 1 1 3 [SY] .none (.str i7 164)++[c9 [.type "Exception"],⟨.type "builtin_function_or_method",none,.fields #[.builtin "type.__prepare__",.type "type"],#[]⟩,⟨.type "dict",none,.dict #[ay P iD 203 (.str iC 194),ay P oR 205 (.str hw 204),ay P iE 207 (.int 5 206),ay P fZ 216 (.ref 36),ay P iF 219 (.ref 37)] 5,#[]⟩,gt,⟨.none,none,.fields #[.int 7 0,.int 4 0,.ref 35],#[]⟩,k8 hw 198 hw 199 200 5 0 0 0 0 25 false 181 26 .none .none .none 201 202,⟨.type "frame",none,.plain,#[some (.ref 27),some (.ref 3),some (.ref 24),none,some (.str iC 194),none,some (.ref 0)]⟩,c9 [.str Aa 208]]++bL (c5 2 0) fZ S0 30 209 7 2 3 [e6,oS] (.ref 29) (.str iC 194)++[c9 [.str oT 217,.str oS 218],⟨.type "dict",none,.dict #[ay P iD 203 (.str iC 194),ay P iE 207 (.int 5 206),ay P fZ 216 (.ref 36),ay P iF 219 (.ref 37),ay P np 221 (.ref 40),ay P dq 222 .none] 3,#[]⟩,⟨.type "type",none,.cls ⟨hw,[.type "Exception"],[.ref 39,.type "Exception",.type "BaseException",.type "object"],38,hw,true,[],[],false,none,false⟩,#[some (.ref 22),none,some (.str hw 196),some (.str hw 204),some (.builtin "Exception.__new__"),some (.bool true)]⟩,⟨.type "getset_descriptor",none,.fields #[.str np 220,.ref 39,.builtin "ExceptionGroup.__weakref__",.none],#[]⟩,⟨.type "super",none,.fields #[.ref 39,.ref 39,.ref 39],#[]⟩,⟨.type "builtin_function_or_method",none,.fields #[.builtin "object.__init_subclass__",.ref 39],#[]⟩]
def BV(P:Params):BT:=fj 12 (IK P++(IL P))
def IM(P:Params):List Obj:=e9 (IK P) 0 [(3,fY (ay P k4 165 (.str iC 194)::List.take 11 (F0 P)) 12),(12,h2 (.int 1 0::List.take 8 F1))]
def IN(P:Params):List Obj:=e9 (IL P) 0 [(24,⟨.type "type",none,.cls ⟨hw,[.type "Exception"],[.ref 39,.type "Exception",.type "BaseException",.type "object"],38,hw,true,[],[.ref 60],false,none,false⟩,#[some (.ref 22),none,some (.str hw 196),some (.str hw 204),some (.builtin "Exception.__new__"),some (.bool true)]⟩)]
def ga(P:Params):List Obj:=[c9 [.ref 39],⟨.type "builtin_function_or_method",none,.fields #[.builtin "type.__prepare__",.type "type"],#[]⟩,⟨.type "dict",none,.dict #[ay P iD 234 (.str iC 194),ay P oR 236 (.str nq 235),ay P iE 238 (.int 10 237),ay P fZ 249 (.ref 57),ay P iF 252 (.ref 58)] 5,#[]⟩,gt,⟨.none,none,.fields #[.int 12 0,.int 4 0,.ref 56],#[]⟩,k8 nq 229 nq 230 231 10 0 0 0 0 46 false 181 47 .none .none .none 232 233,⟨.type "frame",none,.plain,#[some (.ref 48),some (.ref 3),some (.ref 45),none,some (.str iC 194),none,some (.ref 0)]⟩,c9 [.int 2589 239,.str Aa 240]]++bL (c5 3 0) fZ q2 51 241 12 3 3 [e6,oT,oS] (.ref 50) (.str iC 194)++[c9 [.str oT 250,.str oS 251],⟨.type "dict",none,.dict #[ay P iD 234 (.str iC 194),ay P iE 238 (.int 10 237),ay P fZ 249 (.ref 57),ay P iF 252 (.ref 58),ay P dq 253 .none] 2,#[]⟩,⟨.type "type",none,.cls ⟨nq,[.ref 39],[.ref 60,.ref 39,.type "Exception",.type "BaseException",.type "object"],59,nq,true,[],[],false,none,false⟩,#[some (.ref 43),none,some (.str nq 227),some (.str nq 235),some (.builtin "Exception.__new__"),some (.bool true)]⟩,⟨.type "super",none,.fields #[.ref 60,.ref 60,.ref 60],#[]⟩,⟨.type "builtin_function_or_method",none,.fields #[.builtin "object.__init_subclass__",.ref 60],#[]⟩]
def BW(P:Params):BT:=fj 12 (IM P++(IN P++(ga P)))
def IP(P:Params):List Obj:=e9 (IM P) 0 [(3,fY (ay P k4 165 (.str dH 283)::List.take 27 (F0 P)) 28),(12,h2 (.int 1 0::List.take 11 F1))]
def gu(P:Params):List Obj:=e9 (IN P) 0 [(24,⟨.type "type",none,.cls ⟨hw,[.type "Exception"],[.ref 39,.type "Exception",.type "BaseException",.type "object"],38,hw,true,[],[.ref 60,.ref 80],false,none,false⟩,#[some (.ref 22),none,some (.str hw 196),some (.str hw 204),some (.builtin "Exception.__new__"),some (.bool true)]⟩)]
def gv(P:Params):List Obj:=[c9 [.ref 39],⟨.type "builtin_function_or_method",none,.fields #[.builtin "type.__prepare__",.type "type"],#[]⟩,⟨.type "dict",none,.dict #[ay P iD 263 (.str iC 194),ay P oR 265 (.str nt 264),ay P iE 267 (.int 15 266),ay P fZ 276 (.ref 77),ay P iF 279 (.ref 78)] 5,#[]⟩,gt,⟨.none,none,.fields #[.int 17 0,.int 4 0,.ref 76],#[]⟩,k8 nt 258 nt 259 260 15 0 0 0 0 66 false 181 67 .none .none .none 261 262,⟨.type "frame",none,.plain,#[some (.ref 68),some (.ref 3),some (.ref 65),none,some (.str iC 194),none,some (.ref 0)]⟩,c9 [.str Aa 268]]++bL (c5 4 0) fZ Tg 71 269 17 2 3 [e6,oS] (.ref 70) (.str iC 194)++[c9 [.str oT 277,.str oS 278],⟨.type "dict",none,.dict #[ay P iD 263 (.str iC 194),ay P iE 267 (.int 15 266),ay P fZ 276 (.ref 77),ay P iF 279 (.ref 78),ay P dq 280 .none] 2,#[]⟩,⟨.type "type",none,.cls ⟨nt,[.ref 39],[.ref 80,.ref 39,.type "Exception",.type "BaseException",.type "object"],79,nt,true,[],[],false,none,false⟩,#[some (.ref 63),none,some (.str nt 256),some (.str nt 264),some (.builtin "Exception.__new__"),some (.bool true)]⟩,⟨.type "super",none,.fields #[.ref 80,.ref 80,.ref 80],#[]⟩,⟨.type "builtin_function_or_method",none,.fields #[.builtin "object.__init_subclass__",.ref 80],#[]⟩]
def BX(P:Params):BT:=fj 12 (IP P++(gu P++(ga P++(gv P))))
def IQ(P:Params):List Obj:=e9 (IP P) 0 [(3,fY (ay P k4 165 (.str dH 283)::List.take 58 (F0 P)) 59)]
def gQ(P:Params):List Obj:=[c9 [.int 1 285,.str TR 371],c9 [.int 1 285,.str TS 372],c9 [.int 1 285,.str TU 373],c9 [.int 1 285,.str TV 374],c9 [.int 1 285,.str wh 375],c9 [.int 1 285,.str TW 376],c9 [.int 1 285,.str Ab 377],c9 [.int 1 285,.str oT 378],c9 [.int 2 287,.int 0 379,.int 0 380],c9 [.int 2 287,.int 1 381,.int 0 382],c9 [.int 1 285,.str Ac 383],gt,gt,gt,gt,gt,c9 [.int 8 299,.ref 94,.ref 95,.ref 96,.ref 97,.ref 98,.int 0 384],c9 [.int 8 385,.int 9 386],c9 [.int 6 295,.ref 100],c9 [.int 1 285,.str TX 387],c9 [.int 2 287,.int 0 388,.int 1 389],c9 [.int 2 287,.int 1 390,.int 1 391],c9 [.ref 83,.ref 84,.ref 85,.ref 86,.ref 87,.ref 88,.ref 89,.ref 90,.ref 91,.ref 92,.ref 93,.ref 99,.ref 101,.ref 102,.ref 103,.ref 104],c9 [.int 2 287,.int 3 289,.int 4 291,.int 5 293],c9 [.int 2 287,.int 3 289,.int 4 291,.int 5 293,.int 8 299]]
def BY(P:Params):BT:=fj 12 (IQ P++(gu P++(ga P++(gv P++(gQ P)))))
def IS(P:Params):List Obj:=e9 (IQ P) 0 [(3,fY (ay P k4 165 (.str dH 283)::List.take 59 (F0 P)) 60)]
noncomputable def hc(P:Params):List Obj:=[c9 [.int 8 299,.int 9 301,.int 11 305,.int 12 307,.int 13 309]]
def ra(P:Params):BT:=fj 12 (IS P++(gu P++(ga P++(gv P++(gQ P++(hc P))))))
def IT(P:Params):List Obj:=e9 (IS P) 0 [(3,fY (ay P k4 165 (.str dH 283)::List.take 60 (F0 P)) 61)]
noncomputable def hz(P:Params):List Obj:=[⟨.type "dict",none,.dict #[⟨3,.int 3 325,.int 6 365⟩,⟨4,.int 4 327,.int 5 363⟩,⟨5,.int 5 329,.int 4 361⟩,⟨6,.int 6 331,.int 1 355⟩,⟨7,.int 7 333,.int 2 357⟩,⟨10,.int 10 339,.int 7 367⟩] 6,#[]⟩]
def wn(P:Params):BT:=fj 12 (IT P++(gu P++(ga P++(gv P++(gQ P++(hc P++(hz P)))))))
def IU(P:Params):List Obj:=e9 (IT P) 0 [(3,fY (ay P k4 165 (.str dH 283)::List.take 61 (F0 P)) 62),(12,h2 (.int 1 0::List.take 14 F1))]
def h3(P:Params):List Obj:=[gt,⟨.type "builtin_function_or_method",none,.fields #[.builtin "type.__prepare__",.type "type"],#[]⟩,⟨.type "dict",none,.dict #[ay P iD 410 (.str dH 283),ay P oR 412 (.str nu 411),ay P iE 414 (.int 69 413),ay P fZ 422 (.ref 123),ay P fS 430 (.ref 130),ay P Ad 439 (.ref 137),ay P iF 449 (.ref 138)] 7,#[]⟩,gt,⟨.none,none,.fields #[.int 71 0,.int 4 0,.ref 122,.int 84 0,.int 4 0,.ref 129,.int 87 0,.int 4 0,.ref 136],#[]⟩,k8 nu 405 nu 406 407 69 0 0 0 0 113 false 181 114 .none .none .none 408 409,⟨.type "frame",none,.plain,#[some (.ref 115),some (.ref 3),some (.ref 112),none,some (.str dH 283),none,some (.ref 0)]⟩]++bL (c5 54 0) fZ T0 117 415 71 1 3 [e6,fS] .none (.str dH 283)++bL (c5 54 1) fS T1 124 423 84 2 3 [e6,cV] .none (.str dH 283)++bL (c5 54 2) Ad T2 131 431 87 2 3 [e6,fS,cV] .none (.str dH 283)++[c9 [.str T3 440,.str T4 441,.str T5 442,.str T6 443,.str T7 444,.str T8 445,.str T9 446,.str Ua 447,.str Ub 448],⟨.type "dict",none,.dict #[ay P iD 410 (.str dH 283),ay P iE 414 (.int 69 413),ay P fZ 422 (.ref 123),ay P fS 430 (.ref 130),ay P Ad 439 (.ref 137),ay P iF 449 (.ref 138),ay P q3 451 (.ref 141),ay P np 453 (.ref 142),ay P dq 454 .none] 4,#[]⟩,⟨.type "type",none,.cls ⟨nu,[.type "object"],[.ref 140,.type "object"],139,nu,true,[],[],false,none,false⟩,#[none,none,some (.str nu 403),some (.str nu 411),some (.builtin "object.__new__"),some (.bool true)]⟩,⟨.type "getset_descriptor",none,.fields #[.str q3 450,.ref 140,.builtin "function.__dict__",.builtin "function.__dict__#set"],#[]⟩,⟨.type "getset_descriptor",none,.fields #[.str np 452,.ref 140,.builtin "ExceptionGroup.__weakref__",.none],#[]⟩,⟨.type "super",none,.fields #[.ref 140,.ref 140,.ref 140],#[]⟩,⟨.type "builtin_function_or_method",none,.fields #[.builtin "object.__init_subclass__",.ref 140],#[]⟩]
def BZ(P:Params):BT:=fj 12 (IU P++(gu P++(ga P++(gv P++(gQ P++(hc P++(hz P++(h3 P))))))))
def IV(P:Params):List Obj:=e9 (IU P) 0 [(3,fY (ay P k4 165 (.str dH 283)::List.take 66 (F0 P)) 67),(12,h2 (.int 1 0::List.take 29 F1))]
def iH(P:Params):List Obj:=[gt,⟨.type "builtin_function_or_method",none,.fields #[.builtin "type.__prepare__",.type "type"],#[]⟩,⟨.type "dict",none,.dict #[ay P iD 464 (.str dH 283),ay P oR 466 (.str nv 465),ay P iE 468 (.int 94 467),ay P fZ 478 (.ref 158),ay P iF 494 (.ref 159)] 5,#[]⟩,gt,⟨.none,none,.fields #[.int 96 0,.int 4 0,.ref 157],#[]⟩,k8 nv 459 nv 460 461 94 0 0 0 0 148 false 181 149 .none .none .none 462 463,⟨.type "frame",none,.plain,#[some (.ref 150),some (.ref 3),some (.ref 147),none,some (.str dH 283),none,some (.ref 0)]⟩]++bL (c5 55 0) fZ Uc 152 469 96 4 3 [e6,Ix,tB,oU] .none (.str dH 283)++[c9 [.str Ud 479,.str Ue 480,.str Uf 481,.str Ug 482,.str Uh 483,.str Ix 484,.str Ui 485,.str Uj 486,.str tB 487,.str Uk 488,.str oU 489,.str Ul 490,.str Um 491,.str Un 492,.str Uo 493],⟨.type "dict",none,.dict #[ay P iD 464 (.str dH 283),ay P iE 468 (.int 94 467),ay P fZ 478 (.ref 158),ay P iF 494 (.ref 159),ay P q3 496 (.ref 162),ay P np 498 (.ref 163),ay P dq 499 .none] 4,#[]⟩,⟨.type "type",none,.cls ⟨nv,[.type "object"],[.ref 161,.type "object"],160,nv,true,[],[],false,none,false⟩,#[none,none,some (.str nv 457),some (.str nv 465),some (.builtin "object.__new__"),some (.bool true)]⟩,⟨.type "getset_descriptor",none,.fields #[.str q3 495,.ref 161,.builtin "function.__dict__",.builtin "function.__dict__#set"],#[]⟩,⟨.type "getset_descriptor",none,.fields #[.str np 497,.ref 161,.builtin "ExceptionGroup.__weakref__",.none],#[]⟩,⟨.type "super",none,.fields #[.ref 161,.ref 161,.ref 161],#[]⟩,⟨.type "builtin_function_or_method",none,.fields #[.builtin "object.__init_subclass__",.ref 161],#[]⟩]++bL (aA 56) Ae Ae 166 502 112 2 3 [dj,cV] .none (.str dH 283)++[c9 [.int 0 510]]++bL (aA 57) Af Af 174 511 114 3 3 [dj,oS,Up] (.ref 173) (.str dH 283)++bL (aA 58) Ag Ag 181 520 116 2 3 [dj,Iy] .none (.str dH 283)++[c9 [.int (-1) 529,.int (-1) 531]]++bL (aA 59) Ah Ah 189 532 118 4 3 [dj,oU,q4,Uq,Ur] (.ref 188) (.str dH 283)
def B0(P:Params):BT:=fj 12 (IV P++(gu P++(ga P++(gv P++(gQ P++(hc P++(hz P++(h3 P++(iH P)))))))))
def IW(P:Params):List Obj:=e9 (IV P) 0 [(3,fY (ay P k4 165 (.str dH 283)::List.take 79 (F0 P)) 80),(12,h2 (.int 1 0::List.take 68 F1))]
def i9(P:Params):List Obj:=bL (aA 60) Ai Ai 196 543 124 3 3 [dj,tB,oU,Iz] .none (.str dH 283)++bL (aA 61) Aj Aj 203 553 128 2 3 [dj,cV,fS] .none (.str dH 283)++bL (aA 62) Al Al 210 562 135 1 3 [fS,tB] .none (.str dH 283)++bL (aA 63) Am Am 217 570 144 2 3 [dj,cV,fS] .none (.str dH 283)++bL (aA 64) An An 224 579 149 1 3 [Aw] .none (.str dH 283)++bL (aA 65) Ao Ao 231 586 153 3 3 [dj,Aw,cV] .none (.str dH 283)++bL (aA 66) Ap Ap 238 595 157 1 3 [Aw,cV] .none (.str dH 283)++cJ (aA 67) Aq Aq 245 603 162 2 3 .none (.str dH 283)++bL (aA 68) Ar Ar 250 609 179 2 3 [dj,cV] .none (.str dH 283)++bL (aA 69) As As 257 617 181 2 3 [dj,cV] .none (.str dH 283)++bL (aA 70) At At 264 625 183 2 3 [dj,cV] .none (.str dH 283)++bL (aA 71) Au Au 271 633 185 2 3 [dj,cV,fS] .none (.str dH 283)++bL (aA 72) Av Av 278 642 188 2 3 [dj,cV] .none (.str dH 283)
def B1(P:Params):BT:=fj 12 (IW P++(gu P++(ga P++(gv P++(gQ P++(hc P++(hz P++(h3 P++(iH P++(i9 P))))))))))
def IX(P:Params):List Obj:=e9 (IW P) 0 [(3,fY (ay P k4 165 (.str eS 685)::List.take 95 (F0 P)) 96),(12,h2 (.int 1 0::List.take 98 F1))]
def jK(P:Params):List Obj:=cJ (aA 73) Ax Ax 285 650 192 2 3 .none (.str dH 283)++bL (aA 74) Ay Ay 290 656 196 2 3 [dj,IA,AH,nw,AI] .none (.str dH 283)++bL (aA 75) Az Az 297 667 205 2 3 [dj,cV,fS,tB,IB] .none (.str dH 283)++bL (aA 76) AA AA 304 678 222 1 3 [AI] .none (.str dH 283)++[c9 [.str Uy 697,.str Uz 698,.str UA 699,.str UB 700,.str UC 701,.str UD 702,.str UE 703,.str UF 704,.str UG 705]]++cJ (aA 84) AB AB 312 707 231 2 3 .none (.str eS 685)++cJ (aA 85) AC AC 317 713 234 2 3 .none (.str eS 685)++bL (aA 86) AD AD 322 719 237 3 3 [dj,wi,tC,hy,cV] .none (.str eS 685)++bL (aA 87) AE AE 329 730 245 2 3 [dj,cV,fS,Iz] .none (.str eS 685)++bL (aA 88) AF AF 336 740 253 3 3 [dj,hy,cV,AH,AJ] .none (.str eS 685)++bL (aA 89) AG AG 343 751 261 4 3 [hy,cV,q5,q6] .none (.str eS 685)
def Vs(P:Params):BT:=fj 12 (IX P++(gu P++(ga P++(gv P++(gQ P++(hc P++(hz P++(h3 P++(iH P++(i9 P++(jK P)))))))))))
def IY(P:Params):List Obj:=e9 (IX P) 0 [(3,fY (ay P k4 165 (.str eS 685)::List.take 107 (F0 P)) 108),(12,h2 (.int 1 0::List.take 134 F1))]
def ko(P:Params):List Obj:=bL (aA 90) AK AK 350 761 267 5 3 [dj,hy,cV,q5,q6] .none (.str eS 685)++bL (aA 91) AL AL 357 772 277 5 3 [dj,hy,cV,q5,q6] .none (.str eS 685)++bL (aA 92) AM AM 364 783 285 3 3 [dj,hy,cV,q5,q6] .none (.str eS 685)++bL (aA 93) AN AN 371 794 299 3 3 [dj,IC,cV,wj,UH,wi,UI] .none (.str eS 685)++bL (aA 94) AO AO 378 807 313 2 3 [dj,cV,fS] .none (.str eS 685)++cJ (aA 95) AP AP 385 816 320 3 3 .none (.str eS 685)++bL (aA 96) AQ AQ 390 822 329 3 3 [dj,hy,cV,AH,wi,tC,UJ] .none (.str eS 685)++bL (aA 97) AR AR 397 835 343 2 3 [dj,IA,cV,wj] .none (.str eS 685)++[c9 [.int 0 845]]++bL (aA 98) AS AS 405 846 351 3 3 [dj,cV,wk,nw,fS,q4] (.ref 404) (.str eS 685)++cJ (aA 99) AT AT 412 858 365 3 3 .none (.str eS 685)++bL (aA 100) AU AU 417 864 370 2 3 [dj,cV] .none (.str eS 685)++cJ (aA 101) AV AV 424 872 378 2 3 .none (.str eS 685)
def Vt(P:Params):BT:=fj 12 (IY P++(gu P++(ga P++(gv P++(gQ P++(hc P++(hz P++(h3 P++(iH P++(i9 P++(jK P++(ko P))))))))))))
def IZ(P:Params):List Obj:=e9 (IY P) 0 [(3,fY (ay P k4 165 (.str ed 938)::List.take 118 (F0 P)) 119),(12,h2 (.int 1 0::List.take 158 F1))]
def la(P:Params):List Obj:=bL (aA 102) AW AW 429 878 380 1 3 [fS] .none (.str eS 685)++bL (aA 103) AX AX 436 885 384 2 3 [dj,cV] .none (.str eS 685)++cJ (aA 104) AY AY 443 893 389 2 3 .none (.str eS 685)++bL (aA 105) AZ AZ 448 899 391 3 3 [dj,UN,wk,wj,cV,UO] .none (.str eS 685)++cJ (aA 106) A0 A0 455 911 399 3 3 .none (.str eS 685)++cJ (aA 107) A1 A1 460 917 413 2 3 .none (.str eS 685)++bL (aA 108) A2 A2 465 923 421 2 3 [dj,cV,fS] .none (.str eS 685)++cJ (aA 109) A3 A3 472 932 432 2 3 .none (.str eS 685)++[c9 [.int 1 285,.int 2 287,.int 3 289,.int 4 291,.int 5 293]]
def Vu(P:Params):BT:=fj 12 (IZ P++(gu P++(ga P++(gv P++(gQ P++(hc P++(hz P++(h3 P++(iH P++(i9 P++(jK P++(ko P++(la P)))))))))))))
def I0(P:Params):List Obj:=e9 (IZ P) 0 [(3,fY (ay P k4 165 (.str ed 938)::List.take 119 (F0 P)) 120),(12,h2 (.int 1 0::List.take 161 F1))]
def I1(P:Params):List Obj:=[gt,⟨.type "builtin_function_or_method",none,.fields #[.builtin "type.__prepare__",.type "type"],#[]⟩,⟨.type "dict",none,.dict #[ay P iD 952 (.str ed 938),ay P oR 954 (.str jI 953),ay P iE 956 (.int 438 955),ay P fZ 964 (.ref 491),ay P A4 972 (.ref 498),ay P A5 980 (.ref 505),ay P A6 989 (.ref 512),ay P A7 998 (.ref 519),ay P q4 1006 (.ref 526),ay P q7 1015 (.ref 533),ay P q8 1024 (.ref 540),ay P A8 1034 (.ref 547),ay P A9 1043 (.ref 554),ay P Ba 1052 (.ref 561),ay P Bb 1061 (.ref 568),ay P Bc 1070 (.ref 575),ay P Bd 1079 (.ref 582),ay P Be 1087 (.ref 589),ay P iF 1091 (.ref 590)] 19,#[]⟩,gt,⟨.none,none,.fields #[.int 440 0,.int 4 0,.ref 490,.int 445 0,.int 4 0,.ref 497,.int 448 0,.int 4 0,.ref 504,.int 451 0,.int 4 0,.ref 511,.int 454 0,.int 4 0,.ref 518,.int 457 0,.int 4 0,.ref 525,.int 460 0,.int 4 0,.ref 532,.int 463 0,.int 4 0,.ref 539,.int 466 0,.int 4 0,.ref 546,.int 469 0,.int 4 0,.ref 553,.int 472 0,.int 4 0,.ref 560,.int 475 0,.int 4 0,.ref 567,.int 478 0,.int 4 0,.ref 574,.int 481 0,.int 4 0,.ref 581,.int 484 0,.int 4 0,.ref 588],#[]⟩,k8 jI 947 jI 948 949 438 0 0 0 0 481 false 181 482 .none .none .none 950 951,⟨.type "frame",none,.plain,#[some (.ref 483),some (.ref 3),some (.ref 480),none,some (.str ed 938),none,some (.ref 0)]⟩]++bL (c5 114 0) fZ UP 485 957 440 2 3 [e6,dj] .none (.str ed 938)++bL (c5 114 1) A4 UR 492 965 445 2 3 [e6,cV] .none (.str ed 938)++bL (c5 114 2) A5 US 499 973 448 2 3 [e6,fS] .none (.str ed 938)++bL (c5 114 3) A6 UT 506 981 451 3 3 [e6,fS,Bf] .none (.str ed 938)++bL (c5 114 4) A7 UU 513 990 454 3 3 [e6,fS,Bf] .none (.str ed 938)++bL (c5 114 5) q4 UV 520 999 457 2 3 [e6,cV] .none (.str ed 938)++bL (c5 114 6) q7 UW 527 1007 460 3 3 [e6,hy,cV] .none (.str ed 938)++bL (c5 114 7) q8 UX 534 1016 463 3 3 [e6,hy,cV] .none (.str ed 938)++bL (c5 114 8) A8 U1 541 1025 466 4 3 [e6,UY,UZ,U0] .none (.str ed 938)++bL (c5 114 9) A9 U2 548 1035 469 3 3 [e6,hy,cV] .none (.str ed 938)++bL (c5 114 10) Ba U3 555 1044 472 3 3 [e6,hy,cV] .none (.str ed 938)++bL (c5 114 11) Bb U4 562 1053 475 3 3 [e6,cV,Bf] .none (.str ed 938)++bL (c5 114 12) Bc U6 569 1062 478 3 3 [e6,hy,U5] .none (.str ed 938)++bL (c5 114 13) Bd U7 576 1071 481 3 3 [e6,cV,oU] .none (.str ed 938)++bL (c5 114 14) Be U8 583 1080 484 2 3 [e6,cV] .none (.str ed 938)++[c9 [.str wk 1088,.str ID 1089,.str dj 1090],⟨.type "dict",none,.dict #[ay P iD 952 (.str ed 938),ay P iE 956 (.int 438 955),ay P fZ 964 (.ref 491),ay P A4 972 (.ref 498),ay P A5 980 (.ref 505),ay P A6 989 (.ref 512),ay P A7 998 (.ref 519),ay P q4 1006 (.ref 526),ay P q7 1015 (.ref 533),ay P q8 1024 (.ref 540),ay P A8 1034 (.ref 547),ay P A9 1043 (.ref 554),ay P Ba 1052 (.ref 561),ay P Bb 1061 (.ref 568),ay P Bc 1070 (.ref 575),ay P Bd 1079 (.ref 582),ay P Be 1087 (.ref 589),ay P iF 1091 (.ref 590),ay P q3 1093 (.ref 593),ay P np 1095 (.ref 594),ay P dq 1096 .none] 4,#[]⟩,⟨.type "type",none,.cls ⟨jI,[.type "object"],[.ref 592,.type "object"],591,jI,true,[],[],false,none,false⟩,#[none,none,some (.str jI 945),some (.str jI 953),some (.builtin "object.__new__"),some (.bool true)]⟩,⟨.type "getset_descriptor",none,.fields #[.str q3 1092,.ref 592,.builtin "function.__dict__",.builtin "function.__dict__#set"],#[]⟩,⟨.type "getset_descriptor",none,.fields #[.str np 1094,.ref 592,.builtin "ExceptionGroup.__weakref__",.none],#[]⟩,⟨.type "super",none,.fields #[.ref 592,.ref 592,.ref 592],#[]⟩,⟨.type "builtin_function_or_method",none,.fields #[.builtin "object.__init_subclass__",.ref 592],#[]⟩]
def Vv(P:Params):BT:=fj 12 (I0 P++(gu P++(ga P++(gv P++(gQ P++(hc P++(hz P++(h3 P++(iH P++(i9 P++(jK P++(ko P++(la P++(I1 P))))))))))))))
def I2(P:Params):List Obj:=e9 (I0 P) 0 [(3,fY (ay P k4 165 (.str ed 938)::List.take 121 (F0 P)) 122),(12,h2 (.int 1 0::List.take 167 F1))]
def nA(P:Params):List Obj:=e9 (I1 P) 0 [(114,⟨.type "type",none,.cls ⟨jI,[.type "object"],[.ref 592,.type "object"],591,jI,true,[],[.ref 634],false,none,false⟩,#[none,none,some (.str jI 945),some (.str jI 953),some (.builtin "object.__new__"),some (.bool true)]⟩)]
def nB(P:Params):List Obj:=[c9 [.ref 592],⟨.type "builtin_function_or_method",none,.fields #[.builtin "type.__prepare__",.type "type"],#[]⟩,⟨.type "dict",none,.dict #[ay P iD 1106 (.str ed 938),ay P oR 1108 (.str ny 1107),ay P iE 1110 (.int 486 1109),ay P fZ 1118 (.ref 610),ay P wl 1126 (.ref 617),ay P q7 1135 (.ref 624),ay P q8 1144 (.ref 631),ay P iF 1148 (.ref 632)] 8,#[]⟩,gt,⟨.none,none,.fields #[.int 488 0,.int 4 0,.ref 609,.int 493 0,.int 4 0,.ref 616,.int 496 0,.int 4 0,.ref 623,.int 499 0,.int 4 0,.ref 630],#[]⟩,k8 ny 1101 ny 1102 1103 486 0 0 0 0 600 false 181 601 .none .none .none 1104 1105,⟨.type "frame",none,.plain,#[some (.ref 602),some (.ref 3),some (.ref 599),none,some (.str ed 938),none,some (.ref 0)]⟩]++bL (c5 115 0) fZ U9 604 1111 488 2 3 [e6,dj] .none (.str ed 938)++bL (c5 115 1) wl Va 611 1119 493 2 3 [e6,cV] .none (.str ed 938)++bL (c5 115 2) q7 Vb 618 1127 496 3 3 [e6,hy,cV] .none (.str ed 938)++bL (c5 115 3) q8 Vc 625 1136 499 3 3 [e6,hy,cV] .none (.str ed 938)++[c9 [.str wk 1145,.str ID 1146,.str dj 1147],⟨.type "dict",none,.dict #[ay P iD 1106 (.str ed 938),ay P iE 1110 (.int 486 1109),ay P fZ 1118 (.ref 610),ay P wl 1126 (.ref 617),ay P q7 1135 (.ref 624),ay P q8 1144 (.ref 631),ay P iF 1148 (.ref 632),ay P dq 1149 .none] 2,#[]⟩,⟨.type "type",none,.cls ⟨ny,[.ref 592],[.ref 634,.ref 592,.type "object"],633,ny,true,[],[],false,none,false⟩,#[some (.ref 597),none,some (.str ny 1099),some (.str ny 1107),some (.builtin "object.__new__"),some (.bool true)]⟩,⟨.type "super",none,.fields #[.ref 634,.ref 634,.ref 634],#[]⟩,⟨.type "builtin_function_or_method",none,.fields #[.builtin "object.__init_subclass__",.ref 634],#[]⟩]++bL (aA 116) Bg Bg 637 1152 501 2 3 [dj,cV,Vd,fS] .none (.str ed 938)
def Vw(P:Params):BT:=fj 12 (I2 P++(gu P++(ga P++(gv P++(gQ P++(hc P++(hz P++(h3 P++(iH P++(i9 P++(jK P++(ko P++(la P++(nA P++(nB P)))))))))))))))
def I3(P:Params):List Obj:=e9 (I2 P) 0 [(3,fY (ay P k4 165 (.str iG 1197)::List.take 125 (F0 P)) 126),(12,h2 (.int 1 0::List.take 179 F1))]
def oV(P:Params):List Obj:=bL (aA 117) Bh Bh 644 1162 514 2 3 [fS,oU,AJ] .none (.str ed 938)++bL (aA 118) Bi Bi 651 1171 519 3 3 [nz,cV,oU,fS] .none (.str ed 938)++bL (aA 119) Bj Bj 658 1181 525 2 3 [nz,cV] .none (.str ed 938)++bL (aA 120) Bl Bl 665 1189 527 2 3 [nz,cV] .none (.str ed 938)
def Vx(P:Params):BT:=fj 12 (I3 P++(gu P++(ga P++(gv P++(gQ P++(hc P++(hz P++(h3 P++(iH P++(i9 P++(jK P++(ko P++(la P++(nA P++(nB P++(oV P))))))))))))))))
def I4(P:Params):List Obj:=e9 (I3 P) 0 [(3,fY (ay P k4 165 (.str iG 1197)::List.take 126 (F0 P)) 127)]
def rb(P:Params):List Obj:=[⟨.type "dict",none,.dict #[ay P Ab 1199 (.int 6 331),ay P oT 1200 (.int 7 333),ay P IE 1201 (.int 12 343),ay P wh 1202 (.int 4 327)] 4,#[]⟩]
def Vy(P:Params):BT:=fj 12 (I4 P++(gu P++(ga P++(gv P++(gQ P++(hc P++(hz P++(h3 P++(iH P++(i9 P++(jK P++(ko P++(la P++(nA P++(nB P++(oV P++(rb P)))))))))))))))))
def I5(P:Params):List Obj:=e9 (I4 P) 0 [(3,fY (ay P k4 165 (.str iG 1197)::List.take 127 (F0 P)) 128)]
def tE(P:Params):List Obj:=[⟨.type "dict",none,.dict #[⟨1,.int 1 355,.str Ab 1208⟩,⟨2,.int 2 357,.str oT 1209⟩,⟨3,.int 3 359,.str IE 1210⟩,⟨4,.int 4 361,.str Ac 1211⟩,⟨5,.int 5 363,.str wh 1212⟩,⟨6,.int 6 365,.str wh 1213⟩,⟨7,.int 7 367,.str Ac 1214⟩] 7,#[]⟩]
def Vz(P:Params):BT:=fj 12 (I5 P++(gu P++(ga P++(gv P++(gQ P++(hc P++(hz P++(h3 P++(iH P++(i9 P++(jK P++(ko P++(la P++(nA P++(nB P++(oV P++(rb P++(tE P))))))))))))))))))
def I6(P:Params):List Obj:=e9 (I5 P) 0 [(3,fY (ay P k4 165 (.str i8 1321)::List.take 141 (F0 P)) 142),(12,h2 (.int 1 0::List.take 212 F1))]
def wo(P:Params):List Obj:=[c9 [.int 1 355,.int 2 357,.int 3 359],c9 [.int 4 361,.int 5 363,.int 6 365]]++bL (aA 126) Bm Bm 676 1225 534 2 3 [dj,cV,fS] .none (.str iG 1197)++bL (aA 127) Bn Bn 683 1234 545 4 3 [dj,hy,cV,tD,q5,q6,wi,tC] .none (.str iG 1197)++cJ (aA 128) Bo Bo 690 1248 557 2 3 .none (.str iG 1197)++cJ (aA 129) Bp Bp 695 1254 560 3 3 .none (.str iG 1197)++bL (aA 130) Bq Bq 700 1260 568 3 3 [dj,cV,q9] .none (.str iG 1197)++cJ (aA 131) Br Br 707 1269 572 4 3 .none (.str iG 1197)++cJ (aA 132) Bs Bs 712 1275 587 3 3 .none (.str iG 1197)++cJ (aA 133) Bt Bt 717 1281 599 4 3 .none (.str iG 1197)++bL (aA 134) Bu Bu 722 1287 610 3 3 [dj,cV,tC,Vj,wj,nw] .none (.str iG 1197)++bL (aA 135) Bv Bv 729 1299 621 5 3 [dj,cV,tC,q9,tD] .none (.str iG 1197)++bL (aA 136) Bw Bw 736 1310 629 4 3 [dj,nw,wm,q9,Vk] .none (.str iG 1197)++[c9 [.int 10 303,.int 15 311,.int 16 313]]
def VA(P:Params):BT:=fj 12 (I6 P++(gu P++(ga P++(gv P++(gQ P++(hc P++(hz P++(h3 P++(iH P++(i9 P++(jK P++(ko P++(la P++(nA P++(nB P++(oV P++(rb P++(tE P++(wo P)))))))))))))))))))
def I7(P:Params):List Obj:=e9 (I6 P) 0 [(3,fY (ay P k4 165 (.str jJ 1428)::List.take 154 (F0 P)) 155),(12,h2 (.int 1 0::List.take 248 F1))]
def B2(P:Params):List Obj:=[c9 [.int 1 355,.int 2 357,.int 3 359,.int 4 361,.int 5 363,.int 6 365]]++bL (aA 140) Bx Bx 745 1325 645 2 3 [dj,cV] .none (.str i8 1321)++cJ (aA 141) By By 752 1333 647 2 3 .none (.str i8 1321)++cJ (aA 142) Bz Bz 757 1339 649 2 3 .none (.str i8 1321)++bL (aA 143) BA BA 762 1345 654 4 3 [dj,hy,cV,tD,q5,q6] .none (.str i8 1321)++bL (aA 144) BB BB 769 1357 664 3 3 [nz,nw,IB,AJ] .none (.str i8 1321)++bL (aA 145) BC BC 776 1367 671 2 3 [nz,nw,IF,wm] .none (.str i8 1321)++bL (aA 146) BD BD 783 1377 683 3 3 [nz,cV,q9] .none (.str i8 1321)++bL (aA 147) BE BE 790 1386 685 4 3 [nz,nw,wm,q9,AI,IF] .none (.str i8 1321)++bL (aA 148) BF BF 797 1398 697 4 3 [nz,nw,wm,q9,q4,IC] .none (.str i8 1321)++cJ (aA 149) BG BG 804 1410 706 4 3 .none (.str i8 1321)++cJ (aA 150) BH BH 809 1416 709 4 3 .none (.str i8 1321)++cJ (aA 151) BI BI 814 1422 716 5 3 .none (.str i8 1321)
def VB(P:Params):BT:=fj 12 (I7 P++(gu P++(ga P++(gv P++(gQ P++(hc P++(hz P++(h3 P++(iH P++(i9 P++(jK P++(ko P++(la P++(nA P++(nB P++(oV P++(rb P++(tE P++(wo P++(B2 P))))))))))))))))))))
def I8(P:Params):List Obj:=e9 (I7 P) 0 [(3,fY (ay P k4 165 (.str jJ 1428)::F0 P) 168),(12,h2 (.int 1 0::F1))]
def I9(P:Params):List Obj:=[⟨.type "list",none,.seq #[.int 0 1430,.int 1 1431,.int 2 1432,.int 3 1433,.int 4 1434,.int 5 1435,.int 6 1436,.int 7 1437,.int 8 1438,.int 9 1439,.int 10 1440,.int 11 1441,.int 12 1442,.int 13 1443] 0,#[]⟩]++bL (aA 154) BJ BJ 820 1445 728 0 3 [] .none (.str jJ 1428)++bL (aA 155) BK BK 827 1451 730 0 3 [] .none (.str jJ 1428)++[⟨.type "list",none,.seq #[.int 3 1457,.int 5 1458,.int 6 1459,.int 8 1460,.int 9 1461,.int 11 1462,.int 12 1463,.int 13 1464] 0,#[]⟩,⟨.type "list",none,.seq #[.int 2 1466,.int 0 1467,.int 1 1468] 0,#[]⟩,⟨.type "list",none,.seq #[.int 0 1469,.int 1 1470,.int 2 1471] 0,#[]⟩,⟨.type "list",none,.seq #[.int 1 1472,.int 2 1473,.int 0 1474] 0,#[]⟩,⟨.type "list",none,.seq #[.int 0 1475,.int 2 1476,.int 1 1477] 0,#[]⟩,⟨.type "list",none,.seq #[.int 2 1478,.int 1 1479,.int 0 1480] 0,#[]⟩,⟨.type "list",none,.seq #[.int 1 1481,.int 0 1482,.int 2 1483] 0,#[]⟩,⟨.type "list",none,.seq #[.ref 835,.ref 836,.ref 837,.ref 838,.ref 839,.ref 840] 0,#[]⟩]++bL (aA 158) BL BL 842 1485 734 0 3 [] .none (.str jJ 1428)++bL (aA 159) BM BM 849 1491 736 2 3 [Vp,Vq] .none (.str jJ 1428)++bL (aA 160) BN BN 856 1499 738 1 3 [dj,wl,Vr,Iy] .none (.str jJ 1428)++cJ (aA 161) BP BP 863 1509 744 3 3 .none (.str jJ 1428)++bL (aA 162) BQ BQ 868 1515 755 3 3 [IG,IH,tD] .none (.str jJ 1428)++bL (aA 163) BR BR 875 1524 759 3 3 [IG,IH,tD] .none (.str jJ 1428)++cJ (aA 164) BS BS 882 1533 761 7 3 .none (.str jJ 1428)++cJ (aA 165) BU BU 887 1539 775 1 3 .none (.str jJ 1428)
def VC(P:Params):BT:=fj 12 (I8 P++(gu P++(ga P++(gv P++(gQ P++(hc P++(hz P++(h3 P++(iH P++(i9 P++(jK P++(ko P++(la P++(nA P++(nB P++(oV P++(rb P++(tE P++(wo P++(B2 P++(I9 P)))))))))))))))))))))
def T21(P:Params):BT:=fj 12 (I8 P++(gu P++(ga P++(gv P++(gQ P++(hc P++(hz P++(h3 P++(iH P++(i9 P++(jK P++(ko P++(la P++(nA P++(nB P++(oV P++(rb P++(tE P++(wo P++(B2 P++(I9 P)))))))))))))))))))))
noncomputable def tF(w:World)(os:OsState):SharedT:=⟨k9 w.params,15,{},#[],{},187,os⟩
noncomputable def Ja(w:World)(os:OsState):SharedT:=⟨BV w.params,43,{},#[],{},227,os⟩
noncomputable def Jb(w:World)(os:OsState):SharedT:=⟨BW w.params,63,{},#[],{},256,os⟩
noncomputable def Jc(w:World)(os:OsState):SharedT:=⟨BX w.params,83,{},#[],{},315,os⟩
noncomputable def Jd(w:World)(os:OsState):SharedT:=⟨BY w.params,108,{},#[],{},395,os⟩
noncomputable def tG(w:World)(os:OsState):SharedT:=⟨ra w.params,109,{},#[],{},396,os⟩
noncomputable def tH(w:World)(os:OsState):SharedT:=⟨wn w.params,110,{},#[],{},403,os⟩
noncomputable def Je(w:World)(os:OsState):SharedT:=⟨BZ w.params,145,{},#[],{},457,os⟩
noncomputable def Jf(w:World)(os:OsState):SharedT:=⟨B0 w.params,196,{},#[],{},543,os⟩
noncomputable def Jg(w:World)(os:OsState):SharedT:=⟨B1 w.params,285,{},#[],{},650,os⟩
noncomputable def Jh(w:World)(os:OsState):SharedT:=⟨Vs w.params,350,{},#[],{},761,os⟩
noncomputable def Ji(w:World)(os:OsState):SharedT:=⟨Vt w.params,429,{},#[],{},878,os⟩
noncomputable def Jj(w:World)(os:OsState):SharedT:=⟨Vu w.params,478,{},#[],{},945,os⟩
noncomputable def Jk(w:World)(os:OsState):SharedT:=⟨Vv w.params,597,{},#[],{},1099,os⟩
noncomputable def Jl(w:World)(os:OsState):SharedT:=⟨Vw w.params,644,{},#[],{},1162,os⟩
noncomputable def tJ(w:World)(os:OsState):SharedT:=⟨Vx w.params,672,{},#[],{},1199,os⟩
noncomputable def nC(w:World)(os:OsState):SharedT:=⟨Vy w.params,673,{},#[],{},1208,os⟩
noncomputable def tK(w:World)(os:OsState):SharedT:=⟨Vz w.params,674,{},#[],{},1223,os⟩
noncomputable def Jm(w:World)(os:OsState):SharedT:=⟨VA w.params,744,{},#[],{},1324,os⟩
noncomputable def Jn(w:World)(os:OsState):SharedT:=⟨VB w.params,819,{},#[],{},1430,os⟩
noncomputable def Jo(w:World)(os:OsState):SharedT:=⟨VC w.params,892,{},#[],{},1545,os⟩
noncomputable def wp(w:World)(os:OsState):SharedT:=⟨T21 w.params,892,{},#[],{},1545,os⟩
noncomputable def L0:List Stmt:=[aA 0,aA 1,aA 2]
noncomputable def Jp:List Stmt:=[aA 3]
noncomputable def Jq:List Stmt:=[aA 4,aA 5,aA 6,aA 7,aA 8,aA 9,aA 10,aA 11,aA 12,aA 13,aA 14,aA 15,aA 16,aA 17,aA 18,aA 19,aA 20]
noncomputable def L3:List Stmt:=[aA 21,aA 22,aA 23,aA 24,aA 25,aA 26,aA 27,aA 28,aA 29,aA 30,aA 31,aA 32,aA 33,aA 34,aA 35,aA 36,aA 37,aA 38,aA 39,aA 40,aA 41,aA 42,aA 43,aA 44,aA 45,aA 46,aA 47,aA 48,aA 49,aA 50,aA 51]
noncomputable def Jr:List Stmt:=[aA 52]
noncomputable def tL:List Stmt:=[aA 53]
noncomputable def Js:List Stmt:=[aA 54]
noncomputable def Jt:List Stmt:=[aA 55,aA 56,aA 57,aA 58,aA 59]
noncomputable def L8:List Stmt:=[aA 60,aA 61,aA 62,aA 63,aA 64,aA 65,aA 66,aA 67,aA 68,aA 69,aA 70,aA 71,aA 72]
noncomputable def Ju:List Stmt:=[aA 73,aA 74,aA 75,aA 76,aA 77,aA 78,aA 79,aA 80,aA 81,aA 82,aA 83,aA 84,aA 85,aA 86,aA 87,aA 88,aA 89]
noncomputable def Jv:List Stmt:=[aA 90,aA 91,aA 92,aA 93,aA 94,aA 95,aA 96,aA 97,aA 98,aA 99,aA 100,aA 101]
noncomputable def Jw:List Stmt:=[aA 102,aA 103,aA 104,aA 105,aA 106,aA 107,aA 108,aA 109,aA 110,aA 111,aA 112,aA 113]
noncomputable def Jx:List Stmt:=[aA 114]
noncomputable def Jy:List Stmt:=[aA 115,aA 116]
noncomputable def Jz:List Stmt:=[aA 117,aA 118,aA 119,aA 120,aA 121]
noncomputable def tM:List Stmt:=[aA 122]
noncomputable def tN:List Stmt:=[aA 123]
noncomputable def JA:List Stmt:=[aA 124,aA 125,aA 126,aA 127,aA 128,aA 129,aA 130,aA 131,aA 132,aA 133,aA 134,aA 135,aA 136,aA 137,aA 138]
noncomputable def JB:List Stmt:=[aA 139,aA 140,aA 141,aA 142,aA 143,aA 144,aA 145,aA 146,aA 147,aA 148,aA 149,aA 150,aA 151,aA 152]
noncomputable def JC:List Stmt:=[aA 153,aA 154,aA 155,aA 156,aA 157,aA 158,aA 159,aA 160,aA 161,aA 162,aA 163,aA 164,aA 165]
theorem rf(w:World)(os:OsState):segRunT treeTable pw w 11 dK 1 270 (tF w os) (piecesOf L0 ej cm ⟨0,0,0,0⟩ [topFrame dp])=some (.next,Ja w os,cm,⟨5,0,9,24⟩):=by
 unfold piecesOf
 rw[fB,fh,fC]
 rfl'
theorem g1(w:World)(os:OsState):segRunT treeTable pw w 11 dK 1 251 (Ja w os) (piecesOf Jp ej cm ⟨5,0,9,24⟩ [topFrame dp])=some (.next,Jb w os,cm,⟨10,0,14,24⟩):=by
 unfold piecesOf
 rw[fB,fh,fC]
 rfl'
theorem g2(w:World)(os:OsState):segRunT treeTable pw w 11 dK 1 393 (Jb w os) (piecesOf Jq ej cm ⟨10,0,14,24⟩ [topFrame dp])=some (.next,Jc w os,cm,⟨35,0,35,6⟩):=by
 unfold piecesOf
 rw[fB,fh,fC]
 rfl'
theorem B3(w:World)(os:OsState):segRunT treeTable pw w 11 dK 1 398 (Jc w os) (piecesOf L3 ej cm ⟨35,0,35,6⟩ [topFrame dp])=some (.next,Jd w os,cm,⟨66,0,66,11⟩):=by
 unfold piecesOf
 rw[fB,fh,fC]
 rfl'
theorem B4(w:World)(os:OsState):segRunT treeTable pw w 11 dK 1 21 (Jd w os) (piecesOf Jr ej cm ⟨66,0,66,11⟩ [topFrame dp])=some (.next,tG w os,cm,⟨67,0,67,11⟩):=by
 unfold piecesOf
 rw[fB,fh,fC]
 rfl'
theorem VD(w:World)(os:OsState):segRunT treeTable pw (w.withFollow "special-get-raises" false) 11 dK 1 101 (tG (w.withFollow "special-get-raises" false) os) (piecesOf tL ej cm ⟨67,0,67,11⟩ [topFrame dp])=some (.next,tH (w.withFollow "special-get-raises" false) os,cm,⟨68,0,68,12⟩):=by
 unfold piecesOf
 rw[fB,fh,fC]
 rfl'
theorem VE(w:World)(os:OsState):segRunT treeTable pw (w.withFollow "special-get-raises" true) 11 dK 1 101 (tG (w.withFollow "special-get-raises" true) os) (piecesOf tL ej cm ⟨67,0,67,11⟩ [topFrame dp])=some (.next,tH (w.withFollow "special-get-raises" true) os,cm,⟨68,0,68,12⟩):=by
 unfold piecesOf
 rw[fB,fh,fC]
 rfl'
theorem B5(w:World)(os:OsState):segRunT treeTable pw w 11 dK 1 101 (tG w os) (piecesOf tL ej cm ⟨67,0,67,11⟩ [topFrame dp])=some (.next,tH w os,cm,⟨68,0,68,12⟩):=
 byRow2 "special-get-raises" (P:=λw=>segRunT treeTable pw w 11 dK 1 101 (tG w os) (piecesOf tL ej cm ⟨67,0,67,11⟩ [topFrame dp])=some (.next,tH w os,cm,⟨68,0,68,12⟩)) (λw=>VD w os) (λw=>VE w os) w
theorem VF(w:World)(os:OsState):segRunT treeTable pw w 11 dK 1 296 (tH w os) (piecesOf Js ej cm ⟨68,0,68,12⟩ [topFrame dp])=some (.next,Je w os,cm,⟨69,0,93,16⟩):=by
 unfold piecesOf
 rw[fB,fh,fC]
 rfl'
theorem VG(w:World)(os:OsState):segRunT treeTable pw w 11 dK 1 378 (Je w os) (piecesOf Jt ej cm ⟨69,0,93,16⟩ [topFrame dp])=some (.next,Jf w os,cm,⟨118,0,123,34⟩):=by
 unfold piecesOf
 rw[fB,fh,fC]
 rfl'
theorem VH(w:World)(os:OsState):segRunT treeTable pw w 11 dK 1 392 (Jf w os) (piecesOf L8 ej cm ⟨118,0,123,34⟩ [topFrame dp])=some (.next,Jg w os,cm,⟨188,0,191,12⟩):=by
 unfold piecesOf
 rw[fB,fh,fC]
 rfl'
theorem VI(w:World)(os:OsState):segRunT treeTable pw w 11 dK 1 377 (Jg w os) (piecesOf Ju ej cm ⟨188,0,191,12⟩ [topFrame dp])=some (.next,Jh w os,cm,⟨261,0,266,21⟩):=by
 unfold piecesOf
 rw[fB,fh,fC]
 rfl'
theorem VJ(w:World)(os:OsState):segRunT treeTable pw w 11 dK 1 377 (Jh w os) (piecesOf Jv ej cm ⟨261,0,266,21⟩ [topFrame dp])=some (.next,Ji w os,cm,⟨378,0,379,76⟩):=by
 unfold piecesOf
 rw[fB,fh,fC]
 rfl'
theorem VL(w:World)(os:OsState):segRunT treeTable pw w 11 dK 1 276 (Ji w os) (piecesOf Jw ej cm ⟨378,0,379,76⟩ [topFrame dp])=some (.next,Jj w os,cm,⟨437,0,437,10⟩):=by
 unfold piecesOf
 rw[fB,fh,fC]
 rfl'
theorem VM(w:World)(os:OsState):segRunT treeTable pw w 11 dK 1 684 (Jj w os) (piecesOf Jx ej cm ⟨437,0,437,10⟩ [topFrame dp])=some (.next,Jk w os,cm,⟨438,0,485,17⟩):=by
 unfold piecesOf
 rw[fB,fh,fC]
 rfl'
theorem VN(w:World)(os:OsState):segRunT treeTable pw w 11 dK 1 378 (Jk w os) (piecesOf Jy ej cm ⟨438,0,485,17⟩ [topFrame dp])=some (.next,Jl w os,cm,⟨501,0,513,23⟩):=by
 unfold piecesOf
 rw[fB,fh,fC]
 rfl'
theorem VO(w:World)(os:OsState):segRunT treeTable pw w 11 dK 1 133 (Jl w os) (piecesOf Jz ej cm ⟨501,0,513,23⟩ [topFrame dp])=some (.next,tJ w os,cm,⟨529,0,529,8⟩):=by
 unfold piecesOf
 rw[fB,fh,fC]
 rfl'
theorem VP(w:World)(os:OsState):segRunT treeTable pw (w.withFollow "special-get-raises" false) 11 dK 1 75 (tJ (w.withFollow "special-get-raises" false) os) (piecesOf tM ej cm ⟨529,0,529,8⟩ [topFrame dp])=some (.next,nC (w.withFollow "special-get-raises" false) os,cm,⟨530,0,530,6⟩):=by
 unfold piecesOf
 rw[fB,fh,fC]
 rfl'
theorem VQ(w:World)(os:OsState):segRunT treeTable pw (w.withFollow "special-get-raises" true) 11 dK 1 75 (tJ (w.withFollow "special-get-raises" true) os) (piecesOf tM ej cm ⟨529,0,529,8⟩ [topFrame dp])=some (.next,nC (w.withFollow "special-get-raises" true) os,cm,⟨530,0,530,6⟩):=by
 unfold piecesOf
 rw[fB,fh,fC]
 rfl'
theorem VR(w:World)(os:OsState):segRunT treeTable pw w 11 dK 1 75 (tJ w os) (piecesOf tM ej cm ⟨529,0,529,8⟩ [topFrame dp])=some (.next,nC w os,cm,⟨530,0,530,6⟩):=
 byRow2 "special-get-raises" (P:=λw=>segRunT treeTable pw w 11 dK 1 75 (tJ w os) (piecesOf tM ej cm ⟨529,0,529,8⟩ [topFrame dp])=some (.next,nC w os,cm,⟨530,0,530,6⟩)) (λw=>VP w os) (λw=>VQ w os) w
theorem VS(w:World)(os:OsState):segRunT treeTable pw (w.withFollow "special-get-raises" false) 11 dK 1 109 (nC (w.withFollow "special-get-raises" false) os) (piecesOf tN ej cm ⟨530,0,530,6⟩ [topFrame dp])=some (.next,tK (w.withFollow "special-get-raises" false) os,cm,⟨531,0,531,12⟩):=by
 unfold piecesOf
 rw[fB,fh,fC]
 rfl'
theorem VT(w:World)(os:OsState):segRunT treeTable pw (w.withFollow "special-get-raises" true) 11 dK 1 109 (nC (w.withFollow "special-get-raises" true) os) (piecesOf tN ej cm ⟨530,0,530,6⟩ [topFrame dp])=some (.next,tK (w.withFollow "special-get-raises" true) os,cm,⟨531,0,531,12⟩):=by
 unfold piecesOf
 rw[fB,fh,fC]
 rfl'
theorem VU(w:World)(os:OsState):segRunT treeTable pw w 11 dK 1 109 (nC w os) (piecesOf tN ej cm ⟨530,0,530,6⟩ [topFrame dp])=some (.next,tK w os,cm,⟨531,0,531,12⟩):=
 byRow2 "special-get-raises" (P:=λw=>segRunT treeTable pw w 11 dK 1 109 (nC w os) (piecesOf tN ej cm ⟨530,0,530,6⟩ [topFrame dp])=some (.next,tK w os,cm,⟨531,0,531,12⟩)) (λw=>VS w os) (λw=>VT w os) w
theorem VV(w:World)(os:OsState):segRunT treeTable pw w 11 dK 1 386 (tK w os) (piecesOf JA ej cm ⟨531,0,531,12⟩ [topFrame dp])=some (.next,Jm w os,cm,⟨643,0,643,9⟩):=by
 unfold piecesOf
 rw[fB,fh,fC]
 rfl'
theorem VW(w:World)(os:OsState):segRunT treeTable pw w 11 dK 1 389 (Jm w os) (piecesOf JB ej cm ⟨643,0,643,9⟩ [topFrame dp])=some (.next,Jn w os,cm,⟨726,0,726,8⟩):=by
 unfold piecesOf
 rw[fB,fh,fC]
 rfl'
theorem VX(w:World)(os:OsState):segRunT treeTable pw w 11 dK 1 369 (Jn w os) (piecesOf JC ej cm ⟨726,0,726,8⟩ [topFrame dp])=some (.next,Jo w os,cm,⟨775,0,835,15⟩):=by
 unfold piecesOf
 rw[fB,fh,fC]
 rfl'
theorem VY(w:World)(os:OsState):topGo treeTable pw w 11 dK 12 ⟨boot_heap w.params,#[],boot_drawn,boot_toks,os⟩ (topStub pw)=some ((tF w os).abs,⟨denote treeTable cm,cm,dp,[topFrame dp]⟩):=by
 rw[PySem.W.Fast.te15667345088766844465,fh,PySem.W.Fast.te11892475500146522536]
 rfl'
theorem VZ(w:World)(os:OsState):segRun treeTable pw w 11 dK 1 1 (tF w os).abs (blockOf bd ej cm dp [topFrame dp])=some (.next,(tF w os).abs,cm,dp):=by
 rfl'
theorem V0(w:World)(os:OsState):topRun treeTable pw w 11 dK 2 (Jo w os).abs ⟨doneF .next,cm,⟨775,0,835,15⟩,[topFrame dp]⟩=some (wp w os).abs:=by
 rfl'
theorem V1:bd=(L0++(Jp++(Jq++(L3++(Jr++(tL++(Js++(Jt++(L8++(Ju++(Jv++(Jw++(Jx++(Jy++(Jz++(tM++(tN++(JA++(JB++(JC++[])))))))))))))))))))):=by rfl'
theorem V2(w:World)(os:OsState):topRun treeTable pw w 11 dK (270+(251+(393+(398+(21+(101+(296+(378+(392+(377+(377+(276+(684+(378+(133+(75+(109+(386+(389+(369+2)))))))))))))))))))) (tF w os).abs (restOf bd ej cm dp [topFrame dp])=some (wp w os).abs:=by
 rw[V1]
 exact(piece_app (segRun_of (rf w os)) (piece_app (segRun_of (g1 w os)) (piece_app (segRun_of (g2 w os)) (piece_app (segRun_of (B3 w os)) (piece_app (segRun_of (B4 w os)) (piece_app (segRun_of (B5 w os)) (piece_app (segRun_of (VF w os)) (piece_app (segRun_of (VG w os)) (piece_app (segRun_of (VH w os)) (piece_app (segRun_of (VI w os)) (piece_app (segRun_of (VJ w os)) (piece_app (segRun_of (VL w os)) (piece_app (segRun_of (VM w os)) (piece_app (segRun_of (VN w os)) (piece_app (segRun_of (VO w os)) (piece_app (segRun_of (VR w os)) (piece_app (segRun_of (VU w os)) (piece_app (segRun_of (VV w os)) (piece_app (segRun_of (VW w os)) (piece_app (segRun_of (VX w os)) (piece_nil (V0 w os))))))))))))))))))))))
noncomputable def B6:Nat:=6068
theorem V3(w:World)(os:OsState):topRun treeTable pw w 11 dK B6 ⟨boot_heap w.params,#[],boot_drawn,boot_toks,os⟩ (topStub pw)=some (wp w os).abs:=
 go_top (VY w os) (piece_block (VZ w os) (V2 w os))
noncomputable def H1(P:Params):Heap:=absHeap (T21 P) 892 {}
theorem V4(w:World)(os:OsState):(wp w os).abs=⟨H1 w.params,#[],{},1545,os⟩:=by rfl'
theorem V5(w:World)(os:OsState):topRun treeTable pw w 11 dK B6 ⟨boot_heap w.params,#[],boot_drawn,boot_toks,os⟩ (topStub pw)=some ⟨H1 w.params,#[],{},1545,os⟩:=(V3 w os).trans (congrArg some (V4 w os))
noncomputable def rg:Stmt:=aA 165
def qv:Program:={pw with main:={pw.main with body:=[rg]}}
def V6:=an "law"
def loose0:List Str:=pw.boundNames.filter (λn=>n !=V6)
noncomputable def B7:Shared->Bool:=λ_=>true
theorem V7(w:World):((boot_heap w.params).isNs mainGlobals&&(#[]:Array GenState).size==0,(boot_heap w.params).objs.size,(boot_heap w.params).nsMap mainGlobals "__annotations__")=(true,11,dK):=by rfl'
theorem V8(w:World):staticsOk (importedModules pw.main.body) (boot_heap w.params) (H1 w.params)=true:=by rfl'
theorem V9(w:World):namesBound pw (H1 w.params)=true:=by rfl'
theorem Wa(w:World):laidKept (boot_heap w.params) (H1 w.params)=true:=by rfl'
noncomputable def JD(w:World)(os:OsState):Shared:=⟨H1 w.params,#[],{},1545,os⟩
theorem an0:chainsOk qv=true:=by rfl'
theorem an1:opensWell pw=true:=by rfl'
theorem an2(w:World)(os:OsState):seen ((recsOf qv).map (·.name)) (ownsOf qv) [] {JD w os with gens:= #[]}=expectedOf qv:=by rfl'
theorem an3(w:World)(os:OsState):(H1 w.params).bltView=bltViewBooted:=by rfl'
theorem B8:importedModules pw.main.body=[]:=by rfl'
theorem Wb(w:World)(os:OsState):openSeen qv loose0 [] B7 true (JD w os)=openGood qv loose0:=by rfl'
abbrev lawRow:OpenRow:=PySem.Challenge.rw_pc0112_01.row
noncomputable def XP0:(Str->Option Value)->Heap->Prop:=λ_ _=>True
noncomputable def YP0:World->Heap->Prop:=λw h=>∀b o,(H1 w.params).get? b=some o->h.get? b=some o
def d0:DefRec:={name:=PySem.Challenge.rw_pc0112_01.name,params:=mh (aA 165),body:=q0 (aA 165),scope:=nl (aA 165),pos:=match aA 165 with| .FunctionDef _ _ _ _ _ _ _ _ _ p=>p|_=>default}
theorem Wc:LeftO pw qv loose0 B7 (λs=>s.heap) (λw=>H1 w.params) 20000:=by
 refine LeftO.of_pieces (H₀:=boot_heap) (H₁:=H1) (gs₀:= #[]) (gs₁:= #[]) (d₀:=boot_drawn) (d₁:={}) (k₀:=boot_toks) (k₁:=1545) (m₀:=11) (ann:=dK) (M:=B6) ?_ ?_ ?_ ?_ ?_
 .exact λw=>boot_open (p:=pw) (by rfl') (by rfl') (λs=>by rfl') w
 .exact V7
 .exact V5
 .rfl'
 .intro w
  funext os
  rw[B8,<-B8,V8,V9,Wa,B8]
  exact congrArg (λx=>(true,x,H1 w.params)) (Wb w os)
theorem Wd:defOf qv lawRow.name=some (d0,[]):=by rfl'
theorem We:lawRow.prog.theDef lawRow.name=some (d0.params,d0.body,d0.scope):=by rfl'
theorem Wf:lawRow.toRowW.promised:=by
 w_witness2
theorem holds0(walk:WalkO qv loose0 XP0 YP0 lawRow.toRowW d0 [] (λf vs=>call f vs)):PySem.Challenge.rw_pc0112_01.Holds:=by
 refine holds_law SO λWg=>?_
 refine holds_open (q:=qv) (loose:=loose0) (Xt:=B7) (XP:=XP0) (Yf:=λs=>s.heap) (Ya:=λw=>H1 w.params) (YP:=YP0) (d:=d0) (kwd:=[]) (N:=20000) Wc
  (λw s e=>?_) (λw h h' y k=>?_) (λs _=>trivial) (λbp h h' x k=>trivial) Wd We rfl (λs _=>recFacts_nil rfl) rfl Wg (by rfl') ⟨rfl,rfl,rfl,rfl,rfl,by decide+kernel⟩ Wf walk
 .exact λb o q=>e▸q
 .exact λb o q=>k b o (y b o q)
end Mine.Hd
end
noncomputable section
open PySem PySem.W PyProof.Rows
namespace Mine
inductive V where
 |none
 |bool (b:Bool)
 |int (i:Int)
 |str (s:Str)
 |tup (l:List V)
 |list (l:List V)
 |dict (l:List (V×V))
 |ty (r:V)
 |tab
 |host
 |decl (k:Nat)
noncomputable def f0:List Nat->List Nat->Bool
 |[],l=>l.isEmpty
 |a::x,l=>match l with
  |[]=>false
  |b::y=>Nat.beq a b&&f0 x y
def a9 (a b:Str):Bool:=f0 a.cps.toList b.cps.toList
noncomputable def jL:Int->Option Nat
 | .ofNat k=>some k
 | .negSucc _=>none
def cN (a b:Int):Bool:=match a with
 | .ofNat a=>(match jL b with
  |some b=>Nat.beq a b
  |none=>false)
 | .negSucc a=>(match jL (-b - 1) with
  |some b=>Nat.beq a b
  |none=>false)
noncomputable def h4 (a b:Int):Bool:=match b - a with| .ofNat _=>true| .negSucc _=>false
noncomputable def e0 (a b:Int):Bool:=match b - a with| .ofNat n=> !Nat.beq n 0| .negSucc _=>false
noncomputable def od {α bR:Type} (x:Option α) (f:α->Option bR):Option bR:=match x with
 |some a=>f a
 |none=>none
noncomputable def ow {α:Type} (c:Bool) (x:Option α):Option α:=match c with
 |true=>x
 |false=>none
noncomputable def ci {α:Type} (x:Option α) (f:α->Bool):Bool:=match x with
 |some a=>f a
 |none=>false
noncomputable def oW:V->Bool
 | .none=>true
 |_=>false
noncomputable def wq:V->Option Bool
 | .bool b=>some b
 |_=>none
noncomputable def ja:V->Option Int
 | .int i=>some i
 |_=>none
noncomputable def wr:V->Option Str
 | .str s=>some s
 |_=>none
noncomputable def kp:V->Option (List V)
 | .tup l=>some l
 |_=>none
noncomputable def rh:V->Option (List V)
 | .list l=>some l
 |_=>none
noncomputable def oX:V->Option (List (V×V))
 | .dict l=>some l
 |_=>none
noncomputable def tO:V->Option V
 | .ty r=>some r
 |_=>none
noncomputable def JE:V->Option Nat
 | .decl k=>some k
 |_=>none
noncomputable def tP:V->Bool
 | .tab=>true
 |_=>false
noncomputable def isInt:V->Bool
 | .int _=>true
 |_=>false
noncomputable def isStr:V->Bool
 | .str _=>true
 |_=>false
noncomputable def gw:V->Bool
 | .tup _=>true
 |_=>false
def kq (v:V):Option Nat:=od (ja v) jL
def B9 (v:V):Bool:=ci (ja v) λi=>match i with
 | .ofNat _=>false
 | .negSucc k=>Nat.beq k 0
noncomputable def hd:V->Option (List V)
 | .tup l=>some l
 | .list l=>some l
 |_=>none
mutual
noncomputable def V.same:V->V->Bool
 | .none,b=>oW b
 | .bool a,b=>ci (wq b) λb=>a==b
 | .int a,b=>ci (ja b) (cN a)
 | .str a,b=>ci (wr b) (a9 a)
 | .tup a,b=>ci (kp b) (V.l8 a)
 | .list a,b=>ci (rh b) (V.l8 a)
 | .ty a,b=>ci (tO b) (V.same a)
 |_,_=>false
noncomputable def V.l8:List V->List V->Bool
 |[],b=>b.isEmpty
 |a::x,b=>match b with
  |[]=>false
  |b::y=>V.same a b&&V.l8 x y
end
structure T where
 base:List V
 dyn:List V
 bld:Bool
 decls:List V
 bounds:List Int
 cnt:Nat
 I:Option (List V):=none
def ri (n:Nat):V->Bool
 | .int i=>e0 i n
 | .str _=>true
 | .ty _=>true
 |_=>false
noncomputable def nE {α:Type} (d:Bool) (f:α->Bool):Option (List α)->Bool
 |some l=>l.all f
 |none=>d
def V.key (n:Nat):Nat->V->Bool
 |0,v=>ri n v
 |d+1,v=>nE (ri n v) (V.key n d) (kp v)
noncomputable def V.flat:V->Bool
 | .dict _=>false
 | .tab=>false
 | .host=>false
 | .decl _=>false
 |_=>true
def dL (x:V):List V->Nat->Option Nat
 |[],_=>none
 |y::r,n=>match V.same y x with
  |true=>some n
  |false=>dL x r (n+1)
def rj (v:V):Bool:=ci (kp v) λl=>ci l.head? λh=>ci (kq h) λk=>Nat.beq k 6||Nat.beq k 7
def T.rowOf (H:T) (v:V):Option V:=match tO v with
 |some r=>some r
 |none=>od (kq v) λi=>H.base[i]?
noncomputable def T.kb (H:T):Nat:=match H.bld with
 |true=>64
 |false=>H.base.length
noncomputable def Ca (row:V) (l:List V):Option Nat->List V
 |some _=>l
 |none=>l++[row]
def T.putN (H:T) (row:V):Option Nat->Option (V×T)
 |some i=>some (.int i,H)
 |none=>cond H.bld (some (.int H.base.length,{H with base:=H.base++[row],cnt:=H.cnt+1}))
   (ow (rj row) (some (.ty row,{H with dyn:=Ca row H.dyn (dL row H.dyn 0),cnt:=H.cnt+1})))
def T.put (H:T) (row:V):Option (V×T):=ow (gw row&&V.key H.kb 4 row) (T.putN H row (dL row H.base 0))
noncomputable def Wh:Option Nat->Int
 |some i=>i
 |none=> -1
def T.find (H:T) (row:V):Option V:=ow (gw row&&V.key H.kb 4 row&& !rj row&& !H.bld) (some (.int (Wh (dL row H.base 0))))
def T.pos (H:T) (r:V):Nat:=(dL r H.dyn 0).getD 0
def T.SH (H:T) (r:V):Bool:=match H.I with
 |none=>true
 |some l=>(dL r l 0).isSome
def T.amV (H:T) (a:Int):V->Option Bool
 | .int b=>some (h4 a b)
 | .ty _=>ow (e0 a H.base.length) (some true)
 |_=>none
def T.amJ (H:T) (r:V):V->Option Bool
 | .int b=>ow (e0 b H.base.length) (some false)
 | .ty s=>ow (H.SH r&&H.SH s) (some (Nat.ble (H.pos r) (H.pos s)))
 |_=>none
def T.le (H:T) (a b:V):Option Bool:=match a with
 | .int a=>H.amV a b
 | .ty r=>H.amJ r b
 |_=>none
def T.ins (H:T) (x:V):List V->Option (List V)
 |[]=>some [x]
 |y::r=>od (H.le x y) λt=>cond t (some (x::y::r)) (od (H.ins x r) λl=>some (y::l))
def T.sort (H:T):List V->Option (List V)
 |[]=>some []
 |x::r=>od (H.sort r) (H.ins x)
def T.HZ (H:T) (a:Int):V->Option Bool
 | .int b=>some (cN a b)
 | .str _=>some false
 | .ty _=>ow (e0 a H.base.length) (some false)
 |_=>none
def T.H7 (a:Str):V->Option Bool
 | .str b=>some (a9 a b)
 | .int _=>some false
 | .ty _=>some false
 |_=>none
def T.eqT (H:T) (a:V):V->Option Bool
 | .ty b=>some (V.same a b)
 | .str _=>some false
 | .int b=>ow (e0 b H.base.length) (some false)
 |_=>none
mutual
noncomputable def T.eq (H:T):V->V->Option Bool
 | .none,b=>ow (oW b) (some true)
 | .bool a,b=>od (wq b) λb=>some (a==b)
 | .int a,b=>H.HZ a b
 | .str a,b=>T.H7 a b
 | .ty a,b=>H.eqT a b
 | .tup a,b=>od (kp b) (H.eqs a)
 |_,_=>none
noncomputable def T.eqs (H:T):List V->List V->Option Bool
 |[],b=>some b.isEmpty
 |a::x,b=>match b with
  |[]=>some false
  |b::y=>od (H.eq a b) λt=>cond t (H.eqs x y) (some false)
end
def T.mem (H:T) (x:V):List V->Option Bool
 |[]=>some false
 |y::r=>od (H.eq y x) λt=>cond t (some true) (H.mem x r)
def T.l9 (H:T) (a b:V):Option Bool:=ow (isStr a==isStr b) (H.eq a b)
def T.get (H:T) (x:V):List (V×V)->Option (Option V)
 |[]=>some none
 |p::r=>od (H.l9 p.1 x) λt=>cond t (some (some p.2)) (H.get x r)
def T.k5 (H:T) (x v:V):List (V×V)->Option (List (V×V))
 |[]=>some [(x,v)]
 |p::r=>od (H.l9 p.1 x) λt=>cond t (some ((p.1,v)::r)) (od (H.k5 x v r) λl=>some (p::l))
noncomputable def cz {α:Type} (l:List α):Bool:=Nat.ble l.length 4096
def V.jB:Nat->V->Bool
 |0,v=>nE true (λ_=>false) (od (hd v) λl=>some (v::l))
 |d+1,v=>nE true (V.jB d) (hd v)
def V.truth:V->Option Bool
 | .none=>some false
 | .bool b=>some b
 | .int i=>some (!cN i 0)
 | .tup l=>ow (cz l) (some (!l.isEmpty))
 | .list l=>ow (cz l) (some (!l.isEmpty))
 |_=>Option.none
noncomputable def jb:V->Bool
 | .int _=>true
 | .ty _=>true
 | .str _=>true
 |_=>false
noncomputable def mj:V->Bool
 | .int _=>true
 | .ty _=>true
 |_=>false
def tQ (l:List V):Int->Option V
 | .ofNat i=>l[i]?
 | .negSucc i=>ow (Nat.ble (i+1) l.length) (l[l.length - (i+1)]?)
abbrev am:=List (Str×V×Bool)
def a2:am->Str->Option (V×Bool)
 |[],_=>none
 |p::r,x=>cond (a9 p.1 x) (some p.2) (a2 r x)
def cb:am->Str->V->Bool->am
 |[],x,v,o=>[(x,v,o)]
 |p::r,x,v,o=>cond (a9 p.1 x) ((p.1,v,o)::r) (p::cb r x v o)
def lk:List (Str×NameKind)->Str->Option NameKind
 |[],_=>none
 |p::r,x=>cond (a9 p.1 x) (some p.2) (lk r x)
inductive Fl where
 |next
 |ret (v:V)
noncomputable def oY:List Nat->Bool
 |[]=>true
 |c::r=>Nat.blt c 1114112&&oY r
def JF:Const->Option V
 | .none=>some .none
 | .bool b=>some (.bool b)
 | .int i=>some (.int i)
 | .str s=>ow (oY s.cps.toList) (some (.str s))
 |_=>none
def lb {α:Type} (a b:V) (f:Int->Int->Option α):Option α:=od (ja a) λa=>od (ja b) λb=>f a b
def JG:V->V->Option V
 | .int a,b=>od (ja b) λb=>some (.int (a+b))
 | .tup a,b=>od (kp b) λb=>ow (cz (a++b)) (some (.tup (a++b)))
 | .list a,b=>od (rh b) λb=>ow (cz (a++b)) (some (.list (a++b)))
 |_,_=>none
def kr:Operator->V->V->Option V
 | .Add,a,b=>JG a b
 | .Sub,a,b=>lb a b λa b=>some (.int (a - b))
 | .Mult,a,b=>lb a b λa b=>ow (h4 0 a&&h4 a 1000000) (some (.int (a*b)))
 | .FloorDiv,a,b=>lb a b λa b=>ow (e0 0 b&&h4 b 1000000) (some (.int (Int.fdiv a b)))
 | .Mod,a,b=>lb a b λa b=>ow (e0 0 b) (some (.int (Int.fmod a b)))
 | .BitAnd,a,b=>od (kq a) λa=>od (kq b) λb=>some (.int (Nat.land a b:Nat))
 |_,_,_=>none
def ws (x:Option Bool):Option Bool:=od x λb=>some (!b)
def JH (a b:V):Option Bool:=ow (oW b) (match a with
 | .none=>some true
 | .tup _=>some false
 | .list _=>some false
 |_=>none)
def Cb (H:T) (a:V):V->Option Bool
 | .tup l=>ow (V.jB 20 a&&a.flat) (H.mem a l)
 | .list l=>ow (V.jB 20 a&&a.flat) (H.mem a l)
 | .dict l=>ow (jb a) (od (H.get a l) λo=>some o.isSome)
 |_=>none
def cX (H:T):CmpOp->V->V->Option Bool
 | .Eq,a,b=>ow (V.jB 20 a) (H.eq a b)
 | .NotEq,a,b=>ow (V.jB 20 a) (ws (H.eq a b))
 | .Lt,a,b=>lb a b λa b=>some (e0 a b)
 | .LtE,a,b=>lb a b λa b=>some (h4 a b)
 | .Gt,a,b=>lb a b λa b=>some (e0 b a)
 | .GtE,a,b=>lb a b λa b=>some (h4 b a)
 | .Is,a,b=>JH a b
 | .In,a,b=>Cb H a b
 | .NotIn,a,b=>ws (Cb H a b)
 |_,_,_=>none
def rk:List V->Option (List Bool)
 |[]=>some []
 |v::r=>od (wq v) λb=>od (rk r) λl=>some (b::l)
noncomputable def rl (i:Nat):Nat->List V
 |0=>[]
 |n+1=> .int i::rl (i+1) n
def dy:=an "len"
def wt:=an "all"
def tR:=an "any"
def tS:=an "sorted"
def tT:=an "tuple"
def Cc:=an "min"
def JI:=an "max"
def h5:=an "range"
def mm:=an "isinstance"
def tU:=an "str"
def h6:=an "rows"
def kt:=an "decls"
def ku:=an "bounds"
def jc:=an "index"
def cF:=an "tab"
def fT:=an "body"
def lc:=an "bases"
def oZ:Str:="get"
def h7:Str:="put"
def jd:=an "append"
def wu:=an "extend"
def tV:=an "new_decl"
def tW:=an "new_param"
def dM:=an ".0"
def Cd:=an "__debug__"
def Ce:=an "__classdict__"
noncomputable def fD {α:Type}:List α->Option α
 |[]=>none
 |a::r=>match r with
  |[]=>some a
  |_::_=>none
def mn {α:Type}:List α->Option (α×α)
 |[]=>none
 |a::r=>od (fD r) λb=>some (a,b)
def Cf:V->Option V
 | .tup l=>ow (cz l) (some (.int l.length))
 | .list l=>ow (cz l) (some (.int l.length))
 | .dict l=>ow (cz l) (some (.int l.length))
 |_=>none
def rm (f:List Bool->Bool) (v:V):Option V:=od (rh v) λl=>ow (cz l) (od (rk l) λbs=>some (.bool (f bs)))
def Cg (H:T) (v:V):Option V:=od (oX v) λl=>ow (Nat.ble l.length 63&&l.all (λp=>mj p.1)) (od (H.sort (l.map (·.1))) λl=>some (.list l))
def Ch:V->Option V
 | .list l=>ow (cz l) (some (.tup l))
 | .tup l=>some (.tup l)
 |_=>none
def Ci (f:Int->Int->Int) (q:V×V):Option V:=lb q.1 q.2 λa b=>some (.int (f a b))
def Wi (a b:Int):Int:=cond (e0 b a) b a
def Wj (a b:Int):Int:=cond (e0 a b) b a
def f1 (H:T) (x:Str) (as:List V):Option V:=
 cond (a9 x dy) (od (fD as) Cf) (cond (a9 x wt) (od (fD as) (rm λl=>l.all id)) (cond (a9 x tR) (od (fD as) (rm λl=>l.any id)) (cond (a9 x tS) (od (fD as) (Cg H))
  (cond (a9 x tT) (od (fD as) Ch) (cond (a9 x Cc) (od (mn as) (Ci Wi)) (ow (a9 x JI) (od (mn as) (Ci Wj))))))))
def JJ (l u:V):List V->Option V
 |[]=>none
 |x::r=>ow (oW l&&B9 u&&cz r) (some (.tup ((x::r).take r.length)))
def JK (a4:List V) (l u:V):Option V:=ow (cz a4) (cond (oW u) (od (kq l) λa=>some (.list (a4.drop a))) (ow (oW l) (od (kq u) λb=>some (.list (a4.take b)))))
def o6 (b l u:V):Option V:=match b with
 | .list a4=>JK a4 l u
 | .tup a4=>JJ l u a4
 |_=>none
def fE (H:T) (b k:V):Option V:=match b with
 | .tup l=>od (ja k) λi=>ow (cz l) (tQ l i)
 | .list l=>od (ja k) λi=>ow (cz l) (tQ l i)
 | .dict l=>ow (jb k) (od (H.get k l) id)
 |_=>none
noncomputable def ek:Expr->Option Str
 | .Name x _=>some x
 |_=>none
structure Att where
 o:Expr
 a:Str
 p:Pos
noncomputable def lg :Expr->Option Att
 | .Attribute o a p=>some ⟨o,a,p⟩
 |_=>none
noncomputable def Wk:Expr->Option Expr
 | .Subscript b _ _=>some b
 |_=>none
def Wl:Expr->Option Att
 | .Call f _ _ _=>lg f
 |_=>none
def tX (x:Str):Nat->Stmt->Bool
 |0,_=>true
 |n+1,s=>match s with
  | .Expr e _=>ci (Wl e) λq=>ci (ek q.o) λy=>a9 x y&&(a9 q.a jd||a9 q.a wu)
  | .Assign cO _ _=>cO.any λt=>ci (Wk t) λb=>ci (ek b) (a9 x)
  | .If _ b o _=>b.any (tX x n)||o.any (tX x n)
  | .For _ _ b o _=>b.any (tX x n)||o.any (tX x n)
  |_=>false
def fU (x:Str) (b:List Stmt):Bool:=b.any (tX x 12)
def JL (x:Str):Option Str->Bool
 |some y=>a9 x y
 |none=>true
def o7 (x:Str):Expr->Bool
 | .Name y _=>a9 x y
 | .Tuple es _ _=>es.any λe=>JL x (ek e)
 | .Subscript ..=>false
 | .Attribute ..=>false
 |_=>true
def fV (x:Str):Nat->Stmt->Bool
 |0,_=>true
 |n+1,s=>match s with
  | .Expr ..=>false
  | .Return ..=>false
  | .Assign cO _ _=>cO.any (o7 x)
  | .If _ b o _=>b.any (fV x n)||o.any (fV x n)
  | .For t _ b o _=>o7 x t||b.any (fV x n)||o.any (fV x n)
  |_=>true
def kv (x:Str) (b:List Stmt):Bool:=b.any (fV x 12)
structure Fn where
 st:Stmt
 dfl:List V
noncomputable def Fn.ps (f:Fn):List Str:=match f.st with
 | .FunctionDef _ a _ _ _ _ _ _ _ _=>a.args.map (·.arg)
 |_=>[]
noncomputable def Fn.bd (f:Fn):List Stmt:=match f.st with
 | .FunctionDef _ _ b _ _ _ _ _ _ _=>b
 |_=>[]
noncomputable def Fn.sc (f:Fn):Scope:=match f.st with
 | .FunctionDef _ _ _ _ _ _ s _ _ _=>s
 |_=>default
structure Cx where
 sc:Scope
 bd:List Stmt
structure Gl where
 val:Str->Option V
 fn:Str->Option Fn
 i3:Str->Option Fn
 free:Str->Bool
mutual
noncomputable def V.k7:V->Bool
 | .list _=>false
 | .tup l=>V.HY l
 | .dict _=>false
 |_=>true
noncomputable def V.HY:List V->Bool
 |[]=>true
 |v::r=>V.k7 v&&V.HY r
end
mutual
noncomputable def V.ma:V->Bool
 | .dict _=>false
 | .tup l=>V.zu l
 | .list l=>V.zu l
 |_=>true
noncomputable def V.zu:List V->Bool
 |[]=>true
 |v::r=>V.ma v&&V.zu r
end
noncomputable def JM:V->Bool
 | .dict _=>true
 |_=>false
def lh (r:V) (s:V×Bool):Bool:=cond s.2 (cond (JM s.1) (V.ma r) (V.k7 r)) true
def tY (J:am) (r:V) (e:Expr):Bool:=match od (ek e) (a2 J) with
 |some s=>lh r s
 |none=>true
def gx (J:am) (r:V):List Expr->Bool
 |[]=>true
 |e::es=>tY J r e&&gx J r es
def o8 (ps:List Str) (as dfl:List V):Option am:=
 ow (Nat.ble as.length ps.length&&Nat.ble (ps.length - as.length) dfl.length) (some ((ps.zip (as++dfl.drop (dfl.length - (ps.length - as.length)))).map λq=>(q.1,q.2,false)))
noncomputable def ob {α bR:Type} (x:Option (α×T)) (f:α->T->Option bR):Option bR:=match x with
 |some (a,s)=>f a s
 |none=>none
def oc {α:Type} (x:Option (Fl×am×T)) (f:Fl->am->T->Option α):Option α:=match x with
 |some (a,r,s)=>f a r s
 |none=>none
noncomputable def pt {α:Type} (H:T) (x:Option α):Option (α×T):=match x with
 |some a=>some (a,H)
 |none=>none
def thn (x:Option (Fl×am×T)) (k:am->T->Option (Fl×am×T)):Option (Fl×am×T):=oc x λf J H=>match f with
 | .next=>k J H
 | .ret v=>some (.ret v,J,H)
inductive OB {α bR:Type} (x:Option (α×T)) (f:α->T->Option bR) (r:bR):Prop
 |mk (a:α) (s:T) (e:x=some (a,s)) (k:f a s=some r)
inductive OC {α:Type} (x:Option (Fl×am×T)) (f:Fl->am->T->Option α) (r:α):Prop
 |mk (a:Fl) (J:am) (s:T) (e:x=some (a,J,s)) (k:f a J s=some r)
inductive OD {α bR:Type} (x:Option α) (f:α->Option bR) (r:bR):Prop
 |mk (a:α) (e:x=some a) (k:f a=some r)
theorem b1{α bR:Type}:∀{x:Option (α×T)}{f:α->T->Option bR}{r:bR},ob x f=some r->OB x f r
 |some (a,s),_,_,h=>⟨a,s,rfl,h⟩
theorem rn{α:Type}:∀{x:Option (Fl×am×T)}{f:Fl->am->T->Option α}{r:α},oc x f=some r->OC x f r
 |some (a,J,s),_,_,h=>⟨a,J,s,rfl,h⟩
theorem bD{α bR:Type}:∀{x:Option α}{f:α->Option bR}{r:bR},od x f=some r->OD x f r
 |some a,_,_,h=>⟨a,rfl,h⟩
theorem br{α:Type}:∀{c:Bool}{x:Option α}{r:α},ow c x=some r->c=true/\x=some r
 |true,_,_,h=>⟨rfl,h⟩
theorem pI{α bR:Type}{a b:α}{s t:bR}(h:some (a,s)=some (b,t)){P:α->bR->Prop}(k:P a s):P b t:=by
 injection h with h;injection h with aa ah;subst aa;subst ah;exact k
theorem rp{α bR JN:Type}{a b:α}{s t:bR}{u v:JN}(h:some (a,s,u)=some (b,t,v)){P:α->bR->JN->Prop}(k:P a s u):P b t v:=by
 injection h with h;injection h with aa h;injection h with ah aC;subst aa;subst ah;subst aC;exact k
theorem h8{α:Type}{H:T}:∀{x:Option α}{a:α}{O:T},pt H x=some (a,O)->∀{P:α->T->Prop},(∀a,x=some a->P a H)->P a O
 |some a,_,_,h,_,k=>pI h (k a rfl)
theorem aI{α:Type}{r:α}{P:Prop}(h:none=some r):P:=nomatch h
def gy (c:Cx) (x:Str):Bool:=match lk c.sc.names x with
 |some .globalImplicit=>true
 |_=>false
def fF (c:Cx) (x:Str):Bool:=match lk c.sc.names x with
 |some .local|some .cell|some .free=>true
 |_=>false
def d6 (c:Cx) (x:Str):Bool:=match lk c.sc.names x with
 |some .local|some .cell=> !a9 x dM
 |_=>false
def dz (f:Expr->T->Option (V×T)):List Expr->T->Option (List V×T)
 |[],H=>some ([],H)
 |e::r,H=>ob (f e H) λv H=>ob (dz f r H) λvs H=>some (v::vs,H)
def o9 (f:Expr->T->Option (V×T)):List (Option Expr)->List Expr->T->Option (List (V×V)×T)
 |[],l,H=>match l with
  |[]=>some ([],H)
  |_::_=>none
 |k::ks,l,H=>match k with
  |none=>none
  |some k=>match l with
   |[]=>none
   |v::vs=>ob (f k H) λa H=>ob (f v H) λb H=>ob (o9 f ks vs H) λr H=>some ((a,b)::r,H)
noncomputable def wv:BoolOp->Bool->Bool
 | .And,b=> !b
 | .Or,b=>b
def kw (f:Expr->T->Option (V×T)) (op:BoolOp):List Expr->T->Option (V×T)
 |[],_=>none
 |e::r,H=>match r with
  |[]=>f e H
  |bq::d7=>ob (f e H) λv H=>od v.truth λb=>cond (wv op b) (some (v,H)) (kw f op (bq::d7) H)
def gz (f:Expr->T->Option (Bool×T)) (op:BoolOp):List Expr->T->Option (Bool×T)
 |[],H=>some (match op with| .And=>true| .Or=>false,H)
 |e::r,H=>ob (f e H) λb H=>cond (wv op b) (some (b,H)) (gz f op r H)
def gR (test:V->T->Option (Bool×T)) (elt:V->T->Option (V×T)):List V->T->Option (List V×T)
 |[],H=>some ([],H)
 |v::r,H=>ob (test v H) λb H=>cond b (ob (elt v H) λx H=>ob (gR test elt r H) λa4 H=>some (x::a4,H)) (gR test elt r H)
def je (turn:V->am->T->Option (Fl×am×T)):List V->am->T->Option (Fl×am×T)
 |[],J,H=>some (.next,J,H)
 |v::r,J,H=>thn (turn v J H) λJ H=>je turn r J H
def tZ (c:Cx):List Expr->List V->am->Option am
 |[],l,J=>match l with
  |[]=>some J
  |_::_=>none
 |t::cO,l,J=>od (ek t) λx=>match l with
  |[]=>none
  |v::vs=>ow (d6 c x&& !fU x c.bd) (tZ c cO vs (cb J x v false))
noncomputable def JO:Expr->Option (List Expr)
 | .Tuple cO _ _=>some cO
 |_=>none
def li (c:Cx) (t:Expr) (v:V) (J:am):Option am:=match ek t with
 |some _=>tZ c [t] [v] J
 |none=>od (JO t) λcO=>od (kp v) λvs=>tZ c cO vs J
def Cj (J:am) (f:Expr->T->Option (V×T)) (e:Expr) (H:T):Option Str->Option (V×T)
 |some x=>od (a2 J x) λs=>some (s.1,H)
 |none=>f e H
def b7 (c:Cx) (J:am) (f:Expr->T->Option (V×T)) (e:Expr) (H:T):Option (V×T):=Cj J f e H (od (ek e) λx=>ow (fF c x) (some x))
def ww (x y:Str) (out:List (Str×NameKind)):NameKind->Bool
 | .local=>a9 y x||a9 y dM
 | .cell=>a9 y x
 | .free=>match lk out y with
  |some .cell|some .free=>true
  |_=>false
 | .globalImplicit=>true
 |_=>false
def he (x:Str) (out:List (Str×NameKind)):List (Str×NameKind)->Bool
 |[]=>true
 |(y,k)::r=>ww x y out k&& !a9 y Cd&& !a9 y Ce&& !((lk r y).isSome)&&he x out r
def lj (x:Str) (sc out:Scope):Bool:=(match sc.kind with| .function=>true|_=>false)&&he x out.names sc.names&&(match lk sc.names x with|some .local|some .cell=>true|_=>false)&& !a9 x dM
noncomputable def hA:Expr->Bool
 | .Call ..=>false
 |_=>true
noncomputable def pa:Expr->Bool
 | .ListComp ..| .SetComp ..| .DictComp ..=>true
 |_=>false
noncomputable def ll:Expr->Bool
 | .List ..| .Dict ..| .ListComp ..=>true
 |_=>false
structure Gen where
 x:Str
 it:Expr
 ifs:List Expr
def JP :List Comprehension->Option Gen
 |[]=>none
 |g::r=>match r with
  |_::_=>none
  |[]=>od (ek g.target) λx=>ow (cN g.is_async 0) (some ⟨x,g.iter,g.ifs⟩)
structure Cut where
 lo:Option Expr
 up:Option Expr
noncomputable def rq :Expr->Option Cut
 | .Slice lo up st _=>match st with
  |none=>some ⟨lo,up⟩
  |some _=>none
 |_=>none
noncomputable def Ck:Expr->Option Int
 | .Constant k _ _=>match k with
  | .int i=>some i
  |_=>none
 |_=>none
inductive Ak where
 |nm (x:Str)
 |sub (x:Str) (k:Expr)
 |att (x a:Str)
 |bad
def JQ:Expr->Ak
 | .Name x _=> .nm x
 | .Subscript b k _=>match ek b with
  |some x=> .sub x k
  |none=> .bad
 | .Attribute b a _=>match ek b with
  |some x=> .att x a
  |none=> .bad
 |_=> .bad
def rr:List Expr->Ak
 |[]=> .bad
 |t::r=>match r with
  |[]=>JQ t
  |_::_=> .bad
inductive Xk where
 |i3 (x m:Str) (a:Expr) (l:Bool)
 |fn (f x:Str)
 |eo
def Cm (a:Expr) (q:Pos):Expr->Xk
 | .Attribute o m mp=>match ek o with
  |some x=> .i3 x m a (mp.endLine==q.line)
  |none=> .eo
 | .Name f _=>match ek a with
  |some x=> .fn f x
  |none=> .eo
 |_=> .eo
def wx:Expr->Xk
 | .Call f as ks q=>match ks with
  |_::_=> .eo
  |[]=>match fD as with
   |some a=>Cm a q f
   |none=> .eo
 |_=> .eo
inductive Tk where
 |not (x:Expr)
 |bool (op:BoolOp) (vs:List Expr)
 |ite (t b o:Expr)
 |cmp (l:Expr) (ops:List CmpOp) (a3:List Expr)
 |eo
noncomputable def Wm (x:Expr):UnaryOp->Tk
 | .Not=> .not x
 |_=> .eo
def wy:Expr->Tk
 | .UnaryOp op x _=>Wm x op
 | .BoolOp op vs _=> .bool op vs
 | .IfExp t b o _=> .ite t b o
 | .Compare l ops a3 _=> .cmp l ops a3
 |_=> .eo
def nF :Expr->Option Expr
 | .Call f as ks _=>match ks with
  |_::_=>none
  |[]=>od (ek f) λx=>ow (a9 x h5) (fD as)
 |_=>none
def pb (J:am) (x:Str):Option (List V):=od (a2 J x) λs=>ow s.2 (rh s.1)
def wz (J:am) (x:Str):Option (List (V×V)):=od (a2 J x) λs=>ow s.2 (oX s.1)
def nG (J:am) (x:Str):Option V:=od (a2 J x) λs=>ow s.2 (some s.1)
def t0 (J:am) (x:Str):Option V:=od (a2 J x) λs=>ow (!s.2) (some s.1)
def rs (H:T):List (V×V)->Option (V×T)
 |[]=>some (.dict [],H)
 |p::r=>match r with
  |[]=>ow (isInt p.1&&p.2.flat) (some (.dict [p],H))
  |_::_=>none
def jM (l:List V):Bool:=l.all V.flat&&cz l
def JR (H:T) (a:Str) (i:V):Option V:=
 cond (a9 a h6) (H.rowOf i) (cond (a9 a kt) (od (kq i) λk=>ow (Nat.ble 1 k&&Nat.blt k H.decls.length) (some (.decl k)))
  (ow (a9 a ku) (od (kq i) λk=>od (H.bounds[k]?) λz=>some (.int z))))
def Wn (H:T) (a:Str):V->Option V
 | .host=>ow (a9 a cF) (some .tab)
 | .decl k=>cond (a9 a fT) (H.decls[k]?) (ow (a9 a lc) (some (.tup [])))
 |_=>none
noncomputable def Cn:V->Option V
 | .str _=>some (.bool true)
 | .int _=>some (.bool false)
 |_=>none
def Co (H:T):List V->Option (V×T)
 |[]=>none
 |t::r=>od (mn r) λq=>ow (tP t&&isInt q.1&&isStr q.2&&(H.bld&&Nat.blt H.decls.length 60)) (some (.decl H.decls.length,{H with decls:=H.decls++[.int (-1)]}))
def Cp (H:T) (l:List V):Option (V×T):=od (mn l) λq=>ow (tP q.1&&isStr q.2&&(H.bld&&Nat.blt H.bounds.length 60)) (({H with bounds:=H.bounds++[-1]}:T).put (.tup [.int 10,.int H.bounds.length]))
def Wo (H:T) (l:List (V×V)) (vs:List V):Option V:=od (mn vs) λq=>ow (jb q.1) (od (H.get q.1 l) λr=>some (r.getD q.2))
noncomputable def Fl.val:Fl->V
 | .next=> .none
 | .ret v=>v
noncomputable def wA (f:Expr->T->Option (V×T)) (H:T):Option Expr->Option (V×T)
 |none=>some (.none,H)
 |some e=>f e H
section
variable (G:Gl)(c:Cx)(J:am)(bM:Expr->T->Option (V×T))(cJ:Fn->List V->T->Option (V×T))
def JS (x:Str) (H:T):Option (V×T):=cond (gy c x) (pt H (G.val x)) (ow (fF c x) (pt H (t0 J x)))
def Cq (x:Expr) (H:T):UnaryOp->Option (V×T)
 | .Not=>ob (b7 c J bM x H) λv H=>od v.truth λb=>some (.bool (!b),H)
 | .USub=>od (Ck x) λi=>some (.int (-i),H)
 |_=>none
def wB {α:Type} (l:Expr) (ops:List CmpOp) (a3:List Expr) (H:T) (k:Bool->T->Option α):Option α:=od (fD ops) λo=>od (fD a3) λr=>ob (b7 c J bM l H) λa H=>ob (b7 c J bM r H) λb H=>od (cX H o a b) λt=>k t H
def JT (o s:Expr) (a:Str) (H:T):Option (V×T):=ow (hA o) (ob (bM o H) λb H=>ow (tP b) (ob (bM s H) λi H=>pt H (JR H a i)))
def JU (o:Expr) (a:Str) (H:T):Option (V×T):=ow (hA o) (ob (bM o H) λb H=>pt H (Wn H a b))
def JV (f:Str) (as:List Expr) (H:T):Option (V×T):=cond (a9 f mm)
 (od (mn as) λq=>od (ek q.2) λs=>ow (a9 s tU&&G.free s&&gy c s) (ob (bM q.1 H) λv H=>pt H (Cn v)))
 (ob (dz (b7 c J bM) as H) λl H=>pt H (f1 H f l))
def Wp (f:Str) (as:List Expr) (H:T):Option (V×T):=cond (a9 f tV) (ob (dz bM as H) λl H=>Co H l) (ow (a9 f tW) (ob (dz bM as H) λl H=>Cp H l))
def JW (f:Str) (as:List Expr) (H:T):Option Fn->Option (V×T)
 |some fn=>ob (dz (b7 c J bM) as H) λl H=>ob (cJ fn l H) λv H=>ow (gx J v as) (some (v,H))
 |none=>cond (G.free f) (JV G c J bM f as H) (Wp bM f as H)
def JX (f:Str) (as:List Expr) (H:T):Option (V×T):=ow (gy c f) (JW G c J bM cJ f as H (G.fn f))
def JY (q:Att) (m:Str) (l:Bool) (kd:Expr×Expr) (H:T):Option (V×T):=ow (hA q.o&&l&&a9 q.a jc&&a9 m oZ) (ob (bM q.o H) λb H=>ow (tP b) (ob (bM kd.1 H) λr H=>ob (bM kd.2 H) λz H=>ow (B9 z) (pt H (H.find r))))
def JZ (m:Str) (as:List Expr) (H:T):V->Option (V×T)
 | .tab=>ow (a9 m h7) (ob (dz bM as H) λl H=>od (fD l) λrow=>H.put row)
 | .host=>od (G.i3 m) λfn=>ob (dz bM as H) λl H=>cJ fn (.host::l) H
 | .dict l=>ow (a9 m oZ) (ob (dz bM as H) λcK H=>pt H (Wo H l cK))
 |_=>none
def t3 (o:Expr) (m:Str) (l:Bool) (as:List Expr) (H:T):Option (Att×Expr×Expr)->Option (V×T)
 |some (q,kd)=>JY bM q m l kd H
 |none=>ow (hA o&&l&&Nat.blt as.length 25) (ob (bM o H) λb H=>JZ G bM cJ m as H b)
def rt (o:Expr) (as:List Expr):Option (Att×Expr×Expr):=od (lg o) λq=>od (mn as) λkd=>some (q,kd)
def Wq (as:List Expr) (p:Pos) (H:T):Expr->Option (V×T)
 | .Name x _=>JX G c J bM cJ x as H
 | .Attribute o m cj=>t3 G bM cJ o m (cj.endLine==p.line) as H (rt o as)
 |_=>none
def J0 (as:List Expr) (p:Pos) (H:T) (f:Expr):List Keyword->Option (V×T)
 |_::_=>none
 |[]=>Wq G c J bM cJ as p H f
def wC (lm:Option Expr->T->Option (V×T)) (b s:Expr) (H:T):Option Cut->Option (V×T)
 |some q=>ob (b7 c J bM b H) λb H=>ob (lm q.lo H) λl H=>ob (lm q.up H) λu H=>pt H (o6 b l u)
 |none=>ob (b7 c J bM b H) λb H=>ob (bM s H) λi H=>pt H (fE H b i)
def wD (lm:Option Expr->T->Option (V×T)) (b s:Expr) (H:T):Option Att->Option (V×T)
 |some q=>JT bM q.o s q.a H
 |none=>wC c J bM lm b s H (rq s)
def Cr (pc:Expr->T->Option (Bool×T)) (e:Expr) (H:T):Tk->Option (Bool×T)
 | .not x=>ob (pc x H) λb H=>some (!b,H)
 | .bool op vs=>gz pc op vs H
 | .ite t b o=>ob (pc t H) λx H=>pc (cond x b o) H
 | .cmp l ops a3=>wB c J bM l ops a3 H λt H=>some (t,H)
 | .eo=>ob (b7 c J bM e H) λv H=>pt H v.truth
def ru (e:Expr) (H:T):Option Expr->Option (List V×T)
 |some a=>ow (gy c h5&&G.free h5) (ob (bM a H) λv H=>od (kq v) λk=>ow (Nat.ble k 1000) (some (rl 0 k,H)))
 |none=>ob (bM e H) λv H=>pt H (hd v)
end
section
variable (c:Cx)(J:am)(bM:Expr->T->Option (V×T))(dQ:am->T->Option (Fl×am×T))
def Cs (x m:Str) (a:Expr) (l:Bool) (aU:List V) (H:T):Option (Fl×am×T):=ow (d6 c x&&l) (cond (a9 m jd)
 (ob (bM a H) λv H=>ow (v.flat&&cz aU) (dQ (cb J x (.list (aU++[v])) true) H))
 (ow (a9 m wu) (ob (b7 c J bM a H) λv H=>od (rh v) λk=>ow (cz (aU++k)) (dQ (cb J x (.list (aU++k)) true) H))))
def Wr (x:Str) (e:Expr) (H:T):Option (Fl×am×T):=ow (d6 c x) (ob (bM e H) λv H=>ow (!fU x c.bd||ll e) (dQ (cb J x v (fU x c.bd)) H))
def Ws (x:Str) (k e:Expr) (H:T):Option (Fl×am×T):=ob (bM e H) λv H=>od (wz J x) λl=>ow (d6 c x) (ob (bM k H) λi H=>ow (jb i&&v.flat&&cz l) (od (H.k5 i v l) λl=>dQ (cb J x (.dict l) true) H))
def Wt (x a:Str) (e:Expr) (H:T):Option (Fl×am×T):=ob (bM e H) λv H=>od (t0 J x) λd=>od (JE d) λk=>ow (d6 c x&&a9 a fT&&H.bld&&Nat.blt k H.decls.length&&mj v) (dQ J {H with decls:=H.decls.set k v})
def Ct (e:Expr) (H:T):Ak->Option (Fl×am×T)
 | .nm x=>Wr c J bM dQ x e H
 | .sub x k=>Ws c J bM dQ x k e H
 | .att x a=>Wt c J bM dQ x a e H
 | .bad=>none
def J1 (x y:Str):Fl->am->T->Option (Fl×am×T)
 | .next,bb,H=>od (nG bb y) λf2=>dQ (cb J x f2 true) H
 | .ret _,_,_=>none
def J2 (kx:Fn->am->T->Option (Fl×am×T)) (x:Str) (v:V) (H:T) (fn:Fn):Option (Fl×am×T):=
 od (fD fn.ps) λy=>ow (fU y fn.bd&& !kv y fn.bd) (oc (kx fn [(y,v,true)] H) (J1 J dQ x y))
def wE (x m:Str) (a e:Expr) (l:Bool) (H:T):Option (List V)->Option (Fl×am×T)
 |some aU=>Cs c J bM dQ x m a l aU H
 |none=>ob (bM e H) λ_ H=>dQ J H
def wF (G:Gl) (kx:Fn->am->T->Option (Fl×am×T)) (f x:Str) (e:Expr) (H:T):Option V->Option (Fl×am×T)
 |some v=>ow (d6 c x&&gy c f) (od (G.fn f) λfn=>J2 J dQ kx x v H fn)
 |none=>ob (bM e H) λ_ H=>dQ J H
def Cu (G:Gl) (c:Cx) (J:am) (bM:Expr->T->Option (V×T)) (dQ:am->T->Option (Fl×am×T)) (kx:Fn->am->T->Option (Fl×am×T)) (e:Expr) (H:T):Xk->Option (Fl×am×T)
 | .i3 x m a l=>wE c J bM dQ x m a e l H (pb J x)
 | .fn f x=>wF c J bM dQ G kx f x e H (nG J x)
 | .eo=>ow (!pa e) (ob (bM e H) λ_ H=>dQ J H)
end
mutual
noncomputable def aN (G:Gl):Nat->Cx->am->Expr->T->Option (V×T)
 |0,_,_,_,_=>none
 |n+1,c,J,e,H=>match e with
  | .Constant k _ _=>pt H (JF k)
  | .Name x _=>JS G c J x H
  | .Tuple es _ _=>ob (dz (aN G n c J) es H) λl H=>ow (jM l) (some (.tup l,H))
  | .List es _=>ob (dz (aN G n c J) es H) λl H=>ow (jM l) (some (.list l,H))
  | .Dict ks l _=>ob (o9 (aN G n c J) ks l H) λl H=>rs H l
  | .UnaryOp op x _=>Cq c J (aN G n c J) x H op
  | .BinOp l op r _=>ob (b7 c J (aN G n c J) l H) λa H=>ob (b7 c J (aN G n c J) r H) λb H=>pt H (kr op a b)
  | .BoolOp op l _=>kw (aN G n c J) op l H
  | .Compare l ops a3 _=>wB c J (aN G n c J) l ops a3 H λt H=>some (.bool t,H)
  | .IfExp t b o _=>ob (dR G n c J t H) λx H=>aN G n c J (cond x b o) H
  | .ListComp elt nH sc _=>od (JP nH) λq=>ow (lj q.x sc c.sc) (ob (gA G n c J q.it H) λl H=>
    ob (gR (λv H=>gz (dR G n {c with sc:=sc} ((q.x,v,false)::J)) .And q.ifs H) (λv H=>aN G n {c with sc:=sc} ((q.x,v,false)::J) elt H) l H) λl H=>ow (jM l) (some (.list l,H)))
  | .Subscript b s _=>wD c J (aN G n c J) (ln G n c J) b s H (lg b)
  | .Attribute o a _=>JU (aN G n c J) o a H
  | .Call f as ks p=>J0 G c J (aN G n c J) (bK G n) as p H f ks
  |_=>none
noncomputable def dR (G:Gl):Nat->Cx->am->Expr->T->Option (Bool×T)
 |0,_,_,_,_=>none
 |n+1,c,J,e,H=>Cr c J (aN G n c J) (dR G n c J) e H (wy e)
noncomputable def ln (G:Gl):Nat->Cx->am->Option Expr->T->Option (V×T)
 |0,_,_,_,_=>none
 |n+1,c,J,e,H=>wA (aN G n c J) H e
noncomputable def gA (G:Gl):Nat->Cx->am->Expr->T->Option (List V×T)
 |0,_,_,_,_=>none
 |n+1,c,J,e,H=>ru G c (aN G n c J) e H (nF e)
noncomputable def bK (G:Gl):Nat->Fn->List V->T->Option (V×T)
 |0,_,_,_=>none
 |n+1,f,as,H=>ow (!(f.ps.any λp=>fU p f.bd)) (od (o8 f.ps as f.dfl) λJ=>oc (bv G n ⟨f.sc,f.bd⟩ J f.bd H) λbw _ H=>some (bw.val,H))
noncomputable def bv (G:Gl):Nat->Cx->am->List Stmt->T->Option (Fl×am×T)
 |0,_,_,_,_=>none
 |n+1,c,J,cB,H=>match cB with
  |[]=>some (.next,J,H)
  |s::bu=>match s with
   | .Expr e _=>Cu G c J (aN G n c J) (λJ H=>bv G n c J bu H) (λfn J H=>bv G n ⟨fn.sc,fn.bd⟩ J fn.bd H) e H (wx e)
   | .Assign cO e _=>Ct c J (aN G n c J) (λJ H=>bv G n c J bu H) e H (rr cO)
   | .If t b o _=>ob (dR G n c J t H) λx H=>thn (bv G n c J (cond x b o) H) λJ H=>bv G n c J bu H
   | .For t it b o _=>ow o.isEmpty (ob (gA G n c J it H) λl H=>thn (je (λv J H=>od (li c t v J) λJ=>bv G n c J b H) l J H) λJ H=>bv G n c J bu H)
   | .Return e _=>ob (wA (b7 c J (aN G n c J)) H e) λv H=>some (.ret v,J,H)
   |_=>none
end
end Mine
end
noncomputable section
open PySem PySem.W PyProof.Rows
set_option maxHeartbeats 0
namespace Mine
inductive Tr (α:Type) where
 |lf
 |nd (l:Tr α) (k:Nat) (x:Str) (v:α) (r:Tr α)
noncomputable def J4:List Nat->Nat
 |[]=>0
 |c::r=>Nat.add c (Nat.mul 1114112 (J4 r))
def wG (s:Str):Nat:=J4 s.cps.toList
def Tr.get {α:Type} (n:Nat) (x:Str):Tr α->Option α
 | .lf=>none
 | .nd l k y v r=>match Nat.beq n k with
  |true=>match a9 y x with
   |true=>some v
   |false=>none
  |false=>match Nat.ble n k with
   |true=>l.get n x
   |false=>r.get n x
structure FnE where
 i:Nat
 a:Nat
 dfl:List V
noncomputable def fnT:Tr FnE:=(.nd (.nd (.nd (.nd (.nd (.nd (.nd .lf 147708328345708 "law" (⟨165,891,[]⟩) .lf) 169476109796371055881617525 "union" (⟨67,249,[]⟩) .lf) 175638858014640285630201961 "inter" (⟨97,403,[]⟩) (.nd (.nd .lf 175083353337756172658371058401396 "top_of" (⟨66,244,[]⟩) .lf) 188815367637440720958428548235372 "lay_on" (⟨93,377,[]⟩) .lf)) 207696882677449268365471670927462 "family" (⟨75,303,[]⟩) (.nd (.nd (.nd .lf 195062464953834205016168456649484861547 "kind_of" (⟨56,172,[]⟩) .lf) 210361449704292673631771444722505613427 "sharpen" (⟨129,699,[]⟩) .lf) 221835708006884355694591452108598476905 "is_unit" (⟨70,270,[]⟩) (.nd .lf 215190834664312752427992465901504758874898547 "str_type" (⟨57,180,[.int 0]⟩) .lf))) 215190840401421305696221224345127044872601705 "is_loose" (⟨142,761,[]⟩) (.nd (.nd (.nd (.nd .lf 217321432954646133842083826485605912542249059 "calls_of" (⟨119,664,[]⟩) .lf) 217321432954646133842083834782928999776780387 "ctors_of" (⟨120,671,[]⟩) .lf) 217321432954646133842083837548705844651163760 "parts_of" (⟨61,209,[]⟩) (.nd .lf 217321432954646133851327979236493609361539174 "falsy_of" (⟨108,471,[]⟩) .lf)) 221582641009663890363093504309078095860793449 "is_fresh" (⟨71,277,[]⟩) (.nd (.nd (.nd .lf 236496850078463344839332629713902479779102829 "meet_two" (⟨96,396,[]⟩) .lf) 253541636401483995532605766247716344755781744 "prop_row" (⟨118,657,[]⟩) .lf) 237372968197618262247102779544635851852864058818655 "_law_word" (⟨154,826,[]⟩) (.nd .lf 239746680536495197449243160693149161845345026310239 "_law_like" (⟨155,833,[]⟩) .lf)))) 239746684797680303965843009803791521436765027827807 "_law_same" (⟨162,874,[]⟩) (.nd (.nd (.nd (.nd (.nd .lf 239746691189526809233055542170436526613774807138406 "func_type" (⟨58,187,[]⟩) .lf) 239746697581281520457878341454063098785547578310765 "meet_case" (⟨92,370,[]⟩) .lf) 242120395005974247802187423617681639924637261627489 "add_undef" (⟨68,256,[]⟩) (.nd (.nd .lf 242120416311966713477370700655543801647062626467956 "truthy_of" (⟨103,442,[]⟩) .lf) 265857688842901336043548785299513228374322521374822 "find_prop" (⟨117,650,[]⟩) .lf)) 272978881255154624664833627220372156704094732157025 "all_units" (⟨84,316,[]⟩) (.nd (.nd (.nd .lf 282473749786127298693906450942179705085833627041887 "_law_draw" (⟨159,855,[]⟩) .lf) 285616816130383288891588148154299840804291045672345600105 "is_literal" (⟨69,263,[]⟩) .lf) 304129009373313171559847811440458640831271897373847847007 "_law_holds" (⟨161,867,[]⟩) (.nd .lf 304129009373317432748779071653163139497164266462237163615 "_law_kinds" (⟨160,862,[]⟩) .lf))) 304129009373325955161064356687345702384622520307557335135 "_law_words" (⟨158,848,[]⟩) (.nd (.nd (.nd (.nd .lf 304129011747059600045764198163470180887008317185733689441 "all_values" (⟨85,321,[]⟩) .lf) 304129028363137588079086022553064430978714009041459150954 "join_bools" (⟨64,230,[]⟩) .lf) 304129037858046600444138153133351457284125210599102349414 "flat_props" (⟨87,335,[]⟩) (.nd .lf 304129047352934306776564718203274044417080997595560607856 "part_meets" (⟨143,768,[]⟩) .lf)) 304129047352962004571551014643668205297621671657791094893 "meet_parts" (⟨95,389,[]⟩) (.nd (.nd (.nd .lf 306773616885605946189655679659821232253342292325845172319 "_law_right" (⟨164,886,[]⟩) .lf) 306773640622865693500113206300386419960381425187052126309 "equal_part" (⟨150,813,[]⟩) .lf) 306773640622865693500113206300406448961926515947241275494 "falsy_part" (⟨109,476,[]⟩) (.nd .lf 294638105740193547051912408148824468633255401246745587035668575 "_law_turned" (⟨163,881,[]⟩) .lf))))) 297584484126558368735109925949039003880850764687759544324522100 "typeof_free" (⟨148,803,[]⟩) (.nd (.nd (.nd (.nd (.nd (.nd .lf 297584507927933404088174038206642782960720870567855085629800562 "regular_one" (⟨72,284,[]⟩) .lf) 297584513217096206714636750303136748905208172204247322853113968 "plain_shape" (⟨116,643,[]⟩) .lf) 297584526440112404671582957641626550262977110912367536464724080 "plain_value" (⟨126,682,[]⟩) (.nd (.nd .lf 306423656309956239305662178430465650343707332420261536682868853 "units_clash" (⟨86,328,[]⟩) .lf) 306423656309975229123686914271842230193138480347706691764027502 "not_nullish" (⟨100,423,[]⟩) .lf)) 338833781535540065126186442344300090168386621339515928131731565 "meet_values" (⟨90,356,[]⟩) (.nd (.nd (.nd .lf 338833810626104014114019646063704458754620973846244498979356780 "loose_props" (⟨106,459,[]⟩) .lf) 338833821204472346391452071326886052164358788876524401957011568 "plain_meets" (⟨127,689,[]⟩) .lf) 341780194301622143516798124497725816125745352005518279777517684 "typeof_part" (⟨147,796,[]⟩) (.nd .lf 341780194301622143516798124497758429648922289968546931417415796 "truthy_part" (⟨104,447,[]⟩) .lf))) 356512070365829662960701363411610758074784820466652685326942317 "meet_family" (⟨74,296,[]⟩) (.nd (.nd (.nd (.nd .lf 331542441832806009601585894619157522593561562352030094275795740852334 "nullish_side" (⟨131,711,[]⟩) .lf) 331542441832806009601585907402747264827294314645789220683105736851571 "stays_beside" (⟨65,237,[]⟩) .lf) 341390272578797965685309900935522946635728440427054424642180325310579 "shapes_clash" (⟨88,342,[]⟩) (.nd .lf 341390272578819122469449075433230690764937898617144197762191742795885 "meet_nullish" (⟨89,349,[]⟩) .lf)) 354520601611156326667747031027017769625334141749623413990010878230638 "narrow_equal" (⟨151,818,[]⟩) (.nd (.nd (.nd .lf 361085816215746918416568885253732003589094599837684817005990974390386 "regular_twin" (⟨63,223,[]⟩) .lf) 377498779067737292895608075287270891054612246808519421798362233569391 "object_words" (⟨145,782,[]⟩) .lf) 377498826209751805586838654867778840440804337035225617945780865532013 "meet_objects" (⟨91,363,[]⟩) (.nd .lf 377498835048918699845643882141210877071972504191743152774415561261171 "shape_allows" (⟨144,775,[]⟩) .lf)))) 390629193545015966172326197096533164293880271569730015502537136275575 "whole_of_row" (⟨62,216,[]⟩) (.nd (.nd (.nd (.nd (.nd .lf 369375472041950470995792013444102035952603104822743307491645522283615486049 "all_primitive" (⟨141,756,[]⟩) .lf) 373032628120159871196382332860121789695737367164979759736411044977382064238 "narrow_typeof" (⟨149,808,[]⟩) .lf) 380347002645964203508292570870551384003494568706845434227656731307108008044 "literal_truth" (⟨102,435,[]⟩) (.nd (.nd .lf 394975656502208597416456980231572821335608907910084698218589264235434213493 "unknown_equal" (⟨132,716,[]⟩) .lf) 442519007213441709822305729927162413852332428287006900802830977937664180334 "narrow_truthy" (⟨146,789,[]⟩) .lf)) 442519020343791366755322402942813486665147951555899552610940815021554204771 "common_family" (⟨73,289,[]⟩) (.nd (.nd (.nd .lf 411525645907601523142063831682235407479226550320276191796132185802659270418038892 "lets_primitive" (⟨107,464,[]⟩) .lf) 423749156154682023145348033517594063204621376931106061262644518689698620443263085 "may_be_nullish" (⟨98,411,[.int 0]⟩) .lf) 423749156154682023145348033517594063204621376931106061293458351051474603982782578 "remove_nullish" (⟨101,428,[]⟩) (.nd .lf 452270687378861810032448752594184133420313793301580335561690469064376478430134384 "plain_equal_no" (⟨134,728,[]⟩) .lf))) 453946170593380975586326800410656664584105440020052510210059698337838716409238316580969 "is_nullish_kind" (⟨128,694,[]⟩) (.nd (.nd (.nd (.nd .lf 522037992282458677876774941743934068789725978584134879703156325743619008819232712163440 "plain_equal_yes" (⟨133,721,[]⟩) .lf) 526577449506357723896133084690709313675300578646586881485213840182080974472974523760749 "members_of_meet" (⟨94,384,[]⟩) .lf) 647977389723504899570490975657716059304214375451578774276816758401742853304176482774040818959843444 "typeops_all_props" (⟨105,454,[]⟩) (.nd .lf 653611980910430264479627276737388611781822504017604489740332433382630757181137190812756471058268272 "plain_typeof_part" (⟨136,742,[]⟩) .lf)) 681784855925990899291635696987553724465681779673743677140918769651091263738907449372646186519036009 "is_nullish_family" (⟨76,310,[]⟩) (.nd (.nd (.nd .lf 677976420389452586826731227361917309285905149077536076736020681525755610685140558309037835553314670968942 "narrow_plain_equal" (⟨135,735,[]⟩) .lf) 706384506786263015664984512473448201322169929715362022629910425572206749517897855023481525213373147051155587182 "narrow_is_primitive" (⟨140,751,[]⟩) .lf) 727366183974419269674108420210979225758250402637057178292193088149628387168631869865899295352492985699731308653 "meet_may_be_nullish" (⟨99,416,[]⟩) (.nd .lf 846262392372693013864440559494209260191686187163290237309534707104855254801558978443476586665598650079232721006 "narrow_plain_truthy" (⟨130,706,[]⟩) .lf))))))
noncomputable def vaT:Tr V:=(.nd (.nd (.nd (.nd (.nd (.nd (.nd .lf 101782226337861 "ERR" (.int 13) .lf) 110470940721217 "ANY" (.int 0) .lf) 94036376730415857750 "VOID" (.int 3) (.nd .lf 107848431243877767002849365 "UNDEF" (.int 4) .lf)) 107848431243895144459468889 "Y_REF" (.int 9) (.nd (.nd .lf 109389127287222923483349081 "Y_SIG" (.int 13) .lf) 114011189142352920826544217 "Y_OBJ" (.int 8) (.nd .lf 117092589526331566087667801 "Y_TPL" (.int 18) .lf))) 118633286952537216972161113 "Y_NUM" (.int 4) (.nd (.nd (.nd .lf 126336717385263654938935374 "NEVER" (.int 2) .lf) 126336738128558339923050585 "Y_STR" (.int 3) (.nd .lf 129418108089017757478486094 "NULLT" (.int 5) .lf)) 129418113620567723544084560 "P_OPT" (.int 1) (.nd (.nd .lf 137121550967712069490507865 "Y_KEY" (.int 1) .lf) 137121571711016684389990469 "EMPTY" (.int 11) (.nd .lf 116722241721287827440028766634073 "Y_COND" (.int 16) .lf)))) 121871747083661235747616321699923 "STRING" (.int 6) (.nd (.nd (.nd (.nd (.nd .lf 130454257561662887507969277100121 "Y_BOOL" (.int 2) .lf) 132170768593265143843015984349273 "Y_ENUM" (.int 5) .lf) 140753252879503203410045550526542 "NUMBER" (.int 7) (.nd .lf 142469754666977600814244608606295 "WHOLES" (.dict [(.str "string",.int 6),(.str "number",.int 7),(.str "boolean",.int 12),(.str "undefined",.int 4)]) .lf)) 144186296512381795439560797323348 "TRUE_T" (.int 9) (.nd (.nd .lf 130041634720052848594350406845908058179 "COERCED" (.tup [.int 1,.int 2,.int 3]) .lf) 131954021975016658732035442818610561113 "Y_TUPLE" (.int 12) (.nd .lf 133866429827969563888881055875789357126 "FRESH_F" (.int 14) .lf))) 137691159708812192908697127718008193102 "NULLISH" (.tup [.int 4,.int 5,.int 6]) (.nd (.nd (.nd .lf 141515881007153588114184463611161804870 "FAM_OBJ" (.int 7) .lf) 147253005008950229482375058460446228569 "Y_PARAM" (.int 10) (.nd .lf 147253039338979815973185252587956404294 "FAM_NUM" (.int 2) .lf)) 149165380248361469453837126600337850434 "BOOLEAN" (.int 12) (.nd (.nd .lf 149165404279392656666609533901847068761 "Y_UNION" (.int 6) .lf) 149165418011416200494228492148431257685 "UNKNOWN" (.int 1) (.nd .lf 156814888072116805388167585372167929945 "Y_INTER" (.int 7) .lf))))) 156814913819642076629692923233310933062 "FAM_STR" (.int 1) (.nd (.nd (.nd (.nd (.nd (.nd .lf 158727256445523976880401535683598942297 "Y_ALIAS" (.int 19) .lf) 160639664298479963411356306318676852815 "OBJECTT" (.int 10) .lf) 160639683180002706877994178458856521798 "FALSE_T" (.int 8) (.nd .lf 160639683180007328949529510656538181702 "FRESH_T" (.int 15) .lf)) 168289139508679767937399866979406250073 "Y_INDEX" (.int 15) (.nd (.nd .lf 170201507882125456700725644040826978393 "Y_ARRAY" (.int 11) .lf) 144880953390749075005836976910355145442787398 "FAM_VOID" (.int 6) (.nd .lf 161925760749911091445042541367820976324149318 "FAM_NULL" (.int 4) .lf))) 161925766487026510709636290525623933379608646 "FAM_BOOL" (.int 3) (.nd (.nd (.nd .lf 230105028434043347881287798711008842193043551 "_law_all" (.list [.int 0,.int 1,.int 2,.int 3,.int 4,.int 5,.int 6,.int 7,.int 8,.int 9,.int 10,.int 11,.int 12,.int 13]) .lf) 166161054727832043788953182952484886556607415124038 "FAM_UNDEF" (.int 5) (.nd .lf 170908541193035778685152805589747186690632359149645 "MEET_BOTH" (.int 3) .lf)) 185150894058562263159311209436658329517804758302797 "MAX_UNION" (.int 400) (.nd (.nd .lf 185150911103348586190260887242825105817141475606605 "MAX_DRAWN" (.int 200) .lf) 194645781764917638242702814093988172945939886047302 "FAM_OTHER" (.int 0) (.nd .lf 197019547368824503169651676850306672269998213431366 "FREE_ROWS" (.tup [.int 10,.int 15,.int 16]) .lf)))) 199393238401691761346917908111003916761765546098765 "MEET_LEFT" (.int 1) (.nd (.nd (.nd (.nd .lf 239746701842514436372628990162637878919186407489631 "_law_true" (.list [.int 3,.int 5,.int 6,.int 8,.int 9,.int 11,.int 12,.int 13]) .lf) 216857201213705748152007032806417779063959426900111458381 "MEET_NEVER" (.int 0) (.nd .lf 219501799231100163442637431972550694425425734828221923408 "PRIMITIVES" (.tup [.int 1,.int 2,.int 3,.int 4,.int 5,.int 6]) .lf)) 219501841958175804875346968999062733476209797362740887632 "PLAIN_ROWS" (.tup [.int 1,.int 2,.int 3,.int 4,.int 5]) (.nd (.nd .lf 219501841958175804875346968999071977633109365842469519430 "FIRST_ROWS" (.tup [.tup [.int 1,.str "any"],.tup [.int 1,.str "unknown"],.tup [.int 1,.str "never"],.tup [.int 1,.str "void"],.tup [.int 1,.str "undefined"],.tup [.int 1,.str "null"],.tup [.int 1,.str "string"],.tup [.int 1,.str "number"],.tup [.int 2,.int 0,.int 0],.tup [.int 2,.int 1,.int 0],.tup [.int 1,.str "object"],.tup [.int 8,.tup [],.tup [],.tup [],.tup [],.tup [],.int 0],.tup [.int 6,.tup [.int 8,.int 9]],.tup [.int 1,.str "error"],.tup [.int 2,.int 0,.int 1],.tup [.int 2,.int 1,.int 1]]) .lf) 222146404369644378992063253323837546948385193939944407117 "MEET_RIGHT" (.int 2) (.nd .lf 244549585900342458106530865870131078008273962680799660357910605 "MOST_ROUNDS" (.int 200) .lf))) 244549588544945222912840311066819445538787669452453676834553933 "MOST_SHAPES" (.int 40) (.nd (.nd (.nd .lf 244549636147707162321282562325466615094609695855788739341123661 "MARKED_ROWS" (.tup [.int 2,.int 3,.int 4,.int 5,.int 8]) .lf) 244549636147707162321282562325494079120127675631476627571081295 "OBJECT_ROWS" (.tup [.int 8,.int 9,.int 11,.int 12,.int 13]) (.nd .lf 338833815915276311600490914724260644570797408609122325256470623 "_law_orders" (.list [.list [.int 2,.int 0,.int 1],.list [.int 0,.int 1,.int 2],.list [.int 1,.int 2,.int 0],.list [.int 0,.int 2,.int 1],.list [.int 2,.int 1,.int 0],.list [.int 1,.int 0,.int 2]]) .lf)) 272455628246612915063810547223722909556158123303277768428532630880326 "FAMILY_WORDS" (.dict [(.int 1,.str "string"),(.int 2,.str "number"),(.int 3,.str "boolean"),(.int 4,.str "object"),(.int 5,.str "undefined"),(.int 6,.str "undefined"),(.int 7,.str "object")]) (.nd (.nd .lf 272455631192967500029859585650872324540347184022804884154258034065483 "KEY_FAMILIES" (.dict [(.int 3,.int 6),(.int 4,.int 5),(.int 5,.int 4),(.int 6,.int 1),(.int 7,.int 2),(.int 10,.int 7)]) .lf) 272455684227794322028088758077565560471335251255721062469185310359628 "LITERAL_ROWS" (.tup [.int 2,.int 3,.int 4,.int 5]) (.nd .lf 376775230730961364233062593844985604622701412320920806702271583340028270285230953332816 "PRIMITIVE_NAMES" (.tup [.str "charAt",.str "concat",.str "includes",.str "indexOf",.str "length",.str "slice",.str "toLowerCase",.str "toString",.str "toUpperCase"]) .lf))))))
noncomputable def meL:List (Str×Nat×Nat×Nat):=[("force",114,1,498),("bound",114,5,526),("shape",115,1,617),("list_prop",114,13,582)]
def freeL:List Str:=[dy,wt,tR,tS,tT,Cc,JI,h5,mm,tU]
def pd (x:Str):List Str->Bool
 |[]=>false
 |y::r=>match a9 y x with
  |true=>true
  |false=>pd x r
def wH (x:Str):List (Str×Nat×Nat×Nat)->Option Fn
 |[]=>none
 |(y,i,j,_)::r=>match a9 y x with
  |true=>some ⟨c5 i j,[]⟩
  |false=>wH x r
def G0:Gl where
 val x:=vaT.get (wG x) x
 fn x:=(fnT.get (wG x) x).map λe=>⟨aA e.i,e.dfl⟩
 i3 x:=wH x meL
 free x:=pd x freeL
end Mine
end
noncomputable section
open PySem PySem.W PyProof.Rows
namespace Mine
theorem gb{α:Type}{a b:α}(h:some a=some b){P:α->Prop}(k:P a):P b:=Option.some.inj h▸k
abbrev bA:=Addr->Option Obj
mutual
inductive Rd (g:bA):Value->PyData->Prop
 |none:Rd g .none .none
 |bool (b:Bool):Rd g (.bool b) (.bool b)
 |int (i:Int) (t:Tok):Rd g (.int i t) (.int i)
 |str (x:Str) (t:Tok):Rd g (.str x t) (.str x)
 |tup {a:Addr} {o:Obj} {vs:Array Value} {n:Nat} {l:List PyData}:g a=some o->o.cls= .type "tuple"->o.data= .seq vs n->RdL g vs.toList l->Rd g (.ref a) (.tuple l)
 |list {a:Addr} {vs:Array Value} {n:Nat} {l:List PyData}:g a=some (listOf vs n)->RdL g vs.toList l->Rd g (.ref a) (.list l)
inductive RdL (g:bA):List Value->List PyData->Prop
 |nil:RdL g [] []
 |cons {v:Value} {vs:List Value} {d:PyData} {l:List PyData}:Rd g v d->RdL g vs l->RdL g (v::vs) (d::l)
end
theorem Rd.mono{g au:bA}(k:∀b o,g b=some o->au b=some o){v:Value}{d:PyData}(h:Rd g v d):Rd au v d:=
 Rd.rec (motive_1:=λv d _=>Rd au v d) (motive_2:=λvs l _=>RdL au vs l) .none .bool .int .str (λe c d _ r=> .tup (k _ _ e) c d r) (λe _ r=> .list (k _ _ e) r) .nil (λ_ _ a b=> .cons a b) h
theorem Rd.reads{g:bA}{h:Heap}(k:∀b o,g b=some o->h.get? b=some o){v:Value}{d:PyData}(r:Rd g v d):∃as,Reads h v d as:=
 Rd.rec (motive_1:=λv d _=>∃as,Reads h v d as) (motive_2:=λvs l _=>∃as,ReadsAll h vs l as) ⟨_,.none⟩ (λb=>⟨_,.bool b⟩) (λi t=>⟨_,.int i t⟩) (λx t=>⟨_,.str x t⟩)
  (λe c d _ q=>q.elim λ_ q=>⟨_,.tuple (k _ _ e) c d q⟩) (λe _ q=>q.elim λ_ q=>⟨_,.list (k _ _ e) rfl rfl q⟩) ⟨_,.nil⟩ (λ_ _ p q=>p.elim λ_ p=>q.elim λ_ q=>⟨_,.cons p q⟩) r
theorem RdL.reads{g:bA}{h:Heap}(k:∀b o,g b=some o->h.get? b=some o){vs:List Value}{l:List PyData}(r:RdL g vs l):∃as,ReadsAll h vs l as:=
 RdL.rec (motive_1:=λv d _=>∃as,Reads h v d as) (motive_2:=λvs l _=>∃as,ReadsAll h vs l as) ⟨_,.none⟩ (λb=>⟨_,.bool b⟩) (λi t=>⟨_,.int i t⟩) (λx t=>⟨_,.str x t⟩)
  (λe c d _ q=>q.elim λ_ q=>⟨_,.tuple (k _ _ e) c d q⟩) (λe _ q=>q.elim λ_ q=>⟨_,.list (k _ _ e) rfl rfl q⟩) ⟨_,.nil⟩ (λ_ _ p q=>p.elim λ_ p=>q.elim λ_ q=>⟨_,.cons p q⟩) r
inductive RdT (g:bA) (v:Value) (l:List PyData):Prop
 |mk (a:Addr) (o:Obj) (vs:Array Value) (n:Nat) (e:v= .ref a) (h:g a=some o) (c:o.cls= .type "tuple") (d:o.data= .seq vs n) (r:RdL g vs.toList l)
inductive RdS (g:bA) (v:Value) (l:List PyData):Prop
 |mk (a:Addr) (vs:Array Value) (n:Nat) (e:v= .ref a) (h:g a=some (listOf vs n)) (r:RdL g vs.toList l)
def J5(g:bA)(v:Value):PyData->Prop
 | .none=>v= .none
 | .bool b=>v= .bool b
 | .int i=>∃t,v= .int i t
 | .str x=>∃t,v= .str x t
 | .tuple l=>RdT g v l
 | .list l=>RdS g v l
 | .dict _=>False
theorem Rd.dat{g:bA}{v:Value}{d:PyData}(h:Rd g v d):J5 g v d:=
 Rd.casesOn (motive_1:=λv d _=>J5 g v d) h rfl (λ_=>rfl) (λ_ t=>⟨t,rfl⟩) (λ_ t=>⟨t,rfl⟩) (λa b c d=>⟨_,_,_,_,rfl,a,b,c,d⟩) (λa b=>⟨_,_,_,rfl,a,b⟩)
def J6(g:bA)(d:PyData):Value->Prop
 | .none=>d= .none
 | .bool b=>d= .bool b
 | .int i _=>d= .int i
 | .str x _=>d= .str x
 | .ref a=>(∃l,d= .tuple l/\RdT g (.ref a) l)\/∃l,d= .list l/\RdS g (.ref a) l
 |_=>False
theorem Rd.val{g:bA}{v:Value}{d:PyData}(h:Rd g v d):J6 g d v:=
 Rd.casesOn (motive_1:=λv d _=>J6 g d v) h rfl (λ_=>rfl) (λ_ _=>rfl) (λ_ _=>rfl) (λa b c d=> .inl ⟨_,rfl,_,_,_,_,rfl,a,b,c,d⟩) (λa b=> .inr ⟨_,rfl,_,_,_,rfl,a,b⟩)
inductive RdC (g:bA) (d:PyData) (l:List PyData) (vs:List Value):Prop
 |mk (v:Value) (aU:List Value) (e:vs=v::aU) (a:Rd g v d) (r:RdL g aU l)
def J7(g:bA)(vs:List Value):List PyData->Prop
 |[]=>vs=[]
 |d::l=>RdC g d l vs
theorem RdL.dat{g:bA}{vs:List Value}{l:List PyData}(h:RdL g vs l):J7 g vs l:=
 RdL.casesOn (motive_2:=λvs l _=>J7 g vs l) h rfl (λa r=>⟨_,_,rfl,a,r⟩)
inductive RdE (g:bA) (v:Value) (vs:List Value) (l:List PyData):Prop
 |mk (d:PyData) (m:List PyData) (e:l=d::m) (a:Rd g v d) (r:RdL g vs m)
def J8(g:bA)(l:List PyData):List Value->Prop
 |[]=>l=[]
 |v::vs=>RdE g v vs l
theorem RdL.val{g:bA}{vs:List Value}{l:List PyData}(h:RdL g vs l):J8 g l vs:=
 RdL.casesOn (motive_2:=λvs l _=>J8 g l vs) h rfl (λa r=>⟨_,_,rfl,a,r⟩)
theorem RdL.mono{g au:bA}(k:∀b o,g b=some o->au b=some o){vs:List Value}{l:List PyData}(h:RdL g vs l):RdL au vs l:=by
 revert l
 induction vs with
 |nil=>intro l h;rw[h.val];exact .nil
 |cons v vs bg=>intro l h;obtain⟨d,m,e,a,r⟩:=h.val;rw[e];exact .cons (a.mono k) (bg r)
theorem RdL.length{g:bA}{vs:List Value}:∀{l:List PyData},RdL g vs l->vs.length=l.length:=by
 induction vs with
 |nil=>intro l h;rw[h.val];rfl
 |cons v vs bg=>intro l h;obtain⟨d,m,e,_,r⟩:=h.val;rw[e];exact congrArg Nat.succ (bg r)
theorem RdL.get{g:bA}{vs:List Value}:∀{l:List PyData},RdL g vs l->∀{i:Nat}{d:PyData},l[i]? =some d->∃v,vs[i]? =some v/\Rd g v d:=by
 induction vs with
 |nil=>intro l h i d e;rw[h.val] at e;exact nomatch e
 |cons v vs bg=>
  intro l h i d e
  obtain⟨d,m,q,a,r⟩:=h.val
  rw[q] at e
  rcases i with _|i
  .exact⟨v,rfl,gb e a⟩
  .exact bg r (i:=i) e
theorem RdL.append{g:bA}{vs eI:List Value}{l m:List PyData}(h:RdL g vs l)(k:RdL g eI m):RdL g (vs++eI) (l++m):=by
 revert l
 induction vs with
 |nil=>intro l h;rw[h.val];exact k
 |cons v vs bg=>intro l h;obtain⟨d,n,q,a,r⟩:=h.val;rw[q];exact .cons a (bg r)
theorem RdL.take{g:bA}{vs:List Value}:∀{l:List PyData},RdL g vs l->∀(n:Nat),RdL g (vs.take n) (l.take n):=by
 induction vs with
 |nil=>intro l h n;rw[h.val,wb,wb];exact .nil
 |cons v vs bg=>
  intro l h n
  obtain⟨d,m,q,a,r⟩:=h.val
  rw[q]
  rcases n with _|n
  .exact .nil
  .exact .cons a (bg r n)
theorem RdL.drop{g:bA}{vs:List Value}:∀{l:List PyData},RdL g vs l->∀(n:Nat),RdL g (vs.drop n) (l.drop n):=by
 induction vs with
 |nil=>intro l h n;rw[h.val,List.drop_nil,List.drop_nil];exact .nil
 |cons v vs bg=>
  intro l h n
  obtain⟨d,m,q,a,r⟩:=h.val
  rw[q]
  rcases n with _|n
  .exact .cons a r
  .exact bg r n
theorem aK{a b:Bool}(h:(a&&b)=true):a=true/\b=true:=by
 rcases a with _|_
 .exact nomatch h
 .exact⟨rfl,h⟩
theorem lEq_iff:∀{x y:List Nat},f0 x y=true↔x=y
 |[],[]=>⟨λ_=>rfl,λ_=>rfl⟩
 |[],_::_=>⟨nofun,nofun⟩
 |_::_,[]=>⟨nofun,nofun⟩
 |a::x,b::y=>⟨λh=>by rw [ei (aK h).1,(lEq_iff (x:=x)).mp (aK h).2],λh=>by injection h with aa ah;exact(c6 _ _).mpr ⟨aa▸jF a,lEq_iff.mpr ah⟩⟩
theorem sEq_iff{a b:Str}:a9 a b=true↔a=b:=by
 refine⟨λh=>?_,λh=>h▸lEq_iff.mpr rfl⟩
 have:a.cps=b.cps:=Array.toList_inj.mp (lEq_iff.mp h)
 rcases a with ⟨a⟩
 rcases b with ⟨b⟩
 exact congrArg _ this
theorem pe(a:Str):a9 a a=true:=sEq_iff.mpr rfl
theorem J9:∀{i:Int}{n:Nat},jL i=some n->i=n
 | .ofNat _,_,h=>congrArg Int.ofNat (Option.some.inj h)
theorem an4(n:Nat):jL (n:Int)=some n:=rfl
theorem iEq_iff{a b:Int}:cN a b=true↔a=b:=by
 rcases a with a|a<;>rcases b with b|b
 .exact⟨λh=>congrArg Int.ofNat (ei h),λh=>by injection h with h;rw[h];exact jF b⟩
 .exact⟨nofun,nofun⟩
 .refine⟨λh=>?_,nofun⟩
  have:jL (-(b:Int) - 1)=none:=by
   rcases e:jL (-(b:Int) - 1) with _|k
   .rfl
   .have:=J9 e;lia
  have h:(match jL (-(b:Int) - 1) with|some b=>Nat.beq a b|none=>false)=true:=h
  rw[this] at h;exact nomatch h
 .have e:jL (-Int.negSucc b - 1)=some b:=by rw [show -Int.negSucc b - 1=(b:Int) by rw [v8];lia];rfl
  have e2:cN (.negSucc a) (.negSucc b)=Nat.beq a b:=by
   show (match jL (-Int.negSucc b - 1) with|some b=>Nat.beq a b|none=>false)=_
   rw[e]
  rw[e2]
  exact⟨λh=>congrArg Int.negSucc (ei h),λh=>by injection h with h;rw[h];exact jF b⟩
theorem Ka(a b:Int):cN a b=(a==b):=by
 rw[i5,iEq_iff,beq_iff_eq]
theorem iLe_iff{a b:Int}:h4 a b=true↔a<=b:=by
 unfold h4
 split
 .rename_i n h
  have h':b - a=(n:Int):=h
  simp;lia
 .rename_i n h
  have h':b - a= -((n:Int)+1):=by rw [h,v8]
  simp;lia
theorem iLt_iff{a b:Int}:e0 a b=true↔a<b:=by
 unfold e0
 split
 .rename_i n h
  have h':b - a=(n:Int):=h
  rw[ki,<-v5,Nat.beq_eq]
  lia
 .rename_i n h
  have h':b - a= -((n:Int)+1):=by rw [h,v8]
  simp;lia
theorem Cv(a b:Str):a9 a b=(a==b):=by
 rw[i5,sEq_iff,beq_iff_eq]
inductive BO {α:Type} (x:Option α) (f:α->Bool):Prop
 |mk (a:α) (e:x=some a) (k:f a=true)
theorem dX{α:Type}{f:α->Bool}:∀{x:Option α},ci x f=true->BO x f
 |some a,h=>⟨a,rfl,h⟩
theorem pf{v:V}(h:oW v=true):v= .none:=by rcases v<;>first|rfl|exact nomatch h
theorem wI{v:V}{b:Bool}(h:wq v=some b):v= .bool b:=by rcases v<;>first|exact aI h|exact congrArg V.bool (Option.some.inj h)
theorem lp{v:V}{b:Int}(h:ja v=some b):v= .int b:=by rcases v<;>first|exact aI h|exact congrArg V.int (Option.some.inj h)
theorem Kb{v:V}{b:Str}(h:wr v=some b):v= .str b:=by rcases v<;>first|exact aI h|exact congrArg V.str (Option.some.inj h)
theorem rv{v:V}{b:List V}(h:kp v=some b):v= .tup b:=by rcases v<;>first|exact aI h|exact congrArg V.tup (Option.some.inj h)
theorem t4{v:V}{b:List V}(h:rh v=some b):v= .list b:=by rcases v<;>first|exact aI h|exact congrArg V.list (Option.some.inj h)
theorem Cw{v:V}{b:List (V×V)}(h:oX v=some b):v= .dict b:=by rcases v<;>first|exact aI h|exact congrArg V.dict (Option.some.inj h)
theorem Kc{v:V}{b:V}(h:tO v=some b):v= .ty b:=by rcases v<;>first|exact aI h|exact congrArg V.ty (Option.some.inj h)
theorem Wu{v:V}{b:Nat}(h:JE v=some b):v= .decl b:=by rcases v<;>first|exact aI h|exact congrArg V.decl (Option.some.inj h)
theorem wJ{v:V}(h:tP v=true):v= .tab:=by rcases v<;>first|rfl|exact nomatch h
theorem Kd{v:V}(h:isInt v=true):∃i,v= .int i:=by rcases v<;>first|exact⟨_,rfl⟩|exact nomatch h
theorem Ke{v:V}(h:isStr v=true):∃i,v= .str i:=by rcases v<;>first|exact⟨_,rfl⟩|exact nomatch h
theorem nJ{v:V}{n:Nat}(h:kq v=some n):v= .int n:=let ⟨_,e,k⟩:=bD h;J9 k▸lp e
theorem Kf{v:V}(h:B9 v=true):v= .int (-1):=by
 obtain⟨i,e,k⟩:=dX h
 rw[lp e]
 rcases i with _|n
 .exact nomatch k
 .rw[ei k];rfl
mutual
theorem V.zx:∀{a b:V},V.same a b=true->a=b
 | .none,_,h=>(pf h).symm
 | .bool _,_,h=>let ⟨_,e,k⟩:=dX h;(wI e).symm▸eq_of_beq k▸rfl
 | .int _,_,h=>let ⟨_,e,k⟩:=dX h;(lp e).symm▸iEq_iff.mp k▸rfl
 | .str _,_,h=>let ⟨_,e,k⟩:=dX h;(Kb e).symm▸sEq_iff.mp k▸rfl
 | .tup _,_,h=>let ⟨_,e,k⟩:=dX h;(rv e).symm▸V.H0 k▸rfl
 | .list _,_,h=>let ⟨_,e,k⟩:=dX h;(t4 e).symm▸V.H0 k▸rfl
 | .ty _,_,h=>let ⟨_,e,k⟩:=dX h;(Kc e).symm▸V.zx k▸rfl
theorem V.H0:∀{a b:List V},V.l8 a b=true->a=b
 |[],[],_=>rfl
 |_::_,_::_,h=>V.zx (aK h).1▸V.H0 (aK h).2▸rfl
end
mutual
noncomputable def V.plain:V->Bool
 | .int _| .str _=>true
 | .tup l=>V.zr l
 | .ty r=>V.plain r
 |_=>false
noncomputable def V.zr:List V->Bool
 |[]=>true
 |v::r=>V.plain v&&V.zr r
end
mutual
theorem V.same_self:∀{a:V},V.plain a=true->V.same a a=true
 | .int _,_=>iEq_iff.mpr rfl
 | .str _,_=>pe _
 | .tup a,h=>V.SK (a:=a) h
 | .ty a,h=>V.same_self (a:=a) h
theorem V.SK:∀{a:List V},V.zr a=true->V.l8 a a=true
 |[],_=>rfl
 |x::a,h=>(c6 _ _).mpr ⟨V.same_self (a:=x) (aK h).1,V.SK (a:=a) (aK h).2⟩
end
mutual
noncomputable def bI (H:T):V->Option PyData
 | .none=>some .none
 | .bool b=>some (.bool b)
 | .int i=>some (.int i)
 | .str s=>ow (PyData.strOk s) (some (.str s))
 | .tup l=>od (bX H l) λm=>some (.tuple m)
 | .list l=>od (bX H l) λm=>some (.list m)
 | .ty r=>od (dL r H.dyn 0) λi=>some (.int ((H.base.length+i:Nat):Int))
 |_=>Option.none
noncomputable def bX (H:T):List V->Option (List PyData)
 |[]=>some []
 |v::r=>od (bI H v) λd=>od (bX H r) λl=>some (d::l)
end
theorem fa{H:T}{v:V}{r:List V}{l:List PyData}(h:bX H (v::r)=some l):∃d m,l=d::m/\bI H v=some d/\bX H r=some m:=
 let ⟨d,e,k⟩:=bD h;let ⟨m,f,k⟩:=bD k;⟨d,m,(Option.some.inj k).symm,e,f⟩
theorem h9{H:T}{v:V}{r:List V}{d:PyData}{m:List PyData}(aQ:bI H v=some d)(av:bX H r=some m):bX H (v::r)=some (d::m):=by
 show od (bI H v) _=_
 rw[aQ];show od (bX H r) _=_;rw[av];rfl
theorem mo{x y:V}{r:List V}{n:Nat}:dL x (y::r) n=cond (V.same y x) (some n) (dL x r (n+1)):=by
 show (match V.same y x with|true=>some n|false=>dL x r (n+1))=_
 cases V.same y x<;>rfl
theorem t5{x:V}:∀{l:List V}{n i:Nat},dL x l n=some i->∃k,i=n+k/\l[k]? =some x
 |[],_,_,h=>aI h
 |y::r,n,i,h=>by
  rw[mo] at h
  cases e:V.same y x
  .rw[e] at h
   obtain⟨k,q,e⟩:=t5 (l:=r) h
   exact⟨k+1,by rw [q,jE,jG 1 k],e⟩
  .rw[e] at h
   exact⟨0,(Option.some.inj h).symm,V.zx e▸rfl⟩
theorem t6{x:V}(aS:V.plain x=true):∀{l:List V}{n:Nat},dL x l n=none->x∉l
 |y::r,n,h,m=>by
  rw[mo] at h
  cases m with
  |head=>rw[V.same_self aS] at h;exact nomatch h
  |tail _ m=>
   cases e:V.same y x<;>rw[e] at h
   .exact t6 aS (l:=r) h m
   .exact nomatch h
theorem an5{x:V}(aS:V.plain x=true){l:List V}(m:x∈l)(n:Nat):∃i,dL x l n=some i:=by
 rcases h:dL x l n with _|i
 .exact absurd m (t6 aS h)
 .exact⟨i,rfl⟩
theorem Kg{x:V}{i:Nat}:∀{l:List V}(m:List V){n:Nat},dL x l n=some i->dL x (l++m) n=some i
 |[],_,_,h=>aI h
 |y::r,m,n,h=>by
  rw[mo] at h
  rw[ts,mo]
  cases e:V.same y x<;>rw[e] at h
  .exact Kg (l:=r) m h
  .exact h
structure T.bP (H O:T):Prop where
 base:O.base=H.base\/H.dyn=[]
 dyn:∃m,O.dyn=H.dyn++m
 cnt:H.cnt<=O.cnt
 decls:H.decls.length<=O.decls.length
 bld:O.bld=H.bld
theorem T.bP.refl(H:T):H.bP H:=⟨.inl rfl,⟨[],by simp⟩,cq _,cq _,rfl⟩
theorem T.bP.trans{H O t7:T}(a:H.bP O)(b:O.bP t7):H.bP t7:=by
 obtain⟨m,av⟩:=a.dyn
 obtain⟨k,aj⟩:=b.dyn
 refine⟨?_,⟨m++k,by rw [aj,av,iA]⟩,aT a.cnt b.cnt,aT a.decls b.decls,b.bld.trans a.bld⟩
 rcases a.base with e|e
 .rcases b.base with f|f
  .exact .inl (f.trans e)
  .right
   rw[av] at f
   exact(List.append_eq_nil_iff.mp f).1
 .exact .inr e
mutual
theorem pg{H O:T}(k:H.bP O):∀{v:V}{d:PyData},bI H v=some d->bI O v=some d
 | .none,_,h=>h
 | .bool _,_,h=>h
 | .int _,_,h=>h
 | .str _,_,h=>h
 | .tup l,d,h=>by
  obtain⟨m,av,e⟩:=bD h
  show od (bX O l) _=_
  rw[mq k av];exact e
 | .list l,d,h=>by
  obtain⟨m,av,e⟩:=bD h
  show od (bX O l) _=_
  rw[mq k av];exact e
 | .ty r,d,h=>by
  obtain⟨i,hi,e⟩:=bD h
  obtain⟨m,av⟩:=k.dyn
  show od (dL r O.dyn 0) _=_
  rw[av,Kg m hi]
  rcases k.base with q|q
  .rw[q];exact e
  .rw[q] at hi;exact aI hi
theorem mq{H O:T}(k:H.bP O):∀{v:List V}{d:List PyData},bX H v=some d->bX O v=some d
 |[],_,h=>h
 |x::r,d,h=>by
  obtain⟨a,m,e,aw,av⟩:=fa h
  rw[e];exact h9 (pg k aw) (mq k av)
end
end Mine
end
noncomputable section
open PySem PySem.W PyProof.Rows PySem.PyData
namespace Mine
structure T.Ok (H:T):Prop where
 plain:∀r∈H.dyn,V.plain r=true
 met:∀r∈H.dyn,rj r=true
 key:∀r∈H.base++H.dyn,gw r=true/\V.key H.kb 4 r=true
 bld:H.bld=true->H.dyn=[]
 size:H.base.length+H.dyn.length<=64+H.cnt
 once:H.dyn.Nodup
 small:H.base.length<=64+H.cnt
@[elab_as_elim] theorem da {α:Type} {a:α} {P:α->Prop} {b:α} (h:some a=some b) (k:P a):P b:=gb h k
theorem gB{H:T}{s:Str}{d:PyData}(h:bI H (.str s)=some d):d= .str s/\PyData.strOk s=true:=⟨(Option.some.inj (br h).2).symm,(br h).1⟩
theorem hB{H:T}{r:V}{d:PyData}(h:bI H (.ty r)=some d):∃i:Nat,H.dyn[i]? =some r/\dL r H.dyn 0=some i/\d= .int ((H.base.length+i:Nat):Int):=by
 obtain⟨i,hi,q⟩:=bD h
 obtain⟨k,e,f⟩:=t5 hi
 rw[mf] at e
 exact⟨i,e▸f,hi,(Option.some.inj q).symm⟩
theorem Cy{H:T}(aL:H.Ok){r:V}{d:PyData}(h:bI H (.ty r)=some d):V.plain r=true:=by
 obtain⟨i,hi,_⟩:=hB h
 exact aL.plain r (oK hi)
theorem gS{H:T}{l:List V}{d:PyData}(h:bI H (.tup l)=some d):∃m,bX H l=some m/\d= .tuple m:=by
 obtain⟨m,e,k⟩:=bD h
 exact⟨m,e,(Option.some.inj k).symm⟩
theorem t8{H:T}{l:List V}{d:PyData}(h:bI H (.list l)=some d):∃m,bX H l=some m/\d= .list m:=by
 obtain⟨m,e,k⟩:=bD h
 exact⟨m,e,(Option.some.inj k).symm⟩
theorem Wv{H:T}{x:Int}{b:V}{t:Bool}{e:PyData}(h:H.HZ x b=some t)(ao:bI H b=some e):(PyData.int x).eqv e=t:=by
 rcases b
 case int y=>exact da h (da ao (Ka x y).symm)
 case str=>rw[(gB ao).1];exact da h rfl
 case ty=>
  obtain⟨q,k⟩:=br h
  obtain⟨i,_,_,e⟩:=hB ao
  rw[e]
  refine da k (beq_false_of_ne λz=>?_)
  have:=iLt_iff.mp q
  lia
 all_goals exact aI h
theorem Ww{H:T}{x:Str}{b:V}{t:Bool}{e:PyData}(h:T.H7 x b=some t)(ao:bI H b=some e):(PyData.str x).eqv e=t:=by
 rcases b
 case int=>exact da h (da ao rfl)
 case str=>rw[(gB ao).1];exact da h (Cv _ _).symm
 case ty=>
  obtain⟨i,_,_,e⟩:=hB ao
  rw[e];exact da h rfl
 all_goals exact aI h
theorem Wx{H:T}(aL:H.Ok){x:V}{b:V}{t:Bool}{d e:PyData}(h:H.eqT x b=some t)(aw:bI H (.ty x)=some d)(ao:bI H b=some e):d.eqv e=t:=by
 obtain⟨i,hi,Kh,q⟩:=hB aw
 rw[q]
 rcases b
 case int=>
  obtain⟨q,k⟩:=br h
  refine da ao (da k (beq_false_of_ne λz=>?_))
  have:=iLt_iff.mp q
  lia
 case str=>rw[(gB ao).1];exact da h rfl
 case ty y=>
  have aS:=Cy aL aw
  obtain⟨j,bt,Wy,e⟩:=hB ao
  rw[e]
  refine da h ?_
  show (((H.base.length+i:Nat):Int)==((H.base.length+j:Nat):Int))=_
  rcases aJ:V.same x y with _|_
  .refine beq_false_of_ne λz=>?_
   have:i=j:=Io (Int.ofNat.inj z)
   rw[this,bt] at hi
   rw[Option.some.inj hi,V.same_self aS] at aJ
   exact nomatch aJ
  .rw[V.zx aJ,Wy] at Kh
   rw[Option.some.inj Kh];exact beq_self_eq_true _
 all_goals exact aI h
mutual
theorem t9{H:T}(aL:H.Ok):∀{a b:V}{t:Bool}{d e:PyData},H.eq a b=some t->bI H a=some d->bI H b=some e->d.eqv e=t
 | .none,b,t,d,e,h,aw,ao=>by
  rw[pf (br h).1] at ao
  exact da (br h).2 (da aw (da ao rfl))
 | .bool x,b,t,d,e,h,aw,ao=>by
  obtain⟨y,k,q⟩:=bD h
  rw[wI k] at ao
  exact da q (da aw (da ao rfl))
 | .int x,b,t,d,e,h,aw,ao=>da aw (Wv h ao)
 | .str x,b,t,d,e,h,aw,ao=>(gB aw).1▸Ww h ao
 | .ty x,b,t,d,e,h,aw,ao=>Wx aL h aw ao
 | .tup x,b,t,d,e,h,aw,ao=>by
  obtain⟨l,k,q⟩:=bD h
  rw[rv k] at ao
  obtain⟨m,av,e1⟩:=gS aw
  obtain⟨n,aX,e2⟩:=gS ao
  rw[e1,e2]
  exact Ki aL q av aX
theorem Ki{H:T}(aL:H.Ok):∀{a b:List V}{t:Bool}{d e:List PyData},H.eqs a b=some t->bX H a=some d->bX H b=some e->eqvAll d e=t
 |[],[],t,d,e,h,aw,ao=>da h (da aw (da ao rfl))
 |[],y::b,t,d,e,h,aw,ao=>by
  obtain⟨p,m,q,_,_⟩:=fa ao
  rw[q];exact da h (da aw rfl)
 |x::a,[],t,d,e,h,aw,ao=>by
  obtain⟨p,m,q,_,_⟩:=fa aw
  rw[q];exact da h (da ao rfl)
 |x::a,y::b,t,d,e,h,aw,ao=>by
  obtain⟨p,m,e1,aS,av⟩:=fa aw
  obtain⟨q,k,e2,aO,aj⟩:=fa ao
  obtain⟨u,g,h⟩:=bD h
  rw[e1,e2,eqvAll,t9 aL g aS aO]
  rcases u with _|_
  .exact da h rfl
  .exact Ki aL h av aj
end
theorem Kj{H:T}(aL:H.Ok){x:V}{d:PyData}(hx:bI H x=some d):∀{l:List V}{t:Bool}{m:List PyData},H.mem x l=some t->bX H l=some m->(m.any λy=>y.eqv d)=t
 |[],t,m,h,av=>da h (da av rfl)
 |y::r,t,m,h,av=>by
  obtain⟨p,k,q,aS,aj⟩:=fa av
  obtain⟨u,g,h⟩:=bD h
  rw[q,h1,t9 aL g aS hx]
  rcases u with _|_
  .exact Kj aL hx (l:=r) h aj
  .exact da h rfl
mutual
theorem wK{H:T}:∀{v:V}{d:PyData},bI H v=some d->d.canLay0=true
 | .none,_,h=>da h rfl
 | .bool _,_,h=>da h rfl
 | .int _,_,h=>da h rfl
 | .str s,_,h=>by
  obtain⟨e,q⟩:=gB h
  rw[e]
  simpa only [canLay0] using q
 | .tup l,d,h=>by
  obtain⟨m,av,e⟩:=gS h
  rw[e]
  simp only[canLay0];exact wL av
 | .list l,d,h=>by
  obtain⟨m,av,e⟩:=t8 h
  rw[e]
  simp only[canLay0];exact wL av
 | .ty r,d,h=>by obtain ⟨i,_,_,e⟩:=hB h;rw[e];rfl
theorem wL{H:T}:∀{v:List V}{d:List PyData},bX H v=some d->canLayAll0 d=true
 |[],_,h=>da h rfl
 |x::r,d,h=>by
  obtain⟨a,m,e,aw,av⟩:=fa h
  rw[e]
  simp only[canLayAll0,c6]
  exact⟨wK aw,wL av⟩
end
end Mine
end
noncomputable section
open PySem PySem.W PyProof.Rows
namespace Mine
def T.fA(H:T):Prop:=H.bld=true->H.dyn=[]
def Gr(H O:T):Prop:=H.fA->H.bP O/\O.fA
theorem Gr.refl(H:T):Gr H H:=λb=>⟨.refl H,b⟩
theorem Gr.trans{H O t7:T}(a:Gr H O)(b:Gr O t7):Gr H t7:=λx=>let ⟨p,q⟩:=a x;let ⟨r,s⟩:=b q;⟨p.trans r,s⟩
def Mo{α:Type}(H:T)(x:Option (α×T)):Prop:=∀a O,x=some (a,O)->Gr H O
def dm{α:Type}(H:T)(r:Option (α×am×T)):Prop:=∀a J O,r=some (a,J,O)->Gr H O
theorem Mo.no{α:Type}{H:T}:Mo H (none:Option (α×T)):=λ_ _ h=>aI h
theorem Mo.so{α:Type}{H:T}{v:α}:Mo H (some (v,H)):=λ_ _ h=>pI h (P:=λ_ O=>Gr H O) (.refl H)
theorem Mo.ob{α bR:Type}{H:T}{x:Option (α×T)}{f:α->T->Option (bR×T)}(h:Mo H x)(k:∀a O,Mo O (f a O)):Mo H (ob x f):=λa O e=>let ⟨_,_,e1,e2⟩:=b1 e;(h _ _ e1).trans (k _ _ _ _ e2)
theorem Mo.od{α bR:Type}{H:T}{x:Option α}{f:α->Option (bR×T)}(k:∀a,Mo H (f a)):Mo H (od x f):=λa O e=>let ⟨_,_,e2⟩:=bD e;k _ _ _ e2
theorem Mo.pt{α:Type}{H:T}{x:Option α}:Mo H (pt H x):=λ_ _ h=>h8 h (P:=λ_ O=>Gr H O) λ_ _=> .refl H
theorem Mo.ow{α:Type}{H:T}{x:Option (α×T)}(h:Mo H x):∀{c:Bool},Mo H (ow c x)
 |true=>h
 |false=> .no
theorem Mo.cond{α:Type}{H:T}{x y:Option (α×T)}(h:Mo H x)(k:Mo H y):∀{c:Bool},Mo H (cond c x y)
 |true=>h
 |false=>k
theorem Mo.oc{α:Type}{H:T}{x:Option (Fl×am×T)}{f:Fl->am->T->Option (α×T)}(h:dm H x)(k:∀a J O,Mo O (f a J O)):Mo H (oc x f):=λ_ _ e=>let ⟨_,_,_,e1,e2⟩:=rn e;(h _ _ _ e1).trans (k _ _ _ _ _ e2)
theorem ua{α:Type}{H:T}:dm H (none:Option (α×am×T)):=λ_ _ _ h=>aI h
theorem wM{α:Type}{H:T}{v:α}{J:am}:dm H (some (v,J,H)):=λ_ _ _ h=>rp h (P:=λ_ _ O=>Gr H O) (.refl H)
theorem jN{α bR:Type}{H:T}{x:Option (α×T)}{f:α->T->Option (bR×am×T)}(h:Mo H x)(k:∀a O,dm O (f a O)):dm H (ob x f):=λ_ _ _ e=>let ⟨_,_,e1,e2⟩:=b1 e;(h _ _ e1).trans (k _ _ _ _ _ e2)
theorem mr{α bR:Type}{H:T}{x:Option α}{f:α->Option (bR×am×T)}(k:∀a,dm H (f a)):dm H (od x f):=λ_ _ _ e=>let ⟨_,_,e2⟩:=bD e;k _ _ _ _ e2
theorem jf{α:Type}{H:T}{x:Option (α×am×T)}(h:dm H x):∀{c:Bool},dm H (ow c x)
 |true=>h
 |false=>ua
theorem Wz{α:Type}{H:T}{x y:Option (α×am×T)}(h:dm H x)(k:dm H y):∀{c:Bool},dm H (cond c x y)
 |true=>h
 |false=>k
theorem Kk{α:Type}{H:T}{x:Option (Fl×am×T)}{f:Fl->am->T->Option (α×am×T)}(h:dm H x)(k:∀a J O,dm O (f a J O)):dm H (oc x f):=λ_ _ _ e=>let ⟨_,_,_,e1,e2⟩:=rn e;(h _ _ _ e1).trans (k _ _ _ _ _ _ e2)
theorem Cz{H:T}{x:Option (Fl×am×T)}{k:am->T->Option (Fl×am×T)}(h:dm H x)(aj:∀J O,dm O (k J O)):dm H (thn x k):=Kk h λ
 | .next,_,_=>aj _ _
 | .ret _,_,_=>wM
theorem Gr.dec(H:T){l:List V}(h:H.decls.length<=l.length):Gr H {H with decls:=l}:=λaL=>⟨⟨.inl rfl,⟨[],(eh _).symm⟩,cq _,h,rfl⟩,aL⟩
theorem Gr.amM(H:T)(l:List Int):Gr H {H with bounds:=l}:=λaL=>⟨⟨.inl rfl,⟨[],(eh _).symm⟩,cq _,cq _,rfl⟩,aL⟩
theorem Mo.SG{α:Type}{H O:T}{x:Option (α×T)}(h:Gr H O)(k:Mo O x):Mo H x:=λ_ _ e=>h.trans (k _ _ e)
theorem WA{α:Type}{H O:T}{x:Option (α×am×T)}(h:Gr H O)(k:dm O x):dm H x:=λ_ _ _ e=>h.trans (k _ _ _ e)
theorem eA{α:Type}:∀{c:Bool}{x y:Option α}{r:α},cond c x y=some r->(c=true/\x=some r)\/(c=false/\y=some r)
 |true,_,_,_,h=> .inl ⟨rfl,h⟩
 |false,_,_,_,h=> .inr ⟨rfl,h⟩
theorem WB{row:V}{l:List V}:∀{o:Option Nat},∃m,Ca row l o=l++m
 |some _=>⟨[],(eh _).symm⟩
 |none=>⟨[row],rfl⟩
theorem WC{H:T}{row:V}:∀{o:Option Nat},Mo H (H.putN row o)
 |some _=> .so
 |none=>λa O h aL=>by
  rcases eA h with ⟨ao,h⟩|⟨ao,h⟩
  .exact pI h (P:=λ_ O=>H.bP O/\O.fA) ⟨⟨.inr (aL ao),⟨[],(eh _).symm⟩,cG _,cq _,rfl⟩,aL⟩
  .exact pI (br h).2 (P:=λ_ O=>H.bP O/\O.fA) ⟨⟨.inl rfl,WB,cG _,cq _,rfl⟩,λb=>nomatch ao.symm.trans b⟩
theorem wN{H:T}{row:V}:Mo H (H.put row):=.ow WC
def dI{α bR:Type}(f:α->T->Option (bR×T)):Prop:=∀e H,Mo H (f e H)
theorem jO{f:Expr->T->Option (V×T)}(a6:dI f):∀{es:List Expr}{H:T},Mo H (dz f es H)
 |[],_=> .so
 |_::_,_=> .ob (a6 _ _) λ_ _=> .ob (jO a6) λ_ _=> .so
theorem Kl{f:Expr->T->Option (V×T)}(a6:dI f):∀{ks:List (Option Expr)}{es:List Expr}{H:T},Mo H (o9 f ks es H)
 |[],[],_=> .so
 |[],_::_,_=> .no
 |none::_,_,_=> .no
 |some _::_,[],_=> .no
 |some _::_,_::_,_=> .ob (a6 _ _) λ_ _=> .ob (a6 _ _) λ_ _=> .ob (Kl a6) λ_ _=> .so
theorem CA{f:Expr->T->Option (V×T)}(a6:dI f){op:BoolOp}:∀{es:List Expr}{H:T},Mo H (kw f op es H)
 |[],_=> .no
 |[_],_=>a6 _ _
 |_::_::_,_=> .ob (a6 _ _) λ_ _=> .od λ_=> .cond .so (CA a6)
theorem ub{f:Expr->T->Option (Bool×T)}(a6:dI f){op:BoolOp}:∀{es:List Expr}{H:T},Mo H (gz f op es H)
 |[],_=> .so
 |_::_,_=> .ob (a6 _ _) λ_ _=> .cond .so (ub a6)
theorem wO{t:V->T->Option (Bool×T)}{f:V->T->Option (V×T)}(a1:dI t)(a6:dI f):∀{vs:List V}{H:T},Mo H (gR t f vs H)
 |[],_=> .so
 |_::_,_=> .ob (a1 _ _) λ_ _=> .cond (.ob (a6 _ _) λ_ _=> .ob (wO a1 a6) λ_ _=> .so) (wO a1 a6)
theorem wP{t:V->am->T->Option (Fl×am×T)}(a1:∀v J H,dm H (t v J H)):∀{vs:List V}{J:am}{H:T},dm H (je t vs J H)
 |[],_,_=>wM
 |_::_,_,_=>Cz (a1 _ _ _) λ_ _=>wP a1
theorem iI{c:Cx}{J:am}{f:Expr->T->Option (V×T)}(a6:dI f):dI (b7 c J f):=λe H=>by
 show Mo H (Cj J f e H _)
 generalize (od (ek e) λx=>ow (fF c x) (some x))=y
 cases y
 .exact a6 _ _
 .exact .od λ_=> .so
theorem an6{bR:Type}{c:Bool}{x:Option bR}{r:bR}(h:(if c=true then x else Option.none)=some r):c=true/\x=some r:=by
 cases c
 .exact aI h
 .exact⟨rfl,h⟩
structure MonoAt (G:Gl) (n:Nat):Prop where
 e:∀c J,dI (aN G n c J)
 t:∀c J,dI (dR G n c J)
 o:∀c J,dI (ln G n c J)
 i:∀c J,dI (gA G n c J)
 c:∀f,dI (bK G n f)
 s:∀c J cB H,dm H (bv G n c J cB H)
section
variable {G:Gl}{n:Nat}{c:Cx}{J:am}{bM:Expr->T->Option (V×T)}{cJ:Fn->List V->T->Option (V×T)}{H:T}
theorem Km(h:dI bM):∀{e:Option Expr},Mo H (wA bM H e)
 |none=> .so
 |some _=>h _ _
theorem Kn{α:Type}(h:dI bM){l:Expr}{ops:List CmpOp}{a3:List Expr}{k:Bool->T->Option (α×T)}(aj:∀b O,Mo O (k b O)):Mo H (wB c J bM l ops a3 H k):=
 .od λ_=> .od λ_=> .ob (iI h _ _) λ_ _=> .ob (iI h _ _) λ_ _=> .od λ_=>aj _ _
theorem WD(h:dI bM){x:Expr}:∀{o:UnaryOp},Mo H (Cq c J bM x H o)
 | .Not=> .ob (iI h _ _) λ_ _=> .od λ_=> .so
 | .USub=> .od λ_=> .so
 | .Invert=> .no
 | .UAdd=> .no
theorem WF:∀{l:List (V×V)},Mo H (rs H l)
 |[]=> .so
 |[_]=> .ow .so
 |_::_::_=> .no
theorem WG:∀{l:List V},Mo H (Co H l)
 |[]=> .no
 |_::_=> .od λ_=> .ow (.SG (.dec H (by rw [d5];exact eZ _ _)) .so)
theorem Ko{l:List V}:Mo H (Cp H l):=.od λ_=> .ow (.SG (.amM H _) wN)
theorem WH(h:dI bM){f:Str}{as:List Expr}:Mo H (JV G c J bM f as H):=.cond (.od λ_=> .od λ_=> .ow (.ob (h _ _) λ_ _=> .pt)) (.ob (jO (iI h)) λ_ _=> .pt)
theorem WI(h:dI bM)(ap:∀f,dI (cJ f)){f:Str}{as:List Expr}:∀{o:Option Fn},Mo H (JW G c J bM cJ f as H o)
 |none=> .cond (WH h) (.cond (.ob (jO h) λ_ _=>WG) (.ow (.ob (jO h) λ_ _=>Ko)))
 |some _=> .ob (jO (iI h)) λ_ _=> .ob (ap _ _ _) λ_ _=> .ow .so
theorem WJ(h:dI bM)(ap:∀f,dI (cJ f)){m:Str}{as:List Expr}:∀{v:V},Mo H (JZ G bM cJ m as H v)
 | .tab=> .ow (.ob (jO h) λ_ _=> .od λ_=>wN)
 | .host=> .od λ_=> .ob (jO h) λ_ _=>ap _ _ _
 | .dict _=> .ow (.ob (jO h) λ_ _=> .pt)
 | .none| .bool _| .int _| .str _| .tup _| .list _| .ty _| .decl _=> .no
theorem WK(h:dI bM)(ap:∀f,dI (cJ f)){o:Expr}{m:Str}{l:Bool}{as:List Expr}:∀{q:Option (Att×Expr×Expr)},Mo H (t3 G bM cJ o m l as H q)
 |some _=> .ow (.ob (h _ _) λ_ _=> .ow (.ob (h _ _) λ_ _=> .ob (h _ _) λ_ _=> .ow .pt))
 |none=> .ow (.ob (h _ _) λ_ _=>WJ h ap)
theorem WL(h:dI bM)(ap:∀f,dI (cJ f)){as:List Expr}{p:Pos}{f:Expr}:∀{ks:List Keyword},Mo H (J0 G c J bM cJ as p H f ks)
 |_::_=> .no
 |[]=>by
  cases f
  case Name=>exact .ow (WI h ap)
  case Attribute=>exact WK h ap
  all_goals exact .no
theorem WM(h:dI bM){lm:Option Expr->T->Option (V×T)}(aG:dI lm){b s:Expr}:∀{q:Option Cut},Mo H (wC c J bM lm b s H q)
 |none=> .ob (iI h _ _) λ_ _=> .ob (h _ _) λ_ _=> .pt
 |some _=> .ob (iI h _ _) λ_ _=> .ob (aG _ _) λ_ _=> .ob (aG _ _) λ_ _=> .pt
theorem WN(h:dI bM){lm:Option Expr->T->Option (V×T)}(aG:dI lm){b s:Expr}:∀{q:Option Att},Mo H (wD c J bM lm b s H q)
 |none=>WM h aG
 |some _=> .ow (.ob (h _ _) λ_ _=> .ow (.ob (h _ _) λ_ _=> .pt))
theorem WO(h:dI bM){pc:Expr->T->Option (Bool×T)}(a1:dI pc){e:Expr}:∀{k:Tk},Mo H (Cr c J bM pc e H k)
 | .not _=> .ob (a1 _ _) λ_ _=> .so
 | .bool _ _=>ub a1
 | .ite _ _ _=> .ob (a1 _ _) λ_ _=>a1 _ _
 | .cmp _ _ _=>Kn h λ_ _=> .so
 | .eo=> .ob (iI h _ _) λ_ _=> .pt
theorem WP(h:dI bM){e:Expr}:∀{k:Option Expr},Mo H (ru G c bM e H k)
 |none=> .ob (h _ _) λ_ _=> .pt
 |some _=> .ow (.ob (h _ _) λ_ _=> .od λ_=> .ow .so)
theorem WQ(M:MonoAt G n)(c:Cx)(J:am):dI (aN G (n+1) c J):=λe H=>by
 have E:=M.e c J
 cases e
 case Constant=>exact .pt
 case Name=>exact .cond .pt (.ow .pt)
 case Tuple=>exact .ob (jO E) λ_ _=> .ow .so
 case List=>exact .ob (jO E) λ_ _=> .ow .so
 case Dict=>exact .ob (Kl E) λ_ _=>WF
 case UnaryOp=>exact WD E
 case BinOp=>exact .ob (iI E _ _) λ_ _=> .ob (iI E _ _) λ_ _=> .pt
 case BoolOp=>exact CA E
 case Compare=>exact Kn E λ_ _=> .so
 case IfExp=>exact .ob (M.t _ _ _ _) λ_ _=>E _ _
 case ListComp=>exact .od λ_=> .ow (.ob (M.i _ _ _ _) λ_ _=> .ob (wO (λ_ _=>ub (M.t _ _)) λ_ _=>M.e _ _ _ _) λ_ _=> .ow .so)
 case Subscript=>exact WN E (M.o _ _)
 case Attribute=>exact .ow (.ob (E _ _) λ_ _=> .pt)
 case Call=>exact WL E (M.c)
 all_goals exact .no
theorem WR(h:dI bM){dQ:am->T->Option (Fl×am×T)}(aJ:∀J H,dm H (dQ J H)){x m:Str}{a:Expr}{l:Bool}{aU:List V}:dm H (Cs c J bM dQ x m a l aU H):=
 jf (Wz (jN (h _ _) λ_ _=>jf (aJ _ _)) (jf (jN (iI h _ _) λ_ _=>mr λ_=>jf (aJ _ _))))
theorem WT(h:dI bM){dQ:am->T->Option (Fl×am×T)}(aJ:∀J H,dm H (dQ J H)){e:Expr}:∀{k:Ak},dm H (Ct c J bM dQ e H k)
 | .nm _=>jf (jN (h _ _) λ_ _=>jf (aJ _ _))
 | .sub _ _=>jN (h _ _) λ_ _=>mr λ_=>jf (jN (h _ _) λ_ _=>jf (mr λ_=>aJ _ _))
 | .att _ _=>jN (h _ _) λ_ O=>mr λ_=>mr λ_=>jf (WA (.dec O (dW (List.length_set ..).symm)) (aJ _ _))
 | .bad=>ua
theorem WU(h:dI bM){dQ:am->T->Option (Fl×am×T)}(aJ:∀J H,dm H (dQ J H)){x m:Str}{a e:Expr}{l:Bool}:∀{q:Option (List V)},dm H (wE c J bM dQ x m a e l H q)
 |some _=>WR h aJ
 |none=>jN (h _ _) λ_ _=>aJ _ _
theorem WV{dQ:am->T->Option (Fl×am×T)}(aJ:∀J H,dm H (dQ J H)){x y:Str}:∀f bb O,dm O (J1 J dQ x y f bb O)
 | .next,_,_=>mr λ_=>aJ _ _
 | .ret _,_,_=>ua
theorem WW(h:dI bM){dQ:am->T->Option (Fl×am×T)}(aJ:∀J H,dm H (dQ J H)){kx:Fn->am->T->Option (Fl×am×T)}(eJ:∀f J H,dm H (kx f J H)){f x:Str}{e:Expr}:∀{q:Option V},dm H (wF c J bM dQ G kx f x e H q)
 |some _=>jf (mr λ_=>mr λ_=>jf (Kk (eJ _ _ _) (WV aJ)))
 |none=>jN (h _ _) λ_ _=>aJ _ _
theorem WX(h:dI bM){dQ:am->T->Option (Fl×am×T)}(aJ:∀J H,dm H (dQ J H)){kx:Fn->am->T->Option (Fl×am×T)}(eJ:∀f J H,dm H (kx f J H)){e:Expr}:∀{q:Xk},dm H (Cu G c J bM dQ kx e H q)
 | .i3 _ _ _ _=>WU h aJ
 | .fn _ _=>WW h aJ eJ
 | .eo=>jf (jN (h _ _) λ_ _=>aJ _ _)
theorem WY(M:∀m,m<=n->MonoAt G m)(c:Cx)(J:am)(cB:List Stmt)(H:T):dm H (bv G (n+1) c J cB H):=by
 have M:=M n (cq _)
 have E:=M.e c J
 cases cB with
 |nil=>exact wM
 |cons s bu=>
  have S:∀J H,dm H (bv G n c J bu H):=λJ H=>M.s _ _ _ _
  cases s
  case Expr=>exact WX E S λ_ _ _=>M.s _ _ _ _
  case Assign=>exact WT E S
  case If=>exact jN (M.t _ _ _ _) λ_ _=>Cz (M.s _ _ _ _) S
  case For=>exact jf (jN (M.i _ _ _ _) λ_ _=>Cz (wP λ_ _ _=>mr λ_=>M.s _ _ _ _) S)
  case Return=>exact jN (Km (iI E)) λ_ _=>wM
  all_goals exact ua
theorem gT(G:Gl):∀n,∀m,m<=n->MonoAt G m
 |0,0,_=>⟨λ_ _ _ _=> .no,λ_ _ _ _=> .no,λ_ _ _ _=> .no,λ_ _ _ _=> .no,λ_ _ _=> .no,λ_ _ _ _=>ua⟩
 |n+1,m,av=>by
  have bg:=gT G n
  rcases oP m (n+1) with q|q
  .exact bg m (Nat.le_of_lt_succ q)
  .obtain rfl:=tu av q
   have K:=bg n (cq _)
   exact⟨WQ K,λ_ _ _ _=>WO (K.e _ _) (K.t _ _),λ_ _ _ _=>Km (K.e _ _),λ_ _ _ _=>WP (K.e _ _),λ_ _ _=> .ow (.od λ_=> .oc (K.s _ _ _ _) λ_ _ _=> .so),WY bg⟩
end
end Mine
end
noncomputable section
open PySem PySem.W PyProof.Rows PySem.PyData
namespace Mine
noncomputable def Kp:PyData->Bool
 | .int _=>true
 | .str s=>PyData.strOk s
 |_=>false
noncomputable def WZ:PyData->Option (List PyData)
 | .tuple l=>some l
 |_=>none
def fG:Nat->PyData->Bool
 |0,x=>Kp x
 |d+1,x=>nE (Kp x) (fG d) (WZ x)
inductive KD (d:Nat):PyData->Prop
 |int (i:Int):KD d (.int i)
 |str (s:Str) (h:PyData.strOk s=true):KD d (.str s)
 |tup (n:Nat) (l:List PyData) (e:d=n+1) (h:∀x∈l,fG n x=true):KD d (.tuple l)
theorem ky{d:Nat}{x:PyData}(h:fG d x=true):KD d x:=by
 rcases d with _|d
 .rcases x
  case int=>exact .int _
  case str=>exact .str _ h
  all_goals exact nomatch h
 .rcases x
  case int=>exact .int _
  case str=>exact .str _ h
  case tuple l=>exact .tup d l rfl (List.all_eq_true.mp h)
  all_goals exact nomatch h
theorem wQ{P:PyData->Prop}(hi:∀i,P (.int i))(aJ:∀s,PyData.strOk s=true->P (.str s))(a1:∀l,(∀x∈l,P x)->P (.tuple l)):∀(d:Nat){x:PyData},fG d x=true->P x:=by
 intro d
 induction d with
 |zero=>
  intro x h
  rcases ky h with i|⟨s,k⟩|⟨n,l,e,k⟩
  .exact hi i
  .exact aJ s k
  .exact nomatch e
 |succ d bg=>
  intro x h
  rcases ky h with i|⟨s,k⟩|⟨n,l,e,k⟩
  .exact hi i
  .exact aJ s k
  .injection e with e
   exact a1 l λx m=>bg (e▸k x m)
theorem Kq:∀{l:List PyData},(∀x∈l,x.canLay0=true)->canLayAll0 l=true
 |[],_=>rfl
 |x::r,h=>(c6 _ _).mpr ⟨h x (.head _),Kq λy m=>h y (.tail _ m)⟩
theorem Kr{d:Nat}{x:PyData}:fG d x=true->x.canLay0=true:=wQ (λ_=>rfl) (λ_ h=>h) (λ_ h=>Kq h) d
theorem wR{n:Nat}:∀{l:List PyData},(∀x∈l,x.depth<=n)->depthAll l<=n
 |[],_=>iB _
 |x::r,h=>Nat.max_le.mpr ⟨h x (.head _),wR λy m=>h y (.tail _ m)⟩
theorem W0:∀{d:Nat}{x:PyData},fG d x=true->x.depth<=d:=by
 intro d
 induction d with
 |zero=>
  intro x h
  rcases ky h with i|⟨s,k⟩|⟨n,l,e,k⟩
  .exact cq _
  .exact cq _
  .exact nomatch e
 |succ d bg=>
  intro x h
  rcases ky h with i|⟨s,k⟩|⟨n,l,e,k⟩
  .exact iB _
  .exact iB _
  .injection e with e
   exact gr (wR λy m=>bg (e▸k y m))
open Classical in
theorem Ks{P:PyData->Prop}:∀{x y:List PyData},(∀a∈x,∀b,P b->a.eqv b=decide (a=b))->(∀z∈y,P z)->eqvAll x y=decide (x=y)
 |[],[],_,_=>(decide_eq_true rfl).symm
 |[],_::_,_,_=>(decide_eq_false nofun).symm
 |_::_,[],_,_=>(decide_eq_false nofun).symm
 |x::r,y::t,h,k=>by
  show (x.eqv y&&eqvAll r t)=_
  rw[h x (.head _) y (k y (.head _)),Ks (λz m=>h z (.tail _ m)) (λz m=>k z (.tail _ m)),<-Bool.decide_and]
  exact decide_eq_decide.mpr ⟨λh=>by rw [h.1,h.2],λh=>by injection h with a b;exact⟨a,b⟩⟩
open Classical in
theorem CB{α:Type}{f:α->PyData}(inj:∀a b,f a=f b->a=b)(a b:α)[Decidable (a=b)]:decide (a=b)=decide (f a=f b):=decide_eq_decide.mpr ⟨λh=>h▸rfl,inj a b⟩
open Classical in
theorem W1{d e:Nat}(x y:PyData)(hx:fG d x=true):fG e y=true->x.eqv y=decide (x=y):=by
 suffices h:∀e y,fG e y=true->x.eqv y=decide (x=y) from h e y
 refine wQ (P:=λx=>∀e y,fG e y=true->x.eqv y=decide (x=y)) (λi e y h=>?_) (λs _ e y h=>?_) (λl bg e y h=>?_) d hx
 .rcases ky h with j|⟨_,_⟩|⟨_,_,_,_⟩
  .exact(v0 i j).trans (CB (λ_ _ h=>PyData.int.inj h) i j)
  .exact(decide_eq_false nofun).symm
  .exact(decide_eq_false nofun).symm
 .rcases ky h with _|⟨t,_⟩|⟨_,_,_,_⟩
  .exact(decide_eq_false nofun).symm
  .exact(v0 s t).trans (CB (λ_ _ h=>PyData.str.inj h) s t)
  .exact(decide_eq_false nofun).symm
 .rcases ky h with _|⟨_,_⟩|⟨n,m,_,k⟩
  .exact(decide_eq_false nofun).symm
  .exact(decide_eq_false nofun).symm
  .exact(Ks (P:=λz=>fG n z=true) (λa aw b ao=>bg a aw n b ao) k).trans (CB (λ_ _ h=>PyData.tuple.inj h) l m)
mutual
noncomputable def CC (w:World):PyData->Int
 | .int i=>hashInt i
 | .str s=>hashStr w s
 | .tuple l=>reduceHash (Builtin.Tuple.tupleHashOf (CD w l))
 |_=>0
noncomputable def CD (w:World):List PyData->List Int
 |[]=>[]
 |x::r=>CC w x::CD w r
end
mutual
noncomputable def wS:PyData->Nat
 | .tuple l=>uc l+1
 |_=>1
noncomputable def uc:List PyData->Nat
 |[]=>0
 |x::r=>wS x+uc r
end
theorem Rd.gO{g:bA}{v:Value}{l:List PyData}(h:Rd g v (.tuple l)):RdT g v l:=h.dat
section
variable {prog:Program}{w:World}{E:cI}
def PH(prog:Program)(w:World)(E:cI)(d:Nat)(k:PyData):Prop:=∀(v:Value)(A:Around)(s:Shared)(Q:Int->Shared->Prop),Rd s.heap.get? v k->A.units+d<cLine->
  Q (CC w k) {s with toks:=s.toks+wS k}->wpAny (model prog w) A (pyHash v) Q E s
theorem Kt{d:Nat}:∀(a4:List PyData)(vs:List Value)(A:Around)(s:Shared)(b:Array Int)(Q:Array Int->Shared->Prop),(∀x∈a4,PH prog w E d x)->RdL s.heap.get? vs a4->A.units+d<cLine->
  (∀hC,hC.toList=b.toList++CD w a4->Q hC {s with toks:=s.toks+uc a4})->
  wpAny (model prog w) A (forIn vs b λx r=>do let h <-pyHash x;pure PUnit.unit;pure (ForInStep.yield (r.push h))) Q E s
 |[],_,A,s,b,Q,_,x,_,h=>by rw [x.dat];exact wpAny_pure (h b (eh _).symm)
 |k::a4,_,A,s,b,Q,aj,x,bG,h=>by
  obtain⟨v,vs,e,pi,kz⟩:=x.dat
  rw[e,oN]
  refine wpAny_bind (wpAny_bind (aj k (.head _) _ A s _ pi bG ?_))
  refine wpAny_bind (wpAny_pure (wpAny_pure ?_))
  exact Kt a4 _ A _ _ Q (λy m=>aj y (.tail _ m)) kz bG λhC ao=>by
   rw[oM,iA] at ao
   have:=h hC ao
   rwa [show uc (k::a4)=wS k+uc a4 from rfl,<-jE] at this
theorem W2{d:Nat}{a4:List PyData}(aj:∀x∈a4,PH prog w E d x):PH prog w E (d+1) (.tuple a4):=by
 intro v A s Q x bG h
 obtain⟨a,o,vs,n,e,bx,ap,aQ,aq⟩:=x.gO
 rw[e]
 refine pyHash_slot (T:="tuple") ⟨_,bx,ap⟩ F.slot_tuple_hash F.entry_tuple_hash (F.args_tuple_hash_1 _) (beq_builtin_none _) (.inr (hZ (eZ _ _) bG)) ?_
 show wpAny _ _ (Builtin.Tuple.tupleItemsOf (.ref a)>>=_) _ _ s
 refine wpAny_bind (wpAny_tupleItemsOf bx aQ ?_)
 refine wpAny_bind ?_
 rw[<-Array.forIn_toList]
 refine Kt a4 vs.toList A.in1 s #[] _ aj aq (by simp only [Around.in1_units];lia) λb ao=>?_
 show wpAny _ _ (retInt (Builtin.Tuple.tupleHashOf b.toList)) _ _ _
 rw[ao]
 exact wpAny_bind (wpAny_mkInt (wpAny_pure ⟨_,_,rfl,h⟩))
theorem W3:∀(d:Nat)(k:PyData),fG d k=true->PH prog w E d k:=by
 intro d
 induction d with
 |zero=>
  intro k h v A s Q x bG q
  rcases ky h with i|⟨y,k⟩|⟨n,l,e,k⟩
  .obtain⟨t,e⟩:=x.dat;rw[e];exact wpAny_pyHash_int q
  .obtain⟨t,e⟩:=x.dat;rw[e];exact wpAny_pyHash_str q
  .exact nomatch e
 |succ d bg=>
  intro k h
  rcases ky h with i|⟨y,k⟩|⟨n,l,e,k⟩
  .intro v A s Q x bG q;obtain⟨t,e⟩:=x.dat;rw[e];exact wpAny_pyHash_int q
  .intro v A s Q x bG q;obtain⟨t,e⟩:=x.dat;rw[e];exact wpAny_pyHash_str q
  .injection e with e
   exact W2 λx m=>bg x (e▸k x m)
end
theorem Ku{vs:Array Value}{n:Nat}:(listOf vs n).cls≠ .type "tuple":=by simp
theorem Rd.uniq{g:bA}{d:PyData}{v:Value}(h:Rd g v d):∀{e:PyData},Rd g v e->d=e:=
 Rd.rec (motive_1:=λv d _=>∀{e},Rd g v e->d=e) (motive_2:=λvs l _=>∀{m},RdL g vs m->l=m) (λk=>k.val.symm) (λ_ _ k=>k.val.symm) (λ_ _ _ k=>k.val.symm) (λ_ _ _ k=>k.val.symm)
  (λ{a o vs n l} aw ap aQ aq bg {e} k=>by
   rcases k.val with ⟨m,q,b,b9,kA,db,bq,h',aP,mv,d7⟩|⟨m,q,b,kA,db,bq,h',d7⟩
   .injection bq with bq
    rw[<-bq,aw] at h'
    rw[<-Option.some.inj h',aQ] at mv
    injection mv with d1 d2
    rw[q,bg (d1▸d7)]
   .injection bq with bq
    rw[<-bq,aw] at h'
    rw[Option.some.inj h'] at ap
    exact absurd ap Ku)
  (λ{a vs n l} aw aq bg {e} k=>by
   rcases k.val with ⟨m,q,b,b9,kA,db,bq,h',aP,mv,d7⟩|⟨m,q,b,kA,db,bq,h',d7⟩
   .injection bq with bq
    rw[<-bq,aw] at h'
    rw[<-Option.some.inj h'] at aP
    exact absurd aP Ku
   .injection bq with bq
    rw[<-bq,aw] at h'
    have mv:=congrArg Obj.data (Option.some.inj h')
    injection mv with d1 d2
    rw[q,bg (d1▸d7)]) (λk=>k.val.symm) (by
   intro _ _ _ _ _ _ W4 W5 m k
   obtain⟨d,n,e,a,r⟩:=k.val
   rw[e,W4 a,W5 r]) h
section
variable {prog:Program}{w:World}{A:Around}{E:cI}{s:Shared}
def wT(prog:Program)(w:World)(A:Around)(E:cI)(d:Nat)(k:PyData):Prop:=∀(n:Nat)(v:Value)(s:Shared)(Q:Bool->Shared->Prop),d<=n->Rd s.heap.get? v k->Q true s->wpAny (model prog w) A (eqIsQuiet n v) Q E s
theorem Kv{d n:Nat}(aX:d<=n):∀(ks:List PyData)(vs:List Value)(s:Shared)(Q:Option Bool×Unit->Shared->Prop)(f:Value->Option Bool×Unit->Sem (ForInStep (Option Bool×Unit))),
  (∀y r,f y r=(do if !(<-eqIsQuiet n y) then pure (.done (some false,())) else pure (.yield (Option.none,()))))->
  (∀x∈ks,wT prog w A E d x)->RdL s.heap.get? vs ks->Q (Option.none,()) s->wpAny (model prog w) A (forIn vs (Option.none,()) f) Q E s
 |[],_,s,Q,f,_,_,x,h=>by rw [x.dat];exact wpAny_pure h
 |k::ks,_,s,Q,f,a6,aj,x,h=>by
  obtain⟨v,vs,e,pi,kz⟩:=x.dat
  rw[e,oN,a6]
  exact wpAny_bind (wpAny_bind (aj k (.head _) n _ s _ aX pi (wpAny_pure (Kv aX ks _ s Q f a6 (λy m=>aj y (.tail _ m)) kz h))))
theorem W6{d:Nat}{a4:List PyData}(aj:∀x∈a4,wT prog w A E d x):wT prog w A E (d+1) (.tuple a4):=by
 intro n v s Q aX x h
 rcases n with _|n
 .exact absurd aX (zH _)
 obtain⟨a,o,vs,m,e,bx,ap,aQ,aq⟩:=x.gO
 rw[e]
 have lq:s.TypeIs (.ref a) "tuple":=⟨_,bx,ap⟩
 unfold eqIsQuiet
 refine wpAny_bind (wpAny_specialOf lq F.slot_tuple_eq.lookup ?_)
 show wpAny _ _ (isInstance (.ref a) (.type "tuple")>>=_) _ _ s
 refine wpAny_bind (wpAny_isInstance lq isSubtype_tuple_tuple ?_)
 show wpAny _ _ (seqItems? (.ref a)>>=_) _ _ s
 refine wpAny_bind (wpAny_seqItems bx aQ ?_)
 refine wpAny_bind ?_
 show wpAny _ _ (forIn vs _ _) _ _ s
 rw[<-Array.forIn_toList]
 exact Kv (zC aX) a4 vs.toList s _ _ (λ_ _=>rfl) aj aq (wpAny_pure h)
theorem W7:∀(d:Nat)(k:PyData),fG d k=true->wT prog w A E d k:=by
 intro d
 induction d with
 |zero=>
  intro k h n v s Q _ x q
  rcases ky h with i|⟨y,k⟩|⟨n,l,e,k⟩
  .obtain⟨t,e⟩:=x.dat;rw[e,eqIsQuiet_byValue _ rfl];exact wpAny_pure q
  .obtain⟨t,e⟩:=x.dat;rw[e,eqIsQuiet_byValue _ rfl];exact wpAny_pure q
  .exact nomatch e
 |succ d bg=>
  intro k h
  rcases ky h with i|⟨y,k⟩|⟨n,l,e,k⟩
  .intro n v s Q _ x q;obtain⟨t,e⟩:=x.dat;rw[e,eqIsQuiet_byValue _ rfl];exact wpAny_pure q
  .intro n v s Q _ x q;obtain⟨t,e⟩:=x.dat;rw[e,eqIsQuiet_byValue _ rfl];exact wpAny_pure q
  .injection e with e
   exact W6 λx m=>bg x (e▸k x m)
end
theorem Kw{h h':Heap}:∀{k:List PyData}{v:List Value},(∀x∈k,∀v,Rd h.get? v x->Rd h'.get? v x)->RdL h.get? v k->RdL h'.get? v k
 |[],_,_,x=>by rw [x.dat];exact .nil
 |_::_,_,aj,x=>by
  obtain⟨v,vs,e,a,r⟩:=x.dat
  rw[e]
  exact .cons (aj _ (.head _) _ a) (Kw (λy m=>aj y (.tail _ m)) r)
theorem W8{h h':Heap}{d:Addr}{o:Obj}{es:Array DictEntry}{ca:Nat}(aG:h.get? d=some o)(aQ:o.data= .dict es ca)(aJ:Heap.SameBut d h h')(n:Nat){k:PyData}(aj:fG n k=true):∀v:Value,Rd h.get? v k->Rd h'.get? v k:=
 wQ (P:=λk=>∀v:Value,Rd h.get? v k->Rd h'.get? v k) (λi v x=>by obtain ⟨t,e⟩:=x.dat;rw[e];exact .int i t) (λi _ v x=>by obtain ⟨t,e⟩:=x.dat;rw[e];exact .str i t) (λl bg v x=>by
  obtain⟨a,an7,vs,m,e,bx,ap,aO,aq⟩:=x.gO
  rw[e]
  refine .tup ((aJ.2 a λe=>?_).trans bx) ap aO (Kw bg aq)
  rw[e,aG] at bx
  rw[Option.some.inj bx,aO] at aQ
  exact nomatch aQ) n aj
open Classical in
def kB (prog:Program) (w:World):HeapKind prog w PyData where
 is:=λh k a=>Rd h.get? (.ref a) k/\fG 6 k=true
 hash:=CC w
 draws:=wS
 room:=λA=>A.units+8<cLine
 inj:=λhx aY=>hx.1.uniq aY.1
 keeps:=λ{h h' k a d o es ca} x aG aQ aJ=>⟨W8 aG aQ aJ 6 x.2 _ x.1,x.2⟩
 pyHash:=λ{A E s k a Q} bG aj h=>W3 6 k aj.2 _ A s Q aj.1 (by lia) h
 eqBool:=λ{A E s x y a b Q} bG hx aY h=>by
  obtain⟨as,pj⟩:=hx.1.reads (h:=s.heap) λ_ _ e=>e
  obtain⟨bs,W9⟩:=aY.1.reads (h:=s.heap) λ_ _ e=>e
  refine SeqAt.eqBoolOverData _ _ _ _ _ _ _ _ _ _ _ _ pj W9 (Kr hx.2) (Kr aY.2) ?_ (by rw [W1 x y hx.2 aY.2];exact h)
  have:=W0 hx.2
  lia
 quiet:=λ{A E s k a Q} aj h=>W7 6 k aj.2 8 _ s Q (by decide) aj.1 h
end Mine
end
noncomputable section
open PySem PySem.W PyProof.Rows
namespace Mine
noncomputable def hE:V->Bool
 | .list _=>true
 | .dict _=>true
 |_=>false
structure Ta where
 tab:Addr
 cU:Addr
 rows:Addr
 idx:Addr
 decls:Addr
 du:Addr
 dfl:Addr
 ew:Addr
 host:Addr
 hu:Addr
 hh:Bool
 gN:Addr
 qM:Addr
 fg:Addr
 h0:Heap
structure Gh where
 ta:Ta
 im:bA
 dd:List (Addr×Addr)
noncomputable def Gh.bW(g:Gh):List Addr:=[g.ta.rows,g.ta.idx,g.ta.decls,g.ta.du,g.ta.dfl,g.ta.ew]++g.dd.map (·.2)
section
variable (prog:Program)(w:World)
inductive ObjDict {K:Type} [DecidableEq K] (knd:KeyKind prog w K) (o:Obj) (aW:List (K×Value)):Prop
 |mk (es:Array DictEntry) (ca:Nat) (aa:o.ExactDict) (ah:o.data= .dict es ca) (aC:KeysOf knd es) (bC:Pairs knd es.toList aW) (ee:(aW.map (·.1)).Nodup)
inductive Kvs {K:Type} (c7:K->PyData) (H:T) (im:bA):List (V×V)->List (K×Value)->Prop
 |nil:Kvs c7 H im [] []
 |cons {k x:V} {i:K} {v:Value} {d:PyData} {l:List (V×V)} {aW:List (K×Value)}:bI H k=some (c7 i)->bI H x=some d->Rd im v d->Kvs c7 H im l aW->Kvs c7 H im ((k,x)::l) ((i,v)::aW)
inductive DictO (H:T) (im:bA) (o:Obj) (l:List (V×V)):Prop
 |int (aW:List (Int×Value)) (aa:ObjDict prog w (intKind prog w) o aW) (ah:Kvs .int H im l aW)
 |str (aW:List (Str×Value)) (aa:ObjDict prog w (strKind prog w) o aW) (ah:Kvs .str H im l aW)
inductive VDec (g:Gh) (v:Value) (k:Nat):Prop
 |mk (p:Addr×Addr) (aa:1<=k) (ah:g.dd[k - 1]? =some p) (e:v= .ref p.1)
inductive VDic (H:T) (im look:bA) (v:Value) (l:List (V×V)):Prop
 |mk (a:Addr) (o:Obj) (e:v= .ref a) (h:look a=some o) (m:(a==sysModules)=false) (D:DictO prog w H im o l)
inductive VLis (H:T) (im look:bA) (v:Value) (l:List V):Prop
 |mk (a:Addr) (vs:Array Value) (n:Nat) (ds:List PyData) (e:v= .ref a) (h:look a=some (listOf vs n)) (r:RdL im vs.toList ds) (c:bX H l=some ds)
inductive VDat (H:T) (im:bA) (v:Value) (u:V):Prop
 |mk (d:PyData) (c:bI H u=some d) (r:Rd im v d)
def Val(H:T)(g:Gh)(look:bA)(v:Value):V->Prop
 | .tab=>v= .ref g.ta.tab
 | .host=>v= .ref g.ta.host/\g.ta.hh=true
 | .decl k=>VDec g v k
 | .dict l=>VDic prog w H g.im look v l
 | .list l=>VLis H g.im look v l
 |x=>VDat H g.im v x
inductive Vals (H:T) (g:Gh):List Value->List V->Prop
 |nil:Vals H g [] []
 |cons {v:Value} {x:V} {vs:List Value} {a4:List V}:Val prog w H g g.im v x->Vals H g vs a4->Vals H g (v::vs) (x::a4)
inductive TkTab (g:Gh):Prop
 |mk (es:List DictEntry) (n:Nat) (h:g.im g.ta.cU=some (dictOf es n)) (rows:getL h6 es=some (some (.ref g.ta.rows))) (idx:getL jc es=some (some (.ref g.ta.idx))) (decls:getL kt es=some (some (.ref g.ta.decls)))
  (du:getL ku es=some (some (.ref g.ta.du))) (dfl:getL "defaults" es=some (some (.ref g.ta.dfl))) (ew:getL "names" es=some (some (.ref g.ta.ew))) (put:getL h7 es=some none)
inductive TkHost (g:Gh):Prop
 |mk (es:List DictEntry) (n:Nat) (h:g.im g.ta.hu=some (dictOf es n)) (tab:getL cF es=some (some (.ref g.ta.tab))) (no:∀m:Str,m="force"\/m="bound"\/m="shape"\/m="list_prop"->getL m es=some none)
inductive TkRows (H:T) (g:Gh) (h:Heap):Prop
 |mk (vs:Array Value) (n:Nat) (ds:List PyData) (e:h.get? g.ta.rows=some (listOf vs n)) (r:RdL g.im vs.toList ds) (c:bX H (H.base++H.dyn)=some ds)
open Classical in
inductive TkIdx (H:T) (g:Gh) (h:Heap):Prop
 |mk (o:Obj) (es:Array DictEntry) (ca:Nat) (a4:List (PyData×Addr×Value)) (e:h.get? g.ta.idx=some o) (x:o.ExactDict) (d:o.data= .dict es ca) (l:es.toList=a4.map (entryOfKey (kB prog w))) (nd:(a4.map (·.1)).Nodup)
  (r:∀x∈a4,Rd g.im (.ref x.2.1) x.1/\fG 6 x.1=true) (c:bX H (H.base++H.dyn)=some (a4.map (·.1))) (i:∀(i:Nat)(x:PyData×Addr×Value),a4[i]? =some x->∃t,x.2.2= .int i t)
inductive TkDecls (H:T) (g:Gh) (h:Heap):Prop
 |mk (vs:Array Value) (n:Nat) (e:h.get? g.ta.decls=some (listOf vs n)) (l:vs.toList= .none::g.dd.map (.ref ·.1)) (n:H.decls.length=g.dd.length+1)
inductive TkDecl (H:T) (g:Gh) (h:Heap) (k:Nat) (p:Addr×Addr):Prop
 |mk (a:g.im p.1=some (instObj g.ta.fg p.2)) (es:List DictEntry) (n:Nat) (e:h.get? p.2=some (dictOf es n)) (l:es.length<=100) (v:Value) (b:getL lc es=some (some v)) (r:Rd g.im v (.tuple []))
  (i:Int) (t:Tok) (x:V) (y:getL fT es=some (some (.int i t))) (a5:H.decls[k+1]? =some x) (c:bI H x=some (.int i))
inductive TkBnds (H:T) (g:Gh) (h:Heap):Prop
 |mk (vs:Array Value) (n:Nat) (e:h.get? g.ta.du=some (listOf vs n)) (l:vs.toList.length=H.bounds.length) (i:∀(i:Nat)(z:Int),H.bounds[i]? =some z->∃t,vs.toList[i]? =some (Value.int z t))
inductive TkLst (H:T) (h:Heap) (a:Addr):Prop
 |mk (vs:Array Value) (n:Nat) (e:h.get? a=some (listOf vs n)) (l:vs.size<=H.bounds.length)
open Classical in
structure TOK (H:T) (g:Gh) (h:Heap):Prop where
 tab:g.im g.ta.tab=some (instObj g.ta.gN g.ta.cU)
 cU:TkTab g
 host:g.ta.hh=true->g.im g.ta.host=some (instObj g.ta.qM g.ta.hu)
 hu:g.ta.hh=true->TkHost g
 rows:TkRows H g h
 idx:TkIdx prog w H g h
 k2:(g.ta.idx==sysModules)=false
 decls:TkDecls H g h
 decl:∀(k:Nat)(p:Addr×Addr),g.dd[k]? =some p->TkDecl H g h k p
 du:TkBnds H g h
 dfl:TkLst H h g.ta.dfl
 ew:TkLst H h g.ta.ew
 nd:g.bW.Nodup
 out:∀a∈g.bW,g.im a=none
structure Cfg (H:T) (g:Gh) (h:Heap):Prop where
 bn:∀a o,g.im a=some o->h.get? a=some o
 base:∀a o,g.ta.h0.get? a=some o->g.im a=some o
 ok:H.Ok
 tok:TOK prog w H g h
 line:H.decls.length<=64+H.cnt/\H.bounds.length<=64+H.cnt
 mods:∃o,g.ta.h0.get? sysModules=some o
end
inductive DdTo (g au:Gh) (h:Heap):Prop
 |mk (m:List (Addr×Addr)) (e:au.dd=g.dd++m) (n:∀p∈m,h.get? p.2=none)
structure Ext (g:Gh) (h:Heap) (au:Gh) (h':Heap):Prop where
 ta:au.ta=g.ta
 im:∀a o,g.im a=some o->au.im a=some o
 new:∀a o,h.get? a=some o->au.im a=g.im a
 old:∀a o,h.get? a=some o->a∉g.bW->h'.get? a=some o
 dd:DdTo g au h
 live:∀a o,h.get? a=some o->∃b9,h'.get? a=some b9
theorem DdTo.mem{g au:Gh}{h:Heap}(d:DdTo g au h)(e:au.ta=g.ta){a:Addr}{o:Obj}(aw:h.get? a=some o):a∈au.bW↔a∈g.bW:=by
 obtain⟨m,av,aS⟩:=d
 unfold Gh.bW
 rw[e,av,nj,<-iA,zP]
 refine⟨λq=>q.elim id λq=>?_,.inl⟩
 obtain⟨p,CE,e⟩:=List.mem_map.mp q
 exact aI ((aS p CE).symm.trans (e▸aw))
theorem Ext.bW{g au:Gh}{h h':Heap}(x:Ext g h au h'){a:Addr}{o:Obj}(aw:h.get? a=some o):a∈au.bW↔a∈g.bW:=x.dd.mem x.ta aw
theorem DdTo.refl(g:Gh)(h:Heap):DdTo g g h:=⟨[],(eh _).symm,nofun⟩
theorem Ext.refl(g:Gh)(h:Heap):Ext g h g h:=⟨rfl,λ_ _ e=>e,λ_ _ _=>rfl,λ_ _ e _=>e,.refl g h,λ_ o e=>⟨o,e⟩⟩
theorem gU{h h':Heap}(l:∀a o,h.get? a=some o->∃b9,h'.get? a=some b9){a:Addr}(e:h'.get? a=none):h.get? a=none:=by
 rcases q:h.get? a with _|o
 .rfl
 .obtain⟨b9,gc⟩:=l a o q
  exact aI (e.symm.trans gc)
theorem DdTo.trans{g au hF:Gh}{h h':Heap}(x:DdTo g au h)(y:DdTo au hF h')(l:∀a o,h.get? a=some o->∃b9,h'.get? a=some b9):DdTo g hF h:=by
 obtain⟨m,av,aS⟩:=x
 obtain⟨k,aj,aO⟩:=y
 exact⟨m++k,by rw [aj,av,iA],λp CE=>(List.mem_append.mp CE).elim (aS p) λq=>gU l (aO p q)⟩
theorem Ext.trans{g au hF:Gh}{h h' jP:Heap}(x:Ext g h au h')(y:Ext au h' hF jP):Ext g h hF jP:=
 ⟨y.ta.trans x.ta,λa o e=>y.im a o (x.im a o e),λa o aw=>(x.live a o aw).elim λb9 gc=>(y.new a b9 gc).trans (x.new a o aw),λa o aw aX=>y.old a o (x.old a o aw aX) (λq=>aX ((x.bW aw).mp q)),
  x.dd.trans y.dd x.live,λa o e=>(x.live a o e).elim λb9 gc=>y.live a b9 gc⟩
section
variable {prog:Program}{w:World}
theorem Kvs.mono{K:Type}{c7:K->PyData}{H O:T}{im hf:bA}(k:H.bP O)(hi:∀a o,im a=some o->hf a=some o){l:List (V×V)}{aW:List (K×Value)}(h:Kvs c7 H im l aW):Kvs c7 O hf l aW:=by
 induction h with
 |nil=>exact .nil
 |cons a b c _ bg=>exact .cons (pg k a) (pg k b) (c.mono hi) bg
theorem DictO.mono{H O:T}{im hf:bA}(k:H.bP O)(hi:∀a o,im a=some o->hf a=some o){o:Obj}{l:List (V×V)}(h:DictO prog w H im o l):DictO prog w O hf o l:=by
 rcases h with ⟨aW,a,b⟩|⟨aW,a,b⟩
 .exact .int aW a (b.mono k hi)
 .exact .str aW a (b.mono k hi)
structure Gh.le (g au:Gh):Prop where
 ta:au.ta=g.ta
 im:∀a o,g.im a=some o->au.im a=some o
 dd:∃m,au.dd=g.dd++m
theorem DdTo.le{g au:Gh}{h:Heap}(x:DdTo g au h):∃m,au.dd=g.dd++m:=by
 obtain⟨m,a,_⟩:=x
 exact⟨m,a⟩
theorem Ext.le{g au:Gh}{h h':Heap}(x:Ext g h au h'):g.le au:=⟨x.ta,x.im,x.dd.le⟩
theorem VDat.mono{H O:T}{im hf:bA}(k:H.bP O)(hi:∀a o,im a=some o->hf a=some o){v:Value}{u:V}(h:VDat H im v u):VDat O hf v u:=by
 obtain⟨d,aa,ah⟩:=h
 exact⟨d,pg k aa,ah.mono hi⟩
theorem VLis.mono{H O:T}{im hf look jQ:bA}(k:H.bP O)(hi:∀a o,im a=some o->hf a=some o){v:Value}(ag:∀a o,v= .ref a->look a=some o->jQ a=some o){l:List V}(h:VLis H im look v l):VLis O hf jQ v l:=by
 obtain⟨a,vs,n,ds,aa,ah,aC,bC⟩:=h
 exact⟨a,vs,n,ds,aa,ag _ _ aa ah,aC.mono hi,mq k bC⟩
theorem VDic.mono{H O:T}{im hf look jQ:bA}(k:H.bP O)(hi:∀a o,im a=some o->hf a=some o){v:Value}(ag:∀a o,v= .ref a->look a=some o->jQ a=some o){l:List (V×V)}(h:VDic prog w H im look v l):VDic prog w O hf jQ v l:=by
 obtain⟨a,o,aa,ah,aC,bC⟩:=h
 exact⟨a,o,aa,ag _ _ aa ah,aC,bC.mono k hi⟩
theorem VDec.mono{g au:Gh}(x:g.le au){v:Value}{k:Nat}(h:VDec g v k):VDec au v k:=by
 obtain⟨p,aa,ah,aC⟩:=h
 obtain⟨m,av⟩:=x.dd
 exact⟨p,aa,by rw [av];exact mc (List.getElem?_eq_some_iff.mp ah).1▸ah,aC⟩
theorem Val.mono{H O:T}{g au:Gh}{look jQ:bA}(k:H.bP O)(x:g.le au)(ag:∀a o,look a=some o->jQ a=some o){v:Value}{u:V}(h:Val prog w H g look v u):Val prog w O au jQ v u:=by
 rcases u
 case tab=>exact mg h (congrArg _ (congrArg _ x.ta.symm))
 case host=>exact⟨h.1.trans (congrArg _ (congrArg _ x.ta.symm)),x.ta.symm▸h.2⟩
 case decl=>exact VDec.mono x h
 case dict=>exact VDic.mono k x.im (λa o _=>ag a o) h
 case list=>exact VLis.mono k x.im (λa o _=>ag a o) h
 all_goals exact VDat.mono k x.im h
theorem Val.seen{H O:T}{g au:Gh}{look jQ:bA}(k:H.bP O)(x:∀a o,g.im a=some o->au.im a=some o){a:Addr}(ag:∀o,look a=some o->jQ a=some o){u:V}(ap:hE u=true)(h:Val prog w H g look (.ref a) u):Val prog w O au jQ (.ref a) u:=by
 have ag:∀b o,Value.ref a= .ref b->look b=some o->jQ b=some o:=λb o e=>by injection e with e;exact e▸ag o
 rcases u
 case dict=>exact VDic.mono k x ag h
 case list=>exact VLis.mono k x ag h
 all_goals exact nomatch ap
theorem Val.ext{H O:T}{g au:Gh}{h h':Heap}(k:H.bP O)(x:Ext g h au h'){v:Value}{u:V}(q:Val prog w H g g.im v u):Val prog w O au au.im v u:=q.mono k x.le x.im
theorem Vals.ext{H O:T}{g au:Gh}{h h':Heap}(k:H.bP O)(x:Ext g h au h'){v:List Value}{u:List V}(q:Vals prog w H g v u):Vals prog w O au v u:=by
 induction q with
 |nil=>exact .nil
 |cons a _ bg=>exact .cons (a.ext k x) bg
inductive ValC (prog:Program) (w:World) (H:T) (g:Gh) (vs:List Value) (x:V) (a4:List V):Prop
 |mk (v:Value) (aU:List Value) (e:vs=v::aU) (a:Val prog w H g g.im v x) (r:Vals prog w H g aU a4)
noncomputable def Kx(prog:Program)(w:World)(H:T)(g:Gh)(vs:List Value):List V->Prop
 |[]=>vs=[]
 |x::a4=>ValC prog w H g vs x a4
theorem Vals.dat{H:T}{g:Gh}{vs:List Value}{a4:List V}(q:Vals prog w H g vs a4):Kx prog w H g vs a4:=
 Vals.casesOn (motive:=λvs a4 _=>Kx prog w H g vs a4) q rfl λa r=>⟨_,_,rfl,a,r⟩
theorem an8{H:T}{u:V}{d:PyData}(h:bI H u=some d):u.flat=true:=by
 rcases u
 case dict=>exact aI h
 case tab=>exact aI h
 case host=>exact aI h
 case decl=>exact aI h
 all_goals rfl
theorem Val.g8{H:T}{g:Gh}{v:Value}{u:V}{d:PyData}(ap:bI H u=some d)(aq:Rd g.im v d):Val prog w H g g.im v u:=by
 rcases u
 case list l=>
  obtain⟨ds,aa,e⟩:=t8 ap
  rw[e] at aq
  obtain⟨a,vs,n,e,h,r⟩:=aq.dat
  exact⟨_,_,_,_,e,h,r,aa⟩
 case dict=>exact aI ap
 case tab=>exact aI ap
 case host=>exact aI ap
 case decl=>exact aI ap
 all_goals exact ⟨d,ap,aq⟩
theorem Xa{H:T}{l:List V}{ds:List PyData}(h:bX H l=some ds):bI H (.list l)=some (.list ds):=by
 show od (bX H l) _=_
 rw[h];rfl
theorem VDat.look{H:T}{im look:bA}(ag:∀a o,im a=some o->look a=some o){v:Value}{u:V}(h:VDat H im v u):∃d,bI H u=some d/\Rd look v d:=by
 obtain⟨d,aa,ah⟩:=h
 exact⟨d,aa,ah.mono ag⟩
theorem Val.flat{H:T}{g:Gh}{look:bA}{v:Value}{u:V}(ag:∀a o,g.im a=some o->look a=some o)(h:Val prog w H g look v u)(a6:u.flat=true):∃d,bI H u=some d/\Rd look v d:=by
 rcases u
 case list l=>
  obtain⟨a,vs,n,ds,e,ah,aC,bC⟩:=h
  exact⟨.list ds,Xa bC,e▸ .list ah (aC.mono ag)⟩
 case dict=>exact nomatch a6
 case tab=>exact nomatch a6
 case host=>exact nomatch a6
 case decl=>exact nomatch a6
 all_goals exact VDat.look ag h
theorem Vals.flat{H:T}{g:Gh}{vs:List Value}{aU:List V}(h:Vals prog w H g vs aU):aU.all V.flat=true->∃ds,bX H aU=some ds/\RdL g.im vs ds:=by
 induction h with
 |nil=>exact λ_=>⟨[],rfl,.nil⟩
 |cons a _ bg=>
  intro a6
  obtain⟨ds,aa,ah⟩:=bg (aK a6).2
  obtain⟨d,aC,bC⟩:=a.flat (λ_ _ e=>e) (aK a6).1
  exact⟨d::ds,h9 aC aa,.cons bC ah⟩
theorem Vals.H2{H:T}{g:Gh}:∀{aU:List V}{vs:List Value}{ds:List PyData},bX H aU=some ds->RdL g.im vs ds->Vals prog w H g vs aU
 |[],_,_,h,r=>by
  rw[<-Option.some.inj h] at r
  rw[r.dat];exact .nil
 |u::aU,_,_,h,r=>by
  obtain⟨d,m,e,aQ,av⟩:=fa h
  rw[e] at r
  obtain⟨v,vs,e,a,b⟩:=r.dat
  rw[e]
  exact .cons (.g8 aQ a) (Vals.H2 av b)
theorem Vals.length{H:T}{g:Gh}{vs:List Value}{aU:List V}(h:Vals prog w H g vs aU):vs.length=aU.length:=by
 induction h with
 |nil=>rfl
 |cons _ _ bg=>simp[bg]
inductive VSeq (H:T) (im look:bA) (v:Value) (u:V) (l:List V):Prop
 |mk (a:Addr) (o:Obj) (vs:Array Value) (n:Nat) (ds:List PyData) (e:v= .ref a) (h:look a=some o) (d:o.data= .seq vs n) (k:(u= .tup l/\o.cls= .type "tuple")\/(u= .list l/\o=listOf vs n)) (r:RdL im vs.toList ds) (c:bX H l=some ds)
theorem Val.seq{H:T}{g:Gh}{look:bA}{v:Value}{u:V}{l:List V}(h:Val prog w H g look v u)(aJ:hd u=some l)(ag:∀a o,g.im a=some o->look a=some o):VSeq H g.im look v u l:=by
 rcases u
 case tup=>
  obtain⟨d,aa,ah⟩:=h
  obtain⟨ds,aC,e⟩:=gS aa
  rw[e] at ah
  obtain⟨a,o,vs,n,e,bx,ap,aQ,aq⟩:=ah.gO
  exact gb aJ ⟨a,o,vs,n,ds,e,ag _ _ bx,aQ,.inl ⟨rfl,ap⟩,aq,aC⟩
 case list=>
  obtain⟨a,vs,n,ds,e,ah,aC,bC⟩:=h
  exact gb aJ ⟨a,_,vs,n,ds,e,ah,rfl,.inr ⟨rfl,rfl⟩,aC,bC⟩
 all_goals exact aI aJ
end
inductive Ro where
 |loc
 |cell (x:Str)
 |own (x:Str)
theorem Ky{x y:Str}(h:Ro.cell x= .cell y):x=y:=by injection h
theorem Kz{x y:Str}(h:Ro.own x= .own y):x=y:=by injection h
section
variable (prog:Program)(w:World)
inductive HOwn (H:T) (g:Gh) (h:Heap) (ai:Addr->Option Ro) (x:Str) (v:Value) (u:V):Prop
 |mk (c:hE u=true) (a:Addr) (e:v= .ref a) (f:ai a=some (.own x)) (k:Val prog w H g h.get? v u)
def Hold(H:T)(g:Gh)(h:Heap)(ai:Addr->Option Ro)(x:Str)(v:Value)(u:V)(o:Bool):Prop:=match o with
 |false=>Val prog w H g g.im v u
 |true=>HOwn prog w H g h ai x v u
inductive FrNs (H:T) (g:Gh) (h:Heap) (env:Env) (J:am) (ai:Addr->Option Ro):Prop
 |mk (m:Str->Option Value) (n:h.Ns env.locals m) (k:∀x u o,env.kindOf x=some .local->a2 J x=some (u,o)->∃v,m x=some v/\Hold prog w H g h ai x v u o)
inductive FrCl (H:T) (g:Gh) (h:Heap) (env:Env) (J:am) (ai:Addr->Option Ro) (x:Str) (a:Addr):Prop
 |mk (v:Option Value) (c:h.IsCell a v) (f:ai a=some (.cell x)) (k:∀u o,(env.kindOf x=some .cell\/env.kindOf x=some .free)->a2 J x=some (u,o)->∃z,v=some z/\Hold prog w H g h ai x z u o)
structure Sep1 (g:Gh) (h:Heap) (a:Addr):Prop where
 im:g.im a=none
 mu:a∉g.bW
 live:∃o,h.get? a=some o
structure FrR (H:T) (g:Gh) (h:Heap) (env:Env) (J:am) (ai:Addr->Option Ro):Prop where
 ns:FrNs prog w H g h env J ai
 cl:∀x a,env.cells.lookup x=some a->FrCl prog w H g h env J ai x a
 loc:ai env.locals=some .loc
 sep:∀a r,ai a=some r->Sep1 g h a
 dot:a2 J dM=none
end
structure EnvR (sc:Scope) (env:Env):Prop where
 kind:env.scope.kind= .function
 glob:env.globals=mainGlobals
 blt:env.builtins=builtinsNs
 loc:∀x,lk sc.names x=some .local->env.kindOf x=some .local
 cell:∀x,lk sc.names x=some .cell->env.kindOf x=some .cell/\∃a,env.cells.lookup x=some a
 free:∀x,lk sc.names x=some .free->(env.kindOf x=some .cell\/env.kindOf x=some .free)/\∃a,env.cells.lookup x=some a
 impl:∀x,lk sc.names x=some .globalImplicit->env.kindOf x=some .globalImplicit
 good:∀x k,lk sc.names x=some k->x≠"__debug__"/\x≠"__classdict__"
section
variable {prog:Program}{w:World}
theorem Hold.ext{H O:T}{g au:Gh}{h h':Heap}{ai:Addr->Option Ro}{x:Str}{v:Value}{u:V}{o:Bool}(k:H.bP O)(X:Ext g h au h')(aJ:∀a r,ai a=some r->Sep1 g h a)(q:Hold prog w H g h ai x v u o):Hold prog w O au h' ai x v u o:=by
 rcases o with _|_
 .exact Val.ext k X q
 .obtain⟨ap,a,e,aw,al⟩:=q
  rw[e] at al
  exact⟨ap,a,e,aw,e▸al.seen k X.im (λo e=>X.old a o e (aJ _ _ aw).mu) ap⟩
theorem FrR.same{H:T}{g au:Gh}{h h':Heap}{env:Env}{J:am}{ai:Addr->Option Ro}(F:FrR prog w H g h env J ai)(X:Ext g h au h'){a:Addr}{r:Ro}{o:Obj}(e:ai a=some r)(q:h.get? a=some o):h'.get? a=some o:=X.old a o q (F.sep a r e).mu
theorem FrR.ext{H O:T}{g au:Gh}{h h':Heap}{env:Env}{J:am}{ai:Addr->Option Ro}(F:FrR prog w H g h env J ai)(k:H.bP O)(X:Ext g h au h')(_im:∀a o,au.im a=some o->h'.get? a=some o):
  FrR prog w O au h' env J ai:=by
 refine⟨?_,λx a e=>?_,F.loc,λa r e=>?_,F.dot⟩
 .obtain⟨m,aX,al⟩:=F.ns
  refine⟨m,?_,λx u o e q=>(al x u o e q).elim λv h=>⟨v,h.1,h.2.ext k X F.sep⟩⟩
  obtain⟨ob,es,ca,aG,r⟩:=aX
  exact⟨ob,es,ca,F.same X F.loc aG,r⟩
 .obtain⟨v,⟨ob,aG,aQ⟩,ah,aC⟩:=F.cl x a e
  exact⟨v,⟨ob,F.same X ah aG,aQ⟩,ah,λu o q jg=>(aC u o q jg).elim λz h=>⟨z,h.1,h.2.ext k X F.sep⟩⟩
 .obtain⟨aa,ah,o,aC⟩:=F.sep a r e
  exact⟨(X.new a o aC).trans aa,λq=>ah ((X.bW aC).mp q),X.live a o aC⟩
end
end Mine
end
noncomputable section
open PySem PySem.W PyProof.Rows PySem.Calls
namespace Mine
variable {H:T} {O:T} {aD:T} {g:Gh} {au:Gh} {h:Heap} {h':Heap} {J:am} {bb:am} {x:Str} {y:Str} {p:Pos} {q:Pos} {pp:Pos} {c:Cx} {n:Nat} {m:Nat} {i:Nat} {k:Nat} {j:Nat} {env:Env} {ai:Addr->Option Ro} {A:Around} {E:cI} {Q:cI} {s:Shared} {sc:Scope} {u:V} {K:Frag} {a:Addr} {e:Expr} {G:Gl} {prog:Program} {w:World} {ta:Ta} {bp:Str->Option Value} {mb:Str->Option Value} {bu:List Stmt} {as:List Expr} {d:PyData}
abbrev ba:Nat:=1048576
structure Room (A:Around) (n:Nat):Prop where
 handled:A.handled=none
 depth:A.depth+n<990
 units:A.units+20*n+400<cLine
theorem Room.less(R:Room A n)(h:m<=n):Room A m:=⟨R.handled,hZ (dh h _) R.depth,hZ (jC (dh (oL 20 h) _) 400) R.units⟩
theorem FrR.amT(F:FrR prog w H g h env J ai):∃m,h.Ns env.locals m:=by
 obtain⟨m,a,_⟩:=F.ns
 exact⟨m,a⟩
section
def ToV(prog:Program)(w:World)(H:T)(g:Gh)(s:Shared)(O:T)(v:V)(Q:cI):Prop:=∀au h' aF u,Ext g s.heap au h'->H.bP O->Cfg prog w O au h'->Val prog w O au au.im u v->Q u {s with heap:=h',toks:=aF}
def CF(prog:Program)(w:World)(H:T)(g:Gh)(s:Shared)(O:T)(l:List V)(Q:List Value->Shared->Prop):Prop:=∀au h' aF vs,Ext g s.heap au h'->H.bP O->Cfg prog w O au h'->Vals prog w O au vs l->Q vs {s with heap:=h',toks:=aF}
def cx(prog:Program)(w:World)(G:Gl)(ta:Ta)(n:Nat):Prop:=
 ∀(c:Cx)(J:am)(e:Expr)(H:T)(v:V)(O:T),aN G n c J e H=some (v,O)->O.cnt<=ba->
  ∀(A:Around)(env:Env)(ai:Addr->Option Ro)(g:Gh)(s:Shared)(Q:cI)(E:cI),
   Room A n->g.ta=ta->EnvR c.sc env->Cfg prog w H g s.heap->FrR prog w H g s.heap env J ai->
   ToV prog w H g s O v Q->
   wpAny (model prog w) A (eval e env) Q E s
theorem ia(R:EnvR sc env){k:NameKind}(h:lk sc.names x=some k):(x==("__debug__":Str))=false:=beq_eq_false_iff_ne.mpr (R.good x k h).1
theorem jh{o:Bool}(R:EnvR sc env)(F:FrR prog w H g s.heap env J ai)(aj:lk sc.names x=some .local\/lk sc.names x=some .cell\/lk sc.names x=some .free)(aq:a2 J x=some (u,o))(ak:∀v,Hold prog w H g s.heap ai x v u o->Q v s):wpAny (model prog w) A (eval (.Name x p) env) Q E s:=by
 rcases aj with aj|aj|aj
 .obtain⟨m,aX,al⟩:=F.ns
  obtain⟨v,aa,ah⟩:=al x u o (R.loc x aj) aq
  exact wpAny_Name (wpAny_loadName_local R.kind (R.loc x aj) aX aa (ak v ah)) (ia R aj)
 .obtain⟨aa,a,aw⟩:=R.cell x aj
  obtain⟨v,ah,aC,bC⟩:=F.cl x a aw
  obtain⟨z,e,ee⟩:=bC u o (.inl aa) aq
  exact wpAny_Name (wpAny_loadName_cell R.kind aa aw (e▸ah) (ak z ee)) (ia R aj)
 .obtain⟨aa,a,aw⟩:=R.free x aj
  obtain⟨v,ah,aC,bC⟩:=F.cl x a aw
  obtain⟨z,e,ee⟩:=bC u o aa aq
  exact wpAny_Name (aa.elim (λaa=>wpAny_loadName_cell R.kind aa aw (e▸ah) (ak z ee)) λaa=>wpAny_loadName_free R.kind aa aw (e▸ah) (ak z ee) (beq_eq_false_iff_ne.mpr (R.good x _ aj).2)) (ia R aj)
theorem jR{v:V}(h:aN G n c J e H=some (v,O))(aL:H.Ok):H.bP O/\O.fA:=(gT G n n (cq _)).e c J e H _ _ h aL.bld
theorem mw{v:V}(h:aN G n c J e H=some (v,O))(aL:H.fA):H.bP O/\O.fA:=(gT G n n (cq _)).e c J e H _ _ h aL
theorem pk{v:V}(h:b7 c J (aN G n c J) e H=some (v,O))(aL:H.fA):H.bP O/\O.fA:=iI ((gT G n n (cq _)).e c J) _ _ _ _ h aL
theorem rx{e:List Expr}{v:List V}(h:dz (aN G n c J) e H=some (v,O))(aL:H.fA):H.bP O/\O.fA:=jO ((gT G n n (cq _)).e c J) _ _ h aL
theorem CG{e:List Expr}{v:List V}(h:dz (b7 c J (aN G n c J)) e H=some (v,O))(aL:H.fA):H.bP O/\O.fA:=jO (iI ((gT G n n (cq _)).e c J)) _ _ h aL
def Seen(prog:Program)(w:World)(H:T)(g:Gh)(h:Heap)(ai:Addr->Option Ro)(v:Value)(u:V):Prop:=∃x o,Hold prog w H g h ai x v u o
theorem Seen.of{v:Value}(q:Val prog w H g g.im v u):Seen prog w H g h ai v u:=⟨"",false,q⟩
theorem Seen.val{v:Value}(q:Seen prog w H g h ai v u)(im:∀a o,g.im a=some o->h.get? a=some o):Val prog w H g h.get? v u:=by
 obtain⟨x,o,q⟩:=q
 rcases o with _|_
 .exact Val.mono (.refl H) ⟨rfl,λ_ _ e=>e,[],(eh _).symm⟩ im q
 .obtain⟨_,_,_,_,q⟩:=q
  exact q
theorem Seen.ext{v:Value}(k:H.bP O)(X:Ext g h au h')(aJ:∀a r,ai a=some r->Sep1 g h a)(_im:∀a o,au.im a=some o->h'.get? a=some o)(q:Seen prog w H g h ai v u):Seen prog w O au h' ai v u:=by
 obtain⟨x,o,q⟩:=q
 exact⟨x,o,q.ext k X aJ⟩
def KA(prog:Program)(w:World)(H:T)(g:Gh)(s:Shared)(ai:Addr->Option Ro)(O:T)(v:V)(Q:cI):Prop:=∀au h' aF u,Ext g s.heap au h'->H.bP O->Cfg prog w O au h'->Seen prog w O au h' ai u v->Q u {s with heap:=h',toks:=aF}
theorem jS(h:ek e=some x):∃p,e= .Name x p:=by
 rcases e
 case Name=>exact gb h (P:=λx=>∃p,_=Expr.Name x p) ⟨_,rfl⟩
 all_goals exact aI h
theorem CH(h:fF c x=true):lk c.sc.names x=some .local\/lk c.sc.names x=some .cell\/lk c.sc.names x=some .free:=by
 unfold fF at h
 rcases e:lk c.sc.names x with _|k<;>rw[e] at h
 .exact nomatch h
 .rcases k
  case «local»=>exact .inl rfl
  case cell=>exact .inr (.inl rfl)
  case free=>exact .inr (.inr rfl)
  all_goals exact nomatch h
theorem ry(h:gy c x=true):lk c.sc.names x=some .globalImplicit:=by
 unfold gy at h
 rcases e:lk c.sc.names x with _|k<;>rw[e] at h
 .exact nomatch h
 .rcases k
  case globalImplicit=>rfl
  all_goals exact nomatch h
inductive ViewI (c:Cx) (J:am) (f:Expr->T->Option (V×T)) (e:Expr) (H:T) (v:V) (O:T):Prop
 |nm (x:Str) (p:Pos) (u:V) (o:Bool) (q:e= .Name x p) (k:lk c.sc.names x=some .local\/lk c.sc.names x=some .cell\/lk c.sc.names x=some .free) (r:a2 J x=some (u,o)) (h:some (u,H)=some (v,O))
 |ev (h:f e H=some (v,O))
theorem CJ{f:Expr->T->Option (V×T)}{v:V}(h:b7 c J f e H=some (v,O)):ViewI c J f e H v O:=by
 unfold b7 at h
 rcases q:(od (ek e) λx=>ow (fF c x) (some x)) with _|x<;>rw[q] at h
 .exact .ev h
 .obtain⟨y,aa,ah⟩:=bD q
  obtain⟨aC,bC⟩:=br ah
  obtain⟨p,e⟩:=jS aa
  obtain⟨⟨u,o⟩,aq,h⟩:=bD h
  rw[Option.some.inj bC] at e aC
  exact .nm x p u o e (CH aC) aq h
theorem my(S:cx prog w G ta n){v:V}(h:b7 c J (aN G n c J) e H=some (v,O))(ag:O.cnt<=ba)(R:Room A n)(T:g.ta=ta)(N:EnvR c.sc env)(C:Cfg prog w H g s.heap)(F:FrR prog w H g s.heap env J ai)(ak:KA prog w H g s ai O v Q):
  wpAny (model prog w) A (eval e env) Q E s:=by
 rcases CJ h with ⟨x,p,u,o,e,aj,aq,q⟩|h
 .refine pI q (P:=λv O=>KA prog w H g s ai O v Q->_) (λak=>?_) ak
  rw[e]
  exact jh N F aj aq λv al=>ak g s.heap s.toks v (.refl _ _) (.refl _) C ⟨x,o,al⟩
 .exact S c J e H v O h ag A env ai g s Q E R T N C F λau h' aF u a b c d=>ak au h' aF u a b c (.of d)
noncomputable def mz:Expr->Bool
 | .Starred ..=>false
 | .Slice ..=>false
 | .Set ..=>false
 | .SetComp ..=>false
 | .DictComp ..=>false
 |_=>true
theorem mA{r:V×T}(h:aN G n c J e H=some r):mz e=true:=by
 rcases n with _|n
 .exact aI h
 .rcases e
  case Starred=>exact aI h
  case Slice=>exact aI h
  case Set=>exact aI h
  case SetComp=>exact aI h
  case DictComp=>exact aI h
  all_goals rfl
theorem wU{v:V}(h:b7 c J (aN G n c J) e H=some (v,O)):mz e=true:=by
 rcases CJ h with ⟨x,p,u,o,e,aj,aq,q⟩|h
 .rw[e];rfl
 .exact mA h
theorem wV(h:mz e=true)(bu:List Expr)(env:Env):starEach (e::bu) env=(false,eval e env)::starEach bu env:=by
 rcases e
 case Starred=>exact nomatch h
 all_goals rfl
theorem nK{r:V×T}(h:aN G n c J e H=some r)(bu:List Expr)(env:Env):starEach (e::bu) env=(false,eval e env)::starEach bu env:=wV (mA h) bu env
theorem KC{v:V}(h:b7 c J (aN G n c J) e H=some (v,O))(bu:List Expr)(env:Env):starEach (e::bu) env=(false,eval e env)::starEach bu env:=wV (wU h) bu env
theorem mB(S:cx prog w G ta n){pos:Pos}(R:Room A n)(N:EnvR c.sc env):
  ∀{es:List Expr}{H:T}{l:List V}{O:T},dz (aN G n c J) es H=some (l,O)->O.cnt<=ba->∀{g:Gh}{s:Shared}{Q:List Value->Shared->Prop},g.ta=ta->Cfg prog w H g s.heap->FrR prog w H g s.heap env J ai->
  CF prog w H g s O l Q->wpAny (model prog w) A (spliced (backTo pos (starEach es env))) Q E s
 |[],H,l,O,h,_,g,s,Q,T,C,F,ak=>by
  revert ak
  exact pI h (P:=λl O=>CF prog w H g s O l Q->_) λak=>args_nil (ak g s.heap s.toks [] (.refl _ _) (.refl _) C .nil)
 |e::es,H,l,O,h,ag,g,s,Q,T,C,F,ak=>by
  obtain⟨v,aD,aa,h⟩:=b1 h
  obtain⟨vs,bS,ah,h⟩:=b1 h
  revert ag ak
  refine pI h (P:=λl O=>O.cnt<=ba->CF prog w H g s O l Q->_) λag ak=>?_
  have cC:=jR aa C.ok
  have cA:=rx ah cC.2
  refine args_cons (S c J e H v aD aa (aT cA.1.cnt ag) A env ai g s _ E R T N C F λaV aB bh u aR k₁ aZ bT=>?_) (nK aa es env)
  refine mB S R N ah ag (aR.ta.trans T) aZ (F.ext k₁ aR aZ.bn) λcD a8 b8 aU cn dn b3 dr=>?_
  exact ak cD a8 b8 _ (aR.trans cn) (k₁.trans dn) b3 (.cons (bT.ext dn cn) dr)
inductive Seens (prog:Program) (w:World) (H:T) (g:Gh) (h:Heap) (ai:Addr->Option Ro):List Value->List V->Prop
 |nil:Seens prog w H g h ai [] []
 |cons {v:Value} {x:V} {vs:List Value} {a4:List V}:Seen prog w H g h ai v x->Seens prog w H g h ai vs a4->Seens prog w H g h ai (v::vs) (x::a4)
def CK(prog:Program)(w:World)(H:T)(g:Gh)(s:Shared)(ai:Addr->Option Ro)(O:T)(l:List V)(Q:List Value->Shared->Prop):Prop:=∀au h' aF vs,Ext g s.heap au h'->H.bP O->Cfg prog w O au h'->Seens prog w O au h' ai vs l->Q vs {s with heap:=h',toks:=aF}
theorem Xb(S:cx prog w G ta n){pos:Pos}(R:Room A n)(N:EnvR c.sc env):
  ∀{es:List Expr}{H:T}{l:List V}{O:T},dz (b7 c J (aN G n c J)) es H=some (l,O)->O.cnt<=ba->∀{g:Gh}{s:Shared}{Q:List Value->Shared->Prop},g.ta=ta->Cfg prog w H g s.heap->FrR prog w H g s.heap env J ai->
  CK prog w H g s ai O l Q->wpAny (model prog w) A (spliced (backTo pos (starEach es env))) Q E s
 |[],H,l,O,h,_,g,s,Q,T,C,F,ak=>by
  revert ak
  exact pI h (P:=λl O=>CK prog w H g s ai O l Q->_) λak=>args_nil (ak g s.heap s.toks [] (.refl _ _) (.refl _) C .nil)
 |e::es,H,l,O,h,ag,g,s,Q,T,C,F,ak=>by
  obtain⟨v,aD,aa,h⟩:=b1 h
  obtain⟨vs,bS,ah,h⟩:=b1 h
  revert ag ak
  refine pI h (P:=λl O=>O.cnt<=ba->CK prog w H g s ai O l Q->_) λag ak=>?_
  have cC:=pk aa C.ok.bld
  have cA:=CG ah cC.2
  refine args_cons (my S aa (aT cA.1.cnt ag) R T N C F λaV aB bh u aR k₁ aZ bT=>?_) (KC aa es env)
  have dA:=F.ext k₁ aR aZ.bn
  refine Xb S R N ah ag (aR.ta.trans T) aZ dA λcD a8 b8 aU cn dn b3 dr=>?_
  exact ak cD a8 b8 _ (aR.trans cn) (k₁.trans dn) b3 (.cons (bT.ext dn cn dA.sep b3.bn) dr)
end
theorem ji(h:Heap):h.get? h.objs.size=none:=by
 rcases e:h.get? h.objs.size with _|o
 .rfl
 .exact absurd (gs e) (qX _)
theorem an9{o b9:Obj}(e:(h.push o).get? a=some b9):a=h.objs.size\/a<h.objs.size:=by
 have:=gs e
 rw[kl] at this
 exact(Nat.lt_or_eq_of_le (Nat.le_of_lt_succ this)).elim .inr .inl
section
theorem TOK.keep(K:TOK prog w H g h)(a1:au.ta=g.ta)(aQ:au.dd=g.dd)(fk:∀a o,g.im a=some o->au.im a=some o)(rz:∀a∈g.bW,au.im a=none)(wW:∀a∈g.bW,∀o,h.get? a=some o->h'.get? a=some o):TOK prog w H au h':=by
 have em:au.bW=g.bW:=by unfold Gh.bW;rw[a1,aQ]
 have cC:∀{a},a∈([g.ta.rows,g.ta.idx,g.ta.decls,g.ta.du,g.ta.dfl,g.ta.ew]:List Addr)->∀o,h.get? a=some o->h'.get? a=some o:=λaw o e=>wW _ (jD _ aw) o e
 rcases au with ⟨ta,im,dd⟩
 change ta=g.ta at a1;change dd=g.dd at aQ
 rw[a1,aQ] at*
 refine⟨fk _ _ K.tab,?_,λq=>fk _ _ (K.host q),?_,?_,?_,K.k2,?_,?_,?_,?_,?_,em▸K.nd,em▸rz⟩
 .obtain⟨es,n,a,hg,gV,hj,jT,mC,lr,hk⟩:=K.cU;exact⟨es,n,fk _ _ a,hg,gV,hj,jT,mC,lr,hk⟩
 .intro q;obtain⟨es,n,a,b,c⟩:=K.hu q;exact⟨es,n,fk _ _ a,b,c⟩
 .obtain⟨vs,n,ds,a,b,c⟩:=K.rows;exact⟨vs,n,ds,cC (.head _) _ a,b.mono fk,c⟩
 .obtain⟨o,es,ca,a4,a,b,c,d,e,f,i,j⟩:=K.idx;exact⟨o,es,ca,a4,cC (.tail _ (.head _)) _ a,b,c,d,e,λx hx=>⟨(f x hx).1.mono fk,(f x hx).2⟩,i,j⟩
 .obtain⟨vs,n,a,b,c⟩:=K.decls;exact⟨vs,n,cC (.tail _ (.tail _ (.head _))) _ a,b,c⟩
 .intro k p aS
  obtain⟨a,es,n,b,c,v,d,e,fH,gC,f3,jU,lu,CL⟩:=K.decl k p aS
  exact⟨fk _ _ a,es,n,wW p.2 (zF _ (tk (oK aS))) _ b,c,v,d,e.mono fk,fH,gC,f3,jU,lu,CL⟩
 .obtain⟨vs,n,a,b,c⟩:=K.du;exact⟨vs,n,cC (.tail _ (.tail _ (.tail _ (.head _)))) _ a,b,c⟩
 .obtain⟨vs,n,a,b⟩:=K.dfl;exact⟨vs,n,cC (.tail _ (.tail _ (.tail _ (.tail _ (.head _))))) _ a,b⟩
 .obtain⟨vs,n,a,b⟩:=K.ew;exact⟨vs,n,cC (.tail _ (.tail _ (.tail _ (.tail _ (.tail _ (.head _)))))) _ a,b⟩
theorem Cfg.keep(C:Cfg prog w H g h)(a1:au.ta=g.ta)(aQ:au.dd=g.dd)(fk:∀a o,g.im a=some o->au.im a=some o)(rz:∀a∈g.bW,au.im a=none)(wW:∀a∈g.bW,∀o,h.get? a=some o->h'.get? a=some o)(bn:∀a o,au.im a=some o->h'.get? a=some o):Cfg prog w H au h':=
 ⟨bn,λa o e=>fk _ _ (C.base a o (a1▸e)),C.ok,C.tok.keep a1 aQ fk rz wW,C.line,a1▸C.mods⟩
theorem Cfg.grow(C:Cfg prog w H g h)(aj:∀b o,h.get? b=some o->h'.get? b=some o):Cfg prog w H g h':=
 C.keep rfl rfl (λ_ _ e=>e) C.tok.out (λa _ o e=>aj a o e) λa o e=>aj a o (C.bn a o e)
theorem Ext.grow(g:Gh)(aj:∀b o,h.get? b=some o->h'.get? b=some o):Ext g h g h':=
 ⟨rfl,λ_ _ e=>e,λ_ _ _=>rfl,λa o e _=>aj a o e,.refl _ _,λa o e=>⟨o,aj a o e⟩⟩
noncomputable def Gh.add(g:Gh)(a:Addr)(o:Obj):Gh:={g with im:=λb=>if b=a then some o else g.im b}
theorem Gh.g9{o:Obj}{b:Addr}(h:b≠a):(g.add a o).im b=g.im b:=if_neg h
theorem Gh.hv{o:Obj}(h:g.im a=none)(b:Addr)(q:Obj)(e:g.im b=some q):(g.add a o).im b=some q:=
 (Gh.g9 λx=>aI (h.symm.trans (x▸e))).trans e
theorem Gh.jA(g:Gh)(a:Addr)(o:Obj):(g.add a o).im a=some o:=if_pos rfl
theorem Gh.oH{o:Obj}{b:Addr}{q:Obj}(e:(g.add a o).im b=some q):(b=a/\o=q)\/g.im b=some q:=by
 rcases eR (b=a) with h|h
 .exact .inl ⟨h,Option.some.inj ((if_pos h).symm.trans e)⟩
 .exact .inr ((Gh.g9 h).symm.trans e)
theorem Cfg.g7(C:Cfg prog w H g h)(aw:h.get? a=none):g.im a=none:=by
 rcases e:g.im a with _|o
 .rfl
 .exact aI (aw.symm.trans (C.bn a o e))
theorem KE{α:Type}{x a b c d e f:α}(h:x∈[a,b,c,d,e,f]):x=a\/x=b\/x=c\/x=d\/x=e\/x=f:=by simpa only [qY,kj,or_false] using h
theorem Cfg.vY(C:Cfg prog w H g h)(aw:a∈g.bW):∃o,h.get? a=some o:=by
 have K:=C.tok
 rcases List.mem_append.mp aw with aw|aw
 .rcases KE aw with e|e|e|e|e|e<;>rw[e]
  .obtain⟨vs,n,ds,a,_⟩:=K.rows;exact⟨_,a⟩
  .obtain⟨o,es,ca,a4,a,_⟩:=K.idx;exact⟨_,a⟩
  .obtain⟨vs,n,a,_⟩:=K.decls;exact⟨_,a⟩
  .obtain⟨vs,n,a,_⟩:=K.du;exact⟨_,a⟩
  .obtain⟨vs,n,a,_⟩:=K.dfl;exact⟨_,a⟩
  .obtain⟨vs,n,a,_⟩:=K.ew;exact⟨_,a⟩
 .obtain⟨p,aS,e⟩:=List.mem_map.mp aw
  obtain⟨i,hi⟩:=List.mem_iff_getElem?.mp aS
  obtain⟨_,es,n,b,_⟩:=K.decl i p hi
  exact⟨_,e▸b⟩
theorem Cfg.add(C:Cfg prog w H g h){o:Obj}(aw:h.get? a=none)(e:h'.get? a=some o)(aj:∀b o,h.get? b=some o->h'.get? b=some o):
  Ext g h (g.add a o) h'/\Cfg prog w H (g.add a o) h':=by
 have aX:=C.g7 aw
 have ne:∀b q,h.get? b=some q->b≠a:=λb q eq x=>aI (aw.symm.trans (x▸eq))
 refine⟨⟨rfl,Gh.hv aX,λb q ao=>Gh.g9 (ne b q ao),λb q e _=>aj b q e,⟨[],(eh _).symm,nofun⟩,λb q e=>⟨q,aj b q e⟩⟩,C.keep rfl rfl (Gh.hv aX) (λb ao=>?_) (λb _ q e=>aj b q e) λb q bq=>?_⟩
 .exact(C.vY ao).elim λq e=>(Gh.g9 (ne b q e)).trans (C.tok.out b ao)
 .rcases Gh.oH bq with ⟨x,y⟩|bq
  .rw[x,<-y];exact e
  .exact aj _ _ (C.bn _ _ bq)
theorem Cfg.push(C:Cfg prog w H g h)(o:Obj)(aS:(h.push o).get? h.objs.size=some o):Ext g h (g.add h.objs.size o) (h.push o)/\Cfg prog w H (g.add h.objs.size o) (h.push o):=
 C.add (ji h) aS (λb q e=>ey o e)
theorem gd{α:Type}{l:List α}(h:cz l=true):l.length<=4096:=fi h
theorem rA(h:n<=4096):(n:Int)<2^63:=by lia
theorem pl(h:n<=4096):n<=sizeLine:=aT h (by decide)
theorem RdL.size{im:bA}{vs:Array Value}{ds:List PyData}(h:RdL im vs.toList ds):vs.size=ds.length:=tl▸h.length
theorem rB:∀{l:List V}{ds:List PyData},bX H l=some ds->ds.length=l.length
 |[],_,h=>da h rfl
 |u::aU,_,h=>by obtain ⟨d,m,e,_,av⟩:=fa h;rw[e];exact congrArg Nat.succ (rB av)
theorem f4{im:bA}{vs:Array Value}{ds:List PyData}{l:List V}(h:RdL im vs.toList ds)(c:bX H l=some ds):vs.size=l.length:=h.size.trans (rB c)
theorem Val.int_inv{look:bA}{v:Value}{i:Int}(h:Val prog w H g look v (.int i)):∃t,v= .int i t:=by
 obtain⟨d,aa,ah⟩:=h;rw[<-Option.some.inj aa] at ah;exact ah.dat
theorem Val.bool_inv{look:bA}{v:Value}{b:Bool}(h:Val prog w H g look v (.bool b)):v= .bool b:=by
 obtain⟨d,aa,ah⟩:=h;rw[<-Option.some.inj aa] at ah;exact ah.dat
theorem Val.none_inv{look:bA}{v:Value}(h:Val prog w H g look v .none):v= .none:=by
 obtain⟨d,aa,ah⟩:=h;rw[<-Option.some.inj aa] at ah;exact ah.dat
theorem Val.str_inv{look:bA}{v:Value}(h:Val prog w H g look v (.str x)):PyData.strOk x=true/\∃t,v= .str x t:=by
 obtain⟨d,aa,ah⟩:=h;rw[(gB aa).1] at ah;exact⟨(gB aa).2,ah.dat⟩
theorem Val.int{look:bA}(i:Int)(t:Tok):Val prog w H g look (.int i t) (.int i):=⟨_,rfl,.int i t⟩
theorem Val.bool{look:bA}(b:Bool):Val prog w H g look (.bool b) (.bool b):=⟨_,rfl,.bool b⟩
theorem Val.none{look:bA}:Val prog w H g look .none .none:=⟨_,rfl,.none⟩
theorem Val.kh{look:bA}{v:Value}{l:List V}(h:Val prog w H g look v (.list l)):VLis H g.im look v l:=h
inductive VTup (H:T) (im:bA) (v:Value) (l:List V):Prop
 |mk (a:Addr) (o:Obj) (vs:Array Value) (n:Nat) (ds:List PyData) (e:v= .ref a) (h:im a=some o) (c:o.cls= .type "tuple") (d:o.data= .seq vs n) (r:RdL im vs.toList ds) (k:bX H l=some ds)
theorem Val.gO{look:bA}{v:Value}{l:List V}(h:Val prog w H g look v (.tup l)):VTup H g.im v l:=by
 obtain⟨d,aa,ah⟩:=h
 obtain⟨ds,aC,e⟩:=gS aa
 rw[e] at ah
 obtain⟨a,o,vs,n,e,bx,ap,aQ,aq⟩:=ah.gO
 exact⟨a,o,vs,n,ds,e,bx,ap,aQ,aq,aC⟩
theorem CM{vs:Array Value}{l:List V}(e:vs.size=l.length):vs.isEmpty=l.isEmpty:=by
 unfold Array.isEmpty
 rw[e]
 rcases l with _|⟨x,l⟩<;>rfl
theorem CN{v:Value}{b:Bool}{Q:Bool->Shared->Prop}(a1:u.truth=some b)(al:Val prog w H g s.heap.get? v u)(fk:∀a o,g.im a=some o->s.heap.get? a=some o)(ak:∀aF,Q b {s with toks:=aF}):wpAny (model prog w) A (truthy v) Q E s:=by
 rcases u
 case none=>revert ak;exact da a1 λak=>by rw [al.none_inv];exact truthy_none (ak s.toks)
 case bool=>revert ak;exact da a1 λak=>by rw [al.bool_inv];exact wpAny_truthy_bool (ak s.toks)
 case int i=>
  obtain⟨t,e⟩:=al.int_inv
  rw[e]
  refine P.truthy_int ?_
  have:(i !=0)=b:=(congrArg (!·) (Ka i 0).symm).trans (Option.some.inj a1)
  rw[this];exact ak s.toks
 case tup=>
  obtain⟨ag,a1⟩:=br a1
  obtain⟨a,o,vs,n,ds,e,bx,ap,aQ,aq,aC⟩:=al.gO
  have e1:=f4 aq aC
  rw[e]
  refine truthy_tuple ⟨o,fk _ _ bx,ap,n,aQ⟩ (rA (e1▸gd ag)) ?_
  rw[CM e1,Option.some.inj a1];exact ak _
 case list=>
  obtain⟨ag,a1⟩:=br a1
  obtain⟨a,vs,n,ds,e,bx,aq,aC⟩:=al.kh
  have e1:=f4 aq aC
  rw[e]
  refine wpAny_truthy_list ⟨_,bx,rfl,n,rfl⟩ (rA (e1▸gd ag)) ?_
  rw[CM e1,Option.some.inj a1];exact ak _
 all_goals exact aI a1
end
section
abbrev Got (prog:Program) (w:World) (H:T) (g:Gh) (s:Shared) (Q:cI) (r:V):Prop:=
 ∀au h' aF u,Ext g s.heap au h'->Cfg prog w H au h'->Val prog w H au au.im u r->Q u {s with heap:=h',toks:=aF}
theorem Got.here{r:V}(G:Got prog w H g s Q r)(C:Cfg prog w H g s.heap){u:Value}(bG:Val prog w H g g.im u r)(aF:Nat):Q u {s with toks:=aF}:=
 G g s.heap aF u (.refl _ _) C bG
theorem Got.push{r:V}(G:Got prog w H g s Q r)(C:Cfg prog w H g s.heap){o:Obj}(aS:(s.heap.push o).get? s.heap.objs.size=some o)(bG:Val prog w H (g.add s.heap.objs.size o) (g.add s.heap.objs.size o).im (.ref s.heap.objs.size) r)(aF:Nat):Q (.ref s.heap.objs.size) {s with heap:=s.heap.push o,toks:=aF}:=
 G _ _ aF _ (C.push o aS).1 (C.push o aS).2 bG
theorem RdL.add{o:Obj}(h:g.im a=none){vs:List Value}{ds:List PyData}(r:RdL g.im vs ds):RdL (g.add a o).im vs ds:=r.mono (Gh.hv h)
theorem Got.list{l:List V}(G:Got prog w H g s Q (.list l))(C:Cfg prog w H g s.heap){vs:Array Value}{ds:List PyData}(aq:RdL g.im vs.toList ds)(ap:bX H l=some ds)(aF:Nat):
  Q (.ref s.heap.objs.size) {s with heap:=s.heap.push (listOf vs n),toks:=aF}:=
 G.push C (ez _ rfl) ⟨_,vs,n,ds,rfl,Gh.jA _ _ _,aq.add (C.g7 (ji _)),ap⟩ aF
theorem ud{l:List V}{ds:List PyData}(h:bX H l=some ds):bI H (.tup l)=some (.tuple ds):=by
 show od (bX H l) _=_
 rw[h];rfl
theorem Got.tup{l:List V}(G:Got prog w H g s Q (.tup l))(C:Cfg prog w H g s.heap){vs:Array Value}{ds:List PyData}(aq:RdL g.im vs.toList ds)(ap:bX H l=some ds)(aF:Nat):
  Q (.ref s.heap.objs.size) {s with heap:=s.heap.push {cls:=.type "tuple",data:=.seq vs n},toks:=aF}:=
 G.push C (ez _ rfl) (.g8 (d:=.tuple ds) (ud ap) (.tup (Gh.jA _ _ _) rfl rfl (aq.add (C.g7 (ji _))))) aF
theorem CO:∀{l m:List V}{ds es:List PyData},bX H l=some ds->bX H m=some es->bX H (l++m)=some (ds++es)
 |[],m,_,es,h,k=>by rw [<-Option.some.inj h];exact k
 |u::aU,m,_,es,h,k=>by obtain ⟨d,ds,e,aQ,av⟩:=fa h;rw[e];exact h9 aQ (CO av k)
theorem CP:∀{l:List V}{ds:List PyData}(n:Nat),bX H l=some ds->bX H (l.take n)=some (ds.take n)
 |_,_,0,_=>rfl
 |[],_,_+1,h=>by rw [<-Option.some.inj h];rfl
 |u::aU,_,n+1,h=>by obtain ⟨d,ds,e,aQ,av⟩:=fa h;rw[e];exact h9 aQ (CP n av)
theorem KG:∀{l:List V}{ds:List PyData}(n:Nat),bX H l=some ds->bX H (l.drop n)=some (ds.drop n)
 |_,_,0,h=>h
 |[],_,_+1,h=>by rw [<-Option.some.inj h];rfl
 |u::aU,_,n+1,h=>by obtain ⟨d,ds,e,aQ,av⟩:=fa h;rw[e];exact KG n av
theorem wX{H:T}:∀{l:List V}{ds:List PyData}{n:Nat}{u:V},bX H l=some ds->l[n]? =some u->∃d,ds[n]? =some d/\bI H u=some d
 |[],_,_,_,h,k=>nomatch k
 |u::aU,_,0,_,h,k=>by obtain ⟨d,ds,e,aQ,av⟩:=fa h;rw[e,<-Option.some.inj k];exact⟨d,rfl,aQ⟩
 |u::aU,_,n+1,_,h,k=>by obtain ⟨d,ds,e,aQ,av⟩:=fa h;rw[e];exact wX (n:=n) av k
section
variable {a b r:V}{eK cQ:Value}
theorem KH{vs:Array Value}{l:List V}(e:vs.size=l.length)(h:vs.isEmpty=true):l=[]:=List.isEmpty_iff.mp ((CM e).symm.trans h)
theorem Xc{l m:List V}(ag:cz (l++m)=true)(C:Cfg prog w H g s.heap)(aw:Val prog w H g s.heap.get? eK (.tup l))(ao:Val prog w H g s.heap.get? cQ (.tup m))(G:Got prog w H g s Q (.tup (l++m))):wpAny (model prog w) A (binaryOp .Add eK cQ) Q E s:=by
 obtain⟨x,o,vs,n,ds,e,bx,ap,aQ,aq,aC⟩:=aw.gO
 obtain⟨y,p,eI,k,es,bq,CQ,hG,iJ,lv,nM⟩:=ao.gO
 rcases o with ⟨eT,CR,Xd,CS⟩
 rcases p with ⟨cP,CT,Xe,CU⟩
 change eT=_ at ap;change Xd=_ at aQ;change cP=_ at hG;change Xe=_ at iJ
 rw[ap,aQ] at bx
 rw[hG,iJ] at CQ
 rw[e,bq]
 have hH:=C.bn _ _ bx
 have iK:=C.bn _ _ CQ
 have e1:=f4 aq aC
 have e2:=f4 lv nM
 rcases al:vs.isEmpty with _|_
 .rcases cs:eI.isEmpty with _|_
  .have fl:vs.size+eI.size<=sizeLine:=by rw [e1,e2,<-d5];exact pl (gd ag)
   exact concat_meets ⟨_,hH,rfl⟩ ⟨_,iK,rfl⟩ noFill_tuple_add seq_tuple_add zD zA (zz _ _) (tuple_addW2 x y vs eI n k CR CT CS CU (Bool.eq_false_iff.mp al) (Bool.eq_false_iff.mp cs) fl)
    ⟨hH,iK,G.tup C (by rw [zI];exact aq.append lv) (CO aC nM) _⟩
  .rw[KH e2 cs,eh] at G
   exact concat_meets ⟨_,hH,rfl⟩ ⟨_,iK,rfl⟩ noFill_tuple_add seq_tuple_add zD zA (zz _ _) (tuple_addW1 x y vs eI n k CR CT CS CU (Bool.eq_false_iff.mp al) cs)
    ⟨hH,iK,G.here C (.g8 (ud aC) (.tup bx rfl rfl aq)) _⟩
 .rw[KH e1 al] at G
  exact concat_meets ⟨_,hH,rfl⟩ ⟨_,iK,rfl⟩ noFill_tuple_add seq_tuple_add zD zA (zz _ _) (tuple_addW0 x y vs eI n k CR CT CS CU al)
   ⟨hH,iK,G.here C (.g8 (ud nM) (.tup CQ rfl rfl lv)) _⟩
theorem Xf{l m:List V}(ag:cz (l++m)=true)(C:Cfg prog w H g s.heap)(aw:Val prog w H g s.heap.get? eK (.list l))(ao:Val prog w H g s.heap.get? cQ (.list m))(G:Got prog w H g s Q (.list (l++m))):wpAny (model prog w) A (binaryOp .Add eK cQ) Q E s:=by
 obtain⟨x,vs,n,ds,e,hH,aq,aC⟩:=aw.kh
 obtain⟨y,eI,k,es,bq,iK,lv,nM⟩:=ao.kh
 rw[e,bq]
 have fl:vs.size+eI.size<=sizeLine:=by rw [f4 aq aC,f4 lv nM,<-d5];exact pl (gd ag)
 exact concat_meets ⟨_,hH,rfl⟩ ⟨_,iK,rfl⟩ noFill_list_add seq_list_add PySem.F.slot_list_add PySem.F.entry_list_add (PySem.F.args_list_add_2 _ _) (list_addW x y vs eI n k none none #[] #[] fl)
  ⟨hH,iK,G.list C (by rw [zI];exact aq.append lv) (CO aC nM) _⟩
theorem Xg{i:Int}(h:h4 i 1000000=true)(h0:h4 0 i=true):Builtin.Int.intBits i<=20:=by
 have h:=iLe_iff.mp h
 have h0:=iLe_iff.mp h0
 unfold Builtin.Int.intBits
 split
 .lia
 .rename_i bi
  have h0:i.natAbs≠0:=by
   intro q;apply bi;simpa using q
  have:i.natAbs<2^20:=by lia
  have:=(Nat.log2_lt h0).mpr this
  lia
theorem KJ{i:Int}(h:e0 0 i=true):i≠0:=λe=>by rw [e] at h;exact nomatch h
inductive II {α:Type} (eK cQ:Value) (f:Int->Int->Option α) (r:α):Prop
 |mk (i j:Int) (t u:Tok) (e1:eK= .int i t) (e2:cQ= .int j u) (h:f i j=some r)
theorem mD{α:Type}{look:bA}{f:Int->Int->Option α}{r:α}(h:lb a b f=some r)(aw:Val prog w H g look eK a)(ao:Val prog w H g look cQ b):II eK cQ f r:=by
 obtain⟨i,aa,h⟩:=bD h
 obtain⟨j,ah,h⟩:=bD h
 rw[lp aa] at aw
 rw[lp ah] at ao
 obtain⟨t,e1⟩:=aw.int_inv
 obtain⟨u,e2⟩:=ao.int_inv
 exact⟨i,j,t,u,e1,e2,h⟩
theorem Xh(h:JG a b=some r)(C:Cfg prog w H g s.heap)(aw:Val prog w H g s.heap.get? eK a)(ao:Val prog w H g s.heap.get? cQ b)(G:Got prog w H g s Q r):wpAny (model prog w) A (binaryOp .Add eK cQ) Q E s:=by
 rcases a
 case int i=>
  obtain⟨j,ah,h⟩:=bD h
  rw[lp ah] at ao
  obtain⟨t,e1⟩:=aw.int_inv
  obtain⟨u,e2⟩:=ao.int_inv
  rw[e1,e2]
  exact P.add_int (G.here C (gb h (P:=Val prog w H g g.im _) (.int _ _)) _)
 case tup l=>
  obtain⟨j,ah,h⟩:=bD h
  obtain⟨ag,h⟩:=br h
  rw[rv ah] at ao
  rw[<-Option.some.inj h] at G
  exact Xc ag C aw ao G
 case list l=>
  obtain⟨j,ah,h⟩:=bD h
  obtain⟨ag,h⟩:=br h
  rw[t4 ah] at ao
  rw[<-Option.some.inj h] at G
  exact Xf ag C aw ao G
 all_goals exact aI h
theorem Xi{op:Operator}(h:kr op a b=some r)(C:Cfg prog w H g s.heap)(aw:Val prog w H g s.heap.get? eK a)(ao:Val prog w H g s.heap.get? cQ b)(G:Got prog w H g s Q r):wpAny (model prog w) A (binaryOp op eK cQ) Q E s:=by
 have I:∀{i:Int}{t:Tok},some (V.int i)=some r->Val prog w H g g.im (.int i t) r:=λh=>gb h (P:=Val prog w H g g.im _) (.int _ _)
 rcases op
 case Add=>exact Xh h C aw ao G
 case Sub=>
  obtain⟨i,j,t,u,e1,e2,h⟩:=mD h aw ao
  rw[e1,e2]
  exact P.sub_int (G.here C (I h) _)
 case Mult=>
  obtain⟨i,j,t,u,e1,e2,h⟩:=mD h aw ao
  obtain⟨ag,h⟩:=br h
  rw[e1,e2]
  exact P.mul_int (G.here C (I h) _) (.of_left (aT (Xg (aK ag).2 (aK ag).1) (by decide)))
 case FloorDiv=>
  obtain⟨i,j,t,u,e1,e2,h⟩:=mD h aw ao
  obtain⟨ag,h⟩:=br h
  rw[e1,e2]
  refine floordiv_int (KJ (aK ag).1) (G.here C (I h) _) (.inl (PyProof.noPylong_small ?_))
  have aa:=iLt_iff.mp (aK ag).1
  have ah:=iLe_iff.mp (aK ag).2
  lia
 case Mod=>
  obtain⟨i,j,t,u,e1,e2,h⟩:=mD h aw ao
  obtain⟨ag,h⟩:=br h
  rw[e1,e2]
  exact mod_int' (KJ ag) (G.here C (I h) _)
 case BitAnd=>
  obtain⟨i,aa,h⟩:=bD h
  obtain⟨j,ah,h⟩:=bD h
  rw[nJ aa] at aw
  rw[nJ ah] at ao
  obtain⟨t,e1⟩:=aw.int_inv
  obtain⟨u,e2⟩:=ao.int_inv
  rw[e1,e2]
  exact and_int (G.here C (I h) _)
 all_goals exact aI h
end
end
section
theorem Xj{v:V}{l:List V}(h:hd v=some l):v= .tup l\/v= .list l:=by
 rcases v
 case tup=>exact .inl (congrArg _ (Option.some.inj h))
 case list=>exact .inr (congrArg _ (Option.some.inj h))
 all_goals exact aI h
theorem ue{P:PyData->Prop}:∀{l:List V}{m:List PyData},bX H l=some m->(∀x∈l,∀d,bI H x=some d->P d)->∀y∈m,P y
 |[],_,h,_,y,q=>by rw [<-Option.some.inj h] at q;exact nomatch q
 |x::l,_,h,k,y,q=>by
  obtain⟨d,m,e,aQ,av⟩:=fa h
  rw[e] at q
  exact(List.mem_cons.mp q).elim (λe=>e▸k x (.head _) d aQ) λq=>ue av (λz bi=>k z (.tail _ bi)) y q
theorem KL{v:V}(h:bI H v=some d)(aJ:hd v=none):d.depth=0:=by
 rcases v
 case none=>exact da h rfl
 case bool=>exact da h rfl
 case int=>exact da h rfl
 case str=>rw[(gB h).1];rfl
 case ty=>obtain⟨_,_,_,e⟩:=hB h;rw[e];rfl
 case tup=>exact nomatch aJ
 case list=>exact nomatch aJ
 all_goals exact aI h
theorem Xl{v:V}{l:List V}(h:bI H v=some d)(aJ:hd v=some l)(k:∀x∈l,∀d,bI H x=some d->d.depth<=n):d.depth<=n+1:=by
 rcases Xj aJ with e|e<;>rw[e] at h
 .obtain⟨m,av,e⟩:=gS h
  rw[e]
  exact gr (wR (ue av k))
 .obtain⟨m,av,e⟩:=t8 h
  rw[e]
  exact gr (wR (ue av k))
theorem Xm{n d:Nat}(R:Room A n)(h:d<=20):A.units+d<cLine:=hZ (v9 (eZ _ (20*n)) (aT h (by decide:20<=400))) R.units
theorem KN{n d:Nat}(R:Room A n)(h:d<=20):A.units+1+d<cLine:=by rw [jE];exact hZ (v9 (eZ _ (20*n)) (aT (dh h 1) (by decide:21<=400))) R.units
theorem CV:∀{n:Nat}{v:V}{d:PyData},V.jB n v=true->bI H v=some d->d.depth<=n
 |0,v,d,k,h=>by
  rcases e:hd v with _|l
  .exact dW (KL h e)
  .have k:nE true (λ_=>false) (od (hd v) λl=>some (v::l))=true:=k
   rw[e] at k;exact nomatch k
 |n+1,v,d,k,h=>by
  have k:nE true (V.jB n) (hd v)=true:=k
  rcases e:hd v with _|l<;>rw[e] at k
  .exact aT (dW (KL h e)) (iB _)
  .exact Xl h e λx hx d aQ=>CV (List.all_eq_true.mp k x hx) aQ
theorem Xn{a:Int}{b:V}{t:Bool}(h:H.HZ a b=some t):b.flat=true:=by rcases b<;>first|rfl|exact aI h
theorem Xo{a:Str}{b:V}{t:Bool}(h:T.H7 a b=some t):b.flat=true:=by rcases b<;>first|rfl|exact aI h
theorem Xp{a b:V}{t:Bool}(h:H.eqT a b=some t):b.flat=true:=by rcases b<;>first|rfl|exact aI h
theorem Xq{a b:V}{t:Bool}(h:H.eq a b=some t):a.flat=true/\b.flat=true:=by
 rcases a
 case none=>rw[pf (br h).1];exact⟨rfl,rfl⟩
 case bool=>obtain⟨_,e,_⟩:=bD h;rw[wI e];exact⟨rfl,rfl⟩
 case tup=>obtain⟨_,e,_⟩:=bD h;rw[rv e];exact⟨rfl,rfl⟩
 case int=>exact⟨rfl,Xn h⟩
 case str=>exact⟨rfl,Xo h⟩
 case ty=>exact⟨rfl,Xp h⟩
 all_goals exact aI h
theorem KO{a b:V}{t:Bool}(h:H.l9 a b=some t):H.eq a b=some t:=(br h).2
theorem KP{x:V}(h:jb x=true)(ap:bI H x=some d):(∃i,d= .int i/\isStr x=false)\/∃s,x= .str s/\d= .str s:=by
 rcases x
 case int=>exact .inl (da ap ⟨_,rfl,rfl⟩)
 case str=>exact .inr ⟨_,rfl,(gB ap).1⟩
 case ty=>obtain⟨_,_,_,e⟩:=hB ap;exact .inl ⟨_,e,rfl⟩
 all_goals exact nomatch h
theorem ObjDict.mapOf{K:Type}[DecidableEq K]{knd:KeyKind prog w K}{o:Obj}{aW:List (K×Value)}(h:ObjDict prog w knd o aW){aS:Heap}(e:aS.get? a=some o):aS.DictOf knd a aW:=by
 obtain⟨es,ca,aa,ah,aC,bC,ee⟩:=h
 exact⟨o,es,ca,e,aa,ah,aC,bC,ee⟩
theorem KQ{K:Type}[DecidableEq K](knd:KeyKind prog w K):KeysOf knd #[]:=λ_ cL=>absurd cL (Array.not_mem_empty _)
theorem ObjDict.empty{K KR:Type}[DecidableEq K][DecidableEq KR]{knd:KeyKind prog w K}{KS:KeyKind prog w KR}{o:Obj}(h:ObjDict prog w knd o []):ObjDict prog w KS o []:=by
 obtain⟨es,ca,aa,ah,aC,bC,ee⟩:=h
 have:es= #[]:=Array.toList_inj.mp (List.length_eq_zero_iff.mp bC.length)
 rw[this] at ah
 exact⟨#[],ca,aa,ah,KQ KS,.nil,.nil⟩
inductive KvC {K:Type} (c7:K->PyData) (H:T) (im:bA) (p:V×V) (l:List (V×V)) (aW:List (K×Value)):Prop
 |mk (i:K) (v:Value) (d:PyData) (r:List (K×Value)) (e:aW=(i,v)::r) (aa:bI H p.1=some (c7 i)) (ah:bI H p.2=some d) (aC:Rd im v d) (bC:Kvs c7 H im l r)
def KU{K:Type}(c7:K->PyData)(H:T)(im:bA)(aW:List (K×Value)):List (V×V)->Prop
 |[]=>aW=[]
 |p::l=>KvC c7 H im p l aW
theorem Kvs.dat{K:Type}{c7:K->PyData}{im:bA}{l:List (V×V)}{aW:List (K×Value)}(h:Kvs c7 H im l aW):KU c7 H im aW l:=
 Kvs.casesOn (motive:=λl aW _=>KU c7 H im aW l) h rfl λa b c d=>⟨_,_,_,_,rfl,a,b,c,d⟩
inductive KGet (H:T) (im:bA) (r:Option V) (x:Option Value):Prop
 |no (e1:r=none) (e2:x=none)
 |yes (u:V) (v:Value) (d:PyData) (e1:r=some u) (e2:x=some v) (c:bI H u=some d) (q:Rd im v d)
theorem KGet.same{im:bA}{r:Option V}{x:Option Value}(h:KGet H im r x):x.isSome=r.isSome:=by
 rcases h with ⟨e1,e2⟩|⟨u,v,d,e1,e2,_,_⟩<;>rw[e1,e2]<;>rfl
theorem Xr{K:Type}[DecidableEq K]{i:K}{v:Value}{aW:List (K×Value)}:valueAt ((i,v)::aW) i=some v:=by simp [valueAt]
theorem Xs{K:Type}[DecidableEq K]{i j:K}{v:Value}{aW:List (K×Value)}(h:j≠i):valueAt ((j,v)::aW) i=valueAt aW i:=by simp [valueAt,tv,h]
theorem CW{K:Type}[DecidableEq K]{c7:K->PyData}(uf:∀a b,(c7 a).eqv (c7 b)=decide (a=b))(aL:H.Ok){im:bA}{x:V}{i:K}(hx:bI H x=some (c7 i)):
  ∀{l:List (V×V)}{aW:List (K×Value)}{r:Option V},H.get x l=some r->Kvs c7 H im l aW->KGet H im r (valueAt aW i)
 |[],_,_,h,k=>by rw [k.dat];exact .no (Option.some.inj h).symm rfl
 |p::l,_,r,h,q=>by
  obtain⟨j,v,d,aW,e,aa,ah,aC,bC⟩:=q.dat
  obtain⟨t,g,h⟩:=bD h
  have bq:decide (j=i)=t:=(uf _ _).symm.trans (t9 aL (KO g) aa hx)
  rw[e]
  rcases t with _|_
  .rw[Xs (of_decide_eq_false bq)]
   exact CW uf aL hx (l:=l) h bC
  .rw[of_decide_eq_true bq,Xr]
   exact .yes _ v d (Option.some.inj h).symm rfl ah aC
theorem wY(a b:Int):(PyData.int a).eqv (.int b)=decide (a=b):=v0 a b
theorem CX(a b:Str):(PyData.str a).eqv (.str b)=decide (a=b):=v0 a b
theorem KV{K:Type}{c7:K->PyData}{b:Bool}{im:bA}{x:V}{r:Option V}(ao:∀k i,bI H k=some (c7 i)->isStr k=b)(hx:(b==isStr x)=false):∀{l:List (V×V)}{aW:List (K×Value)},H.get x l=some r->Kvs c7 H im l aW->aW=[]/\r=none
 |[],_,h,k=>⟨k.dat,(Option.some.inj h).symm⟩
 |p::l,_,h,q=>by
  obtain⟨j,v,d,aW,e,aa,ah,aC,bC⟩:=q.dat
  obtain⟨t,g,h⟩:=bD h
  have g:=(br g).1
  rw[ao _ _ aa,hx] at g
  exact nomatch g
theorem KW(k:V)(i:Int)(h:bI H k=some (.int i)):isStr k=false:=by
 rcases k
 case str=>have:=(gB h).1;exact nomatch this
 all_goals rfl
theorem CY(k:V)(s:Str)(h:bI H k=some (.str s)):isStr k=true:=by
 rcases k
 case str=>rfl
 case tup=>obtain⟨_,_,e⟩:=gS h;exact nomatch e
 case list=>obtain⟨_,_,e⟩:=t8 h;exact nomatch e
 case ty=>obtain⟨_,_,_,e⟩:=hB h;exact nomatch e
 all_goals exact nomatch h
inductive DGet (prog:Program) (w:World) (H:T) (im:bA) (o:Obj) (ep:Value) (r:Option V):Prop
 |mk (K:Type) (dec:DecidableEq K) (knd:KeyKind prog w K) (k:K) (aW:List (K×Value)) (aa:ObjDict prog w knd o aW) (ah:knd.is k ep=true) (aC:KGet H im r (valueAt aW k))
theorem ug(i:Int)(t:Tok):(intKind prog w).is i (.int i t)=true:=by simp [intKind,Value.isInt]
theorem wZ(i:Str)(t:Tok):(strKind prog w).is i (.str i t)=true:=by simp [PySem.strKind,Value.isStrOf]
theorem Val.key{look:bA}{x:V}{ep:Value}(aj:jb x=true)(hx:Val prog w H g look ep x):VDat H g.im ep x:=by
 rcases x
 case int=>exact hx
 case str=>exact hx
 case ty=>exact hx
 all_goals exact nomatch aj
theorem CZ(aL:H.Ok){look:bA}{o:Obj}{l:List (V×V)}{x:V}{ep:Value}{r:Option V}(D:DictO prog w H g.im o l)(aj:jb x=true)(bx:H.get x l=some r)(hx:Val prog w H g look ep x):DGet prog w H g.im o ep r:=by
 obtain⟨d,ap,aq⟩:=hx.key aj
 rcases KP aj ap with ⟨i,e,aJ⟩|⟨s,e7,e⟩
 .rw[e] at aq ap
  obtain⟨t,e1⟩:=aq.dat
  rw[e1]
  rcases D with ⟨aW,aa,ah⟩|⟨aW,aa,ah⟩
  .exact⟨Int,_,intKind prog w,i,aW,aa,ug i t,CW wY aL ap bx ah⟩
  .obtain⟨e2,e3⟩:=KV CY (by rw [aJ];rfl) bx ah
   rw[e2] at aa
   exact⟨Int,_,intKind prog w,i,[],aa.empty,ug i t,.no e3 rfl⟩
 .rw[e] at aq ap
  obtain⟨t,e1⟩:=aq.dat
  rw[e1]
  rcases D with ⟨aW,aa,ah⟩|⟨aW,aa,ah⟩
  .obtain⟨e2,e3⟩:=KV KW (by rw [e7];rfl) bx ah
   rw[e2] at aa
   exact⟨Str,_,strKind prog w,s,[],aa.empty,wZ s t,.no e3 rfl⟩
  .exact⟨Str,_,strKind prog w,s,aW,aa,wZ s t,CW CX aL ap bx ah⟩
section
variable {a b:V}{t:Bool}{eK cQ:Value}
inductive Rd2 (h:Heap) (A:Around) (eK cQ:Value) (t:Bool):Prop
 |mk (eM mE:PyData) (as bs:List Addr) (bU:Reads h eK eM as) (bZ:Reads h cQ mE bs) (cg:eM.canLay0=true) (ch:mE.canLay0=true) (u:A.units+min eM.depth mE.depth<cLine) (e:eM.eqv mE=t)
theorem KX(R:Room A n)(C:Cfg prog w H g s.heap)(aw:Val prog w H g s.heap.get? eK a)(ao:Val prog w H g s.heap.get? cQ b)(aJ:V.jB 20 a=true)(cL:H.eq a b=some t):Rd2 s.heap A eK cQ t:=by
 obtain⟨fH,gC⟩:=Xq cL
 obtain⟨eM,eT,ge⟩:=aw.flat C.bn fH
 obtain⟨mE,cP,gf⟩:=ao.flat C.bn gC
 obtain⟨as,bU⟩:=ge.reads (h:=s.heap) λ_ _ e=>e
 obtain⟨bs,bZ⟩:=gf.reads (h:=s.heap) λ_ _ e=>e
 exact⟨eM,mE,as,bs,bU,bZ,wK eT,wK cP,Xm R (aT (zQ _ _) (CV aJ eT)),t9 C.ok cL eT cP⟩
inductive Mem2 (h:Heap) (A:Around) (eK cQ:Value) (f:List PyData->PyData) (t:Bool):Prop
 |mk (eM:PyData) (as:List Addr) (a4:List PyData) (bs:List Addr) (bU:Reads h eK eM as) (bZ:Reads h cQ (f a4) bs) (cg:PyData.canLayAll0 a4=true) (ch:eM.canLay0=true) (u:A.units+1+min (PyData.depthAll a4) eM.depth<cLine) (e:(a4.any λy=>y.eqv eM)=t)
theorem KY(R:Room A n)(C:Cfg prog w H g s.heap)(aw:Val prog w H g s.heap.get? eK a)(ao:Val prog w H g s.heap.get? cQ b)(f:List PyData->PyData)(Xu:b.flat=true){l:List V}(a6:∀d,bI H b=some d->∃m,bX H l=some m/\d=f m)(aJ:(V.jB 20 a&&a.flat)=true)(av:H.mem a l=some t):Mem2 s.heap A eK cQ f t:=by
 obtain⟨eM,eT,ge⟩:=aw.flat C.bn (aK aJ).2
 obtain⟨as,bU⟩:=ge.reads (h:=s.heap) λ_ _ e=>e
 obtain⟨mE,cP,gf⟩:=ao.flat C.bn Xu
 obtain⟨bs,bZ⟩:=gf.reads (h:=s.heap) λ_ _ e=>e
 obtain⟨a4,jj,e⟩:=a6 _ cP
 rw[e] at bZ
 exact⟨eM,as,a4,bs,bU,bZ,wL jj,wK eT,KN R (aT (Nat.min_le_right _ _) (CV (aK aJ).1 eT)),Kj C.ok eT av jj⟩
theorem KZ{x:Option Bool}{t:Bool}(h:ws x=some t):∃u,x=some u/\(!u)=t:=by
 obtain⟨u,e,k⟩:=bD h
 exact⟨u,e,Option.some.inj k⟩
theorem K1{f:Bool->Bool}{op:CmpOp}(a1:∀{v uh a4 bs eM as},Reads s.heap uh (.tuple a4) bs->Reads s.heap v eM as->PyData.canLayAll0 a4=true->eM.canLay0=true->A.units+1+min (PyData.depthAll a4) eM.depth<cLine->Q (.bool (f (a4.any λy=>y.eqv eM))) s->wpAny (model prog w) A (compareOp op v uh) Q E s)(ag:∀{v uh a4 bs eM as},Reads s.heap uh (.list a4) bs->Reads s.heap v eM as->PyData.canLayAll0 a4=true->eM.canLay0=true->A.units+1+min (PyData.depthAll a4) eM.depth<cLine->Q (.bool (f (a4.any λy=>y.eqv eM))) s->wpAny (model prog w) A (compareOp op v uh) Q E s)(aQ:∀{K:Type} [DecidableEq K] {knd:KeyKind prog w K} {k:K} {v:Value} {a:Addr} {aW:List (K×Value)},knd.is k v=true->(a==sysModules)=false->s.heap.DictOf knd a aW->(∀aF,Q (.bool (f (valueAt aW k).isSome)) {s with toks:=aF})->wpAny (model prog w) A (compareOp op v (.ref a)) Q E s)(h:Cb H a b=some t)(C:Cfg prog w H g s.heap)(R:Room A n)(aw:Val prog w H g s.heap.get? eK a)(ao:Val prog w H g s.heap.get? cQ b)(ak:∀aF,Q (.bool (f t)) {s with toks:=aF}):wpAny (model prog w) A (compareOp op eK cQ) Q E s:=by
 rcases b
 case tup=>
  obtain⟨aJ,h⟩:=br h
  obtain⟨eM,as,a4,bs,bU,bZ,cg,ch,u,e⟩:=KY R C aw ao .tuple rfl (λ_=>gS) aJ h
  exact a1 bZ bU cg ch u (e▸ak s.toks)
 case list=>
  obtain⟨aJ,h⟩:=br h
  obtain⟨eM,as,a4,bs,bU,bZ,cg,ch,u,e⟩:=KY R C aw ao .list rfl (λ_=>t8) aJ h
  exact ag bZ bU cg ch u (e▸ak s.toks)
 case dict=>
  obtain⟨aj,h⟩:=br h
  obtain⟨r,bx,h⟩:=bD h
  obtain⟨ad,o,e,aG,av,D⟩:=ao
  obtain⟨K,_,knd,k,aW,aa,ah,aC⟩:=CZ C.ok D aj bx aw
  rw[e]
  exact aQ ah av (aa.mapOf aG) (aC.same▸Option.some.inj h▸ak)
 all_goals exact aI h
theorem Xv(h:JH a b=some t)(aw:Val prog w H g s.heap.get? eK a)(ao:Val prog w H g s.heap.get? cQ b)(ak:∀aF,Q (.bool t) {s with toks:=aF}):wpAny (model prog w) A (compareOp .Is eK cQ) Q E s:=by
 obtain⟨aX,h⟩:=br h
 rw[pf aX] at ao
 rw[ao.none_inv]
 have q:∀u,some u=some t->Q (.bool u) s:=λu e=>Option.some.inj e▸ak s.toks
 rcases a
 case none=>rw[aw.none_inv];exact is_none (q _ h)
 case tup=>obtain⟨a,o,vs,n,ds,e,_⟩:=aw.gO;rw[e];exact is_none (q _ h)
 case list=>obtain⟨a,vs,n,ds,e,_⟩:=aw.kh;rw[e];exact is_none (q _ h)
 all_goals exact aI h
theorem K2(i j:Int):decide (i<j)=e0 i j:=by rw [i5,iLt_iff,decide_eq_true_iff]
theorem C0(i j:Int):decide (i<=j)=h4 i j:=by rw [i5,iLe_iff,decide_eq_true_iff]
theorem K3{op:CmpOp}(h:cX H op a b=some t)(C:Cfg prog w H g s.heap)(R:Room A n)(aw:Val prog w H g s.heap.get? eK a)(ao:Val prog w H g s.heap.get? cQ b)(ak:∀aF,Q (.bool t) {s with toks:=aF}):wpAny (model prog w) A (compareOp op eK cQ) Q E s:=by
 rcases op
 case Eq=>
  obtain⟨aJ,h⟩:=br h
  obtain⟨eM,mE,as,bs,bU,bZ,cg,ch,u,e⟩:=KX R C aw ao aJ h
  exact SeqAt.compareEq_reads bU bZ cg ch u (e▸ak s.toks)
 case NotEq=>
  obtain⟨aJ,h⟩:=br h
  obtain⟨v,h,bq⟩:=KZ h
  obtain⟨eM,mE,as,bs,bU,bZ,cg,ch,u,e⟩:=KX R C aw ao aJ h
  exact SeqAt.compareNe_reads bU bZ cg ch u (e▸bq▸ak s.toks)
 case Lt=>
  obtain⟨i,j,t,u,e1,e2,h⟩:=mD h aw ao
  rw[e1,e2]
  exact P.lt_int (K2 i j▸Option.some.inj h▸ak s.toks)
 case LtE=>
  obtain⟨i,j,t,u,e1,e2,h⟩:=mD h aw ao
  rw[e1,e2]
  exact P.le_int (C0 i j▸Option.some.inj h▸ak s.toks)
 case Gt=>
  obtain⟨i,j,t,u,e1,e2,h⟩:=mD h aw ao
  rw[e1,e2]
  exact P.gt_int (K2 j i▸Option.some.inj h▸ak s.toks)
 case GtE=>
  obtain⟨i,j,t,u,e1,e2,h⟩:=mD h aw ao
  rw[e1,e2]
  exact P.ge_int (C0 j i▸Option.some.inj h▸ak s.toks)
 case Is=>exact Xv h aw ao ak
 case In=>exact K1 (f:=id) (λa b c d e q=>SeqAt.in_tuple_reads a b c d e q) (λa b c d e q=>SeqAt.in_list_reads a b c d e q) (λa b c q=>wpAny_in_of a b c.mapOf (q _)) h C R aw ao ak
 case NotIn=>
  obtain⟨v,h,bq⟩:=KZ h
  exact K1 (f:=not) (λa b c d e q=>SeqAt.notIn_tuple_reads a b c d e q) (λa b c d e q=>SeqAt.notIn_list_reads a b c d e q) (λa b c q=>wpAny_notIn_of a b c.mapOf (q _)) h C R aw ao (bq▸ak)
 all_goals exact aI h
end
end
section
theorem Xw(n:Nat):Builtin.Slice.sliceAdjust none (some (-1:Int)) 1 ((n+1:Nat):Int)=(0,(n:Int)):=by
 unfold Builtin.Slice.sliceAdjust
 have aa:¬((1:Int)<0):=by lia
 have ah:((-1:Int)<0):=by lia
 simp only[aa,ah,if_false,if_true]
 congr 1
 lia
theorem Xx(n:Nat):Builtin.Slice.slicePlaces 0 (n:Int) 1=n:=by
 unfold Builtin.Slice.slicePlaces
 have aa:(1:Int)>0:=by lia
 simp only[aa,if_true,Int.ediv_one]
 split<;>lia
theorem Xy{sl:Addr}{u:Tok}{Q:Int×Int×Nat->Shared->Prop}(aJ:s.heap.IsSliceOf sl .none (.int (-1) u) .none)(h:Q ((0:Int),1,n) s):
  wpAny (model prog w) A (Builtin.Slice.sliceApplied (.ref sl) (pure ((n+1:Nat):Int))) Q E s:=by
 obtain⟨os,ui,pm,pn⟩:=id aJ
 unfold Builtin.Slice.sliceApplied Builtin.Slice.sliceFields
 refine wpAny_bind (wpAny_bind (wpAny_field ui pn (x:=.none) rfl (wpAny_bind (wpAny_field ui pn (x:=.int (-1) u) rfl (wpAny_bind (wpAny_field ui pn (x:=.none) rfl (wpAny_pure ?_)))))))
 refine wpAny_bind (slicePart_none ?_)
 show wpAny _ _ (if ((1:Int)==0)=true then _ else _) _ _ s
 rw[if_neg (by decide)]
 refine wpAny_bind (slicePart_none (wpAny_bind (slicePart_int (wpAny_bind (wpAny_pure ?_)))))
 show wpAny _ _ (match Builtin.Slice.sliceAdjust none (some (-1:Int)) 1 ((n+1:Nat):Int) with|(lo,hi)=>pure (lo,(1:Int),Builtin.Slice.slicePlaces lo hi 1)) _ _ s
 rw[Xw n]
 show wpAny _ _ (pure ((0:Int),(1:Int),Builtin.Slice.slicePlaces (0:Int) (n:Int) 1)) _ _ s
 rw[Xx n]
 exact wpAny_pure h
theorem Xz(a4:Array Value)(n:Nat):((List.range n).filterMap λ(k:Nat)=>a4[((0:Int)+(k:Int)*1).toNat]?).toArray=(a4.toList.take n).toArray:=by
 have e:(λ(k:Nat)=>a4[((0:Int)+(k:Int)*1).toNat]?)=λk=>a4[0+k]? :=by
  funext k
  have:((0:Int)+(k:Int)*1).toNat=0+k:=by lia
  rw[this]
 rw[e]
 have:=pick_run a4 0 n
 rw[List.filterMap_map] at this
 have e2:((λx=>a4[x]?) ∘ λx=>0+x)=λk=>a4[0+k]? :=rfl
 rw[e2] at this
 rw[this,List.drop_zero]
theorem XA{t sl:Addr}{jV:Array Value}{u:Tok}(a1:IsTup s.heap t jV)(aX:jV.size=n+1)(aJ:s.heap.IsSliceOf sl .none (.int (-1) u) .none)(h:Q (.ref s.heap.objs.size) {s with heap:=s.heap.push {cls:=.type "tuple",data:=.seq (jV.toList.take n).toArray}})(fl:jV.size<=sizeLine):wpAny (model prog w) A (getItem (.ref t) (.ref sl)) Q E s:=by
 have w0:sizeOk (.seq (jV.toList.take n).toArray):=by
  show (jV.toList.take n).toArray.size<=sizeLine
  rw[qP,zM,tl]
  lia
 obtain⟨os,ui,pm,pn⟩:=id aJ
 have XB:s.TypeIs (.ref sl) "slice":=⟨os,ui,pm⟩
 unfold getItem
 try with_reducible refine wpAny_holding ?_
 first|refine wpAny_bind (wpAny_pure ?_)|skip
 refine wpAny_bind (wpAny_sequenceKey a1.typeIs (by decide) ?_)
 refine wpAny_bind (wpAny_callSpecial?_slot (name:=Str.ofString "__getitem__") a1.typeIs slot_tuple_getitem
  (wpAny_call_entry slot_tuple_getitem a1.typeIs entry_tuple_getitem ?_ (args_tuple_getitem _ _)))
 show wpAny _ _ (Builtin.Tuple.tupleItemsOf (.ref t)>>=_) _ _ s
 refine wpAny_bind (tupleItemsOf_ a1 ?_)
 refine wpAny_bind (wpAny_typeOf XB ?_)
 rw[if_pos (by decide)]
 rw[aX]
 refine wpAny_bind (Xy aJ ?_)
 have XC:¬(((0:Int)==0&&(1:Int)==1&&n==n+1)=true):=by simp
 show wpAny _ _ (if ((0:Int)==0&&(1:Int)==1&&n==n+1)=true then _ else _) _ _ s
 rw[if_neg XC,Xz jV n]
 first
  |exact wpAny_bind (m:=Builtin.Tuple.tupleExact _) (wpAny_newObj_type (wpAny_pure ⟨_,rfl,wpAny_pure h⟩) w0)
  |exact wpAny_bind (m:=Builtin.Tuple.tupleExact _) (wpAny_newObj_type (wpAny_bind (wpAny_pure (wpAny_pure ⟨_,rfl,wpAny_pure h⟩))) w0)
  |exact wpAny_bind (wpAny_bind (m:=Builtin.Tuple.tupleExact _) (wpAny_newObj_type (wpAny_pure (wpAny_pure ⟨_,rfl,wpAny_pure h⟩)) w0))
  |exact wpAny_bind (wpAny_bind (m:=Builtin.Tuple.tupleExact _) (wpAny_newObj_type (wpAny_pure ⟨_,rfl,wpAny_pure h⟩) w0))
theorem XD(h:k<n):seqIndex? (k:Int) n=some k:=by
 have aa:¬((k:Int)<0):=by lia
 have ah:0<=(k:Int)/\(k:Int)<n:=by lia
 simp only[seqIndex?,aa,if_false,ah,decide_true,Bool.and_self,if_true]
 simp
theorem K4:(-((k:Int)+1)+n).toNat=n - (k+1):=by
 rw[Int.add_comm,<-Int.sub_eq_add_neg]
 exact Int.toNat_sub n (k+1)
theorem XE(h:k+1<=n):seqIndex? (-((k:Int)+1)) n=some (n - (k+1)):=by
 have aa:(-((k:Int)+1))<0:=by lia
 have ah:0<= -((k:Int)+1)+n/\ -((k:Int)+1)+n<n:=by lia
 simp only[seqIndex?,aa,if_true,ah,decide_true,Bool.and_self]
 exact congrArg some K4
inductive IdxAt (l:List V) (i:Int) (r:V):Prop
 |pos (n:Nat) (e:i=n) (h:n<l.length) (k:l[n]? =some r)
 |neg (n:Nat) (e:i= -((n:Int)+1)) (h:n+1<=l.length) (k:l[l.length - (n+1)]? =some r)
theorem K5{l:List V}{i:Int}{r:V}(h:tQ l i=some r):IdxAt l i r:=by
 rcases i with n|n
 .exact .pos n rfl (List.getElem?_eq_some_iff.mp h).1 h
 .obtain⟨aa,ah⟩:=br h
  exact .neg n (v8 n) (fi aa) ah
theorem RdL.at{g:bA}{vs:Array Value}{ds:List PyData}{l:List V}{r:V}(aq:RdL g vs.toList ds)(aC:bX H l=some ds)(hx:l[n]? =some r):∃v,vs[n]? =some v/\VDat H g v r:=by
 obtain⟨d,XF,XG⟩:=wX aC hx
 obtain⟨v,al,kC⟩:=aq.get XF
 exact⟨v,Array.getElem?_toList.symm.trans al,d,XG,kC⟩
theorem VDat.val{v:Value}{r:V}(h:VDat H g.im v r):Val prog w H g g.im v r:=by
 obtain⟨d,aa,ah⟩:=h
 exact .g8 aa ah
section
variable {b i l u r:V}{cQ el gg gh:Value}
theorem ana(h:n<=4096): -((m:Int)+1)+(n:Int)<2^63:=by lia
theorem XH{l:List V}{i:Int}{t:Tok}(ag:cz l=true)(h:tQ l i=some r)(C:Cfg prog w H g s.heap)(ao:Val prog w H g s.heap.get? cQ (.tup l))(G:Got prog w H g s Q r):wpAny (model prog w) A (getItem cQ (.int i t)) Q E s:=by
 obtain⟨a,o,vs,n,ds,e,bx,ap,aQ,aq,aC⟩:=ao.gO
 have e1:=f4 aq aC
 have e3:=gd ag
 have T:IsTup s.heap a vs:=⟨o,C.bn _ _ bx,ap,n,aQ⟩
 rw[e]
 rcases K5 h with ⟨k,e,aj,hx⟩|⟨k,e,aj,hx⟩<;>rw[e]
 .obtain⟨v,al,kC⟩:=aq.at aC hx
  exact Ib T (by lia) (by lia) (j:=k) (by rw [e1];exact XD aj) al (G.here C kC.val _)
 .obtain⟨v,al,kC⟩:=aq.at aC hx
  exact Ib T (by lia) (by lia) (j:=l.length - (k+1)) (by rw [e1];exact XE aj) al (G.here C kC.val _)
theorem XI{l:List V}{i:Int}{t:Tok}(ag:cz l=true)(h:tQ l i=some r)(C:Cfg prog w H g s.heap)(ao:Val prog w H g s.heap.get? cQ (.list l))(G:Got prog w H g s Q r):wpAny (model prog w) A (getItem cQ (.int i t)) Q E s:=by
 obtain⟨a,vs,n,ds,e,bx,aq,aC⟩:=ao.kh
 have e1:=f4 aq aC
 have e3:=gd ag
 have T:s.heap.IsList a vs:=⟨_,bx,rfl,n,rfl⟩
 rw[e]
 rcases K5 h with ⟨k,e,aj,hx⟩|⟨k,e,aj,hx⟩<;>rw[e]
 .obtain⟨v,al,kC⟩:=aq.at aC hx
  exact wpAny_getItem_list T (by lia) (by lia) (x:=v) al (G.here C kC.val _)
 .obtain⟨v,al,kC⟩:=aq.at aC hx
  refine wpAny_getItem_list_neg T (by lia) (by lia) (by lia) (x:=v) ?_ (G.here C kC.val _)
  rw[K4,e1]
  exact al
theorem XJ(h:fE H b i=some r)(C:Cfg prog w H g s.heap)(ao:Val prog w H g s.heap.get? cQ b)(hi:Val prog w H g s.heap.get? el i)(G:Got prog w H g s Q r):wpAny (model prog w) A (getItem cQ el) Q E s:=by
 rcases b
 case tup=>
  obtain⟨j,aa,h⟩:=bD h
  rw[lp aa] at hi
  obtain⟨t,e⟩:=hi.int_inv
  rw[e]
  exact XH (br h).1 (br h).2 C ao G
 case list=>
  obtain⟨j,aa,h⟩:=bD h
  rw[lp aa] at hi
  obtain⟨t,e⟩:=hi.int_inv
  rw[e]
  exact XI (br h).1 (br h).2 C ao G
 case dict=>
  obtain⟨aj,h⟩:=br h
  obtain⟨q,bx,h⟩:=bD h
  obtain⟨ad,o,e,aG,av,D⟩:=ao
  obtain⟨K,_,knd,k,aW,aa,ah,aC⟩:=CZ C.ok D aj bx hi
  rw[e]
  rcases aC with ⟨e,_⟩|⟨u,v,d,e,al,ap,aq⟩
  .exact aI (e.symm.trans h)
  .have e:u=r:=Option.some.inj (e.symm.trans h)
   exact wpAny_getItem_of ah (aa.mapOf aG).mapOf al (G.here C (.g8 (e▸ap) aq) _)
 all_goals exact aI h
noncomputable def jk(gg gh:Value):Obj:={cls:=.type "slice",data:=.fields #[gg,gh,.none]}
theorem XK{a4:List V}(h:JK a4 l u=some r)(C:Cfg prog w H g s.heap)(ao:Val prog w H g s.heap.get? cQ (.list a4))(ag:Val prog w H g s.heap.get? gg l)(bG:Val prog w H g s.heap.get? gh u)(keep:∀a o,s.heap.get? a=some o->(s.heap.push (jk gg gh)).get? a=some o)(ct:Cfg prog w H g (s.heap.push (jk gg gh)))(G:Got prog w H g {s with heap:=s.heap.push (jk gg gh)} Q r):
  wpAny (model prog w) A (getItem cQ (.ref s.heap.objs.size)) Q E {s with heap:=s.heap.push (jk gg gh)}:=by
 obtain⟨aG,h⟩:=br h
 obtain⟨x,vs,n,ds,e,bx,aq,aC⟩:=ao.kh
 have e1:=f4 aq aC
 have e3:=gd aG
 have eN:vs.size<=sizeLine:=pl (e1▸e3)
 rw[e]
 rcases eA h with ⟨aX,h⟩|⟨_,h⟩
 .obtain⟨a,aw,h⟩:=bD h
  rw[nJ aw] at ag
  rw[pf aX] at bG
  obtain⟨t,e⟩:=ag.int_inv
  have bq:=bG.none_inv
  rw[<-Option.some.inj h] at G
  subst e bq
  refine wpAny_getItem_list_slice (lo:=some (a:Int)) (hi:=none) (st:=none) ⟨_,keep _ _ bx,rfl,n,rfl⟩ (v4 ..) (.int _ _) .none .none (by simp) ?_ eN
  rw[slicePick_from']
  exact G.list ct (by simpa using aq.drop a) (KG a aC) _
 .obtain⟨aX,h⟩:=br h
  obtain⟨a,aw,h⟩:=bD h
  rw[nJ aw] at bG
  rw[pf aX] at ag
  obtain⟨t,e⟩:=bG.int_inv
  have bq:=ag.none_inv
  rw[<-Option.some.inj h] at G
  subst e bq
  refine wpAny_getItem_list_slice (lo:=none) (hi:=some (a:Int)) (st:=none) ⟨_,keep _ _ bx,rfl,n,rfl⟩ (v4 ..) .none (.int _ _) .none (by simp) ?_ eN
  rw[slicePick_upto']
  exact G.list ct (by simpa using aq.take a) (CP a aC) _
theorem XM{a4:List V}(h:JJ l u a4=some r)(C:Cfg prog w H g s.heap)(ao:Val prog w H g s.heap.get? cQ (.tup a4))(ag:Val prog w H g s.heap.get? gg l)(bG:Val prog w H g s.heap.get? gh u)(keep:∀a o,s.heap.get? a=some o->(s.heap.push (jk gg gh)).get? a=some o)(ct:Cfg prog w H g (s.heap.push (jk gg gh)))(G:Got prog w H g {s with heap:=s.heap.push (jk gg gh)} Q r):
  wpAny (model prog w) A (getItem cQ (.ref s.heap.objs.size)) Q E {s with heap:=s.heap.push (jk gg gh)}:=by
 rcases a4 with _|⟨y,a4⟩
 .exact aI h
 obtain⟨aG,h⟩:=br h
 obtain⟨x,o,vs,n,ds,e,bx,ap,aQ,aq,aC⟩:=ao.gO
 have e1:=f4 aq aC
 have e3:=gd (aK aG).2
 rw[pf (aK (aK aG).1).1] at ag
 rw[Kf (aK (aK aG).1).2] at bG
 obtain⟨t,bq⟩:=bG.int_inv
 have XN:=ag.none_inv
 rw[<-Option.some.inj h] at G
 subst bq XN
 rw[e]
 refine XA (n:=a4.length) ⟨o,keep _ _ (C.bn _ _ bx),ap,n,aQ⟩ e1 (v4 ..) ?_ (aT (dW e1) (aT (gr e3) (by decide:4097<=sizeLine)))
 exact G.tup ct (by simpa using aq.take a4.length) (CP a4.length aC) _
theorem XO(h:o6 b l u=some r)(C:Cfg prog w H g s.heap)(ao:Val prog w H g s.heap.get? cQ b)(ag:Val prog w H g s.heap.get? gg l)(bG:Val prog w H g s.heap.get? gh u)(G:Got prog w H g s Q r):
  wpAny (model prog w) A (getItem cQ (.ref s.heap.objs.size)) Q E {s with heap:=s.heap.push (jk gg gh)}:=by
 have keep:∀a o,s.heap.get? a=some o->(s.heap.push (jk gg gh)).get? a=some o:=λa o e=>ey _ e
 have X:=Ext.grow g keep
 have uj:Got prog w H g {s with heap:=s.heap.push (jk gg gh)} Q r:=λau h' aF u a b c=>G au h' aF u (X.trans a) b c
 rcases b
 case list=>exact XK h C ao ag bG keep (C.grow keep) uj
 case tup=>exact XM h C ao ag bG keep (C.grow keep) uj
 all_goals exact aI h
theorem K6(h:o6 b l u=some r)(C:Cfg prog w H g s.heap)(ao:Val prog w H g s.heap.get? cQ b):(gw b=true/\s.TypeIs cQ "tuple")\/(gw b=false/\s.TypeIs cQ "list"):=by
 rcases b
 case list=>obtain⟨x,vs,n,ds,e,bx,aq,aC⟩:=ao.kh;rw[e];exact .inr ⟨rfl,_,bx,rfl⟩
 case tup=>obtain⟨x,o,vs,n,ds,e,bx,ap,aQ,aq,aC⟩:=ao.gO;rw[e];exact .inl ⟨rfl,_,C.bn _ _ bx,ap⟩
 all_goals exact aI h
end
end
theorem XQ:typeLookup (.type "dict") "__len__"=pure (some (.builtin "dict.__len__")):=F.slot_dict_len.lookup
section
theorem XR{d:Addr}{aW:List (Int×Value)}{ca:Nat}{Q:List Value->Shared->Prop}(hh:A.handled=none)(aQ:(d==sysModules)=false)(av:s.heap.DictAt (intKind prog w) d aW ca)(aX:aW.length<=4096)(ak:∀h' aF acc,(∀b o,s.heap.get? b=some o->h'.get? b=some o)->s.heap.objs.size<=h'.objs.size->ItemsOf (λi v=>∃k x,aW[i]? =some (k,x)/\(intKind prog w).is k v=true) acc aW.length->Q acc.toList {s with heap:=h',toks:=aF}):
  wpAny (model prog w) A (collect (.ref d)) Q E s:=by
 have fJ:d<s.heap.objs.size:=by obtain ⟨o,es,aG,_⟩:=av;exact gs aG
 have C1:s.heap.objs.size≠d:=λe=>qX _ (e▸fJ)
 unfold collect
 refine wpAny_bind (wpAny_runValue (codeAny_builtin F.entry_proto_collect ?_))
 rw[Around.under_plainId F.plain_proto_collect _]
 show wpAny _ A.in1 (newList []>>=λl=>again (.builtin "list.__iadd__" ⟨[l,.ref d],[]⟩)) _ _ s
 refine wpAny_bind (wpAny_newObj_type ?_)
 refine wpAny_pure ⟨plainId_quiet F.plain_list_iadd _,codeAny_builtin F.entry_list_iadd ?_⟩
 rw[Around.under_plainId F.plain_list_iadd _]
 have C2:(s.heap.push {cls:=.type "list",data:=.seq ([]:List Value).toArray}).DictAt (intKind prog w) d aW ca:=av.at' λo e=>ey _ e
 have lq:({s with heap:=s.heap.push {cls:=.type "list",data:=.seq ([]:List Value).toArray}}:Shared).TypeIs (.ref d) "dict":=C2.dictOf.typeIs
 have aa:Builtin.List.listSameRef (.ref s.heap.objs.size) (.ref d)=false:=by simp [Builtin.List.listSameRef,C1]
 show wpAny _ A.in1 (Builtin.List.listExtendWith (.ref s.heap.objs.size) (.ref d) (.ref s.heap.objs.size)) _ _ _
 unfold Builtin.List.listExtendWith
 refine wpAny_bind (wpAny_typeOf lq ?_)
 rw[if_neg (by rw [aa];decide)]
 refine wpAny_bind (wpAny_pyIter_dict aQ C2 ?_)
 refine wpAny_bind (wpAny_holding ?_)
 have C3:((s.heap.push {cls:=.type "list",data:=.seq ([]:List Value).toArray}).push {cls:=.type "dict_keyiterator",data:=.fields #[.ref d,.int 0 0,.int aW.length 0,.int ca 0]}).DictAt (intKind prog w) d aW ca:=C2.push _
 have w1:({s with heap:=(s.heap.push {cls:=.type "list",data:=.seq ([]:List Value).toArray}).push {cls:=.type "dict_keyiterator",data:=.fields #[.ref d,.int 0 0,.int aW.length 0,.int ca 0]}}:Shared).TypeIs (.ref d) "dict":=C3.dictOf.typeIs
 unfold Builtin.List.listLengthHint
 refine wpAny_bind (wpAny_specialOf w1 XQ ?_)
 (generalize C4:("dict.__len__":String)=K7;(fail_if_success (clear C4 K7));wp_delta;rw[show splitId K7=some ("dict","__len__") from by subst C4;decide+kernel];subst C4)
 refine wpAny_bind (wpAny_isInstance (b:=true) w1 (by rw [isSubtype_type];rfl') ?_)
 rw[if_neg (by decide)]
 dsimp only
 rw[if_pos (by decide+kernel)]
 refine wpAny_bind (wpAny_typeOf w1 ?_)
 dsimp only
 refine wpAny_pure ?_
 rw[if_pos (by decide+kernel)]
 show wpAny _ A.in1 (rule "list.extend.makes-room">>=λ_=>Builtin.List.listTouch (.ref s.heap.objs.size)>>=λ_=>
  again (.builtin "list.extend.loop" ⟨[.ref s.heap.objs.size,.ref (s.heap.push {cls:=.type "list",data:=.seq ([]:List Value).toArray}).objs.size,.ref s.heap.objs.size],[]⟩)) _ _ _
 refine wpAny_bind (wpAny_rule ?_)
 have uk:(s.heap.push {cls:=.type "list",data:=.seq ([]:List Value).toArray}).objs.size=s.heap.objs.size+1:=kl ..
 generalize w2:(s.heap.push {cls:=.type "list",data:=.seq ([]:List Value).toArray}).push {cls:=.type "dict_keyiterator",data:=.fields #[.ref d,.int 0 0,.int aW.length 0,.int ca 0]}=H1 at C3 w1
 have XS:H1.get? (s.heap.objs.size+1)=some {cls:=.type "dict_keyiterator",data:=.fields #[.ref d,.int 0 0,.int aW.length 0,.int ca 0]}:=by
  rw[<-w2,<-uk];exact ez _ rfl
 have K8:H1.get? s.heap.objs.size=some {cls:=.type "list",data:=.seq ([]:List Value).toArray}:=by
  rw[<-w2];exact ey _ (ez _ rfl)
 have hold:∀b o,s.heap.get? b=some o->H1.get? b=some o:=λb o e=>by rw [<-w2];exact ey _ (ey _ e)
 have anb:H1.objs.size=s.heap.objs.size+2:=by rw [<-w2,kl,uk]
 refine wpAny_bind ?_
 show wpAny _ A.in1 (updateSeq s.heap.objs.size (·.push .none)>>=λ_=>updateSeq s.heap.objs.size (·.pop)) _ _ _
 refine wpAny_bind (wpAny_updateSeq K8 rfl ?_)
 have K9:=v1 (Obj.mapSeq (·.push Value.none)) K8 rfl
 refine wpAny_updateSeq K9 rfl ?_
 have XT:=v1 (Obj.mapSeq (·.pop)) K9 rfl
 have eo:∀b o,b≠s.heap.objs.size->H1.get? b=some o->((H1.update s.heap.objs.size (Obj.mapSeq (·.push Value.none))).update s.heap.objs.size (Obj.mapSeq (·.pop))).get? b=some o:=
  λb o ao e=>(Heap.get?_update_other _ _ (Ne.symm ao)).trans ((Heap.get?_update_other _ _ (Ne.symm ao)).trans e)
 have XU:d≠s.heap.objs.size+1:=gP (qQ fJ)
 have gD:s.heap.objs.size+1≠s.heap.objs.size:=qS _
 have dS:aW.length<=sizeLine:=aT aX (by decide)
 have XV:s.heap.objs.size∉[s.heap.objs.size+1,d]:=by simp [C1]
 have XW:∀i:Nat,i=0->(((H1.update s.heap.objs.size (Obj.mapSeq (·.push Value.none))).update s.heap.objs.size (Obj.mapSeq (·.pop))).IsKeyIter (s.heap.objs.size+1) d i aW.length ca/\
   ((H1.update s.heap.objs.size (Obj.mapSeq (·.push Value.none))).update s.heap.objs.size (Obj.mapSeq (·.pop))).DictAt (intKind prog w) d aW ca):=by
  rintro i rfl
  exact⟨⟨_,eo _ _ gD XS,rfl,rfl⟩,C3.at' λo e=>eo _ _ (Ne.symm C1) e⟩
 rw[uk]
 refine wpAny_pure ⟨plainId_quiet F.plain_extend_loop _,codeAny_extend_loopS (Walks.dictKeys (A:=A.in1) (knd:=intKind prog w) hh (s.heap.objs.size+1) d XU aW ca).toS dS _ XV _ aW.length 0 _ _ _ rfl (iB _)
  (XW 0 rfl) XT (ItemsOf.nil _) λbQ XX aP av C5 rE=>?_⟩
 show wpAny _ A (load s.heap.objs.size>>=_) _ _ bQ
 refine wpAny_bind (wpAny_load C5 ?_)
 obtain⟨cC,cA,iL,lw,ul⟩:=av
 obtain⟨XY,au,mv,jW,b9⟩:=bQ
 dsimp only at cC cA iL lw ul C5 rE
 subst cA iL lw
 refine wpAny_pure (ak XY jW XX (λb o e=>?_) ?_ rE)
 .have ao:b<s.heap.objs.size:=gs e
  have kD:b≠s.heap.objs.size:=gP ao
  have XZ:b≠s.heap.objs.size+1:=gP (qQ ao)
  exact cC b o (by simp [kD,XZ]) (eo b o kD (hold b o e))
 .exact jH (gs C5)
theorem X0{k:Int}{v:Value}(h:(intKind prog w).is k v=true):∃t,v= .int k t:=Value.isInt_shape h
theorem ints_of{aW:List (Int×Value)}{l:List Value}(ag:l.length=aW.length)(h:∀(j:Nat) v,l[j]? =some v->∃k x,aW[j]? =some (k,x)/\(intKind prog w).is k v=true):IntsAre l (aW.map (·.1)):=by
 induction aW generalizing l with
 |nil=>cases l with
  |nil=>exact .nil
  |cons=>simp at ag
 |cons p aW bg=>
  rcases l with _|⟨v,l⟩
  .simp at ag
  .obtain⟨k,x,aa,ah⟩:=h 0 v rfl
   obtain⟨t,rfl⟩:=X0 ah
   simp only[List.getElem?_cons_zero,Option.some.injEq] at aa
   subst aa
   exact .cons k t (bg (by simpa using ag) λj v bt=>by simpa using h (j+1) v (by simpa using bt))
theorem X1{d:Addr}{aW:List (Int×Value)}(hh:A.handled=none)(aQ:(d==sysModules)=false)(av:s.heap.DictOf (intKind prog w) d aW)(X2:aW.length<64)(h:∀h' aF a (out:Array Value) (po:List Int) e,(∀b o,s.heap.get? b=some o->h'.get? b=some o)->s.heap.objs.size<=a->s.heap.objs.size<=h'.objs.size->h'.get? a=some (seqObj "list" out e)->
   IntsAre out.toList po->po.Perm (aW.map (·.1))->po.Pairwise (· <= ·)->Q (.ref a) {s with heap:=h',toks:=aF}):
  wpAny (model prog w) A (call (.builtin "sorted") [.ref d]) Q E s:=by
 obtain⟨ca,av⟩:=av.dictAt
 refine Calls.call_function_entry kind_sorted plain_sorted entry_sorted (args_sorted1 _) ?_
 unfold Builtin.«sorted»
 refine wpAny_bind (m:=checkCount "sorted" 1 1 _) (wpAny_pure ?_)
 refine wpAny_bind (XR hh aQ av (by lia) λU aF acc aj aJ rE=>?_)
 have hI:IntsAre acc.toList (aW.map (·.1)):=ints_of (prog:=prog) (w:=w) (by simpa using rE.1) λj v bt=>rE.2 j v (by simpa using bt)
 have eB:acc.toList.length<64:=by have:=rE.1;simpa [this] using X2
 have anc:acc.toList.toArray.size<=sizeLine:=by have:(64:Nat)<=sizeLine:=(by decide);simp only[qP];lia
 refine wpAny_bind (wpAny_newList ?_ (by have:(64:Nat)<=sizeLine:=(by decide);lia))
 have pq:(U.push (seqObj "list" acc.toList.toArray 0)).get? U.objs.size=some (seqObj "list" acc.toList.toArray 0):=ez _ rfl
 show wpAny _ _ _ _ _ {s with heap:=U.push (seqObj "list" acc.toList.toArray 0),toks:=aF}
 refine wpAny_bind (wpAny_holding (wpAny_call_entry slot_list_sort ⟨_,pq,rfl⟩ entry_list_sort (list_sort_tree pq hI eB λout po en er e4=>⟨_,rfl,?_⟩) (args_list_sort _)))
 obtain⟨e,cL⟩:=sortedHeap_at (vs:=acc.toList) (out:=out) pq
 refine wpAny_pure ⟨_,rfl,h _ aF U.objs.size out po e (λb o d8=>?_) aJ ?_ cL en er e4⟩
 .have ao:=gs (aj b o d8)
  rw[sortedHeap_old (gP ao) (by rw [size_push'];exact qQ ao)]
  exact ey _ (aj b o d8)
 .exact aT aJ (jH (gs cL))
end
theorem X3{a b:List Int}(p:a.Perm b)(h:a.Pairwise (· <= ·))(k:b.Pairwise (· <= ·)):a=b:=
 List.Perm.eq_of_pairwise (λ_ _ _ _ a b=>Int.le_antisymm a b) h k p
section
def pr(H:T)(l:List V)(ns:List Int):Prop:=bX H l=some (ns.map PyData.int)
inductive CI (H:T) (u:V) (aU:List V) (ns:List Int):Prop
 |mk (i:Int) (ms:List Int) (e:ns=i::ms) (h:bI H u=some (.int i)) (k:pr H aU ms)
theorem La{aU:List V}{ns:List Int}(h:pr H (u::aU) ns):CI H u aU ns:=by
 obtain⟨d,m,e,aQ,av⟩:=fa h
 rcases ns with _|⟨i,ms⟩
 .exact nomatch e
 .injection e with e1 e2
  exact⟨i,ms,rfl,e1▸aQ,av.trans (congrArg some e2.symm)⟩
theorem Lb{ns:List Int}(h:pr H [] ns):ns=[]:=by
 rcases ns with _|⟨i,ms⟩
 .rfl
 .exact nomatch Option.some.inj h
theorem C6{r:V}{i:Int}(h:bI H (.ty r)=some (.int i)):∃k:Nat,dL r H.dyn 0=some k/\i=((H.base.length+k:Nat):Int):=by
 obtain⟨k,_,f,e⟩:=hB h
 exact⟨k,f,PyData.int.inj e⟩
theorem um{x i:Int}(h:bI H (.int x)=some (.int i)):x=i:=PyData.int.inj (Option.some.inj h)
theorem C7{x:Int}(h:x<n):x<((n+k:Nat):Int):=by lia
theorem X4{a b:V}{t:Bool}{i j:Int}(h:H.le a b=some t)(aw:bI H a=some (.int i))(ao:bI H b=some (.int j)):t=decide (i<=j):=by
 rcases a
 case int=>
  rw[<-um aw]
  rcases b
  case int=>rw[<-um ao,C0];exact(Option.some.inj h).symm
  case ty=>
   obtain⟨k,_,e⟩:=C6 ao
   rw[e,<-Option.some.inj (br h).2]
   exact(decide_eq_true (Int.le_of_lt (C7 (iLt_iff.mp (br h).1)))).symm
  all_goals exact aI h
 case ty=>
  obtain⟨k,fH,e⟩:=C6 aw
  rw[e]
  rcases b
  case int=>
   rw[<-um ao,<-Option.some.inj (br h).2]
   exact(decide_eq_false (Int.not_le.mpr (C7 (iLt_iff.mp (br h).1)))).symm
  case ty=>
   obtain⟨l,gC,e⟩:=C6 ao
   rw[e,<-Option.some.inj (br h).2]
   unfold T.pos
   rw[fH,gC]
   show Nat.ble k l=_
   rw[i5,Nat.ble_eq,decide_eq_true_iff,Int.ofNat_le]
   exact⟨λh=>dh h _,Nat.le_of_add_le_add_left⟩
  all_goals exact aI h
 all_goals exact aI h
inductive Srt (H:T) (m:List V) (ns:List Int):Prop
 |mk (ms:List Int) (h:pr H m ms) (p:ms.Perm ns) (s:ms.Pairwise (· <= ·))
theorem Lc{x:V}{i:Int}(hx:bI H x=some (.int i)):∀{l m:List V}{ns:List Int},H.ins x l=some m->pr H l ns->ns.Pairwise (· <= ·)->Srt H m (i::ns)
 |[],m,ns,h,ag,_=>by
  rw[Lb ag,<-Option.some.inj h]
  exact⟨[i],h9 hx rfl,.refl _,List.pairwise_singleton _ _⟩
 |y::r,m,ns,h,ag,aJ=>by
  obtain⟨j,ms,e,bt,av⟩:=La ag
  obtain⟨t,g,h⟩:=bD h
  have this:=X4 g hx bt
  rw[e] at aJ |-
  have aS:=List.pairwise_cons.mp aJ
  rcases t with _|_
  .have lx:j<=i:=Int.le_of_lt (Int.not_le.mp (of_decide_eq_false this.symm))
   obtain⟨jl,h',e⟩:=bD h
   obtain⟨ks,en,er,e4⟩:=Lc hx h' av aS.2
   rw[<-Option.some.inj e]
   exact⟨j::ks,h9 bt en,(List.Perm.cons j er).trans (List.Perm.swap i j ms),List.pairwise_cons.mpr ⟨λz bi=>(List.mem_cons.mp (er.mem_iff.mp bi)).elim (λe=>e▸lx) (aS.1 z),e4⟩⟩
  .have lx:i<=j:=of_decide_eq_true this.symm
   rw[<-Option.some.inj h]
   exact⟨i::j::ms,h9 hx (h9 bt av),.refl _,List.pairwise_cons.mpr ⟨λz bi=>(List.mem_cons.mp bi).elim (λe=>e▸lx) λbi=>Int.le_trans lx (aS.1 z bi),aJ⟩⟩
theorem Ld:∀{l m:List V}{ns:List Int},H.sort l=some m->pr H l ns->Srt H m ns
 |[],m,ns,h,ag=>by rw [Lb ag,<-Option.some.inj h];exact⟨[],rfl,.refl _,.nil⟩
 |x::r,m,ns,h,ag=>by
  obtain⟨i,po,e,hi,aq⟩:=La ag
  obtain⟨d7,aa,ah⟩:=bD h
  obtain⟨ks,en,er,e4⟩:=Ld aa aq
  obtain⟨ms,hg,gV,hj⟩:=Lc hi ah en e4
  rw[e]
  exact⟨ms,hg,gV.trans (List.Perm.cons i er),hj⟩
theorem X5{im:bA}{vs:List Value}{ns:List Int}(h:IntsAre vs ns):RdL im vs (ns.map .int):=by
 induction h with
 |nil=>exact .nil
 |cons n t r bg=>exact .cons (.int n t) bg
end
def pu (x:Str):Value:=cond (a9 x tT) (.type "tuple") (cond (a9 x dy) (.builtin "len") (cond (a9 x wt) (.builtin "all") (cond (a9 x tR) (.builtin "any") (cond (a9 x tS) (.builtin "sorted") (cond (a9 x Cc) (.builtin "min") (.builtin "max"))))))
section
inductive ValsH (prog:Program) (w:World) (H:T) (g:Gh) (h:Heap):List Value->List V->Prop
 |nil:ValsH prog w H g h [] []
 |cons {v:Value} {x:V} {vs:List Value} {a4:List V}:Val prog w H g h.get? v x->ValsH prog w H g h vs a4->ValsH prog w H g h (v::vs) (x::a4)
inductive ValHC (prog:Program) (w:World) (H:T) (g:Gh) (h:Heap) (vs:List Value) (x:V) (a4:List V):Prop
 |mk (v:Value) (aU:List Value) (e:vs=v::aU) (a:Val prog w H g h.get? v x) (r:ValsH prog w H g h aU a4)
noncomputable def Le(prog:Program)(w:World)(H:T)(g:Gh)(h:Heap)(vs:List Value):List V->Prop
 |[]=>vs=[]
 |x::a4=>ValHC prog w H g h vs x a4
theorem ValsH.dat{vs:List Value}{a4:List V}(q:ValsH prog w H g h vs a4):Le prog w H g h vs a4:=
 ValsH.casesOn (motive:=λvs a4 _=>Le prog w H g h vs a4) q rfl λa r=>⟨_,_,rfl,a,r⟩
theorem ValsH.one{vs:List Value}{x:V}(q:ValsH prog w H g h vs [x]):∃v,vs=[v]/\Val prog w H g h.get? v x:=by
 obtain⟨v,aU,e,a,r⟩:=q.dat
 rw[e,r.dat];exact⟨_,rfl,a⟩
theorem ValsH.two{vs:List Value}{x y:V}(q:ValsH prog w H g h vs [x,y]):∃v u,vs=[v,u]/\Val prog w H g h.get? v x/\Val prog w H g h.get? u y:=by
 obtain⟨v,aU,e,a,r⟩:=q.dat
 obtain⟨u,eI,bq,b,r⟩:=r.dat
 rw[e,bq,r.dat];exact⟨_,_,rfl,a,b⟩
theorem X6{im:bA}{l:List (V×V)}{aW:List (Int×Value)}(h:Kvs .int H im l aW):pr H (l.map (·.1)) (aW.map (·.1)):=by
 induction h with
 |nil=>rfl
 |cons a b c d bg=>exact h9 a bg
theorem pv{K:Type}{c7:K->PyData}{im:bA}{l:List (V×V)}{aW:List (K×Value)}(h:Kvs c7 H im l aW):l.length=aW.length:=by
 induction h with
 |nil=>rfl
 |cons a b c d bg=>exact congrArg Nat.succ bg
theorem X7{v:V}(h:mj v=true):isStr v=false:=by
 rcases v
 case str=>exact nomatch h
 all_goals rfl
theorem X8{im:bA}:∀{l:List (V×V)}{aW:List (Str×Value)},Kvs .str H im l aW->(l.all λp=>mj p.1)=true->l=[]/\aW=[]
 |[],_,k,_=>⟨rfl,k.dat⟩
 |p::l,_,q,h=>by
  obtain⟨j,v,d,aW,e,aa,ah,aC,bC⟩:=q.dat
  have:=(X7 (aK h).1).symm.trans (CY _ _ aa)
  exact nomatch this
theorem Lf{im:bA}:∀{l:List V}{bs:List Bool}{vs:List Value}{ds:List PyData},rk l=some bs->bX H l=some ds->RdL im vs ds->vs=bs.map Value.bool
 |[],_,_,_,h,k,r=>by rw [<-Option.some.inj k] at r;rw[r.dat,<-Option.some.inj h];rfl
 |u::aU,bs,vs,ds,h,k,r=>by
  obtain⟨b,aa,h⟩:=bD h
  obtain⟨ane,ah,h⟩:=bD h
  obtain⟨d,m,e,aQ,av⟩:=fa k
  rw[wI aa] at aQ
  rw[e,<-Option.some.inj aQ] at r
  obtain⟨v,aU,e,a,b⟩:=r.dat
  rw[e,a.dat,Lf ah av b,<-Option.some.inj h];rfl
theorem X9{vs:Array Value}{bs:List Bool}(hh:A.handled=none)(ag:s.heap.IsList a vs)(ao:vs.toList=bs.map Value.bool)(h:∀h' aF,(∀b o,s.heap.get? b=some o->h'.get? b=some o)->Q (.bool (bs.all id)) {s with heap:=h',toks:=aF}):wpAny (model prog w) A (call (.builtin "all") [.ref a]) Q E s:=by
 have fJ:a<s.heap.objs.size:=by obtain ⟨o,aG,_⟩:=ag;exact gs aG
 refine call_all_walk (wpAny_pyIter_list ag ⟨_,_,_,_,_,_,λi=>bs.getD i false,rfl,we (A:=A.in1) hh s.heap.objs.size a (gP fJ) vs,⟨⟨_,ez _ rfl,rfl,rfl⟩,ag.push _⟩,?_,λh' aF aj=>?_⟩)
 .intro i v c1 Yb Yc hi ak
  have al:(bs.map Value.bool)[i]? =some v:=by rw [<-ao];simpa using hi
  rw[ni] at al
  obtain⟨b,kD,rfl⟩:=nk al
  refine wpAny_truthy_bool ?_
  simpa [List.getD,kD] using ak
 .have aJ:vs.size=bs.length:=by have:=congrArg List.length ao;simpa using this
  have:(List.range vs.size).all (λi=>bs.getD i false)=bs.all id:=by
   rw[aJ]
   rw[i5,List.all_eq_true,List.all_eq_true]
   constructor
   .intro h x hx
    obtain⟨i,hi,rfl⟩:=List.mem_iff_getElem.mp hx
    have:=h i (List.mem_range.mpr hi)
    simpa [List.getD,hi] using this
   .intro h i hi
    have iM:=List.mem_range.mp hi
    have:=h bs[i] (zN iM)
    simpa [List.getD,iM] using this
  rw[this]
  refine h h' aF λb o e=>aj b o ?_ (ey _ e)
  have:=gs e
  simp only[zJ]
  exact gP this
theorem Yd{vs:Array Value}{bs:List Bool}(hh:A.handled=none)(ag:s.heap.IsList a vs)(ao:vs.toList=bs.map Value.bool)(h:∀h' aF,(∀b o,s.heap.get? b=some o->h'.get? b=some o)->Q (.bool (bs.any id)) {s with heap:=h',toks:=aF}):wpAny (model prog w) A (call (.builtin "any") [.ref a]) Q E s:=by
 have fJ:a<s.heap.objs.size:=by obtain ⟨o,aG,_⟩:=ag;exact gs aG
 refine call_any_walk (wpAny_pyIter_list ag ⟨_,_,_,_,_,_,λi=>bs.getD i false,rfl,we (A:=A.in1) hh s.heap.objs.size a (gP fJ) vs,⟨⟨_,ez _ rfl,rfl,rfl⟩,ag.push _⟩,?_,λh' aF aj=>?_⟩)
 .intro i v c1 Yb Yc hi ak
  have al:(bs.map Value.bool)[i]? =some v:=by rw [<-ao];simpa using hi
  rw[ni] at al
  obtain⟨b,kD,rfl⟩:=nk al
  refine wpAny_truthy_bool ?_
  simpa [List.getD,kD] using ak
 .have aJ:vs.size=bs.length:=by have:=congrArg List.length ao;simpa using this
  have:(List.range vs.size).any (λi=>bs.getD i false)=bs.any id:=by
   rw[aJ]
   rw[i5,tt,tt]
   constructor
   .rintro⟨i,hi,h⟩
    have iM:=List.mem_range.mp hi
    exact⟨bs[i],zN iM,by simpa [List.getD,iM] using h⟩
   .rintro⟨x,hx,h⟩
    obtain⟨i,hi,rfl⟩:=List.mem_iff_getElem.mp hx
    exact⟨i,List.mem_range.mpr hi,by simpa [List.getD,hi] using h⟩
  rw[this]
  refine h h' aF λb o e=>aj b o ?_ (ey _ e)
  have:=gs e
  simp only[zJ]
  exact gP this
end
section
theorem Got.grow{r:V}(G:Got prog w H g s Q r)(C:Cfg prog w H g s.heap)(aj:∀b o,s.heap.get? b=some o->h'.get? b=some o){u:Value}(bG:Val prog w H g g.im u r)(aF:Nat):Q u {s with heap:=h',toks:=aF}:=
 G g h' aF u (Ext.grow g aj) (C.grow aj) bG
theorem Got.fresh{r:V}(G:Got prog w H g s Q r)(C:Cfg prog w H g s.heap)(aj:∀b o,s.heap.get? b=some o->h'.get? b=some o){o:Obj}(aw:s.heap.get? a=none)(e:h'.get? a=some o)(bG:Val prog w H (g.add a o) (g.add a o).im (.ref a) r)(aF:Nat):Q (.ref a) {s with heap:=h',toks:=aF}:=
 G _ _ aF _ (C.add aw e aj).1 (C.add aw e aj).2 bG
section
variable {as:List V}{r:V}{vs:List Value}
theorem nN{α:Type}{l:List α}{a:α}(h:fD l=some a):l=[a]:=by
 rcases l with _|⟨b,_|⟨c,l⟩⟩
 .exact aI h
 .exact congrArg (λx=>[x]) (Option.some.inj h)
 .exact aI h
theorem rF{α:Type}{l:List α}{q:α×α}(h:mn l=some q):l=[q.1,q.2]:=by
 rcases l with _|⟨b,l⟩
 .exact aI h
 .obtain⟨c,e,h⟩:=bD h
  rw[nN e,<-Option.some.inj h]
inductive One1 (prog:Program) (w:World) (H:T) (g:Gh) (h:Heap) (vs:List Value) (f:V->Option V) (r:V):Prop
 |mk (u:V) (v:Value) (e:vs=[v]) (h:Val prog w H g h.get? v u) (k:f u=some r)
theorem ValsH.vV{f:V->Option V}(q:ValsH prog w H g h vs as)(k:od (fD as) f=some r):One1 prog w H g h vs f r:=by
 obtain⟨u,e,k⟩:=bD k
 rw[nN e] at q
 obtain⟨v,e,al⟩:=q.one
 exact⟨u,v,e,al,k⟩
theorem Got.int(G:Got prog w H g s Q r)(C:Cfg prog w H g s.heap){i:Int}(h:some (V.int i)=some r)(t:Tok)(aF:Nat):Q (.int i t) {s with toks:=aF}:=G.here C (gb h (P:=Val prog w H g g.im _) (.int i t)) aF
theorem Ye(h:od (fD as) Cf=some r)(C:Cfg prog w H g s.heap)(gE:ValsH prog w H g s.heap vs as)(G:Got prog w H g s Q r):wpAny (model prog w) A (call (.builtin "len") vs) Q E s:=by
 obtain⟨u,v,e,al,h⟩:=gE.vV h
 rw[e]
 rcases u
 case tup=>
  obtain⟨ag,h⟩:=br h
  obtain⟨a,o,vs,n,ds,e,bx,ap,aQ,aq,aC⟩:=al.gO
  have e1:=f4 aq aC
  rw[e]
  exact len_tuple ⟨o,C.bn _ _ bx,ap,n,aQ⟩ (rA (e1▸gd ag)) (G.int C (e1▸h) _ _)
 case list=>
  obtain⟨ag,h⟩:=br h
  obtain⟨a,vs,n,ds,e,bx,aq,aC⟩:=al.kh
  have e1:=f4 aq aC
  rw[e]
  exact len_list ⟨_,bx,rfl,n,rfl⟩ (rA (e1▸gd ag)) (G.int C (e1▸h) _ _)
 case dict=>
  obtain⟨ag,h⟩:=br h
  obtain⟨ad,o,e,aG,av,D⟩:=al
  rw[e]
  rcases D with ⟨aW,aa,ah⟩|⟨aW,aa,ah⟩
  .exact call_len_dict av (aa.mapOf aG) (rA (pv ah▸gd ag)) (G.int C (pv ah▸h) _ _)
  .exact call_len_dict av (aa.mapOf aG) (rA (pv ah▸gd ag)) (G.int C (pv ah▸h) _ _)
 all_goals exact aI h
inductive BoolL (h:Heap) (f:List Bool->Bool) (v:Value) (r:V):Prop
 |mk (a:Addr) (vs:Array Value) (bs:List Bool) (e:v= .ref a) (l:h.IsList a vs) (b:vs.toList=bs.map Value.bool) (k:r= .bool (f bs))
theorem Lg{v:Value}{f:List Bool->Bool}(al:Val prog w H g h.get? v u)(k:rm f u=some r):BoolL h f v r:=by
 obtain⟨l,e,k⟩:=bD k
 obtain⟨_,k⟩:=br k
 obtain⟨bs,ao,k⟩:=bD k
 rw[t4 e] at al
 obtain⟨a,vs,n,ds,e,bx,aq,aC⟩:=al.kh
 exact⟨a,vs,bs,e,⟨_,bx,rfl,n,rfl⟩,Lf ao aC aq,(Option.some.inj k).symm⟩
theorem Yg(h:od (fD as) (Cg H)=some r)(C:Cfg prog w H g s.heap)(R:Room A n)(gE:ValsH prog w H g s.heap vs as)(G:Got prog w H g s Q r):wpAny (model prog w) A (call (.builtin "sorted") vs) Q E s:=by
 obtain⟨u,v,e,al,h⟩:=gE.vV h
 rw[e]
 obtain⟨l,e,h⟩:=bD h
 obtain⟨ag,h⟩:=br h
 obtain⟨m,ly,h⟩:=bD h
 rw[<-Option.some.inj h] at G
 rw[Cw e] at al
 obtain⟨ad,o,e,aG,av,D⟩:=al
 rw[e]
 have key:∃aW,ObjDict prog w (intKind prog w) o aW/\Kvs .int H g.im l aW:=by
  rcases D with ⟨aW,aa,ah⟩|⟨aW,aa,ah⟩
  .exact⟨aW,aa,ah⟩
  .obtain⟨e1,e2⟩:=X8 ah (aK ag).2
   rw[e2] at aa
   rw[e1]
   exact⟨[],aa.empty,.nil⟩
 obtain⟨aW,aa,ah⟩:=key
 obtain⟨ms,en,er,e4⟩:=Ld ly (X6 ah)
 refine X1 R.handled av (aa.mapOf aG) (Nat.lt_succ_of_le (pv ah▸fi (aK ag).1)) λh' aF a out po e aj aw aJ cL hH iK C8=>?_
 have aX:s.heap.get? a=none:=by
  rcases q:s.heap.get? a with _|o
  .rfl
  .exact absurd (gs q) (Nat.not_lt.mpr aw)
 rw[<-X3 (iK.trans er.symm) C8 e4] at en
 exact G.fresh C aj aX cL ⟨_,out,e,_,rfl,Gh.jA _ _ _,(X5 hH).add (C.g7 aX),en⟩ _
theorem Yh(h:od (fD as) Ch=some r)(C:Cfg prog w H g s.heap)(gE:ValsH prog w H g s.heap vs as)(G:Got prog w H g s Q r):wpAny (model prog w) A (call (.type "tuple") vs) Q E s:=by
 obtain⟨u,v,e,al,h⟩:=gE.vV h
 rw[e]
 rcases u
 case list=>
  obtain⟨ag,h⟩:=br h
  rw[<-Option.some.inj h] at G
  obtain⟨a,vs,n,ds,e,bx,aq,aC⟩:=al.kh
  rw[e]
  refine call_tuple_list ⟨_,bx,rfl,n,rfl⟩ (λh' aj=>?_) (pl (f4 aq aC▸gd ag))
  have aX:s.heap.get? h'.objs.size=none:=gU (λa o e=>⟨o,aj a o e⟩) (ji h')
  exact G.fresh C (λb o e=>ey _ (aj b o e)) aX (ez _ rfl) (.g8 (ud aC) (.tup (Gh.jA _ _ _) rfl rfl (aq.add (C.g7 aX)))) _
 case tup=>
  rw[<-Option.some.inj h] at G
  obtain⟨a,o,vs,n,ds,e,bx,ap,aQ,aq,aC⟩:=al.gO
  rw[e]
  exact call_tuple_tup ⟨o,C.bn _ _ bx,ap,n,aQ⟩ (G.here C (.g8 (ud aC) (.tup bx ap aQ aq)) _)
 all_goals exact aI h
inductive Two2 (vs:List Value) (f:Int->Int->Int) (r:V):Prop
 |mk (i j:Int) (t u:Tok) (e:vs=[.int i t,.int j u]) (k:r= .int (f i j))
theorem Lh{f:Int->Int->Int}(q:ValsH prog w H g h vs as)(k:od (mn as) (Ci f)=some r):Two2 vs f r:=by
 obtain⟨⟨a,b⟩,e,k⟩:=bD k
 rw[rF e] at q
 obtain⟨v,u,e,aa,ah⟩:=q.two
 obtain⟨i,j,t,u,e1,e2,k⟩:=mD k aa ah
 exact⟨i,j,t,u,by rw [e,e1,e2],(Option.some.inj k).symm⟩
theorem Li(i j a b:Int):cond (e0 i j) a b=if i<j then a else b:=by
 rcases e:e0 i j with _|_
 .exact(if_neg λq=>by rw [iLt_iff.mpr q] at e;exact nomatch e).symm
 .exact(if_pos (iLt_iff.mp e)).symm
theorem Yi(h:f1 H x as=some r)(C:Cfg prog w H g s.heap)(R:Room A n)(gE:ValsH prog w H g s.heap vs as)(G:Got prog w H g s Q r):wpAny (model prog w) A (call (pu x) vs) Q E s:=by
 have hh:=R.handled
 have up:∀{y:Str},a9 x y=true->pu x=pu y:=λh=>congrArg pu (sEq_iff.mp h)
 rcases eA h with ⟨hx,h⟩|⟨_,h⟩
 .rw[up hx];exact Ye h C gE G
 rcases eA h with ⟨hx,h⟩|⟨_,h⟩
 .obtain⟨u,v,e,al,h⟩:=gE.vV h
  obtain⟨a,eI,bs,bq,l,b,k⟩:=Lg al h
  rw[up hx,e,bq]
  exact X9 hh l b λh' aF aj=>G.grow C aj (k▸ .bool _) _
 rcases eA h with ⟨hx,h⟩|⟨_,h⟩
 .obtain⟨u,v,e,al,h⟩:=gE.vV h
  obtain⟨a,eI,bs,bq,l,b,k⟩:=Lg al h
  rw[up hx,e,bq]
  exact Yd hh l b λh' aF aj=>G.grow C aj (k▸ .bool _) _
 rcases eA h with ⟨hx,h⟩|⟨_,h⟩
 .rw[up hx];exact Yg h C R gE G
 rcases eA h with ⟨hx,h⟩|⟨_,h⟩
 .rw[up hx];exact Yh h C gE G
 rcases eA h with ⟨hx,h⟩|⟨_,h⟩
 .obtain⟨i,j,t,u,e,k⟩:=Lh gE h
  rw[up hx,e]
  have k:r= .int (if j<i then j else i):=k.trans (congrArg _ (Li ..))
  refine min_two_ints hh λh' aF aj=>?_
  rcases eR (j<i) with c|c
  .rw[if_pos c] at k |-;exact G.grow C aj (k▸ .int _ _) _
  .rw[if_neg c] at k |-;exact G.grow C aj (k▸ .int _ _) _
 .obtain⟨hx,h⟩:=br h
  obtain⟨i,j,t,u,e,k⟩:=Lh gE h
  rw[up hx,e]
  have k:r= .int (if i<j then j else i):=k.trans (congrArg _ (Li ..))
  refine max_two_ints hh λh' aF aj=>?_
  rcases eR (i<j) with c|c
  .rw[if_pos c] at k
   rw[if_pos (show j>i from c)];exact G.grow C aj (k▸ .int _ _) _
  .rw[if_neg c] at k
   rw[if_neg (show ¬j>i from c)];exact G.grow C aj (k▸ .int _ _) _
end
end
noncomputable def iN(K:Frag)(C:Addr)(name:Str):Bool:=plainGet K C name&&hasDictIn K C&&findIn K (.ref C) name==some none
noncomputable def lz(K:Frag)(C f:Addr)(name:Str):Bool:=plainGet K C name&&findIn K (.ref C) name==some (some (.ref f))&&isFn K (.ref f)&&keepIn K (.ref f)
section
theorem un{x C a5:Addr}{es:List DictEntry}{name:Str}{v:Value}{b:Bool}(X:K.In s.heap)(aa:s.heap.get? x=some (instObj C a5))(ah:s.heap.get? a5=some (dictOf es n))(aw:iN K C name=true)(ag:getL name es=some (some v))(al:handedIn v=true)(ak:Q v {s with toks:=s.toks+1}):wpAny (model prog w) A (getAttr (.ref x) name b) Q E s:=by
 exact get_value X (od:=some (dictOf es n)) ⟨aa,rfl,rfl,ah⟩ (plainGet_of (aK (aK aw).1).1).1 (findObj_own (aK (aK aw).1).2 (eq_of_beq (aK aw).2) rfl ag) al ak
theorem C9{x C a5 f:Addr}{es:List DictEntry}{name:Str}{di:Sem Bool}{Q:Value×List Value->Shared->Prop}(X:K.In s.heap)(aa:s.heap.get? x=some (instObj C a5))(ah:s.heap.get? a5=some (dictOf es n))(aw:lz K C f name=true)(ag:getL name es=some none)(ak:Q (.ref f,[.ref x]) s):wpAny (model prog w) A (getMethod (.ref x) name di) Q E s:=by
 simp only[lz,c6,beq_iff_eq] at aw
 exact method_fn X (od:=some (dictOf es n)) ⟨aa,rfl,rfl,ah⟩ (plainGet_of aw.1.1.1).1 (plainGet_of aw.1.1.1).2 aw.1.1.2 (beq_iff_eq.mp aw.1.2) (by show (lookIn name (dictOf es n)).map _=_;rw[lookIn_dict,ag];rfl) ak
end
structure Tp (ta:Ta) (K:Frag):Prop where
 gq:K.In ta.h0
 rows:iN K ta.gN h6=true
 index:iN K ta.gN jc=true
 decls:iN K ta.gN kt=true
 bounds:iN K ta.gN ku=true
 defaults:iN K ta.gN "defaults"=true
 names:iN K ta.gN "names"=true
 tab:iN K ta.qM cF=true
 body:iN K ta.fg fT=true
 bases:iN K ta.fg lc=true
section
theorem Cfg.gq(C:Cfg prog w H g s.heap)(P:Tp g.ta K):K.In s.heap:=P.gq.keeps λa o e=>C.bn a o (C.base a o e)
theorem w3(C:Cfg prog w H g s.heap)(P:Tp g.ta K){name:Str}{v:Value}{b:Bool}(aw:iN K g.ta.gN name=true)(al:handedIn v=true)(ag:∀es n,g.im g.ta.cU=some (dictOf es n)->getL name es=some (some v))(ak:Q v {s with toks:=s.toks+1}):wpAny (model prog w) A (getAttr (.ref g.ta.tab) name b) Q E s:=by
 obtain⟨es,n,aa,ah⟩:=C.tok.cU
 exact un (C.gq P) (C.bn _ _ C.tok.tab) (C.bn _ _ aa) aw (ag es n aa) al ak
theorem lA{es dN:List DictEntry}{n db:Nat}(h:some (dictOf es n)=some (dictOf dN db)):es=dN:=by
 have h:=Option.some.inj h
 injection h with _ _ h _
 injection h with h _
 simpa using congrArg Array.toList h
theorem Yj(C:Cfg prog w H g s.heap)(P:Tp g.ta K){b:Bool}(ak:Q (.ref g.ta.rows) {s with toks:=s.toks+1}):wpAny (model prog w) A (getAttr (.ref g.ta.tab) h6 b) Q E s:=
 w3 C P P.rows rfl (λes n e=>by obtain ⟨dN,db,aa,ah,_⟩:=C.tok.cU;rw[lA (e.symm.trans aa)];exact ah) ak
theorem Yk(C:Cfg prog w H g s.heap)(P:Tp g.ta K){b:Bool}(ak:Q (.ref g.ta.idx) {s with toks:=s.toks+1}):wpAny (model prog w) A (getAttr (.ref g.ta.tab) jc b) Q E s:=
 w3 C P P.index rfl (λes n e=>by obtain ⟨dN,db,aa,_,ah,_⟩:=C.tok.cU;rw[lA (e.symm.trans aa)];exact ah) ak
theorem Yl(C:Cfg prog w H g s.heap)(P:Tp g.ta K){b:Bool}(ak:Q (.ref g.ta.decls) {s with toks:=s.toks+1}):wpAny (model prog w) A (getAttr (.ref g.ta.tab) kt b) Q E s:=
 w3 C P P.decls rfl (λes n e=>by obtain ⟨dN,db,aa,_,_,ah,_⟩:=C.tok.cU;rw[lA (e.symm.trans aa)];exact ah) ak
theorem Ym(C:Cfg prog w H g s.heap)(P:Tp g.ta K){b:Bool}(ak:Q (.ref g.ta.du) {s with toks:=s.toks+1}):wpAny (model prog w) A (getAttr (.ref g.ta.tab) ku b) Q E s:=
 w3 C P P.bounds rfl (λes n e=>by obtain ⟨dN,db,aa,_,_,_,ah,_⟩:=C.tok.cU;rw[lA (e.symm.trans aa)];exact ah) ak
theorem Yn(C:Cfg prog w H g s.heap)(P:Tp g.ta K)(hh:g.ta.hh=true){b:Bool}(ak:Q (.ref g.ta.tab) {s with toks:=s.toks+1}):wpAny (model prog w) A (getAttr (.ref g.ta.host) cF b) Q E s:=by
 obtain⟨es,n,aa,ah,_⟩:=C.tok.hu hh
 exact un (C.gq P) (C.bn _ _ (C.tok.host hh)) (C.bn _ _ aa) P.tab ah rfl ak
theorem Yo{im:bA}{v:Value}(h:Rd im v d):handedIn v=true:=Rd.casesOn (motive_1:=λv _ _=>handedIn v=true) h rfl (λ_=>rfl) (λ_ _=>rfl) (λ_ _=>rfl) (λ_ _ _ _=>rfl) λ_ _=>rfl
theorem Yp(C:Cfg prog w H g s.heap)(P:Tp g.ta K){p:Addr×Addr}(aS:g.dd[k]? =some p)(bG:H.decls[k+1]? =some u){b:Bool}(ak:∀v,Val prog w H g g.im v u->Q v {s with toks:=s.toks+1}):wpAny (model prog w) A (getAttr (.ref p.1) fT b) Q E s:=by
 obtain⟨aa,es,n,ah,_,_,_,_,i,t,x,aC,bC,ee⟩:=C.tok.decl k p aS
 rw[<-Option.some.inj (bG.symm.trans bC)] at ee
 exact un (C.gq P) (C.bn _ _ aa) ah P.body aC rfl (ak _ (.g8 ee (.int i t)))
theorem Yq(C:Cfg prog w H g s.heap)(P:Tp g.ta K){p:Addr×Addr}(aS:g.dd[k]? =some p){b:Bool}(ak:∀v,Val prog w H g g.im v (.tup [])->Q v {s with toks:=s.toks+1}):wpAny (model prog w) A (getAttr (.ref p.1) lc b) Q E s:=by
 obtain⟨aa,es,n,ah,_,v,aC,bC,_,_,_,_,_,_⟩:=C.tok.decl k p aS
 exact un (C.gq P) (C.bn _ _ aa) ah P.bases aC (Yo bC) (ak v (.g8 (d:=.tuple []) rfl bC))
theorem Lj(C:Cfg prog w H g s.heap)(ap:H.cnt<=ba){t:Tok}{r:V}(aj:(H.base++H.dyn)[k]? =some r)(G:Got prog w H g s Q r):wpAny (model prog w) A (getItem (.ref g.ta.rows) (.int (k:Int) t)) Q E s:=by
 obtain⟨vs,n,ds,aa,ah,aC⟩:=C.tok.rows
 have bi:=C.ok.size
 have len:=f4 ah aC
 obtain⟨v,al,kC⟩:=ah.at aC aj
 have:k<(H.base++H.dyn).length:=(List.getElem?_eq_some_iff.mp aj).1
 rw[d5] at this len
 exact wpAny_getItem_list ⟨_,aa,rfl,n,rfl⟩ (by lia) (by simp only [ba] at ap;lia) (x:=v) al (G.here C kC.val _)
theorem Yr(C:Cfg prog w H g s.heap)(ap:H.cnt<=ba){i:V}{el:Value}{r:V}(h:H.rowOf i=some r)(hi:Val prog w H g s.heap.get? el i)(G:Got prog w H g s Q r):
  wpAny (model prog w) A (getItem (.ref g.ta.rows) el) Q E s:=by
 have h:(match tO i with|some r=>some r|none=>od (kq i) λi=>H.base[i]?)=some r:=h
 rcases e:tO i with _|q<;>rw[e] at h
 .obtain⟨k,e,h⟩:=bD h
  rw[nJ e] at hi
  obtain⟨t,e⟩:=hi.int_inv
  rw[e]
  exact Lj C ap (by rw [mc (List.getElem?_eq_some_iff.mp h).1];exact h) G
 .rw[Kc e,Option.some.inj h] at hi
  obtain⟨d,aQ,aq⟩:=hi
  obtain⟨k,bC,_,e⟩:=hB aQ
  rw[e] at aq
  obtain⟨t,e⟩:=aq.dat
  rw[e]
  exact Lj C ap (by rw [nh (eZ _ _),tj];exact bC) G
theorem Ys(C:Cfg prog w H g s.heap)(ap:H.cnt<=ba)(aa:1<=k)(ah:k<H.decls.length){el:Value}(hi:Val prog w H g s.heap.get? el (.int (k:Int)))(G:Got prog w H g s Q (.decl k)):
  wpAny (model prog w) A (getItem (.ref g.ta.decls) el) Q E s:=by
 obtain⟨t,e⟩:=hi.int_inv
 rw[e]
 obtain⟨vs,n,a,b,c⟩:=C.tok.decls
 have bi:=C.line.1
 rcases k with _|j
 .exact nomatch aa
 have bt:j<g.dd.length:=oJ (Nat.lt_of_lt_of_eq ah c)
 have aS:=oI bt
 have len:vs.size=H.decls.length:=by rw [<-tl,b,kk,eQ,c]
 refine wpAny_getItem_list ⟨_,a,rfl,n,rfl⟩ (zK _) (by simp only [ba] at ap;lia) (x:=.ref (g.dd[j]).1) ?_ (G.here C ⟨_,aa,aS,rfl⟩ _)
 refine Array.getElem?_toList.symm.trans ?_
 rw[b]
 show (g.dd.map _)[j]? =_
 rw[ni,aS];rfl
theorem Yt(C:Cfg prog w H g s.heap)(ap:H.cnt<=ba){z:Int}(h:H.bounds[k]? =some z){el:Value}(hi:Val prog w H g s.heap.get? el (.int (k:Int)))(G:Got prog w H g s Q (.int z)):
  wpAny (model prog w) A (getItem (.ref g.ta.du) el) Q E s:=by
 obtain⟨t,e⟩:=hi.int_inv
 rw[e]
 obtain⟨vs,n,a,b,c⟩:=C.tok.du
 have bi:=C.line.2
 have:=(List.getElem?_eq_some_iff.mp h).1
 rw[tl] at b
 obtain⟨jW,a1⟩:=c k z h
 exact wpAny_getItem_list ⟨_,a,rfl,n,rfl⟩ (zK _) (by simp only [ba] at ap;lia) (x:=.int z jW) (Array.getElem?_toList.symm.trans a1) (G.here C (.int _ _) _)
end
inductive VK (n d:Nat):V->Prop
 |int (i:Int) (h:e0 i n=true):VK n d (.int i)
 |str (s:Str):VK n d (.str s)
 |ty (r:V):VK n d (.ty r)
 |tup (e:Nat) (l:List V) (q:d=e+1) (h:∀x∈l,V.key n e x=true):VK n d (.tup l)
theorem jm{n d:Nat}{v:V}(h:V.key n d v=true):VK n d v:=by
 rcases d with _|d
 .rcases v
  case int=>exact .int _ h
  case str=>exact .str _
  case ty=>exact .ty _
  all_goals exact nomatch h
 .rcases v
  case int=>exact .int _ h
  case str=>exact .str _
  case ty=>exact .ty _
  case tup l=>exact .tup d l rfl (List.all_eq_true.mp h)
  all_goals exact nomatch h
theorem rG{r:V}{x:PyData}(h:bI H (.ty r)=some x):∃i,x= .int i:=by
 obtain⟨_,_,_,e⟩:=hB h
 exact⟨_,e⟩
theorem Db:∀{d e:Nat}{v:V}{x:PyData},V.key n d v=true->d<=e->bI H v=some x->fG e x=true:=by
 intro d
 induction d with
 |zero=>
  intro e v x h aQ ap
  rcases jm h with ⟨i,h⟩|s|r|⟨bq,l,q,h⟩
  .rw[<-Option.some.inj ap];rcases e with _|_<;>rfl
  .obtain⟨q,k⟩:=gB ap
   rw[q];rcases e with _|_<;>exact k
  .obtain⟨i,q⟩:=rG ap
   rw[q];rcases e with _|_<;>rfl
  .exact nomatch q
 |succ d bg=>
  intro e v x h aQ ap
  rcases e with _|e
  .exact absurd aQ (zH _)
  rcases jm h with ⟨i,h⟩|s|r|⟨bq,l,q,k⟩
  .rw[<-Option.some.inj ap];rfl
  .obtain⟨q,k⟩:=gB ap
   rw[q];exact k
  .obtain⟨i,q⟩:=rG ap
   rw[q];rfl
  .injection q with q
   obtain⟨m,av,jg⟩:=gS ap
   rw[jg]
   exact List.all_eq_true.mpr (ue av λx hx d iJ=>bg (q▸k x hx) (zC aQ) iJ)
theorem Lk:∀{l:List V}{m:List PyData},bX H l=some m->∀x∈l,∃d,bI H x=some d
 |x::l,_,h,y,q=>by
  obtain⟨d,m,e,aQ,av⟩:=fa h
  exact(List.mem_cons.mp q).elim (λe=>⟨d,e▸aQ⟩) (Lk av y)
theorem Ll:∀{l:List V},(∀x∈l,V.plain x=true)->V.zr l=true
 |[],_=>rfl
 |x::l,h=>(c6 _ _).mpr ⟨h x (.head _),Ll λy m=>h y (.tail _ m)⟩
theorem Lm(aL:H.Ok):∀{d:Nat}{v:V}{x:PyData},V.key n d v=true->bI H v=some x->V.plain v=true:=by
 intro d
 induction d with
 |zero=>
  intro v x h ap
  rcases jm h with ⟨i,h⟩|s|r|⟨bq,l,q,h⟩
  .rfl
  .rfl
  .exact Cy (r:=r) aL ap
  .exact nomatch q
 |succ d bg=>
  intro v x h ap
  rcases jm h with ⟨i,h⟩|s|r|⟨bq,l,q,k⟩
  .rfl
  .rfl
  .exact Cy (r:=r) aL ap
  .injection q with q
   obtain⟨m,av,_⟩:=gS ap
   exact Ll λy aY=>(Lk av y aY).elim λd aQ=>bg (q▸k y aY) aQ
theorem Yu(B:H.bld=true->H.dyn=[]){r:V}(h:H.dyn[j]? =some r):H.kb=H.base.length:=by
 unfold T.kb
 rcases e:H.bld with _|_
 .rfl
 .rw[B e] at h;exact nomatch h
theorem Ln{P:V->Prop}:∀{l cK:List V}{m:List PyData},(∀x∈l,∀y,P y->∀d,bI H x=some d->bI H y=some d->x=y)->(∀y∈cK,P y)->bX H l=some m->bX H cK=some m->l=cK
 |[],[],_,_,_,_,_=>rfl
 |[],_::_,_,_,_,h,k=>by obtain ⟨_,_,e,_⟩:=fa k;rw[e] at h;exact nomatch Option.some.inj h
 |_::_,[],_,_,_,h,k=>by obtain ⟨_,_,e,_⟩:=fa h;rw[e] at k;exact nomatch Option.some.inj k
 |x::l,y::cK,_,aS,aO,h,k=>by
  obtain⟨d,m,e,aQ,av⟩:=fa h
  obtain⟨mv,jl,bq,iJ,ly⟩:=fa k
  injection e.symm.trans bq with e1 e2
  rw[aS x (.head _) y (aO y (.head _)) d aQ (e1▸iJ),Ln (λz bi=>aS z (.tail _ bi)) (λz bi=>aO z (.tail _ bi)) av (e2▸ly)]
theorem Lo(B:H.bld=true->H.dyn=[]){i:Int}{r:V}(hi:e0 i H.kb=true)(h:bI H (.ty r)=some (.int i)):False:=by
 obtain⟨k,aj,_,e⟩:=hB h
 rw[Yu B aj] at hi
 have:=C7 (k:=k) (iLt_iff.mp hi)
 rw[<-PyData.int.inj e] at this
 exact Int.lt_irrefl _ this
theorem Yv{r d7:V}{x:PyData}(h:bI H (.ty r)=some x)(k:bI H (.ty d7)=some x):r=d7:=by
 obtain⟨i,hi,_,e⟩:=hB h
 obtain⟨j,bt,_,bq⟩:=hB k
 have:i=j:=Io (Int.ofNat.inj (PyData.int.inj (e.symm.trans bq)))
 rw[this] at hi
 exact Option.some.inj (hi.symm.trans bt)
theorem Lp(B:H.bld=true->H.dyn=[]){i:Int}{b:V}{e:Nat}(aw:e0 i H.kb=true)(ao:VK H.kb e b)(k:bI H b=some (.int i)): .int i=b:=by
 rcases ao with ⟨j,h⟩|s|r|⟨bq,l,q,h⟩
 .exact congrArg V.int (um k).symm
 .exact nomatch (gB k).1
 .exact(Lo B aw k).elim
 .obtain⟨_,_,e⟩:=gS k;exact nomatch e
theorem Lq{s:Str}{b:V}{n e:Nat}(ao:VK n e b)(k:bI H b=some (.str s)): .str s=b:=by
 rcases ao with ⟨j,h⟩|s|r|⟨bq,l,q,h⟩
 .exact nomatch Option.some.inj k
 .exact congrArg V.str (PyData.str.inj (gB k).1)
 .obtain⟨_,e⟩:=rG k;exact nomatch e
 .obtain⟨_,_,e⟩:=gS k;exact nomatch e
theorem Lr(B:H.bld=true->H.dyn=[]){r b:V}{x:PyData}{e:Nat}(ao:VK H.kb e b)(h:bI H (.ty r)=some x)(k:bI H b=some x): .ty r=b:=by
 obtain⟨i,q⟩:=rG h
 rw[q] at h k
 rcases ao with ⟨j,bt⟩|s|d7|⟨bq,l,q,ag⟩
 .rw[um k] at bt;exact(Lo B bt h).elim
 .exact nomatch (gB k).1
 .exact congrArg V.ty (Yv h k)
 .obtain⟨_,_,e⟩:=gS k;exact nomatch e
theorem Yw{n e:Nat}{b:V}{m:List PyData}(ao:VK n e b)(k:bI H b=some (.tuple m)):∃bq l,b= .tup l/\(∀x∈l,V.key n bq x=true)/\bX H l=some m:=by
 rcases ao with ⟨j,h⟩|s|r|⟨bq,l,q,h⟩
 .exact nomatch Option.some.inj k
 .exact nomatch (gB k).1
 .obtain⟨_,e⟩:=rG k;exact nomatch e
 .obtain⟨jl,av,e⟩:=gS k
  exact⟨bq,l,rfl,h,PyData.tuple.inj e▸av⟩
theorem Yx(B:H.bld=true->H.dyn=[]):∀{d:Nat}(a b:V){e:Nat}{x:PyData},V.key H.kb d a=true->V.key H.kb e b=true->bI H a=some x->bI H b=some x->a=b:=by
 intro d
 induction d with
 |zero=>
  intro a b e x aw ao h k
  rcases jm aw with ⟨i,hi⟩|s|r|⟨bq,l,q,ag⟩
  .exact Lp B hi (jm ao) (k.trans h.symm)
  .exact Lq (jm ao) ((gB h).1▸k)
  .exact Lr B (jm ao) h k
  .exact nomatch q
 |succ d bg=>
  intro a b e x aw ao h k
  rcases jm aw with ⟨i,hi⟩|s|r|⟨bq,l,q,ag⟩
  .exact Lp B hi (jm ao) (k.trans h.symm)
  .exact Lq (jm ao) ((gB h).1▸k)
  .exact Lr B (jm ao) h k
  .injection q with q
   obtain⟨m,av,jg⟩:=gS h
   rw[jg] at k
   obtain⟨f,cK,e1,aa,ah⟩:=Yw (jm ao) k
   rw[e1,Ln (λx hx y aY d aQ iJ=>bg x y (q▸ag x hx) aY aQ iJ) aa av ah]
section
theorem Ls{v:V}(h:gw v=true):∃l,v= .tup l:=by
 rcases v
 case tup=>exact⟨_,rfl⟩
 all_goals exact nomatch h
inductive RowVal (im:bA) (h:Heap) (v:Value) (d:PyData):Prop
 |mk (a:Addr) (e:v= .ref a) (r:Rd im (.ref a) d) (k:fG 6 d=true) (q:Rd h.get? (.ref a) d)
theorem Yy{im:bA}{row:V}{v:Value}(hi:∀a o,im a=some o->h.get? a=some o)(a1:gw row=true)(aj:V.key H.kb 4 row=true)(ap:bI H row=some d)(aq:Rd im v d):RowVal im h v d:=by
 have kd:=Db aj (by decide:4<=6) ap
 obtain⟨l,e⟩:=Ls a1
 rw[e] at ap
 obtain⟨m,av,e⟩:=gS ap
 rw[e] at aq kd |-
 obtain⟨a,o,vs,n,e,q⟩:=aq.gO
 rw[e] at aq
 exact⟨a,e,aq,kd,aq.mono hi⟩
open Classical in
inductive IdxDict (prog:Program) (w:World) (H:T) (g:Gh) (h:Heap) (row:V) (d:PyData):Prop
 |mk (a4:List (PyData×Addr×Value)) (D:h.DictOfH (kB prog w) g.ta.idx a4) (c:bX H (H.base++H.dyn)=some (a4.map (·.1))) (i:∀(i:Nat)(x:PyData×Addr×Value),a4[i]? =some x->∃t,x.2.2= .int i t)
   (r:∀x∈a4,Rd g.im (.ref x.2.1) x.1/\fG 6 x.1=true)
   (y:∀(i:Nat),(H.base++H.dyn)[i]? =some row->∃p t,atKey a4 d=some p/\p.2= .int i t) (no:row∉H.base++H.dyn->atKey a4 d=none)
open Classical in
theorem Dc(C:Cfg prog w H g s.heap){row:V}(a1:gw row=true)(aj:V.key H.kb 4 row=true)(ap:bI H row=some d):IdxDict prog w H g s.heap row d:=by
 obtain⟨o,es,ca,a4,aa,ah,aC,bC,ee,mF,lB,jX⟩:=C.tok.idx
 refine⟨a4,⟨o,es,ca,aa,ah,aC,bC,λx hx=>⟨(mF x hx).1.mono C.bn,(mF x hx).2⟩,ee⟩,lB,jX,mF,λi hi=>?_,λaX=>?_⟩
 .obtain⟨e,cL,w4⟩:=wX lB hi
  rw[ni] at cL
  obtain⟨x,hx,q⟩:=nk cL
  obtain⟨t,a1⟩:=jX i x hx
  have q:x.1=d:=q.trans (Option.some.inj (w4.symm.trans ap))
  exact⟨x.2,t,atKey_of_get ee (by rw [hx,<-q]),a1⟩
 .refine atKey_none_of_get λj p bt=>aX ?_
  have ag:j<(a4.map (·.1)).length:=by rw [eQ];exact(List.getElem?_eq_some_iff.mp bt).1
  rw[rB lB] at ag
  obtain⟨e,cL,w4⟩:=wX lB (oI ag)
  rw[ni,bt] at cL
  rw[<-Option.some.inj cL] at w4
  have av:=zN ag
  rw[Yx C.ok.bld _ _ aj (C.ok.key _ av).2 ap w4]
  exact av
theorem Yz(aL:H.Ok){row:V}(aj:V.key H.kb 4 row=true)(ap:bI H row=some d)(h:dL row H.base 0=none):row∉H.base:=t6 (Lm aL aj ap) h
open Classical in
theorem YA(C:Cfg prog w H g s.heap)(R:Room A n){row r:V}{v:Value}{dv:Value}(h:H.find row=some r)(al:Val prog w H g g.im v row)(aQ:Val prog w H g g.im dv (.int (-1)))(G:Got prog w H g s Q r):
  wpAny (model prog w) A (call (.builtin "dict.get") [.ref g.ta.idx,v,dv]) Q E s:=by
 obtain⟨ap,h⟩:=br h
 obtain⟨ap,ao⟩:=aK ap
 obtain⟨ap,av⟩:=aK ap
 obtain⟨a1,aj⟩:=aK ap
 have av:rj row=false:=by rcases e:rj row with _|_;rfl;rw[e] at av;exact nomatch av
 obtain⟨d,lC,aq⟩:=al.flat (λ_ _ e=>e) (by obtain ⟨l,e⟩:=Ls a1;rw[e];rfl)
 obtain⟨a,e,ge,kd,gf⟩:=Yy C.bn a1 aj lC aq
 obtain⟨a4,D,eT,cP,jj,mG,kE⟩:=Dc C a1 aj lC
 rw[e]
 refine call_meetsIn zG D.typeIs Ij (Ih _ _ _) (meetsH_dict_get_default (kB prog w) g.ta.idx a C.tok.k2 dv) ⟨KN R (by decide:8<=20),d,a4,⟨gf,kd⟩,D,?_⟩
 rw[<-Option.some.inj h] at G
 rcases a6:dL row H.base 0 with _|i<;>rw[a6] at G
 .have aX:row∉H.base++H.dyn:=λq=>(List.mem_append.mp q).elim (Yz C.ok aj lC a6) λq=>by rw [C.ok.met _ q] at av;exact nomatch av
  rw[kE aX];exact G.here C aQ _
 .obtain⟨k,e,hx⟩:=t5 a6
  rw[mf] at e
  obtain⟨p,t,aa,ah⟩:=mG k (by rw [mc (List.getElem?_eq_some_iff.mp hx).1];exact hx)
  rw[aa]
  show Q p.2 _
  rw[ah,<-e];exact G.here C (.int _ _) _
end
theorem Lu{α:Type}:∀{ps:List Str}{vs:List α},x∉ps->(ps.zip vs).lookup x=none
 |[],_,_=>rfl
 |_::_,[],_=>rfl
 |p::ps,v::vs,h=>by
  rw[tm,ha,show (x==p)=false from beq_eq_false_iff_ne.mpr λe=>h (e▸ .head _)]
  exact Lu λm=>h (.tail _ m)
theorem w5{α:Type}:∀{ps:List Str}{vs:List α},x∈ps->ps.length<=vs.length->∃v,(ps.zip vs).lookup x=some v
 |_::_,[],_,h=>absurd h (zH _)
 |p::ps,v::vs,h,k=>by
  rw[tm,ha]
  rcases e:x==p with _|_
  .exact w5 ((List.mem_cons.mp h).resolve_left (ne_of_beq_false e)) (zC k)
  .exact⟨v,rfl⟩
theorem Lv{α:Type}:∀{ps:List Str}{vs:List α},ps.Nodup->ps.length=vs.length->∀(f:Str->Option α),(∀x∈ps,f x=(ps.zip vs).lookup x)->(ps.filterMap λn=>(f n).map (n,·))=ps.zip vs
 |[],[],_,_,_,_=>rfl
 |p::ps,v::vs,aX,ag,f,a6=>by
  have aX:=List.nodup_cons.mp aX
  have aa:f p=some v:=by rw [a6 p (.head _),tm,ha,beq_self_eq_true]
  rw[List.filterMap_cons,aa]
  refine congrArg (List.cons _) (Lv aX.2 (Nat.succ.inj ag) f λx hx=>?_)
  rw[a6 x (.tail _ hx),tm,ha,show (x==p)=false from beq_eq_false_iff_ne.mpr λe=>aX.1 (e▸hx)]
theorem uo{α:Type}:∀(a b:List (Str×α)),(a++b).lookup x=(a.lookup x).or (b.lookup x)
 |[],b=>rfl
 |(k,v)::a,b=>by
  rw[ts,ha,ha]
  rcases x==k with _|_
  .exact uo a b
  .rfl
noncomputable def mH{α:Type}(b:List (Str×α))(p:Str×α):List (Str×α):=if (b.lookup p.1).isNone=true then b++[(p.1,p.2)] else b
theorem YB{α:Type}(b:List (Str×α))(p:Str×α):(mH b p).lookup x=(b.lookup x).or ([p].lookup x):=by
 unfold mH
 rcases e:(b.lookup p.1).isNone with _|_
 .rw[if_neg nofun]
  rcases h:b.lookup x with _|v
  .show none=[p].lookup x
   rw[ha,beq_eq_false_iff_ne.mpr λq=>by rw [<-q,h] at e;exact nomatch e];rfl
  .rfl
 .rw[if_pos rfl];exact uo _ _
theorem Lw{α:Type}:∀(l b:List (Str×α)),(l.foldl mH b).lookup x=(b.lookup x).or (l.lookup x)
 |[],b=>(Option.or_none).symm
 |p::l,b=>by
  rw[v7,Lw l,YB,Option.or_assoc]
  exact congrArg _ (uo [p] l).symm
def lD(ps:List Str)(b2 dv:List Value):List (Str×Value):=ps.zip (b2++dv.drop (dv.length - (ps.length - b2.length)))
inductive Cut3 (ps:List Str) (b2 dv:List Value):Prop
 |mk (a b c:List Str) (d e:List Value) (aa:ps=a++b++c) (ah:dv=d++e) (e1:(a++b).length=b2.length) (e2:b.length=d.length) (e3:c.length=e.length)
theorem YC{ps:List Str}{b2 dv:List Value}(al:b2.length<=ps.length)(cs:ps.length - b2.length<=dv.length)(bi:dv.length<=ps.length):Cut3 ps b2 dv:=by
 obtain⟨p,aS⟩:=zB al
 rw[aS,tj] at cs
 obtain⟨k,aj⟩:=zB cs
 rw[aS,aj,jG p k] at bi
 obtain⟨a,aw⟩:=zB (Nat.le_of_add_le_add_right bi)
 have cg:(ps.take a).length=a:=zE (by rw [aS,aw,qO];exact tw _ _)
 have ch:(ps.drop a).length=k+p:=by rw [v6,aS,aw,qO,tn]
 have nO:((ps.drop a).take k).length=k:=zE (ch▸eZ _ _)
 refine⟨ps.take a,(ps.drop a).take k,(ps.drop a).drop k,dv.take k,dv.drop k,?_,(v2 _ _).symm,?_,?_,?_⟩
 .rw[iA,v2,v2]
 .rw[d5,cg,nO,aw,jG]
 .rw[nO,zE (by rw [aj];exact tw _ _)]
 .rw[v6,ch,tj,v6,aj,tn]
section
variable {a b c:List Str}{b2 d e:List Value}
theorem Lx(e1:(a++b).length=b2.length):(a++b++c).zip b2=(a++b).zip b2:=by
 have:=zR (l₁:=a++b) (r₁:=c) (l₂:=b2) (r₂:=[]) e1
 rwa [eh,List.zip_nil_right,eh] at this
theorem YD(aX:(a++b++c).Nodup)(e1:(a++b).length=b2.length)(e3:c.length=e.length):
  ((a++b++c).filterMap λn=>(List.lookup n ((b.zip d++c.zip e).foldl mH ((a++b).zip b2))).map (n,·))=(a++b++c).zip (b2++e):=by
 refine Lv aX (by rw [d5,e1,d5,e3]) (λn=>List.lookup n _) λx hx=>?_
 rw[Lw,zR e1,uo,uo]
 rcases h0:((a++b).zip b2).lookup x with _|v
 .have YE:x∉b:=λq=>by
   obtain⟨v,fK⟩:=w5 (vs:=b2) (zF a q) (dW e1)
   exact nomatch h0.symm.trans fK
  rw[Lu YE];rfl
 .rfl
theorem YF(e1:(a++b).length=b2.length):((a++b++c).take a.length).filter (λn=>(List.lookup n ((a++b).zip b2)).isNone)=[]:=by
 rw[List.filter_eq_nil_iff,iA,List.take_left]
 intro x hx
 obtain⟨v,fK⟩:=w5 (vs:=b2) (jD b hx) (dW e1)
 rw[fK];exact nofun
theorem YG(e1:(a++b).length=b2.length)(e3:c.length=e.length):lD (a++b++c) b2 (d++e)=(a++b++c).zip (b2++e):=by
 unfold lD
 have:(d++e).length - ((a++b++c).length - b2.length)=d.length:=by rw [d5 (as:=a++b),e1,tj,e3,d5,tn]
 rw[this,zU]
end
section
variable {M:Model}
theorem Ly{f:Str×Value->List (Str×Value)->Sem (ForInStep (List (Str×Value)))}(a6:∀p r,f p r=pure (.yield (mH r p))){Q:List (Str×Value)->Shared->Prop}:∀(l b:List (Str×Value)),Q (l.foldl mH b) s->wpAny M A (forIn l b f) Q E s
 |[],_,h=>wpAny_pure h
 |p::l,b,h=>by
  rw[oN,a6]
  exact wpAny_bind (wpAny_pure (Ly a6 l _ h))
theorem Dd{α:Type}{c:Prop}[Decidable c]{t e:Sem α}{Q:α->Shared->Prop}(h:¬c)(k:wpAny M A e Q E s):wpAny M A (if c then t else e) Q E s:=by rw [if_neg h];exact k
structure BindF (ps:List Str) (b2 dv De:List Value):Prop where
 f3:¬(decide (b2.length>ps.length)&&none.isNone (α:=Arg))=true
 ms:¬(!((ps.take (ps.length - De.length)).filter λn=>(List.lookup n (ps.zip b2)).isNone).isEmpty)=true
 res:(((ps++[]).filterMap λn=>(List.lookup n (((ps.drop (ps.length - De.length)).zip De).foldl mH (ps.zip b2))).map (n,·)))=lD ps b2 dv
theorem YH{ps:List Str}{b2 dv:List Value}(aX:ps.Nodup)(al:b2.length<=ps.length)(cs:ps.length - b2.length<=dv.length)(bi:dv.length<=ps.length):BindF ps b2 dv (dv.drop (dv.length - ps.length)):=by
 rw[Nat.sub_eq_zero_of_le bi,List.drop_zero]
 obtain⟨a,b,c,d,e,bU,bZ,e1,e2,e3⟩:=YC al cs bi
 rw[bU,bZ]
 rw[bU] at aX
 have YI:(a++b++c).length=b2.length+e.length:=by rw [d5,e1,e3]
 have fH:(a++b++c).length - (d++e).length=a.length:=by rw [iA,d5,d5 (as:=b),e2,e3,d5,tn]
 have uq:((a++b++c).drop a.length).zip (d++e)=b.zip d++c.zip e:=by
  rw[iA,zU]
  exact zR e2
 refine⟨by rw [YI,decide_eq_false (Nat.not_lt.mpr (eZ _ _))];exact nofun,?_,?_⟩
 .rw[fH,Lx e1,YF e1];exact nofun
 .rw[eh,fH,Lx e1,uq,YD aX e1 e3,<-YG (d:=d) e1 e3]
theorem YJ(p:Str×Value)(r:List (Str×Value)):(if (List.lookup p.1 r).isNone=true then (pure (.yield (r++[(p.1,p.2)])):Sem (ForInStep (List (Str×Value)))) else pure (.yield r))=pure (.yield (mH r p)):=by
 unfold mH
 split<;>rfl
theorem YK{b4:FuncData}{b2 dv:List Value}(aa:b4.params.posonlyargs=[])(ah:b4.params.kwonlyargs=[])(aC:b4.params.vararg=none)(bC:b4.params.kwarg=none)(aX:(b4.params.args.map (·.arg)).Nodup)(aQ:∀(Q:Option (Array Value)->Shared->Prop),(∀r,(r.getD #[]).toList=dv->Q r s)->wpAny M A (seqItems? b4.defaults) Q E s)(al:b2.length<=b4.params.args.length)(cs:b4.params.args.length - b2.length<=dv.length)(bi:dv.length<=b4.params.args.length){Q:List (Str×Value)->Shared->Prop}(ak:Q (lD (b4.params.args.map (·.arg)) b2 dv) s):wpAny M A (bindArgs b4 ⟨b2,[]⟩) Q E s:=by
 have eB:(b4.params.args.map (·.arg)).length=b4.params.args.length:=eQ ..
 rw[<-eB] at al cs bi
 have F:=YH aX al cs bi
 obtain⟨nm,anf,p⟩:=b4
 obtain⟨nn,px,eK,z5,kd,ur,us⟩:=p
 change nn=[] at aa
 change z5=[] at ah
 change eK=none at aC
 change ur=none at bC
 subst aa ah aC bC
 refine wpAny_bind (wpAny_pure ?_)
 refine wpAny_bind (aQ _ λr aq=>?_)
 subst aq
 refine Dd F.f3 (Dd F.ms ?_)
 refine wpAny_bind (Ly YJ _ _ ?_)
 refine wpAny_bind (wpAny_pure ?_)
 refine Dd nofun (wpAny_pure ?_)
 exact F.res▸ak
end
theorem Lz(x y:Str):(x==y)=a9 y x:=(Cv x y).symm.trans (by rw [i5,sEq_iff,sEq_iff];exact⟨Eq.symm,Eq.symm⟩)
theorem rH:∀(l:List (Str×NameKind))(x:Str),lk l x=l.lookup x
 |[],_=>rfl
 |(y,k)::r,x=>by
  rw[ha,Lz]
  show cond (a9 y x) (some k) (lk r x)=_
  rcases a9 y x with _|_
  .exact rH r x
  .rfl
structure ScopeOk (sc:Scope):Prop where
 kind:sc.kind= .function
 co:sc.isCoroutine=false
 gen:sc.isGenerator=false
 nd:((cellsFrom 0 sc.names []).map (·.1)).Nodup
 cell:∀x,lk sc.names x=some .cell->x∈(cellsFrom 0 sc.names []).map (·.1)
 good:∀x k,lk sc.names x=some k->(k= .local\/k= .cell\/k= .globalImplicit)/\x≠"__debug__"/\x≠"__classdict__"/\x≠dM
theorem LA{α:Type}:∀{l:List (Str×α)},x∈l.map (·.1)->∃a,l.lookup x=some a
 |(k,v)::r,h=>by
  rw[ha]
  rcases e:x==k with _|_
  .exact LA ((List.mem_cons.mp h).resolve_left (ne_of_beq_false e))
  .exact⟨v,rfl⟩
theorem Df(S:ScopeOk sc)(n:Nat)(h:lk sc.names x=some .cell):∃a,(cellsFrom n sc.names []).lookup x=some a:=by
 refine LA ?_
 rw[cellsFrom_names sc.names n 0 [] [] rfl]
 exact S.cell x h
theorem LB(S:ScopeOk sc)(n:Nat):((cellsFrom n sc.names []).map (·.1)).Nodup:=by
 rw[cellsFrom_names sc.names n 0 [] [] rfl];exact S.nd
theorem LC{α:Type}{r:List (Str×α)}(h:x∉r.map (·.1)):r.lookup x=none:=by
 rcases q:r.lookup x with _|u
 .rfl
 .exact absurd (List.mem_map.mpr ⟨_,mem_of_lookup q,rfl⟩) h
theorem rJ{k:Str->Option NameKind}(hx:k x=some .local):∀{bs:List (Str×Value)}(m:Str->Option Value),(bs.map (·.1)).Nodup->bindL k bs m x=(bs.lookup x).or (m x)
 |[],m,_=>rfl
 |(n,v)::r,m,h=>by
  have h:=List.nodup_cons.mp h
  rw[bindL,rJ hx _ h.2,ha]
  rcases e:x==n with _|_
  .refine congrArg _ ?_
   split
   .exact if_neg (ne_of_beq_false e)
   .rfl
  .have:=eq_of_beq e
   subst this
   rw[LC h.1,if_pos hx];exact if_pos rfl
theorem ut{k:Str->Option NameKind}(hx:k x≠some .local):∀{bs:List (Str×Value)}(m:Str->Option Value),(bs.map (·.1)).Nodup->bindC k bs m x=(bs.lookup x).or (m x)
 |[],m,_=>rfl
 |(n,v)::r,m,h=>by
  have h:=List.nodup_cons.mp h
  rw[bindC,ut hx _ h.2,ha]
  rcases e:x==n with _|_
  .refine congrArg _ ?_
   split
   .rfl
   .exact if_neg (ne_of_beq_false e)
  .have:=eq_of_beq e
   subst this
   rw[LC h.1,if_neg hx];exact if_pos rfl
def w6(ps:List Str)(aU:List V):am:=(ps.zip aU).map λq=>(q.1,q.2,false)
section
theorem LD{o:Bool}:∀{ps:List Str}{aU:List V}{vs:List Value},Vals prog w H g vs aU->a2 (w6 ps aU) x=some (u,o)->
  o=false/\∃v,(ps.zip vs).lookup x=some v/\Val prog w H g g.im v u
 |[],_,_,_,h=>aI h
 |_::_,[],_,_,h=>aI h
 |p::ps,y::aU,_,q,h=>by
  obtain⟨v,vs,e,a,b⟩:=q.dat
  rw[e,tm,ha,Lz]
  rcases eA h with ⟨e,h⟩|⟨e,h⟩<;>rw[e]
  .exact pI (Option.some.inj h▸rfl:some (y,false)=some (u,o)) (P:=λu o=>o=false/\∃f2,some v=some f2/\Val prog w H g g.im f2 u) ⟨rfl,v,rfl,a⟩
  .exact LD b h
theorem LF:∀{ps:List Str}{aU:List V},x∉ps->a2 (w6 ps aU) x=none
 |[],_,_=>rfl
 |_::_,[],_=>rfl
 |p::ps,y::aU,h=>by
  show cond (a9 p x) _ (a2 (w6 ps aU) x)=none
  rcases e:a9 p x with _|_
  .exact LF λm=>h (.tail _ m)
  .exact absurd (sEq_iff.mp e▸ .head _) h
end
noncomputable def dw(L:Addr)(cells:List (Str×Addr))(a:Addr):Option Ro:=
 if a=L then some .loc else (cells.find? λp=>p.2==a).map λp=> .cell p.1
theorem LG{L:Addr}{cells:List (Str×Addr)}(aS:cells.Pairwise λx y=>x.2≠y.2)(eJ:∀p∈cells,p.2≠L)(h:cells.lookup x=some a):dw L cells a=some (.cell x):=by
 have av:=mem_of_lookup h
 unfold dw
 rw[if_neg (eJ _ av)]
 rcases e:cells.find? λp=>p.2==a with _|p
 .exact absurd (beq_self_eq_true a) (List.find?_eq_none.mp e _ av)
 .have ah:p.2=a:=eq_of_beq (a:=p.2) (List.find?_some (p:=λp:Str×Addr=>p.2==a) e)
  rw[e]
  exact congrArg (λx=>some (Ro.cell x)) (name_of_addr aS (c:=a) (by rw [<-ah];exact Ic e) av)
theorem w7{L:Addr}{cells:List (Str×Addr)}{r:Ro}(h:dw L cells a=some r):a=L\/∃x,(x,a)∈cells:=by
 unfold dw at h
 split at h
 .exact .inl (by assumption)
 .obtain⟨p,aS,_⟩:=nk h
  have ah:p.2=a:=eq_of_beq (a:=p.2) (List.find?_some (p:=λp:Str×Addr=>p.2==a) aS)
  exact .inr ⟨p.1,by rw [<-ah];exact Ic aS⟩
section
theorem YL(S:ScopeOk sc)(aa:env.scope=sc)(ah:env.globals=mainGlobals)(aC:env.builtins=builtinsNs)(bC:env.cells=cellsFrom n sc.names []):EnvR sc env:=by
 have aj:∀x,env.kindOf x=lk sc.names x:=λx=>by rw [rH];unfold Env.kindOf;rw[aa]
 refine⟨by rw [aa];exact S.kind,ah,aC,λx h=>by rw [aj,h],λx h=>⟨by rw [aj,h],?_⟩,λx h=>?_,λx h=>by rw [aj,h],λx k h=>⟨(S.good x k h).2.1,(S.good x k h).2.2.1⟩⟩
 .rw[bC];exact Df S n h
 .obtain⟨h',_⟩:=S.good x _ h
  rcases h' with h'|h'|h'<;>exact nomatch h'
inductive NewFr (prog:Program) (w:World) (H:T) (g:Gh) (h h':Heap) (env:Env) (J:am) (ai:Addr->Option Ro):Prop
 |mk (F:FrR prog w H g h' env J ai) (C:Cfg prog w H g h') (X:Ext g h g h') (n:∀a r,ai a=some r->h.get? a=none)
theorem LH{s c1:Shared}(C:Cfg prog w H g s.heap)(S:ScopeOk sc)(_h1:env.scope=sc)(bC:env.cells=cellsFrom n sc.names []){bs:List (Str×Value)}(ao:(bs.map (·.1)).Nodup)(x:InCallC s env.locals (bindL env.kindOf bs λ_=>none) env.cells (bindC env.kindOf bs λ_=>none) c1)(iO:∀y u o,a2 J y=some (u,o)->o=false/\∃v,bs.lookup y=some v/\Val prog w H g g.im v u)(w8:a2 J dM=none):
  NewFr prog w H g s.heap c1.heap env J (dw env.locals env.cells):=by
 have eJ:∀p∈env.cells,p.2≠env.locals:=λp aS e=>qX _ (e▸x.above p.1 p.2 aS)
 have uu:∀a,env.locals<=a->s.heap.get? a=none:=λa aw=>by
  rcases e:s.heap.get? a with _|o
  .rfl
  .exact absurd (gs e) (Nat.not_lt.mpr (aT x.toInCall.fresh aw))
 have aq:∀a r,dw env.locals env.cells a=some r->s.heap.get? a=none:=λa r h=>
  (w7 h).elim (λe=>uu _ (dW e.symm)) λ⟨y,aY⟩=>uu _ (jH (x.above y a aY))
 have nd:(env.cells.map (·.1)).Nodup:=by rw [bC];exact LB S n
 have al:∀{y u o},a2 J y=some (u,o)->∃v,(bs.lookup y).or none=some v/\Hold prog w H g c1.heap (dw env.locals env.cells) y v u o:=λ{y u o} aY=>by
  obtain⟨e,v,ee,mF⟩:=iO y u o aY
  rw[e,ee];exact⟨v,rfl,mF⟩
 refine⟨⟨⟨_,x.toInCall.ns,λy u o aj aY=>?_⟩,λy a aY=>⟨_,x.cell y a aY,LG x.apart eJ aY,λu o aj bG=>?_⟩,if_pos rfl,λa r h=>?_,w8⟩,C.grow x.toInCall.keep,Ext.grow g x.toInCall.keep,aq⟩
 .rw[rJ aj _ ao];exact al aY
 .rw[ut (by rcases aj with aj|aj<;>rw[aj]<;>exact nofun) _ ao];exact al bG
 .have aX:=aq a r h
  refine⟨C.g7 aX,λq=>(C.vY q).elim λo aG=>aI (aX.symm.trans aG),?_⟩
  rcases w7 h with e|⟨y,aY⟩
  .obtain⟨o,_,_,aG,_⟩:=x.toInCall.ns;exact⟨o,e▸aG⟩
  .obtain⟨o,aG,_⟩:=x.cell y a (lookup_of_mem_nodup nd aY)
   exact⟨o,aG⟩
end
structure ExtS (ai:Addr->Option Ro) (g:Gh) (h:Heap) (au:Gh) (h':Heap):Prop where
 ta:au.ta=g.ta
 im:∀a o,g.im a=some o->au.im a=some o
 new:∀a o,h.get? a=some o->au.im a=g.im a
 old:∀a o,h.get? a=some o->a∉g.bW->ai a=none->h'.get? a=some o
 dd:DdTo g au h
 live:∀a o,h.get? a=some o->∃b9,h'.get? a=some b9
theorem Ext.toS(x:Ext g h au h')(ai:Addr->Option Ro):ExtS ai g h au h':=⟨x.ta,x.im,x.new,λa o e m _=>x.old a o e m,x.dd,x.live⟩
theorem ExtS.bW(x:ExtS ai g h au h'){o:Obj}(aw:h.get? a=some o):a∈au.bW↔a∈g.bW:=x.dd.mem x.ta aw
theorem ExtS.le(x:ExtS ai g h au h'):g.le au:=⟨x.ta,x.im,x.dd.le⟩
def Grow(ai:Addr->Option Ro)(h:Heap)(et:Addr->Option Ro):Prop:=∀a r,et a=some r->(∃d7,ai a=some d7)\/h.get? a=none
theorem Grow.refl(ai:Addr->Option Ro)(h:Heap):Grow ai h ai:=λ_ r e=> .inl ⟨r,e⟩
theorem Grow.no{ai et:Addr->Option Ro}(k:Grow ai h et){o:Obj}(aw:h.get? a=some o)(a6:ai a=none):et a=none:=by
 rcases e:et a with _|r
 .rfl
 .exact(k a r e).elim (λq=>q.elim λd7 q=>aI (a6.symm.trans q)) λq=>aI (q.symm.trans aw)
theorem ExtS.trans{ai et:Addr->Option Ro}{g au hF:Gh}{h h' jP:Heap}(x:ExtS ai g h au h')(y:ExtS et au h' hF jP)(e8:Grow ai h et):ExtS ai g h hF jP:=
 ⟨y.ta.trans x.ta,λa o e=>y.im a o (x.im a o e),λa o aw=>(x.live a o aw).elim λb9 gc=>(y.new a b9 gc).trans (x.new a o aw),
  λa o aw aX a6=>y.old a o (x.old a o aw aX a6) (λq=>aX ((x.bW aw).mp q)) (e8.no aw a6),x.dd.trans y.dd x.live,λa o e=>(x.live a o e).elim λb9 gc=>y.live a b9 gc⟩
theorem Grow.trans{ai et LI:Addr->Option Ro}(a:Grow ai h et)(x:ExtS ai g h au h')(b:Grow et h' LI):Grow ai h LI:=λc r e=>
 (b c r e).elim (λq=>q.elim λd7 q=>a c d7 q) λq=> .inr (gU x.live q)
section
variable (prog:Program)(w:World)
def ic(g:Gh)(h:Heap)(ai:Addr->Option Ro):Prop:=∀a r,ai a=some r->Sep1 g h a
def Dg(O:T)(g:Gh)(h:Heap)(env:Env)(ai:Addr->Option Ro)(J:am):Fl->Flow->Prop
 | .next,f=>f= .next/\FrR prog w O g h env J ai
 | .ret v,f=>∃u,f= .ret u/\Seen prog w O g h ai u v
inductive OwnAt (env:Env) (h:Heap) (x:Str) (a:Addr):Prop
 |loc (k:env.kindOf x=some .local) (m:Str->Option Value) (n:h.Ns env.locals m) (e:m x=some (.ref a))
 |cell (k:env.kindOf x=some .cell) (c:Addr) (l:env.cells.lookup x=some c) (o:h.IsCell c (some (.ref a)))
def YM(env:Env)(cB:List Stmt)(h h':Heap):Prop:=∀y a,kv y cB=false->OwnAt env h y a->OwnAt env h' y a
inductive FnDfl (h0:Heap) (v:Value) (dfl:List V):Prop
 |no (e1:v= .none) (e2:dfl=[])
 |yes (t:Addr) (Dh:Obj) (jV:Array Value) (n:Nat) (ds:List PyData) (e:v= .ref t) (h:h0.get? t=some Dh) (d:Dh.data= .seq jV n) (r:RdL h0.get? jV.toList ds) (c:∀H,bX H dfl=some ds)
inductive FnEx (h0:Heap) (K:Frag) (fn:Fn) (f:Value):Prop
 |mk (a:Addr) (o:Obj) (b4:FuncData) (e:f= .ref a) (k:keepIn K (.ref a)=true) (h:h0.get? a=some o) (d:o.data= .func b4) (b:b4.body= .stmts fn.bd) (sc:b4.scope=fn.sc) (w9:b4.globals=mainGlobals) (cl:b4.closure=[]) (LJ:b4.builtins=builtinsNs)
   (co:h0.CodeRec b4.code b4.qualname) (fm:b4.params.posonlyargs=[]) (gF:b4.params.kwonlyargs=[]) (lE:b4.params.vararg=none) (lF:b4.params.kwarg=none) (ps:b4.params.args.map (·.arg)=fn.ps) (df:FnDfl h0 b4.defaults fn.dfl)
structure FnOk (h0:Heap) (K:Frag) (fn:Fn) (f:Value):Prop where
 ex:FnEx h0 K fn f
 sc:ScopeOk fn.sc
 nd:fn.ps.Nodup
 par:∀x∈fn.ps,lk fn.sc.names x=some .local\/lk fn.sc.names x=some .cell
 hY:fn.dfl.length<=fn.ps.length
def lG(ai:Addr->Option Ro)(H:T)(g:Gh)(s:Shared)(env:Env)(cB:List Stmt)(bb:am)(O:T)(bw:Fl)(Q:Flow->Shared->Prop):Prop:=
 ∀au h' aF et f,ExtS ai g s.heap au h'->H.bP O->Cfg prog w O au h'->Grow ai s.heap et->ic au h' et->Dg prog w O au h' env et bb bw f->YM env cB s.heap h'->Q f {s with heap:=h',toks:=aF}
end
section
variable (prog:Program)(w:World)(G:Gl)(ta:Ta)
def fb(n:Nat):Prop:=∀(c:Cx)(J:am)(cB:List Stmt)(H:T)(bw:Fl)(bb:am)(O:T),bv G n c J cB H=some (bw,bb,O)->O.cnt<=ba->
 ∀(A:Around)(env:Env)(ai:Addr->Option Ro)(g:Gh)(s:Shared)(Q:Flow->Shared->Prop)(E:cI),
  Room A n->g.ta=ta->EnvR c.sc env->Cfg prog w H g s.heap->FrR prog w H g s.heap env J ai->lG prog w ai H g s env cB bb O bw Q->wpAny (model prog w) A (execs cB env) Q E s
def nP(K:Frag)(n:Nat):Prop:=∀(fn:Fn)(as:List V)(H:T)(v:V)(O:T),bK G n fn as H=some (v,O)->O.cnt<=ba->∀(f:Value),FnOk ta.h0 K fn f->
 ∀(A:Around)(g:Gh)(s:Shared)(b2:List Value)(Q:cI)(E:cI),Room A n->g.ta=ta->Cfg prog w H g s.heap->Vals prog w H g b2 as->ToV prog w H g s O v Q->wpAny (model prog w) A (call f b2) Q E s
end
section
theorem DdTo.add(d:DdTo g au h){o:Obj}:DdTo g (au.add a o) h:=by
 obtain⟨m,e,n⟩:=d
 exact⟨m,e,n⟩
theorem xa(ap:hE u=true)(aX:g.im a=none)(al:Val prog w H g h.get? (.ref a) u):∃o,h.get? a=some o/\Val prog w H (g.add a o) (g.add a o).im (.ref a) u:=by
 have key:∀o,h.get? a=some o->Val prog w H (g.add a o) (g.add a o).im (.ref a) u:=λo e=>al.seen (.refl H) (Gh.hv aX) (λq bq=>Option.some.inj (e.symm.trans bq)▸Gh.jA g a o) ap
 rcases u
 case list=>
  obtain⟨b,vs,n,ds,e,ah,aC,bC⟩:=al
  injection e with e
  exact⟨_,e▸ah,key _ (e▸ah)⟩
 case dict=>
  obtain⟨b,o,e,ah,aC,bC⟩:=al
  injection e with e
  exact⟨o,e▸ah,key _ (e▸ah)⟩
 all_goals exact nomatch ap
theorem Cfg.freeze(C:Cfg prog w H g h){o:Obj}(aX:g.im a=none)(av:a∉g.bW)(aG:h.get? a=some o):Cfg prog w H (g.add a o) h:=
 C.keep rfl rfl (Gh.hv aX) (λb ao=>(Gh.g9 λe:b=a=>av (e▸ao)).trans (C.tok.out b ao)) (λ_ _ _ e=>e) λb q e=>
  (Gh.oH e).elim (λx=>x.1▸x.2▸aG) (C.bn b q)
theorem ang(C:Cfg prog w H g h)(N:g.ta.h0.NoLimit):h.NoLimit:=N.keeps λa o e=>C.bn a o (C.base a o e)
theorem Vals.drop:∀(k:Nat){vs:List Value}{aU:List V},Vals prog w H g vs aU->Vals prog w H g (vs.drop k) (aU.drop k)
 |0,_,_,h=>h
 |k+1,_,[],h=>by rw [h.dat];exact .nil
 |k+1,_,_::_,h=>by obtain ⟨v,vs,e,a,r⟩:=h.dat;rw[e];exact Vals.drop k r
theorem Vals.append{eI:List Value}{cy:List V}(k:Vals prog w H g eI cy){vs:List Value}{aU:List V}(h:Vals prog w H g vs aU):Vals prog w H g (vs++eI) (aU++cy):=by
 induction h with
 |nil=>exact k
 |cons a b bg=>exact .cons a bg
theorem LK{α:Type}{ps:List Str}{l:List α}(h:ps.length<=l.length):(ps.zip l).map (·.1)=ps:=List.map_fst_zip h
inductive DflV (prog:Program) (w:World) (h0:Heap) (v:Value) (dfl:List V):Prop
 |mk (dv:List Value) (len:dv.length=dfl.length) (h:∀(H:T)(g:Gh),(∀a o,h0.get? a=some o->g.im a=some o)->Vals prog w H g dv dfl)
   (k:∀(s:Shared),(∀a o,h0.get? a=some o->s.heap.get? a=some o)->∀(A:Around)(E:cI)(Q:Option (Array Value)->Shared->Prop),(∀r,(r.getD #[]).toList=dv->Q r s)->wpAny (model prog w) A (seqItems? v) Q E s)
theorem YN{h0:Heap}{v:Value}{dfl:List V}(h:FnDfl h0 v dfl):DflV prog w h0 v dfl:=by
 rcases h with ⟨e1,e2⟩|⟨t,Dh,jV,m,ds,e1,e2,e3,eN,kF⟩
 .rw[e1,e2]
  exact⟨[],rfl,λ_ _ _=> .nil,λs _ A E Q aO=>wpAny_pure (aO none rfl)⟩
 .rw[e1]
  exact⟨jV.toList,eN.length.trans (rB (kF ⟨[],[],false,[],[],0,none⟩)),λH g b=>Vals.H2 (kF H) (eN.mono b),λs up A E Q aO=>wpAny_seqItems (up _ _ e2) e3 (aO _ rfl)⟩
theorem Room.deeper(R:Room A (n+1))(env:Env):Room (A.deeper env) n:=
 ⟨R.handled,by have:=R.depth;rwa [jG n 1,<-jE] at this,hZ (jC (by
  show A.units+3+20*n<=_
  rw[jE,zZ,jG 3]
  exact dh (dh (by decide) _) _) 400) R.units⟩
theorem YO{aF:Nat}{et:Addr->Option Ro}{v:Value}(X:Ext g s.heap au h')(k:H.bP O)(C:Cfg prog w O au h')(iP:ic au h' et)(S:Seen prog w O au h' et v u)(new:∀a r,et a=some r->s.heap.get? a=none)(ak:ToV prog w H g s O u Q):Q v {s with heap:=h',toks:=aF}:=by
 obtain⟨y,b,U⟩:=S
 rcases b with _|_
 .exact ak au h' aF v X k C U
 .obtain⟨ap,b,e,e8,fK⟩:=U
  rw[e] at fK |-
  obtain⟨dB,d9,_⟩:=iP b _ e8
  obtain⟨q,aO,YQ⟩:=xa ap dB fK
  exact ak (au.add b q) h' aF _ ⟨X.ta,λc r e=>Gh.hv dB c r (X.im c r e),λc r e=>(Gh.g9 λbq=>aI ((new b _ e8).symm.trans (bq▸e))).trans (X.new c r e),X.old,X.dd.add,X.live⟩ k (C.freeze dB d9 aO) YQ
theorem ExtS.back{h aB h':Heap}(X:ExtS ai g aB au h')(k:∀a o,h.get? a=some o->aB.get? a=some o)(n:∀a r,ai a=some r->h.get? a=none):Ext g h au h':=by
 refine⟨X.ta,X.im,λb q e=>X.new b q (k b q e),λb q e m=>X.old b q (k b q e) m ?_,?_,λb q e=>X.live b q (k b q e)⟩
 .rcases bq:ai b with _|r
  .rfl
  .exact aI ((n b r bq).symm.trans e)
 .obtain⟨m,cC,cA⟩:=X.dd
  exact⟨m,cC,λp aS=>gU (λa o e=>⟨o,k a o e⟩) (cA p aS)⟩
noncomputable def nQ:Flow->Value
 | .ret v=>v
 |_=> .none
structure Opened (prog:Program) (w:World) (h0:Heap) (s:Shared) (fn:Fn) (b2 dv:List Value) (env:Env) (c1:Shared):Prop where
 len:dv.length=fn.dfl.length
 V:∀(H:T)(g:Gh),(∀a o,h0.get? a=some o->g.im a=some o)->Vals prog w H g dv fn.dfl
 x:InCallC s env.locals (bindL env.kindOf (lD fn.ps b2 dv) λ_=>none) env.cells (bindC env.kindOf (lD fn.ps b2 dv) λ_=>none) c1
 sc:env.scope=fn.sc
 N:EnvR fn.sc env
 cl:∃n,env.cells=cellsFrom n fn.sc.names []
theorem Di{h0:Heap}(NL:h0.NoLimit){fn:Fn}{f:Value}(aL:FnOk h0 K fn f){b2:List Value}{R:Result->Shared->Prop}(uv:A.depth<recursionLimit)(up:∀b q,h0.get? b=some q->s.heap.get? b=some q)(cg:b2.length<=fn.ps.length)(ch:fn.ps.length - b2.length<=fn.dfl.length)(k:∀dv env c1 E,Opened prog w h0 s fn b2 dv env c1->wpAny (model prog w) (A.deeper env) (execs fn.bd env) (λf bQ=>R (.ok (.ret (nQ f))) bQ) E c1):codeAny (model prog w) A (.call f ⟨b2,[]⟩) R s:=by
 obtain⟨a,o,b4,ef,aj,aG,aQ,xc,lH,uw,Dj,xe,YR,fm,gF,lE,lF,iQ,ux⟩:=aL.ex
 obtain⟨dv,ld,YS,YT⟩:=YN (prog:=prog) (w:=w) ux
 have uy:b4.params.args.length=fn.ps.length:=by rw [<-iQ,eQ]
 have hY:=aL.hY
 rw[<-ld] at ch hY
 rw[ef]
 refine codeAny_call_function uv (up _ _ aG) aQ (by rw [lH];exact aL.sc.co) (by rw [lH];exact aL.sc.gen) xc (YR.keeps up) ?_
 refine YK (dv:=dv) fm gF lE lF (by rw [iQ];exact aL.nd) (λQ aO=>YT s up _ _ Q aO) (uy▸cg) (uy▸ch) (uy▸hY) ?_
 rw[iQ,Dj]
 refine wpAny_newFunctionEnv_cells (by rw [lH];exact aL.sc.kind) (λy aY=>?_) λenv cL c1 x=>?_
 .have YU:y.1∈fn.ps:=(List.of_mem_zip (a:=y.1) (b:=y.2) aY).1
  rw[lH]
  rcases aL.par _ YU with e|e
  .exact .inl (by rw [<-rH];exact e)
  .obtain⟨b,ao⟩:=Df aL.sc (s.heap.objs.size+1) e
   exact .inr ⟨by rw [<-rH];exact e,by rw [ao];rfl⟩
 have LL:env.scope=fn.sc:=by rw [cL];exact lH
 have YV:env.globals=mainGlobals:=by rw [cL];exact uw
 have YW:env.builtins=builtinsNs:=by rw [cL];exact xe
 have nR:env.cells=cellsFrom (s.heap.objs.size+1) fn.sc.names []:=by rw [cL,<-lH];rfl
 exact⟨NL.keeps λb q e=>x.toInCall.keep b q (up b q e),codeAny_func (wpAny_mono (k dv env c1 _ ⟨ld,YS,x,LL,YL aL.sc LL YV YW nR,⟨_,nR⟩⟩) (λf _ h=>by rcases f<;>exact h) λ_ _ h=>h)⟩
theorem LM(NL:ta.h0.NoLimit){fn:Fn}{f:Value}(aL:FnOk ta.h0 K fn f){b2:List Value}(uv:A.depth<recursionLimit)(eU:g.ta=ta)(C:Cfg prog w H g s.heap)(cg:b2.length<=fn.ps.length)(ch:fn.ps.length - b2.length<=fn.dfl.length)(k:∀dv env c1 E,Opened prog w ta.h0 s fn b2 dv env c1->wpAny (model prog w) (A.deeper env) (execs fn.bd env) (λf bQ=>Q (nQ f) bQ) E c1):wpAny (model prog w) A (call f b2) Q E s:=
 wpAny_call (Di NL aL uv (λb q e=>C.bn b q (C.base b q (eU▸e))) cg ch k)
theorem Room.call(R:Room A n):A.depth<recursionLimit:=hZ (eZ _ _) (me R.depth (by decide))
structure Called (prog:Program) (w:World) (H:T) (g:Gh) (h:Heap) (fn:Fn) (J:am) (env:Env) (aB:Heap):Prop where
 N:EnvR fn.sc env
 C:Cfg prog w H g aB
 F:FrR prog w H g aB env J (dw env.locals env.cells)
 X:Ext g h g aB
 new:∀a r,dw env.locals env.cells a=some r->h.get? a=none
 keep:∀a o,h.get? a=some o->aB.get? a=some o
theorem xf(N:ta.h0.NoLimit){fn:Fn}{as:List V}(iO:o8 fn.ps as fn.dfl=some J){f:Value}(aL:FnOk ta.h0 K fn f){b2:List Value}(uv:A.depth<recursionLimit)(eU:g.ta=ta)(C:Cfg prog w H g s.heap)(al:Vals prog w H g b2 as)(U:∀env aB bh E,Called prog w H g s.heap fn J env aB->wpAny (model prog w) (A.deeper env) (execs fn.bd env) (λf bQ=>Q (nQ f) bQ) E {s with heap:=aB,toks:=bh}):wpAny (model prog w) A (call f b2) Q E s:=by
 obtain⟨eB,iO⟩:=br iO
 have cg:=fi (aK eB).1
 have ch:=fi (aK eB).2
 have LN:=al.length
 rw[<-LN] at cg ch
 have YX:dM∉fn.ps:=λq=>(aL.par _ q).elim (λe=>(aL.sc.good _ _ e).2.2.2 rfl) λe=>(aL.sc.good _ _ e).2.2.2 rfl
 refine LM N aL uv eU C cg ch λdv env c1 ie Z=>?_
 have ld:=Z.len
 have V:=Z.V H g λa o e=>C.base a o (eU▸e)
 have YY:Vals prog w H g (b2++dv.drop (dv.length - (fn.ps.length - b2.length))) (as++fn.dfl.drop (fn.dfl.length - (fn.ps.length - as.length))):=by
  rw[<-LN,<-ld]
  exact .append (V.drop _) al
 rw[<-ld] at ch
 have YZ:(lD fn.ps b2 dv).map (·.1)=fn.ps:=LK (by rw [d5,v6,Nat.sub_sub_self ch,Nat.add_sub_cancel' cg];exact cq _)
 obtain⟨m,nR⟩:=Z.cl
 obtain⟨F,aZ,aR,fresh⟩:=LH C aL.sc Z.sc nR (by rw [YZ];exact aL.nd) Z.x (J:=w6 fn.ps (as++fn.dfl.drop (fn.dfl.length - (fn.ps.length - as.length)))) (λy u o aY=>LD YY aY) (LF YX)
 obtain⟨aB,Dk,iR,rK⟩:=Z.x.done
 rw[iR] at F aZ aR |-
 exact U env aB Dk ie ⟨Z.N,aZ,Option.some.inj iO▸F,aR,fresh,rK⟩
theorem Y0(N:ta.h0.NoLimit)(S:fb prog w G ta n):nP prog w G ta K (n+1):=by
 intro fn as H v O h ag f aL A g s b2 Q E R eU C al ak
 obtain⟨_,h⟩:=br h
 obtain⟨J,iO,h⟩:=bD h
 obtain⟨bw,bb,cE,aJ,h⟩:=rn h
 revert ag ak
 refine pI h (P:=λv O=>O.cnt<=ba->ToV prog w H g s O v Q->_) λag ak=>?_
 refine xf N iO aL R.call eU C al λenv aB bh ie Z=>?_
 refine S ⟨fn.sc,fn.bd⟩ J fn.bd H bw bb cE aJ ag (A.deeper env) env _ g {s with heap:=aB,toks:=bh} _ _ (R.deeper env) eU Z.N Z.C Z.F λau h' aF et f X k ct Gw iP Fl _=>?_
 have LO:Ext g s.heap au h':=X.back Z.keep Z.new
 rcases bw with _|u
 .obtain⟨e,_⟩:=Fl
  rw[e]
  exact ak au h' aF .none LO k ct Val.none
 .obtain⟨z,e,U⟩:=Fl
  rw[e]
  exact YO (s:=s) LO k ct iP U (λb r e=>(Gw b r e).elim (λq=>q.elim λd7 q=>Z.new b d7 q) λq=>gU (λa o e=>⟨o,Z.keep a o e⟩) q) ak
end
section
variable (prog:Program)(w:World)(G:Gl)(ta:Ta)
def ToB(H:T)(g:Gh)(s:Shared)(O:T)(b:Bool)(Q:Bool->Shared->Prop):Prop:=∀au h' aF,Ext g s.heap au h'->H.bP O->Cfg prog w O au h'->Q b {s with heap:=h',toks:=aF}
def iS(n:Nat):Prop:=
 ∀(c:Cx)(J:am)(e:Expr)(H:T)(b:Bool)(O:T),dR G n c J e H=some (b,O)->O.cnt<=ba->
  ∀(A:Around)(env:Env)(ai:Addr->Option Ro)(g:Gh)(s:Shared)(Q:Bool->Shared->Prop)(E:cI),
   Room A n->g.ta=ta->EnvR c.sc env->Cfg prog w H g s.heap->FrR prog w H g s.heap env J ai->ToB prog w H g s O b Q->wpAny (model prog w) A (isTrue e env (eval e env)) Q E s
def uz(n:Nat):Prop:=
 ∀(c:Cx)(J:am)(e:Option Expr)(H:T)(v:V)(O:T),ln G n c J e H=some (v,O)->O.cnt<=ba->
  ∀(A:Around)(env:Env)(ai:Addr->Option Ro)(g:Gh)(s:Shared)(Q:cI)(E:cI),
   Room A n->g.ta=ta->EnvR c.sc env->Cfg prog w H g s.heap->FrR prog w H g s.heap env J ai->ToV prog w H g s O v Q->wpAny (model prog w) A (evalPart e env) Q E s
end
section
theorem rL{b:Bool}(h:dR G n c J e H=some (b,O))(aL:H.fA):H.bP O/\O.fA:=(gT G n n (cq _)).t c J e H _ _ h aL
theorem LP{e:Option Expr}{v:V}(h:ln G n c J e H=some (v,O))(aL:H.fA):H.bP O/\O.fA:=(gT G n n (cq _)).o c J e H _ _ h aL
theorem Dl{op:BoolOp}{e:List Expr}{b:Bool}(h:gz (dR G n c J) op e H=some (b,O))(aL:H.fA):H.bP O/\O.fA:=ub ((gT G n n (cq _)).t c J) _ _ h aL
theorem LQ{v:V}(h:b7 c J (aN G n c J) e H=some (v,O))(op:CmpOp):behindInMarks op e=false:=by
 have h:=wU h
 rcases e
 case Set=>exact nomatch h
 all_goals rfl
theorem ToB.trans{g aV:Gh}{aB:Heap}{bh:Nat}{b:Bool}{Q:Bool->Shared->Prop}(ak:ToB prog w H g s O b Q)(X:Ext g s.heap aV aB)(k:H.bP aD):ToB prog w aD aV {s with heap:=aB,toks:=bh} O b Q:=
 λcD a8 b8 cn dn b3=>ak cD a8 b8 (X.trans cn) (k.trans dn) b3
theorem LR(S:iS prog w G ta n)(R:Room A n)(N:EnvR c.sc env){op:BoolOp}:
  ∀{es:List Expr}{H:T}{b:Bool}{O:T},gz (dR G n c J) op es H=some (b,O)->O.cnt<=ba->∀{g:Gh}{s:Shared}{Q:Bool->Shared->Prop},g.ta=ta->Cfg prog w H g s.heap->FrR prog w H g s.heap env J ai->
  ToB prog w H g s O b Q->wpAny (model prog w) A (allTrue op es env) Q E s
 |[],H,b,O,h,_,g,s,Q,T,C,F,ak=>by
  have k:Q b s:=by
   revert ak
   exact pI h (P:=λb O=>ToB prog w H g s O b Q->Q b s) λak=>ak g s.heap s.toks (.refl _ _) (.refl _) C
  rw[<-(Prod.mk.inj (Option.some.inj h)).1] at k
  rcases op
  .exact wpAny_allTrue_And_nil k
  .exact wpAny_allTrue_Or_nil k
 |e::es,H,b,O,h,ag,g,s,Q,T,C,F,ak=>by
  obtain⟨t,aD,aa,h⟩:=b1 h
  have cC:=rL aa C.ok.bld
  have lI:some (t,aD)=some (b,O)->∀{K:Bool->Shared->Prop},(∀bQ,Q t bQ->K t bQ)->wpAny (model prog w) A (isTrue e env (eval e env)) K E s:=λh K k=>by
   revert ag ak
   exact pI h (P:=λb O=>O.cnt<=ba->ToB prog w H g s O b Q->_) λag ak=>S c J e H _ _ aa ag A env ai g s _ E R T N C F λaV aB bh aR k₁ aZ=>k _ (ak aV aB bh aR k₁ aZ)
  have LS:gz (dR G n c J) op es aD=some (b,O)->∀{K:Bool->Shared->Prop},(∀bQ,wpAny (model prog w) A (allTrue op es env) Q E bQ->K t bQ)->wpAny (model prog w) A (isTrue e env (eval e env)) K E s:=λh K k=>by
   have cA:=Dl h cC.2
   exact S c J e H _ _ aa (aT cA.1.cnt ag) A env ai g s _ E R T N C F λaV aB bh aR k₁ aZ=>k _ (LR S R N h ag (aR.ta.trans T) aZ (F.ext k₁ aR aZ.bn) (ak.trans aR k₁))
  rcases op<;>rcases t with _|_
  .exact wpAny_allTrue_And_cons (lI h λ_ q=>q)
  .exact wpAny_allTrue_And_cons (LS h λ_ q=>q)
  .exact wpAny_allTrue_Or_cons (LS h λ_ q=>q)
  .exact wpAny_allTrue_Or_cons (lI h λ_ q=>q)
theorem Dm(S:cx prog w G ta n){l r:Expr}{a b:V}(aa:b7 c J (aN G n c J) l H=some (a,aD))(ah:b7 c J (aN G n c J) r aD=some (b,O))(ag:O.cnt<=ba){Q:Value->cI}(R:Room A n)(T:g.ta=ta)(N:EnvR c.sc env)(C:Cfg prog w H g s.heap)(F:FrR prog w H g s.heap env J ai)(ak:∀au h' aF u v,Ext g s.heap au h'->H.bP O->Cfg prog w O au h'->Val prog w O au h'.get? u a->Val prog w O au h'.get? v b->Q u v {s with heap:=h',toks:=aF}):
  wpAny (model prog w) A (eval l env) (λu c1=>wpAny (model prog w) A (eval r env) (λv xg=>Q u v xg) E c1) E s:=by
 have cC:=pk aa C.ok.bld
 have cA:=pk ah cC.2
 refine my S aa (aT cA.1.cnt ag) R T N C F λaV aB bh u aR k₁ aZ bT=>?_
 have dA:=F.ext k₁ aR aZ.bn
 refine my S ah ag R (aR.ta.trans T) N aZ dA λcD a8 b8 v cn dn b3 dr=>?_
 exact ak cD a8 b8 u v (aR.trans cn) (k₁.trans dn) b3 ((bT.ext dn cn dA.sep b3.bn).val b3.bn) (dr.val b3.bn)
inductive CmpI {α:Type} (c:Cx) (J:am) (f:Expr->T->Option (V×T)) (l:Expr) (ops:List CmpOp) (a3:List Expr) (H:T) (k:Bool->T->Option α) (z:α):Prop
 |mk (o:CmpOp) (r:Expr) (x y:V) (aD bS:T) (t:Bool) (e1:ops=[o]) (e2:a3=[r]) (aa:b7 c J f l H=some (x,aD)) (ah:b7 c J f r aD=some (y,bS)) (aC:cX bS o x y=some t) (bC:k t bS=some z)
theorem LU{α:Type}{f:Expr->T->Option (V×T)}{l:Expr}{ops:List CmpOp}{a3:List Expr}{k:Bool->T->Option α}{z:α}(h:wB c J f l ops a3 H k=some z):CmpI c J f l ops a3 H k z:=by
 obtain⟨o,e1,h⟩:=bD h
 obtain⟨r,e2,h⟩:=bD h
 obtain⟨x,aD,aa,h⟩:=b1 h
 obtain⟨y,bS,ah,h⟩:=b1 h
 obtain⟨t,aC,h⟩:=bD h
 exact⟨o,r,x,y,aD,bS,t,nN e1,nN e2,aa,ah,aC,h⟩
inductive TkI (e:Expr):Tk->Prop
 |not (x:Expr) (p:Pos) (h:e= .UnaryOp .Not x p):TkI e (.not x)
 |bool (op:BoolOp) (vs:List Expr) (p:Pos) (h:e= .BoolOp op vs p):TkI e (.bool op vs)
 |ite (t b o:Expr) (p:Pos) (h:e= .IfExp t b o p):TkI e (.ite t b o)
 |cmp (l:Expr) (ops:List CmpOp) (a3:List Expr) (p:Pos) (h:e= .Compare l ops a3 p):TkI e (.cmp l ops a3)
 |eo (h:∀env LV,isTrue e env LV=(do let v <-LV;standAt e.pos;holding [v] (truthy v))):TkI e .eo
theorem Y1(e:Expr):TkI e (wy e):=by
 rcases e
 case UnaryOp op x p=>
  rcases op
  case Not=>exact .not x p rfl
  all_goals exact .eo λ_ _=>rfl
 case BoolOp op vs p=>exact .bool op vs p rfl
 case IfExp t b o p=>exact .ite t b o p rfl
 case Compare l ops a3 p=>exact .cmp l ops a3 p rfl
 all_goals exact .eo λ_ _=>rfl
theorem Y2(S:cx prog w G ta n)(a7:iS prog w G ta n):iS prog w G ta (n+1):=by
 intro c J e H b O h ag A env ai g s Q E R T N C F ak
 have bz:=R.less (cG n)
 have h:Cr c J (aN G n c J) (dR G n c J) e H (wy e)=some (b,O):=h
 have k:=Y1 e
 generalize wy e=q at h k
 rcases k with ⟨x,p,e1⟩|⟨op,vs,p,e1⟩|⟨x,y,z,p,e1⟩|⟨l,ops,a3,p,e1⟩|e1
 .obtain⟨t,aD,aa,h⟩:=b1 h
  rw[e1]
  revert ag ak
  exact pI h (P:=λb O=>O.cnt<=ba->ToB prog w H g s O b Q->_) λag ak=>wpAny_isTrue_Not (a7 c J _ H t _ aa ag A env ai g s _ E bz T N C F ak)
 .rw[e1]
  exact wpAny_isTrue_BoolOp (LR a7 bz N h ag T C F ak)
 .obtain⟨t,aD,aa,h⟩:=b1 h
  have cC:=rL aa C.ok.bld
  have cA:=rL h cC.2
  rw[e1]
  refine isTrue_IfExp (a7 c J _ H _ _ aa (aT cA.1.cnt ag) A env ai g s _ E bz T N C F λaV aB bh aR k₁ aZ=>?_)
  have pz:wpAny (model prog w) A (isTrue (cond t y z) env (eval (cond t y z) env)) Q E {s with heap:=aB,toks:=bh}:=a7 c J _ aD _ _ h ag A env ai aV _ Q E bz (aR.ta.trans T) N aZ (F.ext k₁ aR aZ.bn) (ak.trans aR k₁)
  rcases t with _|_<;>exact pz
 .obtain⟨o,r,x,y,aD,bS,t,e2,e3,aa,ah,aC,h⟩:=LU h
  rw[e1,e2,e3]
  revert ag ak
  refine pI h (P:=λb O=>O.cnt<=ba->ToB prog w H g s O b Q->_) λag ak=>?_
  refine wpAny_isTrue_Compare1 (Dm S aa ah ag bz T N C F λaV aB bh u v aR k₁ aZ bT dr=>?_) (LQ ah _)
  exact K3 (s:={s with heap:=aB,toks:=bh}) aC aZ bz bT dr λaF=>wpAny_truthy_bool (ak aV aB aF aR k₁ aZ)
 .obtain⟨v,aD,aa,h⟩:=b1 h
  refine isTrue_plain ?_ (e1 env _)
  revert ag ak
  exact h8 h (P:=λb O=>O.cnt<=ba->ToB prog w H g s O b Q->_) λt aC ag ak=>my S aa ag bz T N C F λaV aB bh u aR k₁ aZ bT=>
   CN (s:={s with heap:=aB,toks:=bh}) aC (bT.val aZ.bn) aZ.bn λaF=>ak aV aB aF aR k₁ aZ
theorem Y3(S:cx prog w G ta n):uz prog w G ta (n+1):=by
 intro c J e H v O h ag A env ai g s Q E R T N C F ak
 rcases e with _|e
 .rw[evalPart_none]
  revert ak
  exact pI (show some (V.none,H)=some (v,O) from h) (P:=λv O=>ToV prog w H g s O v Q->_) λak=>wpAny_pure (ak g s.heap s.toks .none (.refl _ _) (.refl _) C Val.none)
 .rw[evalPart_some]
  exact S c J e H v O h ag A env ai g s Q E (R.less (cG n)) T N C F ak
end
def nS (x:Str):Value:=cond (a9 x mm) (.builtin "isinstance") (cond (a9 x tU) (.type "str") (cond (a9 x h5) (.type "range") (pu x)))
structure Bk (prog:Program) (w:World) (G:Gl) (ta:Ta) (K:Frag) (bp mb:Str->Option Value):Prop where
 tp:Tp ta K
 g:ta.h0.Ns mainGlobals bp
 b:ta.h0.Ns builtinsNs mb
 th:ta.h0.NoLimit
 val:∀x u,G.val x=some u->∃v,bp x=some v/\∀H g,g.ta=ta->(∀a o,ta.h0.get? a=some o->g.im a=some o)->Val prog w H g g.im v u
 fn:∀x f,G.fn x=some f->∃v,bp x=some v/\FnOk ta.h0 K f v
 i3:∀m f,G.i3 m=some f->(m="force"\/m="bound"\/m="shape"\/m="list_prop")/\∃a,lz K ta.qM a m=true/\FnOk ta.h0 K f (.ref a)
 free:∀x,G.free x=true->bp x=none/\mb x=some (nS x)
section
theorem Bk.up(B:Bk prog w G ta K bp mb)(C:Cfg prog w H g s.heap)(T:g.ta=ta):∀b q,ta.h0.get? b=some q->s.heap.get? b=some q:=λb q e=>C.bn b q (C.base b q (T▸e))
theorem pA(B:Bk prog w G ta K bp mb)(C:Cfg prog w H g s.heap)(T:g.ta=ta)(N:EnvR sc env){v:Value}(aj:lk sc.names x=some .globalImplicit)(al:bp x=some v)(ak:Q v s):
  wpAny (model prog w) A (eval (.Name x p) env) Q E s:=
 Name_function_global N.kind (N.impl x aj) (loadGlobal_global (by rw [N.glob];exact B.g.keeps (B.up C T)) al ak) (ia N aj)
theorem rM(B:Bk prog w G ta K bp mb)(C:Cfg prog w H g s.heap)(T:g.ta=ta)(N:EnvR sc env)(aj:lk sc.names x=some .globalImplicit)(a6:G.free x=true)(ak:Q (nS x) s):
  wpAny (model prog w) A (eval (.Name x p) env) Q E s:=
 Name_function_global N.kind (N.impl x aj) (loadGlobal_builtin (by rw [N.glob];exact B.g.keeps (B.up C T)) (B.free x a6).1 (by rw [N.blt];exact B.b.keeps (B.up C T)) (B.free x a6).2 ak) (ia N aj)
theorem LW:∀{l:List Nat},oY l=true->l.all (λc=>decide (c<1114112))=true
 |[],_=>rfl
 |_::_,h=>(c6 _ _).mpr ⟨decide_eq_true (fi (aK h).1),LW (aK h).2⟩
theorem Dn(h:oY x.cps.toList=true):PyData.strOk x=true:=by
 unfold PyData.strOk
 rw[<-Array.all_toList]
 exact LW h
theorem Do(h:PyData.strOk x=true):bI H (.str x)=some (.str x):=by
 show ow (PyData.strOk x) _=_
 rw[h];rfl
theorem Y4(C:Cfg prog w H g s.heap){k:Const}{fW:Nat}{v:V}(h:JF k=some v)(Gt:Got prog w H g s Q v):wpAny (model prog w) A (eval (.Constant k fW p) env) Q E s:=by
 rcases k
 case none=>exact wpAny_Constant_none (Gt.here C (gb h (P:=Val prog w H g g.im _) Val.none) s.toks)
 case bool=>exact wpAny_Constant_bool (Gt.here C (gb h (P:=Val prog w H g g.im _) (.bool _)) s.toks)
 case int=>exact wpAny_Constant_int (Gt.here C (gb h (P:=Val prog w H g g.im _) (.int _ _)) _)
 case str x=>
  obtain⟨aj,h⟩:=br h
  exact wpAny_Constant_str (Gt.here C (gb h (P:=Val prog w H g g.im _) (.g8 (Do (Dn aj)) (.str x _))) _)
 all_goals exact aI h
theorem Y5{o:Expr}(h:hA o=true)(a:Str)(p:Pos)(env:Env):eval (.Attribute o a p) env=(do
   let v <-eval o env
   standAt p.atName
   let r <-holding [v] (getAttr v a true)
   letTemporaryGo o v r
   pure r):=by
 rcases o
 case Call=>exact nomatch h
 all_goals rfl
theorem LX{r:V×T}(h:aN G n c J e H=some r)(o i:Value):subscripted e false o i=operate [o,i] (getItem o i):=by
 have h:=mA h
 rcases e
 case Slice=>exact nomatch h
 all_goals rfl
theorem Y6{b i r:V}(h:fE H b i=some r)(C:Cfg prog w H g s.heap){cQ:Value}(ao:Val prog w H g s.heap.get? cQ b):∃T id,s.TypeIs cQ T/\typeLookup (.type T) "__getitem__"=pure (some (.builtin id)):=by
 rcases b
 case tup=>
  obtain⟨a,o,vs,n,ds,e,bx,ap,aQ,aq,aC⟩:=ao.gO
  rw[e];exact⟨"tuple",_,⟨o,C.bn _ _ bx,ap⟩,slot_tuple_getitem.lookup⟩
 case list=>
  obtain⟨a,vs,n,ds,e,bx,aq,aC⟩:=ao.kh
  rw[e];exact⟨"list",_,⟨_,bx,rfl⟩,slot_list_getitem.lookup⟩
 case dict=>
  obtain⟨ad,o,e,aG,av,D⟩:=ao
  rw[e]
  rcases D with ⟨aW,aa,_⟩|⟨aW,aa,_⟩<;>exact⟨"dict",_,(aa.mapOf aG).typeIs,slot_dict_getitem.lookup⟩
 all_goals exact aI h
end
mutual
noncomputable def pB:PyData->Bool
 | .list _=>false
 | .tuple l=>nT l
 | .dict _=>false
 |_=>true
noncomputable def nT:List PyData->Bool
 |[]=>true
 |d::r=>pB d&&nT r
end
theorem Dp:∀{l:List PyData},(∀x∈l,pB x=true)->nT l=true
 |[],_=>rfl
 |x::l,h=>(c6 _ _).mpr ⟨h x (.head _),Dp λy m=>h y (.tail _ m)⟩
theorem Y7:∀{l:List PyData},nT l=true->∀x∈l,pB x=true
 |x::l,h,y,m=>(List.mem_cons.mp m).elim (λe=>e▸(aK h).1) (Y7 (aK h).2 y)
mutual
theorem LY:∀{v:V}{d:PyData},V.k7 v=true->bI H v=some d->pB d=true
 | .none,_,_,h=>da h rfl
 | .bool _,_,_,h=>da h rfl
 | .int _,_,_,h=>da h rfl
 | .str _,_,_,h=>by rw [(gB h).1];rfl
 | .ty _,_,_,h=>by obtain ⟨_,e⟩:=rG h;rw[e];rfl
 | .tup l,_,k,h=>by
  obtain⟨m,av,e⟩:=gS h
  rw[e];exact LZ k av
theorem LZ:∀{v:List V}{d:List PyData},V.HY v=true->bX H v=some d->nT d=true
 |[],_,_,h=>da h rfl
 |u::aU,_,k,h=>by
  obtain⟨d,m,e,aQ,av⟩:=fa h
  rw[e]
  exact(c6 _ _).mpr ⟨LY (aK k).1 aQ,LZ (aK k).2 av⟩
end
theorem L1:fG n d=true->pB d=true:=wQ (λ_=>rfl) (λ_ _=>rfl) (λ_ h=>Dp h) n
open Classical in
noncomputable def Gh.cut (g:Gh) (F:Addr->Prop):Gh:={g with im:=λa=>if F a then none else g.im a}
theorem Gh.zs{F:Addr->Prop}(aX:¬F a):(g.cut F).im a=g.im a:=if_neg aX
theorem Gh.k6{F:Addr->Prop}{o:Obj}(h:g.im a=some o)(aX:¬F a):(g.cut F).im a=some o:=(Gh.zs aX).trans h
theorem Gh.H6{F:Addr->Prop}(h:F a):(g.cut F).im a=none:=if_pos h
theorem Gh.amX{F:Addr->Prop}{o:Obj}(h:(g.cut F).im a=some o):g.im a=some o/\¬F a:=by
 rcases tA (F a) with q|q
 .exact aI ((Gh.H6 q).symm.trans h)
 .exact⟨(Gh.zs q).symm.trans h,q⟩
def rN(g:Gh)(F:Addr->Prop):Prop:=∀a o,F a->g.im a=some o->o.cls= .type "list"\/o.cls= .type "dict"
theorem L2{o:Obj}(ap:o.cls= .type "tuple")(h:o.cls= .type "list"\/o.cls= .type "dict"):False:=by rcases h with e|e<;>rw[ap] at e<;>simp at e
theorem Rd.cut{F:Addr->Prop}(dY:rN g F){v:Value}(h:pB d=true)(r:Rd g.im v d):Rd (g.cut F).im v d:=
 Rd.rec (motive_1:=λv d _=>pB d=true->Rd (g.cut F).im v d) (motive_2:=λvs l _=>nT l=true->RdL (g.cut F).im vs l) (λ_=> .none) (λb _=> .bool b) (λi t _=> .int i t) (λx t _=> .str x t)
  (λbx ap aQ _ bg h=> .tup (Gh.k6 bx λq=>L2 ap (dY _ _ q bx)) ap aQ (bg h)) (λ_ _ _ h=>nomatch h) (λ_=> .nil) (λ_ _ p q h=> .cons (p (aK h).1) (q (aK h).2)) r h
theorem RdL.cut{F:Addr->Prop}(dY:rN g F):∀{d:List PyData}{v:List Value},nT d=true->RdL g.im v d->RdL (g.cut F).im v d
 |[],_,_,r=>by rw [r.dat];exact .nil
 |d::l,_,h,r=>by
  obtain⟨v,vs,e,a,b⟩:=r.dat
  rw[e];exact .cons (a.cut dY (aK h).1) (RdL.cut dY (aK h).2 b)
def Dq(g:Gh)(F:Addr->Prop):Prop:=∀a o,F a->g.im a=some o->o.cls= .type "dict"
theorem Y8{vs:Array Value}(h:(listOf vs n).cls= .type "dict"):False:=by simp at h
theorem Rd.cutD{F:Addr->Prop}(dY:Dq g F){v:Value}(r:Rd g.im v d):Rd (g.cut F).im v d:=
 Rd.rec (motive_1:=λv d _=>Rd (g.cut F).im v d) (motive_2:=λvs l _=>RdL (g.cut F).im vs l) .none .bool .int .str
  (λbx ap aQ _ bg=> .tup (Gh.k6 bx λq=>L2 ap (.inr (dY _ _ q bx))) ap aQ bg) (λbx _ bg=> .list (Gh.k6 bx λq=>Y8 (dY _ _ q bx)) bg) .nil (λ_ _ p q=> .cons p q) r
section
theorem Y9(aL:O.Ok){ds:List PyData}(h:bX O (O.base++O.dyn)=some ds):nT ds=true:=
 Dp (ue h λx hx _ aQ=>L1 (Db (aL.key x hx).2 (cq 4) aQ))
theorem Cfg.cut{jo g:Gh}(C:Cfg prog w O g h){F:Addr->Prop}(dY:rN g F)(_hta:g.ta=jo.ta)(_him:∀a o,jo.im a=some o->(g.cut F).im a=some o)(ao:∀a o,g.ta.h0.get? a=some o->¬F a)(a1:¬F g.ta.tab/\¬F g.ta.cU/\(g.ta.hh=true->¬F g.ta.host/\¬F g.ta.hu)):Cfg prog w O (g.cut F) h:=by
 have K:=C.tok
 obtain⟨t1,t2,L4⟩:=a1
 have inst:∀{c d},¬((instObj c d).cls= .type "list"\/(instObj c d).cls= .type "dict"):=λh=>by rcases h with e|e<;>simp at e
 refine⟨λa o e=>C.bn a o (Gh.amX e).1,λa o e=>Gh.k6 (C.base a o e) (ao a o e),C.ok,?_,C.line,C.mods⟩
 refine⟨Gh.k6 K.tab t1,?_,λq=>Gh.k6 (K.host q) (L4 q).1,?_,?_,?_,K.k2,?_,?_,?_,K.dfl,K.ew,K.nd,?_⟩
 .obtain⟨es,n,a,hg,gV,hj,jT,mC,lr,hk⟩:=K.cU;exact⟨es,n,Gh.k6 a t2,hg,gV,hj,jT,mC,lr,hk⟩
 .intro q;obtain⟨es,n,a,b,c⟩:=K.hu q;exact⟨es,n,Gh.k6 a (L4 q).2,b,c⟩
 .obtain⟨vs,n,ds,a,b,c⟩:=K.rows;exact⟨vs,n,ds,a,b.cut dY (Y9 C.ok c),c⟩
 .obtain⟨o,es,ca,a4,a,b,c,d,e,f,i,j⟩:=K.idx
  exact⟨o,es,ca,a4,a,b,c,d,e,λx hx=>⟨(f x hx).1.cut dY (L1 (f x hx).2),(f x hx).2⟩,i,j⟩
 .obtain⟨vs,n,a,b,c⟩:=K.decls;exact⟨vs,n,a,b,c⟩
 .intro k p aS
  obtain⟨a,es,n,b,c,v,d,e,fH,gC,f3,jU,lu,CL⟩:=K.decl k p aS
  exact⟨Gh.k6 a λq=>inst (dY _ _ q a),es,n,b,c,v,d,e.cut dY rfl,fH,gC,f3,jU,lu,CL⟩
 .obtain⟨vs,n,a,b,c⟩:=K.du;exact⟨vs,n,a,b,c⟩
 .intro a aw
  rcases tA (F a) with q|q
  .exact Gh.H6 q
  .exact(Gh.zs q).trans (K.out a aw)
theorem ObjDict.cls{K:Type}[DecidableEq K]{knd:KeyKind prog w K}{o:Obj}{aW:List (K×Value)}(h:ObjDict prog w knd o aW):o.cls= .type "dict":=by
 obtain⟨es,ca,q,_⟩:=h
 exact q.1
theorem DictO.cls{im:bA}{o:Obj}{l:List (V×V)}(h:DictO prog w H im o l):o.cls= .type "dict":=by rcases h with ⟨aW,q,_⟩|⟨aW,q,_⟩<;>exact q.cls
theorem Kvs.re{K:Type}{c7:K->PyData}{im hf:bA}(all:∀{w:Value}{d:PyData},Rd im w d->Rd hf w d){l:List (V×V)}{aW:List (K×Value)}(h:Kvs c7 H im l aW):Kvs c7 H hf l aW:=by
 induction h with
 |nil=>exact .nil
 |cons a b c _ bg=>exact .cons a b (all c) bg
theorem VDat.cut{F:Addr->Prop}(dY:rN g F){v:Value}(al:VDat O g.im v u)(aX:V.k7 u=true):Val prog w O (g.cut F) (g.cut F).im v u:=by
 obtain⟨d,aa,ah⟩:=al
 exact .g8 aa (ah.cut dY (LY aX aa))
theorem VDat.cutD{F:Addr->Prop}(dY:Dq g F){v:Value}(al:VDat O g.im v u):Val prog w O (g.cut F) (g.cut F).im v u:=by
 obtain⟨d,aa,ah⟩:=al
 exact .g8 aa (ah.cutD dY)
theorem Val.cut{F:Addr->Prop}(dY:rN g F){v:Value}(al:Val prog w O g g.im v u)(eJ:(∃a o,F a/\g.im a=some o/\o.cls= .type "list")->V.k7 u=true)(hD:(∃a o,F a/\g.im a=some o/\o.cls= .type "dict")->V.ma u=true):
  Val prog w O (g.cut F) (g.cut F).im v u:=by
 rcases tA (∃a o,F a/\g.im a=some o/\o.cls= .type "list") with ag|ag
 .have aX:=eJ ag
  rcases u
  case tab=>exact al
  case host=>exact al
  case decl=>obtain⟨p,a,b,c⟩:=al;exact⟨p,a,b,c⟩
  case list=>exact nomatch aX
  case dict=>exact nomatch aX
  all_goals exact VDat.cut dY al aX
 .have aQ:Dq g F:=λa o q e=>(dY a o q e).resolve_left λr=>ag ⟨a,o,q,e,r⟩
  rcases u
  case tab=>exact al
  case host=>exact al
  case decl=>obtain⟨p,a,b,c⟩:=al;exact⟨p,a,b,c⟩
  case dict l=>
   obtain⟨a,o,e,aa,ah,aC⟩:=al
   have Za:∀b b9,g.im b=some b9->¬F b:=λb b9 e q=>nomatch hD ⟨b,b9,q,e,aQ b b9 q e⟩
   refine⟨a,o,e,Gh.k6 aa (Za a o aa),ah,?_⟩
   rcases aC with ⟨aW,a,b⟩|⟨aW,a,b⟩
   .exact .int aW a (b.re λr=>r.cutD aQ)
   .exact .str aW a (b.re λr=>r.cutD aQ)
  case list l=>
   obtain⟨d,aa,ah⟩:=al.flat (λ_ _ e=>e) rfl
   exact .g8 aa (ah.cutD aQ)
  all_goals exact VDat.cutD aQ al
inductive SeenAs (prog:Program) (w:World) (H:T) (g:Gh) (h:Heap) (ai:Addr->Option Ro) (J:am):List Expr->List Value->List V->Prop
 |nil:SeenAs prog w H g h ai J [] [] []
 |val {e:Expr} {v:Value} {u:V} {es:List Expr} {vs:List Value} {aU:List V}:Val prog w H g g.im v u->SeenAs prog w H g h ai J es vs aU->SeenAs prog w H g h ai J (e::es) (v::vs) (u::aU)
 |own {x:Str} {p:Pos} {a:Addr} {u:V} {es:List Expr} {vs:List Value} {aU:List V}:a2 J x=some (u,true)->hE u=true->ai a=some (.own x)->Val prog w H g h.get? (.ref a) u->SeenAs prog w H g h ai J es vs aU->
   SeenAs prog w H g h ai J (.Name x p::es) (.ref a::vs) (u::aU)
inductive OwnArg (prog:Program) (w:World) (H:T) (g:Gh) (h:Heap) (ai:Addr->Option Ro) (J:am) (es:List Expr) (a:Addr):Prop
 |mk (x:Str) (p:Pos) (u:V) (m:Expr.Name x p∈es) (r:a2 J x=some (u,true)) (c:hE u=true) (f:ai a=some (.own x)) (v:Val prog w H g h.get? (.ref a) u)
open Classical in
noncomputable def Gh.lend (g:Gh) (h:Heap) (F:Addr->Prop):Gh:={g with im:=λa=>if F a then h.get? a else g.im a}
theorem Gh.H9{F:Addr->Prop}(q:F a):(g.lend h F).im a=h.get? a:=if_pos q
theorem Gh.zv{F:Addr->Prop}(q:¬F a):(g.lend h F).im a=g.im a:=if_neg q
inductive ContO (look:bA) (a:Addr) (u:V):Prop
 |list (o:Obj) (h:look a=some o) (c:o.cls= .type "list") (l:List V) (e:u= .list l)
 |dict (o:Obj) (h:look a=some o) (c:o.cls= .type "dict") (l:List (V×V)) (e:u= .dict l)
theorem L5{look:bA}(ap:hE u=true)(al:Val prog w H g look (.ref a) u):ContO look a u:=by
 rcases u
 case list=>
  obtain⟨b,vs,n,ds,e,ah,aC,bC⟩:=al
  injection e with e
  rw[<-e] at ah
  exact .list _ ah rfl _ rfl
 case dict=>
  obtain⟨b,o,e,ah,aC,bC⟩:=al
  injection e with e
  rw[<-e] at ah
  exact .dict o ah bC.cls _ rfl
 all_goals exact nomatch ap
theorem L6{r:V}:∀{es:List Expr},gx J r es=true->∀{x:Str}{p:Pos}{u:V},Expr.Name x p∈es->a2 J x=some (u,true)->lh r (u,true)=true
 |e::es,aG,x,p,u,av,aq=>by
  rcases List.mem_cons.mp av with q|q
  .have h:=(aK aG).1
   rw[<-q] at h
   have h:(match a2 J x with|some s=>lh r s|none=>true)=true:=h
   rw[aq] at h
   exact h
  .exact L6 (aK aG).2 q aq
theorem Zb{es:List Expr}(nU:∀a o,g.im a=some o->(g.lend h (OwnArg prog w H g h ai J es)).im a=some o){dN:List Expr}{vs:List Value}{aU:List V}(q:SeenAs prog w H g h ai J dN vs aU)(Dr:∀e∈dN,e∈es):
  Vals prog w H (g.lend h (OwnArg prog w H g h ai J es)) vs aU:=by
 have Zc:g.le (g.lend h (OwnArg prog w H g h ai J es)):=⟨rfl,nU,[],(eh _).symm⟩
 induction q with
 |nil=>exact .nil
 |val a _ bg=>exact .cons (a.mono (.refl H) Zc nU) (bg λe cL=>Dr e (.tail _ cL))
 | @own x p a u es vs aU aa ah aC bC _ bg=>
  exact .cons (bC.seen (.refl H) nU (λo e=>(Gh.H9 ⟨x,p,u,Dr _ (.head _),aa,ah,aC,bC⟩).trans e) ah) (bg λe cL=>Dr e (.tail _ cL))
inductive OwnO (g:Gh) (h:Heap) (a:Addr):Prop
 |mk (i:g.im a=none) (m:a∉g.bW) (o:Obj) (e:h.get? a=some o) (c:o.cls= .type "list"\/o.cls= .type "dict")
theorem Zd{es:List Expr}(sep:ic g h ai)(q:OwnArg prog w H g h ai J es a):OwnO g h a:=by
 obtain⟨x,p,u,aa,ah,aC,bC,ee⟩:=q
 obtain⟨bU,bZ,_⟩:=sep a _ bC
 rcases L5 aC ee with ⟨o,aG,ap,_,_⟩|⟨o,aG,ap,_,_⟩
 .exact⟨bU,bZ,o,aG,.inl ap⟩
 .exact⟨bU,bZ,o,aG,.inr ap⟩
theorem Ze(S:nP prog w G ta K n){fn:Fn}{as:List V}{v:V}(h:bK G n fn as H=some (v,O))(ag:O.cnt<=ba){f:Value}(aL:FnOk ta.h0 K fn f){es:List Expr}(gW:gx J v es=true){b2:List Value}(R:Room A n)(T:g.ta=ta)(C:Cfg prog w H g s.heap)(sep:ic g s.heap ai)(al:SeenAs prog w H g s.heap ai J es b2 as)(ak:ToV prog w H g s O v Q):wpAny (model prog w) A (call f b2) Q E s:=by
 obtain⟨F,Ds⟩:∃F,F=OwnArg prog w H g s.heap ai J es:=⟨_,rfl⟩
 have dY:∀a,F a->OwnO g s.heap a:=λa q=>Zd sep (by rw [Ds] at q;exact q)
 have pE:∀a o,g.im a=some o->¬F a:=λa o e q=>by obtain ⟨i,_⟩:=dY a q;exact aI (i.symm.trans e)
 have nU:∀a o,g.im a=some o->(g.lend s.heap F).im a=some o:=λa o e=>(Gh.zv (pE a o e)).trans e
 have Zf:Cfg prog w H (g.lend s.heap F) s.heap:=C.keep rfl rfl nU (λa aw=>(Gh.zv λq=>by obtain ⟨_,m,_⟩:=dY a q;exact m aw).trans (C.tok.out a aw)) (λ_ _ _ e=>e) λa o e=>by
  rcases tA (F a) with q|q
  .exact(Gh.H9 q).symm.trans e
  .exact C.bn a o ((Gh.zv q).symm.trans e)
 have Zg:Vals prog w H (g.lend s.heap F) b2 as:=by
  rw[Ds] at nU |-
  exact Zb nU al λ_ h=>h
 refine S fn as H v O h ag f aL A (g.lend s.heap F) s b2 Q E R T Zf Zg λau h' aF u X k ct iT=>?_
 have L7:∀a,F a->au.im a=s.heap.get? a:=λa q=>by
  obtain⟨_,_,o,aG,_⟩:=dY a q
  exact(X.new a o aG).trans (Gh.H9 q)
 have jY:rN au F:=λa o q e=>by
  obtain⟨_,_,b9,aG,ap⟩:=dY a q
  rw[<-Option.some.inj (aG.symm.trans ((L7 a q).symm.trans e))];exact ap
 have L9:∀a o,g.im a=some o->(au.cut F).im a=some o:=λa o e=>Gh.k6 (X.im a o (nU a o e)) (pE a o e)
 have K:=C.tok
 have Dt:au.ta=g.ta:=X.ta
 have Zh:Cfg prog w O (au.cut F) h':=ct.cut jY Dt L9 (λa o e=>pE a o (C.base a o (Dt▸e))) (by
  rw[Dt]
  obtain⟨_,_,Zi,_⟩:=K.cU
  exact⟨pE _ _ K.tab,pE _ _ Zi,λq=>⟨pE _ _ (K.host q),by obtain ⟨_,_,hD,_⟩:=K.hu q;exact pE _ _ hD⟩⟩)
 have own:∀a o,F a->au.im a=some o->(o.cls= .type "list"/\V.k7 v=true)\/(o.cls= .type "dict"/\V.ma v=true):=λa o q e=>by
  have e:=(L7 a q).symm.trans e
  rw[Ds] at q
  obtain⟨x,p,y,aa,ah,aC,bC,ee⟩:=q
  have aj:=L6 gW aa ah
  rcases L5 aC ee with ⟨b9,gc,hG,l,rO⟩|⟨b9,gc,hG,l,rO⟩<;>rw[rO] at aj<;>rw[<-Option.some.inj (gc.symm.trans e)]
  .exact .inl ⟨hG,aj⟩
  .exact .inr ⟨hG,aj⟩
 have ld:∀{o:Obj},o.cls= .type "list"->o.cls= .type "dict"->False:=λa b=>by rw [a] at b;simp at b
 refine ak (au.cut F) h' aF u ⟨X.ta,L9,λa o e=>?_,λa o e m=>X.old a o e m,by obtain ⟨m,e,n⟩:=X.dd;exact⟨m,e,n⟩,X.live⟩ k Zh (iT.cut jY (λ⟨a,o,q,e,ap⟩=>?_) λ⟨a,o,q,e,ap⟩=>?_)
 .rcases tA (F a) with q|q
  .obtain⟨i,_⟩:=dY a q
   exact(Gh.H6 q).trans i.symm
  .exact(Gh.zs q).trans ((X.new a o e).trans (Gh.zv q))
 .exact(own a o q e).elim (·.2) λh=>(ld ap h.1).elim
 .exact(own a o q e).elim (λh=>(ld h.1 ap).elim) (·.2)
end
section
theorem Du{f:Expr->T->Option (V×T)}(a6:∀e H r,f e H=some r->mz e=true)(env:Env):∀{es:List Expr}{H:T}{r:List V×T},dz f es H=some r->starEach es env=es.map λe=>(false,eval e env)
 |[],_,_,_=>rfl
 |e::es,H,r,h=>by
  obtain⟨v,aD,aa,h⟩:=b1 h
  obtain⟨vs,bS,ah,h⟩:=b1 h
  rw[wV (a6 _ _ _ aa) es env,Du a6 env ah];rfl
theorem Ma(env:Env){es:List Expr}{r:List V×T}(h:dz (b7 c J (aN G n c J)) es H=some r):starEach es env=es.map λe=>(false,eval e env):=Du (λ_ _ _ h=>wU h) env h
theorem nV(env:Env){es:List Expr}{r:List V×T}(h:dz (aN G n c J) es H=some r):starEach es env=es.map λe=>(false,eval e env):=Du (λ_ _ _ h=>mA h) env h
theorem Mb(pos:Pos)(env:Env)(es:List Expr):backTo pos (es.map λe=>(false,eval e env))=es.map λe=>(false,eval e env):=by
 unfold backTo
 rw[wc]
 apply List.map_congr_left
 intro e _
 rfl
theorem gi{M:Model}{P:Heap->Prop}{pos:Pos}{f:Value}{first:List Value}{es:List Expr}(aJ:starEach es env=es.map λe=>(false,eval e env))(aj:∀h,P h->∃k,(k=Keeper.frame\/k=Keeper.machine\/k=Keeper.boundFrame)/\Looks M h (keeperOf f) k)(h:wpAny M A (spliced (backTo pos (starEach es env))) (λvs c1=>P c1.heap/\wpAny M A (call f (first++vs)) Q E c1) E s):wpAny M A (callWith pos f first (backTo pos (starEach es env)) []) Q E s:=by
 rw[aJ,Mb] at h |-
 refine callWith_of ?_ aj ?_
 .rw[List.any_map]
  simp
 .cases es with
  |nil=>
   have:wpAny M A (spliced []) (λvs c1=>P c1.heap/\wpAny M A (call f (first++vs)) Q E c1) E s:=h
   unfold evalArgs
   show wpAny M A (spliced []>>=_) _ E s
   refine wpAny_bind (wpAny_mono this (λvs bQ h'=>?_) λ_ _ x=>x)
   first
    |exact wpAny_bind (wpAny_pure (wpAny_bind (wpAny_pure (wpAny_pure h'))))
    |exact wpAny_holding (wpAny_bind (wpAny_pure (wpAny_bind (wpAny_pure (wpAny_pure h')))))
    |exact wpAny_bind (wpAny_pure (wpAny_holding (wpAny_bind (wpAny_pure (wpAny_bind (wpAny_pure (wpAny_pure h')))))))
  |cons e es=>exact evalArgs_plain h
def Mc(prog:Program)(w:World)(H:T)(g:Gh)(s:Shared)(ai:Addr->Option Ro)(J:am)(e:Expr)(O:T)(v:V)(Q:cI):Prop:=
 ∀au h' aF u,Ext g s.heap au h'->H.bP O->Cfg prog w O au h'->(∀es vs aU,SeenAs prog w O au h' ai J es vs aU->SeenAs prog w O au h' ai J (e::es) (u::vs) (v::aU))->Q u {s with heap:=h',toks:=aF}
theorem Zj(S:cx prog w G ta n){v:V}(h:b7 c J (aN G n c J) e H=some (v,O))(ag:O.cnt<=ba)(R:Room A n)(T:g.ta=ta)(N:EnvR c.sc env)(C:Cfg prog w H g s.heap)(F:FrR prog w H g s.heap env J ai)(ak:Mc prog w H g s ai J e O v Q):wpAny (model prog w) A (eval e env) Q E s:=by
 rcases CJ h with ⟨x,p,u,o,e1,aj,aq,q⟩|h
 .rw[e1] at ak |-
  refine pI q (P:=λv O=>Mc prog w H g s ai J (.Name x p) O v Q->_) (λak=>?_) ak
  refine jh N F aj aq λv al=>ak g s.heap s.toks v (.refl _ _) (.refl _) C λes vs aU q=>?_
  rcases o with _|_
  .exact .val al q
  .obtain⟨aa,a,e,ah,aC⟩:=al
   rw[e] at aC |-
   exact .own aq aa ah aC q
 .exact S c J e H v O h ag A env ai g s Q E R T N C F λau h' aF u a b c d=>ak au h' aF u a b c (λ_ _ _ q=> .val d q)
theorem SeenAs.ext(k:H.bP O)(X:Ext g h au h')(aJ:ic g h ai){es:List Expr}{vs:List Value}{aU:List V}(q:SeenAs prog w H g h ai J es vs aU):SeenAs prog w O au h' ai J es vs aU:=by
 induction q with
 |nil=>exact .nil
 |val a _ bg=>exact .val (a.ext k X) bg
 |own aa ah aC bC _ bg=>exact .own aa ah aC (bC.seen k X.im (λo e=>X.old _ o e (aJ _ _ aC).mu) ah) bg
def Dv(prog:Program)(w:World)(H:T)(g:Gh)(s:Shared)(ai:Addr->Option Ro)(J:am)(es:List Expr)(O:T)(l:List V)(Q:List Value->Shared->Prop):Prop:=
 ∀au h' aF vs,Ext g s.heap au h'->H.bP O->Cfg prog w O au h'->SeenAs prog w O au h' ai J es vs l->Q vs {s with heap:=h',toks:=aF}
theorem SeenAs.more{u:Value}{v:V}(q:SeenAs prog w H g h ai J [e] [u] [v]){es:List Expr}{vs:List Value}{aU:List V}(k:SeenAs prog w H g h ai J es vs aU):SeenAs prog w H g h ai J (e::es) (u::vs) (v::aU):=by
 cases q with
 |val a _=>exact .val a k
 |own a b c d _=>exact .own a b c d k
theorem Dw(S:cx prog w G ta n){pos:Pos}(R:Room A n)(N:EnvR c.sc env):
  ∀{es:List Expr}{H:T}{l:List V}{O:T},dz (b7 c J (aN G n c J)) es H=some (l,O)->O.cnt<=ba->∀{g:Gh}{s:Shared}{Q:List Value->Shared->Prop},g.ta=ta->Cfg prog w H g s.heap->FrR prog w H g s.heap env J ai->
  Dv prog w H g s ai J es O l Q->wpAny (model prog w) A (spliced (backTo pos (starEach es env))) Q E s
 |[],H,l,O,h,_,g,s,Q,T,C,F,ak=>pI (show some ([],H)=some (l,O) from h) (P:=λl O=>Dv prog w H g s ai J [] O l Q->_) (λak=>args_nil (ak g s.heap s.toks [] (.refl _ _) (.refl _) C .nil)) ak
 |e::es,H,l,O,h,ag,g,s,Q,T,C,F,ak=>by
  obtain⟨v,aD,aa,h⟩:=b1 h
  obtain⟨vs,bS,ah,h⟩:=b1 h
  refine pI h (P:=λl O=>O.cnt<=ba->Dv prog w H g s ai J (e::es) O l Q->_) (λag ak=>?_) ag ak
  have cC:=pk aa C.ok.bld
  have cA:=CG ah cC.2
  refine args_cons (Zj S aa (aT cA.1.cnt ag) R T N C F λaV aB bh u aR k₁ aZ bT=>?_) (KC aa es env)
  have dA:=F.ext k₁ aR aZ.bn
  refine Dw S R N ah ag (aR.ta.trans T) aZ dA λcD a8 b8 aU cn dn b3 dr=>?_
  exact ak cD a8 b8 _ (aR.trans cn) (k₁.trans dn) b3 (((bT [] [] [] .nil).ext dn cn dA.sep).more dr)
theorem SeenAs.amQ(im:∀a o,g.im a=some o->h.get? a=some o){es:List Expr}{vs:List Value}{aU:List V}(q:SeenAs prog w H g h ai J es vs aU):ValsH prog w H g h vs aU:=by
 induction q with
 |nil=>exact .nil
 |val a _ bg=>exact .cons (a.mono (.refl H) ⟨rfl,λ_ _ e=>e,[],(eh _).symm⟩ im) bg
 |own _ _ _ d _ bg=>exact .cons d bg
theorem ToV.trans{g aV:Gh}{aB:Heap}{bh:Nat}{v:V}(ak:ToV prog w H g s O v Q)(X:Ext g s.heap aV aB)(k:H.bP aD):ToV prog w aD aV {s with heap:=aB,toks:=bh} O v Q:=
 λcD a8 b8 u cn dn b3 dr=>ak cD a8 b8 u (X.trans cn) (k.trans dn) b3 dr
theorem Val.up{look:bA}{v:Value}(h:Val prog w H g g.im v u)(im:∀a o,g.im a=some o->look a=some o):Val prog w H g look v u:=h.mono (.refl H) ⟨rfl,λ_ _ e=>e,[],(eh _).symm⟩ im
theorem Md(S:cx prog w G ta n)(R:Room A n)(N:EnvR c.sc env){op:BoolOp}{pos:Pos}:
  ∀{es:List Expr}{H:T}{v:V}{O:T},kw (aN G n c J) op es H=some (v,O)->O.cnt<=ba->∀{g:Gh}{s:Shared}{Q:cI},g.ta=ta->Cfg prog w H g s.heap->FrR prog w H g s.heap env J ai->
  ToV prog w H g s O v Q->wpAny (model prog w) A (boolOp pos op (evalEach es env)) Q E s
 |[],H,v,O,h,_,g,s,Q,T,C,F,ak=>aI h
 |[e],H,v,O,h,ag,g,s,Q,T,C,F,ak=>S c J e H v O h ag A env ai g s Q E R T N C F ak
 |e::bq::es,H,v,O,h,ag,g,s,Q,T,C,F,ak=>by
  obtain⟨u,aD,aa,h⟩:=b1 h
  obtain⟨t,a1,h⟩:=bD h
  have cC:=mw aa C.ok.bld
  have ap:aD.cnt<=ba:=by
   rcases eA h with ⟨_,h⟩|⟨_,h⟩
   .exact pI h (P:=λ_ O=>O.cnt<=ba->_) id ag
   .exact aT (CA ((gT G n n (cq _)).e c J) _ _ h cC.2).1.cnt ag
  show wpAny (model prog w) A (do
   let v <-eval e env
   standAt pos
   let t <-holding [v] (truthy v)
   match op,t with
   | .And,false| .Or,true=>pure v
   |_,_=>boolOp pos op (evalEach (bq::es) env)) Q E s
  refine wpAny_bind (S c J e H u aD aa ap A env ai g s _ E R T N C F λaV aB bh z aR k₁ aZ bT=>?_)
  refine wpAny_bind (wpAny_standAt (wpAny_bind (wpAny_holding ?_)))
  refine CN (s:={s with heap:=aB,toks:=bh}) a1 (bT.up aZ.bn) aZ.bn λaF=>?_
  have lI:cond (wv op t) (some (u,aD)) (kw (aN G n c J) op (bq::es) aD)=some (v,O)->wpAny (model prog w) A (cond (wv op t) (pure z) (boolOp pos op (evalEach (bq::es) env))) Q E {s with heap:=aB,toks:=aF}:=λh=>by
   rcases eA h with ⟨e,h⟩|⟨e,h⟩<;>rw[e]
   rotate_left
   .exact Md S R N (es:=bq::es) h ag (aR.ta.trans T) aZ (F.ext k₁ aR aZ.bn) (ak.trans aR k₁)
   .exact pI h (P:=λv O=>ToV prog w H g s O v Q->_) (λak=>wpAny_pure (ak aV aB aF z aR k₁ aZ bT)) ak
  rcases op<;>rcases t with _|_<;>exact lI h
end
section
variable (prog:Program)(w:World)(G:Gl)(ta:Ta)(K:Frag)(bp:Str->Option Value)
def c4(n:Nat)(c:Cx)(J:am)(e:Expr)(H:T)(v:V)(O:T):Prop:=
  ∀(A:Around)(env:Env)(ai:Addr->Option Ro)(g:Gh)(s:Shared)(Q:cI)(E:cI),
   Room A n->g.ta=ta->EnvR c.sc env->Cfg prog w H g s.heap->FrR prog w H g s.heap env J ai->
   ToV prog w H g s O v Q->
   wpAny (model prog w) A (eval e env) Q E s
def Me(n:Nat):Prop:=∀(c:Cx)(J:am)(elt:Expr)(nH:List Comprehension)(sc:Scope)(pos:Pos)(H:T)(v:V)(O:T),
 aN G (n+1) c J (.ListComp elt nH sc pos) H=some (v,O)->O.cnt<=ba->c4 prog w ta (n+1) c J (.ListComp elt nH sc pos) H v O
def anh(f:Value)(b2:List Value)(H:T)(v:V)(O:T):Prop:=∀(A:Around)(n:Nat)(g:Gh)(s:Shared)(Q:cI)(E:cI),Room A n->3<=n->g.ta=ta->Cfg prog w H g s.heap->
 ∀aU,Vals prog w H g b2 aU->ToV prog w H g s O v Q->wpAny (model prog w) A (call f b2) Q E s
inductive PrmPut:Prop
 |mk (a:Addr) (m:lz K ta.gN a h7=true) (k:∀H row v O,H.put row=some (v,O)->O.cnt<=ba->∀(A:Around)(n:Nat)(g:Gh)(s:Shared)(nW:Value)(Q:cI)(E:cI),Room A n->g.ta=ta->Cfg prog w H g s.heap->
  Val prog w H g g.im nW row->ToV prog w H g s O v Q->wpAny (model prog w) A (call (.ref a) [.ref ta.tab,nW]) Q E s)
noncomputable def uA(H:T):T:={H with decls:=H.decls++[.int (-1)]}
inductive PrmDecl:Prop
 |mk (f:Value) (m:bp tV=some f) (k:keepIn K f=true) (q:∀(H:T)(i:Int)(x:Str),(H.bld&&Nat.blt H.decls.length 60)=true->∀(A:Around)(n:Nat)(g:Gh)(s:Shared)(el ep:Value)(Q:cI)(E:cI),Room A n->g.ta=ta->Cfg prog w H g s.heap->
  Val prog w H g g.im el (.int i)->Val prog w H g g.im ep (.str x)->(∀au h' aF u,Ext g s.heap au h'->Cfg prog w (uA H) au h'->Val prog w (uA H) au au.im u (.decl H.decls.length)->Q u {s with heap:=h',toks:=aF})->
  wpAny (model prog w) A (call f [.ref ta.tab,el,ep]) Q E s)
inductive PrmPar:Prop
 |mk (f:Value) (m:bp tW=some f) (k:keepIn K f=true) (q:∀(H:T)(x:Str)(v:V)(O:T),(H.bld&&Nat.blt H.bounds.length 60)=true->({H with bounds:=H.bounds++[-1]}:T).put (.tup [.int 10,.int H.bounds.length])=some (v,O)->O.cnt<=ba->
  ∀(A:Around)(n:Nat)(g:Gh)(s:Shared)(ep:Value)(Q:cI)(E:cI),Room A n->g.ta=ta->Cfg prog w H g s.heap->Val prog w H g g.im ep (.str x)->
  ToV prog w H g s O v Q->wpAny (model prog w) A (call f [.ref ta.tab,ep]) Q E s)
structure Prm:Prop where
 put:PrmPut prog w ta K
 amH:PrmDecl prog w ta K bp
 amR:PrmPar prog w ta K bp
end
section
theorem xh{o:Expr}(h:hA o=true){a:Str}(k:wpAny (model prog w) A (eval o env) (λv c1=>wpAny (model prog w) A (getAttr v a true) Q E c1) E s):wpAny (model prog w) A (eval (.Attribute o a p) env) Q E s:=Attribute_any_ k (Y5 h a p env)
theorem Bool.tg{b:Bool}(h:(!b)=true):b=false:=by rcases b with _|_;rfl;exact nomatch h
theorem Mf(h:t0 J x=some u):a2 J x=some (u,false):=by
 obtain⟨⟨a,b⟩,e,h⟩:=bD h
 have q:b=false:=Bool.tg (br h).1
 rw[e,<-Option.some.inj (br h).2,q]
theorem Mg(h:nG J x=some u):a2 J x=some (u,true):=by
 obtain⟨⟨a,b⟩,e,h⟩:=bD h
 have q:b=true:=(br h).1
 rw[e,<-Option.some.inj (br h).2,q]
theorem Zk{u:List V}(h:pb J x=some u):a2 J x=some (.list u,true):=by
 obtain⟨⟨a,b⟩,e,h⟩:=bD h
 have q:b=true:=(br h).1
 rw[e,q,show a= .list u from t4 (br h).2]
theorem Zl{u:List (V×V)}(h:wz J x=some u):a2 J x=some (.dict u,true):=by
 obtain⟨⟨a,b⟩,e,h⟩:=bD h
 have q:b=true:=(br h).1
 rw[e,q,show a= .dict u from Cw (br h).2]
theorem Zm(B:Bk prog w G ta K bp mb){v:V}(h:JS G c J x H=some (v,O)):c4 prog w ta (n+1) c J (.Name x p) H v O:=by
 intro A env ai g s Q E R T N C F ak
 rcases eA h with ⟨aj,h⟩|⟨_,h⟩
 .refine h8 h (P:=λv O=>ToV prog w H g s O v Q->_) (λu bG ak=>?_) ak
  obtain⟨z,bi,al⟩:=B.val x u bG
  exact pA B C T N (ry aj) bi (ak g s.heap s.toks z (.refl _ _) (.refl _) C (al H g T λa o e=>C.base a o (T▸e)))
 .exact h8 (br h).2 (P:=λv O=>ToV prog w H g s O v Q->_) (λu bG ak=>jh N F (CH (br h).1) (Mf bG) λz bi=>ak g s.heap s.toks z (.refl _ _) (.refl _) C bi) ak
theorem Got.of{aF:Nat}{v:V}(ak:ToV prog w H g s O v Q)(X:Ext g s.heap au h')(k:H.bP O):Got prog w O au {s with heap:=h',toks:=aF} Q v:=λhF jP dC u a b c=>ak hF jP dC u (X.trans a) k b c
theorem Zn(S:cx prog w G ta n){es:List Expr}{v:V}(h:ob (dz (aN G n c J) es H) (λl H=>ow (jM l) (some (V.tup l,H)))=some (v,O))(ag:O.cnt<=ba):c4 prog w ta (n+1) c J (.Tuple es k p) H v O:=by
 obtain⟨l,aD,h,ah⟩:=b1 h
 obtain⟨a6,ah⟩:=br ah
 revert ag
 refine pI ah (P:=λv O=>O.cnt<=ba->c4 prog w ta (n+1) c J (.Tuple es k p) H v O) λag A env ai g s Q E R T N C F ak=>?_
 refine wpAny_Tuple_spliced (mB S (R.less (cG n)) N h ag T C F λau h' aF vs X k ct V=>?_)
 obtain⟨ds,aa,ah⟩:=V.flat (aK a6).1
 exact⟨pl (V.length▸gd (aK a6).2),(Got.of ak X k).tup (s:={s with heap:=h',toks:=aF}) ct (vs:=vs.toArray) (n:=0) ah aa aF⟩
theorem Zo(S:cx prog w G ta n){es:List Expr}{v:V}(h:ob (dz (aN G n c J) es H) (λl H=>ow (jM l) (some (V.list l,H)))=some (v,O))(ag:O.cnt<=ba):c4 prog w ta (n+1) c J (.List es p) H v O:=by
 obtain⟨l,aD,h,ah⟩:=b1 h
 obtain⟨a6,ah⟩:=br ah
 revert ag
 refine pI ah (P:=λv O=>O.cnt<=ba->c4 prog w ta (n+1) c J (.List es p) H v O) λag A env ai g s Q E R T N C F ak=>?_
 refine wpAny_List_spliced (mB S (R.less (cG n)) N h ag T C F λau h' aF vs X k ct V=>?_)
 obtain⟨ds,aa,ah⟩:=V.flat (aK a6).1
 exact⟨pl (V.length▸gd (aK a6).2),(Got.of ak X k).list (s:={s with heap:=h',toks:=aF}) ct (vs:=vs.toArray) (n:=0) ah aa aF⟩
theorem tab_run(S:cx prog w G ta n){o sl:Expr}{a:Str}{rP p:Pos}{i v:V}(aX:hA o=true)(aa:aN G n c J o H=some (.tab,aD))(ah:aN G n c J sl aD=some (i,O))(ag:O.cnt<=ba)(Dx:Ta->Value){k9 id:String}(lq:∀au (bQ:Shared),Cfg prog w O au bQ.heap->bQ.TypeIs (Dx au.ta) k9)(iU:typeLookup (.type k9) "__getitem__"=pure (some (.builtin id)))(Zp:∀{A:Around}{E:cI}(au:Gh)(bQ:Shared)(kG:cI),au.ta=ta->Cfg prog w aD au bQ.heap->kG (Dx au.ta) {bQ with toks:=bQ.toks+1}->wpAny (model prog w) A (getAttr (.ref au.ta.tab) a true) kG E bQ)(Zq:∀{A:Around}{E:cI}(au:Gh)(bQ:Shared)(el:Value)(kG:cI),Cfg prog w O au bQ.heap->Val prog w O au bQ.heap.get? el i->Got prog w O au bQ kG v->wpAny (model prog w) A (getItem (Dx au.ta) el) kG E bQ):
  c4 prog w ta (n+1) c J (.Subscript (.Attribute o a rP) sl p) H v O:=by
 intro A env ai g s Q E R T N C F ak
 have bz:=R.less (cG n)
 have cC:=jR aa C.ok
 have cA:=mw ah cC.2
 refine Subscript_ (xh aX (S c J o H .tab aD aa (aT cA.1.cnt ag) A env ai g s _ E bz T N C F λaV aB bh u aR k₁ aZ bT=>?_))
 rw[show u= .ref aV.ta.tab from bT]
 refine Zp aV {s with heap:=aB,toks:=bh} _ (aR.ta.trans T) aZ ?_
 refine S c J sl aD i O ah ag A env ai aV {s with heap:=aB,toks:=bh+1} _ E bz (aR.ta.trans T) N aZ (F.ext k₁ aR aZ.bn) λcD a8 b8 el cn dn b3 dr=>?_
 rw[<-cn.ta]
 refine tail_any (lq cD {s with heap:=a8,toks:=b8} b3) iU ?_ (LX ah _ _)
 exact Zq cD {s with heap:=a8,toks:=b8} el _ b3 (dr.up b3.bn) (Got.of ak (aR.trans cn) (k₁.trans dn))
theorem Zr(S:cx prog w G ta n)(B:Bk prog w G ta K bp mb){o sl:Expr}{a:Str}{rP p:Pos}{v:V}(h:JT (aN G n c J) o sl a H=some (v,O))(ag:O.cnt<=ba):
  c4 prog w ta (n+1) c J (.Subscript (.Attribute o a rP) sl p) H v O:=by
 obtain⟨aX,h⟩:=br h
 obtain⟨b,aD,aa,h⟩:=b1 h
 obtain⟨ao,h⟩:=br h
 obtain⟨i,bS,ah,h⟩:=b1 h
 rw[wJ ao] at aa
 revert ag
 refine h8 h (P:=λv O=>O.cnt<=ba->c4 prog w ta (n+1) c J (.Subscript (.Attribute o a rP) sl p) H v O) λv aC ag=>?_
 rcases eA aC with ⟨aw,aC⟩|⟨_,aC⟩
 .rw[sEq_iff.mp aw]
  exact tab_run S aX aa ah ag (λt=> .ref t.rows) (λau bQ ct=>by obtain ⟨vs,m,ds,q,_⟩:=ct.tok.rows;exact⟨_,q,rfl⟩) slot_list_getitem.lookup
   (λau bQ kG kH ct q=>Yj ct (by rw [kH];exact B.tp) q) (λau bQ el kG ct iT Gt=>Yr ct ag aC iT Gt)
 rcases eA aC with ⟨aw,aC⟩|⟨_,aC⟩
 .obtain⟨k,e,aC⟩:=bD aC
  obtain⟨ap,aC⟩:=br aC
  rw[sEq_iff.mp aw,<-Option.some.inj aC]
  exact tab_run S aX aa ah ag (λt=> .ref t.decls) (λau bQ ct=>by obtain ⟨vs,m,q,_⟩:=ct.tok.decls;exact⟨_,q,rfl⟩) slot_list_getitem.lookup
   (λau bQ kG kH ct q=>Yl ct (by rw [kH];exact B.tp) q) (λau bQ el kG ct iT Gt=>Ys ct ag (fi (aK ap).1) (fi (aK ap).2) (nJ e▸iT) Gt)
 .obtain⟨aw,aC⟩:=br aC
  obtain⟨k,e,aC⟩:=bD aC
  obtain⟨z,bi,aC⟩:=bD aC
  rw[sEq_iff.mp aw,<-Option.some.inj aC]
  exact tab_run S aX aa ah ag (λt=> .ref t.du) (λau bQ ct=>by obtain ⟨vs,m,q,_⟩:=ct.tok.du;exact⟨_,q,rfl⟩) slot_list_getitem.lookup
   (λau bQ kG kH ct q=>Ym ct (by rw [kH];exact B.tp) q) (λau bQ el kG ct iT Gt=>Yt ct ag bi (nJ e▸iT) Gt)
end
section
theorem Zs(S:cx prog w G ta n){b sl:Expr}{cQ el v:V}(aa:b7 c J (aN G n c J) b H=some (cQ,aD))(ah:aN G n c J sl aD=some (el,O))(aC:fE O cQ el=some v)(ag:O.cnt<=ba):
  c4 prog w ta (n+1) c J (.Subscript b sl p) H v O:=by
 intro A env ai g s Q E R T N C F ak
 have bz:=R.less (cG n)
 have cC:=pk aa C.ok.bld
 have cA:=mw ah cC.2
 refine Subscript_ (my S aa (aT cA.1.cnt ag) bz T N C F λaV aB bh u aR k₁ aZ bT=>?_)
 have dA:=F.ext k₁ aR aZ.bn
 refine S c J sl aD el O ah ag A env ai aV {s with heap:=aB,toks:=bh} _ E bz (aR.ta.trans T) N aZ dA λcD a8 b8 i cn dn b3 dr=>?_
 have a7:=(bT.ext dn cn dA.sep b3.bn).val b3.bn
 obtain⟨k9,id,lq,iU⟩:=Y6 (s:={s with heap:=a8,toks:=b8}) aC b3 a7
 refine tail_any lq iU ?_ (LX ah _ _)
 exact XJ (s:={s with heap:=a8,toks:=b8}) aC b3 a7 (dr.up b3.bn) (Got.of ak (aR.trans cn) (k₁.trans dn))
inductive CutT (prog:Program) (w:World) (O:T) (cQ:V):Prop
 |mk (k9 id:String) (k:typeLookup (.type k9) "__getitem__"=pure (some (.builtin id))) (t:∀au (bQ:Shared) xi,Cfg prog w O au bQ.heap->Val prog w O au bQ.heap.get? xi cQ->bQ.TypeIs xi k9)
theorem Zt{b l u r:V}(h:o6 b l u=some r):CutT prog w O b:=by
 rcases a1:gw b with _|_
 .exact⟨"list",_,slot_list_getitem.lookup,λau bQ xi ct iT=>(K6 h ct iT).elim (λq=>nomatch a1.symm.trans q.1) (·.2)⟩
 .exact⟨"tuple",_,slot_tuple_getitem.lookup,λau bQ xi ct iT=>(K6 h ct iT).elim (·.2) λq=>nomatch a1.symm.trans q.1⟩
theorem Zu(S:cx prog w G ta n)(a7:uz prog w G ta n){b:Expr}{lo up:Option Expr}{ps p:Pos}{H aD bS O:T}{cQ gg gh v:V}(aa:b7 c J (aN G n c J) b H=some (cQ,aD))(ah:ln G n c J lo aD=some (gg,bS))(aC:ln G n c J up bS=some (gh,O))(bC:o6 cQ gg gh=some v)(ag:O.cnt<=ba):c4 prog w ta (n+1) c J (.Subscript b (.Slice lo up none ps) p) H v O:=by
 intro A env ai g s Q E R T N C F ak
 have bz:=R.less (cG n)
 have cC:=pk aa C.ok.bld
 have cA:=LP ah cC.2
 have iL:=LP aC cA.2
 obtain⟨k9,id,iU,lq⟩:=Zt (prog:=prog) (w:=w) (O:=O) bC
 rw[eval_Subscript]
 refine wpAny_bind (my S aa (aT (aT cA.1.cnt iL.1.cnt) ag) bz T N C F λaV aB bh u aR k₁ aZ bT=>?_)
 have dA:=F.ext k₁ aR aZ.bn
 refine wpAny_bind (wpAny_holding (wpAny_Slice (a7 c J lo aD gg bS ah (aT iL.1.cnt ag) A env ai aV {s with heap:=aB,toks:=bh} _ E bz (aR.ta.trans T) N aZ dA λcD a8 b8 l cn dn b3 dr=>?_)))
 have gj:=dA.ext dn cn b3.bn
 refine a7 c J up bS gh O aC ag A env ai cD {s with heap:=a8,toks:=b8} _ E bz ((aR.trans cn).ta.trans T) N b3 gj λDy bN gX r hJ rQ fo Dz=>?_
 rw[evalPart_none]
 refine wpAny_pure (wpAny_bind (wpAny_standAt ?_))
 have Mh:=((bT.ext dn cn dA.sep b3.bn).ext rQ hJ gj.sep fo.bn).val fo.bn
 have keep:∀a o,bN.get? a=some o->(bN.push (jk l r)).get? a=some o:=λa o e=>ey _ e
 have Zv:({s with heap:=bN.push (jk l r),toks:=gX}:Shared).TypeIs u k9:=lq Dy _ u (fo.grow keep) (Mh.mono (.refl O) ⟨rfl,λ_ _ e=>e,[],(eh _).symm⟩ keep)
 show wpAny _ A (subscriptTail b (.Slice lo up none ps) u (.ref bN.objs.size)) Q E _
 refine tail_any (ops:=[.ref bN.objs.size,u]) Zv iU ?_ rfl
 exact XO (s:={s with heap:=bN,toks:=gX}) bC fo Mh ((dr.ext rQ hJ).up fo.bn) (Dz.up fo.bn) (Got.of ak ((aR.trans cn).trans hJ) ((k₁.trans dn).trans rQ))
theorem Zw(S:cx prog w G ta n)(B:Bk prog w G ta K bp mb){o:Expr}{a:Str}{v:V}(h:JU (aN G n c J) o a H=some (v,O))(ag:O.cnt<=ba):
  c4 prog w ta (n+1) c J (.Attribute o a p) H v O:=by
 obtain⟨aX,h⟩:=br h
 obtain⟨b,aD,aa,h⟩:=b1 h
 revert ag
 refine h8 h (P:=λv O=>O.cnt<=ba->c4 prog w ta (n+1) c J (.Attribute o a p) H v O) λv ah ag A env ai g s Q E R T N C F ak=>?_
 refine xh aX (S c J o H b aD aa ag A env ai g s _ E (R.less (cG n)) T N C F λaV aB bh u aR k₁ aZ bT=>?_)
 have tp:Tp aV.ta K:=by rw [aR.ta,T];exact B.tp
 rcases b
 case host=>
  obtain⟨e,hh⟩:=bT
  rw[sEq_iff.mp (br ah).1,e]
  exact Yn (s:={s with heap:=aB,toks:=bh}) aZ tp hh (ak aV aB _ _ aR k₁ aZ (gb (br ah).2 (P:=Val prog w aD aV aV.im _) rfl))
 case decl k=>
  obtain⟨q,bU,bZ,e⟩:=bT
  rw[e]
  rcases eA ah with ⟨aw,aC⟩|⟨_,aC⟩
  .rw[sEq_iff.mp aw]
   rcases k with _|j
   .exact nomatch bU
   .exact Yp (s:={s with heap:=aB,toks:=bh}) aZ tp bZ aC λz bi=>ak aV aB _ _ aR k₁ aZ bi
  .rw[sEq_iff.mp (br aC).1]
   exact Yq (s:={s with heap:=aB,toks:=bh}) aZ tp bZ λz bi=>ak aV aB _ _ aR k₁ aZ (gb (br aC).2 (P:=Val prog w aD aV aV.im _) bi)
 all_goals exact aI ah
end
section
theorem lJ{M:Model}{f:Value}(a6:∀a,f≠ .ref a):∃k,(k=Keeper.frame\/k=Keeper.machine\/k=Keeper.boundFrame)/\Looks M h (keeperOf f) k:=
 ⟨.machine,.inr (.inl rfl),Looks.of_pure (by rcases f<;>first|rfl|exact absurd rfl (a6 _))⟩
theorem Mi{α:Type}{P:α->Prop}{a b:α}(aw:P a)(ao:P b):∀c,P (cond c a b)
 |true=>aw
 |false=>ao
theorem DA(x:Str)(a:Addr):pu x≠ .ref a:=by
 have k:∀{c:Bool}{u v:Value},u≠ .ref a->v≠ .ref a->cond c u v≠ .ref a:=λ{c u v} bG al=>Mi (P:=λv=>v≠Value.ref a) bG al c
 exact k nofun (k nofun (k nofun (k nofun (k nofun (k nofun nofun)))))
theorem Zx(H:T)(vs:List V):f1 H mm vs=none:=by rfl'
theorem Zy(H:T)(vs:List V):f1 H tU vs=none:=by rfl'
theorem Zz(H:T)(vs:List V):f1 H h5 vs=none:=by rfl'
theorem ZA{f:Str}{vs:List V}{v:V}(h:f1 O f vs=some v):nS f=pu f:=by
 have no:∀{y:Str},f1 O y vs=none->a9 f y=false:=λ{y} k=>by
  rcases e:a9 f y with _|_
  .rfl
  .rw[sEq_iff.mp e,k] at h;exact aI h
 unfold nS
 rw[no (Zx O vs),no (Zy O vs),no (Zz O vs)];rfl
theorem ZB(S:cx prog w G ta n)(lK:nP prog w G ta K n)(B:Bk prog w G ta K bp mb){f:Str}{cR p:Pos}{fn:Fn}{vs:List V}{v:V}(aj:lk c.sc.names f=some .globalImplicit)(a6:G.fn f=some fn)(aa:dz (b7 c J (aN G n c J)) as H=some (vs,aD))(ah:bK G n fn vs aD=some (v,O))(gW:gx J v as=true)(ag:O.cnt<=ba):
  c4 prog w ta (n+1) c J (.Call (.Name f cR) as [] p) H v O:=by
 intro A env ai g s Q E R T N C F ak
 have bz:=R.less (cG n)
 have cC:=CG aa C.ok.bld
 have cA:=(gT G n n (cq _)).c fn vs aD _ _ ah cC.2
 obtain⟨nQ,uB,aL⟩:=B.fn f fn a6
 obtain⟨a,o,b4,e,DB,_⟩:=aL.ex
 rw[e] at aL uB
 refine Call_Name rfl (pA B C T N aj uB ?_)
 refine gi (P:=λh=>K.In h) (Ma env aa) (λh X=>keeps_K DB h X) (Dw S bz N aa (aT cA.1.cnt ag) T C F λaV aB bh aU aR k₁ aZ bT=>?_)
 have dA:=F.ext k₁ aR aZ.bn
 refine⟨Cfg.gq (s:={s with heap:=aB,toks:=bh}) aZ (by rw [aR.ta,T];exact B.tp),?_⟩
 rw[tx]
 exact Ze (s:={s with heap:=aB,toks:=bh}) lK ah ag aL gW bz (aR.ta.trans T) aZ dA.sep bT (ak.trans aR k₁)
theorem ZC(S:cx prog w G ta n)(B:Bk prog w G ta K bp mb){f:Str}{cR p:Pos}{vs:List V}{v:V}(aj:lk c.sc.names f=some .globalImplicit)(a6:G.free f=true)(aa:dz (b7 c J (aN G n c J)) as H=some (vs,O))(ah:f1 O f vs=some v)(ag:O.cnt<=ba):
  c4 prog w ta (n+1) c J (.Call (.Name f cR) as [] p) H v O:=by
 intro A env ai g s Q E R T N C F ak
 have bz:=R.less (cG n)
 refine Call_Name rfl (rM B C T N aj a6 ?_)
 rw[ZA ah]
 refine gi (P:=λ_=>True) (Ma env aa) (λh _=>lJ (DA f)) (Dw S bz N aa ag T C F λaV aB bh aU aR k₁ aZ bT=>⟨trivial,?_⟩)
 rw[tx]
 exact Yi (s:={s with heap:=aB,toks:=bh}) ah aZ bz (bT.amQ aZ.bn) (Got.of ak aR k₁)
end
section
theorem ZD{u v:V}{z:Value}(h:Cn u=some v)(V:Val prog w H g g.im z u)(ak:∀(b:Bool) aF,v= .bool b->Q (.bool b) {s with toks:=aF}):wpAny (model prog w) A (call (.builtin "isinstance") [z,.type "str"]) Q E s:=by
 rcases u
 case str=>obtain⟨_,t,e⟩:=V.str_inv;rw[e];exact PySem.IsiPair.str_str (ak true _ (Option.some.inj h).symm)
 case int=>obtain⟨t,e⟩:=V.int_inv;rw[e];exact PySem.IsiPair.int_str (ak false _ (Option.some.inj h).symm)
 all_goals exact aI h
theorem ZE(S:cx prog w G ta n)(B:Bk prog w G ta K bp mb){f t:Str}{cR tp p:Pos}{u v:V}(aj:lk c.sc.names f=some .globalImplicit)(a6:G.free f=true)(ZF:f=mm)(a1:t=tU)(DC:lk c.sc.names t=some .globalImplicit)(ZG:G.free t=true)(aa:aN G n c J e H=some (u,O))(ao:Cn u=some v)(ag:O.cnt<=ba):
  c4 prog w ta (n+1) c J (.Call (.Name f cR) [e,.Name t tp] [] p) H v O:=by
 intro A env ai g s Q E R T N C F ak
 have bz:=R.less (cG n)
 have e1:nS f= .builtin "isinstance":=by rw [ZF];rfl
 have e2:nS t= .type "str":=by rw [a1];rfl
 have aJ:starEach [e,.Name t tp] env=[e,.Name t tp].map λe=>(false,eval e env):=by rw [nK aa];rfl
 refine Call_Name rfl (rM B C T N aj a6 ?_)
 rw[e1]
 refine gi (P:=λ_=>True) aJ (λh _=>lJ (λa q=>nomatch q)) ?_
 refine args_cons (S c J e H u O aa ag A env ai g s _ E bz T N C F λaV aB bh z aR k₁ aZ bT=>?_) (nK aa _ env)
 refine args_cons (rM (s:={s with heap:=aB,toks:=bh}) B aZ (aR.ta.trans T) N DC ZG ?_) rfl
 refine args_nil ⟨trivial,?_⟩
 rw[e2]
 exact ZD (s:={s with heap:=aB,toks:=bh}) ao bT λb aF e=>ak aV aB aF _ aR k₁ aZ (e▸ .bool b)
theorem ZH(S:cx prog w G ta n)(B:Bk prog w G ta K bp mb)(P:Prm prog w ta K bp){f:Str}{cR p:Pos}{vs:List V}{v:V}(aj:lk c.sc.names f=some .globalImplicit)(a6:f=tV)(aa:dz (aN G n c J) as H=some (vs,aD))(ah:Co aD vs=some (v,O))(ag:O.cnt<=ba):c4 prog w ta (n+1) c J (.Call (.Name f cR) as [] p) H v O:=by
 rcases vs with _|⟨t,r⟩
 .exact aI ah
 obtain⟨⟨el,ep⟩,e,ah⟩:=bD ah
 obtain⟨ap,ah⟩:=br ah
 obtain⟨ap,ao⟩:=aK ap
 obtain⟨ap,hx⟩:=aK ap
 obtain⟨a1,hi⟩:=aK ap
 obtain⟨i,ig⟩:=Kd hi
 obtain⟨x,ex⟩:=Ke hx
 have ig:el= .int i:=ig
 have ex:ep= .str x:=ex
 rw[wJ a1,rF e,ig,ex] at aa
 revert ag
 refine pI ah (P:=λv O=>O.cnt<=ba->c4 prog w ta (n+1) c J (.Call (.Name f cR) as [] p) H v O) λag A env ai g s Q E R T N C F ak=>?_
 have bz:=R.less (cG n)
 have xj:aD.bP (uA aD):=((Gr.dec aD (by rw [d5];exact eZ _ _)) (rx aa C.ok.bld).2).1
 obtain⟨nQ,bU,bZ,dJ⟩:=P.amH
 refine Call_Name rfl (pA B C T N aj (a6▸bU) ?_)
 refine gi (P:=λh=>K.In h) (nV env aa) (λh X=>keeps_K bZ h X) (mB S bz N aa ag T C F λaV aB bh aU aR k₁ aZ bT=>?_)
 refine⟨Cfg.gq (s:={s with heap:=aB,toks:=bh}) aZ (by rw [aR.ta,T];exact B.tp),?_⟩
 obtain⟨pF,aU,e1,en,bT⟩:=bT.dat
 obtain⟨DD,aU,e2,er,bT⟩:=bT.dat
 obtain⟨Mj,aU,e3,e4,bT⟩:=bT.dat
 rw[e1,e2,e3,bT.dat,show pF= .ref aV.ta.tab from en,aR.ta,T]
 exact dJ aD i x ao A n aV {s with heap:=aB,toks:=bh} _ _ Q E bz (aR.ta.trans T) aZ er e4 λcD a8 b8 u cn b3 dr=>ak cD a8 b8 u (aR.trans cn) (k₁.trans xj) b3 dr
theorem ZI(S:cx prog w G ta n)(B:Bk prog w G ta K bp mb)(P:Prm prog w ta K bp){f:Str}{cR p:Pos}{vs:List V}{v:V}(aj:lk c.sc.names f=some .globalImplicit)(a6:f=tW)(aa:dz (aN G n c J) as H=some (vs,aD))(ah:Cp aD vs=some (v,O))(ag:O.cnt<=ba):c4 prog w ta (n+1) c J (.Call (.Name f cR) as [] p) H v O:=by
 intro A env ai g s Q E R T N C F ak
 have rR:aD.cnt<=ba:=aT ((Ko _ _ ah) (rx aa C.ok.bld).2).1.cnt ag
 obtain⟨⟨t,ep⟩,e,ah⟩:=bD ah
 obtain⟨ap,ah⟩:=br ah
 obtain⟨ap,ao⟩:=aK ap
 obtain⟨a1,hx⟩:=aK ap
 obtain⟨x,ex⟩:=Ke hx
 have ex:ep= .str x:=ex
 have a1:t= .tab:=wJ a1
 rw[rF e] at aa
 change dz _ _ _=some ([t,ep],aD) at aa
 rw[a1,ex] at aa
 have bz:=R.less (cG n)
 obtain⟨nQ,bU,bZ,dJ⟩:=P.amR
 refine Call_Name rfl (pA B C T N aj (a6▸bU) ?_)
 refine gi (P:=λh=>K.In h) (nV env aa) (λh X=>keeps_K bZ h X) (mB S bz N aa rR T C F λaV aB bh aU aR k₁ aZ bT=>?_)
 refine⟨Cfg.gq (s:={s with heap:=aB,toks:=bh}) aZ (by rw [aR.ta,T];exact B.tp),?_⟩
 obtain⟨pF,aU,e1,en,bT⟩:=bT.dat
 obtain⟨DD,aU,e2,er,bT⟩:=bT.dat
 rw[e1,e2,bT.dat,show pF= .ref aV.ta.tab from en,aR.ta,T]
 exact dJ aD x v O ao ah ag A n aV {s with heap:=aB,toks:=bh} _ Q E bz (aR.ta.trans T) aZ er (ak.trans aR k₁)
theorem ZJ{o:Expr}(h:hA o=true)(a:Str)(env:Env):attributeBase o a env (eval o env)=eval o env:=by
 rcases o
 case Call=>exact nomatch h
 all_goals rfl
theorem pG{o:Expr}(h:hA o=true){m:Str}{cj p:Pos}(dS:(cj.endLine==p.line)=true)(pH:as.length<25)(aJ:starEach as env=as.map λe=>(false,eval e env))(k:∀di,wpAny (model prog w) A (eval o env) (λMk c1=>wpAny (model prog w) A (getMethod Mk m di) (λDE xg=>wpAny (model prog w) A (callWith p DE.1 DE.2 (backTo p (starEach as env)) []) Q E xg) E c1) E s):
  wpAny (model prog w) A (eval (.Call (.Attribute o m cj) as [] p) env) Q E s:=by
 rw[arm_eval_Call,ZJ h]
 have ZK:methodCallForm (as.length+([]:List Keyword).length) (backTo p (starEach as env)) (backToKw p (keywordEach [] env))=true:=by
  rw[aJ,Mb]
  unfold methodCallForm
  rw[i6]
  exact(c6 _ _).mpr ⟨(c6 _ _).mpr ⟨List.all_eq_true.mpr λ_ _=>rfl,rfl⟩,decide_eq_true (z0 pH (by decide))⟩
 have ZL:methodCallPos true o env cj p=pure p:=by unfold methodCallPos;rw[dS];rfl
 refine wpAny_bind (wpAny_mono (k (do return (<-importBound o env).getD true)) (λMk c1 aB=>wpAny_bind (wpAny_standAt ?_)) λ_ _ e=>e)
 unfold methodCall
 rw[ZK]
 exact wpAny_bind (wpAny_holding (wpAny_mono aB (λDE xg a8=>wpAny_bind (wpAny_of_eq ZL a8)) λ_ _ e=>e))
theorem ZM(S:cx prog w G ta n)(B:Bk prog w G ta K bp mb)(P:Prm prog w ta K bp){o:Expr}{cj p:Pos}{H aD bS O:T}{row v:V}(aX:hA o=true)(dS:(cj.endLine==p.line)=true)(pH:as.length<25)(aa:aN G n c J o H=some (.tab,aD))(ah:dz (aN G n c J) as aD=some ([row],bS))(aC:bS.put row=some (v,O))(ag:O.cnt<=ba):
  c4 prog w ta (n+1) c J (.Call (.Attribute o h7 cj) as [] p) H v O:=by
 intro A env ai g s Q E R T N C F ak
 have bz:=R.less (cG n)
 have cC:=jR aa C.ok
 have cA:=rx ah cC.2
 have iL:=wN _ _ aC cA.2
 have cP:=aT iL.1.cnt ag
 obtain⟨a,bU,bZ⟩:=P.put
 refine pG aX dS pH (nV env ah) λdi=>S c J o H .tab aD aa (aT cA.1.cnt cP) A env ai g s _ E bz T N C F λaV aB bh u aR k₁ aZ bT=>?_
 rw[show u= .ref aV.ta.tab from bT]
 have hl:=aR.ta.trans T
 obtain⟨es,m,t1,_,_,_,_,_,_,t2⟩:=aZ.tok.cU
 have keep:keepIn K (.ref a)=true:=(aK bU).2
 refine C9 (s:={s with heap:=aB,toks:=bh}) (Cfg.gq (s:={s with heap:=aB,toks:=bh}) aZ (by rw [hl];exact B.tp)) (aZ.bn _ _ aZ.tok.tab) (aZ.bn _ _ t1) (by rw [hl];exact bU) t2 ?_
 refine gi (P:=λh=>K.In h) (nV env ah) (λh X=>keeps_K keep h X) (mB S bz N ah cP hl aZ (F.ext k₁ aR aZ.bn) λcD a8 b8 aU cn dn b3 dr=>?_)
 have uC:=cn.ta.trans hl
 refine⟨Cfg.gq (s:={s with heap:=a8,toks:=b8}) b3 (by rw [uC];exact B.tp),?_⟩
 obtain⟨pF,aU,e1,en,dr⟩:=dr.dat
 rw[hl,e1,dr.dat]
 exact bZ bS row v O aC ag A n cD {s with heap:=a8,toks:=b8} _ Q E bz uC b3 en (ak.trans (aR.trans cn) (k₁.trans dn))
theorem ZN(S:cx prog w G ta n)(lK:nP prog w G ta K n)(B:Bk prog w G ta K bp mb){o:Expr}{m:Str}{cj p:Pos}{H aD bS O:T}{vs:List V}{v:V}{fn:Fn}(aX:hA o=true)(dS:(cj.endLine==p.line)=true)(pH:as.length<25)(aa:aN G n c J o H=some (.host,aD))(av:G.i3 m=some fn)(ah:dz (aN G n c J) as aD=some (vs,bS))(aC:bK G n fn (.host::vs) bS=some (v,O))(ag:O.cnt<=ba):
  c4 prog w ta (n+1) c J (.Call (.Attribute o m cj) as [] p) H v O:=by
 intro A env ai g s Q E R T N C F ak
 have bz:=R.less (cG n)
 have cC:=jR aa C.ok
 have cA:=rx ah cC.2
 have iL:=(gT G n n (cq _)).c fn _ bS _ _ aC cA.2
 have cP:=aT iL.1.cnt ag
 obtain⟨ZO,a,bU,aL⟩:=B.i3 m fn av
 refine pG aX dS pH (nV env ah) λdi=>S c J o H .host aD aa (aT cA.1.cnt cP) A env ai g s _ E bz T N C F λaV aB bh u aR k₁ aZ bT=>?_
 obtain⟨e,hh⟩:=bT
 rw[e]
 have hl:=aR.ta.trans T
 obtain⟨es,k,t1,_,t2⟩:=aZ.tok.hu hh
 have keep:keepIn K (.ref a)=true:=(aK bU).2
 refine C9 (s:={s with heap:=aB,toks:=bh}) (Cfg.gq (s:={s with heap:=aB,toks:=bh}) aZ (by rw [hl];exact B.tp)) (aZ.bn _ _ (aZ.tok.host hh)) (aZ.bn _ _ t1) (by rw [hl];exact bU) (t2 m ZO) ?_
 refine gi (P:=λh=>K.In h) (nV env ah) (λh X=>keeps_K keep h X) (mB S bz N ah cP hl aZ (F.ext k₁ aR aZ.bn) λcD a8 b8 aU cn dn b3 dr=>?_)
 have uC:=cn.ta.trans hl
 refine⟨Cfg.gq (s:={s with heap:=a8,toks:=b8}) b3 (by rw [uC];exact B.tp),?_⟩
 have ZP:Val prog w bS cD cD.im (.ref aV.ta.host) .host:=by show _/\_;rw[cn.ta];exact⟨rfl,hh⟩
 exact lK fn _ bS v O aC ag (.ref a) aL A cD {s with heap:=a8,toks:=b8} _ Q E bz uC b3 (.cons ZP dr) (ak.trans (aR.trans cn) (k₁.trans dn))
end
section
theorem Ml{o:Obj}{di:Sem Bool}{Q:Value×List Value->Shared->Prop}(aG:s.heap.get? a=some o)(hx:o.ExactDict)(ak:Q (.builtin "dict.get",[.ref a]) s):
  wpAny (model prog w) A (getMethod (.ref a) oZ di) Q E s:=
 getMethod_builtin (T:="dict") ⟨o,aG,hx.1⟩ PySem.F.plainAttrs_dict zG PySem.F.type_dict_get (λb e=>⟨o,by injection e with e;exact e▸aG,hx.2.1⟩) ak
theorem ZQ(S:cx prog w G ta n)(B:Bk prog w G ta K bp mb){o k d:Expr}{i:Str}{ZR cj p:Pos}{H aD bS O:T}{row v:V}(aX:hA o=true)(dS:(cj.endLine==p.line)=true)(hi:i=jc)(aa:aN G n c J o H=some (.tab,aD))(ah:aN G n c J k aD=some (row,bS))(aC:aN G n c J d bS=some (.int (-1),O))(bC:O.find row=some v)(ag:O.cnt<=ba):
  c4 prog w ta (n+1) c J (.Call (.Attribute (.Attribute o i ZR) oZ cj) [k,d] [] p) H v O:=by
 intro A env ai g s Q E R T N C F ak
 rw[hi]
 have bz:=R.less (cG n)
 have cC:=jR aa C.ok
 have cA:=mw ah cC.2
 have iL:=mw aC cA.2
 have cP:=aT iL.1.cnt ag
 have eT:=aT cA.1.cnt cP
 have aJ:starEach [k,d] env=[k,d].map λe=>(false,eval e env):=by rw [nK ah,nK aC];rfl
 refine pG rfl dS (by simp) aJ λdi=>xh aX (S c J o H .tab aD aa eT A env ai g s _ E bz T N C F λaV aB bh u aR k₁ aZ bT=>?_)
 rw[show u= .ref aV.ta.tab from bT]
 have hl:=aR.ta.trans T
 have dA:=F.ext k₁ aR aZ.bn
 refine Yk (s:={s with heap:=aB,toks:=bh}) aZ (by rw [hl];exact B.tp) ?_
 obtain⟨ani,es,ca,a4,hH,iK,_⟩:=aZ.tok.idx
 refine Ml (s:={s with heap:=aB,toks:=bh+1}) hH iK ?_
 refine gi (P:=λ_=>True) aJ (λh _=>lJ (λa q=>nomatch q)) ?_
 refine args_cons (S c J k aD row bS ah cP A env ai aV {s with heap:=aB,toks:=bh+1} _ E bz hl N aZ dA λcD a8 b8 nW cn dn b3 dr=>?_) (nK ah _ env)
 have gj:=dA.ext dn cn b3.bn
 refine args_cons (S c J d bS _ O aC ag A env ai cD {s with heap:=a8,toks:=b8} _ E bz (cn.ta.trans hl) N b3 gj λDy bN gX pJ hJ rQ fo Dz=>?_) (nK aC _ env)
 refine args_nil ⟨trivial,?_⟩
 show wpAny _ _ (call (.builtin "dict.get") [.ref aV.ta.idx,nW,pJ]) _ _ _
 rw[show aV.ta.idx=Dy.ta.idx by rw [hJ.ta,cn.ta]]
 exact YA (s:={s with heap:=bN,toks:=gX}) fo bz bC (dr.ext rQ hJ) Dz (Got.of ak ((aR.trans cn).trans hJ) ((k₁.trans dn).trans rQ))
theorem DictO.exact{im:bA}{o:Obj}{l:List (V×V)}(h:DictO prog w H im o l):o.ExactDict:=by rcases h with ⟨aW,⟨es,ca,q,_⟩,_⟩|⟨aW,⟨es,ca,q,_⟩,_⟩<;>exact q
theorem ZS(S:cx prog w G ta n){o:Expr}{cj p:Pos}{l:List (V×V)}{k d:V}{r:Option V}(aX:hA o=true)(dS:(cj.endLine==p.line)=true)(pH:as.length<25)(aa:aN G n c J o H=some (.dict l,aD))(ah:dz (aN G n c J) as aD=some ([k,d],O))(aj:jb k=true)(bx:O.get k l=some r)(ag:O.cnt<=ba):
  c4 prog w ta (n+1) c J (.Call (.Attribute o oZ cj) as [] p) H (r.getD d) O:=by
 intro A env ai g s Q E R T N C F ak
 have bz:=R.less (cG n)
 have cC:=jR aa C.ok
 have cA:=rx ah cC.2
 refine pG aX dS pH (nV env ah) λdi=>S c J o H (.dict l) aD aa (aT cA.1.cnt ag) A env ai g s _ E bz T N C F λaV aB bh u aR k₁ aZ bT=>?_
 have ZT:=bT
 obtain⟨a,ob,e,bU,bZ,dJ⟩:=ZT
 rw[e] at bT |-
 refine Ml (s:={s with heap:=aB,toks:=bh}) (aZ.bn _ _ bU) dJ.exact ?_
 refine gi (P:=λ_=>True) (nV env ah) (λh _=>lJ (λa q=>nomatch q)) (mB S bz N ah ag (aR.ta.trans T) aZ (F.ext k₁ aR aZ.bn) λcD a8 b8 aU cn dn b3 dr=>⟨trivial,?_⟩)
 obtain⟨Mm,aU,e1,en,dr⟩:=dr.dat
 obtain⟨pJ,aU,e2,er,dr⟩:=dr.dat
 obtain⟨nY,b9,e,mI,nZ,pK⟩:=bT.ext dn cn
 injection e with e
 rw[<-e] at mI nZ
 obtain⟨ZU,_,knd,fW,aW,d1,d2,d3⟩:=CZ b3.ok pK aj bx en
 have aQ:=(d1.mapOf (b3.bn _ _ mI)).mapOf
 rw[e1,e2,dr.dat]
 show wpAny _ _ (call (.builtin "dict.get") [.ref a,Mm,pJ]) _ _ _
 refine call_meetsIn zG (s:={s with heap:=a8,toks:=b8}) aQ.typeIs Ij (Ih _ _ _) (meets_dict_get_default knd a d2 nZ pJ) ⟨_,aQ,?_⟩
 refine ak cD a8 _ _ (aR.trans cn) (k₁.trans dn) b3 ?_
 rcases d3 with ⟨e1,e⟩|⟨y,z,dd,e1,e,ap,aq⟩<;>rw[e,e1]
 .exact er
 .exact .g8 ap aq
end
section
theorem DF(C:Cfg prog w H g h)(aw:h.get? a=none):(a==sysModules)=false:=by
 obtain⟨o,aG⟩:=C.mods
 exact beq_eq_false_iff_ne.mpr λe=>aI (aw.symm.trans (e▸C.bn _ _ (C.base _ _ aG)))
theorem DG{K:Type}[DecidableEq K](knd:KeyKind prog w K):ObjDict prog w knd emptyDict []:=⟨#[],0,⟨rfl,rfl,rfl⟩,rfl,KQ knd,.nil,.nil⟩
theorem anj:c4 prog w ta (n+1) c J (.Dict [] [] p) H (.dict []) H:=by
 intro A env ai g s Q E R T N C F ak
 refine wpAny_Dict_empty ?_
 have Gt:Got prog w H g s Q (.dict []):=λau h' aF u a b d=>ak au h' aF u a (.refl _) b d
 exact Gt.push C (ez _ rfl) ⟨_,_,rfl,Gh.jA _ _ _,DF C (ji _),.int [] (DG _) .nil⟩ s.toks
theorem ZV(S:cx prog w G ta n){x:Expr}{v:V}{b:Bool}(aa:b7 c J (aN G n c J) x H=some (v,O))(ah:v.truth=some b)(ag:O.cnt<=ba):
  c4 prog w ta (n+1) c J (.UnaryOp .Not x p) H (.bool (!b)) O:=by
 intro A env ai g s Q E R T N C F ak
 refine wpAny_UnaryOp (my S aa ag (R.less (cG n)) T N C F λaV aB bh u aR k₁ aZ bT=>?_)
 exact not_value (CN (s:={s with heap:=aB,toks:=bh}) ah (bT.val aZ.bn) aZ.bn λaF=>ak aV aB aF _ aR k₁ aZ (.bool _))
theorem ZW{i:Int}{fW:Nat}{fL p:Pos}:c4 prog w ta (n+1) c J (.UnaryOp .USub (.Constant (.int i) fW fL) p) H (.int (-i)) H:=by
 intro A env ai g s Q E R T N C F ak
 exact wpAny_UnaryOp (wpAny_Constant_int (P.neg_int (ak g s.heap _ _ (.refl _ _) (.refl _) C (.int _ _))))
theorem ZX(S:cx prog w G ta n){l r:Expr}{op:Operator}{a b v:V}(aa:b7 c J (aN G n c J) l H=some (a,aD))(ah:b7 c J (aN G n c J) r aD=some (b,O))(aC:kr op a b=some v)(ag:O.cnt<=ba):
  c4 prog w ta (n+1) c J (.BinOp l op r p) H v O:=by
 intro A env ai g s Q E R T N C F ak
 refine wpAny_BinOp (Dm S aa ah ag (R.less (cG n)) T N C F λaV aB bh u z aR k₁ aZ bT dr=>?_)
 exact Xi (s:={s with heap:=aB,toks:=bh}) aC aZ bT dr (Got.of ak aR k₁)
theorem ZY(S:cx prog w G ta n){l r:Expr}{op:CmpOp}{a b:V}{t:Bool}(aa:b7 c J (aN G n c J) l H=some (a,aD))(ah:b7 c J (aN G n c J) r aD=some (b,O))(aC:cX O op a b=some t)(ag:O.cnt<=ba):
  c4 prog w ta (n+1) c J (.Compare l [op] [r] p) H (.bool t) O:=by
 intro A env ai g s Q E R T N C F ak
 have bz:=R.less (cG n)
 refine wpAny_Compare1 (Dm S aa ah ag bz T N C F λaV aB bh u z aR k₁ aZ bT dr=>?_) (LQ ah _)
 exact K3 (s:={s with heap:=aB,toks:=bh}) aC aZ bz bT dr λaF=>ak aV aB aF _ aR k₁ aZ (.bool _)
theorem ZZ(S:cx prog w G ta n)(a7:iS prog w G ta n){t b o:Expr}{x:Bool}{v:V}(aa:dR G n c J t H=some (x,aD))(ah:aN G n c J (cond x b o) aD=some (v,O))(ag:O.cnt<=ba):
  c4 prog w ta (n+1) c J (.IfExp t b o p) H v O:=by
 intro A env ai g s Q E R T N C F ak
 have bz:=R.less (cG n)
 have cC:=rL aa C.ok.bld
 have cA:=mw ah cC.2
 refine wpAny_IfExp (a7 c J t H _ _ aa (aT cA.1.cnt ag) A env ai g s _ E bz T N C F λaV aB bh aR k₁ aZ=>?_)
 have pz:wpAny (model prog w) A (eval (cond x b o) env) Q E {s with heap:=aB,toks:=bh}:=S c J _ aD v O ah ag A env ai aV {s with heap:=aB,toks:=bh} Q E bz (aR.ta.trans T) N aZ (F.ext k₁ aR aZ.bn) (ak.trans aR k₁)
 rcases x with _|_<;>exact pz
end
section
theorem Cfg.l7(C:Cfg prog w H g h)(aw:h.get? a=none):a∉g.bW:=λq=>(C.vY q).elim λo e=>aI (aw.symm.trans e)
theorem Ext.own{jo g:Gh}{cu h h':Heap}(X:Ext jo cu g h){b:Addr}(ao:cu.get? b=none)(aJ:∀a o,a≠b->h.get? a=some o->h'.get? a=some o):Ext jo cu g h':=by
 have ne:∀a o,cu.get? a=some o->a≠b:=λa o e q=>aI (ao.symm.trans (q▸e))
 exact⟨X.ta,X.im,X.new,λa o e m=>aJ a o (ne a o e) (X.old a o e m),X.dd,λa o e=>(X.live a o e).elim λb9 gc=>⟨b9,aJ a b9 (ne a o e) gc⟩⟩
theorem Cfg.own(C:Cfg prog w H g h){b:Addr}(dB:g.im b=none)(d9:b∉g.bW)(aJ:∀a o,a≠b->h.get? a=some o->h'.get? a=some o):Cfg prog w H g h':=
 C.keep rfl rfl (λ_ _ e=>e) C.tok.out (λa aw o e=>aJ a o (λq=>d9 (q▸aw)) e) λa o e=>aJ a o (λq=>aI (dB.symm.trans (q▸e))) (C.bn a o e)
theorem SameBut.ext'{b:Addr}(aJ:Heap.SameBut b h h'):∀a o,a≠b->h.get? a=some o->h'.get? a=some o:=λa o ne e=>(aJ.2 a ne).trans e
structure NewD (prog:Program) (w:World) (O:T) (cu:Heap) (g:Gh) (h:Heap) (D:Addr) (v:V):Prop where
 new:cu.get? D=none
 im:g.im D=none
 mu:D∉g.bW
 live:∃o,h.get? D=some o
 co:hE v=true
 val:Val prog w O g h.get? (.ref D) v
def lL(prog:Program)(w:World)(H:T)(g:Gh)(s:Shared)(O:T)(v:V)(Q:cI):Prop:=
 ∀au h' aF D,Ext g s.heap au h'->H.bP O->Cfg prog w O au h'->NewD prog w O s.heap au h' D v->Q (.ref D) {s with heap:=h',toks:=aF}
theorem Ext.freeze{jo g:Gh}{cu h:Heap}(X:Ext jo cu g h){D:Addr}{o:Obj}(h0:cu.get? D=none)(dB:g.im D=none):Ext jo cu (g.add D o) h:=
 ⟨X.ta,λc r e=>Gh.hv dB c r (X.im c r e),λc r e=>(Gh.g9 λbq=>aI (h0.symm.trans (bq▸e))).trans (X.new c r e),X.old,X.dd.add,X.live⟩
theorem ToV.own{v:V}(ak:ToV prog w H g s O v Q):lL prog w H g s O v Q:=λau h' aF D X k C N=>by
 obtain⟨o,aG,fK⟩:=xa N.co N.im N.val
 exact ak _ h' aF _ (X.freeze N.new N.im) k (C.freeze N.im N.mu aG) fK
inductive DictI (f:Expr->T->Option (V×T)) (ks:List (Option Expr)) (vs:List Expr) (H:T) (v:V) (O:T):Prop
 |nil (e1:ks=[]) (e2:vs=[]) (h:some (V.dict [],H)=some (v,O))
 |one (k x:Expr) (aD bS:T) (i:Int) (u:V) (e1:ks=[some k]) (e2:vs=[x]) (aa:f k H=some (.int i,aD)) (ah:f x aD=some (u,bS)) (a6:u.flat=true) (h:some (V.dict [(.int i,u)],bS)=some (v,O))
theorem Z0{f:Expr->T->Option (V×T)}{ks:List (Option Expr)}{vs:List Expr}(h:o9 f ks vs H=some ([],O)):ks=[]/\vs=[]/\H=O:=by
 rcases ks with _|⟨_|k,ks⟩
 .rcases vs with _|⟨v,vs⟩
  .exact⟨rfl,rfl,(Prod.mk.inj (Option.some.inj h)).2⟩
  .exact aI h
 .exact aI h
 .rcases vs with _|⟨v,vs⟩
  .exact aI h
  .obtain⟨_,_,_,h⟩:=b1 h
   obtain⟨_,_,_,h⟩:=b1 h
   obtain⟨_,_,_,h⟩:=b1 h
   exact nomatch (Prod.mk.inj (Option.some.inj h)).1
theorem Z1{f:Expr->T->Option (V×T)}{ks:List (Option Expr)}{vs:List Expr}{v:V}(h:ob (o9 f ks vs H) (λl H=>rs H l)=some (v,O)):DictI f ks vs H v O:=by
 rcases ks with _|⟨_|k,ks⟩
 .rcases vs with _|⟨x,vs⟩
  .exact .nil rfl rfl h
  .exact aI h
 .exact aI h
 .rcases vs with _|⟨x,vs⟩
  .exact aI h
  .obtain⟨l,cE,e,h⟩:=b1 h
   obtain⟨a,aD,aa,e⟩:=b1 e
   obtain⟨b,bS,ah,e⟩:=b1 e
   obtain⟨r,DH,aC,e⟩:=b1 e
   revert h
   refine pI e (P:=λl cE=>rs cE l=some (v,O)->_) λh=>?_
   rcases r with _|⟨p,r⟩
   .obtain⟨ap,h⟩:=br h
    obtain⟨i,ig⟩:=Kd (aK ap).1
    have ig:a= .int i:=ig
    obtain⟨bU,bZ,dJ⟩:=Z0 aC
    rw[ig] at aa h
    rw[bU,bZ]
    rw[dJ] at ah
    exact .one k x aD DH i b rfl rfl aa ah (aK ap).2 h
   .exact aI h
theorem Z2(S:cx prog w G ta n){k x:Expr}{i:Int}{v:V}(aa:aN G n c J k H=some (.int i,aD))(ah:aN G n c J x aD=some (v,O))(a6:v.flat=true)(ag:O.cnt<=ba)(bz:Room A n)(T:g.ta=ta)(N:EnvR c.sc env)(C:Cfg prog w H g s.heap)(F:FrR prog w H g s.heap env J ai)(ak:lL prog w H g s O (.dict [(.int i,v)]) Q):wpAny (model prog w) A (eval (.Dict [some k] [x] p) env) Q E s:=by
 have cC:=jR aa C.ok
 have cA:=mw ah cC.2
 have keep:∀a o,s.heap.get? a=some o->(s.heap.push emptyDict).get? a=some o:=λa o e=>ey _ e
 have Mn:=C.grow keep
 have Mp:=Ext.grow g keep
 have F0:=F.ext (.refl H) Mp Mn.bn
 have rS:(s.heap.push emptyDict).get? s.heap.objs.size=some emptyDict:=ez _ rfl
 have fresh:=ji s.heap
 refine wpAny_Dict_any rfl rfl (by simp) (by simp) ?_
 show wpAny _ _ (evalPairs [(eval k env,do let y <-eval x env;standAt p;pure y)]) _ _ _
 unfold evalPairs
 refine wpAny_bind (S c J k H _ aD aa (aT cA.1.cnt ag) A env ai g {s with heap:=s.heap.push emptyDict} _ E bz T N Mn F0 λaV aB bh Mm aR k₁ aZ bT=>?_)
 have dA:=F0.ext k₁ aR aZ.bn
 refine wpAny_bind (wpAny_holding (wpAny_bind (S c J x aD v O ah ag A env ai aV {s with heap:=aB,toks:=bh} _ E bz (aR.ta.trans T) N aZ dA λcD a8 b8 eg cn dn b3 dr=>?_)))
 refine wpAny_bind (wpAny_standAt (wpAny_pure ?_))
 refine wpAny_bind (wpAny_holding ?_)
 unfold evalPairs
 refine wpAny_pure (wpAny_pure ?_)
 obtain⟨t,e⟩:=bT.int_inv
 rw[e]
 have xk:=aR.trans cn
 have nm:s.heap.objs.size∉g.bW:=C.l7 fresh
 have Z3:a8.get? s.heap.objs.size=some emptyDict:=xk.old _ _ rS nm
 have Mq:cD.im s.heap.objs.size=none:=(xk.new _ _ rS).trans (C.g7 fresh)
 have rT:s.heap.objs.size∉cD.bW:=λq=>nm ((xk.bW rS).mp q)
 obtain⟨d,lC,hm⟩:=dr.flat (λ_ _ e=>e) a6
 unfold storeAll
 rw[oN]
 refine wpAny_bind (wpAny_bind (wpAny_dictSet_pairs (knd:=intKind prog w) (s:={s with heap:=a8,toks:=b8}) (k:=i) (ug i t) ((DG _).mapOf Z3) (λbN aQ aJ=>?_) (by simp)))
 refine wpAny_pure ?_
 dsimp only
 rw[zV]
 refine wpAny_pure ?_
 obtain⟨o3,DI,DJ,bU,bZ,dJ,gY,uD,lM⟩:=aQ
 have Mr:=SameBut.ext' aJ
 refine ak cD bN _ s.heap.objs.size ((Mp.trans xk).own fresh Mr) (k₁.trans dn) (b3.own Mq rT Mr) ⟨fresh,Mq,rT,⟨o3,bU⟩,rfl,⟨_,o3,rfl,bU,DF C fresh,.int _ ⟨DI,DJ,bZ,dJ,gY,uD,lM⟩ ?_⟩⟩
 have:stored ([]:List (Int×Value)) i eg=[(i,eg)]:=by simp [stored]
 rw[this]
 exact .cons rfl lC hm .nil
theorem Z4(C:Cfg prog w H g s.heap)(ak:lL prog w H g s H (.dict []) Q):wpAny (model prog w) A (eval (.Dict [] [] p) env) Q E s:=by
 refine wpAny_Dict_empty ?_
 have keep:∀a o,s.heap.get? a=some o->(s.heap.push emptyDict).get? a=some o:=λa o e=>ey _ e
 have fresh:=ji s.heap
 exact ak g _ s.toks s.heap.objs.size (Ext.grow g keep) (.refl _) (C.grow keep) ⟨fresh,C.g7 fresh,C.l7 fresh,⟨_,ez _ rfl⟩,rfl,⟨_,_,rfl,ez _ rfl,DF C fresh,.int [] (DG _) .nil⟩⟩
theorem Ms(S:cx prog w G ta n){ks:List (Option Expr)}{vs:List Expr}{v:V}(h:ob (o9 (aN G n c J) ks vs H) (λl H=>rs H l)=some (v,O))(ag:O.cnt<=ba)(bz:Room A n)(T:g.ta=ta)(N:EnvR c.sc env)(C:Cfg prog w H g s.heap)(F:FrR prog w H g s.heap env J ai)(ak:lL prog w H g s O v Q):wpAny (model prog w) A (eval (.Dict ks vs p) env) Q E s:=by
 revert ag ak
 rcases Z1 h with ⟨e1,e2,h⟩|⟨k,x,aD,bS,i,u,e1,e2,aa,ah,a6,h⟩<;>rw[e1,e2]
 .exact pI h (P:=λv O=>O.cnt<=ba->lL prog w H g s O v Q->_) λ_ ak=>Z4 C ak
 .exact pI h (P:=λv O=>O.cnt<=ba->lL prog w H g s O v Q->_) λag ak=>Z2 S aa ah a6 ag bz T N C F ak
theorem Z5(S:cx prog w G ta n){ks:List (Option Expr)}{vs:List Expr}{v:V}(h:ob (o9 (aN G n c J) ks vs H) (λl H=>rs H l)=some (v,O))(ag:O.cnt<=ba):c4 prog w ta (n+1) c J (.Dict ks vs p) H v O:=
 λ_ _ _ _ _ _ _ R T N C F ak=>Ms S h ag (R.less (cG n)) T N C F ak.own
theorem Z6(S:cx prog w G ta n)(lK:nP prog w G ta K n)(B:Bk prog w G ta K bp mb)(P:Prm prog w ta K bp){xp p:Pos}{v:V}(h:JX G c J (aN G n c J) (bK G n) x as H=some (v,O))(ag:O.cnt<=ba):
  c4 prog w ta (n+1) c J (.Call (.Name x xp) as [] p) H v O:=by
 obtain⟨aj,h⟩:=br h
 have aj:=ry aj
 rcases a6:G.fn x with _|fn<;>rw[a6] at h
 .rcases eA h with ⟨Mt,h⟩|⟨_,h⟩
  .rcases eA h with ⟨hi,h⟩|⟨_,h⟩
   .obtain⟨q,e,h⟩:=bD h
    obtain⟨s,e2,h⟩:=bD h
    obtain⟨ap,h⟩:=br h
    obtain⟨u,aD,aa,h⟩:=b1 h
    obtain⟨pp,e3⟩:=jS e2
    rw[rF e,e3]
    revert ag
    exact h8 h (P:=λv O=>O.cnt<=ba->c4 prog w ta (n+1) c J (.Call (.Name x xp) [q.1,.Name s pp] [] p) H v O) λv ah ag=>ZE S B aj Mt (sEq_iff.mp hi) (sEq_iff.mp (aK (aK ap).1).1) (ry (aK ap).2) (aK (aK ap).1).2 aa ah ag
   .obtain⟨l,aD,aa,h⟩:=b1 h
    revert ag
    exact h8 h (P:=λv O=>O.cnt<=ba->c4 prog w ta (n+1) c J (.Call (.Name x xp) as [] p) H v O) λv ah ag=>ZC S B aj Mt aa ah ag
  .rcases eA h with ⟨aX,h⟩|⟨_,h⟩
   .obtain⟨l,aD,aa,h⟩:=b1 h
    exact ZH S B P aj (sEq_iff.mp aX) aa h ag
   .obtain⟨aX,h⟩:=br h
    obtain⟨l,aD,aa,h⟩:=b1 h
    exact ZI S B P aj (sEq_iff.mp aX) aa h ag
 .obtain⟨l,aD,aa,h⟩:=b1 h
  obtain⟨u,bS,ah,h⟩:=b1 h
  obtain⟨aG,h⟩:=br h
  revert ag
  refine pI h (P:=λv O=>O.cnt<=ba->c4 prog w ta (n+1) c J (.Call (.Name x xp) as [] p) H v O) λag=>ZB S lK B aj a6 aa ah aG ag
theorem Mu{q:Att}(h:lg e=some q):e= .Attribute q.o q.a q.p:=by
 rcases e
 case Attribute=>exact gb h (P:=λq:Att=>_=Expr.Attribute q.o q.a q.p) rfl
 all_goals exact aI h
theorem Z7(S:cx prog w G ta n)(B:Bk prog w G ta K bp mb){q:Att}{m:Str}{cj p:Pos}{kd:Expr×Expr}{v:V}(h:JY (aN G n c J) q m (cj.endLine==p.line) kd H=some (v,O))(ag:O.cnt<=ba):
  c4 prog w ta (n+1) c J (.Call (.Attribute (.Attribute q.o q.a q.p) m cj) [kd.1,kd.2] [] p) H v O:=by
 obtain⟨ap,h⟩:=br h
 obtain⟨ap,av⟩:=aK ap
 obtain⟨ap,hi⟩:=aK ap
 obtain⟨b,aD,aa,h⟩:=b1 h
 obtain⟨ao,h⟩:=br h
 obtain⟨r,bS,ah,h⟩:=b1 h
 obtain⟨z,DH,aC,h⟩:=b1 h
 obtain⟨bi,h⟩:=br h
 rw[wJ ao] at aa
 rw[Kf bi] at aC
 rw[sEq_iff.mp av]
 revert ag
 exact h8 h (P:=λv O=>O.cnt<=ba->c4 prog w ta (n+1) c J (.Call (.Attribute (.Attribute q.o q.a q.p) oZ cj) [kd.1,kd.2] [] p) H v O) λv bC ag=>ZQ S B (aK ap).1 (aK ap).2 (sEq_iff.mp hi) aa ah aC bC ag
theorem Z8(S:cx prog w G ta n)(lK:nP prog w G ta K n)(B:Bk prog w G ta K bp mb)(P:Prm prog w ta K bp){o:Expr}{m:Str}{cj p:Pos}{v:V}(h:t3 G (aN G n c J) (bK G n) o m (cj.endLine==p.line) as H none=some (v,O))(ag:O.cnt<=ba):
  c4 prog w ta (n+1) c J (.Call (.Attribute o m cj) as [] p) H v O:=by
 obtain⟨ap,h⟩:=br h
 obtain⟨ap,cs⟩:=aK ap
 obtain⟨aX,dS⟩:=aK ap
 have cs:as.length<25:=fi cs
 obtain⟨b,aD,aa,h⟩:=b1 h
 rcases b
 case tab=>
  obtain⟨av,h⟩:=br h
  obtain⟨l,bS,ah,h⟩:=b1 h
  obtain⟨row,e,h⟩:=bD h
  rw[nN e] at ah
  rw[sEq_iff.mp av]
  exact ZM S B P aX dS cs aa ah h ag
 case host=>
  obtain⟨fn,av,h⟩:=bD h
  obtain⟨l,bS,ah,h⟩:=b1 h
  exact ZN S lK B aX dS cs aa av ah h ag
 case dict d=>
  obtain⟨av,h⟩:=br h
  obtain⟨l,bS,ah,h⟩:=b1 h
  rw[sEq_iff.mp av]
  revert ag
  refine h8 h (P:=λv O=>O.cnt<=ba->c4 prog w ta (n+1) c J (.Call (.Attribute o oZ cj) as [] p) H v O) λv aC ag=>?_
  obtain⟨q,e,aC⟩:=bD aC
  obtain⟨aj,aC⟩:=br aC
  obtain⟨r,bx,aC⟩:=bD aC
  rw[rF e] at ah
  rw[<-Option.some.inj aC]
  exact ZS S aX dS cs aa ah aj bx ag
 all_goals exact aI h
theorem Z9{q:Cut}(h:rq e=some q):∃p,e= .Slice q.lo q.up none p:=by
 rcases e
 case Slice lo up st p=>
  rcases st with _|st
  .exact gb h (P:=λq:Cut=>∃hK,Expr.Slice lo up none p= .Slice q.lo q.up none hK) ⟨p,rfl⟩
  .exact aI h
 all_goals exact aI h
theorem aa0(S:cx prog w G ta n)(aL:uz prog w G ta n)(B:Bk prog w G ta K bp mb){b s:Expr}{v:V}(h:wD c J (aN G n c J) (ln G n c J) b s H (lg b)=some (v,O))(ag:O.cnt<=ba):c4 prog w ta (n+1) c J (.Subscript b s p) H v O:=by
 rcases e:lg b with _|q<;>rw[e] at h
 .have h:wC c J (aN G n c J) (ln G n c J) b s H (rq s)=some (v,O):=h
  rcases e:rq s with _|q<;>rw[e] at h
  .obtain⟨x,aD,aa,h⟩:=b1 h
   obtain⟨i,bS,ah,h⟩:=b1 h
   revert ag
   exact h8 h (P:=λv O=>O.cnt<=ba->c4 prog w ta (n+1) c J (.Subscript b s p) H v O) λv aC ag=>Zs S aa ah aC ag
  .obtain⟨x,aD,aa,h⟩:=b1 h
   obtain⟨l,bS,ah,h⟩:=b1 h
   obtain⟨u,DH,aC,h⟩:=b1 h
   obtain⟨ps,e⟩:=Z9 e
   rw[e]
   revert ag
   exact h8 h (P:=λv O=>O.cnt<=ba->c4 prog w ta (n+1) c J (.Subscript b (.Slice q.lo q.up none ps) p) H v O) λv bC ag=>Zu S aL aa ah aC bC ag
 .rw[Mu e];exact Zr S B h ag
theorem Mv{i:Int}(h:Ck e=some i):∃a p,e= .Constant (.int i) a p:=by
 rcases e
 case Constant k a p=>
  rcases k
  case int j=>exact gb h (P:=λi=>∃nY hK,Expr.Constant (.int j) a p= .Constant (.int i) nY hK) ⟨a,p,rfl⟩
  all_goals exact aI h
 all_goals exact aI h
theorem aa1(S:cx prog w G ta n){x:Expr}{o:UnaryOp}{v:V}(h:Cq c J (aN G n c J) x H o=some (v,O))(ag:O.cnt<=ba):c4 prog w ta (n+1) c J (.UnaryOp o x p) H v O:=by
 rcases o
 case Not=>
  obtain⟨u,aD,aa,h⟩:=b1 h
  obtain⟨b,ah,h⟩:=bD h
  revert ag
  exact pI h (P:=λv O=>O.cnt<=ba->c4 prog w ta (n+1) c J (.UnaryOp .Not x p) H v O) λag=>ZV S aa ah ag
 case USub=>
  obtain⟨i,e,h⟩:=bD h
  obtain⟨a,pp,e⟩:=Mv e
  rw[e]
  exact pI h (P:=λv O=>c4 prog w ta (n+1) c J (.UnaryOp .USub (.Constant (.int i) a pp) p) H v O) ZW
 all_goals exact aI h
theorem aa2(S:cx prog w G ta n)(a7:iS prog w G ta n)(aL:uz prog w G ta n)(lK:nP prog w G ta K n)(L:Me prog w G ta n)(B:Bk prog w G ta K bp mb)(P:Prm prog w ta K bp):cx prog w G ta (n+1):=by
 intro c J e H v O h ag
 show c4 prog w ta (n+1) c J e H v O
 rcases e
 case Constant k a p=>exact h8 h (P:=λv O=>c4 prog w ta (n+1) c J (.Constant k a p) H v O) λv al A env ai g s Q E R T N C F ak=>Y4 C al λau h' aF u a b d=>ak au h' aF u a (.refl _) b d
 case Name=>exact Zm B h
 case Tuple=>exact Zn S h ag
 case List=>exact Zo S h ag
 case Dict=>exact Z5 S h ag
 case UnaryOp=>exact aa1 S h ag
 case BinOp l op r p=>
  obtain⟨a,aD,aa,h⟩:=b1 h
  obtain⟨b,bS,ah,h⟩:=b1 h
  revert ag
  exact h8 h (P:=λv O=>O.cnt<=ba->c4 prog w ta (n+1) c J (.BinOp l op r p) H v O) λv aC ag=>ZX S aa ah aC ag
 case BoolOp op vs p=>
  intro A env ai g s Q E R T N C F ak
  rw[arm_eval_BoolOp]
  exact Md S (R.less (cG n)) N h ag T C F ak
 case Compare l ops a3 p=>
  obtain⟨o,r,x,y,aD,bS,t,e2,e3,aa,ah,aC,h⟩:=LU h
  rw[e2,e3]
  revert ag
  exact pI h (P:=λv O=>O.cnt<=ba->c4 prog w ta (n+1) c J (.Compare l [o] [r] p) H v O) λag=>ZY S aa ah aC ag
 case IfExp=>
  obtain⟨x,aD,aa,h⟩:=b1 h
  exact ZZ S a7 aa h ag
 case ListComp=>exact L c J _ _ _ _ _ _ _ h ag
 case Subscript=>exact aa0 S aL B h ag
 case Attribute=>exact Zw S B h ag
 case Call f as ks p=>
  rcases ks with _|_
  .rcases f
   case Name=>exact Z6 S lK B P h ag
   case Attribute o m cj=>
    have h:t3 G (aN G n c J) (bK G n) o m (cj.endLine==p.line) as H (rt o as)=some (v,O):=h
    rcases e:rt o as with _|⟨q,kd⟩<;>rw[e] at h
    .exact Z8 S lK B P h ag
    .obtain⟨jg,e1,e⟩:=bD e
     obtain⟨ank,e2,e⟩:=bD e
     obtain⟨e3,eN⟩:=Prod.mk.inj (Option.some.inj e)
     rw[Mu e1,rF e2,e3,eN]
     exact Z7 S B h ag
   all_goals exact aI h
  .exact aI h
 all_goals exact aI h
end
noncomputable def ownIts:List String:=["enumerate","zip","dict_itemiterator","dict_reverseitemiterator","odict_iterator","itertools.zip_longest","itertools.pairwise"]
inductive itCls (o:Obj):Prop
 |mk (n:String) (vs:Array Value) (c:o.cls= .type n) (d:o.data= .fields vs) (k:ownIts.contains n=false)
theorem aa3:ownIts.contains "list_iterator"=false:=by decide
theorem aa4:ownIts.contains "tuple_iterator"=false:=by decide
theorem aa5:ownIts.contains "range_iterator"=false:=by decide
section
variable (prog:Program)(w:World)
inductive IterOk (A:Around) (O:T) (g:Gh) (h:Heap) (cu:Heap) (it:Value) (l:List V):Prop
 |mk (I:Addr) (cR:List Addr) (P:Nat->Value->Prop) (St:Nat->Heap->Prop) (e:it= .ref I) (n:cu.get? I=none) (o:∃o,h.get? I=some o) (im:g.im I=none) (mu:I∉g.bW) (W:Walks prog w A I cR [I] l.length P St) (rU:St 0 h)
   (fr:∀b∈cR,b=I\/∃o,g.im b=some o) (cl:∀i h,St i h->∃o,h.get? I=some o/\itCls o) (v:∀i v,i<l.length->P i v->∃u,l[i]? =some u/\Val prog w O g g.im v u)
end
section
theorem Mw{I a:Addr}{o:Obj}(aG:g.im a=some o)(b:Addr)(ao:b∈[I,a]):b=I\/∃o,g.im b=some o:=by
 rcases List.mem_cons.mp ao with e|ao
 .exact .inl e
 .exact .inr ⟨o,dG ao▸aG⟩
theorem aa6{v:Value}{l:List V}(R:Room A n)(C:Cfg prog w O g s.heap)(al:Val prog w O g g.im v u)(aJ:hd u=some l)(ak:∀h' it,(∀b o,s.heap.get? b=some o->h'.get? b=some o)->Cfg prog w O g h'->IterOk prog w A O g h' s.heap it l->Q it {s with heap:=h'}):wpAny (model prog w) A (pyIter v) Q E s:=by
 obtain⟨a,o,vs,m,ds,e,aG,aQ,aa7,aq,ap⟩:=al.seq aJ (λ_ _ e=>e)
 rw[e]
 have fJ:a<s.heap.objs.size:=gs (C.bn _ _ aG)
 have fl:vs.size=l.length:=f4 aq ap
 have item:∀(i:Nat)(z:Value),vs[i]? =some z->∃y,l[i]? =some y/\Val prog w O g g.im z y:=λi z bi=>by
  have aY:=oI (fl▸(Array.getElem?_eq_some_iff.mp bi).1)
  obtain⟨anl,rV,Mx⟩:=aq.at ap aY
  rw[Option.some.inj (rV.symm.trans bi)] at Mx
  exact⟨_,aY,Mx.val⟩
 have fresh:=ji s.heap
 have gD:a≠s.heap.objs.size:=gP fJ
 rcases aa7 with ⟨_,aa8⟩|⟨_,d8⟩
 .have a1:s.heap.IsTuple a vs:=⟨o,C.bn _ _ aG,aa8,m,aQ⟩
  exact wpAny_pyIter_tuple a1 (ak _ _ (λb o e=>ey _ e) (C.grow λb o e=>ey _ e)
   ⟨s.heap.objs.size,_,_,_,rfl,fresh,⟨_,ez _ rfl⟩,C.g7 fresh,C.l7 fresh,fl▸Walks.tuple R.handled s.heap.objs.size a gD vs,⟨⟨_,ez _ rfl,rfl,rfl⟩,a1.push _⟩,Mw aG,λi h q=>q.1.elim λo e=>⟨o,e.1,_,_,e.2.1,e.2.2,aa4⟩,λi v _=>item i v⟩)
 .rw[d8] at aG
  have a1:s.heap.IsList a vs:=⟨_,C.bn _ _ aG,rfl,m,rfl⟩
  exact wpAny_pyIter_list a1 (ak _ _ (λb o e=>ey _ e) (C.grow λb o e=>ey _ e)
   ⟨s.heap.objs.size,_,_,_,rfl,fresh,⟨_,ez _ rfl⟩,C.g7 fresh,C.l7 fresh,fl▸we R.handled s.heap.objs.size a gD vs,⟨⟨_,ez _ rfl,rfl,rfl⟩,a1.push _⟩,Mw aG,λi h q=>q.1.elim λo e=>⟨o,e.1,_,_,e.2.1,e.2.2,aa3⟩,λi v _=>item i v⟩)
end
section
variable (prog:Program)(w:World)(G:Gl)(ta:Ta)
def DK(A:Around)(H:T)(g:Gh)(s:Shared)(O:T)(l:List V)(Q:cI):Prop:=
 ∀au h' aF it,Ext g s.heap au h'->H.bP O->Cfg prog w O au h'->IterOk prog w A O au h' s.heap it l->Q it {s with heap:=h',toks:=aF}
def rW(n:Nat):Prop:=
 ∀(c:Cx)(J:am)(e:Expr)(H:T)(l:List V)(O:T),gA G n c J e H=some (l,O)->O.cnt<=ba->
  ∀(A:Around)(env:Env)(ai:Addr->Option Ro)(g:Gh)(s:Shared)(Q:cI)(E:cI),
   Room A n->g.ta=ta->EnvR c.sc env->Cfg prog w H g s.heap->FrR prog w H g s.heap env J ai->DK prog w A H g s O l Q->wpAny (model prog w) A (eval e env) (λv c1=>wpAny (model prog w) A (pyIter v) Q E c1) E s
end
section
theorem IterOk.back{g jo:Gh}{h aB cu:Heap}{it:Value}{l:List V}(X:Ext jo cu g aB)(q:IterOk prog w A O g h aB it l):IterOk prog w A O g h cu it l:=by
 obtain⟨I,cR,P,St,a,b,eT,cP,jj,mG,kE,pM,DL,aa9⟩:=q
 exact⟨I,cR,P,St,a,gU X.live b,eT,cP,jj,mG,kE,pM,DL,aa9⟩
theorem My:∀(n i k:Nat),k<n->(rl i n)[k]? =some (.int ((i+k:Nat):Int))
 |n+1,i,0,_=>rfl
 |n+1,i,k+1,h=>(My n (i+1) k (oJ h)).trans (by rw [qO];rfl)
theorem DM:∀(n i:Nat),(rl i n).length=n
 |0,_=>rfl
 |n+1,i=>congrArg Nat.succ (DM n (i+1))
theorem Mz{e a:Expr}(h:nF e=some a):∃cR p,e= .Call (.Name h5 cR) [a] [] p:=by
 rcases e
 case Call f as ks p=>
  rcases ks with _|_
  .obtain⟨x,aa,h⟩:=bD h
   obtain⟨ah,h⟩:=br h
   obtain⟨cR,e⟩:=jS aa
   rw[e,sEq_iff.mp ah,nN h]
   exact⟨_,_,rfl⟩
  .exact aI h
 all_goals exact aI h
noncomputable def rX(k:Nat)(a b c:Tok):Obj:={cls:=.type "range",data:=.fields #[.int 0 a,.int (k:Int) b,.int 1 c]}
theorem aaa{t:Tok}(R:Room A n)(C:Cfg prog w O g s.heap)(xj:k<=1000)(ak:∀h' aF it,(∀b o,s.heap.get? b=some o->h'.get? b=some o)->Cfg prog w O g h'->IterOk prog w A O g h' s.heap it (rl 0 k)->Q it {s with heap:=h',toks:=aF}):
  wpAny (model prog w) A (call (.type "range") [.int (k:Int) t]) (λv c1=>wpAny (model prog w) A (pyIter v) Q E c1) E s:=by
 refine call_range_1 ?_
 refine wpAny_pyIter_range (IsRange.new s.heap 0 (k:Int) 1 s.toks t (s.toks+1)) (small_one (by lia) (by lia) (by lia) (by lia)) ?_
 have xm:(s.heap.push (rX k s.toks t (s.toks+1))).objs.size=s.heap.objs.size+1:=kl ..
 have e2:Builtin.Range.rangeSize 0 (k:Int) 1=(k:Int):=by rw [rangeSize_one];split<;>lia
 have keep:∀b o,s.heap.get? b=some o->((s.heap.push (rX k s.toks t (s.toks+1))).push {cls:=.type "range_iterator",data:=.fields #[rawInt 0,rawInt (Builtin.Range.rangeSize 0 (k:Int) 1),rawInt 1]}).get? b=some o:=
  λb o e=>ey _ (ey _ e)
 have hI:s.heap.get? (s.heap.push (rX k s.toks t (s.toks+1))).objs.size=none:=by
  rw[xm]
  rcases e:s.heap.get? (s.heap.objs.size+1) with _|o
  .rfl
  .exact absurd (gs e) (Nat.not_lt.mpr (cG _))
 have DN:=ez (s.heap.push (rX k s.toks t (s.toks+1))) (o:={cls:=.type "range_iterator",data:=.fields #[rawInt 0,rawInt (Builtin.Range.rangeSize 0 (k:Int) 1),rawInt 1]}) rfl
 show Q (.ref (s.heap.push (rX k s.toks t (s.toks+1))).objs.size) _
 refine ak _ _ _ keep (C.grow keep) ⟨_,[_],_,_,rfl,hI,⟨_,DN⟩,C.g7 hI,C.l7 hI,by rw [DM];exact Walks.range R.handled _ 0 1 k,?_,λb ao=> .inl (dG ao),λi h q=>⟨_,q,_,_,rfl,rfl,aa5⟩,?_⟩
 .show IsRangeIter _ _ (0+((0:Nat):Int)*1) ((k:Int) - ((0:Nat):Int)) 1
  rw[e2] at DN |-
  simpa [IsRangeIter,rX] using DN
 .rintro i v hi ⟨jW,e⟩
  rw[DM] at hi
  have e3:(0:Int)+(i:Int)*1=((0+i:Nat):Int):=by lia
  exact⟨_,My k 0 i hi,by rw [e,e3];exact .int _ _⟩
theorem aab(S:cx prog w G ta n)(B:Bk prog w G ta K bp mb):rW prog w G ta (n+1):=by
 intro c J e H l O h ag A env ai g s Q E R T N C F ak
 have bz:=R.less (cG n)
 have h:ru G c (aN G n c J) e H (nF e)=some (l,O):=h
 revert ag ak
 rcases e1:nF e with _|a<;>rw[e1] at h
 .obtain⟨v,aD,aa,h⟩:=b1 h
  exact h8 h (P:=λl O=>O.cnt<=ba->DK prog w A H g s O l Q->_) λl ah ag ak=>S c J e H v aD aa ag A env ai g s _ E bz T N C F λaV aB bh u aR k₁ aZ bT=>
   aa6 (s:={s with heap:=aB,toks:=bh}) bz aZ bT ah λa8 it aj b3 DO=>ak aV a8 bh it (aR.trans (Ext.grow aV aj)) k₁ b3 (DO.back aR)
 .obtain⟨aj,h⟩:=br h
  obtain⟨v,aD,aa,h⟩:=b1 h
  obtain⟨k,e2,h⟩:=bD h
  obtain⟨xj,h⟩:=br h
  obtain⟨cR,p,e⟩:=Mz e1
  rw[e]
  refine pI h (P:=λl O=>O.cnt<=ba->DK prog w A H g s O l Q->_) λag ak=>?_
  rw[nJ e2] at aa
  refine Call_Name rfl (rM B C T N (ry (aK aj).1) (aK aj).2 ?_)
  have e1:nS h5= .type "range":=rfl
  rw[e1]
  have aJ:=nK aa [] env
  refine gi (P:=λ_=>True) (by rw [aJ];rfl) (λh _=>lJ (λa q=>nomatch q)) ?_
  refine args_cons (S c J _ H _ aD aa ag A env ai g s _ E bz T N C F λaV aB bh z aR k₁ aZ bT=>?_) aJ
  refine args_nil ⟨trivial,?_⟩
  obtain⟨t,e⟩:=bT.int_inv
  rw[e]
  exact aaa (s:={s with heap:=aB,toks:=bh}) bz aZ (fi xj) λa8 b8 it aj b3 DO=>ak aV a8 b8 it (aR.trans (Ext.grow aV aj)) k₁ b3 (DO.back aR)
end
theorem xn{L:Addr}{m jl:Str->Option Value}(a:h.Ns L m)(b:h.Ns L jl)(x:Str):m x=jl x:=by
 obtain⟨o,es,ca,aa,ah,_,aC⟩:=a
 obtain⟨b9,dN,aac,pN,lN,_,nM⟩:=b
 rw[<-Option.some.inj (aa.symm.trans pN),ah] at lN
 injection lN with e _
 rw[<-aC,<-nM,e]
theorem MA{c:Addr}{v f2:Option Value}(a:h.IsCell c v)(b:h.IsCell c f2):v=f2:=by
 obtain⟨o,aa,ah⟩:=a
 obtain⟨b9,pN,lN⟩:=b
 rw[<-Option.some.inj (aa.symm.trans pN),ah] at lN
 injection lN
theorem OwnAt.unique{a b:Addr}(p:OwnAt env h x a)(q:OwnAt env h x b):a=b:=by
 rcases p with ⟨k,m,aa,ah⟩|⟨k,c,aa,ah⟩<;>rcases q with ⟨gk,jl,pN,lN⟩|⟨gk,aP,pN,lN⟩
 .exact Value.ref.inj (Option.some.inj (ah.symm.trans ((xn aa pN x).trans lN)))
 .exact nomatch k.symm.trans gk
 .exact nomatch k.symm.trans gk
 .rw[<-Option.some.inj (aa.symm.trans pN)] at lN
  exact Value.ref.inj (Option.some.inj (MA ah lN))
theorem pO(h:x≠y):a9 x y=false:=by
 rcases e:a9 x y with _|_
 .rfl
 .exact absurd (sEq_iff.mp e) h
theorem rget_same{o:Bool}:∀{J:am},a2 (cb J x u o) x=some (u,o)
 |[]=>by
  show cond (a9 x x) _ _=_
  rw[pe];rfl
 |(z,s)::r=>by
  show a2 (cond (a9 z x) _ _) x=_
  rcases e:a9 z x with _|_
  .show cond (a9 z x) _ _=_
   rw[e];exact rget_same
  .show cond (a9 z x) _ _=_
   rw[e];rfl
theorem ih{o:Bool}(h:y≠x):∀{J:am},a2 (cb J x u o) y=a2 J y
 |[]=>by
  show cond (a9 x y) _ _=_
  rw[pO λe=>h e.symm];rfl
 |(z,s)::r=>by
  show a2 (cond (a9 z x) _ _) y=cond (a9 z y) _ _
  rcases e:a9 z x with _|_
  .show cond (a9 z y) _ (a2 (cb r x u o) y)=_
   rw[ih h]
  .show cond (a9 z y) _ _=_
   rw[sEq_iff.mp e,pO λe=>h e.symm];rfl
theorem aad{o:Bool}:a2 (cb J x u o) y=if y=x then some (u,o) else a2 J y:=by
 rcases eR (y=x) with h|h
 .rw[if_pos h,h];exact rget_same
 .rw[if_neg h];exact ih h
theorem pP{u ea:V}{o b9:Bool}(h:a2 (cb J x u o) y=some (ea,b9)):(y=x/\u=ea/\o=b9)\/(y≠x/\a2 J y=some (ea,b9)):=by
 rcases eR (y=x) with e|e
 .rw[e,rget_same] at h
  exact .inl ⟨e,Prod.mk.inj (Option.some.inj h)⟩
 .exact .inr ⟨e,(ih e).symm.trans h⟩
section
variable {a b:Addr}{r d7:Ro}
theorem mJ(aw:ai a=some r)(ao:ai b=some d7)(aq:r≠d7):a≠b:=λe=>aq (Option.some.inj (aw.symm.trans (e▸ao)))
theorem Hold.to{v:Value}{o:Bool}(aJ:∀a,ai a=some (.own x)->∀o,h.get? a=some o->h'.get? a=some o)(q:Hold prog w H g h ai x v u o):Hold prog w H g h' ai x v u o:=by
 rcases o with _|_
 .exact q
 .obtain⟨ap,a,e,aw,al⟩:=q
  rw[e] at al
  exact⟨ap,a,e,aw,e▸al.seen (.refl H) (λ_ _ e=>e) (aJ a aw) ap⟩
structure Chg (ai:Addr->Option Ro) (b:Addr) (r:Ro) (h h':Heap):Prop where
 ro:ai b=some r
 zw:∀a o,a≠b->h.get? a=some o->h'.get? a=some o
 live:∃o,h'.get? b=some o
theorem Chg.at(k:Chg ai b r h h')(aw:ai a=some d7)(aq:d7≠r)(o:Obj)(e:h.get? a=some o):h'.get? a=some o:=k.zw a o (mJ aw k.ro aq) e
theorem Chg.all(k:Chg ai b r h h')(a:Addr)(o:Obj)(e:h.get? a=some o):∃b9,h'.get? a=some b9:=by
 rcases eR (a=b) with q|q
 .rw[q];exact k.live
 .exact⟨o,k.zw a o q e⟩
theorem xq(C:Cfg prog w H g h)(sep:ic g h ai)(k:Chg ai b r h h'):ExtS ai g h g h'/\Cfg prog w H g h'/\ic g h' ai:=by
 obtain⟨dB,d9,_⟩:=sep b r k.ro
 refine⟨⟨rfl,λ_ _ e=>e,λ_ _ _=>rfl,λa o e _ a6=>k.zw a o (λq=>aI (a6.symm.trans (q▸k.ro))) e,.refl _ _,k.all⟩,C.own dB d9 k.zw,λa d7 e=>?_⟩
 obtain⟨bU,bZ,o,dJ⟩:=sep a d7 e
 exact⟨bU,bZ,k.all a o dJ⟩
theorem FrNs.to(q:FrNs prog w H g h env J ai)(ag:∀o,h.get? env.locals=some o->h'.get? env.locals=some o)(aj:∀y u o,env.kindOf y=some .local->a2 bb y=some (u,o)->a2 J y=some (u,o)/\∀a,ai a=some (.own y)->∀o,h.get? a=some o->h'.get? a=some o):FrNs prog w H g h' env bb ai:=by
 obtain⟨m,⟨ob,es,ca,aG,r⟩,al⟩:=q
 refine⟨m,⟨ob,es,ca,ag _ aG,r⟩,λy u o k e=>?_⟩
 obtain⟨e,aJ⟩:=aj y u o k e
 exact(al y u o k e).elim λv p=>⟨v,p.1,p.2.to aJ⟩
theorem FrCl.to(q:FrCl prog w H g h env J ai x a)(aw:∀o,h.get? a=some o->h'.get? a=some o)(aj:∀u o,(env.kindOf x=some .cell\/env.kindOf x=some .free)->a2 bb x=some (u,o)->a2 J x=some (u,o)/\∀a,ai a=some (.own x)->∀o,h.get? a=some o->h'.get? a=some o):FrCl prog w H g h' env bb ai x a:=by
 obtain⟨v,⟨oc,rY,pQ⟩,ah,aC⟩:=q
 refine⟨v,⟨oc,aw _ rY,pQ⟩,ah,λu o k e=>?_⟩
 obtain⟨e,aJ⟩:=aj u o k e
 exact(aC u o k e).elim λv p=>⟨v,p.1,p.2.to aJ⟩
theorem OwnAt.to(p:OwnAt env h x a)(F:FrR prog w H g h env J ai)(ag:∀o,h.get? env.locals=some o->h'.get? env.locals=some o)(ap:∀c,ai c=some (.cell x)->∀o,h.get? c=some o->h'.get? c=some o):OwnAt env h' x a:=by
 rcases p with ⟨k,m,⟨o,es,ca,aa,r⟩,ah⟩|⟨k,c,aa,o,ah,aC⟩
 .exact .loc k m ⟨o,es,ca,ag _ aa,r⟩ ah
 .obtain⟨_,_,e8,_⟩:=F.cl x c aa
  exact .cell k c aa ⟨o,ap c e8 _ ah,aC⟩
structure Stored (prog:Program) (w:World) (H:T) (g:Gh) (env:Env) (J:am) (ai:Addr->Option Ro) (sc:Scope) (x:Str) (h h':Heap):Prop where
 X:ExtS ai g h g h'
 C:Cfg prog w H g h'
 F:FrR prog w H g h' env J ai
 b:∃b,(b=env.locals\/(lk sc.names x=some .cell/\env.cells.lookup x=some b))/\Heap.SameBut b h h'/\∃o,h'.get? b=some o
 st:∀y a,y≠x->OwnAt env h y a->OwnAt env h' y a
theorem DP(aa:env.kindOf x=some .local)(ah:env.kindOf y=some .cell\/env.kindOf y=some .free):y≠x:=λe=>by
 rw[e,aa] at ah
 rcases ah with q|q<;>exact nomatch q
theorem mK(N:EnvR sc env)(C:Cfg prog w H g s.heap)(F:FrR prog w H g s.heap env J ai)(aj:lk sc.names x=some .local\/lk sc.names x=some .cell)(hx:x≠dM){v:Value}{o:Bool}(al:Hold prog w H g s.heap ai x v u o){Q:Unit->Shared->Prop}(ak:∀h' aF,Stored prog w H g env (cb J x u o) ai sc x s.heap h'->Q () {s with heap:=h',toks:=aF}):wpAny (model prog w) A (storeName env x v) Q E s:=by
 have w8:a2 (cb J x u o) dM=none:=(ih λe=>hx e.symm).trans F.dot
 rcases aj with aj|aj
 .have gl:=N.loc x aj
  obtain⟨m,aX,av⟩:=F.ns
  refine wpAny_storeName_local gl aX (λh' pR jp=>?_) (by rw [N.kind];rfl)
  have live:∃o,h'.get? env.locals=some o:=by obtain ⟨ob,_,_,uE,_⟩:=pR;exact⟨ob,uE⟩
  have k:Chg ai env.locals .loc s.heap h':=⟨F.loc,SameBut.ext' jp,live⟩
  obtain⟨pS,ct,rZ⟩:=xq C F.sep k
  have own:∀{y} a,ai a=some (.own y)->∀o,s.heap.get? a=some o->h'.get? a=some o:=λa e=>k.at e nofun
  refine ak h' _ ⟨pS,ct,⟨⟨_,pR,λy ea b9 gZ aY=>?_⟩,λy a aw=>?_,F.loc,rZ,w8⟩,⟨_,.inl rfl,jp,live⟩,λy a uF gW=>?_⟩
  .rcases pP aY with ⟨e,e1,e2⟩|⟨gD,aY⟩
   .rw[e,<-e1,<-e2];exact⟨v,if_pos rfl,al.to own⟩
   .exact(av y ea b9 gZ aY).elim λz p=>⟨z,(if_neg gD).trans p.1,p.2.to own⟩
  .have q:=F.cl y a aw
   have e8:ai a=some (.cell y):=by obtain ⟨_,_,ah,_⟩:=q;exact ah
   exact q.to (k.at e8 nofun) λea b9 gZ aY=>⟨(pP aY).elim (λq=>absurd q.1 (DP gl gZ)) (·.2),own⟩
  .rcases gW with ⟨gk,jl,aa,ah⟩|⟨gk,d,aa,od,ah,aC⟩
   .exact .loc gk _ pR ((if_neg uF).trans ((xn aX aa y).trans ah))
   .obtain⟨_,_,e8,_⟩:=F.cl y d aa
    exact .cell gk d aa ⟨od,k.at e8 nofun _ ah,aC⟩
 .obtain⟨gl,c,ap⟩:=N.cell x aj
  obtain⟨xr,uG,e8,_⟩:=F.cl x c ap
  refine wpAny_storeName_cell N.kind gl ap uG λh' hG jp=>?_
  have live:∃o,h'.get? c=some o:=by obtain ⟨ob,uE,_⟩:=hG;exact⟨ob,uE⟩
  have k:Chg ai c (.cell x) s.heap h':=⟨e8,SameBut.ext' jp,live⟩
  obtain⟨pS,ct,rZ⟩:=xq C F.sep k
  have own:∀{y} a,ai a=some (.own y)->∀o,s.heap.get? a=some o->h'.get? a=some o:=λa e=>k.at e nofun
  have lo:=k.at F.loc nofun
  refine ak h' _ ⟨pS,ct,⟨F.ns.to lo λy ea b9 gZ aY=>⟨(pP aY).elim (λq=>by rw [q.1,gl] at gZ;exact nomatch gZ) (·.2),own⟩,λy a aw=>?_,F.loc,rZ,w8⟩,⟨_,.inr ⟨aj,ap⟩,jp,live⟩,λy a uF gW=>gW.to F lo λd aQ=>k.at aQ λe=>uF (Ky e)⟩
  rcases eR (y=x) with xs|xs
  .rw[xs] at aw |-
   rw[<-Option.some.inj (ap.symm.trans aw)]
   refine⟨some v,hG,e8,λea b9 _ aY=>?_⟩
   obtain⟨e1,e2⟩:=Prod.mk.inj (Option.some.inj (rget_same.symm.trans aY))
   rw[<-e1,<-e2];exact⟨v,rfl,al.to own⟩
  .have q:=F.cl y a aw
   have aae:ai a=some (.cell y):=by obtain ⟨_,_,ah,_⟩:=q;exact ah
   exact q.to (k.at aae λe=>xs (Ky e)) λea b9 gZ aY=>⟨(pP aY).elim (λq=>absurd q.1 xs) (·.2),own⟩
end
section
theorem OwnAt.ext(p:OwnAt env h x a)(F:FrR prog w H g h env J ai)(X:Ext g h au h'):OwnAt env h' x a:=p.to F (λ_ e=>F.same X F.loc e) λ_ aQ _ e=>F.same X aQ e
structure OwnPut (prog:Program) (w:World) (H:T) (g:Gh) (env:Env) (J:am) (ai:Addr->Option Ro) (x:Str) (u:V) (h h':Heap):Prop where
 X:ExtS ai g h g h'
 C:Cfg prog w H g h'
 F:FrR prog w H g h' env (cb J x u true) ai
inductive OwnSet (prog:Program) (w:World) (H:T) (g:Gh) (s:Shared) (env:Env) (J:am) (ai:Addr->Option Ro) (x:Str) (u:V):Prop
 |mk (a:Addr) (f:ai a=some (.own x)) (at_:OwnAt env s.heap x a) (c:hE u=true) (v:Val prog w H g s.heap.get? (.ref a) u)
   (rd:∀(A:Around)(p:Pos)(Q:cI)(E:cI),Q (.ref a) s->wpAny (model prog w) A (eval (.Name x p) env) Q E s)
   (put:∀h' ea,Heap.SameBut a s.heap h'->hE ea=true->Val prog w H g h'.get? (.ref a) ea->(∃o,h'.get? a=some o)->OwnPut prog w H g env J ai x ea s.heap h')
theorem Hold.move{v:Value}{o:Bool}(k:H.bP O)(le:g.le au)(aJ:∀b,ai b=some (.own y)->∀o,h.get? b=some o->h'.get? b=some o)(q:Hold prog w H g h ai y v u o):Hold prog w O au h' ai y v u o:=by
 rcases o with _|_
 .exact Val.mono k le le.im q
 .obtain⟨ap,b,e,aw,al⟩:=q
  rw[e] at al
  exact⟨ap,b,e,aw,e▸al.seen k le.im (aJ b aw) ap⟩
theorem FrR.put{ea:V}(F:FrR prog w H g h env J ai)(k:H.bP O)(le:g.le au)(gW:OwnAt env h x a)(aw:ai a=some (.own x))(N:x≠dM)(aJ:∀b r,ai b=some r->b≠a->∀o,h.get? b=some o->h'.get? b=some o)(sep:ic au h' ai)(ap:hE ea=true)(al:Val prog w O au h'.get? (.ref a) ea):FrR prog w O au h' env (cb J x ea true) ai:=by
 have at_:∀{b r},ai b=some r->r≠ .own x->∀o,h.get? b=some o->h'.get? b=some o:=λe aq=>aJ _ _ e (mJ e aw aq)
 have hold:∀{y v u o},y≠x->Hold prog w H g h ai y v u o->Hold prog w O au h' ai y v u o:=λaY q=>q.move k le λb e=>at_ e λe=>aY (Kz e)
 refine⟨?_,λy c pT=>?_,F.loc,sep,(ih λe=>N e.symm).trans F.dot⟩
 .obtain⟨m,⟨ob,es,ca,aG,r⟩,av⟩:=F.ns
  refine⟨m,⟨ob,es,ca,at_ F.loc nofun _ aG,r⟩,λy z o gZ aY=>?_⟩
  rcases pP aY with ⟨e,e1,e2⟩|⟨gD,aY⟩
  .rw[e] at gZ |-
   rw[<-e1,<-e2]
   rcases gW with ⟨_,jl,aa,ah⟩|⟨gk,_⟩
   .exact⟨_,(xn ⟨ob,es,ca,aG,r⟩ aa x).trans ah,ap,a,rfl,aw,al⟩
   .exact nomatch gZ.symm.trans gk
  .exact(av y z o gZ aY).elim λz p=>⟨z,p.1,hold gD p.2⟩
 .obtain⟨z,⟨oc,rY,pQ⟩,ah,aC⟩:=F.cl y c pT
  refine⟨z,⟨oc,at_ ah nofun _ rY,pQ⟩,ah,λt o gZ aY=>?_⟩
  rcases pP aY with ⟨e,e1,e2⟩|⟨gD,aY⟩
  .rw[e] at gZ pT |-
   rw[<-e1,<-e2]
   rcases gW with ⟨gk,_⟩|⟨_,aP,aa,bC⟩
   .exact absurd rfl (DP gk gZ)
   .rw[<-Option.some.inj (pT.symm.trans aa)] at bC
    exact⟨.ref a,MA ⟨oc,rY,pQ⟩ bC,ap,a,rfl,aw,al⟩
  .exact(aC t o gZ aY).elim λz p=>⟨z,p.1,hold gD p.2⟩
theorem Gh.le.refl(g:Gh):g.le g:=⟨rfl,λ_ _ e=>e,[],(eh _).symm⟩
theorem MB{ea:V}(N:x≠dM)(C:Cfg prog w H g h)(F:FrR prog w H g h env J ai)(aw:ai a=some (.own x))(gW:OwnAt env h x a)(aJ:Heap.SameBut a h h')(ap:hE ea=true)(al:Val prog w H g h'.get? (.ref a) ea)(ag:∃o,h'.get? a=some o):OwnPut prog w H g env J ai x ea h h':=by
 obtain⟨pS,ct,iP⟩:=xq C F.sep ⟨aw,SameBut.ext' aJ,ag⟩
 exact⟨pS,ct,F.put (.refl _) (.refl _) gW aw N (λb _ _ ne o=>SameBut.ext' aJ b o ne) iP ap al⟩
theorem xt(N:EnvR sc env)(C:Cfg prog w H g s.heap)(F:FrR prog w H g s.heap env J ai)(aj:lk sc.names x=some .local\/lk sc.names x=some .cell)(hx:x≠dM)(aq:a2 J x=some (u,true)):OwnSet prog w H g s env J ai x u:=by
 rcases aj with aj|aj
 .obtain⟨m,aX,av⟩:=F.ns
  have gl:=N.loc x aj
  obtain⟨v,aa,ap,a,e,aw,al⟩:=av x u true gl aq
  rw[e] at aa al
  have at_:OwnAt env s.heap x a:=.loc gl m aX aa
  exact⟨a,aw,at_,ap,al,λA p Q E ak=>wpAny_Name (wpAny_loadName_local N.kind gl aX aa ak) (ia N aj),λh' ea=>MB hx C F aw at_⟩
 .obtain⟨gl,MC,pT⟩:=N.cell x aj
  obtain⟨xr,uG,e8,bi⟩:=F.cl x MC pT
  obtain⟨v,jq,ap,a,e,aw,al⟩:=bi u true (.inl gl) aq
  rw[jq,e] at uG
  rw[e] at al
  have at_:OwnAt env s.heap x a:=.cell gl MC pT uG
  exact⟨a,aw,at_,ap,al,λA p Q E ak=>wpAny_Name (wpAny_loadName_cell N.kind gl pT uG ak) (ia N aj),λh' ea=>MB hx C F aw at_⟩
end
theorem c2{P:Prop}(h:false=true):P:=nomatch h
def MD(x y:Str)(out:List (Str×NameKind)):NameKind->Prop
 | .local=>y=x\/y=dM
 | .cell=>y=x
 | .free=>lk out y=some .cell\/lk out y=some .free
 | .globalImplicit=>True
 |_=>False
theorem aaf{out:List (Str×NameKind)}(h:ww y y out .free=true):lk out y=some .cell\/lk out y=some .free:=by
 unfold ww at h
 rcases e:lk out y with _|q<;>rw[e] at h
 .exact nomatch h
 .rcases q
  case cell=>exact .inl rfl
  case free=>exact .inr rfl
  all_goals exact c2 h
theorem aag{out:List (Str×NameKind)}{k:NameKind}(h:ww x y out k=true):MD x y out k:=by
 rcases k
 case «local»=>exact((f9 _ _).mp h).imp sEq_iff.mp sEq_iff.mp
 case cell=>exact sEq_iff.mp h
 case free=>exact aaf h
 case globalImplicit=>exact trivial
 all_goals exact c2 h
structure CmpN (x:Str) (out:List (Str×NameKind)) (y:Str) (k:NameKind):Prop where
 k:MD x y out k
 amL:y≠Cd
 cls:y≠Ce
structure CmpC (x:Str) (out:List (Str×NameKind)) (y:Str) (k:NameKind) (r:List (Str×NameKind)):Prop where
 n:CmpN x out y k
 no:lk r y=none
 r:he x out r=true
theorem n0{a b:Str}(h:(!a9 a b)=true):a≠b:=λe=>by rw [e,pe] at h;exact nomatch h
theorem aah{α:Type}{o:Option α}(h:(!o.isSome)=true):o=none:=by
 rcases o with _|_
 .rfl
 .exact nomatch h
theorem xu{k:NameKind}{out r:List (Str×NameKind)}(h:he x out ((y,k)::r)=true):CmpC x out y k r:=by
 obtain⟨h,ee⟩:=aK h
 obtain⟨h,bC⟩:=aK h
 obtain⟨h,aC⟩:=aK h
 exact⟨⟨aag (aK h).1,n0 (aK h).2,n0 aC⟩,aah bC,ee⟩
theorem DQ{k:NameKind}{r:List (Str×NameKind)}:lk ((y,k)::r) y=some k:=by
 show cond (a9 y y) _ _=_
 rw[pe];rfl
theorem DR{y z:Str}{k:NameKind}{r:List (Str×NameKind)}(h:y≠z):lk ((y,k)::r) z=lk r z:=by
 show cond (a9 y z) _ _=_
 rw[pO h];rfl
theorem DS{y z:Str}{k q:NameKind}{r:List (Str×NameKind)}(h:lk ((y,k)::r) z=some q):(y=z/\k=q)\/lk r z=some q:=
 (eA (show cond (a9 y z) (some k) (lk r z)=some q from h)).imp (λp=>⟨sEq_iff.mp p.1,Option.some.inj p.2⟩) (·.2)
theorem n1{out:List (Str×NameKind)}:∀{names:List (Str×NameKind)}{y:Str}{k:NameKind},he x out names=true->lk names y=some k->CmpN x out y k
 |[],_,_,_,h=>aI h
 |(z,q)::r,y,k,h,aj=>by
  have c:=xu h
  rcases DS aj with ⟨e1,e2⟩|aj
  .rw[<-e1,<-e2];exact c.n
  .exact n1 c.r aj
theorem uH{out:List (Str×NameKind)}:∀{names:List (Str×NameKind)}{y:Str}{k:NameKind},he x out names=true->(y,k)∈names->lk names y=some k
 |[],_,_,_,h=>nomatch h
 |(z,q)::r,y,k,h,av=>by
  have c:=xu h
  rcases List.mem_cons.mp av with e|av
  .obtain⟨e1,e2⟩:=Prod.mk.inj e;rw[e1,e2];exact DQ
  .have:=uH c.r av
   exact(DR λe=>aI (c.no.symm.trans (e▸this))).trans this
theorem DT{k:NameKind}:∀{names:List (Str×NameKind)},lk names y=some k->(y,k)∈names
 |[],h=>aI h
 |(z,q)::r,h=>(DS h).elim (λp=>p.1▸p.2▸dV) λh=> .tail _ (DT h)
theorem DU{names:List (Str×NameKind)}:(∀y∈names,y.2≠ .cell)->∀n acc h,cellsFrom n names acc=acc/\pushCells h names=h:=by
 induction names with
 |nil=>intro _ _ _ _;exact⟨rfl,rfl⟩
 |cons a r bg=>
  obtain⟨y,k⟩:=a
  intro aX n acc h
  have:(k==NameKind.cell)=false:=beq_eq_false_iff_ne.mpr (aX (y,k) dV)
  unfold cellsFrom pushCells
  rw[this]
  exact bg (λz bi=>aX z (.tail _ bi)) n acc h
theorem DV{out names:List (Str×NameKind)}(h:he x out names=true)(hx:lk names x≠some .cell):∀y∈names,y.2≠ .cell:=by
 rintro⟨y,k⟩ av e
 have e:k= .cell:=e
 rw[e] at av
 have aj:=uH h av
 have q:y=x:=(n1 h aj).k
 exact hx (q▸aj)
theorem uI{out:List (Str×NameKind)}:∀{names:List (Str×NameKind)},he x out names=true->lk names x=some .cell->∀n acc h,cellsFrom n names acc=(x,n)::acc/\pushCells h names=h.push {cls:=.type "cell",data:=.cell none}
 |[],_,h,_,_,_=>aI h
 |(y,k)::r,ap,hx,n,acc,h=>by
  have c:=xu ap
  rcases eR (k= .cell) with aj|aj
  .rw[aj] at c |-
   have aY:y=x:=c.n.k
   rw[aY] at c |-
   exact DU (DV c.r λe=>aI (c.no.symm.trans e)) _ _ _
  .have hx:lk r x=some .cell:=(DS hx).elim (λp=>absurd p.2 aj) id
   have DC:(k==NameKind.cell)=false:=beq_eq_false_iff_ne.mpr aj
   unfold cellsFrom pushCells
   rw[DC]
   exact uI c.r hx n acc h
noncomputable def pU (cells:List (Str×Addr)) (y:Str) (k:NameKind) (acc:List (Str×Addr)):List (Str×Addr):=cond (k== .free) ((y,(cells.lookup y).getD 0)::acc) acc
def hL (cells:List (Str×Addr)):List (Str×NameKind)->List (Str×Addr)->List (Str×Addr)
 |[],acc=>acc
 |p::r,acc=>hL cells r (pU cells p.1 p.2 acc)
theorem ME(k:NameKind):k= .free\/(k==NameKind.free)=false:=(eR (k= .free)).imp id beq_eq_false_iff_ne.mpr
theorem MF{f:Str×NameKind->List (Str×Addr)->Sem (ForInStep (List (Str×Addr)))}(a6:∀n k gG,f (n,k) gG=if k==NameKind.free then (do let a <-cellOf env n;pure (.yield ((n,a)::gG))) else pure (.yield gG)):
  ∀(names:List (Str×NameKind))(acc:List (Str×Addr)),(∀y,(y,NameKind.free)∈names->∃a,env.cells.lookup y=some a)->forIn names acc f=pure (hL env.cells names acc)
 |[],acc,_=>zV
 |(y,k)::r,acc,aX=>by
  have bg:=λacc=>MF a6 r acc λz bi=>aX z (.tail _ bi)
  have e:f (y,k) acc=pure (.yield (pU env.cells y k acc)):=by
   rw[a6]
   rcases ME k with e|e
   .rw[e] at aX |-
    obtain⟨a,aw⟩:=aX y dV
    have q:pU env.cells y .free acc=(y,a)::acc:=by unfold pU;rw[aw];rfl
    have:cellOf env y=pure a:=by unfold cellOf;rw[aw]
    rw[q,this,pure_bind];rfl
   .have q:pU env.cells y k acc=acc:=by unfold pU;rw[e];rfl
    rw[q,e];rfl
  rw[oN,e,pure_bind]
  exact bg _
theorem aai{scope:Scope}(h:∀y,(y,NameKind.free)∈scope.names->∃a,env.cells.lookup y=some a):closureFor scope env=pure (hL env.cells scope.names []):=by
 unfold closureFor
 exact(congrArg (λm=>m>>=λr=>pure r) (MF (λn k gG=>by cases k<;>rfl) scope.names [] h)).trans rfl
theorem MG{bR:Type}{z y:Str}{b a:bR}{acc:List (Str×bR)}(h:((z,b)::acc).lookup y=some a):(y=z/\b=a)\/acc.lookup y=some a:=by
 rw[ha] at h
 rcases e:y==z with _|_<;>rw[e] at h
 .exact .inr h
 .exact .inl ⟨eq_of_beq e,Option.some.inj h⟩
theorem n2{bR:Type}{b:bR}{acc:List (Str×bR)}:((y,b)::acc).lookup y=some b:=by
 rw[ha,beq_self_eq_true]
theorem MH{cells:List (Str×Addr)}:∀{names:List (Str×NameKind)}{acc:List (Str×Addr)}{y:Str}{a:Addr},(hL cells names acc).lookup y=some a->acc.lookup y=some a\/((y,NameKind.free)∈names/\(cells.lookup y).getD 0=a)
 |[],_,_,_,h=> .inl h
 |(z,k)::r,acc,y,a,h=>by
  rcases MH (names:=r) h with q|q
  .have q:(cond (k== .free) ((z,(cells.lookup z).getD 0)::acc) acc).lookup y=some a:=q
   rcases ME k with e|e<;>rw[e] at q
   .exact(MG q).symm.imp id λp=>⟨by rw [p.1,e];exact dV,by rw [p.1];exact p.2⟩
   .exact .inl q
  .exact .inr ⟨.tail _ q.1,q.2⟩
theorem MI{cells:List (Str×Addr)}{y:Str}:∀{names:List (Str×NameKind)}{acc:List (Str×Addr)},(∃a,acc.lookup y=some a)->∃a,(hL cells names acc).lookup y=some a
 |[],_,h=>h
 |(z,k)::r,acc,⟨a,h⟩=>by
  refine MI (names:=r) ?_
  unfold pU
  rcases k== .free with _|_
  .exact⟨a,h⟩
  .show ∃a,List.lookup y (_::acc)=some a
   rw[ha]
   rcases y==z with _|_
   .exact⟨a,h⟩
   .exact⟨_,rfl⟩
theorem MJ{cells:List (Str×Addr)}{y:Str}:∀{names:List (Str×NameKind)}{acc:List (Str×Addr)},(y,NameKind.free)∈names->∃a,(hL cells names acc).lookup y=some a
 |[],_,h=>nomatch h
 |(z,k)::r,acc,h=>by
  rcases List.mem_cons.mp h with e|h
  .obtain⟨e1,e2⟩:=Prod.mk.inj e
   rw[<-e1,<-e2]
   exact MI (names:=r) ⟨_,n2⟩
  .exact MJ (names:=r) h
section
variable {M:Model}
theorem aaj{scope:Scope}{globals:Addr}{cl:List (Str×Addr)}{qual:Str}{Q:Env->Shared->Prop}(h:Q (newEnv scope s.heap.objs.size globals (cellsFrom (s.heap.objs.size+1) scope.names cl) qual none .none (some env) builtinsNs) {s with heap:=pushCells (s.heap.push {cls:=.type "dict",data:=.dict #[]}) scope.names}):
  wpAny M A (newFunctionEnv scope globals cl [] qual none .none (some env)) Q E s:=by
 simp only[newFunctionEnv,Option.isSome_some,if_true]
 refine wpAny_bind (wpAny_alloc ?_)
 refine wpAny_bind (wpAny_layCells _ (λname kind cells=>by cases n3:kind==NameKind.cell<;>simp[n3]) _ _ _ _ ?_)
 rw[show ({s with heap:=s.heap.push {cls:=.type "dict",data:=.dict #[]}}:Shared).heap.objs.size=s.heap.objs.size+1 from kl ..]
 refine wpAny_bind ?_
 rw[zV]
 exact wpAny_pure (wpAny_pure h)
end
section
variable {b:Addr}
theorem FrR.congr(F:FrR prog w H g h env J ai)(e:∀y,a2 bb y=a2 J y):FrR prog w H g h env bb ai:=
 ⟨F.ns.to (λ_ e=>e) λy _ _ _ q=>⟨(e y).symm.trans q,λ_ _ _ e=>e⟩,λx a k=>(F.cl x a k).to (λ_ e=>e) λ_ _ _ q=>⟨(e x).symm.trans q,λ_ _ _ e=>e⟩,F.loc,F.sep,(e dM).trans F.dot⟩
theorem FrR.ng(F:FrR prog w H g h env J ai)(k:Chg ai b (.own dM) h h'):FrR prog w H g h' env J ai:=by
 have own:∀{y u o},a2 J y=some (u,o)->∀a,ai a=some (.own y)->∀o,h.get? a=some o->h'.get? a=some o:=λq a aw=>k.at aw λe=>aI (F.dot.symm.trans (Kz e▸q))
 refine⟨F.ns.to (k.at F.loc nofun) λy u o _ q=>⟨q,own q⟩,λx a e=>?_,F.loc,λa r e=>?_,F.dot⟩
 .have q:=F.cl x a e
  have e8:ai a=some (.cell x):=by obtain ⟨_,_,f,_⟩:=q;exact f
  exact q.to (k.at e8 nofun) λu o _ q=>⟨q,own q⟩
 .obtain⟨bU,bZ,o,dJ⟩:=F.sep a r e
  exact⟨bU,bZ,k.all a o dJ⟩
end
def pV(sc:Scope)(L:Addr)(cl:List (Str×Addr))(env:Env):Env:={newEnv sc L env.globals (cellsFrom (L+1) sc.names cl) env.qual none .none (some env) builtinsNs with scope:=relabel sc env}
noncomputable def uJ (b:Bool):NameKind->NameKind
 | .free=>cond b .cell .free
 |k=>k
theorem aak{b:Bool}{k:NameKind}(h:uJ b k= .local):k= .local:=by
 rcases k
 case «local»=>rfl
 case free=>rcases b with _|_<;>exact nomatch h
 all_goals exact nomatch h
theorem aal(b:Bool):uJ b .free= .cell\/uJ b .free= .free:=by
 rcases b with _|_
 .exact .inr rfl
 .exact .inl rfl
theorem lk_if{b:Bool}{i7 hb:NameKind}{r:List (Str×NameKind)}:List.lookup y ((if b=true then (y,i7) else (y,hb))::r)=some (cond b i7 hb):=by
 rcases b with _|_
 .rw[if_neg nofun];exact n2
 .rw[if_pos rfl];exact n2
theorem MK{y z:Str}{k:NameKind}{r:List (Str×NameKind)}(h:z≠y):List.lookup y ((z,k)::r)=List.lookup y r:=by
 rw[ha,beq_eq_false_iff_ne.mpr λe=>h e.symm]
theorem DW(env:Env){out:List (Str×NameKind)}{k:NameKind}:∀{names:List (Str×NameKind)},he x out names=true->lk names y=some k->
  (names.map λ(n,k)=>if (k==NameKind.free&&env.scope.kind== .function&&env.kindOf n==some .cell) then (n,NameKind.cell) else (n,k)).lookup y=some (uJ (env.scope.kind== .function&&env.kindOf y==some .cell) k)
 |[],_,h=>aI h
 |(z,q)::r,ap,h=>by
  have c:=xu ap
  rw[km]
  rcases eR (z=y) with e|e
  .rw[e,DQ] at h
   rw[<-Option.some.inj h,e]
   refine lk_if.trans ?_
   rcases q<;>rfl
  .rw[DR e] at h
   refine mg ?_ (DW env c.r h)
   dsimp only
   split<;>exact MK e
theorem ML(env:Env):∀{names:List (Str×NameKind)},lk names y=none->
  (names.map λ(n,k)=>if (k==NameKind.free&&env.scope.kind== .function&&env.kindOf n==some .cell) then (n,NameKind.cell) else (n,k)).lookup y=none
 |[],_=>rfl
 |(z,q)::r,h=>by
  rw[km]
  rcases eR (z=y) with e|e
  .rw[e,DQ] at h
   exact nomatch h
  .rw[DR e] at h
   refine mg ?_ (ML env h)
   dsimp only
   split<;>exact MK e
theorem MM{out names:List (Str×NameKind)}{acc:List (Str×Addr)}(h:he x out names=true)(hx:lk names x=some .cell):(cellsFrom n names acc).lookup x=some n:=by
 rw[(uI h hx n acc default).1];exact n2
inductive CellI (names:List (Str×NameKind)) (x y:Str) (n:Nat) (acc:List (Str×Addr)) (a:Addr):Prop
 |own (h:lk names x=some .cell) (e:y=x) (q:a=n)
 |out (h:acc.lookup y=some a)
theorem aam{out names:List (Str×NameKind)}{acc:List (Str×Addr)}(h:he x out names=true)(e:(cellsFrom n names acc).lookup y=some a):CellI names x y n acc a:=by
 rcases eR (lk names x=some .cell) with hx|hx
 .rw[(uI h hx n acc default).1] at e
  exact(MG e).elim (λp=> .own hx p.1 p.2.symm) .out
 .rw[(DU (DV h hx) n acc default).1] at e
  exact .out e
theorem aan{out names:List (Str×NameKind)}{acc:List (Str×Addr)}(h:he x out names=true)(e:∃a,acc.lookup y=some a):∃a,(cellsFrom n names acc).lookup y=some a:=by
 rcases eR (lk names x=some .cell) with hx|hx
 .rw[(uI h hx n acc default).1,ha]
  rcases y==x with _|_
  .exact e
  .exact⟨_,rfl⟩
 .rw[(DU (DV h hx) n acc default).1]
  exact e
theorem aao{c:Scope}{L:Addr}(N:EnvR c env)(aj:sc.kind= .function)(h:he x c.names sc.names=true):EnvR sc (pV sc L (hL env.cells sc.names []) env):=by
 have pW:∀{y k},lk sc.names y=some k->(pV sc L (hL env.cells sc.names []) env).kindOf y=some (uJ (env.scope.kind== .function&&env.kindOf y==some .cell) k):=λq=>DW env h q
 refine⟨aj,N.glob,N.blt,λy e=>pW e,λy e=>⟨pW e,?_⟩,λy e=>⟨?_,aan h (MJ (DT e))⟩,λy e=>pW e,λy k e=>⟨(n1 h e).amL,(n1 h e).cls⟩⟩
 .have aY:y=x:=(n1 h e).k
  rw[aY] at e |-
  exact⟨_,MM h e⟩
 .rw[pW e]
  exact(aal _).imp (congrArg some) (congrArg some)
def hM (ai:Addr->Option Ro) (D I L:Addr) (x:Str) (ap:Bool) (a:Addr):Option Ro:=
 cond (Nat.beq a L) (some .loc) (cond (Nat.beq a D||Nat.beq a I) (some (.own dM)) (cond (ap&&Nat.beq a (L+1)) (some (.cell x)) (ai a)))
theorem hn{a b:Nat}(h:a≠b):Nat.beq a b=false:=Bool.eq_false_iff.mpr λe=>h (ei e)
inductive RoI (ai:Addr->Option Ro) (D I L:Addr) (x:Str) (ap:Bool) (a:Addr) (r:Ro):Prop
 |loc (e:a=L)
 |own (e:a=D\/a=I)
 |cell (c:ap=true) (e:a=L+1)
 |old (e:ai a=some r)
theorem aap{D I L:Addr}{ap:Bool}{r:Ro}(h:hM ai D I L x ap a=some r):RoI ai D I L x ap a r:=by
 rcases eA h with ⟨e,_⟩|⟨_,h⟩
 .exact .loc (ei e)
 .rcases eA h with ⟨e,_⟩|⟨_,h⟩
  .exact .own (((f9 _ _).mp e).imp ei ei)
  .rcases eA h with ⟨e,_⟩|⟨_,h⟩
   .exact .cell (aK e).1 (ei (aK e).2)
   .exact .old h
structure CmpD4 (g:Gh) (h:Heap) (ai:Addr->Option Ro) (D I L:Addr) (ap:Bool):Prop where
 sD:Sep1 g h D
 sI:Sep1 g h I
 sL:Sep1 g h L
 sC:ap=true->Sep1 g h (L+1)
 pD:ai D=none
 pI:ai I=none
 pL:ai L=none
 pC:ai (L+1)=none
 d1:D≠L
 d2:I≠L
 d3:D≠L+1
 d4:I≠L+1
section
variable {D I L:Addr}{ap:Bool} (Z:CmpD4 g h ai D I L ap)
include Z
omit Z in
theorem aaq:hM ai D I L x ap L=some .loc:=by unfold hM;rw[jF];rfl
theorem CmpD4.rD:hM ai D I L x ap D=some (.own dM):=by unfold hM;rw[hn Z.d1,jF];rfl
theorem CmpD4.rI:hM ai D I L x ap I=some (.own dM):=by unfold hM;rw[hn Z.d2,jF,Bool.or_true];rfl
theorem CmpD4.rC(e:ap=true):hM ai D I L x ap (L+1)=some (.cell x):=by unfold hM;rw[hn (qS L),hn Z.d3.symm,hn Z.d4.symm,jF,e];rfl
theorem CmpD4.up{r:Ro}(e:ai a=some r):hM ai D I L x ap a=some r:=by
 have ne:∀{b},ai b=none->a≠b:=λq bq=>aI (q.symm.trans (bq▸e))
 unfold hM
 rw[hn (ne Z.pL),hn (ne Z.pD),hn (ne Z.pI),hn (ne Z.pC),Bool.and_false]
 exact e
theorem CmpD4.sep(q:ic g h ai):ic g h (hM ai D I L x ap):=λa r e=>by
 rcases aap e with e|e|⟨c,e⟩|e
 .exact e▸Z.sL
 .exact e.elim (λe=>e▸Z.sD) λe=>e▸Z.sI
 .exact e▸Z.sC c
 .exact q a r e
theorem CmpD4.hold{v:Value}{o:Bool}(q:Hold prog w H g h ai y v u o):Hold prog w H g h (hM ai D I L x ap) y v u o:=by
 rcases o with _|_
 .exact q
 .obtain⟨aa,a,ah,aC,bC⟩:=q
  exact⟨aa,a,ah,Z.up aC,bC⟩
end
def pX (J:am) (x:Str):am:=J.filter λp=> !a9 p.1 x
theorem DX{x:Str}:∀{J:am},a2 (pX J x) x=none
 |[]=>rfl
 |(z,s)::r=>by
  show a2 (List.filter _ ((z,s)::r)) x=none
  rw[qT]
  rcases e:a9 z x with _|_
  .show cond (a9 z x) _ _=none
   rw[e];exact DX (J:=r)
  .exact DX (J:=r)
theorem xv(h:y≠x):∀{J:am},a2 (pX J x) y=a2 J y
 |[]=>rfl
 |(z,s)::r=>by
  have bg:=xv h (J:=r)
  show a2 (List.filter _ ((z,s)::r)) y=cond (a9 z y) _ _
  rw[qT]
  rcases e:a9 z x with _|_
  .show cond (a9 z y) _ (a2 (pX r x) y)=_
   rw[bg]
  .rw[pO λq:z=y=>h (q▸sEq_iff.mp e)]
   exact bg
theorem DY{s:V×Bool}(h:a2 (pX J x) y=some s):y≠x/\a2 J y=some s:=by
 rcases eR (y=x) with e|e
 .rw[e,DX] at h
  exact nomatch h
 .exact⟨e,(xv e).symm.trans h⟩
section
variable {sc c:Scope}{D I L:Addr}{ao:Bool}
theorem aar(F:FrR prog w H g h env J ai)(N:EnvR c env)(pY:he x c.names sc.names=true)(Z:CmpD4 g h ai D I L ao)(aw:(hL env.cells sc.names []).lookup y=some a):
  FrCl prog w H g h (pV sc L (hL env.cells sc.names []) env) (pX J x) (hM ai D I L x ao) y a:=by
 rcases MH aw with q|⟨q,e⟩
 .exact aI q
 .have rz:lk c.names y=some .cell\/lk c.names y=some .free:=(n1 pY (uH pY q)).k
  obtain⟨b,uK⟩:∃b,env.cells.lookup y=some b:=rz.elim (λq=>(N.cell y q).2) λq=>(N.free y q).2
  have aas:env.kindOf y=some .cell\/env.kindOf y=some .free:=rz.elim (λq=> .inl (N.cell y q).1) λq=>(N.free y q).1
  rw[uK] at e
  rw[<-show b=a from e]
  obtain⟨v,aa,ah,aC⟩:=F.cl y b uK
  refine⟨v,aa,Z.up ah,λu o _ aY=>?_⟩
  obtain⟨z,bC,ee⟩:=aC u o aas (DY aY).2
  exact⟨z,bC,Z.hold ee⟩
theorem aat(MN:ao=true↔lk sc.names x=some .cell)(F:FrR prog w H g h env J ai)(N:EnvR c env)(pY:he x c.names sc.names=true)(fc:x≠dM){m:Str->Option Value}(av:h.Ns L m)(aau:ao=true->h.IsCell (L+1) none)(Z:CmpD4 g h ai D I L ao):
  FrR prog w H g h (pV sc L (hL env.cells sc.names []) env) (pX J x) (hM ai D I L x ao):=by
 refine⟨⟨m,av,λy u o aj aY=>?_⟩,λy a aw=>?_,aaq,Z.sep F.sep,(xv λe=>fc e.symm).trans F.dot⟩
 .obtain⟨uF,aY⟩:=DY aY
  have aj:((sc.names.map λ(n,k)=>if (k==NameKind.free&&env.scope.kind== .function&&env.kindOf n==some .cell) then (n,NameKind.cell) else (n,k)).lookup y)=some .local:=aj
  rcases e:lk sc.names y with _|k
  .rw[ML env e] at aj;exact nomatch aj
  .rw[DW env pY e] at aj
   rw[aak (Option.some.inj aj)] at e
   have q:y=x\/y=dM:=(n1 pY e).k
   exact q.elim (λq=>absurd q uF) λq=>aI (F.dot.symm.trans (q▸aY))
 .rcases aam pY (show (cellsFrom (L+1) sc.names (hL env.cells sc.names [])).lookup y=some a from aw) with ⟨hx,e,q⟩|q
  .rw[e,q]
   exact⟨none,aau (MN.mpr hx),Z.rC (MN.mpr hx),λu o _ aY=>absurd rfl (DY aY).1⟩
  .exact aar F N pY Z q
end
section
noncomputable def pZ(ifs:List Expr)(b:Bool)(env:Env):Sem Bool:=forIn ifs b λc r=>if r=true then do let ok <-isTrue c env (eval c env);pure (ForInStep.yield ok) else pure (ForInStep.yield r)
theorem MO{Q:Bool->Shared->Prop}(h:Q false s):∀(ifs:List Expr),wpAny (model prog w) A (pZ ifs false env) Q E s
 |[]=>wpAny_pure h
 |c::r=>by
  unfold pZ
  rw[oN]
  exact wpAny_bind (wpAny_pure (MO h r))
theorem aav{Q:Bool->Shared->Prop}{c:Expr}{r:List Expr}(h:wpAny (model prog w) A (isTrue c env (eval c env)) (λb s=>wpAny (model prog w) A (pZ r b env) Q E s) E s):
  wpAny (model prog w) A (pZ (c::r) true env) Q E s:=by
 unfold pZ
 rw[oN,if_pos rfl]
 exact wpAny_bind (wpAny_bind (wpAny_mono h (λ_ _ h=>wpAny_pure h) λ_ _ h=>h))
theorem DZ(a7:iS prog w G ta n)(R:Room A n)(N:EnvR c.sc env):
  ∀{ifs:List Expr}{H:T}{b:Bool}{O:T},gz (dR G n c J) .And ifs H=some (b,O)->O.cnt<=ba->∀{g:Gh}{s:Shared}{Q:Bool->Shared->Prop},g.ta=ta->Cfg prog w H g s.heap->FrR prog w H g s.heap env J ai->
  ToB prog w H g s O b Q->wpAny (model prog w) A (pZ ifs true env) Q E s
 |[],H,b,O,h,_,g,s,Q,T,C,F,ak=>by
  refine wpAny_pure ?_
  have k:Q b s:=by
   revert ak
   exact pI h (P:=λb O=>ToB prog w H g s O b Q->Q b s) λak=>ak g s.heap s.toks (.refl _ _) (.refl _) C
  rw[<-(Prod.mk.inj (Option.some.inj h)).1] at k
  exact k
 |e::es,H,b,O,h,ag,g,s,Q,T,C,F,ak=>by
  obtain⟨t,aD,aa,h⟩:=b1 h
  have cC:=rL aa C.ok.bld
  refine aav ?_
  rcases t with _|_
  .revert ag ak
   exact pI (show some (false,aD)=some (b,O) from h) (P:=λb O=>O.cnt<=ba->ToB prog w H g s O b Q->_) λag ak=>a7 c J e H _ _ aa ag A env ai g s _ E R T N C F λaV aB bh aR k₁ aZ=>MO (ak aV aB bh aR k₁ aZ) es
  .have h:gz (dR G n c J) .And es aD=some (b,O):=h
   have cA:=Dl h cC.2
   exact a7 c J e H _ _ aa (aT cA.1.cnt ag) A env ai g s _ E R T N C F λaV aB bh aR k₁ aZ=>DZ a7 R N h ag (aR.ta.trans T) aZ (F.ext k₁ aR aZ.bn) (ak.trans aR k₁)
theorem aaw(h:mz e=true)(env:Env):∀x,foldedSetIterable e env x=pure x:=by
 rcases e
 case Set=>exact c2 h
 all_goals exact λ_=>rfl
theorem MP{r:List V×T}(h:gA G n c J e H=some r)(env:Env):∀x,foldedSetIterable e env x=pure x:=by
 rcases n with _|n
 .exact aI h
 .replace h:ru G c (aN G n c J) e H (nF e)=some r:=h
  rcases q:nF e with _|a<;>rw[q] at h
  .obtain⟨_,_,h,_⟩:=b1 h
   exact aaw (mA h) env
  .obtain⟨_,_,e⟩:=Mz q
   rw[e];exact λ_=>rfl
theorem xw:∀{l:List V}{ds:List PyData}{u:V}{d:PyData},bX H l=some ds->bI H u=some d->bX H (l++[u])=some (ds++[d])
 |[],_,_,_,h,aQ=>by rw [<-Option.some.inj h];exact h9 aQ rfl
 |v::r,_,_,_,h,aQ=>by
  obtain⟨a,m,e,aw,av⟩:=fa h
  rw[e]
  exact h9 aw (xw av aQ)
theorem Gh.le.no(k:g.le au)(h:au.im a=none):g.im a=none:=by
 rcases e:g.im a with _|o
 .rfl
 .exact aI (h.symm.trans (k.im a o e))
theorem Gh.le.trans{g au hF:Gh}(a:g.le au)(b:au.le hF):g.le hF:=by
 refine⟨b.ta.trans a.ta,λc o e=>b.im c o (a.im c o e),?_⟩
 obtain⟨m,av⟩:=a.dd
 obtain⟨jl,ly⟩:=b.dd
 exact⟨m++jl,by rw [ly,av,iA]⟩
abbrev r0 (G:Gl) (n:Nat) (c:Cx) (sc:Scope) (J:am) (x:Str) (ifs:List Expr):V->T->Option (Bool×T):=λv H=>gz (dR G n {c with sc:=sc} ((x,v,false)::J)) .And ifs H
abbrev r1 (G:Gl) (n:Nat) (c:Cx) (sc:Scope) (J:am) (x:Str) (elt:Expr):V->T->Option (V×T):=λv H=>aN G n {c with sc:=sc} ((x,v,false)::J) elt H
theorem D0{ifs:List Expr}{elt:Expr}{l r:List V}(h:gR (r0 G n c sc J x ifs) (r1 G n c sc J x elt) l H=some (r,O))(aL:H.fA):H.bP O/\O.fA:=
 wO (λ_ _ _ _ h=>ub ((gT G n n (cq _)).t _ _) _ _ h) (λ_ _ _ _ h=>(gT G n n (cq _)).e _ _ _ _ _ _ h) _ _ h aL
end
structure NewL (cu:Heap) (g:Gh) (h:Heap) (D L:Addr):Prop where
 new:cu.get? L=none
 im:g.im L=none
 mu:L∉g.bW
 ne:L≠D
 ns:∃m,h.Ns L m
section
variable (prog:Program)(w:World)(G:Gl)(ta:Ta)
def xx(A:Around)(E:cI)(jZ:Option (Value->Sem Unit))(H:T)(g:Gh)(s:Shared)(O:T)(v:V)(Q:cI):Prop:=
 ∀au h' aF D L,Ext g s.heap au h'->H.bP O->Cfg prog w O au h'->NewD prog w O s.heap au h' D v->NewL s.heap au h' D L->compPost (model prog w) A E jZ Q (.ref D) L (.ok .next) {s with heap:=h',toks:=aF}
structure CmpF (A:Around) (n:Nat) (sc:Scope) (x:Str) (cv l:List V) (s:Shared) (g aV:Gh) (aD:T) (eC:Env) (ai:Addr->Option Ro) (D I:Addr) (cR:List Addr) (P:Nat->Value->Prop) (St:Nat->Heap->Prop):Prop where
 R:Room A n
 tq:g.ta=ta
 N:EnvR sc eC
 W:Walks prog w A I cR [I] cv.length P St
 zy:∀b∈cR,b=I\/∃o,aV.im b=some o
 at_:∀i v,i<cv.length->P i v->∃u,cv[i]? =some u/\Val prog w aD aV aV.im v u
 H8:∀i h,St i h->∃o,h.get? I=some o/\itCls o
 nI:s.heap.get? I=none
 nD:s.heap.get? D=none
 rI:ai I=some (.own dM)
 rD:ai D=some (.own dM)
 ne:D≠I
 xl:lk sc.names x=some .local\/lk sc.names x=some .cell
 xd:x≠dM
 nL:s.heap.get? eC.locals=none
 nX:∀b,lk sc.names x=some .cell->eC.cells.lookup x=some b->s.heap.get? b=none
 flat:jM l=true
inductive CmpIn (n:Nat) (c:Cx) (sc:Scope) (J:am) (x:Str) (ifs:List Expr) (elt:Expr) (cv l:List V) (O:T) (s:Shared) (g aV:Gh) (aD:T) (eC:Env) (ai:Addr->Option Ro) (D:Addr) (St:Nat->Heap->Prop) (k:Nat) (bQ:Shared):Prop
 |mk (h:Heap) (aF:Nat) (au:Gh) (cE:T) (cy:Array Value) (ds:List PyData) (done cK:List V) (bb:am) (i:Nat) (e:bQ={s with heap:=h,toks:=aF}) (gm:k=cv.length - i) (hi:i<=cv.length) (X:Ext g s.heap au h) (Gl:aV.le au) (ks:aD.bP cE) (C:Cfg prog w cE au h)
   (F:FrR prog w cE au h eC bb ai) (iO:∀y,y≠x->a2 bb y=a2 J y) (di:h.PlainList D cy) (r:RdL au.im cy.toList ds) (gG:bX cE done=some ds) (st:St i h) (ev:gR (r0 G n c sc J x ifs) (r1 G n c sc J x elt) (cv.drop i) cE=some (cK,O)) (ho:l=done++cK)
end
section
variable {ifs:List Expr}{elt:Expr}{cv l:List V}{g aV:Gh}{eC:Env}{D I:Addr}{cR:List Addr}{P:Nat->Value->Prop}{St:Nat->Heap->Prop}
theorem CmpF.keep(Z:CmpF prog w ta A n sc x cv l s g aV aD eC ai D I cR P St){cE:T}(Gl:aV.le au)(C:Cfg prog w cE au h){cD:Gh}{aB a8:Heap}(hI:I∉au.bW)(st:St i aB)(X:Ext au aB cD a8):St i a8:=
 Z.W.frame _ _ _ st λb ao o e=>X.old _ o e ((Z.zy b ao).elim (λq=>q▸hI) λq=>q.elim λb9 bq m=>aI ((C.tok.out _ m).symm.trans (Gl.im _ _ bq)))
theorem CmpF.ng(Z:CmpF prog w ta A n sc x cv l s g aV aD eC ai D I cR P St){b:Addr}{aB a8:Heap}(hI:I≠b)(h0:aV.im b=none)(st:St i aB)(k:∀a o,a≠b->aB.get? a=some o->a8.get? a=some o):St i a8:=
 Z.W.frame _ _ _ st λd aQ o e=>k d o ((Z.zy d aQ).elim (λq=>q▸hI) λq=>q.elim λ_ bq m=>aI (h0.symm.trans (m▸bq))) e
theorem CmpF.H4(Z:CmpF prog w ta A n sc x cv l s g aV aD eC ai D I cR P St){cE:T}(F:FrR prog w cE au h eC bb ai){b:Addr}(ao:b=eC.locals\/(lk sc.names x=some .cell/\eC.cells.lookup x=some b)):s.heap.get? b=none/\∃r,ai b=some r/\r≠ .own dM:=by
 rcases ao with e|⟨e1,e2⟩
 .rw[e];exact⟨Z.nL,_,F.loc,nofun⟩
 .obtain⟨_,_,q,_⟩:=F.cl x b e2
  exact⟨Z.nX b e1 e2,_,q,nofun⟩
theorem aax(h:n<=4096)(e:n=m+k):m<=4096:=aT (e▸eZ m k) h
theorem mL(h:m<=4096):m<=sizeLine:=aT h (by decide)
theorem aay{a r:List V}{y:V}(h:jM (a++y::r)=true):y.flat=true/\a.length<=4096:=by
 obtain⟨aa,ah⟩:=aK h
 rw[List.all_append] at aa
 exact⟨(aK (aK aa).2).1,aax (gd ah) (d5 ..)⟩
theorem anm{l:List V}(h:jM l=true):l.all V.flat=true:=(aK h).1
theorem aaz(iO:∀y,y≠x->a2 bb y=a2 J y)(y:Str):a2 ((x,u,false)::J) y=a2 (cb bb x u false) y:=by
 rcases eR (y=x) with e|e
 .rw[e,rget_same]
  show cond (a9 x x) _ _=_
  rw[pe];rfl
 .rw[ih e,iO y e]
  show cond (a9 x y) _ _=_
  rw[pO λq=>e q.symm];rfl
theorem MQ(e:y≠x):a2 ((x,u,false)::J) y=a2 J y:=by
 show cond (a9 x y) _ _=_
 rw[pO λq=>e q.symm];rfl
inductive CmpMid (prog:Program) (w:World) (n:Nat) (sc:Scope) (J:am) (x:Str) (cv:List V) (cE:T) (s:Shared) (g aV au:Gh) (eC:Env) (ai:Addr->Option Ro) (D:Addr) (St:Nat->Heap->Prop) (i:Nat) (u:V) (cy:Array Value) (bQ:Shared):Prop
 |mk (h:Heap) (aF:Nat) (e:bQ={s with heap:=h,toks:=aF}) (X:Ext g s.heap au h) (C:Cfg prog w cE au h) (F:FrR prog w cE au h eC ((x,u,false)::J) ai) (di:h.PlainList D cy) (st:St (i+1) h)
theorem aaA(Z:CmpF prog w ta A n sc x cv l s g aV aD eC ai D I cR P St){aF:Nat}{cE:T}{cy:Array Value}(hi:i<cv.length)(X:Ext g s.heap au h)(Gl:aV.le au)(ks:aD.bP cE)(C:Cfg prog w cE au h)(F:FrR prog w cE au h eC bb ai)(iO:∀y,y≠x->a2 bb y=a2 J y)(di:h.PlainList D cy)(st:St i h){hN:Pos}{Q:Option Value->Shared->Prop}{K:Unit->Shared->Prop}(ak:∀v bQ,wpAny (model prog w) A (assign (.Name x hN) eC v) K E bQ->Q (some v) bQ)(n4:∀bQ,CmpMid prog w n sc J x cv cE s g aV au eC ai D St i (cv[i]'hi) cy bQ->K () bQ):wpAny (model prog w) A (pyNext (.ref I)) Q E {s with heap:=h,toks:=aF}:=by
 obtain⟨aaB,aaC,uL⟩:=F.sep I _ Z.rI
 obtain⟨ano,anp,fY⟩:=F.sep D _ Z.rD
 refine Z.W.item i _ _ _ hi st λv a8 b8 D1 uM p0=>ak v _ ?_
 have xy:∀a o,a≠I->h.get? a=some o->a8.get? a=some o:=λa o ne e=>p0 a o (λq=>ne (dG q)) e
 obtain⟨u,bG,hV⟩:=Z.at_ i v hi D1
 rw[oI hi] at bG
 rw[<-Option.some.inj bG] at hV
 have cn:Ext g s.heap au a8:=X.own Z.nI xy
 have b3:Cfg prog w cE au a8:=C.own aaB aaC xy
 have D2:∃o,a8.get? I=some o:=by
  obtain⟨o,q,_⟩:=Z.H8 (i+1) a8 uM
  exact⟨o,q⟩
 have gj:=F.ng ⟨Z.rI,xy,D2⟩
 refine wpAny_assign_Name (mK (s:={s with heap:=a8,toks:=b8}) Z.N b3 gj Z.xl Z.xd (o:=false) (hV.mono ks Gl Gl.im) λbN gX Y=>n4 _ ?_)
 obtain⟨b,ao,jr,_⟩:=Y.b
 obtain⟨aaD,r,aq,ne⟩:=Z.H4 gj ao
 have ext:=SameBut.ext' jr
 exact⟨bN,gX,rfl,cn.own aaD ext,Y.C,Y.F.congr (aaz iO),(di.at λo e=>xy D o Z.ne e).at λo e=>ext D o (mJ Z.rD aq ne.symm) e,
  Z.ng (mJ Z.rI aq ne.symm) (Gl.no (gj.sep b r aq).im) uM ext⟩
theorem aaE(S:cx prog w G ta n)(a7:iS prog w G ta n)(Z:CmpF prog w ta A n sc x cv l s g aV aD eC ai D I cR P St)(ag:O.cnt<=ba){cE:T}{cy:Array Value}{ds:List PyData}{done cK:List V}{kI:Shared}(hi:i<cv.length)(gm:k=cv.length - i)(Gl:aV.le au)(ks:aD.bP cE)(r:RdL au.im cy.toList ds)(gG:bX cE done=some ds)(ev:gR (r0 G n c sc J x ifs) (r1 G n c sc J x elt) (cv[i]'hi::cv.drop (i+1)) cE=some (cK,O))(ho:l=done++cK)(M:CmpMid prog w n sc J x cv cE s g aV au eC ai D St i (cv[i]'hi) cy kI):
  wpAny (model prog w) A (pZ ifs true eC) (λok kI=>if ok=true then wpAny (model prog w) A (eval elt eC) (λv aaF=>wpAny (model prog w) A (call (.builtin "list.append") [.ref D,v]) (λ_ aaG=>∃m,m<k/\CmpIn prog w G n c sc J x ifs elt cv l O s g aV aD eC ai D St m aaG) E aaF) E kI
   else ∃m,m<k/\CmpIn prog w G n c sc J x ifs elt cv l O s g aV aD eC ai D St m kI) E kI:=by
 obtain⟨bN,gX,uN,hJ,fo,gH,MR,MS⟩:=M
 have lt:cv.length - (i+1)<k:=gm▸Im _ _ hi
 have kH:=hJ.ta.trans Z.tq
 have nI:=(gH.sep I _ Z.rI).mu
 have nD:=(gH.sep D _ Z.rD).mu
 rw[uN]
 obtain⟨b,n5,a1,ev⟩:=b1 ev
 have mt:=Dl a1 fo.ok.bld
 rcases b with _|_
 .have ev:gR (r0 G n c sc J x ifs) (r1 G n c sc J x elt) (cv.drop (i+1)) n5=some (cK,O):=ev
  have aaH:=D0 ev mt.2
  exact DZ (s:={s with heap:=bN,toks:=gX}) a7 Z.R Z.N a1 (aT aaH.1.cnt ag) kH fo gH λr2 b5 g0 hO mM f5=>⟨_,lt,b5,g0,r2,n5,cy,ds,done,cK,_,i+1,rfl,rfl,hi,hJ.trans hO,Gl.trans hO.le,ks.trans mM,f5,gH.ext mM hO f5.bn,λy e=>MQ e,
   MR.at λo e=>hO.old _ o e nD,r.mono hO.im,mq mM gG,Z.keep Gl fo nI MS hO,ev,ho⟩
 .obtain⟨y,MT,cL,ev⟩:=b1 ev
  obtain⟨a4,anq,aq,ev⟩:=b1 ev
  obtain⟨e1,e2⟩:=Prod.mk.inj (Option.some.inj ev)
  rw[e2] at aq
  rw[<-e1] at ho
  have MU:=mw cL mt.2
  have ce:=aT (D0 aq MU.2).1.cnt ag
  obtain⟨aaI,hY⟩:=aay (ho▸Z.flat)
  refine DZ (s:={s with heap:=bN,toks:=gX}) a7 Z.R Z.N a1 (aT MU.1.cnt ce) kH fo gH λr2 b5 g0 hO mM f5=>?_
  have mN:=gH.ext mM hO f5.bn
  refine S _ _ elt n5 y MT cL ce A eC ai r2 {s with heap:=b5,toks:=g0} _ _ Z.R (hO.ta.trans kH) Z.N f5 mN λaaJ mO r3 aaK xz MV xA aaL=>?_
  have xB:=mN.ext MV xz xA.bn
  have uO:=hO.trans xz
  have wg:=mM.trans MV
  obtain⟨d,aQ,hm⟩:=aaL.flat (λ_ _ e=>e) aaI
  have sD:=xB.sep D _ Z.rD
  refine wpAny_list_append_plain (s:={s with heap:=mO,toks:=r3}) (MR.at λo e=>uO.old _ o e nD) (λjs MW D3=>?_) (mL (f4 r gG▸hY))
  have ext:=SameBut.ext' D3
  exact⟨_,lt,js,r3,aaJ,MT,cy.push aaK,ds++[d],done++[y],a4,_,i+1,rfl,rfl,hi,(hJ.trans uO).own Z.nD ext,Gl.trans uO.le,ks.trans wg,xA.own sD.im sD.mu ext,xB.ng ⟨Z.rD,ext,let ⟨n,e⟩:=MW;⟨_,e⟩⟩,λy e=>MQ e,
   MW,by rw [oM];exact(r.mono uO.im).append (.cons hm .nil),xw (mq wg gG) aQ,Z.ng Z.ne.symm (Gl.no (gH.sep D _ Z.rD).im) (Z.keep Gl fo nI MS uO) ext,aq,by rw [iA];exact ho⟩
theorem aaM(S:cx prog w G ta n)(a7:iS prog w G ta n)(Z:CmpF prog w ta A n sc x cv l s g aV aD eC ai D I cR P St)(ag:O.cnt<=ba){R:Result->Shared->Prop}{it:Expr}{hN pos:Pos}(j0:∀au h' aF,Ext g s.heap au h'->aD.bP O->Cfg prog w O au h'->NewD prog w O s.heap au h' D (.list l)->NewL s.heap au h' D eC.locals->R (.ok .next) {s with heap:=h',toks:=aF}){bQ:Shared}(hI:CmpIn prog w G n c sc J x ifs elt cv l O s g aV aD eC ai D St k bQ):
  codeAny (model prog w) A (.compLoop (.ListComp elt [⟨.Name x hN,it,ifs,0⟩] sc pos) 0 (.ref I) (.ref D) eC) R bQ:=by
 refine codeAny_compLoop_tests (CmpIn prog w G n c sc J x ifs elt cv l O s g aV aD eC ai D St) (λk bQ hI=>?_) k hI
 obtain⟨h,aF,au,cE,cy,ds,done,cK,bb,i,e,gm,hi,X,Gl,ks,C,F,iO,di,r,gG,st,ev,ho⟩:=hI
 rw[e]
 rcases oP i cv.length with fJ|D4
 .rw[Ie fJ] at ev
  exact aaA Z fJ X Gl ks C F iO di st (λv bQ h=>h) λkI M=>aaE S a7 Z ag fJ gm Gl ks r gG ev ho M
 .have ig:=tu hi D4
  rw[ig,zO] at ev
  obtain⟨e1,e2⟩:=Prod.mk.inj (Option.some.inj ev)
  rw[<-e1,eh] at ho
  rw[e2] at ks C gG
  rw[ig] at st
  have sI:=F.sep I _ Z.rI
  have sD:=F.sep D _ Z.rD
  have sL:=F.sep _ _ F.loc
  refine Z.W.done _ _ _ st λa8 b8 p0=>?_
  have ext:∀a o,a≠I->h.get? a=some o->a8.get? a=some o:=λa o ne e=>p0 a o (λq=>ne (dG q)) e
  obtain⟨MX,hD⟩:=di
  have uP:=ext D _ Z.ne hD
  obtain⟨m,av⟩:=F.amT
  exact j0 au a8 b8 (X.own Z.nI ext) ks (C.own sI.im sI.mu ext) ⟨Z.nD,sD.im,sD.mu,⟨_,uP⟩,rfl,⟨D,cy,MX,ds,rfl,uP,r,ho▸gG⟩⟩ ⟨Z.nL,sL.im,sL.mu,mJ F.loc Z.rD nofun,⟨m,av.at' λo e=>ext _ o (mJ F.loc Z.rI nofun) e⟩⟩
structure NewC (aB h:Heap) (sc:Scope) (x:Str) (D L:Addr):Prop where
 keep:∀b o,aB.get? b=some o->h.get? b=some o
 no:∀b,D<=b->aB.get? b=none
 eL:L=D+1
 lt:D=aB.objs.size
 hD:h.PlainList D #[]
 ns:h.Ns L (λ_=>none)
 cell:lk sc.names x=some .cell->h.IsCell (L+1) none
noncomputable def n6:Obj:={cls:=.type "list",dict:=none,data:=.seq ([]:List Value).toArray}
noncomputable def xC:Obj:={cls:=.type "dict",data:=.dict #[]}
noncomputable def MY:Obj:={cls:=.type "cell",data:=.cell none}
theorem xD{b:Addr}(l:h.objs.size<=b):h.get? b=none:=by
 rcases e:h.get? b with _|o
 .rfl
 .exact absurd (gs e) (Nat.not_lt.mpr l)
theorem aaN{aB:Heap}{out:List (Str×NameKind)}(ap:he x out sc.names=true):NewC aB (pushCells ((aB.push n6).push xC) sc.names) sc x aB.objs.size (aB.push n6).objs.size:=by
 have k3:=λb o (e:(aB.push n6).get? b=some o)=>pushCells_keeps sc.names ((aB.push n6).push xC) b o (ey xC e)
 refine⟨λb o e=>k3 b o (ey n6 e),λb l=>xD l,kl ..,rfl,⟨0,k3 _ _ (ez aB rfl)⟩,(Heap.Ns.new (aB.push n6) (.type "dict")).keeps (pushCells_keeps _ _),λe=>?_⟩
 rw[(uI ap e 0 [] _).2]
 refine⟨MY,?_,rfl⟩
 have:=ez ((aB.push n6).push xC) (o:=MY) rfl
 rwa [kl (aB.push n6)] at this
end
section
variable {elt:Expr}{hN:Pos}{it:Expr}{ifs:List Expr}{pos p:Pos}{cv l:List V}{jZ:Option (Value->Sem Unit)}
structure CmpK (x:Str) (sc out:Scope):Prop where
 fn:sc.kind= .function
 nm:he x out.names sc.names=true
 xl:lk sc.names x=some .local\/lk sc.names x=some .cell
 d:x≠dM
theorem aaO(h:(match lk sc.names x with|some .local|some .cell=>true|_=>false)=true):lk sc.names x=some .local\/lk sc.names x=some .cell:=by
 rcases e:lk sc.names x with _|k<;>rw[e] at h
 .exact nomatch h
 .rcases k
  case «local»=>exact .inl rfl
  case cell=>exact .inr rfl
  all_goals exact c2 h
theorem aaP{k:ScopeKind}(h:(match k with| .function=>true|_=>false)=true):k= .function:=by
 rcases k
 case function=>rfl
 all_goals exact c2 h
theorem aaQ{sc out:Scope}(h:lj x sc out=true):CmpK x sc out:=by
 obtain⟨h,bC⟩:=aK h
 obtain⟨h,aC⟩:=aK h
 exact⟨aaP (aK h).1,(aK h).2,aaO aC,n0 bC⟩
theorem aaR(S:cx prog w G ta n)(a7:iS prog w G ta n)(ok:CmpK x sc c.sc)(R:Room A n)(T:g.ta=ta)(N:EnvR c.sc env)(F:FrR prog w H g s.heap env J ai)(a6:jM l=true)(ag:O.cnt<=ba){aV:Gh}{aB U:Heap}{bh:Nat}{xE:Value}{D L:Addr}(X:Ext g s.heap aV aB)(k:H.bP aD)(C:Cfg prog w aD aV aB)(ii:NewC aB U sc x D L)(ah:gR (r0 G n c sc J x ifs) (r1 G n c sc J x elt) cv aD=some (l,O))(K:xx prog w A E jZ H g s O (.list l) Q)(q:IterOk prog w A aD aV aB s.heap xE cv):
  codeAny (model prog w) A (.compStart (.ListComp elt [⟨.Name x hN,it,ifs,0⟩] sc pos) 0 xE (.ref D) (pV sc L (hL env.cells sc.names []) env)) (compPost (model prog w) A E jZ Q (.ref D) L) {s with heap:=U,toks:=bh}:=by
 obtain⟨I,cR,P,St,e,nI,⟨uL,uQ⟩,aaS,aaT,W,rU,fr,cl,vs⟩:=q
 have hJ:Ext g s.heap aV U:=X.trans (Ext.grow aV ii.keep)
 have fo:Cfg prog w aD aV U:=C.grow ii.keep
 have gH:=F.ext k hJ fo.bn
 have no:∀b,D<=b->s.heap.get? b=none:=λb l=>gU X.live (ii.no b l)
 have ph:∀{b},s.heap.get? b=none->ai b=none:=λ{b} l=>by
  rcases e:ai b with _|r
  .rfl
  .obtain⟨_,_,o,aG⟩:=F.sep b r e
   exact aI (l.symm.trans aG)
 have p1:∀{b},D<=b->(∃o,U.get? b=some o)->Sep1 aV U b:=λl o=>⟨C.g7 (ii.no _ l),C.l7 (ii.no _ l),o⟩
 have D5:I<D:=ii.lt▸gs uQ
 have r4:D<L:=ii.eL▸qU D
 have az:D<L+1:=qQ r4
 have aaU:∃o,U.get? D=some o:=let ⟨_,e⟩:=ii.hD;⟨_,e⟩
 have aaV:∃o,U.get? L=some o:=let ⟨o,_,_,e,_⟩:=ii.ns;⟨o,e⟩
 have hP:decide (lk sc.names x=some .cell)=true↔lk sc.names x=some .cell:=decide_eq_true_iff
 have D6:CmpD4 aV U ai D I L (decide (lk sc.names x=some .cell)):=⟨p1 (cq _) aaU,⟨aaS,aaT,⟨uL,ii.keep _ _ uQ⟩⟩,p1 (jH r4) aaV,λe=>p1 (jH az) (let ⟨o,e,_⟩:=ii.cell (hP.mp e);⟨o,e⟩),
  ph (no D (cq _)),ph nI,ph (no L (jH r4)),ph (no _ (jH az)),gP r4,gP (z0 D5 r4),gP az,gP (z0 D5 az)⟩
 have aaW:=aat hP gH N ok.nm ok.d ii.ns (λe=>ii.cell (hP.mp e)) D6
 have Z:CmpF prog w ta A n sc x cv l s g aV aD (pV sc L (hL env.cells sc.names []) env) (hM ai D I L x (decide (lk sc.names x=some .cell))) D I cR P St:=
  ⟨R,T,aao N ok.fn ok.nm,W,fr,vs,cl,nI,no D (cq _),D6.rI,D6.rD,(gP D5).symm,ok.xl,ok.d,no L (jH r4),λb e q=>no b (by
   rw[show b=L+1 from (Option.some.inj ((MM (acc:=hL env.cells sc.names []) (n:=L+1) ok.nm e).symm.trans q)).symm]
   exact jH az),a6⟩
 have st:St 0 U:=W.frame _ _ _ rU λb _ o e=>ii.keep b o e
 have MZ:codeAny (model prog w) A (.compLoop (.ListComp elt [⟨.Name x hN,it,ifs,0⟩] sc pos) 0 (.ref I) (.ref D) (pV sc L (hL env.cells sc.names []) env)) (compPost (model prog w) A E jZ Q (.ref D) L) {s with heap:=U,toks:=bh}:=
  aaM S a7 Z ag (λau h' aF p2 gk ct D7 NL=>K au h' aF D L p2 (k.trans gk) ct D7 NL) (k:=cv.length)
   ⟨U,bh,aV,aD,#[],[],[],l,pX J x,0,rfl,rfl,iB _,hJ,⟨rfl,λ_ _ e=>e,[],(eh _).symm⟩,.refl _,fo,aaW,λy aY=>xv aY,ii.hD,.nil,rfl,st,ah,rfl⟩
 rw[e]
 exact codeAny_compStart_list MZ (W.self 0 _ _ _ st MZ)
theorem aaX(S:cx prog w G ta n)(a7:iS prog w G ta n)(p3:rW prog w G ta n)(mP:lj x sc c.sc=true)(aa:gA G n c J it H=some (cv,aD))(ah:gR (r0 G n c sc J x ifs) (r1 G n c sc J x elt) cv aD=some (l,O))(a6:jM l=true)(ag:O.cnt<=ba)(R:Room A n)(T:g.ta=ta)(N:EnvR c.sc env)(C:Cfg prog w H g s.heap)(F:FrR prog w H g s.heap env J ai)(K:xx prog w A E jZ H g s O (.list l) Q):
  wpAny (model prog w) A (comprehension (.ListComp elt [⟨.Name x hN,it,ifs,0⟩] sc pos) sc env p (newList []) false (eval it env) jZ) Q E s:=by
 have ok:=aaQ mP
 have cC:=(gT G n n (cq _)).i c J it H _ _ aa C.ok.bld
 have cA:=D0 ah cC.2
 refine wpAny_comprehension_free rfl (MP aa env) (aai λy av=>?_) ok.fn (λy aY e=>?_) ?_
 .have q:lk c.sc.names y=some .cell\/lk c.sc.names y=some .free:=(n1 ok.nm (uH ok.nm av)).k
  exact q.elim (λq=>(N.cell y q).2) λq=>(N.free y q).2
 .rw[<-rH,<-e];exact uH ok.nm aY
 refine p3 c J it H cv aD aa (aT cA.1.cnt ag) A env ai g s _ E R T N C F λaV aB bh xE aR k₁ aZ D8=>?_
 exact wpAny_newObj_type (aaj (aaR S a7 ok R T N F a6 ag aR k₁ aZ (aaN ok.nm) ah K D8))
end
section
variable (prog:Program)(w:World)(G:Gl)(ta:Ta)
def mQ(n:Nat):Prop:=∀(c:Cx)(J:am)(elt:Expr)(gens:List Comprehension)(sc:Scope)(pos p:Pos)(H:T)(v:V)(O:T),aN G n c J (.ListComp elt gens sc pos) H=some (v,O)->O.cnt<=ba->
 ∀(jZ:Option (Value->Sem Unit))(A:Around)(env:Env)(ai:Addr->Option Ro)(g:Gh)(s:Shared)(Q:cI)(E:cI),Room A n->g.ta=ta->EnvR c.sc env->Cfg prog w H g s.heap->FrR prog w H g s.heap env J ai->
  xx prog w A E jZ H g s O v Q->firstAsync gens=false/\wpAny (model prog w) A (comprehension (.ListComp elt gens sc pos) sc env p (newList []) false (firstIter gens env) jZ) Q E s
def r5(n:Nat):Prop:=∀(c:Cx)(J:am)(e:Expr)(H:T)(v:V)(O:T),ll e=true->aN G n c J e H=some (v,O)->O.cnt<=ba->
 ∀(A:Around)(env:Env)(ai:Addr->Option Ro)(g:Gh)(s:Shared)(Q:cI)(E:cI),Room A n->g.ta=ta->EnvR c.sc env->Cfg prog w H g s.heap->FrR prog w H g s.heap env J ai->
  lL prog w H g s O v Q->wpAny (model prog w) A (eval e env) Q E s
end
section
theorem aaY{nH:List Comprehension}{q:Gen}(h:JP nH=some q):∃hN,nH=[⟨.Name q.x hN,q.it,q.ifs,0⟩]:=by
 rcases nH with _|⟨⟨t,it,ifs,a⟩,_|_⟩
 .exact aI h
 .obtain⟨x,aa,h⟩:=bD h
  obtain⟨ah,h⟩:=br h
  obtain⟨hN,e⟩:=jS aa
  have e:t= .Name x hN:=e
  have ah:a=0:=iEq_iff.mp ah
  rw[e,ah]
  exact gb h (P:=λq:Gen=>∃aaZ,[(⟨.Name x hN,it,ifs,0⟩:Comprehension)]=[⟨.Name q.x aaZ,q.it,q.ifs,0⟩]) ⟨hN,rfl⟩
 .exact aI h
theorem ab0(S:cx prog w G ta n)(a7:iS prog w G ta n)(p3:rW prog w G ta n):mQ prog w G ta (n+1):=by
 intro c J elt gens sc pos p H v O h ag jZ A env ai g s Q E R T N C F K
 obtain⟨q,e,h⟩:=bD h
 obtain⟨mP,h⟩:=br h
 obtain⟨cv,aD,aa,h⟩:=b1 h
 obtain⟨l,bS,ah,h⟩:=b1 h
 obtain⟨a6,h⟩:=br h
 obtain⟨hN,e⟩:=aaY e
 rw[e]
 revert ag K
 exact pI h (P:=λv O=>O.cnt<=ba->xx prog w A E jZ H g s O v Q->_) λag K=>⟨rfl,aaX S a7 p3 mP aa ah a6 ag (R.less (cG n)) T N C F K⟩
theorem NewD.ng{cu h h':Heap}{D L:Addr}{v:V}(N:NewD prog w O cu g h D v)(ne:L≠D)(ext:∀a o,a≠L->h.get? a=some o->h'.get? a=some o):NewD prog w O cu g h' D v:=by
 obtain⟨n,i,m,⟨o,aG⟩,c,k⟩:=N
 exact⟨n,i,m,⟨o,ext D o ne.symm aG⟩,c,k.seen (.refl O) (λ_ _ e=>e) (λo e=>ext D o ne.symm e) c⟩
theorem M0(X:mQ prog w G ta n){elt:Expr}{gens:List Comprehension}{pos:Pos}{v:V}(h:aN G n c J (.ListComp elt gens sc pos) H=some (v,O))(ag:O.cnt<=ba)(A:Around)(env:Env)(ai:Addr->Option Ro)(g:Gh)(s:Shared)(Q:cI)(E:cI)(R:Room A n)(T:g.ta=ta)(N:EnvR c.sc env)(C:Cfg prog w H g s.heap)(F:FrR prog w H g s.heap env J ai)(ak:lL prog w H g s O v Q):wpAny (model prog w) A (eval (.ListComp elt gens sc pos) env) Q E s:=by
 obtain⟨fM,k⟩:=X c J elt gens sc pos (firstIterPos gens pos) H v O h ag none A env ai g s Q E R T N C F λau h' aF D L X k ct D7 NL=>by
  obtain⟨m,av⟩:=NL.ns
  exact⟨m,av,λjP aJ=>ak au jP aF D (X.own NL.new (SameBut.ext' aJ)) k (ct.own NL.im NL.mu (SameBut.ext' aJ)) (D7.ng NL.ne (SameBut.ext' aJ))⟩
 rw[eval_ListComp,fM]
 exact k
theorem ab1(X:mQ prog w G ta (n+1)):Me prog w G ta n:=λ_ _ _ _ _ _ _ _ _ h ag A env ai g s Q E R T N C F ak=>M0 X h ag A env ai g s Q E R T N C F ak.own
theorem ab2(S:cx prog w G ta n){es:List Expr}{l:List V}{v:V}(h:dz (aN G n c J) es H=some (l,aD))(a6:jM l=true)(e:some (V.list l,aD)=some (v,O))(ag:O.cnt<=ba)(bz:Room A n)(T:g.ta=ta)(N:EnvR c.sc env)(C:Cfg prog w H g s.heap)(F:FrR prog w H g s.heap env J ai)(ak:lL prog w H g s O v Q):
  wpAny (model prog w) A (eval (.List es p) env) Q E s:=by
 revert ag ak
 refine pI e (P:=λv O=>O.cnt<=ba->lL prog w H g s O v Q->_) λag ak=>?_
 refine wpAny_List_spliced (mB S bz N h ag T C F λau h' aF vs X k ct V=>?_)
 obtain⟨ds,bU,bZ⟩:=V.flat (aK a6).1
 have keep:∀a o,h'.get? a=some o->(h'.push (listOf vs.toArray 0)).get? a=some o:=λa o e=>ey _ e
 have hD:(h'.push (listOf vs.toArray 0)).get? h'.objs.size=some (listOf vs.toArray 0):=ez _ rfl
 have no:=ji h'
 exact⟨pl (V.length▸gd (aK a6).2),ak au _ aF _ (X.trans (Ext.grow au keep)) k (ct.grow keep) ⟨gU X.live no,ct.g7 no,ct.l7 no,⟨_,hD⟩,rfl,⟨_,vs.toArray,0,ds,rfl,hD,bZ,bU⟩⟩⟩
inductive DispI (e:Expr):Prop
 |comp (elt:Expr) (gens:List Comprehension) (sc:Scope) (pos:Pos) (h:e= .ListComp elt gens sc pos)
 |list (es:List Expr) (p:Pos) (h:e= .List es p)
 |dict (ks:List (Option Expr)) (vs:List Expr) (p:Pos) (h:e= .Dict ks vs p)
theorem ab3(h:ll e=true):DispI e:=by
 rcases e
 case ListComp=>exact .comp _ _ _ _ rfl
 case List=>exact .list _ _ rfl
 case Dict=>exact .dict _ _ _ rfl
 all_goals exact c2 h
theorem ab4(S:cx prog w G ta n)(X:mQ prog w G ta (n+1)):r5 prog w G ta (n+1):=by
 intro c J e H v O aQ h ag A env ai g s Q E R T N C F ak
 have bz:=R.less (cG n)
 rcases ab3 aQ with ⟨elt,gens,sc,pos,e⟩|⟨es,p,e⟩|⟨ks,vs,p,e⟩<;>rw[e] at h |-
 .exact M0 X h ag A env ai g s Q E R T N C F ak
 .obtain⟨l,aD,aa,h⟩:=b1 h
  exact ab2 S aa (br h).1 (br h).2 ag bz T N C F ak
 .exact Ms S h ag bz T N C F ak
end
theorem M1{t:Expr}{cO:List Expr}(h:JO t=some cO):∃k p,t= .Tuple cO k p:=by
 rcases t
 case Tuple es k p=>exact gb h (P:=λcO=>∃gk hK,Expr.Tuple es k p= .Tuple cO gk hK) ⟨k,p,rfl⟩
 all_goals exact aI h
theorem n7(h:d6 c x=true):(lk c.sc.names x=some .local\/lk c.sc.names x=some .cell)/\x≠dM:=by
 unfold d6 at h
 rcases e:lk c.sc.names x with _|k<;>rw[e] at h
 .exact nomatch h
 .rcases k
  case «local»=>exact⟨.inl rfl,n0 h⟩
  case cell=>exact⟨.inr rfl,n0 h⟩
  all_goals exact nomatch h
theorem OwnAt.keep(p:OwnAt env h x a)(k:∀b o,h.get? b=some o->h'.get? b=some o):OwnAt env h' x a:=by
 rcases p with ⟨q,m,⟨o,es,ca,aa,r⟩,ah⟩|⟨q,c,aa,o,ah,aC⟩
 .exact .loc q m ⟨o,es,ca,k _ _ aa,r⟩ ah
 .exact .cell q c aa ⟨o,k _ _ ah,aC⟩
section
theorem OwnAt.step{a b:Addr}(p:OwnAt env h x a)(F:FrR prog w H g h env J ai)(ao:∀r,ai b=some r->∃z,r= .own z)(aJ:∀a o,a≠b->h.get? a=some o->h'.get? a=some o):OwnAt env h' x a:=
 p.to F (λo=>aJ _ o λe=>(ao .loc (e▸F.loc)).elim λ_ q=>nomatch q) λ_ ap o=>aJ _ o λe=>(ao (.cell x) (e▸ap)).elim λ_ q=>nomatch q
theorem FrR.apart(F:FrR prog w H g h env J ai){b:Addr}(ao:ai b=none)(aJ:∀a o,a≠b->h.get? a=some o->h'.get? a=some o):FrR prog w H g h' env J ai:=by
 have at_:∀{a r},ai a=some r->∀o,h.get? a=some o->h'.get? a=some o:=λe o=>aJ _ o λq=>aI (ao.symm.trans (q▸e))
 refine⟨F.ns.to (at_ F.loc) λy u o _ q=>⟨q,λ_=>at_⟩,λx a e=>?_,F.loc,λa r e=>?_,F.dot⟩
 .have q:=F.cl x a e
  have e8:ai a=some (.cell x):=by obtain ⟨_,_,f,_⟩:=q;exact f
  exact q.to (at_ e8) λu o _ q=>⟨q,λ_=>at_⟩
 .obtain⟨dB,d9,o,D9⟩:=F.sep a r e
  exact⟨dB,d9,o,at_ e o D9⟩
theorem ExtS.own{jo g:Gh}{cu h h':Heap}(X:ExtS ai jo cu g h){b:Addr}(ao:cu.get? b=none)(aJ:∀a o,a≠b->h.get? a=some o->h'.get? a=some o):ExtS ai jo cu g h':=by
 have ne:∀a o,cu.get? a=some o->a≠b:=λa o e q=>aI (ao.symm.trans (q▸e))
 exact⟨X.ta,X.im,X.new,λa o e m f=>aJ a o (ne a o e) (X.old a o e m f),X.dd,λa o e=>(X.live a o e).elim λb9 gc=>⟨b9,aJ a b9 (ne a o e) gc⟩⟩
theorem ExtS.refl(ai:Addr->Option Ro)(g:Gh)(h:Heap):ExtS ai g h g h:=(Ext.refl g h).toS ai
theorem ExtS.trans'{g au hF:Gh}{h h' jP:Heap}(x:ExtS ai g h au h')(y:ExtS ai au h' hF jP):ExtS ai g h hF jP:=x.trans y (.refl ai h)
theorem M2{c:Cx}{env:Env}:∀{cO:List Expr}{aU:List V}{J bb:am},tZ c cO aU J=some bb->(assignEach cO env).length=aU.length/\(assignEach cO env).findIdx? (·.1)=none
 |[],aU,J,bb,ao=>by
  rcases aU with _|_
  .exact⟨rfl,rfl⟩
  .exact aI ao
 |t::cO,aU,J,bb,ao=>by
  obtain⟨x,e,ao⟩:=bD ao
  rcases aU with _|⟨u,aU⟩
  .exact aI ao
  .obtain⟨p,e⟩:=jS e
   obtain⟨aa,ah⟩:=M2 (env:=env) (br ao).2
   rw[e]
   refine⟨congrArg Nat.succ aa,?_⟩
   show ((false,assign (.Name x p) env)::assignEach cO env).findIdx? (·.1)=none
   rw[List.findIdx?_cons,ah];rfl
structure Took (prog:Program) (w:World) (H:T) (g:Gh) (env:Env) (bb:am) (ai:Addr->Option Ro) (ab5:Str->Bool) (h h':Heap):Prop where
 X:ExtS ai g h g h'
 C:Cfg prog w H g h'
 F:FrR prog w H g h' env bb ai
 st:∀y a,ab5 y=false->OwnAt env h y a->OwnAt env h' y a
theorem gI{a b:Bool}(h:(a||b)=false):a=false/\b=false:=by
 rcases a with _|_
 .exact⟨rfl,h⟩
 .exact nomatch h
theorem n8(h:a9 y x=false):y≠x:=λe=>by rw [e,pe] at h;exact nomatch h
theorem M3{c:Cx}{A:Around}{E:cI}{env:Env}{H:T}{g:Gh}{ai:Addr->Option Ro}(N:EnvR c.sc env):∀{cO:List Expr}{aU:List V}{J bb:am}{vs:List Value}{s:Shared}{Q:Unit->Shared->Prop},tZ c cO aU J=some bb->
  Cfg prog w H g s.heap->FrR prog w H g s.heap env J ai->Vals prog w H g vs aU->(∀h' aF,Took prog w H g env bb ai (λy=>cO.any λe=>JL y (ek e)) s.heap h'->Q () {s with heap:=h',toks:=aF})->
  wpAny (model prog w) A (assignInOrder ((assignEach cO env).map (·.2)) vs) Q E s
 |[],aU,J,bb,vs,s,Q,ao,C,F,V,ak=>by
  rcases aU with _|_
  .rw[V.dat]
   exact wpAny_pure (ak s.heap s.toks ⟨.refl ..,C,Option.some.inj ao▸F,λ_ _ _ q=>q⟩)
  .exact aI ao
 |t::cO,aU,J,bb,vs,s,Q,ao,C,F,V,ak=>by
  obtain⟨x,e,ao⟩:=bD ao
  rcases aU with _|⟨u,aU⟩
  .exact aI ao
  .obtain⟨p,e⟩:=jS e
   obtain⟨ap,ao⟩:=br ao
   obtain⟨hx,fc⟩:=n7 (aK ap).1
   obtain⟨v,vs,bq,a,r⟩:=V.dat
   rw[bq]
   rw[e] at ak |-
   show wpAny _ A (do holding vs (assign (.Name x p) env v);assignInOrder ((assignEach cO env).map (·.2)) vs) Q E s
   refine wpAny_bind (wpAny_holding (wpAny_assign_Name (mK N C F hx fc (o:=false) a λaB bh Y=>?_)))
   exact M3 (s:={s with heap:=aB,toks:=bh}) N ao Y.C Y.F r λa8 b8 Z=>ak a8 b8 ⟨Y.X.trans' Z.X,Z.C,Z.F,λy a aY q=>Z.st y a (gI aY).2 (Y.st y a (n8 (gI aY).1) q)⟩
theorem ab6(R:Room A n)(N:EnvR c.sc env){t:Expr}{v:Value}{Q:Unit->Shared->Prop}(ao:li c t u J=some bb)(C:Cfg prog w H g s.heap)(F:FrR prog w H g s.heap env J ai)(V:Val prog w H g g.im v u)(ak:∀h' aF,Took prog w H g env bb ai (λy=>o7 y t) s.heap h'->Q () {s with heap:=h',toks:=aF}):wpAny (model prog w) A (assign t env v) Q E s:=by
 unfold li at ao
 rcases e:ek t with _|x<;>rw[e] at ao
 .obtain⟨cO,e1,ao⟩:=bD ao
  obtain⟨aU,e2,ao⟩:=bD ao
  obtain⟨k,p,e1⟩:=M1 e1
  rw[rv e2] at V
  rw[e1] at ak |-
  obtain⟨a,o,vs,m,ds,e,aG,Dj,aQ,aq,ap⟩:=V.gO
  obtain⟨cg,ch⟩:=M2 (env:=env) ao
  rw[e]
  refine wpAny_assign_Tuple R.handled ⟨o,C.bn _ _ aG,Dj,m,aQ⟩ (cg.trans (f4 aq ap).symm) ch λaB aj=>?_
  have keep:∀b o,s.heap.get? b=some o->aB.get? b=some o:=λb o e=>aj b o (gP (gs e)) e
  have aZ:=C.grow keep
  exact M3 (s:={s with heap:=aB}) N ao aZ (F.ext (.refl _) (Ext.grow g keep) aZ.bn) (Vals.H2 ap aq) λa8 b8 Z=>ak a8 b8 ⟨((Ext.grow g keep).toS ai).trans' Z.X,Z.C,Z.F,λy a aY q=>Z.st y a aY (q.keep keep)⟩
 .obtain⟨p,e⟩:=jS e
  rw[e] at ao ak |-
  obtain⟨y,e,ao⟩:=bD ao
  obtain⟨ap,ao⟩:=br ao
  rw[<-Option.some.inj e] at ap ao
  obtain⟨hx,fc⟩:=n7 (aK ap).1
  exact wpAny_assign_Name (mK N C F hx fc (o:=false) V λaB bh Y=>ak aB bh ⟨Y.X,Y.C,Option.some.inj ao▸Y.F,λy a aY q=>Y.st y a (n8 aY) q⟩)
theorem ab7{cO:List Expr}{I a:Addr}{Q:Unit->Shared->Prop}{o:Obj}(aG:s.heap.get? I=some o)(ap:itCls o)(ak:Q () s):wpAny (model prog w) A (letOwnedTupleGo (.Tuple cO k p) (.ref I) (.ref a)) Q E s:=by
 obtain⟨n,vs,c,d,e⟩:=ap
 refine wpAny_bind (wpAny_load aG ?_)
 rw[c,d]
 show wpAny _ A (if (ownIts.contains n&&vs[0]? ==some (rawInt a))=true then _ else _) Q E s
 rw[e,Bool.false_and,if_neg nofun]
 exact wpAny_pure ak
theorem ab8{t:Expr}{I:Addr}{v:Value}{Q:Unit->Shared->Prop}{o:Obj}(ao:li c t u J=some bb)(V:Val prog w H g g.im v u)(aG:s.heap.get? I=some o)(ap:itCls o)(ak:Q () s):wpAny (model prog w) A (letOwnedTupleGo t (.ref I) v) Q E s:=by
 unfold li at ao
 rcases e:ek t with _|x<;>rw[e] at ao
 .obtain⟨cO,e1,ao⟩:=bD ao
  obtain⟨aU,e2,ao⟩:=bD ao
  obtain⟨k,p,e1⟩:=M1 e1
  rw[rv e2] at V
  obtain⟨a,o,vs,m,ds,e,_⟩:=V.gO
  rw[e1,e]
  exact ab7 aG ap ak
 .obtain⟨p,e⟩:=jS e
  rw[e]
  exact wpAny_pure ak
end
section
variable (prog:Program)(w:World)(G:Gl)(ta:Ta)
def hQ(n:Nat)(c:Cx)(J:am)(cB:List Stmt)(H:T)(bw:Fl)(bb:am)(O:T):Prop:=
 ∀(A:Around)(env:Env)(ai:Addr->Option Ro)(g:Gh)(s:Shared)(Q:Flow->Shared->Prop)(E:cI),
  Room A n->g.ta=ta->EnvR c.sc env->Cfg prog w H g s.heap->FrR prog w H g s.heap env J ai->lG prog w ai H g s env cB bb O bw Q->wpAny (model prog w) A (execs cB env) Q E s
structure After (ai:Addr->Option Ro) (H:T) (g:Gh) (env:Env) (st:Stmt) (h:Heap) (c8:am) (aD:T) (e5:Addr->Option Ro) (aV:Gh) (aB:Heap):Prop where
 X:ExtS ai g h aV aB
 k:H.bP aD
 C:Cfg prog w aD aV aB
 Gw:Grow ai h e5
 F:FrR prog w aD aV aB env c8 e5
 st:∀y a,fV y 12 st=false->OwnAt env h y a->OwnAt env aB y a
end
theorem Ea{f j1:Stmt->Bool}(k:∀{s},f s=false->j1 s=false):∀{l:List Stmt},l.any f=false->l.any j1=false
 |[],_=>rfl
 |_::_,h=>(qN).mpr ⟨k (gI h).1,Ea k (gI h).2⟩
theorem uR{a b:Bool}(h:a=false)(k:b=false):(a||b)=false:=by rw [h,k];rfl
theorem M4:∀(n:Nat){s:Stmt},fV y n s=false->fV y (n+1) s=false
 |0,s,h=>nomatch h
 |n+1,s,h=>by
  have up:∀{l:List Stmt},l.any (fV y n)=false->l.any (fV y (n+1))=false:=Ea (M4 n)
  rcases s
  case If=>exact uR (up (gI h).1) (up (gI h).2)
  case For=>exact uR (uR (gI (gI h).1).1 (up (gI (gI h).1).2)) (up (gI h).2)
  all_goals exact h
theorem Eb{l:List Stmt}(h:l.any (fV y 11)=false):kv y l=false:=Ea (M4 11) h
theorem Ec{st:Stmt}(h:kv y (st::bu)=false):fV y 12 st=false/\kv y bu=false:=gI h
section
theorem xF(N:EnvR sc env):interactive env=false:=by unfold interactive;rw[N.kind];rfl
theorem xG(h:pa e=false)(line:Nat)(env:Env):swapsWith e none line env=pure false:=by
 rcases e
 case ListComp=>exact nomatch h
 case SetComp=>exact nomatch h
 case DictComp=>exact nomatch h
 all_goals rfl
theorem xH(h:mz e=true)(t:Expr)(a1:ek t=none)(line:Nat)(env:Env):swapsWith e (some t) line env=pure false:=by
 rcases e
 case SetComp=>exact nomatch h
 case DictComp=>exact nomatch h
 case ListComp=>
  rcases t
  case Name=>exact nomatch a1
  all_goals rfl
 all_goals rfl
theorem lO{cB:List Stmt}{bw:Fl}(h:bv G n c J cB H=some (bw,bb,O))(aL:H.fA):H.bP O/\O.fA:=(gT G n n (cq _)).s c J cB H _ _ _ h aL
theorem mR(cM:fb prog w G ta n){c8 bb:am}{st:Stmt}{bw:Fl}(h:bv G n c c8 bu aD=some (bw,bb,O))(ag:O.cnt<=ba){ai e5:Addr->Option Ro}{g aV:Gh}{aB:Heap}{bh:Nat}{Q:Flow->Shared->Prop}(R:Room A n)(T:g.ta=ta)(N:EnvR c.sc env)(Z:After prog w ai H g env st s.heap c8 aD e5 aV aB)(ak:lG prog w ai H g s env (st::bu) bb O bw Q):wpAny (model prog w) A (execs bu env) Q E {s with heap:=aB,toks:=bh}:=
 cM c c8 bu aD bw bb O h ag A env e5 aV {s with heap:=aB,toks:=bh} Q E R (Z.X.ta.trans T) N Z.C Z.F λau h' aF et f p2 gk ct uS iP Fl St=>
  ak au h' aF et f (Z.X.trans p2 Z.Gw) (Z.k.trans gk) ct (Z.Gw.trans Z.X uS) iP Fl λy a aY q=>St y a (Ec aY).2 (Z.st y a (Ec aY).1 q)
theorem M5{vs:Array Value}{di:Sem Bool}{Q:Value×List Value->Shared->Prop}(aG:s.heap.get? a=some (listOf vs n))(ak:Q (.builtin "list.append",[.ref a]) s):
  wpAny (model prog w) A (getMethod (.ref a) jd di) Q E s:=
 getMethod_builtin (T:="list") ⟨_,aG,rfl⟩ Ii PySem.F.slot_list_append PySem.F.type_list_append (λb e=>Value.ref.inj e▸⟨_,aG,rfl⟩) ak
theorem ab9{vs:Array Value}{di:Sem Bool}{Q:Value×List Value->Shared->Prop}(aG:s.heap.get? a=some (listOf vs n))(ak:Q (.builtin "list.extend",[.ref a]) s):
  wpAny (model prog w) A (getMethod (.ref a) wu di) Q E s:=
 getMethod_builtin (T:="list") ⟨_,aG,rfl⟩ Ii Ig PySem.F.type_list_extend (λb e=>Value.ref.inj e▸⟨_,aG,rfl⟩) ak
structure OwnNow (prog:Program) (w:World) (H:T) (g:Gh) (h:Heap) (env:Env) (J:am) (ai:Addr->Option Ro) (x:Str) (u:V) (a:Addr):Prop where
 f:ai a=some (.own x)
 c:hE u=true
 v:Val prog w H g h.get? (.ref a) u
 put:∀h' ea,Heap.SameBut a h h'->hE ea=true->Val prog w H g h'.get? (.ref a) ea->(∃o,h'.get? a=some o)->OwnPut prog w H g env J ai x ea h h'
theorem Ed{s:Shared}(N:EnvR sc env)(C:Cfg prog w H g h)(F:FrR prog w H g h env J ai)(aj:lk sc.names x=some .local\/lk sc.names x=some .cell)(hx:x≠dM)(aq:a2 J x=some (u,true))(at_:OwnAt env h x a):OwnNow prog w H g h env J ai x u a:=by
 obtain⟨b,f,ao,c,v,_,put⟩:=xt (s:={s with heap:=h}) N C F aj hx aq
 exact ao.unique at_▸⟨f,c,v,put⟩
def Ee(prog:Program)(w:World)(A:Around)(E:cI)(id:String)(aU uT:List V)(H:T)(g:Gh)(s:Shared)(u:Value):Prop:=
 ∀a vs n ds,s.heap.get? a=some (listOf vs n)->RdL g.im vs.toList ds->bX H aU=some ds->∀Q:cI,(∀h' kA db xI,h'.get? a=some (listOf kA db)->Heap.SameBut a s.heap h'->RdL g.im kA.toList xI->bX H uT=some xI->Q .none {s with heap:=h'})->
  wpAny (model prog w) A (call (.builtin id) [.ref a,u]) Q E s
theorem M6(cM:fb prog w G ta n){x m:Str}{id:String}{p mp q pp:Pos}{a:Expr}{aU uT:List V}{bw:Fl}(aq:a2 J x=some (.list aU,true))(hx:d6 c x=true)(dS:(mp.endLine==q.line)=true)(ok:mz a=true)(j2:∀{A:Around}{E:cI}{s:Shared}{a:Addr}{vs:Array Value}{n:Nat}{di:Sem Bool}{Q:Value×List Value->Shared->Prop},s.heap.get? a=some (listOf vs n)->Q (.builtin id,[.ref a]) s->wpAny (model prog w) A (getMethod (.ref a) m di) Q E s)(ah:bv G n c (cb J x (.list uT) true) bu aD=some (bw,bb,O))(ag:O.cnt<=ba){Q:Flow->Shared->Prop}(bz:Room A n)(T:g.ta=ta)(N:EnvR c.sc env)(C:Cfg prog w H g s.heap)(F:FrR prog w H g s.heap env J ai)(aba:∀{Q:cI}{E:cI},(∀aV aB bh u,Ext g s.heap aV aB->H.bP aD->Cfg prog w aD aV aB->(∀{E},Ee prog w A E id aU uT aD aV {s with heap:=aB,toks:=bh} u)->Q u {s with heap:=aB,toks:=bh})->wpAny (model prog w) A (eval a env) Q E s)(ak:lG prog w ai H g s env (.Expr (.Call (.Attribute (.Name x p) m mp) [a] [] q) pp::bu) bb O bw Q):wpAny (model prog w) A (execs (.Expr (.Call (.Attribute (.Name x p) m mp) [a] [] q) pp::bu) env) Q E s:=by
 obtain⟨aj,fc⟩:=n7 hx
 have aJ:starEach [a] env=[a].map λe=>(false,eval e env):=wV ok [] env
 refine wpAny_execs_cons (wpAny_Expr_any ?_ (xF N) (xG rfl _ _))
 obtain⟨ad,_,n9,_,al,uU,_⟩:=xt N C F aj fc aq
 refine pG rfl dS (show [a].length<25 from fi rfl) aJ λdi=>uU A p _ E ?_
 obtain⟨b,vs,MX,_,e,hD,_⟩:=al
 rw[<-Value.ref.inj e] at hD
 refine j2 hD ?_
 refine gi (P:=λ_=>True) aJ (λh _=>lJ (λa q=>nomatch q)) ?_
 refine args_cons (aba λaV aB bh u aR k₁ aZ abb=>?_) aJ
 refine args_nil ⟨trivial,?_⟩
 have dA:=F.ext k₁ aR aZ.bn
 have aL:=Ed (s:=s) N aZ dA aj fc aq (n9.ext F aR)
 obtain⟨b,kA,abc,xI,e,xJ,hm,pm⟩:=aL.v
 rw[<-Value.ref.inj e] at xJ
 refine abb ad kA abc xI xJ hm pm _ λa8 eI abd abe uP oa xK abf=>?_
 have Y:=aL.put a8 (.list uT) oa rfl ⟨ad,eI,abd,abe,rfl,uP,xK,abf⟩ ⟨_,uP⟩
 exact mR (s:=s) cM ah ag bz T N ⟨(aR.toS ai).trans' Y.X,k₁,Y.C,.refl _ _,Y.F,λy a _ q=>(q.ext F aR).step dA (λr e=>⟨x,Option.some.inj (e.symm.trans aL.f)⟩) (SameBut.ext' oa)⟩ ak
theorem abg{u:Value}{v:V}{aU:List V}(al:Val prog w H g g.im u v)(a6:(v.flat&&cz aU)=true):Ee prog w A E "list.append" aU (aU++[v]) H g s u:=λa vs n ds hD aq ap Q ak=>by
 obtain⟨d,aQ,hm⟩:=al.flat (λ_ _ e=>e) (aK a6).1
 refine wpAny_list_append_plain ⟨n,hD⟩ (λa8 Ef oa=>?_) (mL (f4 aq ap▸gd (aK a6).2))
 obtain⟨d9,Eg⟩:=Ef
 exact ak a8 _ d9 (ds++[d]) Eg oa (by rw [oM];exact aq.append (.cons hm .nil)) (xw ap aQ)
theorem abh(S:cx prog w G ta n)(cM:fb prog w G ta n){p mp q pp:Pos}{a:Expr}{l:List V}{v:V}{bw:Fl}(aq:a2 J x=some (.list l,true))(hx:d6 c x=true)(dS:(mp.endLine==q.line)=true)(aa:aN G n c J a H=some (v,aD))(a6:(v.flat&&cz l)=true)(ah:bv G n c (cb J x (.list (l++[v])) true) bu aD=some (bw,bb,O))(ag:O.cnt<=ba):
  hQ prog w ta (n+1) c J (.Expr (.Call (.Attribute (.Name x p) jd mp) [a] [] q) pp::bu) H bw bb O:=λA env ai g s Q E R T N C F ak=>
 have bz:=R.less (cG n)
 M6 cM aq hx dS (mA aa) M5 ah ag bz T N C F (λak=>S c J a H v aD aa (aT (lO ah (jR aa C.ok).2).1.cnt ag) A env ai g s _ _ bz T N C F λaV aB bh u aR k₁ aZ bT=>ak aV aB bh u aR k₁ aZ (abg bT a6)) ak
theorem M7:∀{l m:List V}{ds es:List PyData},bX H l=some ds->bX H m=some es->bX H (l++m)=some (ds++es)
 |[],_,_,_,h,aQ=>by rw [<-Option.some.inj h];exact aQ
 |v::r,_,_,_,h,aQ=>by
  obtain⟨a,m,e,aw,av⟩:=fa h
  rw[e]
  exact h9 aw (M7 av aQ)
theorem M8(r6:Array Value)(n:Nat)(eI:Array Value):Obj.mapSeq (λx=>x++eI) (listOf r6 n)=listOf (r6++eI) (if (r6++eI).size==r6.size then n else n+1):=rfl
theorem abi{u:Value}{aU fW:List V}(al:Val prog w H g s.heap.get? u (.list fW))(a6:cz (aU++fW)=true):Ee prog w A E "list.extend" aU (aU++fW) H g s u:=λa vs n ds hD aq ap Q ak=>by
 obtain⟨ab,eI,hn,es,e,Eh,M9,uK⟩:=al.kh
 have fl:vs.size+eI.size<=sizeLine:=mL (by rw [f4 aq ap,f4 M9 uK,<-d5];exact gd a6)
 rw[e]
 refine call_meets Ig ⟨_,hD,rfl⟩ PySem.F.entry_list_extend (PySem.F.args_list_extend_2 _ _) (AutoSeq1.list_extend_list_list_0 a vs n ab eI hn (extend_door fl) (aT (eZ _ _) fl)) ⟨hD,Eh,?_⟩
 have Eg:(s.heap.update a (Obj.mapSeq λx=>x++eI)).get? a=some (listOf (vs++eI) (if (vs++eI).size==vs.size then n else n+1)):=by
  rw[v1 _ hD (by rw [M8];rfl),M8]
 exact ak _ _ _ (ds++es) Eg (Heap.SameBut.update ..) (by rw [zI];exact aq.append M9) (M7 ap uK)
theorem abj(S:cx prog w G ta n)(cM:fb prog w G ta n){p mp q pp:Pos}{a:Expr}{l fW:List V}{bw:Fl}(aq:a2 J x=some (.list l,true))(hx:d6 c x=true)(dS:(mp.endLine==q.line)=true)(aa:b7 c J (aN G n c J) a H=some (.list fW,aD))(a6:cz (l++fW)=true)(ah:bv G n c (cb J x (.list (l++fW)) true) bu aD=some (bw,bb,O))(ag:O.cnt<=ba):
  hQ prog w ta (n+1) c J (.Expr (.Call (.Attribute (.Name x p) wu mp) [a] [] q) pp::bu) H bw bb O:=λA env ai g s Q E R T N C F ak=>
 have bz:=R.less (cG n)
 M6 cM aq hx dS (wU aa) ab9 ah ag bz T N C F (λak=>my S aa (aT (lO ah (pk aa C.ok.bld).2).1.cnt ag) bz T N C F λaV aB bh u aR k₁ aZ bT=>ak aV aB bh u aR k₁ aZ (abi (s:={s with heap:=aB,toks:=bh}) (bT.val aZ.bn) a6)) ak
theorem abk(S:cx prog w G ta n)(cM:fb prog w G ta n){v:V}{bw:Fl}(abl:pa e=false)(aa:aN G n c J e H=some (v,aD))(ah:bv G n c J bu aD=some (bw,bb,O))(ag:O.cnt<=ba):
  hQ prog w ta (n+1) c J (.Expr e pp::bu) H bw bb O:=λA env ai g s Q E R T N C F ak=>
 have bz:=R.less (cG n)
 wpAny_execs_cons (wpAny_Expr_any (S c J e H v aD aa (aT (lO ah (jR aa C.ok).2).1.cnt ag) A env ai g s _ E bz T N C F λaV aB bh u aR k₁ aZ bT=>
  mR (s:=s) cM ah ag bz T N ⟨aR.toS ai,k₁,aZ,.refl _ _,F.ext k₁ aR aZ.bn,λy a _ q=>q.ext F aR⟩ ak) (xF N) (xG abl _ _))
def Ei (k:am->T->Option (Fl×am×T)) (f:Fl) (J:am) (H:T):Option (Fl×am×T):=match f with
 | .next=>k J H
 | .ret v=>some (.ret v,J,H)
inductive ThnI (x:Option (Fl×am×T)) (k:am->T->Option (Fl×am×T)) (bw:Fl) (bb:am) (O:T):Prop
 |mk (f:Fl) (c8:am) (aD:T) (e:x=some (f,c8,aD)) (h:Ei k f c8 aD=some (bw,bb,O))
theorem Ej{x:Option (Fl×am×T)}{k:am->T->Option (Fl×am×T)}{bw:Fl}(h:thn x k=some (bw,bb,O)):ThnI x k bw bb O:=by
 obtain⟨f,c8,aD,e,h⟩:=rn h
 refine⟨f,c8,aD,e,?_⟩
 rcases f<;>exact h
theorem Ek{k:am->T->Option (Fl×am×T)}(aj:∀J H,dm H (k J H)){f bw:Fl}{c8 bb:am}(h:Ei k f c8 aD=some (bw,bb,O))(aL:aD.fA)(ag:O.cnt<=ba):aD.cnt<=ba:=by
 rcases f with _|v
 .exact aT (aj _ _ _ _ _ h aL).1.cnt ag
 .exact(Prod.mk.inj (Prod.mk.inj (Option.some.inj (show some (Fl.ret v,c8,aD)=some (bw,bb,O) from h))).2).2▸ag
theorem El{cB:List Stmt}(J:am)(H:T):dm H (bv G n c J cB H):=(gT G n n (cq _)).s c J cB H
theorem Na(cM:fb prog w G ta n){c8 bb:am}{st:Stmt}{f bw:Fl}(h:Ei (λJ H=>bv G n c J bu H) f c8 aD=some (bw,bb,O))(ag:O.cnt<=ba){ai e5:Addr->Option Ro}{g aV:Gh}{aB:Heap}{bh:Nat}{j3:Flow}{Q:Flow->Shared->Prop}(R:Room A n)(T:g.ta=ta)(N:EnvR c.sc env)(X:ExtS ai g s.heap aV aB)(k:H.bP aD)(C:Cfg prog w aD aV aB)(Gw:Grow ai s.heap e5)(iP:ic aV aB e5)(xL:Dg prog w aD aV aB env e5 c8 f j3)(Nb:∀y a,fV y 12 st=false->OwnAt env s.heap y a->OwnAt env aB y a)(ak:lG prog w ai H g s env (st::bu) bb O bw Q){P:Flow->Prop}(fm:wpAny (model prog w) A (execs bu env) Q E {s with heap:=aB,toks:=bh}->P .next)(gF:∀u,Q (.ret u) {s with heap:=aB,toks:=bh}->P (.ret u)):P j3:=by
 rcases f with _|v
 .obtain⟨e,F⟩:=xL
  rw[e]
  exact fm (mR (s:=s) cM h ag R T N ⟨X,k,C,Gw,F,Nb⟩ ak)
 .obtain⟨u,e,_⟩:=id xL
  rw[e] at xL |-
  refine rp (show some (Fl.ret v,c8,aD)=some (bw,bb,O) from h) (P:=λbw bb O=>lG prog w ai H g s env (st::bu) bb O bw Q->_) (λak=>?_) ak
  exact gF u (ak aV aB bh e5 _ X k C Gw iP xL λy a aY q=>Nb y a (Ec aY).1 q)
set_option backward.match.sparseCases true in
theorem abm(a7:iS prog w G ta n)(cM:fb prog w G ta n){t:Expr}{b o:List Stmt}{x:Bool}{bw:Fl}(aa:dR G n c J t H=some (x,aD))(h:thn (bv G n c J (cond x b o) aD) (λJ H=>bv G n c J bu H)=some (bw,bb,O))(ag:O.cnt<=ba):
  hQ prog w ta (n+1) c J (.If t b o pp::bu) H bw bb O:=by
 intro A env ai g s Q E R T N C F ak
 have bz:=R.less (cG n)
 obtain⟨f,c8,bS,ah,aC⟩:=Ej h
 have cA:=lO ah (rL aa C.ok.bld).2
 have cP:bS.cnt<=ba:=Ek El aC cA.2 ag
 refine wpAny_execs_cons (wpAny_If (a7 c J t H x aD aa (aT cA.1.cnt cP) A env ai g s _ E bz T N C F λaV aB bh aR k₁ aZ=>?_))
 have dA:=F.ext k₁ aR aZ.bn
 have r7:∀{y},fV y 12 (.If t b o pp)=false->kv y (cond x b o)=false:=λaY=>by
  rcases x with _|_
  .exact Eb (gI aY).2
  .exact Eb (gI aY).1
 have run:=cM c J _ aD f c8 bS ah cP A env ai aV {s with heap:=aB,toks:=bh} (λf bQ=>match f with| .next=>wpAny (model prog w) A (execs bu env) Q E bQ|f=>Q f bQ) E bz (aR.ta.trans T) N aZ dA λcD a8 b8 abn j3 cn dn b3 abo abp abq abr=>
  Na (s:=s) (st:=.If t b o pp) cM aC ag bz T N ((aR.toS ai).trans' cn) (k₁.trans dn) b3 ((Grow.refl ai s.heap).trans (aR.toS ai) abo) abp abq (λy a aY q=>abr y a (r7 aY) (q.ext F aR)) ak (P:=λj3=>match j3 with| .next=>wpAny (model prog w) A (execs bu env) Q E {s with heap:=a8,toks:=b8}|f=>Q f {s with heap:=a8,toks:=b8}) id λ_=>id
 rcases x with _|_<;>exact run
theorem abt(S:cx prog w G ta n){e:Option Expr}{bw:Fl}(h:ob (wA (b7 c J (aN G n c J)) H e) (λv H=>some (Fl.ret v,J,H))=some (bw,bb,O))(ag:O.cnt<=ba):
  hQ prog w ta (n+1) c J (.Return e pp::bu) H bw bb O:=by
 intro A env ai g s Q E R T N C F ak
 have bz:=R.less (cG n)
 refine wpAny_execs_cons ?_
 obtain⟨v,aD,aa,h⟩:=b1 h
 revert ag ak
 refine rp h (P:=λbw bb O=>O.cnt<=ba->lG prog w ai H g s env (.Return e pp::bu) bb O bw Q->_) λag ak=>?_
 rcases e with _|e
 .obtain⟨e1,e2⟩:=Prod.mk.inj (Option.some.inj aa)
  rw[<-e1,<-e2] at ak
  exact wpAny_Return_none (ak g s.heap s.toks ai _ (.refl ..) (.refl _) C (.refl _ _) F.sep ⟨_,rfl,.of Val.none⟩ λy a _ q=>q)
 .exact wpAny_Return_some (my S aa ag bz T N C F λaV aB bh u aR k₁ aZ bT=>ak aV aB bh ai _ (aR.toS ai) k₁ aZ (.refl _ _) (F.ext k₁ aR aZ.bn).sep ⟨u,rfl,bT⟩ λy a _ q=>q.ext F aR)
end
section
theorem Nc{K:Type}[DecidableEq K]{i:K}{eg:Value}:∀{aW:List (K×Value)},i∉aW.map (·.1)->(aW.map λbE=>if bE.1=i then (bE.1,eg) else bE)=aW
 |[],_=>rfl
 |bE::r,h=>by
  rw[km,qY,not_or] at h
  rw[km,Nc h.2,if_neg λe=>h.1 e.symm]
theorem abu{K:Type}[DecidableEq K]{i:K}{v eg:Value}{aW:List (K×Value)}(h:i∉aW.map (·.1)):stored ((i,v)::aW) i eg=(i,eg)::aW:=by
 unfold stored
 rw[h1,decide_eq_true rfl,z1,if_pos rfl,km,if_pos rfl,Nc h]
theorem abv{K:Type}[DecidableEq K]{i j:K}{v eg:Value}{aW:List (K×Value)}(h:j≠i):stored ((j,v)::aW) i eg=(j,v)::stored aW i eg:=by
 unfold stored
 rw[h1,decide_eq_false h,tz]
 split
 .rw[km,if_neg h]
 .rfl
theorem uV{K:Type}[DecidableEq K]{c7:K->PyData}(uf:∀a b,(c7 a).eqv (c7 b)=decide (a=b))(aL:H.Ok){im:bA}{x u:V}{i:K}{eg:Value}(hx:bI H x=some (c7 i))(bG:bI H u=some d)(aq:Rd im eg d):
  ∀{l cK:List (V×V)}{aW:List (K×Value)},H.k5 x u l=some cK->Kvs c7 H im l aW->(aW.map (·.1)).Nodup->Kvs c7 H im cK (stored aW i eg)
 |[],cK,aW,h,k,_=>by
  rw[k.dat,<-Option.some.inj h]
  exact .cons hx bG aq .nil
 |p::l,cK,_,h,q,aX=>by
  obtain⟨j,v,mv,aW,e,aa,ah,aC,bC⟩:=q.dat
  obtain⟨t,g,h⟩:=bD h
  have bq:decide (j=i)=t:=(uf _ _).symm.trans (t9 aL (KO g) aa hx)
  rw[e] at aX |-
  rw[km,List.nodup_cons] at aX
  rcases t with _|_
  .obtain⟨r,lv,h⟩:=bD (show (od (H.k5 x u l) λl=>some (p::l))=some cK from h)
   rw[abv (of_decide_eq_false bq),<-Option.some.inj h]
   exact .cons aa ah aC (uV uf aL hx bG aq lv bC aX.2)
  .rw[of_decide_eq_true bq] at aa aX |-
   rw[abu aX.1,<-Option.some.inj h]
   exact .cons aa bG aq bC
theorem Nd{K:Type}{c7:K->PyData}{b:Bool}{im:bA}{x u:V}{cK:List (V×V)}(ao:∀k i,bI H k=some (c7 i)->isStr k=b)(hx:(b==isStr x)=false):∀{l:List (V×V)}{aW:List (K×Value)},H.k5 x u l=some cK->Kvs c7 H im l aW->l=[]/\aW=[]
 |[],_,_,k=>⟨rfl,k.dat⟩
 |p::l,_,h,q=>by
  obtain⟨j,v,d,aW,e,aa,ah,aC,bC⟩:=q.dat
  obtain⟨t,g,h⟩:=bD h
  have g:=(br g).1
  rw[ao _ _ aa,hx] at g
  exact nomatch g
inductive DSet (prog:Program) (w:World) (H:T) (im:bA) (o:Obj) (ep eg:Value) (l cK:List (V×V)):Prop
 |mk (K:Type) (dec:DecidableEq K) (knd:KeyKind prog w K) (k:K) (aW:List (K×Value)) (aa:ObjDict prog w knd o aW) (ah:knd.is k ep=true) (len:aW.length=l.length) (aC:∀b9,ObjDict prog w knd b9 (stored aW k eg)->DictO prog w H im b9 cK)
theorem ObjDict.nd{K:Type}[DecidableEq K]{knd:KeyKind prog w K}{o:Obj}{aW:List (K×Value)}(h:ObjDict prog w knd o aW):(aW.map (·.1)).Nodup:=by
 obtain⟨_,_,_,_,_,_,q⟩:=h
 exact q
theorem abw(aL:H.Ok){look:bA}{o:Obj}{l cK:List (V×V)}{x u:V}{ep eg:Value}(D:DictO prog w H g.im o l)(aj:jb x=true)(bx:H.k5 x u l=some cK)(hx:Val prog w H g look ep x)(bG:bI H u=some d)(aq:Rd g.im eg d):DSet prog w H g.im o ep eg l cK:=by
 obtain⟨e,ap,r8⟩:=hx.key aj
 rcases KP aj ap with ⟨i,e,aJ⟩|⟨s,e7,e⟩
 .rw[e] at r8 ap
  obtain⟨t,e1⟩:=r8.dat
  rw[e1]
  rcases D with ⟨aW,aa,ah⟩|⟨aW,aa,ah⟩
  .exact⟨Int,_,intKind prog w,i,aW,aa,ug i t,(pv ah).symm,λb9 h=> .int _ h (uV wY aL ap bG aq bx ah aa.nd)⟩
  .obtain⟨e2,e3⟩:=Nd CY (by rw [aJ];rfl) bx ah
   rw[e3] at aa
   rw[e2] at bx |-
   exact⟨Int,_,intKind prog w,i,[],aa.empty,ug i t,rfl,λb9 h=> .int _ h (uV wY aL ap bG aq bx .nil .nil)⟩
 .rw[e] at r8 ap
  obtain⟨t,e1⟩:=r8.dat
  rw[e1]
  rcases D with ⟨aW,aa,ah⟩|⟨aW,aa,ah⟩
  .obtain⟨e2,e3⟩:=Nd KW (by rw [e7];rfl) bx ah
   rw[e3] at aa
   rw[e2] at bx |-
   exact⟨Str,_,strKind prog w,s,[],aa.empty,wZ s t,rfl,λb9 h=> .str _ h (uV CX aL ap bG aq bx .nil .nil)⟩
  .exact⟨Str,_,strKind prog w,s,aW,aa,wZ s t,(pv ah).symm,λb9 h=> .str _ h (uV CX aL ap bG aq bx ah aa.nd)⟩
end
section
theorem abx(S:cx prog w G ta n)(cM:fb prog w G ta n){xp p1 pp:Pos}{k e:Expr}{H aD bS O:T}{l cK:List (V×V)}{v i:V}{bw:Fl}(aa:aN G n c J e H=some (v,aD))(aq:a2 J x=some (.dict l,true))(hx:d6 c x=true)(ah:aN G n c J k aD=some (i,bS))(a6:(jb i&&v.flat&&cz l)=true)(aC:bS.k5 i v l=some cK)(bC:bv G n c (cb J x (.dict cK) true) bu bS=some (bw,bb,O))(ag:O.cnt<=ba):
  hQ prog w ta (n+1) c J (.Assign [.Subscript (.Name x xp) k p1] e pp::bu) H bw bb O:=by
 intro A env ai g s Q E R T N C F ak
 have bz:=R.less (cG n)
 obtain⟨aj,fc⟩:=n7 hx
 obtain⟨a6,eB⟩:=aK a6
 obtain⟨aby,abz⟩:=aK a6
 have cA:=mw ah (jR aa C.ok).2
 have cP:=aT (lO bC cA.2).1.cnt ag
 refine wpAny_execs_cons (wpAny_Assign_Subscript ?_ (xH (mA aa) _ rfl _ _))
 refine S c J e H v aD aa (aT cA.1.cnt cP) A env ai g s _ E bz T N C F λaV aB bh u aR k₁ aZ bT=>?_
 have dA:=F.ext k₁ aR aZ.bn
 obtain⟨ad,_,n9,_,_,uU,_⟩:=xt (s:={s with heap:=aB,toks:=bh}) N aZ dA aj fc aq
 refine uU A xp _ E ?_
 refine S c J k aD i bS ah cP A env ai aV {s with heap:=aB,toks:=bh} _ E bz (aR.ta.trans T) N aZ dA λcD a8 b8 z cn dn b3 dr=>?_
 have gj:=dA.ext dn cn b3.bn
 have aL:=Ed (s:=s) N b3 gj aj fc aq (n9.ext dA cn)
 obtain⟨b,o,bq,hD,xM,abA⟩:=aL.v
 rw[<-Value.ref.inj bq] at hD xM
 obtain⟨d,aQ,hm⟩:=(bT.ext dn cn).flat (λ_ _ e=>e) abz
 obtain⟨ZU,_,knd,fW,aW,bU,bZ,dJ,gY⟩:=abw b3.ok abA aby aC dr aQ hm
 refine wpAny_setItem_pairs (s:={s with heap:=a8,toks:=b8}) bZ (bU.mapOf hD) (λbN abB oe=>?_) (mL (dJ▸gd eB))
 obtain⟨o3,DI,DJ,mI,nZ,pK,abC,abD,abE⟩:=abB
 have Y:=aL.put bN (.dict cK) oe rfl ⟨ad,o3,rfl,mI,xM,gY o3 ⟨DI,DJ,nZ,pK,abC,abD,abE⟩⟩ ⟨_,mI⟩
 exact mR (s:=s) cM bC ag bz T N ⟨((aR.trans cn).toS ai).trans' Y.X,k₁.trans dn,Y.C,.refl _ _,Y.F,λy a _ q=>((q.ext F aR).ext dA cn).step gj (λr e=>⟨x,Option.some.inj (e.symm.trans aL.f)⟩) (SameBut.ext' oe)⟩ ak
end
noncomputable def more (ai:Addr->Option Ro) (D:Addr) (x:Str) (a:Addr):Option Ro:=cond (Nat.beq a D) (some (.own x)) (ai a)
theorem Nf{D:Addr}:more ai D x D=some (.own x):=by unfold more;rw[jF];rfl
theorem Em{D a:Addr}(h:a≠D):more ai D x a=ai a:=by unfold more;rw[hn h];rfl
theorem abF{D a:Addr}{r:Ro}(h:ai D=none)(e:ai a=some r):more ai D x a=some r:=(Em λq=>aI (h.symm.trans (q▸e))).trans e
theorem Ng{D a:Addr}{r:Ro}(h:more ai D x a=some r):a=D\/ai a=some r:=(eA h).imp (λp=>ei p.1) (·.2)
section
theorem Hold.ro{ai et:Addr->Option Ro}{v:Value}{o:Bool}(up:∀{a r},ai a=some r->et a=some r)(q:Hold prog w H g h ai y v u o):Hold prog w H g h et y v u o:=by
 rcases o with _|_
 .exact q
 .obtain⟨bU,a,bZ,dJ,gY⟩:=q
  exact⟨bU,a,bZ,up dJ,gY⟩
theorem FrR.more(F:FrR prog w H g h env J ai){D:Addr}(h0:ai D=none)(S:Sep1 g h D):FrR prog w H g h env J (more ai D x):=by
 have up:∀{a r},ai a=some r->Mine.more ai D x a=some r:=abF h0
 refine⟨?_,λy a e=>?_,up F.loc,λa r e=>(Ng e).elim (λq=>q▸S) (F.sep a r),F.dot⟩
 .obtain⟨m,aX,al⟩:=F.ns
  exact⟨m,aX,λy u o k q=>(al y u o k q).elim λv p=>⟨v,p.1,p.2.ro up⟩⟩
 .obtain⟨v,bU,bZ,dJ⟩:=F.cl y a e
  exact⟨v,bU,up bZ,λu o k q=>(dJ u o k q).elim λv p=>⟨v,p.1,p.2.ro up⟩⟩
theorem FrR.no(F:FrR prog w H g h env J ai){L:Addr}(e:h.get? L=none):ai L=none:=by
 rcases q:ai L with _|r
 .rfl
 .obtain⟨_,_,o,aG⟩:=F.sep L r q
  exact aI (e.symm.trans aG)
theorem FrR.H4(F:FrR prog w H g h env J ai){b:Addr}(ao:b=env.locals\/(lk sc.names x=some .cell/\env.cells.lookup x=some b)):∃r,ai b=some r:=by
 rcases ao with e|⟨_,q⟩
 .exact⟨_,e▸F.loc⟩
 .obtain⟨_,_,q,_⟩:=F.cl x b q
  exact⟨_,q⟩
structure Aside (cD:Gh) (e5:Addr->Option Ro) (aB a8:Heap) (L:Addr):Prop where
 im:cD.im L=none
 mu:L∉cD.bW
 no:e5 L=none
 at_:∀o,aB.get? L=some o->a8.get? L=some o
structure StoredN (prog:Program) (w:World) (aD:T) (env:Env) (ai:Addr->Option Ro) (g aV:Gh) (h aB:Heap) (J:am) (x:Str) (D:Addr) (v:V) (own:Bool) (cD:Gh) (e5:Addr->Option Ro) (a8:Heap):Prop where
 X:ExtS ai g h cD a8
 C:Cfg prog w aD cD a8
 Gw:Grow ai h e5
 F:FrR prog w aD cD a8 env (cb J x v own) e5
 st:∀y a,y≠x->OwnAt env h y a->OwnAt env a8 y a
 amS:∀L,h.get? L=none->L≠D->aV.im L=none->L∉aV.bW->Aside cD e5 aB a8 L
theorem Nh{g aV:Gh}{aB:Heap}{bh:Nat}{D:Addr}{v:V}(N:EnvR sc env)(aj:lk sc.names x=some .local\/lk sc.names x=some .cell)(fc:x≠dM)(F:FrR prog w H g s.heap env J ai)(aR:Ext g s.heap aV aB)(k:H.bP aD)(aZ:Cfg prog w aD aV aB)(Z:NewD prog w aD s.heap aV aB D v)(own:Bool){Q:Unit->Shared->Prop}(ak:∀cD e5 a8 b8,StoredN prog w aD env ai g aV s.heap aB J x D v own cD e5 a8->Q () {s with heap:=a8,toks:=b8}):wpAny (model prog w) A (storeName env x (.ref D)) Q E {s with heap:=aB,toks:=bh}:=by
 have r9:∀{L b a8},s.heap.get? L=none->(b=env.locals\/(lk sc.names x=some .cell/\env.cells.lookup x=some b))->Heap.SameBut b aB a8->∀o,aB.get? L=some o->a8.get? L=some o:=λl ao jr o e=>SameBut.ext' jr _ o (λq=>(F.H4 ao).elim λr aq=>aI ((F.no l).symm.trans (q▸aq))) e
 rcases own with _|_
 .obtain⟨o,aG,fK⟩:=xa Z.co Z.im Z.val
  have cn:=aR.freeze (o:=o) Z.new Z.im
  have b3:=aZ.freeze Z.im Z.mu aG
  refine mK (s:={s with heap:=aB,toks:=bh}) N b3 (F.ext k cn b3.bn) aj fc (o:=false) fK λa8 b8 Y=>?_
  obtain⟨b,ao,jr,_⟩:=Y.b
  exact ak _ ai a8 b8 ⟨(cn.toS ai).trans' Y.X,Y.C,.refl _ _,Y.F,λy a aY q=>Y.st y a aY (q.ext F aR),λL p4 ne cg ch=>⟨(Gh.g9 ne).trans cg,ch,F.no p4,r9 p4 ao jr⟩⟩
 .have dA:=F.ext k aR aZ.bn
  refine mK (s:={s with heap:=aB,toks:=bh}) N aZ (dA.more (x:=x) (F.no Z.new) ⟨Z.im,Z.mu,Z.live⟩) aj fc (o:=true) ⟨Z.co,D,rfl,Nf,Z.val⟩ λa8 b8 Y=>?_
  obtain⟨b,ao,jr,_⟩:=Y.b
  have Gw:Grow ai s.heap (more ai D x):=λa r e=>(Ng e).elim (λq=> .inr (q▸Z.new)) λq=> .inl ⟨r,q⟩
  exact ak aV _ a8 b8 ⟨(aR.toS ai).trans Y.X Gw,Y.C,Gw,Y.F,λy a aY q=>Y.st y a aY (q.ext F aR),λL p4 ne cg ch=>⟨cg,ch,(Em ne).trans (F.no p4),r9 p4 ao jr⟩⟩
theorem sa(h:pa e=false)(x:Str)(p:Pos)(line:Nat)(env:Env):swapsWith e (some (.Name x p)) line env=pure false:=by
 rcases e
 case ListComp=>exact nomatch h
 case SetComp=>exact nomatch h
 case DictComp=>exact nomatch h
 all_goals rfl
inductive CompI (e:Expr):Prop
 |mk (elt:Expr) (gens:List Comprehension) (sc:Scope) (pos:Pos) (h:e= .ListComp elt gens sc pos)
theorem abG(h:pa e=true)(k:mz e=true):CompI e:=by
 rcases e
 case ListComp=>exact⟨_,_,_,_,rfl⟩
 case SetComp=>exact c2 k
 case DictComp=>exact c2 k
 all_goals exact c2 h
theorem abH(elt:Expr)(gens:List Comprehension)(sc:Scope)(pos p:Pos)(x:Str)(line:Nat)(env:Env):∃b,swapsWith (.ListComp elt gens sc pos) (some (.Name x p)) line env=pure b:=⟨_,rfl⟩
theorem Ni{xp pp:Pos}(h:fV y 12 (.Assign [.Name x xp] e pp)=false):y≠x:=n8 (gI (show ([Expr.Name x xp].any (o7 y))=false from h)).1
theorem abI{own d:Bool}(h:(!own||d)=true)(e:own=true):d=true:=by
 rw[e] at h
 exact h
theorem StoredN.after{ai e5:Addr->Option Ro}{g aV cD:Gh}{h aB a8:Heap}{D:Addr}{v:V}{own:Bool}{xp pp:Pos}(Y:StoredN prog w aD env ai g aV h aB J x D v own cD e5 a8)(k:H.bP aD):After prog w ai H g env (.Assign [.Name x xp] e pp) h (cb J x v own) aD e5 cD a8:=
 ⟨Y.X,k,Y.C,Y.Gw,Y.F,λy a aY q=>Y.st y a (Ni aY) q⟩
theorem After.own{ai e5:Addr->Option Ro}{g cD:Gh}{h aB a8 bN:Heap}{st:Stmt}{L:Addr}(Y:After prog w ai H g env st h J aD e5 cD a8)(p4:h.get? L=none)(a:Aside cD e5 aB a8 L)(ext:∀a o,a≠L->a8.get? a=some o->bN.get? a=some o):After prog w ai H g env st h J aD e5 cD bN:=
 ⟨Y.X.own p4 ext,Y.k,Y.C.own a.im a.mu ext,Y.Gw,Y.F.apart a.no ext,λy b aY q=>(Y.st y b aY q).step Y.F (λr e=>aI (a.no.symm.trans e)) ext⟩
section
variable {xp pp:Pos}{v:V}{bw:Fl}{own:Bool}{Q:Flow->Shared->Prop}
theorem abJ(S:cx prog w G ta n)(p5:r5 prog w G ta n)(cM:fb prog w G ta n)(hx:d6 c x=true)(aa:aN G n c J e H=some (v,aD))(gW:(!own||ll e)=true)(ah:bv G n c (cb J x v own) bu aD=some (bw,bb,O))(ag:O.cnt<=ba)(cP:aD.cnt<=ba)(bz:Room A n)(T:g.ta=ta)(N:EnvR c.sc env)(C:Cfg prog w H g s.heap)(F:FrR prog w H g s.heap env J ai)(ak:lG prog w ai H g s env (.Assign [.Name x xp] e pp::bu) bb O bw Q)(aJ:swapsWith e (some (.Name x xp)) pp.line env=pure false):
  wpAny (model prog w) A (execs (.Assign [.Name x xp] e pp::bu) env) Q E s:=by
 obtain⟨aj,fc⟩:=n7 hx
 refine wpAny_execs_cons (wpAny_Assign_Name ?_ aJ)
 rcases own with _|_
 .refine S c J e H v aD aa cP A env ai g s _ E bz T N C F λaV aB bh u aR k₁ aZ bT=>?_
  refine mK (s:={s with heap:=aB,toks:=bh}) N aZ (F.ext k₁ aR aZ.bn) aj fc (o:=false) bT λa8 b8 Y=>?_
  exact mR (s:=s) cM ah ag bz T N ⟨(aR.toS ai).trans' Y.X,k₁,Y.C,.refl _ _,Y.F,λy a aY q=>Y.st y a (Ni aY) (q.ext F aR)⟩ ak
 .refine p5 c J e H v aD (abI gW rfl) aa cP A env ai g s _ E bz T N C F λaV aB bh D aR k₁ aZ Z=>?_
  exact Nh N aj fc F aR k₁ aZ Z true λcD e5 a8 b8 Y=>mR (s:=s) cM ah ag bz T N (Y.after k₁) ak
theorem abK{elt:Expr}{gens:List Comprehension}{pos:Pos}(p6:mQ prog w G ta n)(cM:fb prog w G ta n)(hx:d6 c x=true)(aa:aN G n c J (.ListComp elt gens sc pos) H=some (v,aD))(ah:bv G n c (cb J x v own) bu aD=some (bw,bb,O))(ag:O.cnt<=ba)(cP:aD.cnt<=ba)(bz:Room A n)(T:g.ta=ta)(N:EnvR c.sc env)(C:Cfg prog w H g s.heap)(F:FrR prog w H g s.heap env J ai)(ak:lG prog w ai H g s env (.Assign [.Name x xp] (.ListComp elt gens sc pos) pp::bu) bb O bw Q)(aJ:swapsWith (.ListComp elt gens sc pos) (some (.Name x xp)) pp.line env=pure true):
  wpAny (model prog w) A (execs (.Assign [.Name x xp] (.ListComp elt gens sc pos) pp::bu) env) Q E s:=by
 obtain⟨aj,fc⟩:=n7 hx
 refine wpAny_execs_cons ?_
 rw[exec_Assign_Name_used _ _ _ _ aJ]
 refine wpAny_bind (wpAny_standAt (wpAny_bind ?_))
 obtain⟨fM,fW⟩:=p6 c J elt gens sc pos (firstIterPos gens pos) H v aD aa cP (some (assign (.Name x xp) env)) A env ai g s (λ_ bQ=>wpAny (model prog w) A (execs bu env) Q E bQ) E bz T N C F λaV aB bh D L aR k₁ aZ Z sb=>
  wpAny_assign_Name (Nh N aj fc F aR k₁ aZ Z own λcD e5 a8 b8 Y=>by
   have a:=Y.amS L sb.new sb.ne sb.im sb.mu
   obtain⟨m,av⟩:=sb.ns
   exact⟨m,av.at' a.at_,λbN oe=>mR (s:=s) cM ah ag bz T N ((Y.after k₁).own sb.new a (SameBut.ext' oe)) ak⟩)
 show wpAny _ A (do let _ <-comprehension (.ListComp elt gens sc pos) sc env (firstIterPos gens pos) (newList []) (firstAsync gens) (firstIter gens env) (some (assign (.Name x xp) env))) _ E s
 rw[fM]
 exact wpAny_bind (wpAny_mono fW (λ_ bQ aO=>wpAny_pure (wpAny_pure aO)) λ_ _ q=>q)
end
theorem abL(S:cx prog w G ta n)(p5:r5 prog w G ta n)(p6:mQ prog w G ta n)(cM:fb prog w G ta n){xp pp:Pos}{v:V}{bw:Fl}{own:Bool}(hx:d6 c x=true)(aa:aN G n c J e H=some (v,aD))(gW:(!own||ll e)=true)(ah:bv G n c (cb J x v own) bu aD=some (bw,bb,O))(ag:O.cnt<=ba):hQ prog w ta (n+1) c J (.Assign [.Name x xp] e pp::bu) H bw bb O:=by
 intro A env ai g s Q E R T N C F ak
 have bz:=R.less (cG n)
 have cP:=aT (lO ah (jR aa C.ok).2).1.cnt ag
 have plain:=abJ (xp:=xp) (pp:=pp) (E:=E) S p5 cM hx aa gW ah ag cP bz T N C F ak
 rcases cL:pa e with _|_
 .exact plain (sa cL x xp _ env)
 .obtain⟨elt,gens,sc,pos,e1⟩:=abG cL (mA aa)
  rw[e1] at aa ak plain |-
  obtain⟨b,ao⟩:=abH elt gens sc pos xp x pp.line env
  rcases b with _|_
  .exact plain ao
  .exact abK p6 cM hx aa ah ag cP bz T N C F ak ao
end
noncomputable def hp(K:Frag)(C:Addr)(name:Str):Bool:=findIn K (.ref C) "__setattr__"==some (some (.builtin "object.__setattr__"))&&plainOver K C&&takerIn K C name==some none&&hasDictIn K C
def w9:Option DictEntry->Bool->Option (Option Value)
 |some e,_=>some (some e.val)
 |none,b=>cond b none (some none)
theorem p7(name:Str)(es:List DictEntry):getL name es=w9 (es.find? (·.key.isStr name)) (es.any (·.refKey)):=by
 unfold getL
 generalize List.find? (λx:DictEntry=>x.key.isStr name) es=x
 rcases x with _|_
 .generalize List.any es (λx:DictEntry=>x.refKey)=b
  rcases b with _|_<;>rfl
 .rfl
theorem Nj{x:Option DictEntry}{b hC:Bool}{v:Value}(h:w9 x b=some (some v)):w9 x hC=some (some v):=by
 rcases x with _|_
 .rcases b with _|_
  .exact nomatch (Option.some.inj (show some none=some (some v) from h))
  .exact aI h
 .exact h
inductive LkL (name:Str):Option Value->List DictEntry->Prop
 |nil:LkL name none []
 |here {e:DictEntry} {r:List DictEntry} (q:e.key.isStr name=true):LkL name (some e.val) (e::r)
 |next {o:Option Value} {e:DictEntry} {r:List DictEntry} (q:e.key.isStr name=false) (n:o=none->e.refKey=false) (t:LkL name o r):LkL name o (e::r)
theorem LkL.get{name:Str}{o:Option Value}{es:List DictEntry}(h:LkL name o es):getL name es=some o:=by
 induction h with
 |nil=>rfl
 |here q=>rw[p7,tv,q];rfl
 | @next o e r q n t bg=>
  rw[p7] at bg
  rw[p7,tv,q,h1]
  rcases o with _|v
  .rw[n rfl,tz];exact bg
  .exact Nj bg
theorem mS{name:Str}:∀{es:List DictEntry}{o:Option Value},getL name es=some o->LkL name o es
 |[],o,h=>by rw [<-Option.some.inj (show some none=some o from h)];exact .nil
 |e::r,o,h=>by
  rw[p7,tv] at h
  rcases q:e.key.isStr name with _|_<;>rw[q] at h
  .rw[h1] at h
   rcases o with _|v
   .rcases k:e.refKey with _|_<;>rw[k] at h
    .rw[tz] at h
     exact .next q (λ_=>k) (mS ((p7 name r).trans h))
    .rw[z1] at h
     rcases hb:r.find? (·.key.isStr name) with _|bq<;>rw[hb] at h
     .exact aI h
     .exact nomatch (Option.some.inj (show some (some bq.val)=some none from h))
   .exact .next q nofun (mS ((p7 name r).trans (Nj h)))
  .rw[<-Option.some.inj (show some (some e.val)=some o from h)]
   exact .here q
theorem uW{name:Str}{dT:Int}{key v:Value}{e:DictEntry}{r:List DictEntry}(q:e.key.isStr name=true):putL name dT key v (e::r)=⟨e.hash,e.key,v⟩::r:=by
 unfold putL
 rw[if_pos q]
theorem sd{name:Str}{dT:Int}{key v:Value}{e:DictEntry}{r:List DictEntry}(q:e.key.isStr name=false):putL name dT key v (e::r)=e::putL name dT key v r:=by
 conv=>lhs;unfold putL
 rw[if_neg (Bool.eq_false_iff.mp q)]
theorem LkL.put{name:Str}{dT:Int}{key v:Value}(aj:key.isStr name=true){o:Option Value}{es:List DictEntry}(h:LkL name o es):LkL name (some v) (putL name dT key v es):=by
 induction h with
 |nil=>exact .here (e:=⟨dT,key,v⟩) aj
 |here q=>rw[uW q];exact .here (e:=⟨_,_,v⟩) q
 |next q n t bg=>rw[sd q];exact .next q nofun bg
theorem Nk{k:Value}{a b:Str}(h:k.isStr a=true)(gD:a≠b):k.isStr b=false:=by
 rcases k
 case str x t=>exact beq_eq_false_iff_ne.mpr λe=>gD ((eq_of_beq h).symm.trans e)
 all_goals exact c2 h
theorem LkL.SM{name other:Str}{dT:Int}{key v:Value}(aj:key.isStr name=true)(aq:∀h u,(⟨h,key,u⟩:DictEntry).refKey=false)(gD:name≠other){o:Option Value}{es:List DictEntry}(h:LkL other o es):LkL other o (putL name dT key v es):=by
 induction h with
 |nil=>exact .next (e:=⟨dT,key,v⟩) (Nk aj gD) (λ_=>aq _ _) .nil
 | @here e r q=>rw[sd (Nk q gD.symm)];exact .here q
 | @next o e r q n t bg=>
  rcases k:e.key.isStr name with _|_
  .rw[sd k];exact .next q n bg
  .rw[uW k];exact .next (e:=⟨e.hash,e.key,v⟩) q n t
theorem xN{name:Str}{dT:Int}{key v:Value}:∀{es:List DictEntry},(putL name dT key v es).length<=es.length+1
 |[]=>cq _
 |e::r=>by
  rcases q:e.key.isStr name with _|_
  .rw[sd q];exact gr (xN (es:=r))
  .rw[uW q];exact cG _
theorem LkL.len{name:Str}{dT:Int}{key v u:Value}{es:List DictEntry}(h:LkL name (some u) es):(putL name dT key v es).length=es.length:=by
 generalize e:some u=o at h
 induction h with
 |nil=>exact nomatch e
 |here q=>rw[uW q];rfl
 |next q n t bg=>rw[sd q];exact congrArg Nat.succ (bg e)
theorem LkL.found{name:Str}{u:Value}{es:List DictEntry}(h:LkL name (some u) es):∃x∈es,x.key.isStr name=true:=by
 generalize e:some u=o at h
 induction h with
 |nil=>exact nomatch e
 |here q=>exact⟨_,dV,q⟩
 |next q n t bg=>exact(bg e).elim λx p=>⟨x,.tail _ p.1,p.2⟩
theorem LkL.safe{name:Str}{o:Option Value}{es:List DictEntry}(h:LkL name o es):(!es.any (·.key.isStr name)&&es.any (·.refKey))=false:=by
 induction h with
 |nil=>rfl
 |here q=>rw[h1,q];rfl
 | @next o e r q n t bg=>
  rw[h1,h1,q,tz]
  rcases k:r.any (·.key.isStr name) with _|_
  .rw[k] at bg
   rcases o with _|u
   .rw[n rfl];exact bg
   .exact absurd t (λt=>by
     obtain⟨x,hx,aO⟩:=t.found
     rw[List.any_eq_false] at k
     exact k x hx aO)
  .rfl
section
theorem abM{x C a5:Addr}{es:List DictEntry}{name:Str}{aF:Tok}{v:Value}{o:Option Value}{R:Result->Shared->Prop}(X:K.In s.heap)(aa:s.heap.get? x=some (instObj C a5))(ah:s.heap.get? a5=some (dictOf es n))(er:plainOver K C=true)(e4:takerIn K C name=some none)(ij:hasDictIn K C=true)(ag:LkL name o es)(bi:es.length<=900)(ak:∀h' dT t db,h'.get? a5=some (dictOf (putL name dT (.str name t) v es) db)->Heap.SameBut a5 s.heap h'->∀aF,R (.ok (.ret .none)) {s with heap:=h',toks:=aF}):
  codeAny (model prog w) A (.call (.builtin "object.__setattr__") ⟨[.ref x,.str name aF,v],[]⟩) R s:=by
 have I:InstAt s.heap x (instObj C a5) C (some (dictOf es n)):=⟨aa,rfl,rfl,ah⟩
 refine osa_open X I er e4 λb=>?_
 obtain⟨cd,ap,iJ⟩:=any_some ij
 refine wpAny_bind (wpAny_pure (wpAny_bind (wpAny_bind (wpAny_loadPart aa (wpAny_bind ((looks_clsIn X ap).here ?_))))))
 rw[iJ]
 refine wpAny_pure (a:=some a5) (wpAny_bind (wpAny_pure (wpAny_bind ?_)))
 unfold nsSet
 refine wpAny_bind (wpAny_bind (wpAny_askSetting (wpAny_pure (wpAny_bind (wpAny_mkText (wpAny_bind (wpAny_loadPart ah ?_)))))))
 have c:(!es.toArray.any (·.key.isStr name)&&es.toArray.any (·.refKey))=false:=by
  rw[List.any_toArray,List.any_toArray]
  exact ag.safe
 dsimp only
 rw[aRefKeyMayBeTheName_at,c]
 refine wpAny_updatePart ah ?_
 have a0:∀dT t,(s.heap.update a5 (Obj.putName name dT (.str name t) v)).get? a5=some (dictOf (putL name dT (.str name t) v es) (putN name es n)):=λdT t=>by
  rw[v1 _ ah (by rw [putName_dict];rfl),putName_dict]
 refine wpAny_bind (wpAny_lookBehind (a0 _ _) (pastItsLine_dict (aT (aT (dW qP) xN) (aT (gr bi) (by decide)))) ?_)
 exact wpAny_pure (ak _ _ _ _ (a0 _ _) (Heap.SameBut.update ..) _)
theorem Nl{x C a5:Addr}{es:List DictEntry}{name:Str}{v:Value}{o:Option Value}{Q:Unit->Shared->Prop}(X:K.In s.heap)(aa:s.heap.get? x=some (instObj C a5))(ah:s.heap.get? a5=some (dictOf es n))(aw:hp K C name=true)(ag:LkL name o es)(bi:es.length<=900)(ak:∀h' dT t db,h'.get? a5=some (dictOf (putL name dT (.str name t) v es) db)->Heap.SameBut a5 s.heap h'->∀aF,Q () {s with heap:=h',toks:=aF}):wpAny (model prog w) A (setAttr (.ref x) name v) Q E s:=by
 obtain⟨aw,ij⟩:=aK aw
 obtain⟨aw,e4⟩:=aK aw
 exact set_plain (od:=some (dictOf es n)) X ⟨aa,rfl,rfl,ah⟩ (beq_iff_eq.mp (aK aw).1) (abM (s:={s with toks:=s.toks+1}) X aa ah (aK aw).2 (beq_iff_eq.mp e4) ij ag bi λh' dT t db bU bZ aF=>ak h' dT t db bU bZ aF)
end
section
variable {α:Type}{a b c d e f:α}
theorem in1:a∈[a,b,c,d,e,f]:=.head _
theorem uX:b∈[a,b,c,d,e,f]:=.tail _ (.head _)
theorem xO:c∈[a,b,c,d,e,f]:=.tail _ (.tail _ (.head _))
theorem En:d∈[a,b,c,d,e,f]:=.tail _ (.tail _ (.tail _ (.head _)))
theorem Eo:e∈[a,b,c,d,e,f]:=.tail _ (.tail _ (.tail _ (.tail _ (.head _))))
theorem Ep:f∈[a,b,c,d,e,f]:=.tail _ (.tail _ (.tail _ (.tail _ (.tail _ (.head _)))))
end
section
variable {H cE:T}
theorem TkRows.to(q:TkRows H g h)(a1:au.ta=g.ta)(fk:∀a o,g.im a=some o->au.im a=some o)(le:H.bP cE)(gn:cE.base++cE.dyn=H.base++H.dyn)(k:∀o,h.get? g.ta.rows=some o->h'.get? g.ta.rows=some o):TkRows cE au h':=by
 obtain⟨vs,n,ds,e,r,c⟩:=q
 exact⟨vs,n,ds,a1▸k _ e,r.mono fk,gn▸mq le c⟩
theorem TkIdx.to(q:TkIdx prog w H g h)(a1:au.ta=g.ta)(fk:∀a o,g.im a=some o->au.im a=some o)(le:H.bP cE)(gn:cE.base++cE.dyn=H.base++H.dyn)(k:∀o,h.get? g.ta.idx=some o->h'.get? g.ta.idx=some o):TkIdx prog w cE au h':=by
 obtain⟨o,es,ca,a4,e,x,d,l,nd,r,c,i⟩:=q
 exact⟨o,es,ca,a4,a1▸k _ e,x,d,l,nd,λx hx=>⟨(r x hx).1.mono fk,(r x hx).2⟩,gn▸mq le c,i⟩
theorem TkDecls.to(q:TkDecls H g h)(a1:au.ta=g.ta)(aQ:au.dd=g.dd)(ho:cE.decls.length=H.decls.length)(k:∀o,h.get? g.ta.decls=some o->h'.get? g.ta.decls=some o):TkDecls cE au h':=by
 obtain⟨vs,n,e,l,m⟩:=q
 exact⟨vs,n,a1▸k _ e,aQ▸l,aQ▸ho.trans m⟩
theorem TkDecl.to{p:Addr×Addr}(q:TkDecl H g h j p)(a1:au.ta=g.ta)(fk:∀a o,g.im a=some o->au.im a=some o)(le:H.bP cE)(xP:cE.decls[j+1]? =H.decls[j+1]?)(k:∀o,h.get? p.2=some o->h'.get? p.2=some o):TkDecl cE au h' j p:=by
 obtain⟨a,es,n,e,l,v,b,r,i,t,x,y,a5,c⟩:=q
 exact⟨a1▸fk _ _ a,es,n,k _ e,l,v,b,r.mono fk,i,t,x,y,xP.trans a5,pg le c⟩
theorem TkBnds.to(q:TkBnds H g h)(a1:au.ta=g.ta)(gn:cE.bounds=H.bounds)(k:∀o,h.get? g.ta.du=some o->h'.get? g.ta.du=some o):TkBnds cE au h':=by
 obtain⟨vs,n,e,l,i⟩:=q
 exact⟨vs,n,a1▸k _ e,gn▸l,gn▸i⟩
theorem TkLst.to(q:TkLst H h a)(le:H.bounds.length<=cE.bounds.length)(k:∀o,h.get? a=some o->h'.get? a=some o):TkLst cE h' a:=by
 obtain⟨vs,n,e,l⟩:=q
 exact⟨vs,n,k _ e,aT l le⟩
theorem TkTab.to(q:TkTab g)(a1:au.ta=g.ta)(fk:∀a o,g.im a=some o->au.im a=some o):TkTab au:=by
 obtain⟨es,n,e,a,b,c,d,f,i,j⟩:=q
 exact⟨es,n,a1▸fk _ _ e,a1▸a,a1▸b,a1▸c,a1▸d,a1▸f,a1▸i,j⟩
theorem TkHost.to(q:TkHost g)(a1:au.ta=g.ta)(fk:∀a o,g.im a=some o->au.im a=some o):TkHost au:=by
 obtain⟨es,n,e,a,b⟩:=q
 exact⟨es,n,a1▸fk _ _ e,a1▸a,b⟩
end
section
theorem Er(H:T)(l:List V)(h:H.decls.length<=l.length):H.bP {H with decls:=l}:=⟨.inl rfl,⟨[],(eh _).symm⟩,cq _,h,rfl⟩
theorem Nm(aL:H.Ok)(l:List V):({H with decls:=l}:T).Ok:=⟨aL.plain,aL.met,aL.key,aL.bld,aL.size,aL.once,aL.small⟩
structure Apart (g:Gh):Prop where
 nd:(g.dd.map (·.2)).Nodup
 ne:∀a∈[g.ta.rows,g.ta.idx,g.ta.decls,g.ta.du,g.ta.dfl,g.ta.ew],∀b∈g.dd.map (·.2),a≠b
theorem TOK.apart(D:TOK prog w H g h):Apart g:=by
 have nd:=D.nd
 unfold Gh.bW at nd
 rw[List.nodup_append] at nd
 exact⟨nd.2.1,nd.2.2⟩
theorem Apart.inj(D:Apart g){p q:Addr×Addr}(aO:g.dd[j]? =some q)(aS:g.dd[k]? =some p)(e:q.2=p.2):j=k:=by
 have e1:(g.dd.map (·.2))[j]? =some q.2:=by rw [ni,aO];rfl
 have e2:(g.dd.map (·.2))[k]? =some p.2:=by rw [ni,aS];rfl
 exact(List.getElem?_inj (List.getElem?_eq_some_iff.mp e1).1 D.nd).mp (e1.trans (e▸e2.symm))
theorem xQ(a:Str)(t:Tok):(Value.str a t).isStr a=true:=beq_self_eq_true a
theorem TkDecl.set{p:Addr×Addr}{es:List DictEntry}{dT:Int}{jW:Tok}{db:Nat}{v:V}{i:Int}{t:Tok}(q:TkDecl H g h k p)(bx:h.get? p.2=some (dictOf es n))(fJ:k+1<H.decls.length)(bU:h'.get? p.2=some (dictOf (putL fT dT (.str fT jW) (.int i t) es) db))(le:H.bP {H with decls:=H.decls.set (k+1) v})(al:bI H v=some (.int i)):TkDecl {H with decls:=H.decls.set (k+1) v} g h' k p:=by
 obtain⟨a,dN,anr,e,l,x,b,r,Es,ans,x0,y,a5,c⟩:=q
 have bq:dN=es:=by
  have:=(e.symm.trans bx)
  injection this with this
  injection this with _ _ this _
  injection this with this _
  exact Array.toList_inj.mpr this|>λq=>by simpa using q
 rw[bq] at b y l
 have ne:fT≠lc:=by decide
 exact⟨a,_,db,bU,(mS y).len.symm▸l,x,((mS b).SM (xQ ..) (λ_ _=>rfl) ne).get,r,i,t,v,((mS y).put (xQ ..)).get,List.getElem?_set_self fJ,pg le al⟩
theorem abN(C:Cfg prog w H g s.heap)(P:Tp g.ta K)(lP:hp K g.ta.fg fT=true){p:Addr×Addr}{v:V}{i:Int}{t:Tok}(aS:g.dd[k]? =some p)(al:bI H v=some (.int i)){Q:Unit->Shared->Prop}(ak:∀h' aF,Ext g s.heap g h'->Cfg prog w {H with decls:=H.decls.set (k+1) v} g h'->Q () {s with heap:=h',toks:=aF}):wpAny (model prog w) A (setAttr (.ref p.1) fT (.int i t)) Q E s:=by
 have D:=C.tok
 have K:=D.decl k p aS
 obtain⟨aa,es,n,ah,aC,_,_,_,_,_,_,y,_⟩:=id K
 refine Nl (C.gq P) (C.bn _ _ aa) ah lP (mS y) (aT aC (by decide)) λh' dT jW db bU bZ aF=>?_
 have cj:=D.apart
 have Nn:p.2∈g.dd.map (·.2):=tk (oK aS)
 have No:p.2∈g.bW:=zF _ Nn
 have ext:=SameBut.ext' bZ
 have se:∀{a},a∈[g.ta.rows,g.ta.idx,g.ta.decls,g.ta.du,g.ta.dfl,g.ta.ew]->∀o,s.heap.get? a=some o->h'.get? a=some o:=λaw o=>ext _ o (cj.ne _ aw _ Nn)
 have len:(H.decls.set (k+1) v).length=H.decls.length:=List.length_set
 have le:=Er H (H.decls.set (k+1) v) (dW len.symm)
 have bn:∀a o,g.im a=some o->h'.get? a=some o:=λa o e=>ext a o (λq=>aI ((D.out _ No).symm.trans (q▸e))) (C.bn a o e)
 have fJ:k+1<H.decls.length:=by
  obtain⟨_,_,_,_,q⟩:=D.decls
  exact q▸Nat.succ_lt_succ (List.getElem?_eq_some_iff.mp aS).1
 have xR:∀a o,g.im a=some o->g.im a=some o:=λ_ _ e=>e
 refine ak h' aF ⟨rfl,xR,λ_ _ _=>rfl,λa o e m=>ext a o (λq=>m (q▸No)) e,.refl _ _,λa o e=>?_⟩ ⟨bn,C.base,Nm C.ok _,?_,⟨aT (dW len) C.line.1,C.line.2⟩,C.mods⟩
 .exact(eR (a=p.2)).elim (λq=>q▸⟨_,bU⟩) λq=>⟨o,ext a o q e⟩
 .refine⟨D.tab,D.cU,D.host,D.hu,D.rows.to rfl xR le rfl (se in1),D.idx.to rfl xR le rfl (se uX),D.k2,D.decls.to rfl rfl len (se xO),λj q aO=>?_,D.du.to rfl rfl (se En),D.dfl.to (cq _) (se Eo),D.ew.to (cq _) (se Ep),D.nd,D.out⟩
  rcases eR (j=k) with e|e
  .rw[e] at aO |-
   rw[<-Option.some.inj (aS.symm.trans aO)]
   exact K.set ah fJ bU le al
  .exact(D.decl j q aO).to rfl xR le (List.getElem?_set_ne λq=>e (Nat.succ.inj q).symm) λo=>ext _ o λbq=>e (cj.inj aO aS bq)
end
section
inductive NumI (H:T) (v:V) (u:Value):Prop
 |mk (i:Int) (t:Tok) (e:u= .int i t) (c:bI H v=some (.int i))
theorem abO{v:V}{u:Value}(h:mj v=true)(al:Val prog w H g g.im u v):NumI H v u:=by
 rcases v
 case int=>obtain⟨t,e⟩:=al.int_inv;exact⟨_,t,e,rfl⟩
 case ty=>
  obtain⟨d,aa,ah⟩:=al
  obtain⟨i,_,_,e⟩:=hB aa
  rw[e] at aa ah
  obtain⟨t,e⟩:=ah.dat
  exact⟨_,t,e,aa⟩
 all_goals exact c2 h
theorem abP(S:cx prog w G ta n)(cM:fb prog w G ta n)(B:Bk prog w G ta K bp mb)(lP:hp K ta.fg fT=true){xp cj pp:Pos}{v:V}{bw:Fl}(aa:aN G n c J e H=some (v,aD))(aq:a2 J x=some (.decl k,false))(hx:d6 c x=true)(aX:mj v=true)(bC:bv G n c J bu {aD with decls:=aD.decls.set k v}=some (bw,bb,O))(ag:O.cnt<=ba):
  hQ prog w ta (n+1) c J (.Assign [.Attribute (.Name x xp) fT cj] e pp::bu) H bw bb O:=by
 intro A env ai g s Q E R T N C F ak
 have bz:=R.less (cG n)
 obtain⟨gl,fc⟩:=n7 hx
 have cA:=lO bC (jR aa C.ok).2
 have cP:aD.cnt<=ba:=aT cA.1.cnt ag
 refine wpAny_execs_cons (plainObj_wpAny_Assign_Attribute ?_ (xH (mA aa) _ rfl _ _))
 refine S c J e H v aD aa cP A env ai g s _ E bz T N C F λaV aB bh u aR k₁ aZ bT=>?_
 have dA:=F.ext k₁ aR aZ.bn
 refine jh (s:={s with heap:=aB,toks:=bh}) N dA (gl.imp id .inl) aq λz bi=>?_
 obtain⟨i,t,e1,ap⟩:=abO aX bT
 obtain⟨p,bU,bZ,e2⟩:=bi
 obtain⟨j,e3⟩:=c0 bU
 rw[e1,e2]
 rw[e3] at bZ bC
 have hl:=aR.ta.trans T
 refine abN (s:={s with heap:=aB,toks:=bh}) aZ (hl▸B.tp) (hl▸lP) bZ ap λa8 b8 cn b3=>?_
 have le:=Er aD (aD.decls.set (j+1) v) (dW List.length_set.symm)
 exact mR (s:=s) cM bC ag bz T N ⟨(aR.trans cn).toS ai,k₁.trans le,b3,.refl _ _,dA.ext le cn b3.bn,λy a _ q=>(q.ext F aR).ext dA cn⟩ ak
end
section
inductive FrOwn (prog:Program) (w:World) (H:T) (g:Gh) (h h':Heap) (env:Env) (y:Str) (a:Addr) (v:V):Prop
 |mk (F:FrR prog w H g h' env [(y,v,true)] (more (dw env.locals env.cells) a y)) (at_:OwnAt env h' y a) (C:Cfg prog w H g h') (X:Ext g h g h') (n:∀b r,dw env.locals env.cells b=some r->h.get? b=none)
theorem p8{y z:Str}{v u:V}{b o:Bool}(h:a2 [(y,v,b)] z=some (u,o)):z=y/\v=u/\b=o:=by
 rcases eA (show cond (a9 y z) (some (v,b)) none=some (u,o) from h) with ⟨e,h⟩|⟨_,h⟩
 .exact⟨(sEq_iff.mp e).symm,Prod.mk.inj (Option.some.inj h)⟩
 .exact aI h
theorem abQ{s c1:Shared}(C:Cfg prog w H g s.heap)(S:ScopeOk sc)(aa:env.scope=sc)(bC:env.cells=cellsFrom n sc.names []){v:V}(aY:lk sc.names y=some .local\/lk sc.names y=some .cell)(xS:y≠dM)(x:InCallC s env.locals (bindL env.kindOf [(y,.ref a)] λ_=>none) env.cells (bindC env.kindOf [(y,.ref a)] λ_=>none) c1)(dB:g.im a=none)(d9:a∉g.bW)(ap:hE v=true)(al:Val prog w H g s.heap.get? (.ref a) v):
  FrOwn prog w H g s.heap c1.heap env y a v:=by
 have nd:([(y,Value.ref a)].map (·.1)).Nodup:=List.nodup_cons.mpr ⟨nofun,.nil⟩
 have b4:(List.lookup y [(y,Value.ref a)]).or none=some (.ref a):=by rw [n2];rfl
 obtain⟨F,aZ,aR,fresh⟩:=LH C S aa bC (bs:=[(y,.ref a)]) nd x (J:=[]) (λ_ _ _ h=>aI h) rfl
 obtain⟨o,aG,_⟩:=xa ap dB al
 have keep:=x.toInCall.keep
 have pj:dw env.locals env.cells a=none:=by
  rcases e:dw env.locals env.cells a with _|r
  .rfl
  .exact aI ((fresh a r e).symm.trans aG)
 have j4:=F.more (x:=y) pj ⟨dB,d9,o,keep _ _ aG⟩
 have Np:Hold prog w H g c1.heap (more (dw env.locals env.cells) a y) y (.ref a) v true:=⟨ap,a,rfl,Nf,al.seen (.refl H) (λ_ _ e=>e) (λo e=>keep _ _ e) ap⟩
 have pW:∀z,env.kindOf z=lk sc.names z:=λz=>by rw [rH];unfold Env.kindOf;rw[aa]
 refine⟨⟨⟨_,x.toInCall.ns,λz u b9 aj bi=>?_⟩,λz c Nq=>?_,j4.loc,j4.sep,?_⟩,?_,aZ,aR,fresh⟩
 .obtain⟨e1,e2,e3⟩:=p8 bi
  rw[e1] at aj |-
  rw[<-e2,<-e3]
  exact⟨.ref a,(rJ aj _ nd).trans b4,Np⟩
 .obtain⟨_,_,ah,_⟩:=j4.cl z c Nq
  refine⟨_,x.cell z c Nq,ah,λu b9 aj bi=>?_⟩
  obtain⟨e1,e2,e3⟩:=p8 bi
  rw[e1] at aj |-
  rw[<-e2,<-e3]
  exact⟨.ref a,(ut (λe=>DP e aj rfl) _ nd).trans b4,Np⟩
 .show cond (a9 y dM) _ _=none
  rw[pO xS];rfl
 .rcases aY with aY|aY
  .have aj:env.kindOf y=some .local:=(pW y).trans aY
   exact .loc aj _ x.toInCall.ns ((rJ aj _ nd).trans b4)
  .obtain⟨c,hP⟩:=Df S n aY
   rw[<-bC] at hP
   have aj:env.kindOf y=some .cell:=(pW y).trans aY
   refine .cell aj c hP ?_
   have q:=x.cell y c hP
   rw[(ut (λe=>nomatch e.symm.trans aj) _ nd).trans b4] at q
   exact q
noncomputable def only (a b:Addr):Option Ro:=cond (Nat.beq b a) (some .loc) none
theorem Nr{a b:Addr}(h:b≠a):only a b=none:=by unfold only;rw[hn h];rfl
theorem abR{a b:Addr}(h:only a b=none):b≠a:=λe=>by
 unfold only at h
 rw[e,jF] at h
 exact nomatch h
structure Lent (prog:Program) (w:World) (H:T) (g:Gh) (h:Heap) (a:Addr) (f2:V) (O:T) (au:Gh) (h':Heap):Prop where
 X:ExtS (only a) g h au h'
 k:H.bP O
 C:Cfg prog w O au h'
 c:hE f2=true
 v:Val prog w O au h'.get? (.ref a) f2
theorem abS(NL:ta.h0.NoLimit)(S:fb prog w G ta n){fn:Fn}{v f2:V}{c8:am}(iQ:fn.ps=[y])(aJ:bv G n ⟨fn.sc,fn.bd⟩ [(y,v,true)] fn.bd H=some (.next,c8,O))(aq:a2 c8 y=some (f2,true))(Et:kv y fn.bd=false)(ag:O.cnt<=ba){f:Value}(aL:FnOk ta.h0 K fn f)(R:Room A (n+1))(eU:g.ta=ta)(C:Cfg prog w H g s.heap)(dB:g.im a=none)(d9:a∉g.bW)(ap:hE v=true)(al:Val prog w H g s.heap.get? (.ref a) v)(ak:∀au h' aF,Lent prog w H g s.heap a f2 O au h'->Q .none {s with heap:=h',toks:=aF}):wpAny (model prog w) A (call f [.ref a]) Q E s:=by
 have Eu:=aL.par y (by rw [iQ];exact dV)
 have xS:y≠dM:=λq=>Eu.elim (λe=>(aL.sc.good _ _ e).2.2.2 q) λe=>(aL.sc.good _ _ e).2.2.2 q
 refine LM NL aL R.call eU C (by rw [iQ];exact cq _) (by rw [iQ];exact iB _) λdv env c1 ie Z=>?_
 obtain⟨m,nR⟩:=Z.cl
 have x:=Z.x
 rw[iQ] at x
 obtain⟨F,n9,aZ,aR,fresh⟩:=abQ C aL.sc Z.sc nR Eu xS x dB d9 ap al
 obtain⟨aB,Dk,iR,rK⟩:=Z.x.done
 rw[iR] at F n9 aZ |-
 refine S ⟨fn.sc,fn.bd⟩ _ fn.bd H .next c8 O aJ ag (A.deeper env) env _ g _ _ _ (R.deeper env) eU Z.N aZ F λau h' aF et f X k ct Gw iP Fl St=>?_
 obtain⟨e,abT⟩:=Fl
 rw[e]
 have Y:=Ed (s:=s) Z.N ct abT Eu xS aq (St y a Et n9)
 refine ak au h' aF ⟨⟨X.ta,X.im,λb q e=>X.new b q (rK b q e),λb q e m ao=>X.old b q (rK b q e) m ?_,?_,λb q e=>X.live b q (rK b q e)⟩,k,ct,Y.c,Y.v⟩
 .refine(Em (abR ao)).trans ?_
  rcases bq:dw env.locals env.cells b with _|r
  .rfl
  .exact aI ((fresh b r bq).symm.trans e)
 .obtain⟨m,cC,cA⟩:=X.dd
  exact⟨m,cC,λp aS=>gU (λa o e=>⟨o,rK a o e⟩) (cA p aS)⟩
end
section
theorem abU(cM:fb prog w G ta n)(B:Bk prog w G ta K bp mb){J c8 bb:am}{f x y:Str}{cR p q pp:Pos}{fn:Fn}{v f2:V}{bw:Fl}(aq:a2 J x=some (v,true))(hx:d6 c x=true)(aj:lk c.sc.names f=some .globalImplicit)(a6:G.fn f=some fn)(iQ:fn.ps=[y])(Et:kv y fn.bd=false)(aa:bv G n ⟨fn.sc,fn.bd⟩ [(y,v,true)] fn.bd H=some (.next,c8,aD))(Ev:a2 c8 y=some (f2,true))(ah:bv G n c (cb J x f2 true) bu aD=some (bw,bb,O))(ag:O.cnt<=ba):
  hQ prog w ta (n+1) c J (.Expr (.Call (.Name f cR) [.Name x p] [] q) pp::bu) H bw bb O:=by
 intro A env ai g s Q E R T N C F ak
 have bz:=R.less (cG n)
 obtain⟨gl,fc⟩:=n7 hx
 have cP:=aT (lO ah (lO aa C.ok.bld).2).1.cnt ag
 obtain⟨nQ,uB,aL⟩:=B.fn f fn a6
 obtain⟨af,_,_,ef,DB⟩:=aL.ex
 rw[ef] at uB aL
 obtain⟨ad,e8,n9,ap,al,uU,_⟩:=xt N C F gl fc aq
 have Nt:=F.sep ad _ e8
 refine wpAny_execs_cons (wpAny_Expr_any ?_ (xF N) (xG rfl _ _))
 refine Call_Name rfl (pA B C T N aj uB ?_)
 refine gi (P:=λh=>K.In h) rfl (λh X=>keeps_K DB h X) ?_
 refine args_cons (uU A p _ E ?_) rfl
 refine args_nil ⟨Cfg.gq (s:=s) C (T▸B.tp),?_⟩
 refine abS B.th cM iQ aa Ev Et cP aL R T C Nt.im Nt.mu ap al λaV aB bh Y=>?_
 have aR:=Y.X
 have at_:∀{b r},ai b=some r->b≠ad->∀o,s.heap.get? b=some o->aB.get? b=some o:=λe ne o aG=>aR.old _ o aG (F.sep _ _ e).mu (Nr ne)
 have abV:ic aV aB ai:=λb r e=>by
  obtain⟨bU,bZ,o,dJ⟩:=F.sep b r e
  exact⟨(aR.new b o dJ).trans bU,λq=>bZ ((aR.bW dJ).mp q),aR.live b o dJ⟩
 exact mR (s:=s) cM ah ag bz T N ⟨⟨aR.ta,aR.im,aR.new,λb o e m ao=>aR.old b o e m (Nr λq=>aI (ao.symm.trans (q▸e8))),aR.dd,aR.live⟩,Y.k,Y.C,.refl _ _,F.put Y.k aR.le n9 e8 fc (λ_ _=>at_) abV Y.c Y.v,
  λz b _ gW=>gW.to F (at_ F.loc (mJ F.loc e8 nofun)) λc ap=>at_ ap (mJ ap e8 nofun)⟩ ak
abbrev Ew (G:Gl) (n:Nat) (c:Cx) (t:Expr) (b:List Stmt):V->am->T->Option (Fl×am×T):=λv J H=>od (li c t v J) λJ=>bv G n c J b H
theorem Nu{t:Expr}{b:List Stmt}(v:V)(J:am)(H:T):dm H (Ew G n c t b v J H):=λa bb O h=>by
 obtain⟨c8,_,h⟩:=bD h
 exact El c8 H _ _ _ h
structure ForF (prog:Program) (w:World) (ta:Ta) (A:Around) (n:Nat) (c:Cx) (cv:List V) (s:Shared) (g aV:Gh) (aD:T) (env:Env) (I:Addr) (cR:List Addr) (P:Nat->Value->Prop) (St:Nat->Heap->Prop):Prop where
 R:Room A n
 tq:g.ta=ta
 N:EnvR c.sc env
 W:Walks prog w A I cR [I] cv.length P St
 zy:∀b∈cR,b=I\/∃o,aV.im b=some o
 at_:∀i v,i<cv.length->P i v->∃u,cv[i]? =some u/\Val prog w aD aV aV.im v u
 H8:∀i h,St i h->∃o,h.get? I=some o/\itCls o
 nI:s.heap.get? I=none
structure ForAt (prog:Program) (w:World) (cv:List V) (s:Shared) (g aV:Gh) (aD:T) (env:Env) (ai:Addr->Option Ro) (I:Addr) (St:Nat->Heap->Prop) (st:Stmt) (h:Heap) (au:Gh) (cE:T) (oh:am) (lQ:Addr->Option Ro) (i:Nat):Prop where
 hi:i<=cv.length
 X:ExtS ai g s.heap au h
 Gl:aV.le au
 ks:aD.bP cE
 C:Cfg prog w cE au h
 Gw:Grow ai s.heap lQ
 F:FrR prog w cE au h env oh lQ
 ph:lQ I=none
 im:au.im I=none
 mu:I∉au.bW
 sat:St i h
 ow:∀y a,fV y 12 st=false->OwnAt env s.heap y a->OwnAt env h y a
inductive ForIn (prog:Program) (w:World) (G:Gl) (n:Nat) (c:Cx) (t:Expr) (b:List Stmt) (cv:List V) (s:Shared) (g aV:Gh) (aD:T) (env:Env) (ai:Addr->Option Ro) (I:Addr) (St:Nat->Heap->Prop) (st:Stmt) (f:Fl) (c8:am) (bS:T) (k:Nat) (bQ:Shared):Prop
 |mk (h:Heap) (aF:Nat) (au:Gh) (cE:T) (oh:am) (lQ:Addr->Option Ro) (i:Nat) (e:bQ={s with heap:=h,toks:=aF}) (gm:k=cv.length - i) (Z:ForAt prog w cv s g aV aD env ai I St st h au cE oh lQ i) (ev:je (Ew G n c t b) (cv.drop i) oh cE=some (f,c8,bS))
section
variable {t:Expr}{b:List Stmt}{cv:List V}{g aV:Gh}{aD bS:T}{I:Addr}{cR:List Addr}{P:Nat->Value->Prop}{St:Nat->Heap->Prop}{st:Stmt}{f:Fl}{c8:am}
def Ex(prog:Program)(w:World)(s:Shared)(g:Gh)(aD bS:T)(env:Env)(ai:Addr->Option Ro)(st:Stmt)(f:Fl)(c8:am)(R:Result->Shared->Prop):Prop:=
 ∀h aF au et j3,ExtS ai g s.heap au h->aD.bP bS->Cfg prog w bS au h->Grow ai s.heap et->ic au h et->Dg prog w bS au h env et c8 f j3->(∀y a,fV y 12 st=false->OwnAt env s.heap y a->OwnAt env h y a)->R (.ok j3) {s with heap:=h,toks:=aF}
theorem Nv(Z:ForF prog w ta A n c cv s g aV aD env I cR P St){h au cE oh lQ i}(K:ForAt prog w cv s g aV aD env ai I St st h au cE oh lQ i){xT:Addr->Option Ro}{aB a8:Heap}{cD:Gh}(X:ExtS xT au aB cD a8)(hI:xT I=none)(p1:ic au aB xT)(st:St j aB):St j a8:=
 Z.W.frame _ _ _ st λd aQ o e=>(Z.zy d aQ).elim (λq=>q▸X.old I o (q▸e) K.mu hI) λq=>q.elim λb9 bq=>by
  have e2:=K.Gl.im _ _ bq
  refine X.old _ o e (λq=>aI ((K.C.tok.out _ q).symm.trans e2)) ?_
  rcases q:xT d with _|r
  .rfl
  .exact aI ((p1 d r q).im.symm.trans e2)
theorem abW(cM:fb prog w G ta n)(Z:ForF prog w ta A n c cv s g aV aD env I cR P St)(cP:bS.cnt<=ba){R:Result->Shared->Prop}(r7:∀{y},fV y 12 st=false->o7 y t=false/\kv y b=false)(j0:Ex prog w s g aD bS env ai st f c8 R){bQ:Shared}(hI:ForIn prog w G n c t b cv s g aV aD env ai I St st f c8 bS k bQ):codeAny (model prog w) A (.forLoop t (.ref I) b [] env) R bQ:=by
 refine codeAny_forLoop_any (ForIn prog w G n c t b cv s g aV aD env ai I St st f c8 bS) (λk bQ hI=>?_) k hI
 obtain⟨h,aF,au,cE,oh,lQ,i,e,gm,K,ev⟩:=hI
 have kH:au.ta=ta:=K.X.ta.trans Z.tq
 rw[e]
 rcases oP i cv.length with fJ|D4
 .rw[Ie fJ] at ev
  obtain⟨j1,Ey,n5,a1,Ez⟩:=Ej ev
  obtain⟨abX,ao,xc⟩:=bD a1
  refine Z.W.item i _ _ _ fJ K.sat λv a8 b8 D1 uM p0=>?_
  have ext:∀a o,a≠I->h.get? a=some o->a8.get? a=some o:=λa o ne e=>p0 a o (λq=>ne (dG q)) e
  obtain⟨u,bG,hV⟩:=Z.at_ i v fJ D1
  rw[oI fJ] at bG
  rw[<-Option.some.inj bG] at hV
  obtain⟨uL,uQ,abY⟩:=Z.H8 _ _ uM
  have cn:=K.X.own Z.nI ext
  have b3:=K.C.own K.im K.mu ext
  have gj:=K.F.apart K.ph ext
  have iT:=hV.mono K.ks K.Gl K.Gl.im
  refine ab8 (s:={s with heap:=a8,toks:=b8}) ao iT uQ abY ?_
  refine ab6 (s:={s with heap:=a8,toks:=b8}) Z.R Z.N ao b3 gj iT λbN gX Y=>?_
  have Nw:=cn.trans Y.X K.Gw
  have EA:bN.get? I=some uL:=Y.X.old _ _ uQ K.mu K.ph
  have abZ:St (i+1) bN:=Nv Z K Y.X K.ph gj.sep uM
  have mb:=lO xc K.C.ok.bld
  have ac0:n5.cnt<=ba:=Ek (λJ H=>wP Nu) Ez mb.2 cP
  refine cM c abX b cE j1 Ey n5 xc ac0 A env lQ au {s with heap:=bN,toks:=gX} _ _ Z.R kH Z.N Y.C Y.F λr2 b5 g0 Nx j3 hO mM f5 Ny ac1 xU ac2=>?_
  have Nz:=Nw.trans hO K.Gw
  have uS:=K.Gw.trans Nw Ny
  have own:∀y a,fV y 12 st=false->OwnAt env s.heap y a->OwnAt env b5 y a:=λy a aY q=>ac2 y a (r7 aY).2 (Y.st y a (r7 aY).1 ((K.ow y a aY q).step K.F (λr e=>aI (K.ph.symm.trans e)) ext))
  rcases j1 with _|v
  .obtain⟨e,mN⟩:=xU
   rw[e]
   exact⟨_,gm▸Im _ _ fJ,b5,g0,r2,n5,Ey,Nx,i+1,rfl,rfl,⟨fJ,Nz,K.Gl.trans hO.le,K.ks.trans mM,f5,uS,mN,Ny.no EA K.ph,(hO.new I uL EA).trans K.im,λq=>K.mu ((hO.bW EA).mp q),Nv Z K hO K.ph Y.F.sep abZ,own⟩,Ez⟩
  .obtain⟨z,e,_⟩:=id xU
   rw[e] at xU |-
   revert cP j0
   exact rp (show some (Fl.ret v,Ey,n5)=some (f,c8,bS) from Ez) (P:=λf c8 bS=>bS.cnt<=ba->Ex prog w s g aD bS env ai st f c8 R->_) λ_ j0=>j0 b5 g0 r2 Nx _ Nz (K.ks.trans mM) f5 uS ac1 xU own
 .have ig:=tu K.hi D4
  rw[ig,zO] at ev
  refine Z.W.done _ _ _ (ig▸K.sat) λa8 b8 p0=>wpAny_execs_nil ?_
  have ext:∀a o,a≠I->h.get? a=some o->a8.get? a=some o:=λa o ne e=>p0 a o (λq=>ne (dG q)) e
  have gj:=K.F.apart K.ph ext
  revert cP j0
  exact rp (show some (Fl.next,oh,cE)=some (f,c8,bS) from ev) (P:=λf c8 bS=>bS.cnt<=ba->Ex prog w s g aD bS env ai st f c8 R->_) λ_ j0=>j0 a8 b8 au lQ .next (K.X.own Z.nI ext) K.ks (K.C.own K.im K.mu ext) K.Gw gj.sep ⟨rfl,gj⟩ λy a aY q=>(K.ow y a aY q).step K.F (λr e=>aI (K.ph.symm.trans e)) ext
end
set_option backward.match.sparseCases true in
theorem ac3(p3:rW prog w G ta n)(cM:fb prog w G ta n){t it:Expr}{b:List Stmt}{cv:List V}{bw:Fl}(aa:gA G n c J it H=some (cv,aD))(h:thn (je (Ew G n c t b) cv J aD) (λJ H=>bv G n c J bu H)=some (bw,bb,O))(ag:O.cnt<=ba):
  hQ prog w ta (n+1) c J (.For t it b [] pp::bu) H bw bb O:=by
 intro A env ai g s Q E R T N C F ak
 have bz:=R.less (cG n)
 obtain⟨f,c8,bS,ah,aC⟩:=Ej h
 have cC:=(gT G n n (cq _)).i c J it H _ _ aa C.ok.bld
 have cA:=wP Nu _ _ _ ah cC.2
 have cP:bS.cnt<=ba:=Ek El aC cA.2 ag
 have r7:∀{y},fV y 12 (.For t it b [] pp)=false->o7 y t=false/\kv y b=false:=λ{y} aY=>by
  have q:=gI (show (o7 y t||b.any (fV y 11)||([]:List Stmt).any (fV y 11))=false from aY)
  exact⟨(gI q.1).1,Eb (gI q.1).2⟩
 refine wpAny_execs_cons (wpAny_For ?_ (MP aa env))
 refine p3 c J it H cv aD aa (aT cA.1.cnt cP) A env ai g s _ E bz T N C F λaV aB bh xE aR k₁ aZ D8=>?_
 obtain⟨I,cR,P,St,e,hH,iK,C8,ac4,W,ac5,ac6,ac7,ac8⟩:=D8
 rw[e]
 refine abW cM (st:=.For t it b [] pp) (ai:=ai) (f:=f) (c8:=c8) (bS:=bS) (s:=s) ⟨bz,T,N,W,ac6,ac8,ac7,hH⟩ cP r7 (λa8 b8 cD abn j3 X k ct Gw iP Fl own=>?_) (k:=cv.length)
  ⟨aB,bh,aV,aD,J,ai,0,rfl,rfl,⟨iB _,aR.toS ai,.refl _,.refl _,aZ,.refl _ _,F.ext k₁ aR aZ.bn,F.no hH,C8,ac4,ac5,λy a _ q=>q.ext F aR⟩,ah⟩
 exact Na (s:=s) (st:=.For t it b [] pp) cM aC ag bz T N X (k₁.trans k) ct Gw iP Fl own ak (P:=λj3=>match j3 with| .next=>wpAny (model prog w) A (execs bu env) Q E {s with heap:=a8,toks:=b8}|f=>Q f {s with heap:=a8,toks:=b8}) id λ_=>id
end
inductive XkI (e:Expr):Xk->Prop
 |i3 (x m:Str) (a:Expr) (p mp q:Pos) (h:e= .Call (.Attribute (.Name x p) m mp) [a] [] q):XkI e (.i3 x m a (mp.endLine==q.line))
 |fn (f x:Str) (cR p q:Pos) (h:e= .Call (.Name f cR) [.Name x p] [] q):XkI e (.fn f x)
 |eo:XkI e .eo
theorem ac9(a:Expr)(q:Pos)(f:Expr):XkI (.Call f [a] [] q) (Cm a q f):=by
 rcases f
 case Attribute o m mp=>
  show XkI _ (match ek o with|some x=> .i3 x m a (mp.endLine==q.line)|none=> .eo)
  rcases e:ek o with _|x
  .exact .eo
  .obtain⟨p,e⟩:=jS e
   rw[e];exact .i3 x m a p mp q rfl
 case Name f cR=>
  show XkI _ (match ek a with|some x=> .fn f x|none=> .eo)
  rcases e:ek a with _|x
  .exact .eo
  .obtain⟨p,e⟩:=jS e
   rw[e];exact .fn f x cR p q rfl
 all_goals exact .eo
theorem aca(e:Expr):XkI e (wx e):=by
 rcases e
 case Call f as ks q=>
  rcases ks with _|_
  .show XkI _ (match fD as with|some a=>Cm a q f|none=> .eo)
   rcases e:fD as with _|a
   .exact .eo
   .rw[nN e];exact ac9 a q f
  .exact .eo
 all_goals exact .eo
inductive AkI (cO:List Expr):Ak->Prop
 |nm (x:Str) (p:Pos) (h:cO=[.Name x p]):AkI cO (.nm x)
 |sub (x:Str) (k:Expr) (xp p:Pos) (h:cO=[.Subscript (.Name x xp) k p]):AkI cO (.sub x k)
 |att (x a:Str) (xp p:Pos) (h:cO=[.Attribute (.Name x xp) a p]):AkI cO (.att x a)
 |bad:AkI cO .bad
theorem acb(t:Expr):AkI [t] (JQ t):=by
 rcases t
 case Name x p=>exact .nm x p rfl
 case Subscript b k p=>
  show AkI _ (match ek b with|some x=> .sub x k|none=> .bad)
  rcases e:ek b with _|x
  .exact .bad
  .obtain⟨q,e⟩:=jS e
   rw[e];exact .sub x k q p rfl
 case Attribute b a p=>
  show AkI _ (match ek b with|some x=> .att x a|none=> .bad)
  rcases e:ek b with _|x
  .exact .bad
  .obtain⟨q,e⟩:=jS e
   rw[e];exact .att x a q p rfl
 all_goals exact .bad
theorem NA:∀cO:List Expr,AkI cO (rr cO)
 |[]=> .bad
 |[t]=>acb t
 |_::_::_=> .bad
section
variable {bw:Fl}
theorem EB(S:cx prog w G ta n)(cM:fb prog w G ta n)(ap:pa e=false)(h:ob (aN G n c J e H) (λ_ H=>bv G n c J bu H)=some (bw,bb,O))(ag:O.cnt<=ba):hQ prog w ta (n+1) c J (.Expr e pp::bu) H bw bb O:=by
 obtain⟨v,aD,aa,ah⟩:=b1 h
 exact abk S cM ap aa ah ag
theorem acd(S:cx prog w G ta n)(cM:fb prog w G ta n){x m:Str}{a:Expr}{p mp q:Pos}{l:List V}(aq:a2 J x=some (.list l,true))(h:Cs c J (aN G n c J) (λJ H=>bv G n c J bu H) x m a (mp.endLine==q.line) l H=some (bw,bb,O))(ag:O.cnt<=ba):
  hQ prog w ta (n+1) c J (.Expr (.Call (.Attribute (.Name x p) m mp) [a] [] q) pp::bu) H bw bb O:=by
 obtain⟨hx,h⟩:=br h
 obtain⟨hx,dS⟩:=aK hx
 rcases eA h with ⟨av,h⟩|⟨_,h⟩
 .obtain⟨v,aD,aa,h⟩:=b1 h
  obtain⟨a6,h⟩:=br h
  rw[sEq_iff.mp av]
  exact abh S cM aq hx dS aa a6 h ag
 .obtain⟨av,h⟩:=br h
  obtain⟨v,aD,aa,h⟩:=b1 h
  obtain⟨k,e,h⟩:=bD h
  obtain⟨a6,h⟩:=br h
  rw[t4 e] at aa
  rw[sEq_iff.mp av]
  exact abj S cM aq hx dS aa a6 h ag
theorem ace(cM:fb prog w G ta n)(B:Bk prog w G ta K bp mb){f x:Str}{cR p q:Pos}{fn:Fn}{v:V}(aq:a2 J x=some (v,true))(hx:(d6 c x&&gy c f)=true)(a6:G.fn f=some fn)(h:J2 J (λJ H=>bv G n c J bu H) (λfn J H=>bv G n ⟨fn.sc,fn.bd⟩ J fn.bd H) x v H fn=some (bw,bb,O))(ag:O.cnt<=ba):hQ prog w ta (n+1) c J (.Expr (.Call (.Name f cR) [.Name x p] [] q) pp::bu) H bw bb O:=by
 obtain⟨y,iQ,h⟩:=bD h
 obtain⟨av,h⟩:=br h
 obtain⟨j1,c8,aD,aa,h⟩:=rn h
 rcases j1 with _|_
 .obtain⟨f2,Ev,h⟩:=bD h
  exact abU cM B aq (aK hx).1 (ry (aK hx).2) a6 (nN iQ) (Bool.tg (aK av).2) aa (Mg Ev) h ag
 .exact aI h
theorem acf(S:cx prog w G ta n)(cM:fb prog w G ta n)(B:Bk prog w G ta K bp mb)(h:Cu G c J (aN G n c J) (λJ H=>bv G n c J bu H) (λfn J H=>bv G n ⟨fn.sc,fn.bd⟩ J fn.bd H) e H (wx e)=some (bw,bb,O))(ag:O.cnt<=ba):hQ prog w ta (n+1) c J (.Expr e pp::bu) H bw bb O:=by
 have k:=aca e
 generalize wx e=q at h k
 rcases k with ⟨x,m,a,p,mp,q,e1⟩|⟨f,x,cR,p,q,e1⟩|_
 .have h:wE c J (aN G n c J) (λJ H=>bv G n c J bu H) x m a e (mp.endLine==q.line) H (pb J x)=some (bw,bb,O):=h
  rcases e2:pb J x with _|l<;>rw[e2] at h
  .exact EB S cM (e1▸rfl) h ag
  .rw[e1];exact acd S cM (Zk e2) h ag
 .have h:wF c J (aN G n c J) (λJ H=>bv G n c J bu H) G (λfn J H=>bv G n ⟨fn.sc,fn.bd⟩ J fn.bd H) f x e H (nG J x)=some (bw,bb,O):=h
  rcases e2:nG J x with _|v<;>rw[e2] at h
  .exact EB S cM (e1▸rfl) h ag
  .obtain⟨hx,h⟩:=br h
   obtain⟨fn,a6,h⟩:=bD h
   rw[e1];exact ace cM B (Mg e2) hx a6 h ag
 .obtain⟨ap,h⟩:=br h
  exact EB S cM (Bool.tg ap) h ag
theorem acg(S:cx prog w G ta n)(p5:r5 prog w G ta n)(p6:mQ prog w G ta n)(cM:fb prog w G ta n)(B:Bk prog w G ta K bp mb)(lP:hp K ta.fg fT=true){cO:List Expr}(h:Ct c J (aN G n c J) (λJ H=>bv G n c J bu H) e H (rr cO)=some (bw,bb,O))(ag:O.cnt<=ba):
  hQ prog w ta (n+1) c J (.Assign cO e pp::bu) H bw bb O:=by
 have k:=NA cO
 generalize rr cO=q at h k
 rcases k with ⟨x,p,e1⟩|⟨x,k,xp,p,e1⟩|⟨x,a,xp,p,e1⟩|_
 .obtain⟨hx,h⟩:=br h
  obtain⟨v,aD,aa,h⟩:=b1 h
  obtain⟨aG,h⟩:=br h
  rw[e1];exact abL S p5 p6 cM hx aa aG h ag
 .obtain⟨v,aD,aa,h⟩:=b1 h
  obtain⟨l,aq,h⟩:=bD h
  obtain⟨hx,h⟩:=br h
  obtain⟨i,bS,ah,h⟩:=b1 h
  obtain⟨a6,h⟩:=br h
  obtain⟨cK,aC,h⟩:=bD h
  rw[e1];exact abx S cM aa (Zl aq) hx ah a6 aC h ag
 .obtain⟨v,aD,aa,h⟩:=b1 h
  obtain⟨d,aq,h⟩:=bD h
  obtain⟨k,e2,h⟩:=bD h
  obtain⟨ap,h⟩:=br h
  obtain⟨ap,aX⟩:=aK ap
  obtain⟨ap,_⟩:=aK ap
  obtain⟨ap,_⟩:=aK ap
  have aq:=Mf aq
  rw[Wu e2] at aq
  rw[e1,sEq_iff.mp (aK ap).2];exact abP S cM B lP aa aq (aK ap).1 aX h ag
 .exact aI h
theorem ach(S:cx prog w G ta n)(a7:iS prog w G ta n)(p3:rW prog w G ta n)(p5:r5 prog w G ta n)(p6:mQ prog w G ta n)(cM:fb prog w G ta n)(B:Bk prog w G ta K bp mb)(lP:hp K ta.fg fT=true):fb prog w G ta (n+1):=by
 intro c J cB H bw bb O h ag
 show hQ prog w ta (n+1) c J cB H bw bb O
 rcases cB with _|⟨st,bu⟩
 .intro A env ai g s Q E R T N C F ak
  revert ak
  exact rp (show some (Fl.next,J,H)=some (bw,bb,O) from h) (P:=λbw bb O=>lG prog w ai H g s env [] bb O bw Q->_) λak=>wpAny_execs_nil (ak g s.heap s.toks ai .next (.refl ..) (.refl _) C (.refl _ _) F.sep ⟨rfl,F⟩ λy a _ q=>q)
 .rcases st
  case Expr=>exact acf S cM B h ag
  case Assign=>exact acg S p5 p6 cM B lP h ag
  case If=>
   obtain⟨x,aD,aa,h⟩:=b1 h
   exact abm a7 cM aa h ag
  case For t it b o p=>
   obtain⟨aG,h⟩:=br h
   obtain⟨l,aD,aa,h⟩:=b1 h
   rw[List.isEmpty_iff.mp aG]
   exact ac3 p3 cM aa h ag
  case Return=>exact abt S h ag
  all_goals exact aI h
end
section
structure SAll (prog:Program) (w:World) (G:Gl) (ta:Ta) (K:Frag) (n:Nat):Prop where
 e:cx prog w G ta n
 t:iS prog w G ta n
 o:uz prog w G ta n
 i:rW prog w G ta n
 c:nP prog w G ta K n
 s:fb prog w G ta n
 u:mQ prog w G ta n
 d:r5 prog w G ta n
theorem EC(B:Bk prog w G ta K bp mb)(P:Prm prog w ta K bp)(lP:hp K ta.fg fT=true):∀n,SAll prog w G ta K n
 |0=>⟨λ_ _ _ _ _ _ h=>aI h,λ_ _ _ _ _ _ h=>aI h,λ_ _ _ _ _ _ h=>aI h,λ_ _ _ _ _ _ h=>aI h,λ_ _ _ _ _ h=>aI h,λ_ _ _ _ _ _ _ h=>aI h,λ_ _ _ _ _ _ _ _ _ _ h=>aI h,λ_ _ _ _ _ _ _ h=>aI h⟩
 |n+1=>by
  have U:=EC B P lP n
  have u:=ab0 U.e U.t U.i
  exact⟨aa2 U.e U.t U.o U.c (ab1 u) B P,Y2 U.e U.t,Y3 U.e,aab U.e B,Y0 B.th U.s,ach U.e U.t U.i U.d U.u U.s B lP,u,ab4 U.e u⟩
end
theorem NB(h:n<=m){v:V}(k:ri n v=true):ri m v=true:=by
 rcases v
 case int=>exact iLt_iff.mpr (Int.lt_of_lt_of_le (iLt_iff.mp k) (Int.ofNat_le.mpr h))
 all_goals exact k
theorem aci(h:n<=m):∀{d:Nat}{v:V},V.key n d v=true->V.key m d v=true
 |0,_,k=>NB h k
 |d+1,v,k=>by
  have k:nE (ri n v) (V.key n d) (kp v)=true:=k
  show nE (ri m v) (V.key m d) (kp v)=true
  rcases e:kp v with _|l<;>rw[e] at k
  .exact NB h k
  .exact List.all_eq_true.mpr λx hx=>aci h (List.all_eq_true.mp k x hx)
theorem NC{x:V}(aS:V.plain x=true):∀{l:List V}{n:Nat},dL x l n=none->dL x (l++[x]) n=some (n+l.length)
 |[],n,_=>by
  show dL x (x::[]) n=_
  rw[mo,V.same_self aS];rfl
 |y::r,n,h=>by
  show dL x (y::(r++[x])) n=_
  rw[mo] at h |-
  rcases e:V.same y x with _|_<;>rw[e] at h
  .exact(NC aS (l:=r) h).trans (by rw [kk,jE,jG 1])
  .exact nomatch h
theorem sf{α:Type}{a b:α}{l:List α}(h:a∈l++[b]):a∈l\/a=b:=(List.mem_append.mp h).imp id dG
structure NewR (H:T) (row:V) (O:T):Prop where
 e1:O.base++O.dyn=(H.base++H.dyn)++[row]
 le:H.bP O
 ok:O.Ok
 cnt:O.cnt=H.cnt+1
 e2:O.decls=H.decls
 e3:O.bounds=H.bounds
theorem uk{a b c:Nat}(h:a+b<=64+c):a+1+b<=64+(c+1):=by lia
theorem p9{a b c:Nat}(h:a+b<=64+c):a+(b+1)<=64+(c+1):=by lia
theorem acj{a c:Nat}(h:a<=64+c):a+1<=64+(c+1):=gr h
theorem ND(h:H.bld=true):H.kb=64:=by unfold T.kb;rw[h]
theorem ack(aL:H.Ok){row:V}(ao:H.bld=true)(aj:gw row=true/\V.key H.kb 4 row=true)(le:H.bP {H with base:=H.base++[row],cnt:=H.cnt+1}):NewR H row {H with base:=H.base++[row],cnt:=H.cnt+1}:=by
 have aQ:=aL.bld ao
 have e1:(H.base++[row])++H.dyn=(H.base++H.dyn)++[row]:=by rw [aQ,eh,eh]
 refine⟨e1,le,⟨aL.plain,aL.met,λr aq=>?_,λ_=>aQ,?_,aL.once,?_⟩,rfl,rfl,rfl⟩
 .rw[ND (H:={H with base:=H.base++[row],cnt:=H.cnt+1}) ao,<-ND ao]
  exact(sf (e1▸aq)).elim (aL.key r) λq=>q▸aj
 .show (H.base++[row]).length+H.dyn.length<=64+(H.cnt+1)
  rw[d5];exact uk aL.size
 .show (H.base++[row]).length<=64+(H.cnt+1)
  rw[d5];exact acj aL.small
theorem acl(aL:H.Ok){row:V}(ao:H.bld=false)(aj:gw row=true/\V.key H.kb 4 row=true)(di:V.plain row=true)(av:rj row=true)(nd:row∉H.dyn)(le:H.bP {H with dyn:=H.dyn++[row],cnt:=H.cnt+1}):NewR H row {H with dyn:=H.dyn++[row],cnt:=H.cnt+1}:=by
 have e1:H.base++(H.dyn++[row])=(H.base++H.dyn)++[row]:=(iA ..).symm
 refine⟨e1,le,⟨λr aq=>(sf aq).elim (aL.plain r) λq=>q▸di,λr aq=>(sf aq).elim (aL.met r) λq=>q▸av,λr aq=>(sf (e1▸aq)).elim (aL.key r) λq=>q▸aj,(λb=>nomatch (ao.symm.trans b)),?_,?_,tr aL.small⟩,rfl,rfl,rfl⟩
 .show H.base.length+(H.dyn++[row]).length<=64+(H.cnt+1)
  rw[d5];exact p9 aL.size
 .exact List.nodup_append.mpr ⟨aL.once,List.nodup_cons.mpr ⟨kj,.nil⟩,λa aw b ao e=>nd ((e.trans (dG ao))▸aw)⟩
inductive PutR (H:T) (row v:V) (O:T):Prop
 |old (i:Nat) (h:(H.base++H.dyn)[i]? =some row) (c:bI O v=some (.int (i:Int))) (e:O=H\/O={H with cnt:=H.cnt+1})
 |new (n:row∉H.base++H.dyn) (c:bI O v=some (.int ((H.base++H.dyn).length:Nat))) (N:NewR H row O)
structure PutI (H:T) (row v:V) (O:T):Prop where
 tup:gw row=true
 key:V.key H.kb 4 row=true
 r:PutR H row v O
theorem NE{r:V}(h:dL r H.dyn 0=some i):bI H (.ty r)=some (.int ((H.base.length+i:Nat):Int)):=by
 show od (dL r H.dyn 0) _=_
 rw[h];rfl
theorem acm(aL:H.Ok){row v:V}(ap:bI H row=some d)(h:H.put row=some (v,O)):PutI H row v O:=by
 have sg:=(wN _ _ h aL.bld).1
 obtain⟨aj,h⟩:=br h
 have aj:=aK aj
 have di:=Lm aL aj.2 ap
 refine⟨aj.1,aj.2,?_⟩
 revert sg
 rcases a6:dL row H.base 0 with _|i<;>rw[a6] at h
 .have hn:=t6 di a6
  rcases eA h with ⟨ao,h⟩|⟨ao,h⟩
  .refine pI h (P:=λv O=>H.bP O->PutR H row v O) λsg=>?_
   have e:H.base++H.dyn=H.base:=by rw [aL.bld ao,eh]
   exact .new (e.symm▸hn) (by rw [e];rfl) (ack aL ao aj sg)
  .obtain⟨av,h⟩:=br h
   rcases sh:dL row H.dyn 0 with _|j<;>rw[sh] at h
   .have nd:=t6 di sh
    refine pI h (P:=λv O=>H.bP O->PutR H row v O) λsg=>?_
    refine .new (λq=>(List.mem_append.mp q).elim hn nd) ?_ (acl aL ao aj di av nd sg)
    rw[NE (NC di sh),d5,mf]
   .obtain⟨k,e,hx⟩:=t5 sh
    refine pI h (P:=λv O=>H.bP O->PutR H row v O) λsg=>?_
    rw[e,mf] at sh
    exact .old (H.base.length+k) (by rw [nh (eZ _ _),tj];exact hx) (NE (H:={H with cnt:=H.cnt+1}) sh) (.inr rfl)
 .obtain⟨k,e,hx⟩:=t5 a6
  refine pI h (P:=λv O=>H.bP O->PutR H row v O) λ_=>?_
  rw[e,mf]
  exact .old k (by rw [mc (List.getElem?_eq_some_iff.mp hx).1];exact hx) rfl (.inl rfl)
theorem acn(aL:H.Ok):({H with cnt:=H.cnt+1}:T).Ok:=⟨aL.plain,aL.met,aL.key,aL.bld,tr aL.size,aL.once,tr aL.small⟩
theorem NF(H:T):H.bP {H with cnt:=H.cnt+1}:=⟨.inl rfl,⟨[],(eh _).symm⟩,cG _,cq _,rfl⟩
structure N6 (a b c d e f:Addr):Prop where
 ab:a≠b
 ac:a≠c
 ad:a≠d
 ae:a≠e
 af:a≠f
 bc:b≠c
 bd:b≠d
 be:b≠e
 bf:b≠f
 cd:c≠d
 ce:c≠e
 cf:c≠f
 de:d≠e
 df:d≠f
 ef:e≠f
theorem aco{a b c d e f:Addr}(h:[a,b,c,d,e,f].Nodup):N6 a b c d e f:=by
 rcases h with _|⟨aa,_|⟨ah,_|⟨aC,_|⟨bC,_|⟨ee,_⟩⟩⟩⟩⟩
 exact⟨aa _ (.head _),aa _ (.tail _ (.head _)),aa _ (.tail _ (.tail _ (.head _))),aa _ (.tail _ (.tail _ (.tail _ (.head _)))),aa _ (.tail _ (.tail _ (.tail _ (.tail _ (.head _))))),ah _ (.head _),ah _ (.tail _ (.head _)),ah _ (.tail _ (.tail _ (.head _))),ah _ (.tail _ (.tail _ (.tail _ (.head _)))),
  aC _ (.head _),aC _ (.tail _ (.head _)),aC _ (.tail _ (.tail _ (.head _))),bC _ (.head _),bC _ (.tail _ (.head _)),ee _ (.head _)⟩
section
theorem TOK.six(D:TOK prog w H g h):N6 g.ta.rows g.ta.idx g.ta.decls g.ta.du g.ta.dfl g.ta.ew:=by
 have nd:=D.nd
 unfold Gh.bW at nd
 exact aco (List.nodup_append.mp nd).1
theorem xV{a c aP:Nat}(h:a<=64+c)(k:c<=aP):a<=64+aP:=aT h (dh k 64)
theorem Cfg.state(C:Cfg prog w H g h)(le:H.bP O)(aL:O.Ok)(e1:O.base++O.dyn=H.base++H.dyn)(e2:O.decls=H.decls)(e3:O.bounds=H.bounds):Cfg prog w O g h:=by
 have D:=C.tok
 have i:∀{a:Addr}(o:Obj),h.get? a=some o->h.get? a=some o:=λ_ e=>e
 have j:∀a o,g.im a=some o->g.im a=some o:=λ_ _ e=>e
 exact⟨C.bn,C.base,aL,⟨D.tab,D.cU,D.host,D.hu,D.rows.to rfl j le e1 i,D.idx.to rfl j le e1 i,D.k2,D.decls.to rfl rfl (congrArg _ e2) i,λk p aS=>(D.decl k p aS).to rfl j le (by rw [e2]) i,D.du.to rfl e3 i,D.dfl.to (dW (congrArg _ e3.symm)) i,D.ew.to (dW (congrArg _ e3.symm)) i,D.nd,D.out⟩,
  ⟨e2▸xV C.line.1 le.cnt,e3▸xV C.line.2 le.cnt⟩,C.mods⟩
open Classical in
theorem Cfg.row(C:Cfg prog w H g h){row:V}{px NG:Addr}{t:Tok}{vs:Array Value}{db:Nat}{a4:List (PyData×Addr×Value)}(N:NewR H row O)(ap:bI H row=some d)(aq:Rd g.im (.ref px) d)(acp:Rd g.im (.ref NG) d)(acq:fG 6 d=true)(hm:RdL g.im vs.toList (a4.map (·.1)))(acr:h'.get? g.ta.rows=some (listOf (vs.push (.ref NG)) db))(NH:bX H (H.base++H.dyn)=some (a4.map (·.1)))(acs:∀(i:Nat)(x:PyData×Addr×Value),a4[i]? =some x->∃t,x.2.2= .int i t)(act:∀x∈a4,Rd g.im (.ref x.2.1) x.1/\fG 6 x.1=true)(acu:h'.DictOfH (kB prog w) g.ta.idx (a4++[(d,px,Value.int ((H.base++H.dyn).length:Nat) t)]))(aj:∀a o,a≠g.ta.rows->a≠g.ta.idx->h.get? a=some o->h'.get? a=some o):Cfg prog w O g h':=by
 have D:=C.tok
 have le:=N.le
 have S:=D.six
 have cj:=D.apart
 have cons:bX O (O.base++O.dyn)=some (a4.map (·.1)++[d]):=by rw [N.e1];exact xw (mq le NH) (pg le ap)
 have j:∀a o,g.im a=some o->g.im a=some o:=λ_ _ e=>e
 have len:a4.length=(H.base++H.dyn).length:=(eQ ..).symm.trans (rB NH)
 have gn:H.bounds.length<=O.bounds.length:=dW (congrArg _ N.e3.symm)
 refine⟨λa o e=>aj a o (λq=>aI ((D.out _ (jD _ in1)).symm.trans (q▸e))) (λq=>aI ((D.out _ (jD _ uX)).symm.trans (q▸e))) (C.bn a o e),C.base,N.ok,⟨D.tab,D.cU,D.host,D.hu,?_,?_,D.k2,D.decls.to rfl rfl (congrArg _ N.e2) λo=>aj _ o S.ac.symm S.bc.symm,λk p aS=>?_,
  D.du.to rfl N.e3 λo=>aj _ o S.ad.symm S.bd.symm,D.dfl.to gn λo=>aj _ o S.ae.symm S.be.symm,D.ew.to gn λo=>aj _ o S.af.symm S.bf.symm,D.nd,D.out⟩,⟨N.e2▸xV C.line.1 le.cnt,N.e3▸xV C.line.2 le.cnt⟩,C.mods⟩
 .exact⟨_,db,_,acr,by rw [oM];exact hm.append (.cons acp .nil),cons⟩
 .obtain⟨o,es,ca,a,b,c,d1,_,e⟩:=acu
  refine⟨o,es,ca,_,a,b,c,d1,e,λx hx=>(sf hx).elim (act x) λq=>q▸⟨aq,acq⟩,by rw [cons,nj];rfl,λi x hx=>?_⟩
  rcases oP i a4.length with q|q
  .exact acs i x (by rwa [mc q] at hx)
  .rw[nh q] at hx
   have z:i - a4.length=0:=Nat.lt_one_iff.mp (List.getElem?_eq_some_iff.mp hx).1
   rw[z] at hx
   rw[<-Option.some.inj (show some (d,px,Value.int ((H.base++H.dyn).length:Nat) t)=some x from hx),<-len,tu (Ik z) q]
   exact⟨t,rfl⟩
 .have mi:p.2∈g.dd.map (·.2):=tk (oK aS)
  exact(D.decl k p aS).to rfl j le (by rw [N.e2]) λo=>aj _ o (cj.ne _ in1 _ mi).symm (cj.ne _ uX _ mi).symm
end
noncomputable def fnPut:Fn:=⟨c5 54 2,[]⟩
def eV:=an "self"
def j5:=an "row"
def kJ:=an "t"
def mT(row:V):am:=[(eV,.tab,false),(j5,row,false)]
theorem acv(row:V):o8 fnPut.ps [.tab,row] fnPut.dfl=some (mT row):=by rfl'
theorem uY:lk fnPut.sc.names eV=some .local:=by rfl'
theorem NI:lk fnPut.sc.names j5=some .local:=by rfl'
theorem lk_t:lk fnPut.sc.names kJ=some .local:=by rfl'
theorem acw:lk fnPut.sc.names dy=some .globalImplicit:=by rfl'
theorem ED(row:V):a2 (mT row) eV=some (.tab,false):=by rfl'
theorem NJ(row:V):a2 (mT row) j5=some (row,false):=by rfl'
theorem Ext.mut{cu h h':Heap}(X:Ext g cu g h){b:Addr}(ao:b∈g.bW)(aJ:∀a o,a≠b->h.get? a=some o->h'.get? a=some o)(ag:∃o,h'.get? b=some o):Ext g cu g h':=
 ⟨X.ta,X.im,X.new,λa o e m=>aJ a o (λq=>m (q▸ao)) (X.old a o e m),X.dd,λa o e=>(eR (a=b)).elim (λq=>q▸ag) λq=>(X.live a o e).elim λb9 gc=>⟨b9,aJ a b9 q gc⟩⟩
theorem EE(h:n<=sizeLine):(n:Int)<2^63:=Int.lt_of_le_of_lt (Int.ofNat_le.mpr h) (by decide)
theorem NK{c:Prop}[Decidable c]{P Q:Prop}(h:c)(p:P):if c then P else Q:=by rw [if_pos h];exact p
theorem NM{c:Prop}[Decidable c]{P Q:Prop}(h:¬c)(q:Q):if c then P else Q:=by rw [if_neg h];exact q
inductive NameAt (env:Env) (h:Heap) (y:Str) (v:Value):Prop
 |mk (k:env.kindOf y=some .local) (m:Str->Option Value) (n:h.Ns env.locals m) (e:m y=some v)
theorem NameAt.keep{v:Value}(p:NameAt env h y v)(k:∀o,h.get? env.locals=some o->h'.get? env.locals=some o):NameAt env h' y v:=by
 obtain⟨a,m,⟨o,es,ca,e,r⟩,c⟩:=p
 exact⟨a,m,⟨o,es,ca,k o e,r⟩,c⟩
section
variable {v:Value}
theorem acx(N:EnvR sc env)(F:FrR prog w H g h env J ai)(aj:lk sc.names x=some .local)(aq:a2 J x=some (u,false)):∃z,Val prog w H g g.im z u/\NameAt env h x z:=by
 obtain⟨m,aX,al⟩:=F.ns
 obtain⟨z,aa,ah⟩:=al x u false (N.loc x aj) aq
 exact⟨z,ah,N.loc x aj,m,aX,aa⟩
theorem NameAt.ld(P:NameAt env s.heap x v)(N:EnvR sc env)(aj:lk sc.names x=some .local)(ak:Q v s):wpAny (model prog w) A (eval (.Name x p) env) Q E s:=by
 obtain⟨k,m,aX,e⟩:=P
 exact wpAny_Name (wpAny_loadName_local N.kind k aX e ak) (ia N aj)
structure Kept (prog:Program) (w:World) (H:T) (g:Gh) (env:Env) (J:am) (ai:Addr->Option Ro) (x:Str) (v:Value) (h h':Heap):Prop where
 X:ExtS ai g h g h'
 C:Cfg prog w H g h'
 F:FrR prog w H g h' env J ai
 at_:NameAt env h' x v
 ext:∀a o,a≠env.locals->h.get? a=some o->h'.get? a=some o
theorem acy{Q:Unit->Shared->Prop}(N:EnvR sc env)(C:Cfg prog w H g s.heap)(F:FrR prog w H g s.heap env J ai)(aj:lk sc.names x=some .local)(hx:a2 J x=none)(ak:∀h' aF,Kept prog w H g env J ai x v s.heap h'->Q () {s with heap:=h',toks:=aF}):
  wpAny (model prog w) A (storeName env x v) Q E s:=by
 have gl:=N.loc x aj
 obtain⟨m,aX,av⟩:=F.ns
 refine wpAny_storeName_local gl aX (λh' pR jp=>?_) (by rw [N.kind];rfl)
 have live:∃o,h'.get? env.locals=some o:=by obtain ⟨ob,_,_,uE,_⟩:=pR;exact⟨ob,uE⟩
 have k:Chg ai env.locals .loc s.heap h':=⟨F.loc,SameBut.ext' jp,live⟩
 obtain⟨pS,ct,rZ⟩:=xq C F.sep k
 have own:∀{y} a,ai a=some (.own y)->∀o,s.heap.get? a=some o->h'.get? a=some o:=λa e=>k.at e nofun
 refine ak h' _ ⟨pS,ct,⟨⟨_,pR,λy u o gZ aY=>?_⟩,λy a aw=>?_,F.loc,rZ,F.dot⟩,⟨gl,_,pR,if_pos rfl⟩,SameBut.ext' jp⟩
 .exact(av y u o gZ aY).elim λz p=>⟨z,(if_neg λe=>aI (hx.symm.trans (e▸aY))).trans p.1,p.2.to own⟩
 .have q:=F.cl y a aw
  have e8:ai a=some (.cell y):=by obtain ⟨_,_,ah,_⟩:=q;exact ah
  exact q.to (k.at e8 nofun) λea b9 gZ aY=>⟨aY,own⟩
end
section
structure TabS (K:Frag) (g:Gh) (h:Heap):Prop where
 bn:∀a o,g.im a=some o->h.get? a=some o
 tab:g.im g.ta.tab=some (instObj g.ta.gN g.ta.cU)
 cU:TkTab g
 P:Tp g.ta K
 base:∀a o,g.ta.h0.get? a=some o->g.im a=some o
theorem Cfg.tabS(C:Cfg prog w H g h)(P:Tp g.ta K):TabS K g h:=⟨C.bn,C.tok.tab,C.tok.cU,P,C.base⟩
theorem TabS.ng{b:Addr}(S:TabS K g h)(ao:g.im b=none)(ext:∀a o,a≠b->h.get? a=some o->h'.get? a=some o):TabS K g h':=⟨λa o e=>ext a o (λq=>aI (ao.symm.trans (q▸e))) (S.bn a o e),S.tab,S.cU,S.P,S.base⟩
structure TabL (K:Frag) (g:Gh) (nL:Str) (hR:Addr):Prop where
 at_:iN K g.ta.gN nL=true
 get:∀es n,g.im g.ta.cU=some (dictOf es n)->getL nL es=some (some (.ref hR))
section
variable (D:TkTab g)(P:Tp g.ta K)
include D P
theorem NN:TabL K g h6 g.ta.rows:=⟨P.rows,λes n e=>by obtain ⟨dN,db,aa,ah⟩:=D;rw[lA (e.symm.trans aa)];exact ah⟩
theorem EF:TabL K g jc g.ta.idx:=⟨P.index,λes n e=>by obtain ⟨dN,db,aa,_,ah⟩:=D;rw[lA (e.symm.trans aa)];exact ah⟩
theorem NO:TabL K g ku g.ta.du:=⟨P.bounds,λes n e=>by obtain ⟨dN,db,aa,_,_,_,ah⟩:=D;rw[lA (e.symm.trans aa)];exact ah⟩
theorem NP:TabL K g kt g.ta.decls:=⟨P.decls,λes n e=>by obtain ⟨dN,db,aa,_,_,ah⟩:=D;rw[lA (e.symm.trans aa)];exact ah⟩
theorem acz:TabL K g "defaults" g.ta.dfl:=⟨P.defaults,λes n e=>by obtain ⟨dN,db,aa,_,_,_,_,ah⟩:=D;rw[lA (e.symm.trans aa)];exact ah⟩
theorem acA:TabL K g "names" g.ta.ew:=⟨P.names,λes n e=>by obtain ⟨dN,db,aa,_,_,_,_,_,ah⟩:=D;rw[lA (e.symm.trans aa)];exact ah⟩
end
section
variable {nL x y:Str}{hR:Addr}{vs:Array Value}
theorem si{mU p:Pos}(N:EnvR sc env)(F:FrR prog w H g s.heap env J ai)(S:TabS K g s.heap)(aY:lk sc.names y=some .local)(aq:a2 J y=some (.tab,false))(L:TabL K g nL hR)(ak:Q (.ref hR) {s with toks:=s.toks+1}):
  wpAny (model prog w) A (eval (.Attribute (.Name y mU) nL p) env) Q E s:=by
 refine xh rfl (jh N F (.inl aY) aq λz bi=>?_)
 rw[show z= .ref g.ta.tab from bi]
 obtain⟨es,m,aa,_⟩:=S.cU
 exact un (S.P.gq.keeps λa o e=>S.bn a o (S.base a o e)) (S.bn _ _ S.tab) (S.bn _ _ aa) L.at_ (L.get es m aa) rfl ak
theorem NQ{xp uy mU cj uZ pp:Pos}{aF:Nat}{Q:Flow->Shared->Prop}(B:Bk prog w G ta K bp mb)(g3:G.free dy=true)(T:g.ta=ta)(N:EnvR sc env)(C:Cfg prog w H g h)(F:FrR prog w H g h env J ai)(aY:lk sc.names y=some .local)(aq:a2 J y=some (.tab,false))(hx:lk sc.names x=some .local)(fc:x≠dM)(ag:lk sc.names dy=some .globalImplicit)(L:TabL K g nL hR)(eJ:h.get? hR=some (listOf vs n))(fl:vs.size<=sizeLine)(ak:∀h' dC,Stored prog w H g env (cb J x (.int (vs.size:Int)) false) ai sc x h h'->wpAny (model prog w) A (execs bu env) Q E {s with heap:=h',toks:=dC}):
  wpAny (model prog w) A (execs (.Assign [.Name x xp] (.Call (.Name dy uy) [.Attribute (.Name y mU) nL cj] [] uZ) pp::bu) env) Q E {s with heap:=h,toks:=aF}:=by
 refine wpAny_execs_cons (wpAny_Assign_Name (Call_Name rfl (rM (s:={s with heap:=h,toks:=aF}) B C T N ag g3 ?_)) (sa rfl x xp _ env))
 refine gi (P:=λ_=>True) rfl (λh _=>lJ (DA dy)) ?_
 refine args_cons (si N F (C.tabS (T▸B.tp)) aY aq L ?_) rfl
 refine args_nil ⟨trivial,?_⟩
 show wpAny _ A (call (.builtin "len") [.ref hR]) _ _ _
 refine len_list ⟨_,eJ,rfl,n,rfl⟩ (EE fl) ?_
 exact mK (s:={s with heap:=h,toks:=_}) N C F (.inl hx) fc (o:=false) (u:=.int (vs.size:Int)) (show Val prog w H g g.im _ (.int (vs.size:Int)) from .int _ _) ak
theorem NR{mU cj mp q pp xp:Pos}{z:Value}{aF:Nat}{Q:Flow->Shared->Prop}(N:EnvR sc env)(F:FrR prog w H g h env J ai)(S:TabS K g h)(aY:lk sc.names y=some .local)(aq:a2 J y=some (.tab,false))(hx:lk sc.names x=some .local)(bi:NameAt env h x z)(L:TabL K g nL hR)(eJ:h.get? hR=some (listOf vs n))(fl:vs.size<=sizeLine)(dS:(mp.endLine==q.line)=true)(ak:∀h' dC db,h'.get? hR=some (listOf (vs.push z) db)->Heap.SameBut hR h h'->wpAny (model prog w) A (execs bu env) Q E {s with heap:=h',toks:=dC}):
  wpAny (model prog w) A (execs (.Expr (.Call (.Attribute (.Attribute (.Name y mU) nL cj) jd mp) [.Name x xp] [] q) pp::bu) env) Q E {s with heap:=h,toks:=aF}:=by
 refine wpAny_execs_cons (wpAny_Expr_any (pG rfl dS (show 1<25 from fi rfl) rfl λdi=>si (s:={s with heap:=h,toks:=aF}) N F S aY aq L ?_) (xF N) (xG rfl _ _))
 refine M5 (s:={s with heap:=h,toks:=_}) eJ ?_
 refine gi (P:=λ_=>True) rfl (λh _=>lJ (λa q=>nomatch q)) ?_
 refine args_cons (NameAt.ld (s:={s with heap:=h,toks:=_}) bi N hx ?_) rfl
 refine args_nil ⟨trivial,?_⟩
 show wpAny _ A (call (.builtin "list.append") [.ref hR,z]) _ _ _
 refine wpAny_list_append_plain (s:={s with heap:=h,toks:=_}) ⟨n,eJ⟩ (λh' Ef aJ=>?_) fl
 obtain⟨db,e⟩:=Ef
 exact ak h' _ db e aJ
theorem xW{mU cj mp q pp xp:Pos}{aF:Nat}{Q:Flow->Shared->Prop}(N:EnvR sc env)(F:FrR prog w H g h env J ai)(S:TabS K g h)(aY:lk sc.names y=some .local)(aq:a2 J y=some (.tab,false))(hx:lk sc.names x=some .local)(r8:a2 J x=some (u,false))(L:TabL K g nL hR)(eJ:h.get? hR=some (listOf vs n))(fl:vs.size<=sizeLine)(dS:(mp.endLine==q.line)=true)(ak:∀h' dC z db,Val prog w H g g.im z u->h'.get? hR=some (listOf (vs.push z) db)->Heap.SameBut hR h h'->wpAny (model prog w) A (execs bu env) Q E {s with heap:=h',toks:=dC}):
  wpAny (model prog w) A (execs (.Expr (.Call (.Attribute (.Attribute (.Name y mU) nL cj) jd mp) [.Name x xp] [] q) pp::bu) env) Q E {s with heap:=h,toks:=aF}:=by
 obtain⟨z,bi,p⟩:=acx N F hx r8
 exact NR N F S aY aq hx p L eJ fl dS λh' dC db=>ak h' dC z db bi
end
theorem NS{z:Value}{row:V}(a1:gw row=true)(ap:bI H row=some d)(bi:Val prog w H g g.im z row):Rd g.im z d/\∃a,z= .ref a:=by
 rcases row
 case tup l=>
  obtain⟨mv,eT,cP⟩:=bi
  rw[<-Option.some.inj (ap.symm.trans eT)] at cP
  obtain⟨ds,_,e⟩:=gS ap
  rw[e] at cP |-
  obtain⟨a,_,_,_,e,_⟩:=cP.dat
  exact⟨cP,a,e⟩
 all_goals exact c2 a1
theorem acB{a b c k:Nat}(h:a+b<=64+c)(ah:c<=ba)(e:k=a+b):k<=sizeLine:=aT (e▸aT h (dh ah 64)) (by decide)
open Classical in
structure PutW (prog:Program) (w:World) (H:T) (g:Gh) (h:Heap) (env:Env) (ai:Addr->Option Ro) (J:am) (row:V) (d:PyData) (A:Around):Prop where
 N:EnvR fnPut.sc env
 F:FrR prog w H g h env J ai
 self:a2 J eV=some (.tab,false)
 rw:a2 J j5=some (row,false)
 tup:gw row=true
 cd:bI H row=some d
 kd:fG 6 d=true
 room:(kB prog w).room A.in1
section
variable {row v:V}{aF:Nat}
theorem PutW.rd(Z:PutW prog w H g h env ai J row d A)(ak:∀a,Rd g.im (.ref a) d->Q (.ref a) {s with heap:=h,toks:=aF}):wpAny (model prog w) A (eval (.Name j5 p) env) Q E {s with heap:=h,toks:=aF}:=
 jh (s:={s with heap:=h,toks:=aF}) Z.N Z.F (.inl NI) Z.rw λz bi=>by
  obtain⟨q,a,e⟩:=NS Z.tup Z.cd bi
  rw[e] at q |-
  exact ak a q
open Classical in
theorem acC{fm gF lE lF u0:Pos}{a4:List (PyData×Addr×Value)}{p:Addr×Value}{Q:Flow->Shared->Prop}(Z:PutW prog w H g h env ai J row d A)(S:TabS K g h)(D:h.DictOfH (kB prog w) g.ta.idx a4)(aS:atKey a4 d=some p)(ak:∀aF,Q (.ret p.2) {s with heap:=h,toks:=aF}):
  wpAny (model prog w) A (execs (.Return (some (.Subscript (.Attribute (.Name eV fm) jc gF) (.Name j5 lE) lF)) u0::bu) env) Q E {s with heap:=h,toks:=aF}:=by
 refine wpAny_execs_cons (wpAny_Return_some (Subscript_ (si (s:={s with heap:=h,toks:=aF}) Z.N Z.F S uY Z.self (EF S.cU S.P) ?_)))
 refine Z.rd λpx aq=>?_
 refine tail_any (ops:=[.ref g.ta.idx,.ref px]) (T:="dict") (s:={s with heap:=h,toks:=_}) D.typeIs slot_dict_getitem.lookup ?_ rfl
 exact wpAny_getItem_heap (knd:=kB prog w) (s:={s with heap:=h,toks:=_}) Z.room ⟨aq.mono S.bn,Z.kd⟩ D aS (ak _)
open Classical in
theorem acD{pi kz x3 x4 EG EH EI mV sj u3 EJ gJ EK EL uq xX xY mI nZ pK:Pos}{Q:Flow->Shared->Prop}(B:Bk prog w G ta K bp mb)(g3:G.free dy=true)(T:g.ta=ta)(Z:PutW prog w H g h env ai (mT row) row d A)(C:Cfg prog w H g h)(aj:V.key H.kb 4 row=true)(nm:∀b∈g.bW,ai b=none)(ag:O.cnt<=ba)(N:NewR H row O)(aX:row∉H.base++H.dyn)(dS:(u3.endLine==gJ.line)=true){cu:Heap}(X:Ext g cu g h)(nL:cu.get? env.locals=none)(ak:∀h' aF t,Ext g cu g h'->Cfg prog w O g h'->Q (.ret (.int ((H.base++H.dyn).length:Nat) t)) {s with heap:=h',toks:=aF}):
  wpAny (model prog w) A (execs (.Assign [.Name kJ pi] (.Call (.Name dy kz) [.Attribute (.Name eV x3) h6 x4] [] EG) EH:: .Expr (.Call (.Attribute (.Attribute (.Name eV mV) h6 sj) jd u3) [.Name j5 EJ] [] gJ) EI::
   .Assign [.Subscript (.Attribute (.Name eV EK) jc EL) (.Name j5 uq) xX] (.Name kJ xY) mI:: .Return (some (.Name kJ nZ)) pK::bu) env) Q E {s with heap:=h,toks:=aF}:=by
 have P:Tp g.ta K:=T▸B.tp
 obtain⟨vs,nr,ds,xK,hm,pm⟩:=C.tok.rows
 have xZ:vs.size=(H.base++H.dyn).length:=f4 hm pm
 have fl:vs.size<=sizeLine:=acB C.ok.size (aT N.le.cnt ag) (xZ.trans d5)
 have six:=C.tok.six
 have x1:g.ta.rows∈g.bW:=jD _ in1
 have NT:g.ta.idx∈g.bW:=jD _ uX
 have S:=C.tabS P
 refine NQ B g3 T Z.N C Z.F uY (ED row) lk_t (by decide) acw (NN S.cU P) xK fl λa8 b8 Y=>?_
 obtain⟨b,ao,jr,_⟩:=Y.b
 rw[ao.elim id λq=>nomatch (lk_t.symm.trans q.1)] at jr
 have j6:=SameBut.ext' jr
 have gf:a2 (cb (mT row) kJ (.int (vs.size:Int)) false) eV=some (.tab,false):=(ih (by decide)).trans (ED row)
 have qa:a2 (cb (mT row) kJ (.int (vs.size:Int)) false) j5=some (row,false):=(ih (by decide)).trans (NJ row)
 have u4:a2 (cb (mT row) kJ (.int (vs.size:Int)) false) kJ=some (.int (vs.size:Int),false):=rget_same
 have acE:=j6 _ _ (λq=>aI ((nm _ x1).symm.trans (q▸Z.F.loc))) xK
 refine xW Z.N Y.F (Y.C.tabS P) uY gf NI qa (NN S.cU P) acE fl dS λbN gX z ant bi EM oe=>?_
 obtain⟨NU,er,jq⟩:=NS Z.tup Z.cd bi
 rw[jq] at NU EM
 have jt:=SameBut.ext' oe
 have gH:=Y.F.apart (nm _ x1) jt
 have EN:=(Y.C.tabS P).ng (C.tok.out _ x1) jt
 have acF:PutW prog w H g bN env ai _ row d A:=⟨Z.N,gH,gf,qa,Z.tup,Z.cd,Z.kd,Z.room⟩
 obtain⟨a4,eO,eT,EO,EP,_,kK⟩:=Dc (s:={s with heap:=a8,toks:=0}) Y.C Z.tup aj Z.cd
 have EQ:bN.DictOfH (kB prog w) g.ta.idx a4:=by
  obtain⟨o,es,ca,bU,bZ,dJ,gY,_,lM⟩:=eO
  exact⟨o,es,ca,jt _ _ six.ab.symm bU,bZ,dJ,gY,λx hx=>⟨(EP x hx).1.mono EN.bn,(EP x hx).2⟩,lM⟩
 have acG:a4.length<=sizeLine:=by rw [<-eQ (f:=(·.1)),rB eT,<-xZ];exact fl
 refine wpAny_execs_cons (wpAny_Assign_Subscript ?_ (xH rfl _ rfl _ _))
 refine jh (s:={s with heap:=bN,toks:=_}) Z.N gH (.inl lk_t) u4 λz bi=>?_
 obtain⟨Dk,iR⟩:=Val.int_inv (show Val prog w H g g.im z _ from bi)
 rw[iR]
 refine si (s:={s with heap:=bN,toks:=_}) Z.N gH EN uY gf (EF S.cU P) ?_
 refine acF.rd λanu NV=>?_
 refine wpAny_setItem_heap (knd:=kB prog w) (s:={s with heap:=bN,toks:=_}) Z.room ⟨NV.mono EN.bn,Z.kd⟩ EQ (λb5 ER ES=>?_) acG
 rw[storedH_new (kK aX),xZ] at ER
 have kL:=SameBut.ext' ES
 have f5:Cfg prog w O g b5:=Y.C.row N Z.cd NV NU Z.kd (Option.some.inj (pm.symm.trans eT)▸hm) (kL _ _ six.ab EM) eT EO EP ER λa o dB d9 e=>kL a o d9 (jt a o dB e)
 have D2:∃o,b5.get? g.ta.idx=some o:=by
  obtain⟨o,_,_,e,_⟩:=ER
  exact⟨o,e⟩
 refine wpAny_execs_cons (wpAny_Return_some (jh (s:={s with heap:=b5,toks:=_}) Z.N (gH.apart (nm _ NT) kL) (.inl lk_t) u4 λz bi=>?_))
 obtain⟨acH,qb⟩:=Val.int_inv (show Val prog w H g g.im z _ from bi)
 rw[qb,xZ]
 exact ak b5 _ acH (((X.own nL j6).mut x1 jt ⟨_,EM⟩).mut NT kL D2) f5
open Classical in
theorem acI{pi kz x3 x4 EG EH EI mV sj u3 EJ gJ EK EL uq xX xY mI nZ pK:Pos}{Q:Flow->Shared->Prop}{a b c e f:Str}(B:Bk prog w G ta K bp mb)(g3:G.free dy=true)(T:g.ta=ta)(Z:PutW prog w H g h env ai (mT row) row d A)(C:Cfg prog w H g h)(aj:V.key H.kb 4 row=true)(nm:∀b∈g.bW,ai b=none)(ag:O.cnt<=ba)(N:NewR H row O)(aX:row∉H.base++H.dyn)(dS:(u3.endLine==gJ.line)=true){cu:Heap}(X:Ext g cu g h)(nL:cu.get? env.locals=none)(ak:∀h' aF t,Ext g cu g h'->Cfg prog w O g h'->Q (.ret (.int ((H.base++H.dyn).length:Nat) t)) {s with heap:=h',toks:=aF})(fM:a=dy)(gn:b=h6)(bo:c=h6)(acJ:e=jd)(ef:f=jc):
  wpAny (model prog w) A (execs (.Assign [.Name kJ pi] (.Call (.Name a kz) [.Attribute (.Name eV x3) b x4] [] EG) EH:: .Expr (.Call (.Attribute (.Attribute (.Name eV mV) c sj) e u3) [.Name j5 EJ] [] gJ) EI::
   .Assign [.Subscript (.Attribute (.Name eV EK) f EL) (.Name j5 uq) xX] (.Name kJ xY) mI:: .Return (some (.Name kJ nZ)) pK::bu) env) Q E {s with heap:=h,toks:=aF}:=by
 subst fM gn bo acJ ef
 exact acD B g3 T Z C aj nm ag N aX dS X nL ak
theorem acK{row:V}(h:gw row=true):row.flat=true:=by
 rcases row
 case tup=>rfl
 all_goals exact c2 h
theorem acL{row v:V}(h:H.put row=some (v,O)):gw row=true:=(aK (br h).1).1
theorem ET(C:Cfg prog w H g h)(new:∀a r,dw env.locals env.cells a=some r->h.get? a=none):∀b∈g.bW,dw env.locals env.cells b=none:=λb ao=>by
 rcases e:dw env.locals env.cells b with _|r
 .rfl
 .obtain⟨o,aG⟩:=C.vY ao
  exact aI ((new b r e).symm.trans aG)
open Classical in
theorem NW(B:Bk prog w G ta K bp mb)(g3:G.free dy=true)(aL:FnOk ta.h0 K fnPut (.ref a)){row v:V}(h:H.put row=some (v,O))(ag:O.cnt<=ba){nW:Value}(fX:A.depth<recursionLimit)(bG:A.units+100<cLine)(T:g.ta=ta)(C:Cfg prog w H g s.heap)(al:Val prog w H g g.im nW row)(ak:ToV prog w H g s O v Q):wpAny (model prog w) A (call (.ref a) [.ref ta.tab,nW]) Q E s:=by
 have u5:Val prog w H g g.im (.ref ta.tab) .tab:=congrArg (λt:Ta=>Value.ref t.tab) T.symm
 obtain⟨d,lC,_⟩:=al.flat (λ_ _ e=>e) (acK (acL h))
 obtain⟨a1,aj,R⟩:=acm C.ok lC h
 refine xf B.th (acv row) aL fX T C (.cons u5 (.cons al .nil)) λenv aB bh ie Z=>?_
 have room:(kB prog w).room (A.deeper env).in1:=by
  show (A.deeper env).in1.units+8<cLine
  rw[Around.in1_units]
  show A.units+3+_+8<cLine
  exact hZ (by lia) bG
 have W:PutW prog w H g aB env (dw env.locals env.cells) (mT row) row d (A.deeper env):=⟨Z.N,Z.F,ED row,NJ row,a1,lC,Db aj (by decide) lC,room⟩
 have P:Tp g.ta K:=T▸B.tp
 have S:=Z.C.tabS P
 obtain⟨a4,D,eT,_,_,acM,kK⟩:=Dc (s:={s with heap:=aB,toks:=bh}) Z.C a1 aj lC
 refine wpAny_execs_cons (wpAny_If (wpAny_isTrue_Compare1 ?_ (by with_unfolding_all rfl)))
 refine W.rd λpx aq=>?_
 refine si (s:={s with heap:=aB,toks:=bh}) W.N W.F S uY W.self (EF S.cU P) ?_
 refine wpAny_in_heap (knd:=kB prog w) (s:={s with heap:=aB,toks:=_}) room ⟨aq.mono S.bn,W.kd⟩ Z.C.tok.k2 D ?_
 refine wpAny_truthy_bool ?_
 rcases R with ⟨i,hi,qc,EU⟩|⟨aX,qc,N⟩
 .obtain⟨p,t,aS,acN⟩:=acM i hi
  refine NK (by rw [aS];rfl) (acC W S D aS λaF=>?_)
  have V:Val prog w O g g.im p.2 v:=.g8 qc (acN▸ .int _ _)
  rcases EU with e|e
  .rw[e] at ak V;exact ak g aB aF p.2 Z.X (.refl _) Z.C V
  .rw[e] at ak V;exact ak g aB aF p.2 Z.X (NF H) (Z.C.state (NF H) (acn C.ok) rfl rfl rfl) V
 .refine NM (by rw [kK aX];exact nofun) (wpAny_execs_nil ?_)
  exact acI B g3 T W Z.C aj (ET C Z.new) ag N aX (by rfl') Z.X (Z.new _ .loc Z.F.loc) (λh' aF t p2 ct=>ak g h' aF _ p2 N.le ct (.g8 qc (.int _ _))) (by rfl') (by rfl') (by rfl') (by rfl') (by rfl')
end
end
noncomputable def fnNP:Fn:=⟨aA 59,[.int (-1),.int (-1)]⟩
def ju:=an "name"
def sk:=an "bound"
def sm:=an "default"
def gK:=an "pid"
def oi:=an "Y_PARAM"
def acO:=an "defaults"
def acP:=an "names"
def j7 (x:Str):am:=[(cF,.tab,false),(ju,.str x,false),(sk,.int (-1),false),(sm,.int (-1),false)]
theorem acQ(x:Str):o8 fnNP.ps [.tab,.str x] fnNP.dfl=some (j7 x):=by rfl'
theorem u6:lk fnNP.sc.names cF=some .local:=by rfl'
theorem acR:lk fnNP.sc.names ju=some .local:=by rfl'
theorem acS:lk fnNP.sc.names sk=some .local:=by rfl'
theorem acT:lk fnNP.sc.names sm=some .local:=by rfl'
theorem np_pid:lk fnNP.sc.names gK=some .local:=by rfl'
theorem acU:lk fnNP.sc.names dy=some .globalImplicit:=by rfl'
theorem acV:lk fnNP.sc.names oi=some .globalImplicit:=by rfl'
theorem NX(x:Str):a2 (j7 x) cF=some (.tab,false):=by rfl'
theorem acW(x:Str):a2 (j7 x) ju=some (.str x,false):=by rfl'
theorem acX(x:Str):a2 (j7 x) sk=some (.int (-1),false):=by rfl'
theorem acY(x:Str):a2 (j7 x) sm=some (.int (-1),false):=by rfl'
theorem anv(h:a9 x gK=false):x≠gK:=n8 h
theorem acZ:a9 cF gK=false:=by rfl'
theorem ad0:a9 ju gK=false:=by rfl'
theorem ad1:a9 sk gK=false:=by rfl'
theorem ad2:a9 sm gK=false:=by rfl'
theorem ad3:(!a9 gK dM)=true:=by rfl'
section
theorem ad4(aL:H.Ok)(l:List Int):({H with bounds:=l}:T).Ok:=⟨aL.plain,aL.met,aL.key,aL.bld,aL.size,aL.once,aL.small⟩
theorem EV(H:T)(l:List Int):H.bP {H with bounds:=l}:=⟨.inl rfl,⟨[],(eh _).symm⟩,cq _,cq _,rfl⟩
noncomputable def lR(H:T)(l:List Int):T:={H with bounds:=l}
theorem Cfg.lists(C:Cfg prog w H g h){b:Addr}(ao:b∈[g.ta.rows,g.ta.idx,g.ta.decls,g.ta.du,g.ta.dfl,g.ta.ew])(dB:g.ta.rows≠b)(d9:g.ta.idx≠b)(D9:g.ta.decls≠b)(ext:∀a o,a≠b->h.get? a=some o->h'.get? a=some o)(bs:List Int)(dS:bs.length<=64+H.cnt)(aa:TkBnds (lR H bs) g h')(ah:TkLst (lR H bs) h' g.ta.dfl)(aC:TkLst (lR H bs) h' g.ta.ew):Cfg prog w (lR H bs) g h':=by
 have D:=C.tok
 have x2:b∈g.bW:=jD _ ao
 have le:=EV H bs
 have j:∀a o,g.im a=some o->g.im a=some o:=λ_ _ e=>e
 exact⟨λa o e=>ext a o (λq=>aI ((D.out _ x2).symm.trans (q▸e))) (C.bn a o e),C.base,ad4 C.ok _,⟨D.tab,D.cU,D.host,D.hu,D.rows.to rfl j le rfl λo=>ext _ o dB,D.idx.to rfl j le rfl λo=>ext _ o d9,D.k2,D.decls.to rfl rfl rfl λo=>ext _ o D9,
  λk p aS=>(D.decl k p aS).to rfl j le rfl λo=>ext _ o (D.apart.ne _ ao _ (tk (oK aS))).symm,aa,ah,aC,D.nd,D.out⟩,⟨C.line.1,dS⟩,C.mods⟩
theorem ad5{vs:Array Value}{db:Nat}{z:Int}{t:Tok}(ag:vs.toList.length=H.bounds.length)(hi:∀(i:Nat)(z:Int),H.bounds[i]? =some z->∃t,vs.toList[i]? =some (Value.int z t))(e:h'.get? g.ta.du=some (listOf (vs.push (.int z t)) db)):TkBnds (lR H (H.bounds++[z])) g h':=by
 refine⟨_,db,e,?_,λi y aY=>?_⟩
 .rw[oM,d5,ag];show H.bounds.length+1=(H.bounds++[z]).length;rw[d5];rfl
 .have aY:(H.bounds++[z])[i]? =some y:=aY
  rw[oM]
  rcases oP i H.bounds.length with q|q
  .rw[mc q] at aY
   rw[mc (ag▸q)]
   exact hi i y aY
  .rw[nh q] at aY
   have xr:i - H.bounds.length=0:=Nat.lt_one_iff.mp (List.getElem?_eq_some_iff.mp aY).1
   rw[xr] at aY
   rw[nh (ag▸q),ag,xr,<-Option.some.inj (show some z=some y from aY)]
   exact⟨t,rfl⟩
theorem NY{vs:Array Value}{db:Nat}{u:Value}{bs:List Int}(ag:vs.size+1<=bs.length)(e:h'.get? a=some (listOf (vs.push u) db)):TkLst (lR H bs) h' a:=⟨_,db,e,by rw [Array.size_push];exact ag⟩
end
section
section
variable {v:V}{aF:Nat}
theorem ad6{bU bZ dJ gY uD lM EW:Pos}{fW:Nat}{k:Int}{Q:Flow->Shared->Prop}(B:Bk prog w G ta K bp mb)(g3:G.free dy=true)(u7:G.val oi=some (.int 10)){cj:Addr}(sn:lz K ta.gN cj h7=true)(u8:FnOk ta.h0 K fnPut (.ref cj))(aS:H.put (.tup [.int 10,.int k])=some (v,O))(ag:O.cnt<=ba)(fX:A.depth<recursionLimit)(bG:A.units+100<cLine)(T:g.ta=ta)(N:EnvR fnNP.sc env)(C:Cfg prog w H g h)(F:FrR prog w H g h env J ai)(ge:a2 J cF=some (.tab,false))(x5:a2 J gK=some (.int k,false))(dS:(bZ.endLine==lM.line)=true)(ak:ToV prog w H g {s with heap:=h,toks:=aF} O v λu s=>Q (.ret u) s):wpAny (model prog w) A (execs (.Return (some (.Call (.Attribute (.Name cF bU) h7 bZ) [.Tuple [.Name oi dJ,.Name gK gY] fW uD] [] lM)) EW::bu) env) Q E {s with heap:=h,toks:=aF}:=by
 have P:Tp g.ta K:=T▸B.tp
 refine wpAny_execs_cons (wpAny_Return_some (pG rfl dS (show 1<25 from fi rfl) rfl λdi=>jh (s:={s with heap:=h,toks:=aF}) N F (.inl u6) ge λz bi=>?_))
 rw[show z= .ref g.ta.tab from bi]
 obtain⟨es,m,t1,_,_,_,_,_,_,t2⟩:=C.tok.cU
 refine C9 (s:={s with heap:=h,toks:=aF}) (C.gq (s:={s with heap:=h,toks:=aF}) P) (C.bn _ _ C.tok.tab) (C.bn _ _ t1) (T▸sn) t2 ?_
 refine gi (P:=λh=>K.In h) rfl (λh X=>keeps_K (aK sn).2 h X) ?_
 obtain⟨anw,ad7,ad8⟩:=B.val oi _ u7
 refine args_cons (wpAny_Tuple_spliced (args_cons (pA (s:={s with heap:=h,toks:=aF}) B C T N acV ad7 ?_) rfl)) rfl
 refine args_cons (jh (s:={s with heap:=h,toks:=aF}) N F (.inl np_pid) x5 λad9 ada=>?_) rfl
 refine args_nil ⟨(by decide:(2:Nat)<=sizeLine),?_⟩
 obtain⟨adb,EX⟩:=(ad8 H g T λa o e=>C.base a o (T▸e)).int_inv
 obtain⟨tp,ca⟩:=Val.int_inv (show Val prog w H g g.im ad9 _ from ada)
 rw[EX,ca]
 refine Got.tup (Q:=λu bQ=>wpAny (model prog w) A (spliced (backTo lM (starEach [] env))) (λvs c1=>K.In c1.heap/\wpAny (model prog w) A (call (.ref cj) ([.ref g.ta.tab]++(u::vs))) (λv bQ=>Q (.ret v) bQ) E c1) E bQ) (l:=[.int 10,.int k]) (s:={s with heap:=h,toks:=aF}) (λanx js sp u qd sq adc=>?_) C (vs:= #[.int 10 adb,.int k tp]) (n:=0) (ds:=[.int 10,.int k]) (.cons (.int _ _) (.cons (.int _ _) .nil)) rfl _
 refine args_nil ⟨sq.gq (s:={s with heap:=js,toks:=0}) (qd.ta▸P),?_⟩
 show wpAny _ A (call (.ref cj) [.ref g.ta.tab,u]) _ _ _
 rw[T]
 exact NW (s:={s with heap:=js,toks:=sp}) B g3 u8 aS ag fX bG (qd.ta.trans T) sq adc λu9 va vb ade EY EZ vc E0=>ak u9 va vb ade (qd.trans EY) EZ vc E0
theorem adf{en er e4 ij vd E1 hg gV hj jT mC lr eT cP jj mG kE pM d1 d2 d3 d4 adg NZ bU bZ dJ gY uD lM EW:Pos}{fW:Nat}{Q:Flow->Shared->Prop}{cg ch nO N0 N1 cC cA iL lw:Str}(B:Bk prog w G ta K bp mb)(g3:G.free dy=true)(u7:G.val oi=some (.int 10)){cj:Addr}(sn:lz K ta.gN cj h7=true)(u8:FnOk ta.h0 K fnPut (.ref cj))(ao:H.bounds.length<60)(aS:(lR H (H.bounds++[-1])).put (.tup [.int 10,.int H.bounds.length])=some (v,O))(ag:O.cnt<=ba)(fX:A.depth<recursionLimit)(bG:A.units+100<cLine)(T:g.ta=ta)(N:EnvR fnNP.sc env)(C:Cfg prog w H g h)(F:FrR prog w H g h env (j7 x) ai)(nm:∀b∈g.bW,ai b=none){cu:Heap}(X:Ext g cu g h)(nL:cu.get? env.locals=none)(E2:(jT.endLine==lr.line)=true)(adh:(mG.endLine==pM.line)=true)(ld:(d4.endLine==NZ.line)=true)(adi:(bZ.endLine==lM.line)=true)(ak:ToV prog w H g {s with heap:=cu} O v λu s=>Q (.ret u) s)(e1:cg=dy)(e2:ch=ku)(e3:nO=ku)(eN:N0=acO)(kF:N1=acP)(fH:cC=jd)(gC:cA=jd)(f3:iL=jd)(jU:lw=h7):
  wpAny (model prog w) A (execs (.Assign [.Name gK en] (.Call (.Name cg er) [.Attribute (.Name cF e4) ch ij] [] vd) E1:: .Expr (.Call (.Attribute (.Attribute (.Name cF gV) nO hj) cC jT) [.Name sk mC] [] lr) hg::
   .Expr (.Call (.Attribute (.Attribute (.Name cF cP) N0 jj) cA mG) [.Name sm kE] [] pM) eT:: .Expr (.Call (.Attribute (.Attribute (.Name cF d2) N1 d3) iL d4) [.Name ju adg] [] NZ) d1::
   .Return (some (.Call (.Attribute (.Name cF bU) lw bZ) [.Tuple [.Name oi dJ,.Name gK gY] fW uD] [] lM)) EW::bu) env) Q E {s with heap:=h,toks:=aF}:=by
 subst e1 e2 e3 eN kF fH gC f3 jU
 have P:Tp g.ta K:=T▸B.tp
 have S:=C.tabS P
 have six:=C.tok.six
 have lw:g.ta.du∈g.bW:=jD _ En
 have ul:g.ta.dfl∈g.bW:=jD _ Eo
 have N2:g.ta.ew∈g.bW:=jD _ Ep
 obtain⟨vs,hn,N3,xe,adj⟩:=C.tok.du
 have gE:vs.size=H.bounds.length:=xe
 have hY:∀{k:Nat},k<=H.bounds.length->k<=sizeLine:=λh=>mL (aT h (aT (jH ao) (by decide)))
 refine NQ B g3 T N C F u6 (NX x) np_pid (n0 ad3) acU (NO S.cU P) N3 (hY (dW gE)) λa8 b8 Y=>?_
 obtain⟨b,adk,jr,_⟩:=Y.b
 rw[adk.elim id λq=>nomatch (np_pid.symm.trans q.1)] at jr
 have j6:=SameBut.ext' jr
 have ge:a2 (cb (j7 x) gK (.int (vs.size:Int)) false) cF=some (.tab,false):=(ih (n8 acZ)).trans (NX x)
 have gf:a2 (cb (j7 x) gK (.int (vs.size:Int)) false) ju=some (.str x,false):=(ih (n8 ad0)).trans (acW x)
 have qa:a2 (cb (j7 x) gK (.int (vs.size:Int)) false) sk=some (.int (-1),false):=(ih (n8 ad1)).trans (acX x)
 have u4:a2 (cb (j7 x) gK (.int (vs.size:Int)) false) sm=some (.int (-1),false):=(ih (n8 ad2)).trans (acY x)
 have x5:a2 (cb (j7 x) gK (.int (vs.size:Int)) false) gK=some (.int (vs.size:Int),false):=rget_same
 generalize cb (j7 x) gK (.int (vs.size:Int)) false=J at Y ge gf qa u4 x5
 obtain⟨_,b3,gj,_,_⟩:=Y
 have adl:=j6 _ _ (λq=>aI ((nm _ lw).symm.trans (q▸F.loc))) N3
 refine xW N gj (b3.tabS P) u6 ge acS qa (NO S.cU P) adl (hY (dW gE)) E2 λbN gX z anz bi E3 oe=>?_
 obtain⟨t,jq⟩:=bi.int_inv
 rw[jq] at E3
 have jt:=SameBut.ext' oe
 obtain⟨pJ,nd,ux,pn⟩:=b3.tok.dfl
 obtain⟨vn,adm,N4,x6⟩:=b3.tok.ew
 have len:(H.bounds++[-1]).length=H.bounds.length+1:=d5
 have N5:pJ.size+1<=(H.bounds++[-1]).length:=len▸gr pn
 have N7:vn.size+1<=(H.bounds++[-1]).length:=len▸gr x6
 have fo:Cfg prog w (lR H (H.bounds++[-1])) g bN:=b3.lists En six.ad six.bd six.cd jt _ (len▸aT ao (by lia)) (ad5 xe adj E3) ⟨pJ,nd,jt _ _ six.de.symm ux,Nat.le_of_succ_le N5⟩ ⟨vn,adm,jt _ _ six.df.symm N4,Nat.le_of_succ_le N7⟩
 have gH:=(gj.apart (nm _ lw) jt).ext (EV H (H.bounds++[-1])) (Ext.refl g bN) fo.bn
 have hJ:=(X.own nL j6).mut lw jt ⟨_,E3⟩
 refine xW N gH (fo.tabS P) u6 ge acT u4 (acz S.cU P) (jt _ _ six.de.symm ux) (hY pn) adh λb5 g0 xX anA _ N8 ES=>?_
 have kL:=SameBut.ext' ES
 have f5:Cfg prog w (lR H (H.bounds++[-1])) g b5:=fo.lists Eo six.ae six.be six.ce kL _ fo.line.2 (fo.tok.du.to rfl rfl λo=>kL _ o six.de) (NY N5 N8) (fo.tok.ew.to (cq _) λo=>kL _ o six.ef.symm)
 have mN:=gH.apart (nm _ ul) kL
 refine xW N mN (f5.tabS P) u6 ge acR gf (acA S.cU P) (kL _ _ six.ef.symm (jt _ _ six.df.symm N4)) (hY x6) ld λmO r3 xY anB _ N9 E4=>?_
 have ve:=SameBut.ext' E4
 have xA:Cfg prog w (lR H (H.bounds++[-1])) g mO:=f5.lists Ep six.af six.bf six.cf ve _ f5.line.2 (f5.tok.du.to rfl rfl λo=>ve _ o six.df) (f5.tok.dfl.to (cq _) λo=>ve _ o six.ef) (NY N7 N9)
 have xz:=(hJ.mut ul kL ⟨_,N8⟩).mut N2 ve ⟨_,N9⟩
 rw[<-gE] at aS
 exact ad6 B g3 u7 sn u8 aS ag fX bG T N xA (mN.apart (nm _ N2) ve) ge x5 adi λu9 va vb u EY EZ vc E0=>ak u9 va vb u (xz.trans EY) ((EV H _).trans EZ) vc E0
end
theorem adn(B:Bk prog w G ta K bp mb)(g3:G.free dy=true)(u7:G.val oi=some (.int 10)){cj a:Addr}(sn:lz K ta.gN cj h7=true)(u8:FnOk ta.h0 K fnPut (.ref cj))(aL:FnOk ta.h0 K fnNP (.ref a)){v:V}(ao:(H.bld&&Nat.blt H.bounds.length 60)=true)(h:({H with bounds:=H.bounds++[-1]}:T).put (.tup [.int 10,.int H.bounds.length])=some (v,O))(ag:O.cnt<=ba){ep:Value}(fX:A.depth+1<recursionLimit)(bG:A.units+200<cLine)(T:g.ta=ta)(C:Cfg prog w H g s.heap)(al:Val prog w H g g.im ep (.str x))(ak:ToV prog w H g s O v Q):wpAny (model prog w) A (call (.ref a) [.ref ta.tab,ep]) Q E s:=by
 have u5:Val prog w H g g.im (.ref ta.tab) .tab:=congrArg (λt:Ta=>Value.ref t.tab) T.symm
 refine xf B.th (acQ x) aL (qR fX) T C (.cons u5 (.cons al .nil)) λenv aB bh ie Z=>?_
 exact adf B g3 u7 sn u8 (fi (aK ao).2) h ag fX (show A.units+3+100<cLine from hZ (by lia) bG) T Z.N Z.C Z.F (ET C Z.new) Z.X (Z.new _ .loc Z.F.loc) (by rfl') (by rfl') (by rfl') (by rfl') ak
  (by rfl') (by rfl') (by rfl') (by rfl') (by rfl') (by rfl') (by rfl') (by rfl') (by rfl')
end
inductive Iv where
 |int (i:Int)|str (x:Str)|bool (b:Bool)|none|tup0|list0|listN|dict0|arg (y:Str)|glob (y:Str)
noncomputable def Iv.new:Iv->Bool
 | .tup0=>true
 | .list0=>true
 | .listN=>true
 | .dict0=>true
 |_=>false
noncomputable def ado:Const->Option Iv
 | .int i=>some (.int i)
 | .str x=>some (.str x)
 | .bool b=>some (.bool b)
 | .none=>some .none
 |_=>Option.none
def adp (x:Expr):UnaryOp->Option Iv
 | .USub=>od (Ck x) λi=>some (.int (-i))
 |_=>none
noncomputable def adq:Const->Bool
 | .none=>true
 |_=>false
def Oa:Expr->Bool
 | .Constant k _ _=>adq k
 |_=>false
def adr:List Expr->Option Iv
 |[]=>some .list0
 |e::r=>ow (Oa e&&r.isEmpty) (some .listN)
noncomputable def E5:Option NameKind->Bool
 |some .local=>true
 |_=>false
def ads (sc:Scope) (y:Str):Option Iv:=cond (E5 (lk sc.names y)) (some (.arg y)) (ow (gy ⟨sc,[]⟩ y) (some (.glob y)))
def x7 (sc:Scope):Expr->Option Iv
 | .Constant k _ _=>ado k
 | .UnaryOp op x _=>adp x op
 | .Tuple es _ _=>ow es.isEmpty (some .tup0)
 | .List es _=>adr es
 | .Dict ks vs _=>ow (ks.isEmpty&&vs.isEmpty) (some .dict0)
 | .Name y _=>ads sc y
 |_=>none
noncomputable def E6:Ak->Option (Str×Str)
 | .att x a=>some (x,a)
 |_=>none
def Ob:Stmt->Option (Str×Expr)
 | .Assign cO e _=>od (E6 (rr cO)) λp=>ow (a9 p.1 eV) (some (p.2,e))
 |_=>none
def ivs (sc:Scope):List Stmt->Option (List (Str×Iv))
 |[]=>some []
 |st::r=>od (Ob st) λp=>od (x7 sc p.2) λcp=>od (ivs sc r) λl=>some ((p.1,cp)::l)
inductive IvI (sc:Scope) (e:Expr) (cp:Iv):Prop
 |int (i:Int) (k:Nat) (p:Pos) (h:e= .Constant (.int i) k p) (q:cp= .int i)
 |str (x:Str) (k:Nat) (p:Pos) (h:e= .Constant (.str x) k p) (q:cp= .str x)
 |bool (b:Bool) (k:Nat) (p:Pos) (h:e= .Constant (.bool b) k p) (q:cp= .bool b)
 |none (k:Nat) (p:Pos) (h:e= .Constant .none k p) (q:cp= .none)
 |neg (i:Int) (k:Nat) (p hK:Pos) (h:e= .UnaryOp .USub (.Constant (.int i) k p) hK) (q:cp= .int (-i))
 |tup (k:Nat) (p:Pos) (h:e= .Tuple [] k p) (q:cp= .tup0)
 |list (p:Pos) (h:e= .List [] p) (q:cp= .list0)
 |listN (k:Nat) (p hK:Pos) (h:e= .List [.Constant .none k p] hK) (q:cp= .listN)
 |dict (p:Pos) (h:e= .Dict [] [] p) (q:cp= .dict0)
 |arg (y:Str) (p:Pos) (h:e= .Name y p) (k:lk sc.names y=some .local) (q:cp= .arg y)
 |glob (y:Str) (p:Pos) (h:e= .Name y p) (k:lk sc.names y=some .globalImplicit) (q:cp= .glob y)
theorem adt(h:Oa e=true):∃k p,e= .Constant .none k p:=by
 rcases e
 case Constant c k p=>
  rcases c
  case none=>exact⟨k,p,rfl⟩
  all_goals exact c2 h
 all_goals exact c2 h
theorem Oc{o:Option NameKind}(h:E5 o=true):o=some .local:=by
 rcases o with _|k
 .exact c2 h
 .rcases k
  case «local»=>rfl
  all_goals exact c2 h
theorem Od{cp:Iv}(h:x7 sc e=some cp):IvI sc e cp:=by
 rcases e
 case Constant c k p=>
  rcases c
  case int i=>exact .int i k p rfl (Option.some.inj h).symm
  case str i=>exact .str i k p rfl (Option.some.inj h).symm
  case bool i=>exact .bool i k p rfl (Option.some.inj h).symm
  case none=>exact .none k p rfl (Option.some.inj h).symm
  all_goals exact aI h
 case UnaryOp op x p=>
  rcases op
  case USub=>
   obtain⟨i,e,h⟩:=bD h
   obtain⟨k,hK,e⟩:=Mv e
   rw[e]
   exact .neg i k hK p rfl (Option.some.inj h).symm
  all_goals exact aI h
 case Tuple es k p=>rw[List.isEmpty_iff.mp (br h).1];exact .tup k p rfl (Option.some.inj (br h).2).symm
 case List es p=>
  rcases es with _|⟨e,r⟩
  .exact .list p rfl (Option.some.inj h).symm
  .obtain⟨ap,h⟩:=br h
   obtain⟨k,hK,e⟩:=adt (aK ap).1
   rw[List.isEmpty_iff.mp (aK ap).2,e]
   exact .listN k hK p rfl (Option.some.inj h).symm
 case Dict ks vs p=>
  obtain⟨ap,h⟩:=br h
  rw[List.isEmpty_iff.mp (aK ap).1,List.isEmpty_iff.mp (aK ap).2]
  exact .dict p rfl (Option.some.inj h).symm
 case Name y p=>
  rcases eA h with ⟨k,h⟩|⟨_,h⟩
  .exact .arg y p rfl (Oc k) (Option.some.inj h).symm
  .exact .glob y p rfl (ry (br h).1) (Option.some.inj (br h).2).symm
 all_goals exact aI h
theorem adu{cp:Iv}(h:x7 sc e=some cp):mz e=true:=by
 rcases Od h with ⟨_,_,_,h,_⟩|⟨_,_,_,h,_⟩|⟨_,_,_,h,_⟩|⟨_,_,h,_⟩|⟨_,_,_,_,h,_⟩|⟨_,_,h,_⟩|⟨_,h,_⟩|⟨_,_,_,h,_⟩|⟨_,h,_⟩|⟨_,_,h,_⟩|⟨_,_,h,_⟩<;>rw[h]<;>rfl
theorem adv{k:Ak}{p:Str×Str}(h:E6 k=some p):k= .att p.1 p.2:=by
 rcases k
 case att x a=>exact gb h (P:=λp:Str×Str=>Ak.att x a= .att p.1 p.2) rfl
 all_goals exact aI h
theorem adw{cO:List Expr}{p:Str×Str}(h:E6 (rr cO)=some p)(hx:a9 p.1 eV=true):∃q cj,cO=[.Attribute (.Name eV q) p.2 cj]:=by
 have k:=NA cO
 rw[adv h] at k
 rcases k with _|_|⟨_,_,xp,q,e⟩|_
 exact⟨xp,q,sEq_iff.mp hx▸e⟩
theorem adx{st:Stmt}{q:Str×Expr}(h:Ob st=some q):∃p cj pp,st= .Assign [.Attribute (.Name eV p) q.1 cj] q.2 pp:=by
 rcases st
 case Assign cO e pp=>
  obtain⟨p,e1,h⟩:=bD h
  obtain⟨hx,h⟩:=br h
  obtain⟨xp,cj,e2⟩:=adw e1 hx
  rw[e2,<-Option.some.inj h]
  exact⟨xp,cj,pp,rfl⟩
 all_goals exact aI h
noncomputable def oj:Obj:={cls:=.type "tuple",data:=.seq #[] 0}
inductive RefAt (h:Heap) (o:Obj) (u:Value):Prop
 |mk (a:Addr) (e:u= .ref a) (h:h.get? a=some o)
def IvR(env:Env)(bp:Str->Option Value)(h:Heap)(cp:Iv)(u:Value):Prop:=match cp with
 | .int i=>∃t,u= .int i t
 | .str x=>∃t,u= .str x t
 | .bool b=>u= .bool b
 | .none=>u= .none
 | .tup0=>RefAt h oj u
 | .list0=>RefAt h (listOf #[] 0) u
 | .listN=>RefAt h (listOf #[.none] 0) u
 | .dict0=>RefAt h emptyDict u
 | .arg y=>NameAt env h y u
 | .glob y=>bp y=some u
def noRef(es:List DictEntry):Prop:=es.any (·.refKey)=false
theorem noRef.get{es:List DictEntry}(h:noRef es)(name:Str):∃o,getL name es=some o:=by
 rw[p7,show es.any (·.refKey)=false from h]
 generalize List.find? (λx:DictEntry=>x.key.isStr name) es=x
 rcases x with _|e
 .exact⟨none,rfl⟩
 .exact⟨some e.val,rfl⟩
theorem noRef.put{name:Str}{dT:Int}{t:Tok}{v:Value}:∀{es:List DictEntry},noRef es->noRef (putL name dT (.str name t) v es)
 |[],_=>rfl
 |e::r,h=>by
  obtain⟨aa,ah⟩:=gI h
  rcases q:e.key.isStr name with _|_
  .rw[sd q];exact uR aa (noRef.put (es:=r) ah)
  .rw[uW q];exact uR aa ah
def x8(cp:Iv)(h:Heap)(u:Value):Prop:=cp.new=true->∃a,u= .ref a/\h.get? a=none
section
theorem ady(N:EnvR sc env){aF:Nat}(bx:h.Ns mainGlobals bp){cp:Iv}(kM:x7 sc e=some cp)(adz:∀y,cp= .arg y->∃v,NameAt env h y v)(adA:∀y,cp= .glob y->∃v,bp y=some v)(ak:∀h' dC u,(∀b o,h.get? b=some o->h'.get? b=some o)->IvR env bp h' cp u->x8 cp h u->Q u {s with heap:=h',toks:=dC}):wpAny (model prog w) A (eval e env) Q E {s with heap:=h,toks:=aF}:=by
 have same:∀{u dC},IvR env bp h cp u->cp.new=false->Q u {s with heap:=h,toks:=dC}:=λ{u dC} r n=>ak h dC u (λ_ _ e=>e) r λq=>nomatch (n.symm.trans q)
 have push:∀{o:Obj}{dC},IvR env bp (h.push o) cp (.ref h.objs.size)->Q (.ref h.objs.size) {s with heap:=h.push o,toks:=dC}:=λ{o dC} r=>ak (h.push o) dC _ (λb q e=>ey _ e) r λ_=>⟨_,rfl,ji h⟩
 rcases Od kM with ⟨_,_,_,h,q⟩|⟨_,_,_,h,q⟩|⟨_,_,_,h,q⟩|⟨_,_,h,q⟩|⟨_,_,_,_,h,q⟩|⟨_,_,h,q⟩|⟨_,h,q⟩|⟨_,_,_,h,q⟩|⟨_,h,q⟩|⟨_,_,h,k,q⟩|⟨_,_,h,k,q⟩<;>rw[h]
 .exact wpAny_Constant_int (same (by rw [q];exact⟨_,rfl⟩) (by rw [q];rfl))
 .exact wpAny_Constant_str (same (by rw [q];exact⟨_,rfl⟩) (by rw [q];rfl))
 .exact wpAny_Constant_bool (same (by rw [q];exact rfl) (by rw [q];rfl))
 .exact wpAny_Constant_none (same (by rw [q];exact rfl) (by rw [q];rfl))
 .exact wpAny_UnaryOp (wpAny_Constant_int (P.neg_int (same (by rw [q];exact⟨_,rfl⟩) (by rw [q];rfl))))
 .exact wpAny_Tuple_spliced (args_nil ⟨(by decide:(0:Nat)<=sizeLine),push (o:=oj) (by rw [q];exact⟨_,rfl,ez _ rfl⟩)⟩)
 .exact wpAny_List_spliced (args_nil ⟨(by decide:(0:Nat)<=sizeLine),push (o:=listOf #[] 0) (by rw [q];exact⟨_,rfl,ez _ rfl⟩)⟩)
 .exact wpAny_List_spliced (args_cons (wpAny_Constant_none (args_nil ⟨(by decide:(1:Nat)<=sizeLine),push (o:=listOf #[.none] 0) (by rw [q];exact⟨_,rfl,ez _ rfl⟩)⟩)) rfl)
 .exact wpAny_Dict_empty (push (o:=emptyDict) (by rw [q];exact⟨_,rfl,ez _ rfl⟩))
 .obtain⟨v,al⟩:=adz _ q
  obtain⟨gk,m,aX,av⟩:=id al
  exact wpAny_Name (wpAny_loadName_local N.kind gk aX av (same (by rw [q];exact al) (by rw [q];rfl))) (ia N k)
 .obtain⟨v,al⟩:=adA _ q
  exact Name_function_global N.kind (N.impl _ k) (loadGlobal_global (by rw [N.glob];exact bx) al (same (by rw [q];exact al) (by rw [q];rfl))) (ia N k)
theorem RefAt.mono{o:Obj}{u:Value}{a5:Addr}(r:RefAt h o u)(k:∀b o,b≠a5->h.get? b=some o->h'.get? b=some o)(aQ:u≠ .ref a5):RefAt h' o u:=by
 obtain⟨a,e,q⟩:=r
 exact⟨a,e,k a _ (λq=>aQ (e.trans (congrArg _ q))) q⟩
theorem IvR.mono{cp:Iv}{u:Value}{a5:Addr}(eJ:env.locals≠a5)(k:∀b o,b≠a5->h.get? b=some o->h'.get? b=some o)(aQ:cp.new=true->u≠ .ref a5)(r:IvR env bp h cp u):IvR env bp h' cp u:=by
 rcases cp
 case tup0=>exact RefAt.mono r k (aQ rfl)
 case list0=>exact RefAt.mono r k (aQ rfl)
 case listN=>exact RefAt.mono r k (aQ rfl)
 case dict0=>exact RefAt.mono r k (aQ rfl)
 case arg=>exact NameAt.keep r λo e=>k _ o eJ e
 all_goals exact r
theorem IvR.live{cp:Iv}(n:cp.new=true)(r:IvR env bp h cp (.ref a)):∃o,h.get? a=some o:=by
 have key:∀{o},RefAt h o (.ref a)->∃o,h.get? a=some o:=λq=>by
  obtain⟨b,e,q⟩:=q
  exact⟨_,Value.ref.inj e▸q⟩
 rcases cp
 case tup0=>exact key r
 case list0=>exact key r
 case listN=>exact key r
 case dict0=>exact key r
 all_goals exact c2 n
structure IniOk (env:Env) (bp:Str->Option Value) (a5:Addr) (h h':Heap) (es dN:List DictEntry) (L:List (Str×Iv)) (aU:List Value):Prop where
 keep:∀b o,b≠a5->h.get? b=some o->h'.get? b=some o
 dict:∃n,h'.get? a5=some (dictOf dN n)
 amO:noRef dN
 len:dN.length<=es.length+L.length
 all:aU.length=L.length
 other:∀name,name∉L.map (·.1)->getL name dN=getL name es
 at_:∀(k:Nat) a cp u,L[k]? =some (a,cp)->aU[k]? =some u->getL a dN=some (some u)/\IvR env bp h' cp u/\x8 cp h u
 apart:∀(i j:Nat) a cp nY ol u,i<j->L[i]? =some (a,cp)->L[j]? =some (nY,ol)->cp.new=true->ol.new=true->aU[i]? =some u->aU[j]? ≠some u
section
variable {a5:Addr}{h aB a8 h':Heap}{es dN:List DictEntry}{L:List (Str×Iv)}{aU:List Value}{a:Str}{cp:Iv}{u:Value}{dT:Int}{t:Tok}
theorem adB{name:Str}(x9:noRef es)(gD:a≠name):getL name (putL a dT (.str a t) u es)=getL name es:=by
 obtain⟨o,aG⟩:=x9.get name
 exact((mS aG).SM (xQ a t) (λ_ _=>rfl) gD).get.trans aG.symm
theorem IniOk.cons(eJ:env.locals≠a5){od:Obj}(aQ:h.get? a5=some od)(x9:noRef es)(k₁:∀b o,h.get? b=some o->aB.get? b=some o)(r₁:IvR env bp aB cp u)(ya:x8 cp h u)(j6:∀b o,b≠a5->aB.get? b=some o->a8.get? b=some o){adC:Obj}(yb:a8.get? a5=some adC)(adD:a∉L.map (·.1))(I:IniOk env bp a5 a8 h' (putL a dT (.str a t) u es) dN L aU):IniOk env bp a5 h h' es dN ((a,cp)::L) (u::aU):=by
 have step:∀b o,b≠a5->h.get? b=some o->a8.get? b=some o:=λb o ne e=>j6 b o ne (k₁ b o e)
 have E7:cp.new=true->u≠ .ref a5:=λq e=>by
  obtain⟨b,bq,ao⟩:=ya q
  rw[Value.ref.inj (bq.symm.trans e)] at ao
  exact aI (ao.symm.trans aQ)
 have back:∀{c},a8.get? c=none->h.get? c=none:=λ{c} ap=>by
  rcases e:h.get? c with _|o
  .rfl
  .exact aI (ap.symm.trans (step c o (λq=>aI (ap.symm.trans (q▸yb))) e))
 refine⟨λb o ne e=>I.keep b o ne (step b o ne e),I.dict,I.amO,?_,congrArg Nat.succ I.all,λname aX=>?_,λk b ol ea aj bG=>?_,λi j b Oe hC Of ea lx hi bt dB d9 Og=>?_⟩
 .refine aT I.len (aT (jC xN _) (dW ?_))
  rw[kk,jE,jG 1]
 .rw[km,qY,not_or] at aX
  exact(I.other name aX.2).trans (adB x9 λq=>aX.1 q.symm)
 .rcases k with _|k
  .have bG:u=ea:=Option.some.inj bG
   obtain⟨o,aG⟩:=x9.get a
   rw[<-bG]
   exact pI aj (P:=λb ol=>getL b dN=some (some u)/\IvR env bp h' ol u/\x8 ol h u) ⟨(I.other a adD).trans ((mS aG).put (xQ a t)).get,(r₁.mono eJ j6 E7).mono eJ I.keep E7,ya⟩
  .obtain⟨bU,bZ,dJ⟩:=I.at_ k b ol ea aj bG
   exact⟨bU,bZ,λq=>(dJ q).imp λ_ p=>⟨p.1,back p.2⟩⟩
 .rcases i with _|i
  .rcases j with _|j
   .exact absurd lx (qX _)
   .have bG:u=ea:=Option.some.inj Og
    have e2:cp=Oe:=(Prod.mk.inj (Option.some.inj hi)).2
    rw[<-e2] at dB
    rw[<-bG]
    intro bG
    obtain⟨_,_,dJ⟩:=I.at_ j hC Of u bt bG
    obtain⟨c,e,ap⟩:=dJ d9
    have Oh:=E7 dB
    rw[e] at r₁ Oh
    obtain⟨o,aG⟩:=r₁.live dB
    exact aI (ap.symm.trans (j6 c o (λq=>Oh (congrArg _ q)) aG))
  .rcases j with _|j
   .exact absurd lx (zS _)
   .exact I.apart i j b Oe hC Of ea (oJ lx) hi bt dB d9 Og
end
structure IniF (K:Frag) (C x a5:Addr) (sc:Scope) (env:Env) (h0:Heap):Prop where
 N:EnvR sc env
 KI:K.In h0
 self:lk sc.names eV=some .local
 L:env.locals≠a5
 x:x≠a5
 G:mainGlobals≠a5
 d:h0.get? a5=none
structure IniAt (K:Frag) (C x a5:Addr) (env:Env) (bp:Str->Option Value) (h0 h:Heap) (es:List DictEntry) (n:Nat) (L:List (Str×Iv)):Prop where
 nd:(L.map (·.1)).Nodup
 set:∀a∈L.map (·.1),hp K C a=true
 up:∀b o,h0.get? b=some o->h.get? b=some o
 g:h.Ns mainGlobals bp
 xo:h.get? x=some (instObj C a5)
 d:h.get? a5=some (dictOf es n)
 nr:noRef es
 len:es.length+L.length<=800
 self:NameAt env h eV (.ref x)
 arg:∀y a,(a,Iv.arg y)∈L->∃v,NameAt env h y v
 glob:∀y a,(a,Iv.glob y)∈L->∃v,bp y=some v
theorem Oi{C x a5:Addr}{h0:Heap}(F:IniF K C x a5 sc env h0){Q:Flow->Shared->Prop}:
  ∀{cB:List Stmt}{L:List (Str×Iv)}{h:Heap}{aF n:Nat}{es:List DictEntry},ivs sc cB=some L->IniAt K C x a5 env bp h0 h es n L->
  (∀h' dC dN aU,IniOk env bp a5 h h' es dN L aU->wpAny (model prog w) A (execs bu env) Q E {s with heap:=h',toks:=dC})->wpAny (model prog w) A (execs (cB++bu) env) Q E {s with heap:=h,toks:=aF}
 |[],L,h,aF,n,es,kM,Z,ak=>by
  refine ak h aF es [] ?_
  rw[<-Option.some.inj kM]
  exact⟨λ_ _ _ e=>e,⟨n,Z.d⟩,Z.nr,cq _,rfl,λ_ _=>rfl,λk a cp u e=>aI e,λi j a cp nY ol u _ e=>aI e⟩
 |st::cB,L,h,aF,n,es,kM,Z,ak=>by
  obtain⟨⟨a,e⟩,e1,kM⟩:=bD kM
  obtain⟨cp,Oj,kM⟩:=bD kM
  obtain⟨adE,adF,kM⟩:=bD kM
  obtain⟨fm,cj,pp,e1⟩:=adx e1
  rw[<-Option.some.inj kM] at Z ak
  have nd:=List.nodup_cons.mp Z.nd
  rw[ts,e1]
  refine wpAny_execs_cons (plainObj_wpAny_Assign_Attribute ?_ (xH (adu Oj) _ rfl _ _))
  refine ady F.N Z.g Oj (λy q=>Z.arg y a (q▸ .head _)) (λy q=>Z.glob y a (q▸ .head _)) λaB bh u k₁ r₁ ya=>?_
  obtain⟨ks,m,aX,av⟩:=Z.self.keep (h':=aB) λo e=>k₁ _ o e
  refine wpAny_Name (wpAny_loadName_local F.N.kind ks aX av ?_) (ia F.N F.self)
  obtain⟨o,aG⟩:=Z.nr.get a
  have len:es.length+1+adE.length<=800:=aT (dW (by rw [jE,jG 1];rfl)) Z.len
  refine Nl (s:={s with heap:=aB,toks:=_}) (F.KI.keeps λb o e=>k₁ b o (Z.up b o e)) (k₁ _ _ Z.xo) (k₁ _ _ Z.d) (Z.set a (.head _)) (mS aG) (aT (aT (eZ _ _) Z.len) (by decide)) λa8 dT t db yb oa b8=>?_
  have j6:=SameBut.ext' oa
  have step:∀b o,b≠a5->h.get? b=some o->a8.get? b=some o:=λb o ne e=>j6 b o ne (k₁ b o e)
  have yc:a8.Ns mainGlobals bp:=Z.g.at' λo e=>step _ o F.G e
  exact Oi F adF ⟨nd.2,λb ao=>Z.set b (.tail _ ao),λb o e=>step b o (λq=>aI (F.d.symm.trans (q▸e))) (Z.up b o e),yc,step _ _ F.x Z.xo,yb,Z.nr.put,aT (jC xN _) len,Z.self.keep λo e=>step _ o F.L e,
   λy b ao=>(Z.arg y b (.tail _ ao)).imp λv al=>al.keep λo e=>step _ o F.L e,λy b ao=>Z.glob y b (.tail _ ao)⟩ λbN gX adG aU I=>ak bN gX adG (u::aU) (I.cons F.L Z.d Z.nr k₁ r₁ ya j6 yb nd.1)
end
section
theorem adH{C fI:Addr}{R:Result->Shared->Prop}{bu:List Value}(X:K.In s.heap)(av:makesIn K C=true)(hi:findIn K (.ref C) "__init__"=some (some (.ref fI)))(a6:isFn K (.ref fI)=true)(h:codeAny (model prog w) (A.under (.builtin "type.__call__" ⟨.ref C::bu,[]⟩)) (.call (.ref fI) ⟨.ref (s.heap.objs.size+1)::bu,[]⟩) (InitBack (s.heap.objs.size+1) R) {s with heap:=(s.heap.push emptyDict).push (instObj C s.heap.objs.size)}):
  codeAny (model prog w) A (.call (.ref C) ⟨bu,[]⟩) R s:=by
 obtain⟨hh,g,d,t,os⟩:=s
 exact make_core (makes_of X av) (looks_findIn X hi) (λself=>bind_fn X self (beq_iff_eq.mp a6)) (.inl rfl) h
theorem Ol(C:Addr)(bu:List Value):(Code.builtin "type.__call__" ⟨.ref C::bu,[]⟩).weight=1:=by rfl'
theorem adI(C:Addr)(bu:List Value):(Code.builtin "type.__call__" ⟨.ref C::bu,[]⟩).cUnits=1:=by rfl'
structure Inst (K:Frag) (bp:Str->Option Value) (h0:Heap) (C:Addr) (fn:Fn) (ps:List Str) (yd ye:List Stmt) (L:List (Str×Iv)):Prop where
 NL:h0.NoLimit
 KI:K.In h0
 g:h0.Ns mainGlobals bp
 make:makesIn K C=true
 init:∃fI,findIn K (.ref C) "__init__"=some (some (.ref fI))/\isFn K (.ref fI)=true/\FnOk h0 K fn (.ref fI)
 bd:fn.bd=yd++ye
 ivs:ivs fn.sc yd=some L
 nd:(L.map (·.1)).Nodup
 len:L.length<=800
 set:∀a∈L.map (·.1),hp K C a=true
 ps:fn.ps=eV::ps
 loc:∀y∈fn.ps,lk fn.sc.names y=some .local
 arg:∀y a,(a,Iv.arg y)∈L->y∈fn.ps
 glob:∀y a,(a,Iv.glob y)∈L->∃v,bp y=some v
structure Made (bp:Str->Option Value) (C:Addr) (fn:Fn) (L:List (Str×Iv)) (bu:List Value) (h:Heap) (a5:Addr) (env:Env) (bN b5:Heap) (es:List DictEntry) (aU:List Value):Prop where
 N:EnvR fn.sc env
 cl:∃n,env.cells=cellsFrom n fn.sc.names []
 d0:h.get? a5=none
 x0:h.get? (a5+1)=none
 L0:h.get? env.locals=none
 nd:env.locals≠a5
 nx:env.locals≠a5+1
 L3:∃o,bN.get? env.locals=some o
 k3:∀b o,h.get? b=some o->bN.get? b=some o
 k4:∀b o,h.get? b=some o->b5.get? b=some o
 x3:bN.get? (a5+1)=some (instObj C a5)
 x4:b5.get? (a5+1)=some (instObj C a5)
 d3:bN.get? a5=some emptyDict
 I:IniOk env bp a5 bN b5 [] es L aU
 nm:∀y v,y∈fn.ps->(fn.ps.zip (.ref (a5+1)::bu)).lookup y=some v->NameAt env b5 y v
theorem E8{h0:Heap}{C:Addr}{fn:Fn}{ps:List Str}{yd ye:List Stmt}{L:List (Str×Iv)}(Z:Inst K bp h0 C fn ps yd ye L){bu:List Value}(fX:A.depth+1<recursionLimit)(up:∀b o,h0.get? b=some o->s.heap.get? b=some o)(ag:bu.length=ps.length)(k:∀a5 env bN b5 g0 es aU ie,Made bp C fn L bu s.heap a5 env bN b5 es aU->wpAny (model prog w) ((A.under (.builtin "type.__call__" ⟨.ref C::bu,[]⟩)).deeper env) (execs ye env) (λf bQ=>nQ f= .none/\Q (.ref (a5+1)) bQ) ie {s with heap:=b5,toks:=g0}):wpAny (model prog w) A (call (.ref C) bu) Q E s:=by
 obtain⟨fI,hi,a6,sr⟩:=Z.init
 refine wpAny_call (adH (K:=K) (Z.KI.keeps up) Z.make hi a6 ?_)
 have d0:=ji s.heap
 have x0:s.heap.get? (s.heap.objs.size+1)=none:=xD (cG _)
 have hb:∀b o,s.heap.get? b=some o->((s.heap.push emptyDict).push (instObj C s.heap.objs.size)).get? b=some o:=λb o e=>ey _ (ey _ e)
 have xm:(s.heap.push emptyDict).objs.size=s.heap.objs.size+1:=kl ..
 have kz:((s.heap.push emptyDict).push (instObj C s.heap.objs.size)).get? (s.heap.objs.size+1)=some (instObj C s.heap.objs.size):=xm▸ez (s.heap.push emptyDict) (o:=instObj C s.heap.objs.size) rfl
 have d2:((s.heap.push emptyDict).push (instObj C s.heap.objs.size)).get? s.heap.objs.size=some emptyDict:=ey _ (ez _ rfl)
 have p9:((s.heap.push emptyDict).push (instObj C s.heap.objs.size)).objs.size=s.heap.objs.size+2:=(kl ..).trans (congrArg Nat.succ xm)
 have len:(Value.ref (s.heap.objs.size+1)::bu).length=fn.ps.length:=by rw [Z.ps];exact congrArg Nat.succ ag
 refine Di (s:={s with heap:=(s.heap.push emptyDict).push (instObj C s.heap.objs.size)}) Z.NL sr (show A.depth+(Code.builtin "type.__call__" _).weight<recursionLimit from (Ol C bu).symm▸fX) (λb o e=>hb b o (up b o e)) (dW len) (by rw [len,wd];exact iB _) λdv env c1 ie aL=>?_
 have x:=aL.x
 have ao:lD fn.ps (Value.ref (s.heap.objs.size+1)::bu) dv=fn.ps.zip (Value.ref (s.heap.objs.size+1)::bu):=by
  unfold lD
  rw[len,wd,Nat.sub_zero,zO,eh]
 rw[ao] at x
 have yf:((fn.ps.zip (Value.ref (s.heap.objs.size+1)::bu)).map (·.1)).Nodup:=by
  rw[LK (dW len.symm)];exact sr.nd
 have fr:s.heap.objs.size+2<=env.locals:=p9▸x.toInCall.fresh
 have ns:=x.toInCall.ns
 obtain⟨bN,gX,uN,k3⟩:=x.done
 rw[uN] at ns |-
 have q1:∀b o,s.heap.get? b=some o->bN.get? b=some o:=λb o e=>k3 b o (hb b o e)
 have nd:env.locals≠s.heap.objs.size:=(gP (me (qQ (qU _)) fr)).symm
 have nx:env.locals≠s.heap.objs.size+1:=(gP (me (qU _) fr)).symm
 have L0:s.heap.get? env.locals=none:=xD (aT (eZ _ 2) fr)
 have L3:∃o,bN.get? env.locals=some o:=by
  obtain⟨o,_,_,e,_⟩:=ns
  exact⟨o,e⟩
 have back:∀{b},s.heap.get? b=none->h0.get? b=none:=gU λb o e=>⟨o,up b o e⟩
 have nm:∀y v,y∈fn.ps->(fn.ps.zip (Value.ref (s.heap.objs.size+1)::bu)).lookup y=some v->NameAt env bN y v:=λy v aY e=>⟨aL.N.loc y (Z.loc y aY),_,ns,(rJ (aL.N.loc y (Z.loc y aY)) _ yf).trans (by rw [e];rfl)⟩
 have aJ:eV∈fn.ps:=Z.ps▸ .head _
 rw[Z.bd]
 refine Oi (n:=0) (es:=[]) ⟨aL.N,Z.KI,Z.loc _ aJ,nd,qS _,λq=>?_,back d0⟩ Z.ivs ⟨Z.nd,Z.set,λb o e=>q1 b o (up b o e),Z.g.at' λo e=>q1 _ o (up _ o e),k3 _ _ kz,k3 _ _ d2,rfl,aT (dW (mf _)) Z.len,nm _ _ aJ (by rw [Z.ps];exact n2),
  λy b ao=>(w5 (Z.arg y b ao) (dW len.symm)).imp λv e=>nm y v (Z.arg y b ao) e,Z.glob⟩ λb5 g0 es aU I=>?_
 .obtain⟨o,_,_,aG,_⟩:=Z.g
  exact aI ((back d0).symm.trans (q▸aG))
 .have z8:∀b o,s.heap.get? b=some o->b5.get? b=some o:=λb o e=>I.keep b o (λq=>aI (d0.symm.trans (q▸e))) (q1 b o e)
  exact wpAny_mono (k s.heap.objs.size env bN b5 g0 es aU ie ⟨aL.N,aL.cl,d0,x0,L0,nd,nx,L3,q1,z8,k3 _ _ kz,I.keep _ _ (qS _) (k3 _ _ kz),k3 _ _ d2,I,λy v aY e=>(nm y v aY e).keep λo e=>I.keep _ o nd e⟩) (λ_ _ h=>h) λ_ _ h=>h
def qe(g:Gh)(x a5 dZ:Addr):Gh:={(g.add dZ oj).add x (instObj g.ta.fg a5) with dd:=g.dd++[(x,a5)]}
structure DeclN (g:Gh) (h:Heap) (x a5 dZ:Addr) (es:List DictEntry) (n:Nat) (t:Tok):Prop where
 hx:h.get? x=some (instObj g.ta.fg a5)
 vW:h.get? a5=some (dictOf es n)
 vX:h.get? dZ=some oj
 len:es.length<=100
 bases:getL lc es=some (some (.ref dZ))
 body:getL fT es=some (some (.int (-1) t))
 ix:g.im x=none
 mx:x∉g.bW
 idx:g.im a5=none
 SJ:a5∉g.bW
 ib:g.im dZ=none
 mb:dZ∉g.bW
section
variable {x a5 dZ:Addr}{es:List DictEntry}{t:Tok} (Z:DeclN g h x a5 dZ es n t)
include Z
theorem DeclN.xd:x≠a5:=λe=>by
 have:=congrArg Obj.dict (Option.some.inj (Z.hx.symm.trans (e▸Z.vW)))
 exact nomatch this
theorem DeclN.xb:x≠dZ:=λe=>by
 have:=congrArg Obj.dict (Option.some.inj (Z.hx.symm.trans (e▸Z.vX)))
 exact nomatch this
theorem DeclN.bd:dZ≠a5:=λe=>by
 have:=congrArg Obj.data (Option.some.inj (Z.vX.symm.trans (e▸Z.vW)))
 exact nomatch this
theorem DeclN.SI:(g.add dZ oj).im x=none:=(Gh.g9 Z.xb).trans Z.ix
theorem DeclN.im(a:Addr)(o:Obj)(e:g.im a=some o):(qe g x a5 dZ).im a=some o:=Gh.hv Z.SI a o (Gh.hv Z.ib a o e)
theorem DeclN.amZ:(qe g x a5 dZ).im dZ=some oj:=Gh.hv Z.SI dZ _ (Gh.jA _ _ _)
theorem DeclN.amW:(qe g x a5 dZ).im x=some (instObj g.ta.fg a5):=Gh.jA _ _ _
end
theorem E9{x a5 dZ b:Addr}(aa:b≠x)(ah:b≠dZ):(qe g x a5 dZ).im b=g.im b:=(Gh.g9 (g:=g.add dZ oj) aa).trans (Gh.g9 ah)
theorem Om(g:Gh)(x a5 dZ:Addr):(qe g x a5 dZ).bW=g.bW++[a5]:=by
 unfold Gh.bW
 show _++(g.dd++[(x,a5)]).map (·.2)=_
 rw[nj,<-iA];rfl
theorem adJ{a b:Array Value}(h:some (listOf a n)=some (listOf b m)):a=b:=by
 have h:=congrArg Obj.data (Option.some.inj h)
 injection h
def vf(H:T):T:={H with decls:=H.decls++[.int (-1)]}
theorem Cfg.decl(C:Cfg prog w H g h){x a5 dZ:Addr}{es:List DictEntry}{n nd adK:Nat}{vs:Array Value}{t:Tok}(eB:H.decls.length<60)(Z:DeclN g h x a5 dZ es n t)(aQ:h.get? g.ta.decls=some (listOf vs adK))(iJ:h'.get? g.ta.decls=some (listOf (vs.push (.ref x)) nd))(aJ:∀a o,a≠g.ta.decls->h.get? a=some o->h'.get? a=some o):Cfg prog w (vf H) (qe g x a5 dZ) h':=by
 have D:=C.tok
 have S:=D.six
 have cj:=D.apart
 have On:g.ta.decls∈g.bW:=jD _ xO
 have len:(vf H).decls.length=H.decls.length+1:=d5
 have le:H.bP (vf H):=Er H _ (len.symm▸cG _)
 have r9:∀{a},a∉g.bW->∀o,h.get? a=some o->h'.get? a=some o:=λm o=>aJ _ o λq=>m (q▸On)
 obtain⟨kA,m,e,b,c⟩:=D.decls
 rw[adJ (e.symm.trans aQ)] at b
 refine⟨λa o e=>?_,λa o e=>Z.im a o (C.base a o e),Nm C.ok _,⟨Z.im _ _ D.tab,D.cU.to rfl Z.im,λq=>Z.im _ _ (D.host q),λq=>(D.hu q).to rfl Z.im,D.rows.to rfl Z.im le rfl λo=>aJ _ o S.ac,D.idx.to rfl Z.im le rfl λo=>aJ _ o S.bc,D.k2,
  ⟨_,nd,iJ,by rw [oM,b];show _=_::List.map _ (g.dd++[(x,a5)]);rw[nj];rfl,by rw [len,c];exact congrArg Nat.succ (d5 (as:=g.dd) (bs:=[(x,a5)])).symm⟩,λk p aS=>?_,
  D.du.to rfl rfl λo=>aJ _ o S.cd.symm,D.dfl.to (cq _) λo=>aJ _ o S.ce.symm,D.ew.to (cq _) λo=>aJ _ o S.cf.symm,?_,λa aw=>?_⟩,⟨len▸aT eB (aT (by decide) (eZ 64 H.cnt)),C.line.2⟩,C.mods⟩
 .rcases Gh.oH e with ⟨e1,e2⟩|e
  .rw[e1,<-e2];exact r9 Z.mx _ Z.hx
  .rcases Gh.oH e with ⟨e1,e2⟩|e
   .rw[e1,<-e2];exact r9 Z.mb _ Z.vX
   .exact aJ a o (λq=>aI ((D.out _ On).symm.trans (q▸e))) (C.bn a o e)
 .have aS:(g.dd++[(x,a5)])[k]? =some p:=aS
  rcases oP k g.dd.length with q|q
  .rw[mc q] at aS
   exact(D.decl k p aS).to rfl Z.im le (mc (c▸Nat.succ_lt_succ q)) λo=>aJ _ o (cj.ne _ xO _ (tk (oK aS))).symm
  .rw[nh q] at aS
   have z:k - g.dd.length=0:=Nat.lt_one_iff.mp (List.getElem?_eq_some_iff.mp aS).1
   rw[z] at aS
   rw[<-Option.some.inj (show some (x,a5)=some p from aS),tu (Ik z) q]
   exact⟨Z.amW,es,n,r9 Z.SJ _ Z.vW,Z.len,_,Z.bases,.tup Z.amZ rfl rfl .nil,-1,t,.int (-1),Z.body,by rw [<-c];show (H.decls++[.int (-1)])[H.decls.length]? =_;rw[nh (cq _),wd];rfl,rfl⟩
 .rw[Om]
  exact List.nodup_append.mpr ⟨D.nd,List.nodup_cons.mpr ⟨kj,.nil⟩,λa aw b ao q=>Z.SJ ((q.trans (dG ao))▸aw)⟩
 .rw[Om] at aw
  rcases sf aw with q|q
  .exact(E9 (λe:a=x=>Z.mx (e▸q)) λe:a=dZ=>Z.mb (e▸q)).trans (D.out a q)
  .rw[q];exact(E9 Z.xd.symm Z.bd.symm).trans Z.idx
end
noncomputable def fnND:Fn:=⟨aA 60,[]⟩
noncomputable def fnDI:Fn:=⟨c5 55 0,[]⟩
def qf:=an "kind"
def qg:=an "decl"
def ss:=an "Decl"
def su (i:Int) (x:Str):am:=[(cF,.tab,false),(qf,.int i,false),(ju,.str x,false)]
theorem adL(i:Int)(x:Str):o8 fnND.ps [.tab,.int i,.str x] fnND.dfl=some (su i x):=by rfl'
theorem Oo:lk fnND.sc.names cF=some .local:=by rfl'
theorem adM:lk fnND.sc.names qf=some .local:=by rfl'
theorem adN:lk fnND.sc.names ju=some .local:=by rfl'
theorem Fa:lk fnND.sc.names qg=some .local:=by rfl'
theorem adO:lk fnND.sc.names ss=some .globalImplicit:=by rfl'
theorem adP:lk fnND.sc.names dy=some .globalImplicit:=by rfl'
theorem Op(i:Int)(x:Str):a2 (su i x) cF=some (.tab,false):=by rfl'
theorem adQ(i:Int)(x:Str):a2 (su i x) qf=some (.int i,false):=by rfl'
theorem adR(i:Int)(x:Str):a2 (su i x) ju=some (.str x,false):=by rfl'
def Fb:=an "did"
def anC:=an "params"
def declL:List (Str×Iv):=(ivs fnDI.sc fnDI.bd).getD []
theorem adS:ivs fnDI.sc fnDI.bd=some declL:=by rfl'
def vg (x:Str) (l:List Str):Bool:=l.any (a9 x)
def Oq:List Str->Bool
 |[]=>true
 |x::r=> !vg x r&&Oq r
theorem sv{l:List Str}(h:vg x l=false):x∉l:=λq=>nomatch (h.symm.trans (List.any_eq_true.mpr ⟨x,q,pe x⟩))
theorem Ot{l:List Str}(h:vg x l=true):x∈l:=by
 obtain⟨y,aY,e⟩:=List.any_eq_true.mp h
 exact sEq_iff.mp e▸aY
theorem yg:∀{l:List Str},Oq l=true->l.Nodup
 |[],_=> .nil
 |_::_,h=>List.nodup_cons.mpr ⟨sv (Bool.tg (aK h).1),yg (aK h).2⟩
theorem adT:(declL.map (·.1)).Nodup:=yg (by rfl')
theorem Ou:declL.length=15:=by rfl'
theorem adU:∃k:Nat,declL[k]? =some (fT,Iv.int (-1)):=⟨4,by rfl'⟩
theorem adV:∃k:Nat,declL[k]? =some (lc,Iv.tup0):=⟨5,by rfl'⟩
def adW (ps:List Str):Iv->Bool
 | .arg y=>vg y ps
 |_=>true
def adX (ps:List Str):Iv->Bool
 | .glob y=>vg y ps
 |_=>true
theorem Fc{L:List (Str×Iv)}{ps:List Str}(h:(L.all λp=>adW ps p.2)=true)(y a:Str)(m:(a,Iv.arg y)∈L):y∈ps:=Ot (List.all_eq_true.mp h _ m)
theorem Fd{L:List (Str×Iv)}{ps:List Str}(h:(L.all λp=>adX ps p.2)=true)(y a:Str)(m:(a,Iv.glob y)∈L):y∈ps:=Ot (List.all_eq_true.mp h _ m)
theorem Fe{ps:List Str}(h:(ps.all λy=>E5 (lk sc.names y))=true)(y:Str)(m:y∈ps):lk sc.names y=some .local:=Oc (List.all_eq_true.mp h _ m)
theorem adY:fnDI.ps=[eV,Fb,qf,ju]:=by rfl'
section
theorem adZ(i:Int)(x:Str):a2 (su i x) qg=none:=by rfl'
theorem ae0(B:Bk prog w G ta K bp mb)(av:makesIn K ta.fg=true){fI:Addr}(hi:findIn K (.ref ta.fg) "__init__"=some (some (.ref fI)))(Ff:isFn K (.ref fI)=true)(sr:FnOk ta.h0 K fnDI (.ref fI))(Fg:∀a∈declL.map (·.1),hp K ta.fg a=true):
  Inst K bp ta.h0 ta.fg fnDI [Fb,qf,ju] fnDI.bd [] declL:=
 ⟨B.th,B.tp.gq,B.g,av,⟨fI,hi,Ff,sr⟩,(eh _).symm,adS,adT,by rw [Ou];decide,Fg,adY,Fe (by rfl'),Fc (by rfl'),λy a m=>nomatch Fd (ps:=[]) (by rfl') y a m⟩
theorem yh{aU:List Value}(h:aU.length=n)(aj:k<n):∃u,aU[k]? =some u:=⟨_,oI (h▸aj)⟩
theorem Ov{α:Type}{l:List α}{p:α}(h:l[k]? =some p):k<l.length:=(List.getElem?_eq_some_iff.mp h).1
section
variable {aF:Nat}
inductive DeclI (aB bN b5:Heap) (es:List DictEntry):Prop
 |mk (dZ:Addr) (t:Tok) (n:aB.get? dZ=none) (o:b5.get? dZ=some oj) (vh:getL fT es=some (some (.int (-1) t))) (vi:getL lc es=some (some (.ref dZ)))
theorem ae1{Ow:Env}{C:Addr}{bu:List Value}{aB bN b5:Heap}{a5:Addr}{es:List DictEntry}{aU:List Value}(M:Made bp C fnDI declL bu aB a5 Ow bN b5 es aU):DeclI aB bN b5 es:=by
 obtain⟨kb,Ox⟩:=adU
 obtain⟨Oy,Oz⟩:=adV
 obtain⟨anD,ae2⟩:=yh M.I.all (Ov Ox)
 obtain⟨anE,ae3⟩:=yh M.I.all (Ov Oz)
 obtain⟨vh,⟨vj,gn⟩,_⟩:=M.I.at_ kb _ _ _ Ox ae2
 obtain⟨vi,⟨dZ,fM,vX⟩,ae4⟩:=M.I.at_ Oy _ _ _ Oz ae3
 obtain⟨anF,e,yi⟩:=ae4 rfl
 rw[gn] at vh
 rw[fM] at vi e
 rw[<-Value.ref.inj e] at yi
 exact⟨dZ,vj,gU (λa o e=>⟨o,M.k3 a o e⟩) yi,vX,vh,vi⟩
theorem ae5{en er e4 ij vd E1 iV ae6 ae7 ae8 hg gV hj jT mC lr eT cP:Pos}{i:Int}{a4:Str}{cg ch nO cC:Str}{Q:Flow->Shared->Prop}(B:Bk prog w G ta K bp mb)(g3:G.free dy=true)(ae9:Inst K bp ta.h0 ta.fg fnDI [Fb,qf,ju] fnDI.bd [] declL)(jY:bp ss=some (.ref ta.fg))(Fh:keepIn K (.ref ta.fg)=true)(ao:H.decls.length<60)(fX:A.depth+1<recursionLimit)(T:g.ta=ta)(N:EnvR fnND.sc env)(C:Cfg prog w H g h)(F:FrR prog w H g h env (su i a4) ai)(nm:∀b∈g.bW,ai b=none){cu:Heap}(X:Ext g cu g h)(nL:cu.get? env.locals=none)(E2:(jT.endLine==lr.line)=true)(ak:∀au h' aF u,Ext g cu au h'->Cfg prog w (vf H) au h'->Val prog w (vf H) au au.im u (.decl H.decls.length)->Q (.ret u) {s with heap:=h',toks:=aF})(e1:cg=dy)(e2:ch=kt)(e3:nO=kt)(fH:cC=jd):
  wpAny (model prog w) A (execs (.Assign [.Name qg en] (.Call (.Name ss er) [.Call (.Name cg e4) [.Attribute (.Name cF ij) ch vd] [] E1,.Name qf iV,.Name ju ae6] [] ae7) ae8:: .Expr (.Call (.Attribute (.Attribute (.Name cF gV) nO hj) cC jT) [.Name qg mC] [] lr) hg:: .Return (some (.Name qg eT)) cP::bu) env) Q E {s with heap:=h,toks:=aF}:=by
 subst e1 e2 e3 fH
 have P:Tp g.ta K:=T▸B.tp
 have S:=C.tabS P
 have up:∀b o,ta.h0.get? b=some o->h.get? b=some o:=λb o e=>C.bn b o (C.base b o (T▸e))
 obtain⟨vs,aea,pQ,Fi,aeb⟩:=C.tok.decls
 have gE:vs.size=H.decls.length:=by rw [aeb,<-tl,Fi,kk,eQ]
 have hY:vs.size<=sizeLine:=mL (gE▸aT (jH ao) (by decide))
 refine wpAny_execs_cons (wpAny_Assign_Name (Call_Name rfl (pA (s:={s with heap:=h,toks:=aF}) B C T N adO jY ?_)) (sa rfl qg en _ env))
 refine gi (P:=λh=>K.In h) rfl (λh X=>keeps_K Fh h X) ?_
 refine args_cons (Call_Name rfl (rM (s:={s with heap:=h,toks:=aF}) B C T N adP g3 ?_)) rfl
 refine gi (P:=λ_=>True) rfl (λh _=>lJ (DA dy)) ?_
 refine args_cons (si (s:={s with heap:=h,toks:=aF}) N F S Oo (Op i a4) (NP S.cU P) ?_) rfl
 refine args_nil ⟨trivial,?_⟩
 show wpAny _ A (call (.builtin "len") [.ref g.ta.decls]) _ _ _
 refine len_list ⟨_,pQ,rfl,aea,rfl⟩ (EE hY) ?_
 refine args_cons (jh (s:={s with heap:=h,toks:=_}) N F (.inl adM) (adQ i a4) λanG _=>?_) rfl
 refine args_cons (jh (s:={s with heap:=h,toks:=_}) N F (.inl adN) (adR i a4) λanH _=>?_) rfl
 refine args_nil ⟨C.gq (s:={s with heap:=h,toks:=0}) P,?_⟩
 rw[tx]
 refine E8 (s:={s with heap:=h,toks:=_}) ae9 fX up rfl λa5 Ow bN b5 g0 es aU ie M=>wpAny_execs_nil ⟨rfl,?_⟩
 obtain⟨dZ,vj,kD,Fj,vh,vi⟩:=ae1 M
 have f5:=C.grow M.k4
 have mN:=F.ext (.refl H) (Ext.grow g M.k4) f5.bn
 refine acy (s:={s with heap:=b5,toks:=g0}) N f5 mN Fa (adZ i a4) λmO r3 Y=>?_
 obtain⟨OA,pq⟩:=(F.sep _ _ F.loc).live
 have Fk:∀{b},h.get? b=none->b≠env.locals:=λe q=>aI (e.symm.trans (q▸pq))
 have rT:g.ta.decls∈g.bW:=jD _ xO
 have OE:=Y.ext _ _ (λq=>aI ((nm _ rT).symm.trans (q▸F.loc))) (M.k4 _ _ pQ)
 obtain⟨aec,Fm⟩:=M.I.dict
 have OF:DeclN g mO (a5+1) a5 dZ es aec vj:=⟨T▸Y.ext _ _ (Fk M.x0) M.x4,Y.ext _ _ (Fk M.d0) Fm,Y.ext _ _ (Fk kD) Fj,aT M.I.len (by rw [Ou];decide),vi,vh,C.g7 M.x0,C.l7 M.x0,C.g7 M.d0,C.l7 M.d0,C.g7 kD,C.l7 kD⟩
 refine NR N Y.F (Y.C.tabS P) Oo (Op i a4) Fa Y.at_ (NP S.cU P) OE hY E2 λjs sp anI OG D3=>?_
 have Fo:=SameBut.ext' D3
 have sq:=Y.C.decl ao OF OE OG Fo
 have qd:Ext g cu g js:=((X.trans (Ext.grow g M.k4)).own nL Y.ext).mut rT Fo ⟨_,OG⟩
 have rU:∀{b},h.get? b=none->cu.get? b=none:=gU X.live
 have aed:NameAt env js qg (.ref (a5+1)):=Y.at_.keep λo=>Fo _ o λq=>aI ((nm _ rT).symm.trans (q▸F.loc))
 refine wpAny_execs_cons (wpAny_Return_some (NameAt.ld (s:={s with heap:=js,toks:=_}) aed N Fa ?_))
 refine ak (qe g (a5+1) a5 dZ) js _ _ ⟨qd.ta,OF.im,λb o e=>E9 (λq=>aI ((rU M.x0).symm.trans (q▸e))) λq=>aI ((rU kD).symm.trans (q▸e)),qd.old,⟨[(a5+1,a5)],rfl,λp aS=>dG aS▸rU M.d0⟩,qd.live⟩ sq ?_
 obtain⟨_,_,_,_,OH⟩:=C.tok.decls
 refine⟨(a5+1,a5),OH▸gr (iB _),?_,rfl⟩
 show (g.dd++[(a5+1,a5)])[H.decls.length - 1]? =_
 rw[OH,tn,nh (cq _),wd];rfl
end
theorem aee(B:Bk prog w G ta K bp mb)(g3:G.free dy=true)(jY:bp ss=some (.ref ta.fg))(Fh:keepIn K (.ref ta.fg)=true)(av:makesIn K ta.fg=true){fI:Addr}(hi:findIn K (.ref ta.fg) "__init__"=some (some (.ref fI)))(Ff:isFn K (.ref fI)=true)(sr:FnOk ta.h0 K fnDI (.ref fI))(Fg:∀a∈declL.map (·.1),hp K ta.fg a=true)(aL:FnOk ta.h0 K fnND (.ref a)){i:Int}{a4:Str}(ao:(H.bld&&Nat.blt H.decls.length 60)=true){el ep:Value}(fX:A.depth+2<recursionLimit)(T:g.ta=ta)(C:Cfg prog w H g s.heap)(qc:Val prog w H g g.im el (.int i))(Fp:Val prog w H g g.im ep (.str a4))(ak:∀au h' aF u,Ext g s.heap au h'->Cfg prog w (uA H) au h'->Val prog w (uA H) au au.im u (.decl H.decls.length)->Q u {s with heap:=h',toks:=aF}):wpAny (model prog w) A (call (.ref a) [.ref ta.tab,el,ep]) Q E s:=by
 have u5:Val prog w H g g.im (.ref ta.tab) .tab:=congrArg (λt:Ta=>Value.ref t.tab) T.symm
 refine xf B.th (adL i a4) aL (qR (qR fX)) T C (.cons u5 (.cons qc (.cons Fp .nil))) λenv aB bh ie Z=>?_
 exact ae5 B g3 (ae0 B av hi Ff sr Fg) jY Fh (fi (aK ao).2) fX T Z.N Z.C Z.F (ET C Z.new) Z.X (Z.new _ .loc Z.F.loc) (by rfl') ak (by rfl') (by rfl') (by rfl') (by rfl')
end
set_option backward.match.sparseCases true in
theorem OI(env:Env)(b:List Stmt):∀a:List Stmt,execs (a++b) env=(execs a env>>=λf=>match f with| .next=>execs b env|f=>pure f)
 |[]=>by rw [tx,execs_nil,pure_bind]
 |st::a=>by
  rw[ts,execs_cons,execs_cons,bind_assoc]
  congr 1
  funext f
  cases f
  .exact OI env b a
  all_goals rw [pure_bind]
set_option backward.match.sparseCases true in
theorem OJ{M:Model}{a b:List Stmt}{Q:Flow->Shared->Prop}(h:wpAny M A (execs a env) (λf bQ=>match f with| .next=>wpAny M A (execs b env) Q E bQ|f=>Q f bQ) E s):wpAny M A (execs (a++b) env) Q E s:=by
 rw[OI]
 refine wpAny_bind (wpAny_mono h (λf bQ h'=>?_) λ_ _ q=>q)
 cases f
 .exact h'
 all_goals exact wpAny_pure h'
noncomputable def lawFn:Fn:=⟨aA 165,[]⟩
def lS:=an "script"
def hq:=an "nums"
def kN:=an "tab"
def qh:=an "host"
theorem Fq:lawFn.ps=[lS]:=by rfl'
theorem Fs:lk lawFn.sc.names lS=some .local:=by rfl'
theorem OK:lk lawFn.sc.names hq=some .cell:=by rfl'
theorem lk_ltab:lk lawFn.sc.names kN=some .local:=by rfl'
theorem lk_lhost:lk lawFn.sc.names qh=some .local:=by rfl'
theorem OL:lk lawFn.sc.names dy=some .globalImplicit:=by rfl'
def IntsOf(vs:List Value)(ns:List Int):Prop:=∀im,RdL im vs (ns.map PyData.int)
theorem IntsOf.cons{n:Int}{t:Tok}{vs:List Value}{ns:List Int}(h:IntsOf vs ns):IntsOf (.int n t::vs) (n::ns):=λim=> .cons (.int n t) (h im)
theorem IntsOf.nil:IntsOf [] []:=λ_=> .nil
inductive IntAt (v:Value) (ns:List Int) (j:Nat):Prop
 |mk (k:Int) (t:Tok) (e:v= .int k t) (h:ns[j]? =some k)
theorem aef{vs:List Value}{ns:List Int}(h:IntsAre vs ns):∀{j:Nat}{v:Value},vs[j]? =some v->IntAt v ns j:=by
 induction h with
 |nil=>exact λh=>aI h
 |cons n t r bg=>
  intro j v h
  rcases j with _|j
  .exact⟨n,t,(Option.some.inj h).symm,rfl⟩
  .obtain⟨k,t,e,q⟩:=bg (j:=j) h
   exact⟨k,t,e,q⟩
theorem aeg{vs:List Value}{ns:List Int}(h:IntsAre vs ns):∀n:Nat,IntsAre (vs.take n) (ns.take n):=by
 induction h with
 |nil=>intro n;rw[wb,wb];exact .nil
 |cons k t r bg=>
  intro n
  rcases n with _|n
  .exact .nil
  .exact .cons k t (bg n)
theorem aeh{vs:List Value}{ns:List Int}(h:IntsAre vs ns):vs.length=ns.length:=by
 induction h with
 |nil=>rfl
 |cons _ _ _ bg=>exact congrArg Nat.succ bg
def ModOf(v y:Value):Prop:=∃k t jW,v=Value.int k t/\y=Value.int (k.fmod 999983) jW
theorem ModOf.int{n:Int}{t:Tok}{y:Value}(h:ModOf (.int n t) y):∃jW,y= .int (n.fmod 999983) jW:=by
 obtain⟨k,t1,t2,e1,e2⟩:=h
 injection e1 with e1
 exact⟨t2,e1▸e2⟩
inductive PairC (v:Value) (l cy:List Value):Prop
 |mk (y:Value) (r:List Value) (e:cy=y::r) (h:ModOf v y) (p:Paired ModOf l r)
noncomputable def OM(cy:List Value):List Value->Prop
 |[]=>cy=[]
 |v::l=>PairC v l cy
theorem ON{l cy:List Value}(h:Paired ModOf l cy):OM cy l:=Paired.casesOn (motive:=λl cy _=>OM cy l) h rfl λa r=>⟨_,_,rfl,a,r⟩
theorem aei{l:List Value}{ns:List Int}(h:IntsAre l ns):∀{cy:List Value},Paired ModOf l cy->IntsOf cy (ns.map λk=>k.fmod 999983):=by
 induction h with
 |nil=>intro cy p;rw[show cy=[] from ON p];exact .nil
 |cons n t r bg=>
  intro cy p
  obtain⟨y,q,e,h,p⟩:=ON p
  obtain⟨jW,bq⟩:=h.int
  rw[e,bq]
  exact(bg p).cons
theorem aej{α:Type}{a b:List α}(ag:a.length=b.length)(h:∀(j:Nat)(v:α),a[j]? =some v->b[j]? =some v):a=b:=List.ext_getElem? λi=>by
 rcases e:a[i]? with _|v
 .exact(List.getElem?_eq_none (ag▸List.getElem?_eq_none_iff.mp e)).symm
 .exact(h i v e).symm
noncomputable def yj:List Int->List Int
 |[]=>[11]
 |n::r=>n::r
def mW (aek:List Int):List Int:=yj ((aek.take 16).map λk=>k.fmod 999983)
theorem ael{l:List Int}(h:l.length=0):yj l=[11]:=by rw [List.length_eq_zero_iff.mp h];rfl
theorem aem{l:List Int}(h:l.length≠0):yj l=l:=by
 rcases l with _|_
 .exact absurd rfl h
 .rfl
def lawRest:List Stmt:=lawFn.bd.drop 2
def rg (n:Nat):Stmt:=(lawFn.bd[n]?).getD (.Pass default)
theorem aen:lawFn.bd=rg 0::rg 1::lawRest:=by rfl'
section
structure NumsAt (h h':Heap) (c D:Addr) (cy:Array Value) (n:Nat) (l:List Int):Prop where
 keep:∀b o,b≠c->h.get? b=some o->h'.get? b=some o
 cell:h'.IsCell c (some (.ref D))
 new:h.get? D=none
 at_:h'.get? D=some (listOf cy n)
 rd:IntsOf cy.toList l
theorem aeo{fm gF lE lF u0 Ft bU bZ dJ gY:Pos}{i7 hb:Nat}(N:EnvR lawFn.sc env){cu h:Heap}{aF:Nat}{c D:Addr}{cy:Array Value}{l:List Int}{cg:Str}(bx:h.Ns mainGlobals bp)(ao:h.Ns builtinsNs mb)(Fu:bp dy=none)(Fv:mb dy=some (.builtin "len"))(n3:env.kindOf hq=some .cell)(hP:env.cells.lookup hq=some c)(Z:NumsAt cu h c D cy n l)(hY:l.length<=16)(bG:A.units+100<cLine){Q:Flow->Shared->Prop}(ak:∀h' dC D cy n,NumsAt cu h' c D cy n (yj l)->wpAny (model prog w) A (execs bu env) Q E {s with heap:=h',toks:=dC})(e1:cg=dy):
  wpAny (model prog w) A (execs (.If (.Compare (.Call (.Name cg fm) [.Name hq gF] [] lE) [.Eq] [.Constant (.int 0) i7 lF] u0) [.Assign [.Name hq bU] (.List [.Constant (.int 11) hb bZ] dJ) gY] [] Ft::bu) env) Q E {s with heap:=h,toks:=aF}:=by
 subst e1
 have fl:cy.size=l.length:=(Z.rd λ_=>none).length.trans (eQ ..)
 refine wpAny_execs_cons (wpAny_If (wpAny_isTrue_Compare1 ?_ rfl))
 refine Call_Name rfl (Name_function_global N.kind (N.impl _ OL) (loadGlobal_builtin (by rw [N.glob];exact bx) Fu (by rw [N.blt];exact ao) Fv ?_) (ia N OL))
 refine gi (P:=λ_=>True) rfl (λh _=>lJ (λa q=>nomatch q)) ?_
 refine args_cons (wpAny_Name (wpAny_loadName_cell N.kind n3 hP Z.cell ?_) (ia N OK)) rfl
 refine args_nil ⟨trivial,?_⟩
 show wpAny _ A (call (.builtin "len") [.ref D]) _ _ _
 refine len_list ⟨_,Z.at_,rfl,n,rfl⟩ (EE (mL (fl▸aT hY (by decide)))) ?_
 refine wpAny_Constant_int ?_
 refine SeqAt.compareEq_reads (.int _ _) (.int _ _) rfl rfl (hZ (dh (aT (zQ _ _) (fi rfl)) _) bG) (wpAny_truthy_bool ?_)
 have e7:(PyData.int cy.size).eqv (.int 0)=decide ((l.length:Int)=0):=by rw [fl];exact wY _ _
 rcases eR (l.length=0) with cL|cL
 .refine NK (by rw [e7,cL];rfl) ?_
  refine wpAny_execs_cons (wpAny_Assign_Name (wpAny_List_spliced (args_cons (wpAny_Constant_int (args_nil ⟨(by decide:(1:Nat)<=sizeLine),?_⟩)) rfl)) (sa rfl hq bU _ env))
  obtain⟨o2,OO,hd2⟩:=Z.cell
  have fL:∀t b o,h.get? b=some o->(h.push (listOf #[.int 11 t] 0)).get? b=some o:=λt b o e=>ey _ e
  refine wpAny_storeName_cell N.kind n3 hP ⟨o2,fL _ _ _ OO,hd2⟩ λmO aep E4=>?_
  have ext:=SameBut.ext' E4
  have OP:h.objs.size≠c:=λq=>aI ((ji h).symm.trans (q▸OO))
  refine wpAny_execs_nil (ak mO _ h.objs.size _ 0 ⟨λb o ne e=>ext b o ne (fL _ b o (Z.keep b o ne e)),aep,?_,ext _ _ OP (ez _ rfl),by rw [ael cL];exact IntsOf.nil.cons⟩)
  rcases e:cu.get? h.objs.size with _|o
  .rfl
  .exact aI ((ji h).symm.trans (Z.keep _ _ OP e))
 .refine NM (λq=>cL (Int.ofNat.inj (of_decide_eq_true (e7.symm.trans q)))) (wpAny_execs_nil (ak h _ D cy n ?_))
  rw[aem cL]
  exact Z
theorem NumsAt.of{h h' a8:Heap}{c D:Addr}{cy:Array Value}{l:List Int}{Fw:Option Value}(ap:h.IsCell c Fw)(yk:∀b o,h.get? b=some o->h'.get? b=some o)(hr:a8.IsCell c (some (.ref D)))(aJ:Heap.SameBut c h' a8)(OQ:h.get? D=none)(hD:h'.get? D=some (listOf cy n))(Fx:IntsOf cy.toList l):NumsAt h a8 c D cy n l:=by
 have ext:=SameBut.ext' aJ
 obtain⟨oc,rY,_⟩:=ap
 exact⟨λb o ne e=>ext b o ne (yk b o e),hr,OQ,ext _ _ (λq=>aI (OQ.symm.trans (q▸rY))) hD,Fx⟩
noncomputable def vk(aF:Nat):Obj:={cls:=.type "slice",data:=.fields #[.none,.int 16 aF,.none]}
noncomputable def lT(r6:List Value):Obj:={cls:=.type "list",data:=.seq r6.toArray}
noncomputable def vl(a:Addr):Obj:={cls:=.type "list_iterator",data:=.fields #[.ref a,.int 0 0]}
theorem aeq{fm gF lE lF:Pos}{fW:Nat}(N:EnvR lawFn.sc env){aF:Nat}{l:Addr}{vs:List Value}(lH:NameAt env h lS (.ref l))(eJ:h.IsList l vs.toArray)(al:vs.length<=63)(ak:∀(H1:Heap) dC,(∀b o,h.get? b=some o->H1.get? b=some o)->Q (.ref ((H1.push (lT (vs.take 16))).objs.size)) {s with heap:=(H1.push (lT (vs.take 16))).push (vl H1.objs.size),toks:=dC}):
  wpAny (model prog w) A (eval (.Subscript (.Name lS fm) (.Slice none (some (.Constant (.int 16) fW gF)) none lE) lF) env) (λv c1=>wpAny (model prog w) A (pyIter v) Q E c1) E {s with heap:=h,toks:=aF}:=by
 rw[eval_Subscript]
 refine wpAny_bind (NameAt.ld (s:={s with heap:=h,toks:=aF}) lH N Fs ?_)
 refine wpAny_bind (wpAny_holding (wpAny_Slice ?_))
 rw[evalPart_none]
 refine wpAny_pure ?_
 show wpAny _ A (eval (.Constant (.int 16) fW gF) env) _ _ _
 refine wpAny_Constant_int ?_
 refine wpAny_pure (wpAny_bind (wpAny_standAt ?_))
 have fL:∀b o,h.get? b=some o->(h.push (vk aF)).get? b=some o:=λb o e=>ey _ e
 have yl:(h.push (vk aF)).IsList l vs.toArray:=by
  obtain⟨o,e,q⟩:=eJ
  exact⟨o,fL _ _ e,q⟩
 refine tail_any (ops:=[.ref h.objs.size,.ref l]) (T:="list") (s:={s with heap:=h.push (vk aF),toks:=_}) (by obtain ⟨o,e,q,_⟩:=yl;exact⟨o,e,q⟩) slot_list_getitem.lookup ?_ rfl
 refine wpAny_getItem_list_slice (lo:=none) (hi:=some ((16:Nat):Int)) (st:=none) (s:={s with heap:=h.push (vk aF),toks:=_}) yl (v4 ..) .none (.int _ _) .none (by simp) ?_ (by rw [qP];exact mL (aT al (by decide)))
 rw[slicePick_upto',List.toList_toArray]
 exact wpAny_pyIter_list ⟨_,ez _ rfl,rfl,_,rfl⟩ (ak (h.push (vk aF)) _ fL)
theorem aer(N:EnvR lawFn.sc env)(hh:A.handled=none)(bG:A.units+100<cLine){aF:Nat}{l c:Addr}{vs:List Value}{ns:List Int}{Fw:Option Value}(bx:h.Ns mainGlobals bp)(ao:h.Ns builtinsNs mb)(Fu:bp dy=none)(Fv:mb dy=some (.builtin "len"))(lH:NameAt env h lS (.ref l))(n3:env.kindOf hq=some .cell)(hP:env.cells.lookup hq=some c)(ap:h.IsCell c Fw)(eJ:h.IsList l vs.toArray)(hI:IntsAre vs ns)(aX:ns.length<=63)(OR:mainGlobals≠c/\builtinsNs≠c){Q:Flow->Shared->Prop}(ak:∀h' dC D cy n,NumsAt h h' c D cy n (mW ns)->wpAny (model prog w) A (execs lawRest env) Q E {s with heap:=h',toks:=dC}):
  wpAny (model prog w) A (execs lawFn.bd env) Q E {s with heap:=h,toks:=aF}:=by
 have Fi:vs.length<=63:=by rw [aeh hI];exact aX
 rw[aen]
 refine wpAny_execs_cons (wpAny_Assign_Name (wpAny_ListComp_walk (λ_=>true) ModOf (by decide) (by decide) rfl (by decide) (by rfl') ?_ (by intro _;with_unfolding_all rfl)) ?_)
 .refine aeq N lH eJ Fi λH1 anJ fL=>?_
  have OS:=aeg hI 16
  have aes:(vs.take 16).length<=16:=Ip 16 vs
  have aet:((ns.take 16).map λk=>k.fmod 999983).length<=16:=by rw [eQ];exact Ip 16 ns
  have OT:∀b o,H1.get? b=some o->(H1.push (lT (vs.take 16))).get? b=some o:=λb o e=>ey _ e
  have aeu:(H1.push (lT (vs.take 16))).IsList H1.objs.size (vs.take 16).toArray:=⟨_,ez _ rfl,rfl,_,rfl⟩
  have p9:(H1.push (lT (vs.take 16))).objs.size=H1.objs.size+1:=kl ..
  have OU:∀b o,h.get? b=some o->((H1.push (lT (vs.take 16))).push (vl H1.objs.size)).get? b=some o:=λb o e=>ey _ (OT b o (fL b o e))
  have e1:((H1.push (lT (vs.take 16))).push (vl H1.objs.size)).objs.size=H1.objs.size+2:=(kl ..).trans (congrArg Nat.succ p9)
  refine⟨(H1.push (lT (vs.take 16))).objs.size,_,_,_,_,_,rfl,we hh (H1.push (lT (vs.take 16))).objs.size H1.objs.size (by rw [p9];exact gP (qU _)) (vs.take 16).toArray,?_,⟨⟨vl H1.objs.size,ez _ rfl,rfl,rfl⟩,aeu.push _⟩,λb ao=>?_,⟨λC i v kI aev ie _ _ _ _ _=>wpAny_tests_nil ⟨rfl,kI.heap,kI.toks,rfl,λ_ _ e=>e⟩,λC i v kI aev ie qi _ aew OV _ _=>?_⟩,λD h' dC cy kA hD anK aex eB qi dY aj=>?_⟩
  .rw[qP];exact mL (aT aes (by decide))
  .show b<((H1.push (lT (vs.take 16))).push (vl H1.objs.size)).objs.size
   rw[e1]
   rcases List.mem_cons.mp ao with q|q
   .rw[q,p9];exact qU _
   .rw[dG q];exact qQ (qU _)
  .obtain⟨k,t,ev,aj⟩:=aef OS (show (vs.take 16)[i]? =some v by rwa [Il] at qi)
   rw[ev] at OV |-
   refine wpAny_BinOp (wpAny_Name (wpAny_loadName_local rfl (by rfl') aew OV ?_) (by decide))
   refine wpAny_Constant_int ?_
   exact mod_int' (by decide) ⟨⟨k,t,_,rfl,rfl⟩,kI.heap,_,rfl,λ_ _ e=>e⟩
  .have fK:kA=vs.take 16:=aej (by rw [eB,qP]) λj v e=>by have q:=qi j v e;rwa [Il] at q
   rw[fK] at dY
   have yk:∀b o,h.get? b=some o->h'.get? b=some o:=λb o e=>aj b o (λq=>by
    have:=gs (OT _ _ (fL _ _ e))
    rw[dG q] at this
    exact qX _ this) (OU b o e)
   have Fx:IntsOf cy.toList ((ns.take 16).map λk=>k.fmod 999983):=aei OS (by rwa [List.filter_eq_self.mpr λ_ _=>rfl] at dY)
   obtain⟨nD,xJ⟩:=aex
   refine wpAny_storeName_cell N.kind n3 hP (ap.keeps yk) λa8 hr oa=>?_
   have Z:=NumsAt.of ap yk hr oa (by
    rcases e:h.get? D with _|o
    .rfl
    .exact aI (hD.symm.trans (OU _ _ e))) xJ Fx
   exact aeo N (bx.at' λo=>Z.keep _ o OR.1) (ao.at' λo=>Z.keep _ o OR.2) Fu Fv n3 hP Z aet bG ak (by rfl')
 .have e:∀(a b c d:Bool),b=false->(a&&b&&c&&d)=false:=by intro a b c d h;subst h;cases a<;>rfl
  exact congrArg pure (e _ _ _ _ (by show (env.kindOf hq==some .local)=false;rw[n3];rfl))
end
noncomputable def fnTI:Fn:=⟨c5 54 0,[]⟩
def tabL:List (Str×Iv):=(ivs fnTI.sc (fnTI.bd.take 9)).getD []
theorem aey:ivs fnTI.sc (fnTI.bd.take 9)=some tabL:=by rfl'
theorem aez:(tabL.map (·.1)).Nodup:=yg (by rfl')
theorem OW:tabL.length=9:=by rfl'
theorem aeA:tabL[0]? =some (h6,Iv.list0):=by rfl'
theorem aeB:tabL[1]? =some (jc,Iv.dict0):=by rfl'
theorem aeC:tabL[2]? =some (kt,Iv.listN):=by rfl'
theorem aeD:tabL[3]? =some (ku,Iv.list0):=by rfl'
theorem aeE:tabL[4]? =some (("defaults":Str),Iv.list0):=by rfl'
theorem aeF:tabL[5]? =some (("names":Str),Iv.list0):=by rfl'
theorem aeG:h7∉tabL.map (·.1):=sv (by rfl')
theorem Fy:fnTI.ps=[eV]:=by rfl'
theorem anL:lk fnTI.sc.names eV=some .local:=by rfl'
theorem aeH(n:Nat):cellsFrom n fnTI.sc.names []=[]:=by rfl'
def aeI:List V:=(od (G0.val "FIRST_ROWS") kp).getD []
noncomputable def sigE:T:={base:=[],dyn:=[],bld:=true,decls:=[.none],bounds:=[],cnt:=0}
def jv:T:={base:=aeI,dyn:=[],bld:=true,decls:=[.none],bounds:=[],cnt:=16}
theorem aeJ:bv G0 60 ⟨fnTI.sc,fnTI.bd⟩ [(eV,.tab,false)] (fnTI.bd.drop 9) sigE=some (.next,[(eV,.tab,false),(j5,.tup [.int 2,.int 1,.int 1],false)],jv):=by rfl'
theorem aeK:sigE.Ok:=⟨λ_ h=>(nomatch h),λ_ h=>(nomatch h),λ_ h=>(nomatch h),λ_=>rfl,(by decide),.nil,(by decide)⟩
structure TaOf (h0:Heap) (dx dO fd:Addr) (ta:Ta):Prop where
 h0:ta.h0=h0
 t:ta.gN=dx
 h:ta.qM=dO
 d:ta.fg=fd
structure Tops (prog:Program) (w:World) (h0:Heap) (K:Frag) (bp mb:Str->Option Value) (dx dO fd:Addr):Prop where
 bk:∀ta:Ta,TaOf h0 dx dO fd ta->Bk prog w G0 ta K bp mb
 SN:∀ta:Ta,TaOf h0 dx dO fd ta->Prm prog w ta K bp
 body:hp K fd fT=true
 mods:∃o,h0.get? sysModules=some o
 amY:keepIn K (.ref dx)=true
 amU:bp "TypeTable"=some (.ref dx)
 tI:Inst K bp h0 dx fnTI [] (fnTI.bd.take 9) (fnTI.bd.drop 9) tabL
theorem aeL{h0:Heap}{dx:Addr}(NL:h0.NoLimit)(KI:K.In h0)(g:h0.Ns mainGlobals bp)(make:makesIn K dx=true)(init:∃fI,findIn K (.ref dx) "__init__"=some (some (.ref fI))/\isFn K (.ref fI)=true/\FnOk h0 K fnTI (.ref fI))(set:∀a∈tabL.map (·.1),hp K dx a=true):
  Inst K bp h0 dx fnTI [] (fnTI.bd.take 9) (fnTI.bd.drop 9) tabL:=
 ⟨NL,KI,g,make,init,(v2 9 fnTI.bd).symm,aey,aez,by rw [OW];decide,set,Fy,Fe (by rfl'),Fc (by rfl'),λy a m=>nomatch Fd (ps:=[]) (by rfl') y a m⟩
theorem aeM{a b c d e f:Addr}(S:N6 a b c d e f):[a,b,c,d,e,f].Nodup:=by simp [S.ab,S.ac,S.ad,S.ae,S.af,S.bc,S.bd,S.be,S.bf,S.cd,S.ce,S.cf,S.de,S.df,S.ef]
theorem aeN{α:Type}{P:α->Prop}{a b c d e f:α}(h0:P a)(aa:P b)(ah:P c)(aC:P d)(bC:P e)(ee:P f):∀x∈[a,b,c,d,e,f],P x:=λx hx=>by
 rcases KE hx with q|q|q|q|q|q<;>rw[q]<;>assumption
noncomputable def ym(ta:Ta):Gh:={ta:=ta,im:=ta.h0.get?,dd:=[]}
def mX(ta:Ta)(es:List DictEntry)(n:Nat):Gh:=((ym ta).add ta.cU (dictOf es n)).add ta.tab (instObj ta.gN ta.cU)
structure TabI (ta:Ta) (h bN b5:Heap) (es:List DictEntry) (n:Nat):Prop where
 rows:getL h6 es=some (some (.ref ta.rows))
 idx:getL jc es=some (some (.ref ta.idx))
 decls:getL kt es=some (some (.ref ta.decls))
 du:getL ku es=some (some (.ref ta.du))
 dfl:getL "defaults" es=some (some (.ref ta.dfl))
 ew:getL "names" es=some (some (.ref ta.ew))
 put:getL h7 es=some none
 o0:b5.get? ta.rows=some (listOf #[] 0)
 o1:b5.get? ta.idx=some emptyDict
 o2:b5.get? ta.decls=some (listOf #[.none] 0)
 o3:b5.get? ta.du=some (listOf #[] 0)
 o4:b5.get? ta.dfl=some (listOf #[] 0)
 o5:b5.get? ta.ew=some (listOf #[] 0)
 new:∀a∈[ta.rows,ta.idx,ta.decls,ta.du,ta.dfl,ta.ew],bN.get? a=none
 six:N6 ta.rows ta.idx ta.decls ta.du ta.dfl ta.ew
 hh:ta.hh=false
 up:∀b o,ta.h0.get? b=some o->h.get? b=some o
 k3:∀b o,h.get? b=some o->bN.get? b=some o
 k4:∀b o,h.get? b=some o->b5.get? b=some o
 d0:h.get? ta.cU=none
 x0:h.get? ta.tab=none
 ne:ta.tab≠ta.cU
 x3:∃o,bN.get? ta.tab=some o
 d3:∃o,bN.get? ta.cU=some o
 x4:b5.get? ta.tab=some (instObj ta.gN ta.cU)
 d4:b5.get? ta.cU=some (dictOf es n)
section
variable {h bN b5:Heap}{es:List DictEntry} (Z:TabI ta h bN b5 es n)
include Z
theorem TabI.back{b:Addr}(e:h.get? b=none):ta.h0.get? b=none:=gU (λa o e=>⟨o,Z.up a o e⟩) e
theorem TabI.ix:((ym ta).add ta.cU (dictOf es n)).im ta.tab=none:=(Gh.g9 Z.ne).trans (Z.back Z.x0)
theorem TabI.im{o:Obj}(e:ta.h0.get? a=some o):(mX ta es n).im a=some o:=Gh.hv Z.ix a o (Gh.hv (g:=ym ta) (Z.back Z.d0) a o e)
theorem TabI.inv{o:Obj}(e:(mX ta es n).im a=some o):ta.h0.get? a=some o\/(h.get? a=none/\b5.get? a=some o):=by
 rcases Gh.oH e with ⟨e1,e2⟩|e
 .rw[e1,<-e2];exact .inr ⟨Z.x0,Z.x4⟩
 .rcases Gh.oH e with ⟨e1,e2⟩|e
  .rw[e1,<-e2];exact .inr ⟨Z.d0,Z.d4⟩
  .exact .inl e
theorem TabI.no(e:h.get? a=none)(dB:a≠ta.tab)(d9:a≠ta.cU):(mX ta es n).im a=none:=(Gh.g9 (g:=(ym ta).add ta.cU (dictOf es n)) dB).trans ((Gh.g9 d9).trans (Z.back e))
theorem TabI.H3(m:a∈(mX ta es n).bW):bN.get? a=none:=Z.new a m
theorem TabI.Ia(m:a∈(mX ta es n).bW):h.get? a=none:=gU (λa o e=>⟨o,Z.k3 a o e⟩) (Z.H3 m)
theorem TabI.cfg(mods:∃o,ta.h0.get? sysModules=some o):Cfg prog w sigE (mX ta es n) b5:=by
 have no:¬ta.hh=true:=λe=>nomatch (Z.hh.symm.trans e)
 refine⟨λa o e=>(Z.inv e).elim (λq=>Z.k4 _ _ (Z.up _ _ q)) (·.2),λa o e=>Z.im e,aeK,⟨Gh.jA _ _ _,⟨es,n,Gh.hv Z.ix _ _ (Gh.jA _ _ _),Z.rows,Z.idx,Z.decls,Z.du,Z.dfl,Z.ew,Z.put⟩,λq=>absurd q no,λq=>absurd q no,⟨#[],0,[],Z.o0,.nil,rfl⟩,
  ⟨emptyDict,#[],0,[],Z.o1,⟨rfl,rfl,rfl⟩,rfl,rfl,.nil,(λx hx=>nomatch hx),rfl,λi x hx=>aI hx⟩,?_,⟨#[.none],0,Z.o2,rfl,rfl⟩,λk p aS=>aI aS,⟨#[],0,Z.o3,rfl,λi z bi=>aI bi⟩,⟨#[],0,Z.o4,cq _⟩,⟨#[],0,Z.o5,cq _⟩,?_,λa aw=>?_⟩,⟨by decide,by decide⟩,mods⟩
 .obtain⟨o,aG⟩:=mods
  exact beq_eq_false_iff_ne.mpr λq=>aI ((Z.new _ uX).symm.trans (q▸Z.k3 _ _ (Z.up _ _ aG)))
 .exact aeM Z.six
 .have e:=Z.H3 aw
  exact Z.no (Z.Ia aw) (λq=>Z.x3.elim λo aG=>aI (e.symm.trans (q▸aG))) λq=>Z.d3.elim λo aG=>aI (e.symm.trans (q▸aG))
end
inductive Fld (aU:List Value) (bN:Heap) (i:Nat) (a:Addr):Prop
 |mk (x:Str) (cp:Iv) (h:tabL[i]? =some (x,cp)) (n:cp.new=true) (u:aU[i]? =some (.ref a)) (z:bN.get? a=none)
inductive Fld0 (bp:Str->Option Value) (aU:List Value) (bN b5:Heap) (es:List DictEntry) (i:Nat) (x:Str) (o:Obj):Prop
 |mk (a:Addr) (f:Fld aU bN i a) (g:getL x es=some (some (.ref a))) (o:b5.get? a=some o)
section
variable {dx a5:Addr}{h bN b5:Heap}{es:List DictEntry}{aU:List Value}
theorem sw(I:IniOk env bp a5 bN b5 [] es tabL aU){cp:Iv}{o:Obj}(hi:i<9)(e:tabL[i]? =some (x,cp))(n:cp.new=true)(r:∀u,IvR env bp b5 cp u->RefAt b5 o u):Fld0 bp aU bN b5 es i x o:=by
 obtain⟨u,bG⟩:=yh (I.all.trans OW) hi
 obtain⟨g,q,z⟩:=I.at_ i _ _ _ e bG
 obtain⟨a,fM,aG⟩:=r u q
 obtain⟨b,gn,bi⟩:=z n
 rw[fM] at bG g gn
 rw[<-Value.ref.inj gn] at bi
 exact⟨a,⟨x,cp,e,n,bG,bi⟩,g,aG⟩
theorem ik(I:IniOk env bp a5 bN b5 [] es tabL aU){a b:Addr}(p:Fld aU bN i a)(q:Fld aU bN j b)(lx:i<j):a≠b:=λe=>by
 obtain⟨_,_,hi,dB,bG,_⟩:=p
 obtain⟨_,_,bt,d9,al,_⟩:=q
 exact I.apart i j _ _ _ _ _ lx hi bt dB d9 bG (e▸al)
theorem Fld.new(p:Fld aU bN i a):bN.get? a=none:=by
 obtain⟨_,_,_,_,_,z⟩:=p
 exact z
theorem aeO{h0:Heap}(dO fd:Addr)(up:∀b o,h0.get? b=some o->h.get? b=some o)(M:Made bp dx fnTI tabL [] h a5 env bN b5 es aU):∃ta n,TaOf h0 dx dO fd ta/\ta.tab=a5+1/\ta.cU=a5/\TabI ta h bN b5 es n:=by
 have I:=M.I
 obtain⟨kO,iW,rf,o0⟩:=sw I (by decide) aeA rfl λ_ q=>q
 obtain⟨en,fH,g1,o1⟩:=sw I (by decide) aeB rfl λ_ q=>q
 obtain⟨er,gC,g2,o2⟩:=sw I (by decide) aeC rfl λ_ q=>q
 obtain⟨e4,f3,B3,o3⟩:=sw I (by decide) aeD rfl λ_ q=>q
 obtain⟨ij,jU,B4,o4⟩:=sw I (by decide) aeE rfl λ_ q=>q
 obtain⟨vd,lu,B5,o5⟩:=sw I (by decide) aeF rfl λ_ q=>q
 obtain⟨n,aQ⟩:=I.dict
 exact⟨{tab:=a5+1,cU:=a5,rows:=kO,idx:=en,decls:=er,du:=e4,dfl:=ij,ew:=vd,host:=0,hu:=0,hh:=false,gN:=dx,qM:=dO,fg:=fd,h0:=h0},n,⟨rfl,rfl,rfl,rfl⟩,rfl,rfl,
  ⟨rf,g1,g2,B3,B4,B5,(I.other h7 aeG).trans rfl,o0,o1,o2,o3,o4,o5,aeN iW.new fH.new gC.new f3.new jU.new lu.new,
   ⟨ik I iW fH (by decide),ik I iW gC (by decide),ik I iW f3 (by decide),ik I iW jU (by decide),ik I iW lu (by decide),ik I fH gC (by decide),ik I fH f3 (by decide),ik I fH jU (by decide),ik I fH lu (by decide),ik I gC f3 (by decide),ik I gC jU (by decide),ik I gC lu (by decide),ik I f3 jU (by decide),ik I f3 lu (by decide),ik I jU lu (by decide)⟩,
   rfl,up,M.k3,M.k4,M.d0,M.x0,qS _,⟨_,M.x3⟩,⟨_,M.d3⟩,M.x4,aQ⟩⟩
end
structure TabN (prog:Program) (w:World) (h0:Heap) (dx dO fd:Addr) (h h':Heap) (g:Gh):Prop where
 ta:TaOf h0 dx dO fd g.ta
 hh:g.ta.hh=false
 C:Cfg prog w jv g h'
 keep:∀b o,h.get? b=some o->h'.get? b=some o
 inv:∀a o,g.im a=some o->h0.get? a=some o\/h.get? a=none
 mu:∀a∈g.bW,h.get? a=none
section
variable {h0:Heap}{dx dO fd:Addr}
theorem OX{L a:Addr}{r:Ro}(h:dw L [] a=some r):a=L:=by
 unfold dw at h
 rcases eR (a=L) with e|e
 .exact e
 .rw[if_neg e] at h;exact aI h
theorem aeP{a5:Addr}{h bN b5:Heap}{es:List DictEntry}{aU:List Value}(M:Made bp dx fnTI tabL [] h a5 env bN b5 es aU)(ap:env.cells=[])(e1:ta.tab=a5+1)(e2:ta.cU=a5)(Z:TabI ta h bN b5 es n):
  FrR prog w sigE (mX ta es n) b5 env [(eV,.tab,false)] (dw env.locals env.cells):=by
 obtain⟨k,m,aX,av⟩:=M.nm eV _ (Fy▸ .head _) (by rw [Fy];exact n2)
 obtain⟨OA,_,_,pq,_⟩:=id aX
 refine⟨⟨m,aX,λy u o aj aY=>?_⟩,λy a aY=>?_,if_pos rfl,λa r e=>?_,by rfl'⟩
 .obtain⟨e3,eN,kF⟩:=p8 aY
  rw[e3,<-eN,<-kF]
  exact⟨_,av,congrArg _ e1.symm⟩
 .rw[ap] at aY;exact aI aY
 .rw[ap] at e
  rw[OX e]
  exact⟨Z.no M.L0 (e1.symm▸M.nx) (e2.symm▸M.nd),λq=>M.L3.elim λo aG=>aI ((Z.H3 q).symm.trans aG),OA,pq⟩
theorem aeQ(P:Tops prog w h0 K bp mb dx dO fd)(hh:A.handled=none)(fX:A.depth+70<990)(bG:A.units+2000<cLine){aF:Nat}(up:∀b o,h0.get? b=some o->h.get? b=some o)(ak:∀h' dC (g:Gh),TabN prog w h0 dx dO fd h h' g->Q (.ref g.ta.tab) {s with heap:=h',toks:=dC}):wpAny (model prog w) A (call (.ref dx) []) Q E {s with heap:=h,toks:=aF}:=by
 refine E8 (s:={s with heap:=h,toks:=aF}) P.tI (me (show A.depth+1<990 by lia) (by decide)) up rfl λa5 env bN b5 g0 es aU ie M=>?_
 obtain⟨m,ap⟩:=M.cl
 have ap:env.cells=[]:=ap.trans (aeH m)
 obtain⟨ta,n,eU,e1,e2,Z⟩:=aeO dO fd up M
 have F:=aeP (prog:=prog) (w:=w) M ap e1 e2 Z
 have C:Cfg prog w sigE (mX ta es n) b5:=Z.cfg (eU.h0.symm▸P.mods)
 have S:=(EC (P.bk ta eU) (P.SN ta eU) (eU.d.symm▸P.body) 60).s
 have aeR:Room ((A.under (.builtin "type.__call__" ⟨[.ref dx],[]⟩)).deeper env) 60:=by
  refine⟨hh,?_,?_⟩
  .show A.depth+(Code.builtin "type.__call__" ⟨.ref dx::[],[]⟩).weight+1+60<990
   rw[Ol];exact hZ (by lia) fX
  .show A.units+(Code.builtin "type.__call__" ⟨.ref dx::[],[]⟩).cUnits+3+20*60+400<cLine
   rw[adI];exact hZ (by lia) bG
 refine S ⟨fnTI.sc,fnTI.bd⟩ _ (fnTI.bd.drop 9) sigE .next _ jv aeJ (by decide) _ env (dw env.locals env.cells) (mX ta es n) {s with heap:=b5,toks:=g0} _ _ aeR rfl M.N C F λau h' dC et f X k ct Gw iP Fl St=>?_
 obtain⟨e,_⟩:=Fl
 rw[e,<-e1]
 have Fz:au.ta=ta:=X.ta
 refine⟨rfl,?_⟩
 have aeS:∀{b o},h.get? b=some o->dw env.locals env.cells b=none:=λ{b o} e=>by
  rcases q:dw env.locals env.cells b with _|r
  .rfl
  .rw[ap] at q
   exact aI (M.L0.symm.trans (OX q▸e))
 have key:=ak h' dC au ⟨Fz▸eU,Fz▸Z.hh,ct,λb o e=>X.old b o (M.k4 _ _ e) (λq=>aI ((Z.Ia q).symm.trans e)) (aeS e),λa o e=>?_,λa aw=>?_⟩
 .rw[Fz] at key;exact key
 .rcases bq:h.get? a with _|b9
  .exact .inr rfl
  .rw[X.new a b9 (M.k4 _ _ bq)] at e
   exact(Z.inv e).imp (λq=>eU.h0▸q) λq=>aI (q.1.symm.trans bq)
 .rcases e:h.get? a with _|o
  .rfl
  .exact aI ((Z.Ia ((X.bW (M.k4 _ _ e)).mp aw)).symm.trans e)
end
noncomputable def fnHI:Fn:=⟨c5 115 0,[]⟩
def hostL:List (Str×Iv):=(ivs fnHI.sc fnHI.bd).getD []
theorem aeT:ivs fnHI.sc fnHI.bd=some hostL:=by rfl'
theorem aeU:(hostL.map (·.1)).Nodup:=yg (by rfl')
theorem OY:hostL.length=3:=by rfl'
theorem aeV:hostL[0]? =some (cF,Iv.arg cF):=by rfl'
theorem aeW(m:Str)(h:m="force"\/m="bound"\/m="shape"\/m="list_prop"):m∉hostL.map (·.1):=by
 rcases h with e|e|e|e<;>rw[e]
 .exact sv (by rfl')
 .exact sv (by rfl')
 .exact sv (by rfl')
 .exact sv (by rfl')
theorem FA:fnHI.ps=[eV,cF]:=by rfl'
def FC:=an "MOST_ROUNDS"
theorem anM:lk fnHI.sc.names cF=some .local:=by rfl'
structure HostOk (h0:Heap) (K:Frag) (bp:Str->Option Value) (dO:Addr):Prop where
 keep:keepIn K (.ref dO)=true
 name:bp "RefHost"=some (.ref dO)
 hI:Inst K bp h0 dO fnHI [cF] fnHI.bd [] hostL
theorem aeX{h0:Heap}{dO:Addr}(NL:h0.NoLimit)(KI:K.In h0)(g:h0.Ns mainGlobals bp)(make:makesIn K dO=true)(init:∃fI,findIn K (.ref dO) "__init__"=some (some (.ref fI))/\isFn K (.ref fI)=true/\FnOk h0 K fnHI (.ref fI))(set:∀a∈hostL.map (·.1),hp K dO a=true)(aeY:∃v,bp FC=some v):
  Inst K bp h0 dO fnHI [cF] fnHI.bd [] hostL:=
 ⟨NL,KI,g,make,init,(eh _).symm,aeT,aeU,by rw [OY];decide,set,FA,Fe (by rfl'),Fc (by rfl'),λy a m=>by rw [dG (Fd (ps:=[FC]) (by rfl') y a m)];exact aeY⟩
section
noncomputable def lU(g:Gh)(x a5:Addr)(o:Obj):Gh:={((g.add a5 o).add x (instObj g.ta.qM a5)) with ta:={g.ta with host:=x,hu:=a5,hh:=true}}
theorem FD{x a5 b:Addr}{o:Obj}(aa:b≠x)(ah:b≠a5):(lU g x a5 o).im b=g.im b:=(Gh.g9 (g:=g.add a5 o) aa).trans (Gh.g9 ah)
theorem Cfg.host(C:Cfg prog w H g h){x a5:Addr}{es:List DictEntry}(aj:∀b o,h.get? b=some o->h'.get? b=some o)(OZ:h.get? x=none)(O0:h.get? a5=none)(gD:x≠a5)(hx:h'.get? x=some (instObj g.ta.qM a5))(vW:h'.get? a5=some (dictOf es n))(aa:getL cF es=some (some (.ref g.ta.tab)))(ah:∀m:Str,m="force"\/m="bound"\/m="shape"\/m="list_prop"->getL m es=some none):Cfg prog w H (lU g x a5 (dictOf es n)) h':=by
 have D:=C.tok
 have O1:(g.add a5 (dictOf es n)).im x=none:=(Gh.g9 gD).trans (C.g7 OZ)
 have j:∀a o,g.im a=some o->(lU g x a5 (dictOf es n)).im a=some o:=λa o e=>Gh.hv O1 a o (Gh.hv (C.g7 O0) a o e)
 have i:∀{a:Addr}(o:Obj),h.get? a=some o->h'.get? a=some o:=λ{a} o=>aj a o
 have cU:TkTab (lU g x a5 (dictOf es n)):=by
  obtain⟨dN,m,e,a,b,c,d,f,r,q⟩:=D.cU
  exact⟨dN,m,j _ _ e,a,b,c,d,f,r,q⟩
 have rows:TkRows H (lU g x a5 (dictOf es n)) h':=by
  obtain⟨vs,m,ds,e,r,c⟩:=D.rows
  exact⟨vs,m,ds,i _ e,r.mono j,c⟩
 have idx:TkIdx prog w H (lU g x a5 (dictOf es n)) h':=by
  obtain⟨o,dN,ca,a4,e,aeZ,d,l,nd,r,c,y⟩:=D.idx
  exact⟨o,dN,ca,a4,i _ e,aeZ,d,l,nd,λz bi=>⟨(r z bi).1.mono j,(r z bi).2⟩,c,y⟩
 have decls:TkDecls H (lU g x a5 (dictOf es n)) h':=by
  obtain⟨vs,m,e,l,q⟩:=D.decls
  exact⟨vs,m,i _ e,l,q⟩
 have decl:∀(k:Nat)(p:Addr×Addr),g.dd[k]? =some p->TkDecl H (lU g x a5 (dictOf es n)) h' k p:=λk p aS=>by
  obtain⟨a,dN,m,e,l,v,b,r,y,t,z,q,af0,c⟩:=D.decl k p aS
  exact⟨j _ _ a,dN,m,i _ e,l,v,b,r.mono j,y,t,z,q,af0,c⟩
 have du:TkBnds H (lU g x a5 (dictOf es n)) h':=by
  obtain⟨vs,m,e,l,q⟩:=D.du
  exact⟨vs,m,i _ e,l,q⟩
 refine⟨λa o e=>?_,λa o e=>j a o (C.base a o e),C.ok,⟨j _ _ D.tab,cU,λ_=>Gh.jA _ _ _,λ_=>⟨es,n,Gh.hv O1 a5 _ (Gh.jA _ _ _),aa,ah⟩,rows,idx,D.k2,decls,decl,du,D.dfl.to (cq _) i,D.ew.to (cq _) i,D.nd,λa aw=>?_⟩,C.line,C.mods⟩
 .rcases Gh.oH e with ⟨e1,e2⟩|e
  .rw[e1,<-e2];exact hx
  .rcases Gh.oH e with ⟨e1,e2⟩|e
   .rw[e1,<-e2];exact vW
   .exact aj _ _ (C.bn _ _ e)
 .have aw:a∈g.bW:=aw
  obtain⟨o,aG⟩:=C.vY aw
  exact(FD (λq:a=x=>aI (OZ.symm.trans (q▸aG))) λq:a=a5=>aI (O0.symm.trans (q▸aG))).trans (D.out a aw)
variable {h0:Heap}{dx dO fd:Addr}
structure HostN (prog:Program) (w:World) (H:T) (h0:Heap) (dx dO fd:Addr) (g:Gh) (h h':Heap) (au:Gh):Prop where
 ta:TaOf h0 dx dO fd au.ta
 hh:au.ta.hh=true
 tab:au.ta.tab=g.ta.tab
 C:Cfg prog w H au h'
 keep:∀b o,h.get? b=some o->h'.get? b=some o
 im:∀a o,g.im a=some o->au.im a=some o
 new:∀a o,h.get? a=some o->au.im a=g.im a
 mu:au.bW=g.bW
theorem af1(PH:HostOk h0 K bp dO)(fX:A.depth+70<990){aF:Nat}(C:Cfg prog w H g h)(eU:TaOf h0 dx dO fd g.ta)(ak:∀h' dC (au:Gh),HostN prog w H h0 dx dO fd g h h' au->Q (.ref au.ta.host) {s with heap:=h',toks:=dC}):wpAny (model prog w) A (call (.ref dO) [.ref g.ta.tab]) Q E {s with heap:=h,toks:=aF}:=by
 refine E8 (s:={s with heap:=h,toks:=aF}) PH.hI (me (show A.depth+1<990 by lia) (by decide)) (λb o e=>C.bn b o (C.base b o (eU.h0.symm▸e))) rfl λa5 env bN b5 g0 es aU ie M=>wpAny_execs_nil ⟨rfl,?_⟩
 obtain⟨af2,af3⟩:=yh (k:=0) (M.I.all.trans OY) (by decide)
 obtain⟨rf,FE,_⟩:=M.I.at_ 0 _ _ _ aeV af3
 obtain⟨n,Fm⟩:=M.I.dict
 have af4:NameAt env b5 cF (.ref g.ta.tab):=M.nm cF _ (FA▸ .tail _ (.head _)) (by rw [FA];rfl)
 obtain⟨_,lw,af5,af6⟩:=af4
 obtain⟨_,ul,af7,af8⟩:=show NameAt env b5 cF af2 from FE
 rw[<-Option.some.inj (af6.symm.trans ((xn af5 af7 cF).trans af8))] at rf
 have f5:=C.host M.k4 M.x0 M.d0 (qS _) (eU.h.symm▸M.x4) Fm rf λm av=>(M.I.other m (aeW m av)).trans rfl
 refine ak b5 g0 (lU g (a5+1) a5 (dictOf es n)) ⟨⟨eU.h0,eU.t,eU.h,eU.d⟩,rfl,rfl,f5,M.k4,λa o e=>?_,λa o e=>FD (λq=>aI (M.x0.symm.trans (q▸e))) λq=>aI (M.d0.symm.trans (q▸e)),rfl⟩
 have aw:=C.bn a o e
 exact(FD (λq:a=a5+1=>aI (M.x0.symm.trans (q▸aw))) λq:a=a5=>aI (M.d0.symm.trans (q▸aw))).trans e
end
noncomputable def T.done(H:T):T:={H with bld:=false}
mutual
theorem vm:∀v:V,bI H.done v=bI H v
 | .none=>rfl
 | .bool _=>rfl
 | .int _=>rfl
 | .str _=>rfl
 | .tab=>rfl
 | .host=>rfl
 | .decl _=>rfl
 | .dict _=>rfl
 | .ty _=>rfl
 | .tup l=>congrArg (λx=>od x λm=>some (PyData.tuple m)) (sx l)
 | .list l=>congrArg (λx=>od x λm=>some (PyData.list m)) (sx l)
theorem sx:∀v:List V,bX H.done v=bX H v
 |[]=>rfl
 |x::r=>by
  show od (bI H.done x) (λd=>od (bX H.done r) λl=>some (d::l))=od (bI H x) λd=>od (bX H r) λl=>some (d::l)
  rw[vm x,sx r]
end
theorem O2(H:T):∀l:List Int,bX H (l.map V.int)=some (l.map PyData.int)
 |[]=>rfl
 |_::r=>h9 rfl (O2 H r)
section
theorem Kvs.bld{K:Type}{c7:K->PyData}{im:bA}{l:List (V×V)}{aW:List (K×Value)}(h:Kvs c7 H im l aW):Kvs c7 H.done im l aW:=by
 induction h with
 |nil=>exact .nil
 |cons a c d _ bg=>exact .cons ((vm _).trans a) ((vm _).trans c) d bg
theorem DictO.bld{im:bA}{o:Obj}{l:List (V×V)}(h:DictO prog w H im o l):DictO prog w H.done im o l:=by
 rcases h with ⟨aW,a,b⟩|⟨aW,a,b⟩
 .exact .int aW a b.bld
 .exact .str aW a b.bld
theorem VDic.bld{im look:bA}{v:Value}{l:List (V×V)}(h:VDic prog w H im look v l):VDic prog w H.done im look v l:=by
 obtain⟨a,o,aa,ah,aC,bC⟩:=h
 exact⟨a,o,aa,ah,aC,bC.bld⟩
theorem VLis.bld{im look:bA}{v:Value}{l:List V}(h:VLis H im look v l):VLis H.done im look v l:=by
 obtain⟨a,vs,n,ds,aa,ah,aC,bC⟩:=h
 exact⟨a,vs,n,ds,aa,ah,aC,(sx _).trans bC⟩
theorem VDat.bld{im:bA}{v:Value}(h:VDat H im v u):VDat H.done im v u:=by
 obtain⟨d,aa,ah⟩:=h
 exact⟨d,(vm _).trans aa,ah⟩
theorem Val.bld{look:bA}{v:Value}(h:Val prog w H g look v u):Val prog w H.done g look v u:=by
 rcases u
 case tab=>exact h
 case host=>exact h
 case decl=>exact h
 case dict=>exact VDic.bld h
 case list=>exact VLis.bld h
 all_goals exact VDat.bld h
theorem Hold.bld{v:Value}{o:Bool}(q:Hold prog w H g h ai x v u o):Hold prog w H.done g h ai x v u o:=by
 rcases o with _|_
 .exact Val.bld q
 .obtain⟨aa,a,ah,aC,bC⟩:=q
  exact⟨aa,a,ah,aC,bC.bld⟩
theorem FrR.turn(F:FrR prog w H g h env J ai)(k:∀b o,h.get? b=some o->h'.get? b=some o)(sep:ic au h' ai)(hold:∀y v u o,a2 J y=some (u,o)->Hold prog w H g h ai y v u o->Hold prog w O au h' ai y v u o):FrR prog w O au h' env J ai:=by
 refine⟨?_,λy a e=>?_,F.loc,sep,F.dot⟩
 .obtain⟨m,aX,av⟩:=F.ns
  exact⟨m,aX.at' λo=>k _ o,λy u o aj aq=>(av y u o aj aq).elim λv p=>⟨v,p.1,hold y v u o aq p.2⟩⟩
 .obtain⟨v,⟨oc,aG,aQ⟩,ah,aC⟩:=F.cl y a e
  exact⟨v,⟨oc,k _ _ aG,aQ⟩,ah,λu o aj aq=>(aC u o aj aq).elim λz p=>⟨z,p.1,hold y z u o aq p.2⟩⟩
theorem FrR.bld(F:FrR prog w H g h env J ai):FrR prog w H.done g h env J ai:=F.turn (λ_ _ e=>e) F.sep λ_ _ _ _ _ q=>q.bld
theorem Cfg.amI(C:Cfg prog w H g h)(ao:H.bld=true)(aj:∀r∈H.base,gw r=true/\V.key H.base.length 4 r=true):Cfg prog w H.done g h:=by
 have aL:=C.ok
 have D:=C.tok
 refine⟨C.bn,C.base,⟨aL.plain,aL.met,λr aq=>?_,(λq=>nomatch q),aL.size,aL.once,aL.small⟩,⟨D.tab,D.cU,D.host,D.hu,?_,?_,D.k2,?_,λk p aS=>?_,?_,D.dfl.to (cq _) λ_ e=>e,D.ew.to (cq _) λ_ e=>e,D.nd,D.out⟩,C.line,C.mods⟩
 .have aq:r∈H.base++H.dyn:=aq
  rw[aL.bld ao,eh] at aq
  exact aj r aq
 .obtain⟨vs,n,ds,a,b,c⟩:=D.rows
  exact⟨vs,n,ds,a,b,(sx _).trans c⟩
 .obtain⟨o,es,ca,a4,a,b,c,d,e,f,i,j⟩:=D.idx
  exact⟨o,es,ca,a4,a,b,c,d,e,f,(sx _).trans i,j⟩
 .obtain⟨vs,n,a,b,c⟩:=D.decls
  exact⟨vs,n,a,b,c⟩
 .obtain⟨a,es,n,e,l,v,b,r,i,t,x,y,a5,c⟩:=D.decl k p aS
  exact⟨a,es,n,e,l,v,b,r,i,t,x,y,a5,(vm _).trans c⟩
 .obtain⟨vs,n,a,b,c⟩:=D.du
  exact⟨vs,n,a,b,c⟩
end
def yn:=an "TypeTable"
def yo:=an "RefHost"
theorem O3:lk lawFn.sc.names yn=some .globalImplicit:=by rfl'
theorem O4:lk lawFn.sc.names yo=some .globalImplicit:=by rfl'
theorem af9:("TypeTable":Str)=yn:=by rfl'
theorem afa:("RefHost":Str)=yo:=by rfl'
theorem anN:kN≠lS/\qh≠kN:=by decide
def hs:Cx:=⟨lawFn.sc,lawFn.bd⟩
def vo (L:List V):am:=[(hq,.list L,false),(kN,.tab,false),(qh,.host,false)]
theorem afb:lawRest=lawRest.take 2++((lawFn.bd.drop 4).take 3++lawFn.bd.drop 7):=by rfl'
theorem afc:lawRest.take 2=[rg 2,rg 3]:=by rfl'
def FF (L:List V):am:=[(hq,.list L,false)]
def sy (L:List V):am:=cb (FF L) kN .tab false
theorem afd(L:List V):cb (sy L) qh .host false=vo L:=by rfl'
theorem anO(L:List V):sy L=[(hq,.list L,false),(kN,.tab,false)]:=by rfl'
theorem afe(L:List V):a2 (FF L) dM=none:=by rfl'
theorem aff(L:List V):a2 (sy L) kN=some (.tab,false):=by rfl'
theorem afg:(!a9 kN dM)=true:=by rfl'
theorem afh:(!a9 qh dM)=true:=by rfl'
theorem afi{L:List V}{o:Bool}(h:a2 (sy L) y=some (u,o)):false=o/\(u= .list L\/u= .tab):=by
 rcases pP h with ⟨_,e1,e2⟩|⟨_,h⟩
 .exact⟨e2,.inr e1.symm⟩
 .obtain⟨_,e1,e2⟩:=p8 h
  exact⟨e2,.inl e1.symm⟩
inductive LawEv (ns:List Int):Prop
 |mk (sz:am) (mY:T) (lV:am) (O:T) (e1:bv G0 300 hs (vo ((mW ns).map .int)) ((lawFn.bd.drop 4).take 3) jv=some (.next,sz,mY)) (b:mY.bld=true) (k:∀r∈mY.base,gw r=true/\V.key mY.base.length 4 r=true) (eT:mY.cnt<=ba)
   (e2:bv G0 300 hs sz (lawFn.bd.drop 7) mY.done=some (.ret (.bool true),lV,O)) (cP:O.cnt<=ba)
section
variable {h0:Heap}{dx dO fd:Addr}
structure LawF (cu aB:Heap) (env:Env) (l c:Addr):Prop where
 N:EnvR lawFn.sc env
 sc:NameAt env aB lS (.ref l)
 kn:env.kindOf hq=some .cell
 cc:env.cells.lookup hq=some c
 cell:aB.IsCell c none
 ns:∃m,aB.Ns env.locals m
 cl:∀y a,env.cells.lookup y=some a->dw env.locals env.cells a=some (.cell y)/\∃v,aB.IsCell a v
 new:∀a r,dw env.locals env.cells a=some r->cu.get? a=none
 live:∀a r,dw env.locals env.cells a=some r->∃o,aB.get? a=some o
 keep:∀b o,cu.get? b=some o->aB.get? b=some o
theorem afj{s c1:Shared}{l:Addr}{dv:List Value}(yp:ScopeOk lawFn.sc)(aL:Opened prog w h0 s lawFn [.ref l] dv env c1)(aQ:dv=[]):∃aB bh c,c1={s with heap:=aB,toks:=bh}/\LawF s.heap aB env l c:=by
 have x:=aL.x
 rw[Fq,aQ,show lD [lS] [Value.ref l] []=[(lS,.ref l)] from rfl] at x
 have N:=aL.N
 obtain⟨O5,c,hP⟩:=N.cell hq OK
 have ns:=x.toInCall.ns
 have yq:=x.cell
 have afk:∀p∈env.cells,p.2≠env.locals:=λp aS e=>qX _ (e▸x.above p.1 p.2 aS)
 have uu:∀a,env.locals<=a->s.heap.get? a=none:=λa aw=>xD (aT x.toInCall.fresh aw)
 obtain⟨m,nR⟩:=aL.cl
 have nd:(env.cells.map (·.1)).Nodup:=by rw [nR];exact LB yp m
 have yf:([(lS,Value.ref l)].map (·.1)).Nodup:=List.nodup_cons.mpr ⟨kj,.nil⟩
 have apart:=x.apart
 have above:=x.above
 obtain⟨aB,bh,iR,i7⟩:=x.done
 rw[iR] at ns yq
 refine⟨aB,bh,c,iR,⟨N,⟨N.loc _ Fs,_,ns,(rJ (N.loc _ Fs) _ yf).trans ?_⟩,O5,hP,?_,⟨_,ns⟩,λy a aY=>⟨LG apart afk aY,_,yq y a aY⟩,λa r h=>(w7 h).elim (λe=>uu _ (dW e.symm)) λ⟨y,aY⟩=>uu _ (jH (above y a aY)),λa r h=>?_,i7⟩⟩
 .rw[n2];rfl
 .have q:=yq hq c hP
  rw[ut (λe=>nomatch O5.symm.trans e) _ yf] at q
  exact q
 .rcases w7 h with e|⟨y,aY⟩
  .obtain⟨o,_,_,aG,_⟩:=ns;exact⟨o,e▸aG⟩
  .obtain⟨o,aG,_⟩:=yq y a (lookup_of_mem_nodup nd aY);exact⟨o,aG⟩
section
variable {cu aB a8 bN:Heap}{l c D:Addr}{cy:Array Value}{ns:List Int}
theorem LawF.rc(Z:LawF cu aB env l c):dw env.locals env.cells c=some (.cell hq):=(Z.cl _ _ Z.cc).1
theorem afl(Z:LawF cu aB env l c)(up:∀b o,h0.get? b=some o->cu.get? b=some o)(M:NumsAt aB a8 c D cy n (mW ns))(T:TabN prog w h0 dx dO fd a8 bN g):
  Cfg prog w jv (g.add D (listOf cy n)) bN/\FrR prog w jv (g.add D (listOf cy n)) bN env (FF ((mW ns).map .int)) (dw env.locals env.cells):=by
 have yr:dw env.locals env.cells env.locals=some .loc:=if_pos rfl
 have afm:∀a r,dw env.locals env.cells a=some r->∃o,a8.get? a=some o:=λa r h=>by
  rcases eR (a=c) with q|q
  .rw[q]
   obtain⟨o,aG,_⟩:=M.cell
   exact⟨o,aG⟩
  .exact(Z.live a r h).imp λo aG=>M.keep a o q aG
 have iW:∀{b},cu.get? b=none->h0.get? b=none:=gU λb o e=>⟨o,up b o e⟩
 have FG:∀{a o},a8.get? a=some o->h0.get? a=none->g.im a=none:=λ{a o} aw afn=>by
  rcases e:g.im a with _|q
  .rfl
  .exact(T.inv a q e).elim (λq=>aI (afn.symm.trans q)) λq=>aI (q.symm.trans aw)
 have O6:∀{a o},a8.get? a=some o->a∉g.bW:=λaw q=>aI ((T.mu _ q).symm.trans aw)
 have rS:h0.get? D=none:=iW (gU (λa o e=>⟨o,Z.keep a o e⟩) M.new)
 have rD:∀a r,dw env.locals env.cells a=some r->a≠D:=λa r h q=>(Z.live a r h).elim λo aG=>aI (M.new.symm.trans (q▸aG))
 have im:=Gh.hv (g:=g) (o:=listOf cy n) (FG M.at_ rS)
 refine⟨T.C.freeze (FG M.at_ rS) (O6 M.at_) (T.keep _ _ M.at_),⟨?_,λy a aY=>?_,yr,λa r h=>?_,afe _⟩⟩
 .obtain⟨m,aX⟩:=Z.ns
  have afo:env.locals≠c:=mJ yr Z.rc nofun
  refine⟨m,aX.at' λo e=>T.keep _ o (M.keep _ o afo e),λy u o aj aq=>?_⟩
  obtain⟨e,_,_⟩:=p8 aq
  exact nomatch (e▸aj).symm.trans Z.kn
 .obtain⟨pj,v,oc,lB,jX⟩:=Z.cl y a aY
  rcases eR (a=c) with q|q
  .rw[q] at pj |-
   obtain⟨oc,lB,jX⟩:=M.cell
   refine⟨_,⟨oc,T.keep _ _ lB,jX⟩,pj,λu o aj aq=>⟨_,rfl,?_⟩⟩
   obtain⟨_,e1,e2⟩:=p8 aq
   rw[<-e1,<-e2]
   exact⟨D,cy,n,_,rfl,Gh.jA _ _ _,M.rd _,O2 _ _⟩
  .refine⟨v,⟨oc,T.keep _ _ (M.keep _ _ q lB),jX⟩,pj,λu o aj aq=>?_⟩
   obtain⟨e,_,_⟩:=p8 aq
   rw[e] at aY
   exact absurd (Option.some.inj (aY.symm.trans Z.cc)) q
 .obtain⟨o,aG⟩:=afm a r h
  exact⟨(Gh.g9 (rD a r h)).trans (FG aG (iW (Z.new a r h))),O6 aG,o,T.keep _ _ aG⟩
end
theorem afp{L:List V}(F:FrR prog w jv g h env (sy L) (dw env.locals env.cells))(U:HostN prog w jv h0 dx dO fd g h h' au):FrR prog w jv au h' env (sy L) (dw env.locals env.cells):=by
 refine F.turn U.keep (λa r h=>?_) λy v u o aq q=>?_
 .obtain⟨bU,bZ,o,dJ⟩:=F.sep a r h
  exact⟨(U.new a o dJ).trans bU,U.mu.symm▸bZ,o,U.keep _ _ dJ⟩
 .obtain⟨e,e1⟩:=afi aq
  rw[<-e] at q |-
  rcases e1 with e1|e1<;>rw[e1] at q |-
  .exact VLis.mono (.refl _) U.im (λa o _=>U.im a o) q
  .exact mg (show v= .ref g.ta.tab from q) (congrArg _ U.tab.symm)
theorem afq{z:Value}(h:Seen prog w H g h ai z (.bool true)):z= .bool true:=by
 obtain⟨y,b,bi⟩:=h
 rcases b with _|_
 .exact Val.bool_inv (show Val prog w H g g.im z (.bool true) from bi)
 .obtain⟨c,_⟩:=bi
  exact nomatch c
theorem afr{en er e4 ij hg gV hj jT mC:Pos}{cu aB a8:Heap}{l c D:Addr}{cy:Array Value}{ns:List Int}{aF:Nat}{Q:Flow->Shared->Prop}(P:Tops prog w h0 K bp mb dx dO fd)(PH:HostOk h0 K bp dO)(hh:A.handled=none)(fX:A.depth+70<990)(bG:A.units+2000<cLine)(Z:LawF cu aB env l c)(up:∀b o,h0.get? b=some o->cu.get? b=some o)(M:NumsAt aB a8 c D cy n (mW ns))(ak:∀g h' dC,TaOf h0 dx dO fd g.ta->Cfg prog w jv g h'->FrR prog w jv g h' env (vo ((mW ns).map .int)) (dw env.locals env.cells)->(∀b o,b≠env.locals->a8.get? b=some o->h'.get? b=some o/\b∉g.bW)->wpAny (model prog w) A (execs bu env) Q E {s with heap:=h',toks:=dC}):
  wpAny (model prog w) A (execs (.Assign [.Name kN en] (.Call (.Name yn er) [] [] e4) ij:: .Assign [.Name qh hg] (.Call (.Name yo gV) [.Name kN hj] [] jT) mC::bu) env) Q E {s with heap:=a8,toks:=aF}:=by
 have yc:h0.Ns mainGlobals bp:=P.tI.g
 have yr:dw env.locals env.cells env.locals=some .loc:=if_pos rfl
 have iW:∀{b},cu.get? b=none->h0.get? b=none:=gU λb o e=>⟨o,up b o e⟩
 have ys:∀b o,h0.get? b=some o->a8.get? b=some o:=λb o e=>M.keep b o (λq=>aI ((iW (Z.new _ _ Z.rc)).symm.trans (q▸e))) (Z.keep _ _ (up b o e))
 refine wpAny_execs_cons (wpAny_Assign_Name (Call_Name rfl (Name_function_global Z.N.kind (Z.N.impl yn O3) (loadGlobal_global (s:={s with heap:=a8,toks:=_}) (by rw [Z.N.glob];exact yc.keeps ys) (af9▸P.amU) ?_) (ia Z.N O3))) (sa rfl kN en _ env))
 refine gi (P:=λh=>K.In h) rfl (λh X=>keeps_K P.amY h X) ?_
 refine args_nil ⟨P.tI.KI.keeps ys,?_⟩
 refine aeQ P hh fX bG ys λbN gX g T=>?_
 obtain⟨afs,gH⟩:=afl Z up M T
 refine mK (s:={s with heap:=bN,toks:=gX}) Z.N afs gH (.inl lk_ltab) (n0 afg) (o:=false) (u:=.tab) (show Value.ref g.ta.tab=_ from rfl) λb5 g0 Y=>?_
 obtain⟨jT,Fj,FH,_⟩:=Y.b
 rw[Fj.elim id λq=>nomatch (lk_ltab.symm.trans q.1)] at FH
 have aft:h0.get? env.locals=none:=iW (Z.new _ _ yr)
 have O7:∀b o,h0.get? b=some o->b5.get? b=some o:=λb o e=>SameBut.ext' FH b o (λq=>aI (aft.symm.trans (q▸e))) (T.keep _ _ (ys _ _ e))
 refine wpAny_execs_cons (wpAny_Assign_Name (Call_Name rfl (Name_function_global Z.N.kind (Z.N.impl yo O4) (loadGlobal_global (s:={s with heap:=b5,toks:=_}) (by rw [Z.N.glob];exact yc.keeps O7) (afa▸PH.name) ?_) (ia Z.N O4))) (sa rfl qh hg _ env))
 refine gi (P:=λh=>K.In h) rfl (λh X=>keeps_K PH.keep h X) ?_
 refine args_cons (jh (s:={s with heap:=b5,toks:=_}) Z.N Y.F (.inl lk_ltab) (aff _) λz bi=>?_) rfl
 refine args_nil ⟨P.tI.KI.keeps O7,?_⟩
 rw[show z= .ref g.ta.tab from bi]
 refine af1 (g:=g.add D (listOf cy n)) PH fX Y.C T.ta λmO r3 au U=>?_
 have xB:=afp Y.F U
 refine mK (s:={s with heap:=mO,toks:=r3}) Z.N U.C xB (.inl lk_lhost) (n0 afh) (o:=false) (u:=.host) (show Value.ref au.ta.host=_/\_ from ⟨rfl,U.hh⟩) λjs sp FI=>?_
 obtain⟨lr,afu,O8,_⟩:=FI.b
 rw[afu.elim id λq=>nomatch (lk_lhost.symm.trans q.1)] at O8
 refine ak au js sp U.ta FI.C (afd _▸FI.F) λb o q e=>⟨SameBut.ext' O8 b o q (U.keep _ _ (SameBut.ext' FH b o q (T.keep _ _ e))),λm=>?_⟩
 rw[U.mu] at m
 exact aI ((T.mu b m).symm.trans e)
set_option maxHeartbeats 4000000 in
theorem afv(P:Tops prog w h0 K bp mb dx dO fd)(PH:HostOk h0 K bp dO){O9:Addr}(yp:FnOk h0 K lawFn (.ref O9))(ao:h0.Ns builtinsNs mb)(cg:bp dy=none)(ch:mb dy=some (.builtin "len"))(hh:A.handled=none)(fX:A.depth+400<990)(bG:A.units+9000<cLine)(up:∀b o,h0.get? b=some o->s.heap.get? b=some o){l:Addr}{vs:List Value}{ns:List Int}(eJ:s.heap.IsList l vs.toArray)(hI:IntsAre vs ns)(aX:ns.length<=63)(afw:LawEv ns)(ak:∀h' dC,(∀b o,s.heap.get? b=some o->h'.get? b=some o)->Q (.bool true) {s with heap:=h',toks:=dC}):wpAny (model prog w) A (call (.ref O9) [.ref l]) Q E s:=by
 obtain⟨sz,mY,lV,O,afx,gn,gm,bo,afy,afz⟩:=afw
 refine wpAny_call (Di P.tI.NL yp (me (show A.depth<990 by lia) (by decide)) up (by rw [Fq];exact cq _) (by rw [Fq];exact iB _) λdv env c1 anP aL=>?_)
 obtain⟨aB,bh,c,iR,Z⟩:=afj yp.sc aL (List.length_eq_zero_iff.mp aL.len)
 rw[iR]
 have Pa:∀b o,h0.get? b=some o->aB.get? b=some o:=λb o e=>Z.keep b o (up b o e)
 have iW:∀{b},s.heap.get? b=none->h0.get? b=none:=gU λb o e=>⟨o,up b o e⟩
 have Pb:∀{a:Addr}{m},h0.Ns a m->a≠c:=λ{a m} aX q=>by
  obtain⟨o,_,_,aG,_⟩:=aX
  exact aI ((iW (Z.new _ _ Z.rc)).symm.trans (q▸aG))
 have yl:aB.IsList l vs.toArray:=by
  obtain⟨o,e,q⟩:=eJ
  exact⟨o,Z.keep _ _ e,q⟩
 refine aer (A:=A.deeper env) (s:={s with heap:=aB,toks:=bh}) Z.N hh (show A.units+3+100<cLine by lia) (P.tI.g.keeps Pa) (ao.keeps Pa) cg ch Z.sc Z.kn Z.cc Z.cell yl hI aX ⟨Pb P.tI.g,Pb ao⟩ λa8 b8 D cy n M=>?_
 rw[afb,afc]
 refine OJ ?_
 refine afr (A:=A.deeper env) (s:={s with heap:=aB,toks:=bh}) P PH hh (show A.depth+1+70<990 by lia) (show A.units+3+2000<cLine by lia) Z up M λg js sp eU sq F dq=>wpAny_execs_nil ?_
 have S:=(EC (P.bk g.ta eU) (P.SN g.ta eU) (eU.d.symm▸P.body) 300).s
 have R:Room (A.deeper env) 300:=⟨hh,show A.depth+1+300<990 by lia,show A.units+3+20*300+400<cLine by lia⟩
 refine OJ ?_
 refine S hs _ _ jv .next sz mY afx bo _ env _ g {s with heap:=js,toks:=sp} _ _ R rfl Z.N sq F λu9 va vb afA f X k vc Gw iP Fl St=>?_
 obtain⟨e,afB⟩:=Fl
 rw[e]
 refine S hs sz _ mY.done _ lV O afy afz _ env afA u9 {s with heap:=va,toks:=vb} _ _ R X.ta Z.N (vc.amI gn gm) afB.bld λanQ afC afD anR f p2 gk anS uS rZ afE anT=>?_
 obtain⟨z,e,bi⟩:=afE
 rw[e,afq bi]
 refine ak afC afD λb o e=>?_
 have FJ:dw env.locals env.cells b=none:=by
  rcases q:dw env.locals env.cells b with _|r
  .rfl
  .exact aI ((Z.new b r q).symm.trans e)
 have no:∀{a r},dw env.locals env.cells a=some r->b≠a:=λh q=>aI (FJ.symm.trans (q▸h))
 obtain⟨qj,x2⟩:=dq b o (no (if_pos rfl)) (M.keep b o (no Z.rc) (Z.keep b o e))
 exact p2.old b o (X.old b o qj x2 FJ) (λq=>x2 ((X.bW qj).mp q)) (Gw.no qj FJ)
end
end Mine
end
noncomputable section
open PySem PySem.W PyProof.Rows PySem.Calls
namespace Mine
noncomputable def base1:List V:=[.tup [.int 1,.str "any"],.tup [.int 1,.str "unknown"],.tup [.int 1,.str "never"],.tup [.int 1,.str "void"],.tup [.int 1,.str "undefined"],.tup [.int 1,.str "null"],.tup [.int 1,.str "string"],.tup [.int 1,.str "number"],.tup [.int 2,.int 0,.int 0],.tup [.int 2,.int 1,.int 0],.tup [.int 1,.str "object"],.tup [.int 8,.tup [],.tup [],.tup [],.tup [],.tup [],.int 0],.tup [.int 6,.tup [.int 8,.int 9]],.tup [.int 1,.str "error"],.tup [.int 2,.int 0,.int 1],.tup [.int 2,.int 1,.int 1],.tup [.int 8,.tup [.tup [.str "p",.int 7,.int 0,.int 0]],.tup [],.tup [],.tup [],.tup [],.int 0],.tup [.int 13,.tup [],.tup [],.int 3,.tup [],.int 0],.tup [.int 3,.str ⟨#[]⟩,.int 0],.tup [.int 3,.str "a",.int 0],.tup [.int 3,.str "a",.int 1],.tup [.int 3,.str "x",.int 1],.tup [.int 4,.int 0,.int 0],.tup [.int 4,.int 1,.int 1],.tup [.int 4,.int (-1),.int 0],.tup [.int 5,.int 2,.str "A",.int 0,.int 0],.tup [.int 5,.int 2,.str "B",.int 1,.int 1],.tup [.int 5,.int 3,.str "A",.str "a",.int 0],.tup [.int 9,.int 1,.tup []],.tup [.int 8,.tup [],.tup [.int 17],.tup [],.tup [],.tup [],.int 0],.tup [.int 10,.int 0]]
noncomputable def FK:List V:=[.none,.int 16,.int (-1),.int (-1)]
def ar (D:List V) (c:Nat):T:={base:=base1,dyn:=D,bld:=false,decls:=FK,bounds:=[-1],cnt:=c}
noncomputable def ax (i:Nat):V:=match Nat.blt i 31 with
 |true=> .int i
 |false=> .ty (.tup [.int 7,.tup [.int 30,.int (i - 27:Nat)]])
noncomputable def PS:List Nat:=[0,1,3,4,5,6,7,8,9,10,11,15,16,18,19,20,21,22,23,24,25,26,27,28,29,30,31,32,33,34,35,36,37,38]
noncomputable def afF (m:Nat):List V:=((List.range 14).filter λi=>m.testBit i).map λ(i:Nat)=> .int (i:Int)
def hV (m:Nat):V:=.list (afF m)
noncomputable def kindsL:List (Nat×Nat):=[(6,112),(4,1),(5,2),(7,1920),(8,4),(9,8),(15,8),(18,16),(19,32),(20,32),(21,64),(22,128),(23,256),(24,512),(25,128),(26,256),(27,32),(11,16380),(10,14336),(16,4096),(28,4096),(29,8192),(30,16383),(3,1),(1,16383),(0,16383)]
def afG:=an "kinds"
def mZ:V:=.list (kindsL.map λp=> .tup [.int p.1,hV p.2])
def FM (L:List V):am:=vo L++[(afG,mZ,false)]
theorem afH(L:List V):bv G0 300 hs (vo L) ((lawFn.bd.drop 4).take 3) jv=some (.next,FM L,{ar [] 31 with bld:=true}):=by rfl'
noncomputable def aE(i:Nat):Fn:=⟨aA i,[]⟩
inductive WE {α:Type} (x:Option (α×T)) (Q:α->T->Prop):Prop
 |mk (v:α) (O:T) (e:x=some (v,O)) (q:Q v O)
inductive WS (x:Option (Fl×am×T)) (Q:Fl->am->T->Prop):Prop
 |mk (f:Fl) (J:am) (O:T) (e:x=some (f,J,O)) (q:Q f J O)
theorem WE.of{α:Type}{x:Option (α×T)}{Q:α->T->Prop}{v:α}{O:T}(h:x=some (v,O))(q:Q v O):WE x Q:=⟨v,O,h,q⟩
theorem WE.is{α:Type}{x:Option (α×T)}{Q:α->T->Prop}{a:α}{s:T}(h:WE x (λv O=>v=a/\O=s))(q:Q a s):WE x Q:=let ⟨_,_,e,e1,e2⟩:=h;⟨a,s,e1▸e2▸e,q⟩
theorem WE.mono{α:Type}{x:Option (α×T)}{P Q:α->T->Prop}(h:WE x P)(q:∀v O,P v O->Q v O):WE x Q:=let ⟨v,O,e,p⟩:=h;⟨v,O,e,q v O p⟩
theorem WE.ob{α bR:Type}{x:Option (α×T)}{f:α->T->Option (bR×T)}{Q:bR->T->Prop}(h:WE x λv O=>WE (f v O) Q):WE (ob x f) Q:=by
 obtain⟨v,O,e,q⟩:=h
 rw[e];exact q
theorem WE.obS{α:Type}{x:Option (α×T)}{f:α->T->Option (Fl×am×T)}{Q:Fl->am->T->Prop}(h:WE x λv O=>WS (f v O) Q):WS (Mine.ob x f) Q:=by
 obtain⟨v,O,e,q⟩:=h
 rw[e];exact q
theorem WE.ow{α:Type}{c:Bool}{x:Option (α×T)}{Q:α->T->Prop}(ap:c=true)(h:WE x Q):WE (ow c x) Q:=by rw [ap];exact h
theorem WE.od{α bR:Type}{x:Option bR}{f:bR->Option (α×T)}{b:bR}{Q:α->T->Prop}(hx:x=some b)(h:WE (f b) Q):WE (od x f) Q:=by rw [hx];exact h
theorem WE.pt{α:Type}{H:T}{x:Option α}{b:α}{Q:α->T->Prop}(hx:x=some b)(h:Q b H):WE (pt H x) Q:=by rw [hx];exact⟨b,H,rfl,h⟩
theorem WS.ow{c:Bool}{x:Option (Fl×am×T)}{Q:Fl->am->T->Prop}(ap:c=true)(h:WS x Q):WS (Mine.ow c x) Q:=by rw [ap];exact h
theorem WS.od{bR:Type}{x:Option bR}{f:bR->Option (Fl×am×T)}{b:bR}{Q:Fl->am->T->Prop}(hx:x=some b)(h:WS (f b) Q):WS (Mine.od x f) Q:=by rw [hx];exact h
theorem WS.amN{x:Option (Fl×am×T)}{f:Fl->am->T->Option (Fl×am×T)}{Q:Fl->am->T->Prop}(h:WS x λv J O=>WS (f v J O) Q):WS (oc x f) Q:=by
 obtain⟨v,J,O,e,q⟩:=h
 rw[e];exact q
def sA(k:am->T->Option (Fl×am×T))(b0:Fl->am->T->Prop)(f:Fl)(J:am)(H:T):Prop:=match f with
 | .next=>WS (k J H) b0
 | .ret v=>b0 (.ret v) J H
section
variable (G:Gl)(n:Nat)(c:Cx)(J:am)(f:Expr->T->Option (V×T))(Q:V->T->Prop)(b0:Fl->am->T->Prop)(eD:Bool->T->Prop)(eE:List V->T->Prop)
abbrev jw (bw:Fl) (_:am) (O:T):Prop:=Q bw.val O
abbrev afI (v:V) (O:T):Prop:=b0 (.ret v) J O
abbrev afJ (v:V) (vs:List V) (O:T):Prop:=eE (v::vs) O
abbrev afK (r:List Expr) (v:V) (H:T):Prop:=WE (dz f r H) (afJ eE v)
abbrev afL (as:List Expr) (v:V) (O:T):Prop:=gx J v as=true/\Q v O
abbrev Pc (fn:Fn) (as:List Expr) (vs:List V) (H:T):Prop:=WE (bK G n fn vs H) (afL J Q as)
abbrev Pd (x:Str) (vs:List V) (H:T):Prop:=∃v,f1 H x vs=some v/\Q v H
abbrev KI (v:V) (O:T):Prop:=∃l,hd v=some l/\eE l O
abbrev Pe (l:List V) (O:T):Prop:=(l.all V.flat&&cz l)=true/\Q (.list l) O
abbrev FN (x:Str) (sc:Scope) (ifs:List Expr) (v:V) (H:T):Option (Bool×T):=gz (dR G n {c with sc:=sc} ((x,v,false)::J)) .And ifs H
abbrev FO (x:Str) (sc:Scope) (elt:Expr) (v:V) (H:T):Option (V×T):=aN G n {c with sc:=sc} ((x,v,false)::J) elt H
abbrev Pf (x:Str) (sc:Scope) (ifs:List Expr) (elt:Expr) (l:List V) (H:T):Prop:=WE (gR (FN G n c J x sc ifs) (FO G n c J x sc elt) l H) (Pe Q)
abbrev Pg (r:List Stmt) (J:am) (H:T):Option (Fl×am×T):=bv G n c J r H
abbrev afM (b o r:List Stmt) (x:Bool) (H:T):Prop:=WS (bv G n c J (cond x b o) H) (sA (Pg G n c r) b0)
abbrev om (t:Expr) (b:List Stmt) (v:V) (J:am) (H:T):Option (Fl×am×T):=od (li c t v J) λJ=>bv G n c J b H
abbrev afN (turn:V->am->T->Option (Fl×am×T)) (l:List V) (J:am) (H:T):Option (Fl×am×T):=je turn l J H
abbrev afO (t:Expr) (b r:List Stmt) (l:List V) (H:T):Prop:=WS (je (om G n c t b) l J H) (sA (Pg G n c r) b0)
abbrev afP (op:CmpOp) (a b:V) (H:T):Prop:=∃t,cX H op a b=some t/\eD t H
abbrev Ph (op:CmpOp) (r:Expr) (a:V) (H:T):Prop:=WE (b7 c J f r H) (afP eD op a)
abbrev afQ (t:Bool) (H:T):Prop:=Q (.bool t) H
abbrev afR (b:Bool) (H:T):Prop:=eD (!b) H
abbrev Pj (v:V) (H:T):Prop:=∃b,v.truth=some b/\eD b H
abbrev afS (f:Expr->T->Option (Bool×T)) (r:List Expr) (b:Bool) (H:T):Prop:=cond b (WE (gz f .And r H) eD) (eD false H)
abbrev afT (f:Expr->T->Option (Bool×T)) (r:List Expr) (b:Bool) (H:T):Prop:=cond b (eD true H) (WE (gz f .Or r H) eD)
abbrev Pk (b:V) (i:V) (H:T):Prop:=∃v,fE H b i=some v/\Q v H
abbrev Pl (s:Expr) (b:V) (H:T):Prop:=WE (f s H) (Pk Q b)
abbrev afU (i:V) (H:T):Prop:=∃r,H.rowOf i=some r/\Q r H
abbrev Pm (s:Expr) (b:V) (H:T):Prop:=b= .tab/\WE (f s H) (afU Q)
abbrev afV (row:V) (H:T):Prop:=WE (H.put row) Q
abbrev afW (a:Expr) (b:V) (H:T):Prop:=b= .tab/\WE (f a H) (afV Q)
abbrev afX (l:List V) (O:T):Prop:=(l.all V.flat&&cz l)=true/\Q (.tup l) O
abbrev afY (op:Operator) (a b:V) (H:T):Prop:=∃v,kr op a b=some v/\Q v H
abbrev afZ (op:Operator) (r:Expr) (a:V) (H:T):Prop:=WE (b7 c J f r H) (afY Q op a)
abbrev anU (op:Bool->Prop->Prop->Prop) (b:Expr) (v:V) (H:T):Prop:=∃t,v.truth=some t/\op t (WE (f b H) Q) (Q v H)
abbrev ag0 (b o:Expr) (x:Bool) (H:T):Prop:=WE (f (cond x b o) H) Q
end
abbrev Is {α:Type} (a:α) (s:T) (v:α) (O:T):Prop:=v=a/\O=s
abbrev f6 (I:am->T->Prop) (f:Fl) (J:am) (O:T):Prop:=f= .next/\I J O
theorem WS.thn{x:Option (Fl×am×T)}{k:am->T->Option (Fl×am×T)}{b0:Fl->am->T->Prop}(h:WS x (sA k b0)):WS (thn x k) b0:=by
 obtain⟨f,bb,O,e,q⟩:=h
 rw[e]
 rcases f with _|v
 .exact q
 .exact⟨_,_,_,rfl,q⟩
section
variable {G:Gl}{n:Nat}{c:Cx}{J:am}{H O:T}{v u:V}{Q:V->T->Prop}{b0:Fl->am->T->Prop}{eD:Bool->T->Prop}{eE:List V->T->Prop}
theorem ag1{f:Fn}{as:List V}(av:(f.ps.any λp=>fU p f.bd)=false)(ao:o8 f.ps as f.dfl=some J)(aJ:WS (bv G n ⟨f.sc,f.bd⟩ J f.bd H) (jw Q)):WE (bK G (n+1) f as H) Q:=by
 obtain⟨bw,bb,O,e,q⟩:=aJ
 refine WE.ow (by rw [av];rfl) (WE.od ao ⟨_,O,?_,q⟩)
 rw[e];rfl
theorem ck{e:Expr}{p:Pos}{r:List Stmt}(h:WE (b7 c J (aN G n c J) e H) (afI J b0)):WS (bv G (n+1) c J (.Return (some e) p::r) H) b0:=
 WE.obS (h.mono λv O q=>⟨_,_,_,rfl,q⟩)
theorem cw{f:Expr->T->Option (V×T)}{a:Expr}{b:List Expr}{k:List Keyword}{p:Pos}(h:WE (f (.Call a b k p) H) Q):WE (b7 c J f (.Call a b k p) H) Q:=h
theorem j8{f:Expr->T->Option (V×T)}{a b d p}(h:WE (f (.ListComp a b d p) H) Q):WE (b7 c J f (.ListComp a b d p) H) Q:=h
theorem sB{f:Expr->T->Option (V×T)}{x:Str}{p:Pos}(aj:fF c x=true)(aq:(a2 J x).map (·.1)=some v)(q:Q v H):WE (b7 c J f (.Name x p) H) Q:=by
 show WE (Cj J f (.Name x p) H (Mine.ow (fF c x) (some x))) Q
 rw[aj]
 rcases e:a2 J x with _|s<;>rw[e] at aq
 .exact aI aq
 .exact WE.od e ⟨_,H,rfl,(show s.1=v from Option.some.inj aq)▸q⟩
theorem ag2{x:Str}(h:fF c x=true):gy c x=false:=by
 unfold gy
 rcases CH h with e|e|e<;>rw[e]
theorem FP{x:Str}(h:lk c.sc.names x=some .globalImplicit):gy c x=true:=by unfold gy;rw[h]
theorem sE{x:Str}{p:Pos}(aj:fF c x=true)(aq:a2 J x=some (v,false))(q:Q v H):WE (aN G (n+1) c J (.Name x p) H) Q:=by
 show WE (cond (gy c x) _ (Mine.ow (fF c x) (Mine.pt H (t0 J x)))) Q
 rw[ag2 aj]
 exact WE.ow aj (WE.pt (by unfold t0;rw[aq];rfl) q)
theorem bj{f:Expr->T->Option (V×T)}(q:eE [] H):WE (dz f [] H) eE:=⟨_,_,rfl,q⟩
theorem az{f:Expr->T->Option (V×T)}{e:Expr}{r:List Expr}(h:WE (f e H) (afK f eE r)):WE (dz f (e::r) H) eE:=
 WE.ob (h.mono λv O q=>WE.ob (q.mono λvs O q=> .of rfl q))
theorem ag3{f:Str}{fn:Fn}{as:List Expr}{p q:Pos}(aj:lk c.sc.names f=some .globalImplicit)(a6:G.fn f=some fn)(aw:WE (dz (b7 c J (aN G n c J)) as H) (Pc G n J Q fn as)):
  WE (aN G (n+1) c J (.Call (.Name f q) as [] p) H) Q:=by
 refine WE.ow (FP aj) ?_
 rw[a6]
 exact WE.ob (aw.mono λvs H h=>WE.ob (h.mono λ_ O h=>WE.ow h.1 (.of rfl h.2)))
theorem ag4{f:Str}{as:List Expr}{p q:Pos}(aj:lk c.sc.names f=some .globalImplicit)(a6:G.fn f=none)(bx:G.free f=true)(hi:a9 f mm=false)(aw:WE (dz (b7 c J (aN G n c J)) as H) (Pd Q f)):
  WE (aN G (n+1) c J (.Call (.Name f q) as [] p) H) Q:=by
 refine WE.ow (FP aj) ?_
 rw[a6]
 show WE (cond (G.free f) (cond (a9 f mm) _ _) _) Q
 rw[bx,hi]
 exact WE.ob (aw.mono λvs H ⟨v,h,q⟩=>WE.pt h q)
theorem ag5{elt it:Expr}{x:Str}{q p:Pos}{ifs:List Expr}{sc:Scope}(mP:lj x sc c.sc=true)(hi:WE (gA G n c J it H) (Pf G n c J Q x sc ifs elt)):
  WE (aN G (n+1) c J (.ListComp elt [⟨.Name x q,it,ifs,0⟩] sc p) H) Q:=
 by
 show WE (Mine.ow (lj x sc c.sc) (Mine.ob (gA G n c J it H) λl H=>Mine.ob (gR (λv H=>gz (dR G n {c with sc:=sc} ((x,v,false)::J)) .And ifs H) (λv H=>aN G n {c with sc:=sc} ((x,v,false)::J) elt H) l H) λl H=>Mine.ow (jM l) (some (.list l,H)))) Q
 exact WE.ow mP (WE.ob (hi.mono λl H h=>WE.ob (h.mono λl O h=>WE.ow h.1 (.of rfl h.2))))
theorem Pn{e:Expr}(aq:nF e=none)(h:WE (aN G n c J e H) (KI eE)):WE (gA G (n+1) c J e H) eE:=by
 show WE (ru G c (aN G n c J) e H (nF e)) eE
 rw[aq]
 exact WE.ob (h.mono λv O ⟨l,h,q⟩=>WE.pt h q)
theorem ag6{f:Str}{a:List Expr}{p q:Pos}(a6:a9 f h5=false)(h:WE (aN G n c J (.Call (.Name f q) a [] p) H) (KI eE)):WE (gA G (n+1) c J (.Call (.Name f q) a [] p) H) eE:=
 Pn (by show Mine.ow (a9 f h5) (fD a)=none;rw[a6];rfl) h
theorem ht{x:Str}{p:Pos}(h:WE (aN G n c J (.Name x p) H) (KI eE)):WE (gA G (n+1) c J (.Name x p) H) eE:=Pn rfl h
theorem bO{t:Expr}{b o:List Stmt}{p:Pos}{r:List Stmt}(a1:WE (dR G n c J t H) (afM G n c J b0 b o r)):WS (bv G (n+1) c J (.If t b o p::r) H) b0:=WE.obS (a1.mono λ_ _ h=>WS.thn h)
theorem bm(q:b0 .next J H):WS (bv G (n+1) c J [] H) b0:=⟨_,_,_,rfl,q⟩
theorem Po{x:Str}{p q:Pos}{e:Expr}{r:List Stmt}(ag:d6 c x=true)(av:fU x c.bd=false)(cL:WE (aN G n c J e H) λv H=>WS (bv G n c (cb J x v false) r H) b0):WS (bv G (n+1) c J (.Assign [.Name x p] e q::r) H) b0:=by
 show WS (Mine.ow (d6 c x) (Mine.ob (aN G n c J e H) λv H=>Mine.ow (!fU x c.bd||ll e) (bv G n c (cb J x v (fU x c.bd)) r H))) b0
 rw[ag,av]
 exact WE.obS cL
theorem Pp{x:Str}{p q:Pos}{e:Expr}{r:List Stmt}(ag:d6 c x=true)(av:fU x c.bd=true)(aQ:ll e=true)(cL:WE (aN G n c J e H) λv H=>WS (bv G n c (cb J x v true) r H) b0):WS (bv G (n+1) c J (.Assign [.Name x p] e q::r) H) b0:=by
 show WS (Mine.ow (d6 c x) (Mine.ob (aN G n c J e H) λv H=>Mine.ow (!fU x c.bd||ll e) (bv G n c (cb J x v (fU x c.bd)) r H))) b0
 rw[ag,av,aQ]
 exact WE.obS cL
theorem il{t it:Expr}{b r:List Stmt}{p:Pos}(hi:WE (gA G n c J it H) (afO G n c J b0 t b r)):WS (bv G (n+1) c J (.For t it b [] p::r) H) b0:=WE.obS (hi.mono λl H h=>WS.thn h)
theorem b6{l r:Expr}{op:CmpOp}{p:Pos}(h:WE (b7 c J (aN G n c J) l H) (Ph c J (aN G n c J) eD op r)):WE (dR G (n+1) c J (.Compare l [op] [r] p) H) eD:=
 WE.ob (h.mono λa H h=>WE.ob (h.mono λb H ⟨t,h,q⟩=>WE.od h (.of rfl q)))
theorem iX{l r:Expr}{op:CmpOp}{p:Pos}(h:WE (b7 c J (aN G n c J) l H) (Ph c J (aN G n c J) (afQ Q) op r)):WE (aN G (n+1) c J (.Compare l [op] [r] p) H) Q:=
 WE.ob (h.mono λa H h=>WE.ob (h.mono λb H ⟨t,h,q⟩=>WE.od h (.of rfl q)))
theorem kP{x:Expr}{p:Pos}(h:WE (dR G n c J x H) (afR eD)):WE (dR G (n+1) c J (.UnaryOp .Not x p) H) eD:=WE.ob (h.mono λb O q=> .of rfl q)
theorem j9{x:Str}{p:Pos}(h:WE (b7 c J (aN G n c J) (.Name x p) H) (Pj eD)):WE (dR G (n+1) c J (.Name x p) H) eD:=WE.ob (h.mono λv H ⟨b,h,q⟩=>WE.pt h q)
theorem dc{f:Expr->T->Option (Bool×T)}{op:BoolOp}(q:eD (match op with| .And=>true| .Or=>false) H):WE (gz f op [] H) eD:=by rcases op<;>exact⟨_,_,rfl,q⟩
theorem dD{f:Expr->T->Option (Bool×T)}{e:Expr}{r:List Expr}(h:WE (f e H) (afS eD f r)):WE (gz f .And (e::r) H) eD:=
 WE.ob (h.mono λb H h=>by
  rcases b with _|_
  .exact .of rfl h
  .exact h)
theorem fp{f:Expr->T->Option (Bool×T)}{e:Expr}{r:List Expr}(h:WE (f e H) (afT eD f r)):WE (gz f .Or (e::r) H) eD:=
 WE.ob (h.mono λb H h=>by
  rcases b with _|_
  .exact h
  .exact .of rfl h)
theorem fN{op:BoolOp}{vs:List Expr}{p:Pos}(h:WE (gz (dR G n c J) op vs H) eD):WE (dR G (n+1) c J (.BoolOp op vs p) H) eD:=h
theorem oo{turn:V->am->T->Option (Fl×am×T)}(q:b0 .next J H):WS (je turn [] J H) b0:=⟨_,_,_,rfl,q⟩
theorem cJ{turn:V->am->T->Option (Fl×am×T)}{l:List V}(h:WS (turn v J H) (sA (afN turn l) b0)):WS (je turn (v::l) J H) b0:=WS.thn h
theorem Pq{x:Str}{p:Pos}{b:am->Option (Fl×am×T)}(ag:d6 c x=true)(av:fU x c.bd=false)(h:WS (b (cb J x v false)) b0):WS (Mine.od (li c (.Name x p) v J) b) b0:=
 WS.od (by show Mine.ow (d6 c x&& !fU x c.bd) (some (cb J x v false))=_;rw[ag,av];rfl) h
theorem m0{α bR:Type}{x:Option (α×T)}{f:α->T->Option bR}{a:α}{s:T}(h:x=some (a,s)):Mine.ob x f=f a s:=by rw [h];rfl
theorem kQ{test:V->T->Option (Bool×T)}{elt:V->T->Option (V×T)}{p:Nat->Bool}{f g:Nat->V}:∀{l:List Nat},(∀i∈l,WE (test (f i) H) (Is (p i) H))->(∀i∈l,WE (elt (f i) H) (Is (g i) H))->gR test elt (l.map f) H=some ((l.filter p).map g,H)
 |[],_,_=>rfl
 |i::l,aa,ah=>by
  have bg:=kQ (l:=l) (λj bt=>aa j (.tail _ bt)) (λj bt=>ah j (.tail _ bt))
  obtain⟨hg,ag7,a,e1,e2⟩:=aa i (dV ..)
  obtain⟨pF,yt,b,e3,eN⟩:=ah i (dV ..)
  rw[e1,e2] at a
  rw[e3,eN] at b
  refine(m0 a).trans ?_
  rw[qT]
  rcases p i with _|_
  .exact bg
  .exact(m0 b).trans ((m0 bg).trans rfl)
theorem Pr{r:V}{es:List Expr}(h:∀x s,a2 J x=some s->lh r s=true):gx J r es=true:=by
 induction es with
 |nil=>rfl
 |cons e es bg=>
  refine(c6 _ _).mpr ⟨?_,bg⟩
  unfold tY
  rcases q:Mine.od (ek e) (a2 J) with _|s
  .rfl
  .obtain⟨x,_,q⟩:=bD q
   exact h x s q
theorem Ps:∀{J:am}{x:Str}{s:V×Bool},J.all (λp=> !p.2.2)=true->a2 J x=some s->s.2=false
 |[],_,_,_,h=>aI h
 |_::_,_,_,aw,h=>(eA h).elim (λp=>Option.some.inj p.2▸Bool.tg (aK aw).1) λp=>Ps (aK aw).2 p.2
theorem cr{r:V}{es:List Expr}(h:J.all (λp=> !p.2.2)=true):gx J r es=true:=Pr λx s q=>by unfold lh;rw[Ps h q];rfl
theorem Pt{r:V}{es:List Expr}(aa:V.ma r=true)(ah:V.k7 r=true):gx J r es=true:=Pr λx s _=>by
 unfold lh
 rw[aa,ah]
 rcases s.2 with _|_
 .rfl
 .rcases JM s.1 with _|_<;>rfl
theorem FQ{r:V}{x:Str}{p:Pos}{a:V}(h:a2 J x=some (a,false)):tY J r (.Name x p)=true:=by
 show (match a2 J x with|some s=>lh r s|none=>true)=true
 rw[h];rfl
theorem anV{r:V}{x y:Str}{p q:Pos}{a b:V}(aa:a2 J x=some (a,false))(ah:a2 J y=some (b,false)):gx J r [.Name x p,.Name y q]=true:=
 (c6 _ _).mpr ⟨FQ aa,(c6 _ _).mpr ⟨FQ ah,rfl⟩⟩
end
section
variable {G:Gl}{n:Nat}{c:Cx}{J:am}{H O:T}{v u:V}{Q:V->T->Prop}{b0:Fl->am->T->Prop}{eD:Bool->T->Prop}{eE:List V->T->Prop}
theorem WE.og{α:Type}{f:T->Option (α×T)}{H:T}{Q:α->T->Prop}{v:α}(q:Q v H)(h:f H=some (v,H):=by rfl'):WE (f H) Q:=⟨v,H,h,q⟩
theorem WE.ok{α:Type}{x:Option (α×T)}{Q:α->T->Prop}{v:α}{O:T}(q:Q v O)(h:x=some (v,O):=by rfl'):WE x Q:=⟨v,O,h,q⟩
theorem cc{f:Fn}{as:List V}(ao:o8 f.ps as f.dfl=some J)(aJ:WS (bv G n ⟨f.sc,f.bd⟩ J f.bd H) (jw Q))(av:(f.ps.any λp=>fU p f.bd)=false:=by rfl'):WE (bK G (n+1) f as H) Q:=ag1 av ao aJ
theorem vn{f:Expr->T->Option (V×T)}{x:Str}{p:Pos}(q:Q v H)(aj:fF c x=true:=by rfl')(aq:(a2 J x).map (·.1)=some v:=by rfl'):WE (b7 c J f (.Name x p) H) Q:=sB aj aq q
theorem dE{x:Str}{p:Pos}(q:Q v H)(aj:fF c x=true:=by rfl')(aq:a2 J x=some (v,false):=by rfl'):WE (aN G (n+1) c J (.Name x p) H) Q:=sE aj aq q
theorem bo{f:Str}{fn:Fn}{as:List Expr}{p q:Pos}(aw:WE (dz (b7 c J (aN G n c J)) as H) (Pc G n J Q fn as))(aj:lk c.sc.names f=some .globalImplicit:=by rfl')(a6:G.fn f=some fn:=by rfl'):WE (aN G (n+1) c J (.Call (.Name f q) as [] p) H) Q:=ag3 aj a6 aw
theorem ef{f:Str}{as:List Expr}{p q:Pos}(aw:WE (dz (b7 c J (aN G n c J)) as H) (Pd Q f))(aj:lk c.sc.names f=some .globalImplicit:=by rfl')(a6:G.fn f=none:=by rfl')(bx:G.free f=true:=by rfl')(hi:a9 f mm=false:=by rfl'):WE (aN G (n+1) c J (.Call (.Name f q) as [] p) H) Q:=ag4 aj a6 bx hi aw
theorem d8{elt it:Expr}{x:Str}{q p:Pos}{ifs:List Expr}{sc:Scope}(hi:WE (gA G n c J it H) (Pf G n c J Q x sc ifs elt))(mP:lj x sc c.sc=true:=by rfl'):WE (aN G (n+1) c J (.ListComp elt [⟨.Name x q,it,ifs,0⟩] sc p) H) Q:=ag5 mP hi
theorem hS{f:Str}{a:List Expr}{p q:Pos}(h:WE (aN G n c J (.Call (.Name f q) a [] p) H) (KI eE))(a6:a9 f h5=false:=by rfl'):WE (gA G (n+1) c J (.Call (.Name f q) a [] p) H) eE:=ag6 a6 h
theorem cB{x:Str}{p q:Pos}{e:Expr}{r:List Stmt}(cL:WE (aN G n c J e H) λv H=>WS (bv G n c (cb J x v false) r H) b0)(ag:d6 c x=true:=by rfl')(av:fU x c.bd=false:=by rfl'):WS (bv G (n+1) c J (.Assign [.Name x p] e q::r) H) b0:=Po ag av cL
theorem so{x:Str}{p q:Pos}{e:Expr}{r:List Stmt}(cL:WE (aN G n c J e H) λv H=>WS (bv G n c (cb J x v true) r H) b0)(ag:d6 c x=true:=by rfl')(av:fU x c.bd=true:=by rfl')(aQ:ll e=true:=by rfl'):WS (bv G (n+1) c J (.Assign [.Name x p] e q::r) H) b0:=Pp ag av aQ cL
theorem qk{x:Str}{p:Pos}{b:am->Option (Fl×am×T)}(h:WS (b (cb J x v false)) b0)(ag:d6 c x=true:=by rfl')(av:fU x c.bd=false:=by rfl'):WS (od (li c (.Name x p) v J) b) b0:=Pq ag av h
end
def aH:List Nat->V
 |[]=> .int 2
 |[i]=>ax i
 |l=>match f0 l [8,9] with
  |true=> .int 12
  |false=> .ty (.tup [.int 6,.tup (l.map ax)])
def cY (l:List Nat):List (V×V):=l.map λi=>(ax i,.int 1)
theorem bl{α:Type}{l:List α}{p:α->Bool}(h:l.all p=true){x:α}(hx:x∈l):p x=true:=List.all_eq_true.mp h x hx
theorem bJ{α bR:Type}{l:List α}{f g:α->bR}(h:l.map f=l.map g){x:α}(hx:x∈l):f x=g x:=List.map_inj_left.mp h x hx
def FR (a:Option Bool) (b:Bool):Bool:=ci a λt=>t==b
theorem Pu{a:Option Bool}{b:Bool}(h:FR a b=true):a=some b:=by
 obtain⟨t,e,k⟩:=dX h
 rw[e,eq_of_beq k]
theorem bH{k j n:Nat}(h:Nat.ble k j=true):k<=n+j:=aT (fi h) (tw j n)
theorem WE.to{α:Type}{x:Option (α×T)}{a:α}{s:T}(h:WE x (Is a s)):x=some (a,s):=by
 obtain⟨v,O,e,e1,e2⟩:=h
 rw[e,e1,e2]
theorem ag8(D:List V)(c:Nat):(PS.all λa=>PS.all λb=>FR ((ar D c).l9 (ax a) (ax b)) (Nat.beq a b))=true:=by rfl'
noncomputable def ints1:List Int:=[-1,0,1,2,3,4,5,6,7,8,9,10,11,12,13,14,15,16,17,18,19,20,21,22,23,24,25,26,27,28,29,30]
theorem ag9(D:List V)(c:Nat):(PS.all λa=>ints1.all λb=>FR ((ar D c).l9 (ax a) (.int b)) (cN a b))=true:=by rfl'
theorem aga(D:List V)(c:Nat):(PS.all λa=>PS.all λb=>((ar D c).le (ax a) (ax b)).isSome)=true:=by rfl'
theorem agb{D:List V}{c a b:Nat}(aw:a∈PS)(ao:b∈PS):(ar D c).l9 (ax a) (ax b)=some (Nat.beq a b):=Pu (bl (bl (ag8 D c) aw) ao)
theorem agc{D:List V}{c a:Nat}{b:Int}(aw:a∈PS)(ao:b∈ints1):(ar D c).l9 (ax a) (.int b)=some (cN a b):=Pu (bl (bl (ag9 D c) aw) ao)
noncomputable def fe (l:List Nat) (i:Nat):List Nat:=cond (l.any (Nat.beq · i)) l (l++[i])
theorem agd{j i:Nat}{l:List Nat}(e:Nat.beq j i=false):fe (j::l) i=j::fe l i:=by
 unfold fe
 rw[h1,e,tz]
 rcases l.any (Nat.beq · i) with _|_<;>rfl
theorem vp{D:List V}{c i:Nat}(hi:i∈PS):∀{l:List Nat},(∀j∈l,j∈PS)->(ar D c).k5 (ax i) (.int 1) (cY l)=some (cY (fe l i))
 |[],_=>rfl
 |j::l,h=>by
  have bg:=vp (D:=D) (c:=c) hi (l:=l) λk aj=>h k (.tail _ aj)
  show od ((ar D c).l9 (ax j) (ax i)) (λt=>cond t (some ((ax j,.int 1)::cY l)) (od ((ar D c).k5 (ax i) (.int 1) (cY l)) λm=>some ((ax j,.int 1)::m)))=_
  rw[agb (h j (dV ..)) hi,bg]
  rcases e:Nat.beq j i with _|_
  .rw[agd e];rfl
  .unfold fe
   rw[h1,e,z1];rfl
theorem Pw{D:List V}{c:Nat}{x:V}{e:Nat->Bool}:∀{l:List Nat},(∀j∈l,(ar D c).l9 (ax j) x=some (e j))->(od ((ar D c).get x (cY l)) λo=>some o.isSome)=some (l.any e)
 |[],_=>rfl
 |j::l,h=>by
  have bg:=Pw (D:=D) (c:=c) (x:=x) (e:=e) (l:=l) λk aj=>h k (.tail _ aj)
  show (od (od ((ar D c).l9 (ax j) x) λt=>cond t (some (some (.int 1))) ((ar D c).get x (cY l))) λo=>some o.isSome)=_
  rw[h j (dV ..),h1]
  rcases e j with _|_
  .exact bg
  .rfl
theorem addN_mem{l:List Nat}{i j:Nat}:j∈fe l i↔j∈l\/j=i:=by
 unfold fe
 rcases q:l.any (Nat.beq · i) with _|_
 .exact List.mem_append.trans (or_congr qZ zJ)
 .obtain⟨k,aj,e⟩:=List.any_eq_true.mp q
  have e:k=i:=ei e
  rw[e] at aj
  exact⟨.inl,λh=>h.elim id λbq=>bq▸aj⟩
theorem age{l:List Nat}{i:Nat}(h:l.Nodup):(fe l i).Nodup:=by
 unfold fe
 rcases q:l.any (Nat.beq · i) with _|_
 .exact List.nodup_append.mpr ⟨h,List.nodup_cons.mpr ⟨kj,.nil⟩,λa aw b ao e=>nomatch (q.symm.trans (List.any_eq_true.mpr ⟨a,aw,e.trans (dG ao)▸jF a⟩))⟩
 .exact h
theorem Px:∀{l m:List Nat},l.Nodup->(∀i∈l,i∈m)->l.length<=m.length
 |[],_,_,_=>iB _
 |a::l,m,h,aJ=>by
  have aw:=aJ a (dV ..)
  have h:=List.nodup_cons.mp h
  have:=Px (m:=m.erase a) h.2 λi hi=>(List.mem_erase_of_ne (λ(e:i=a)=>h.1 (e▸hi))).mpr (aJ i (.tail _ hi))
  rw[List.length_erase_of_mem aw] at this
  exact aT (gr this) (dW (Nat.sub_add_cancel (List.length_pos_of_mem aw)))
structure Pts (l:List Nat):Prop where
 sub:∀i∈l,i∈PS
 nd:l.Nodup
theorem Pts.len{l:List Nat}(h:Pts l):l.length<=34:=Px h.nd h.sub
theorem Pts.add{l:List Nat}(h:Pts l){i:Nat}(hi:i∈PS):Pts (fe l i):=⟨λj bt=>(addN_mem.mp bt).elim (h.sub j) λe=>e▸hi,age h.nd⟩
theorem agf(n:Nat)(D:List V)(c:Nat):(PS.map λi=>bK G0 (n+20) (aE 61) [.tab,ax i] (ar D c))=PS.map λi=>some (.tup [ax i],ar D c):=by rfl'
theorem io{l:List Nat}(h:Pts l){m:Nat}(av:20<=m)(D:List V)(c:Nat):bK G0 m (aE 61) [.tab,aH l] (ar D c)=some (.tup (l.map ax),ar D c):=by
 obtain⟨n,rfl⟩:=c0 av
 match l,h with
 |[],_=>rfl'
 |[i],h=>exact bJ (agf n D c) (h.sub i (dV ..))
 |i::j::l,h=>
  have e:aH (i::j::l)=match f0 (i::j::l) [8,9] with|true=> .int 12|false=> .ty (.tup [.int 6,.tup ((i::j::l).map ax)]):=rfl
  rw[e]
  cases q:f0 (i::j::l) [8,9] with
  |true=>
   rw[lEq_iff.mp q]
   rfl'
  |false=>
   generalize (i::j::l).map ax=L
   rfl'
noncomputable def lW (l:List (Nat×Nat)) (i:Nat):Nat:=match l with
 |[]=>0
 |(a,b)::r=>cond (Nat.beq a i) b (lW r i)
noncomputable def FS (l:List (Nat×Int)) (i:Nat):Int:=match l with
 |[]=> -1
 |(a,b)::r=>cond (Nat.beq a i) b (FS r i)
def iY:Nat->Int:=FS [(8,-1),(15,9),(20,19),(21,-1),(23,-1),(26,-1)]
def ip:Nat->Int:=FS [(18,6),(19,6),(20,6),(21,6),(22,7),(23,7),(24,7),(25,7),(26,7),(27,6)]
def vq (i:Nat):V:=match Nat.blt i 31 with
 |true=>(base1[i]?).getD .none
 |false=> .tup [.int 7,.tup [.int 30,.int (i - 27:Nat)]]
theorem agg(n:Nat)(D:List V)(c:Nat):(PS.map λi=>bK G0 (n+30) (aE 63) [.tab,ax i] (ar D c))=PS.map λi=>some (.int (iY i),ar D c):=by rfl'
theorem agh(n:Nat)(D:List V)(c:Nat):(PS.map λi=>bK G0 (n+30) (aE 62) [vq i] (ar D c))=PS.map λi=>some (.int (ip i),ar D c):=by rfl'
theorem agi(D:List V)(c:Nat):(PS.map λi=>(ar D c).rowOf (ax i))=PS.map λi=>some (vq i):=by rfl'
theorem agj{i:Nat}(hi:i∈PS){m:Nat}(av:30<=m)(D:List V)(c:Nat):bK G0 m (aE 63) [.tab,ax i] (ar D c)=some (.int (iY i),ar D c):=by
 obtain⟨n,rfl⟩:=c0 av
 exact bJ (agg n D c) hi
theorem agk{i:Nat}(hi:i∈PS){m:Nat}(av:30<=m)(D:List V)(c:Nat):bK G0 m (aE 62) [vq i] (ar D c)=some (.int (ip i),ar D c):=by
 obtain⟨n,rfl⟩:=c0 av
 exact bJ (agh n D c) hi
theorem Py:(PS.all λi=>ints1.any λz=>cN (iY i) z)=true/\(PS.all λi=>ints1.any λz=>cN (ip i) z)=true:=⟨by rfl',by rfl'⟩
theorem Pz{i:Nat}(hi:i∈PS):iY i∈ints1/\ip i∈ints1:=by
 obtain⟨z,bi,e⟩:=List.any_eq_true.mp (bl Py.1 hi)
 obtain⟨y,aY,bq⟩:=List.any_eq_true.mp (bl Py.2 hi)
 rw[iEq_iff.mp e,iEq_iff.mp bq];exact⟨bi,aY⟩
theorem m1{D:List V}{c:Nat}{c3:List Nat}(h:∀i∈c3,i∈PS){z:Int}(bi:z∈ints1):cX (ar D c) .In (.int z) (.dict (cY c3))=some (c3.any λj=>cN j z):=
 Pw λj bt=>agc (h j bt) bi
theorem agl{D:List V}{c:Nat}{c3:List Nat}(h:∀i∈c3,i∈PS){z:Int}(bi:z∈ints1):cX (ar D c) .NotIn (.int z) (.dict (cY c3))=some (!(c3.any λj=>cN j z)):=(congrArg ws (m1 (D:=D) (c:=c) h bi)).trans rfl
theorem agm{G:Gl}{n:Nat}{c:Cx}{J:am}{H:T}{Q:V->T->Prop}{o s:Expr}{a:Str}{p q:Pos}(aX:hA o=true)(aw:a9 a h6=true)(h:WE (aN G n c J o H) (Pm (aN G n c J) Q s)):
  WE (aN G (n+1) c J (.Subscript (.Attribute o a q) s p) H) Q:=
 WE.ow aX (WE.ob (h.mono λb H ⟨e,h⟩=>WE.ow (by rw [e];rfl) (WE.ob (h.mono λi H ⟨r,h,q⟩=>WE.pt (by unfold JR;rw[aw];exact h) q))))
theorem ql{G:Gl}{n:Nat}{c:Cx}{J:am}{H:T}{Q:V->T->Prop}{o s:Expr}{a:Str}{p q:Pos}(h:WE (aN G n c J o H) (Pm (aN G n c J) Q s))(aX:hA o=true:=by rfl')(aw:a9 a h6=true:=by rfl'):WE (aN G (n+1) c J (.Subscript (.Attribute o a q) s p) H) Q:=agm aX aw h
theorem PA{f:Expr->T->Option (V×T)}{c:Cx}{J:am}{H:T}{Q:V->T->Prop}{a b d p}(h:WE (f (.Compare a b d p) H) Q):WE (b7 c J f (.Compare a b d p) H) Q:=h
theorem lX{f:Expr->T->Option (V×T)}{c:Cx}{J:am}{H:T}{Q:V->T->Prop}{a b p}(h:WE (f (.Subscript a b p) H) Q):WE (b7 c J f (.Subscript a b p) H) Q:=h
def kR (c3:List Nat) (i:Nat):Bool:= !(c3.any λj=>cN j (iY i))&& !(c3.any λj=>cN j (ip i))
theorem agn{c3:List Nat}(h:Pts c3){i:Nat}(hi:i∈PS){m:Nat}(av:40<=m)(D:List V)(c:Nat):bK G0 m (aE 65) [.tab,.dict (cY c3),ax i] (ar D c)=some (.bool (kR c3 i),ar D c):=by
 obtain⟨n,rfl⟩:=c0 av
 refine WE.to ?_
 refine cc rfl ?_
 refine bO (b6 (cw (bo (fn:=aE 63) (az (vn (az (vn (bj (.of (agj hi (bH rfl) D c) ⟨cr rfl,?_⟩)))))))))
 refine vn ⟨_,m1 h.sub (Pz hi).1,?_⟩
 rcases e:c3.any λj=>cN j (iY i) with _|_
 rotate_left
 .exact ck (.og (v:=.bool false) ⟨by unfold kR;rw[e];rfl,rfl⟩)
 .refine bm ?_
  refine ck (PA (iX (cw (bo (fn:=aE 62) (az (lX (ql (dE ⟨rfl,dE ⟨vq i,bJ (agi D c) hi,bj (.of (agk hi (bH rfl) D c) ⟨cr rfl,?_⟩)⟩⟩))))))))
  exact vn ⟨_,agl h.sub (Pz hi).2,by unfold kR;rw[e];rfl,rfl⟩
section
variable {G:Gl}{n:Nat}{c:Cx}{J:am}{H O:T}{v u:V}{Q:V->T->Prop}{b0:Fl->am->T->Prop}{eD:Bool->T->Prop}{eE:List V->T->Prop}
theorem PB{x:Str}(aq:a2 J x=some (v,true)):nG J x=some v:=by unfold nG;rw[aq];rfl
theorem ago{x:Str}{l:List (V×V)}(aq:a2 J x=some (.dict l,true)):wz J x=some l:=by unfold wz;rw[aq];rfl
theorem agp{x:Str}{l:List V}(aq:a2 J x=some (.list l,true)):pb J x=some l:=by unfold pb;rw[aq];rfl
theorem agq{f x:Str}{cR p q ca:Pos}{r:List Stmt}{fn:Fn}{y:Str}(aq:a2 J x=some (v,true))(ag:d6 c x=true)(aj:lk c.sc.names f=some .globalImplicit)(a6:G.fn f=some fn)(aS:fn.ps=[y])(av:fU y fn.bd=true)(aw:kv y fn.bd=false)(h:WS (bv G n ⟨fn.sc,fn.bd⟩ [(y,v,true)] fn.bd H) λbw bb O=>bw= .next/\∃f2,a2 bb y=some (f2,true)/\WS (bv G n c (cb J x f2 true) r O) b0):WS (bv G (n+1) c J (.Expr (.Call (.Name f cR) [.Name x p] [] q) ca::r) H) b0:=by
 obtain⟨bw,bb,O,e,e1,f2,bq,h⟩:=h
 show WS (wF c J (aN G n c J) (λJ H=>bv G n c J r H) G (λfn J H=>bv G n ⟨fn.sc,fn.bd⟩ J fn.bd H) f x (.Call (.Name f cR) [.Name x p] [] q) H (nG J x)) b0
 rw[PB aq]
 refine WS.ow (by rw [ag,FP aj];rfl) (WS.od a6 (WS.od (b:=y) (by rw [aS];rfl) (WS.ow (by rw [av,aw];rfl) (WS.amN ⟨bw,bb,O,e,?_⟩))))
 rw[e1]
 exact WS.od (PB bq) h
theorem FT{x:Str}{p q s:Pos}{k e:Expr}{r:List Stmt}{l:List (V×V)}(aq:a2 J x=some (.dict l,true))(ag:d6 c x=true)(h:WE (aN G n c J e H) λv H=>WE (aN G n c J k H) λi H=>(jb i&&v.flat&&cz l)=true/\∃cK,H.k5 i v l=some cK/\WS (bv G n c (cb J x (.dict cK) true) r H) b0):
  WS (bv G (n+1) c J (.Assign [.Subscript (.Name x p) k q] e s::r) H) b0:=
 WE.obS (h.mono λ_ _ h=>WS.od (ago aq) (WS.ow ag (WE.obS (h.mono λ_ _ ⟨aa,_,ah,h⟩=>WS.ow aa (WS.od ah h)))))
theorem iq{a:Expr}{b:List Expr}{k:List Keyword}{p:Pos}(h:WE (aN G n c J (.Call a b k p) H) (Pj eD)):WE (dR G (n+1) c J (.Call a b k p) H) eD:=WE.ob ((cw h).mono λ_ _ ⟨_,h,q⟩=>WE.pt h q)
theorem agr(o a:Expr):rt o [a]=none:=by
 unfold rt
 rcases lg o with _|_<;>rfl
theorem ags{o:Expr}{m:Str}{cj p:Pos}{a:Expr}(aX:(hA o&&cj.endLine==p.line&&Nat.blt [a].length 25)=true)(_hni:(lg o).isSome=false)(av:a9 m h7=true)(h:WE (aN G n c J o H) (afW (aN G n c J) Q a)):
  WE (aN G (n+1) c J (.Call (.Attribute o m cj) [a] [] p) H) Q:=by
 show WE (t3 G (aN G n c J) (bK G n) o m (cj.endLine==p.line) [a] H (rt o [a])) Q
 rw[agr]
 refine WE.ow aX (WE.ob (h.mono λb H ⟨e,h⟩=>?_))
 rw[e]
 exact WE.ow av (WE.ob (az (h.mono λrow H h=>bj (WE.od rfl h))))
theorem yu{α bR:Type}{turn:V->am->T->Option (Fl×am×T)}{f:α->V}{ok:α->Prop}{I:bR->am->T->Prop}{st:bR->α->bR}(a1:∀a,ok a->∀b J H,I b J H->WS (turn (f a) J H) (f6 (I (st b a)))):
  ∀(l:List α),(∀a∈l,ok a)->∀b J H,I b J H->WS (je turn (l.map f) J H) (f6 (I (l.foldl st b)))
 |[],_,b,J,H,h=>oo ⟨rfl,h⟩
 |a::l,ag,b,J,H,h=>by
  obtain⟨bw,bb,O,e,e1,h'⟩:=a1 a (ag a (dV ..)) b J H h
  rw[e1] at e
  exact cJ ⟨_,_,_,e,yu a1 l (λx hx=>ag x (.tail _ hx)) _ bb O h'⟩
end
def dg (l:List Nat) (z:Int):Bool:=l.any λj=>cN j z
def eF (l:List Nat):Int:=cond (dg l 0) 0 (cond (dg l 13) 13 (cond (dg l 1) 1 (-1)))
theorem agt{c3:List Nat}(h:Pts c3){m:Nat}(av:40<=m)(D:List V)(c:Nat):bK G0 m (aE 66) [.dict (cY c3)] (ar D c)=some (.int (eF c3),ar D c):=by
 obtain⟨n,rfl⟩:=c0 av
 refine WE.to ?_
 refine cc rfl ?_
 refine il (.og (v:=[.int 0,.int 13,.int 1]) ?_)
 have h0:=m1 (D:=D) (c:=c) h.sub (z:=0) (by decide)
 have agu:=m1 (D:=D) (c:=c) h.sub (z:=13) (by decide)
 have aa:=m1 (D:=D) (c:=c) h.sub (z:=1) (by decide)
 refine cJ (qk (bO (b6 (vn (vn ⟨_,h0,?_⟩)))))
 cases e7:c3.any λj=>cN j 0 with
 |true=>exact ck (vn (v:=.int 0) ⟨by unfold eF dg;rw[e7];rfl,rfl⟩)
 |false=>
  refine bm (bm ?_)
  refine cJ (qk (bO (b6 (vn (vn ⟨_,agu,?_⟩)))))
  cases e1:c3.any λj=>cN j 13 with
  |true=>exact ck (vn (v:=.int 13) ⟨by unfold eF dg;rw[e7,e1];rfl,rfl⟩)
  |false=>
   refine bm (bm ?_)
   refine cJ (qk (bO (b6 (vn (vn ⟨_,aa,?_⟩)))))
   cases e2:c3.any λj=>cN j 1 with
   |true=>exact ck (vn (v:=.int 1) ⟨by unfold eF dg;rw[e7,e1,e2];rfl,rfl⟩)
   |false=>
    refine bm (bm (oo ?_))
    exact ck (.og (v:=.int (-1)) ⟨by unfold eF dg;rw[e7,e1,e2];rfl,rfl⟩)
def g4 (l:List Nat):List Nat:=cond ((dg l 8||dg l 14)&&(dg l 9||dg l 15)) (fe (fe l 8) 9) l
def go:=an "got"
theorem Pts.amK{l:List Nat}(h:Pts l):Pts (fe (fe l 8) 9):=(h.add (by decide)).add (by decide)
theorem yv{l:List Nat}(h:Pts l):cz (cY l)=true:=by
 have:=h.len
 unfold cz cY
 rw[eQ]
 exact md (by first|exact bH rfl|lia)
theorem agv{c3:List Nat}(h:Pts c3){m:Nat}(av:20<=m)(D:List V)(c:Nat):WS (bv G0 m ⟨(aE 64).sc,(aE 64).bd⟩ [(go,.dict (cY c3),true)] (aE 64).bd (ar D c)) λbw bb O=>bw= .next/\O=ar D c/\a2 bb go=some (.dict (cY (g4 c3)),true):=by
 obtain⟨n,rfl⟩:=c0 av
 have agw:=m1 (D:=D) (c:=c) h.sub (z:=8) (by decide)
 have agx:=m1 (D:=D) (c:=c) h.sub (z:=9) (by decide)
 have agy:=m1 (D:=D) (c:=c) h.sub (z:=14) (by decide)
 have agz:=m1 (D:=D) (c:=c) h.sub (z:=15) (by decide)
 have one:∀{k:Nat}{x:Str}{p q r:Pos}{z:Int}{b:Bool}{Q:Bool->T->Prop},b7 ⟨(aE 64).sc,(aE 64).bd⟩ [(go,V.dict (cY c3),true)] (aN G0 (k+1) ⟨(aE 64).sc,(aE 64).bd⟩ [(go,.dict (cY c3),true)]) (.Name x p) (ar D c)=some (.int z,ar D c)->cX (ar D c) .In (.int z) (.dict (cY c3))=some b->Q b (ar D c)->
   WE (dR G0 (k+2) ⟨(aE 64).sc,(aE 64).bd⟩ [(go,.dict (cY c3),true)] (.Compare (.Name x p) [.In] [.Name go q] r) (ar D c)) Q:=λaa ah aC=>b6 (.of aa (vn ⟨_,ah,aC⟩))
 refine bO (WE.mono (P:=λb O=>b=((dg c3 8||dg c3 14)&&(dg c3 9||dg c3 15))/\O=ar D c) ?_ λb O ⟨ao,EU⟩=>?_)
 .refine fN (dD (fN (fp (one (z:=8) (by rfl') agw ?_))))
  have FU:∀{k:Nat}{x y:Str}{p q hK jg r d7 pp:Pos},b7 ⟨(aE 64).sc,(aE 64).bd⟩ [(go,V.dict (cY c3),true)] (aN G0 (k+1) ⟨(aE 64).sc,(aE 64).bd⟩ [(go,.dict (cY c3),true)]) (.Name x p) (ar D c)=some (.int 9,ar D c)->
    b7 ⟨(aE 64).sc,(aE 64).bd⟩ [(go,V.dict (cY c3),true)] (aN G0 (k+1) ⟨(aE 64).sc,(aE 64).bd⟩ [(go,.dict (cY c3),true)]) (.Name y hK) (ar D c)=some (.int 15,ar D c)->
    WE (gz (dR G0 (k+3) ⟨(aE 64).sc,(aE 64).bd⟩ [(go,.dict (cY c3),true)]) .And [.BoolOp .Or [.Compare (.Name x p) [.In] [.Name go q] r,.Compare (.Name y hK) [.In] [.Name go jg] d7] pp] (ar D c)) λb O=>b=(dg c3 9||dg c3 15)/\O=ar D c:=λaa ah=>by
   refine dD (fN (fp (one aa agx ?_)))
   unfold dg
   cases anW:c3.any λj=>cN j 9 with
   |true=>exact dc ⟨rfl,rfl⟩
   |false=>
    refine fp (one ah agz ?_)
    cases anX:c3.any λj=>cN j 15 with
    |true=>exact dc ⟨rfl,rfl⟩
    |false=>exact dc ⟨rfl,rfl⟩
  unfold dg at FU |-
  cases FV:c3.any λj=>cN j 8 with
  |true=>exact FU (by rfl') (by rfl')
  |false=>
   refine fp (one (z:=14) (by rfl') agy ?_)
   cases anY:c3.any λj=>cN j 14 with
   |true=>exact FU (by rfl') (by rfl')
   |false=>exact dc ⟨rfl,rfl⟩
 subst EU
 cases e:(dg c3 8||dg c3 14)&&(dg c3 9||dg c3 15) with
 |false=>
  rw[ao,e]
  exact bm (bm ⟨rfl,rfl,by rw [g4,e];rfl⟩)
 |true=>
  rw[ao,e]
  refine FT (by rfl') (by rfl') (.og (v:=.int 1) (.og (v:=ax 8) ⟨by rw [yv h];rfl,_,vp (by decide) h.sub,?_⟩))
  have h':=h.add (i:=8) (by decide)
  refine FT (by rfl') (by rfl') (.og (v:=.int 1) (.og (v:=ax 9) ⟨by rw [yv h'];rfl,_,vp (by decide) h'.sub,?_⟩))
  exact bm (bm ⟨rfl,rfl,by rw [g4,e];rfl⟩)
theorem WS.mono{x:Option (Fl×am×T)}{P Q:Fl->am->T->Prop}(h:WS x P)(q:∀f J O,P f J O->Q f J O):WS x Q:=let ⟨f,J,O,e,p⟩:=h;⟨f,J,O,e,q f J O p⟩
structure GotF (J:am) (g:List Nat):Prop where
 tab:a2 J cF=some (.tab,false)
 got:a2 J go=some (.dict (cY g),true)
theorem GotF.set{J:am}{g:List Nat}(h:GotF J g){x:Str}{v:V}{o:Bool}(aa:cF≠x)(ah:go≠x):GotF (cb J x v o) g:=⟨(ih aa).trans h.1,(ih ah).trans h.2⟩
theorem GotF.put{J:am}{g au:List Nat}(h:GotF J g):GotF (cb J go (.dict (cY au)) true) au:=⟨(ih (by decide)).trans h.1,rget_same⟩
theorem agA{J:am}{x:Str}{v:V}{o:Bool}(h:a2 J x=some (v,o)):(a2 J x).map (·.1)=some v:=by rw [h];rfl
inductive PermV (l:List Nat) (x:Option (List V)):Prop
 |mk (cK:List Nat) (p:cK.Perm l) (e:x=some (cK.map ax))
theorem PC{D:List V}{c i:Nat}(hi:i∈PS):∀{l:List Nat},(∀j∈l,j∈PS)->PermV (i::l) ((ar D c).ins (ax i) (l.map ax))
 |[],_=>⟨[i],.refl _,rfl⟩
 |j::l,h=>by
  obtain⟨cK,p,e⟩:=PC (D:=D) (c:=c) hi (l:=l) λk aj=>h k (.tail _ aj)
  obtain⟨b,ao⟩:=Option.isSome_iff_exists.mp (bl (bl (aga D c) hi) (h j (dV ..)))
  show PermV _ (od ((ar D c).le (ax i) (ax j)) λt=>cond t (some (ax i::ax j::l.map ax)) (od ((ar D c).ins (ax i) (l.map ax)) λm=>some (ax j::m)))
  rw[ao,e]
  rcases b with _|_
  .exact⟨j::cK,(p.cons j).trans (.swap i j l),rfl⟩
  .exact⟨i::j::l,.refl _,rfl⟩
theorem PD{D:List V}{c:Nat}:∀{l:List Nat},(∀j∈l,j∈PS)->PermV l ((ar D c).sort (l.map ax))
 |[],_=>⟨[],.refl _,rfl⟩
 |i::l,h=>by
  obtain⟨l₁,fO,iR⟩:=PD (D:=D) (c:=c) (l:=l) λk aj=>h k (.tail _ aj)
  obtain⟨l₂,agB,qb⟩:=PC (D:=D) (c:=c) (h i (dV ..)) (l:=l₁) λk aj=>h k (.tail _ (fO.mem_iff.mp aj))
  show PermV _ (od ((ar D c).sort (l.map ax)) ((ar D c).ins (ax i)))
  rw[iR]
  exact⟨l₂,agB.trans (fO.cons i),qb⟩
theorem PE:(PS.all λi=>mj (ax i)&&V.flat (ax i))=true:=by rfl'
theorem PF{n k:Nat}(h:n<=34)(aj:Nat.ble 34 k=true):Nat.ble n k=true:=md (aT h (fi aj))
theorem agC(H:T)(as:List V):f1 H tS as=od (fD as) (Cg H):=by rfl'
theorem agD(H:T)(as:List V):f1 H dy as=od (fD as) Cf:=by rfl'
theorem FW{l:List Nat}(h:Pts l)(D:List V)(c:Nat):∃cK:List Nat,cK.Perm l/\f1 (ar D c) tS [.dict (cY l)]=some (.list (cK.map ax)):=by
 obtain⟨cK,p,e⟩:=PD (D:=D) (c:=c) h.sub
 refine⟨cK,p,?_⟩
 have aX:Nat.ble (cY l).length 63=true:=by
  unfold cY
  rw[eQ]
  exact PF h.len rfl
 have aw:(cY l).all (λp=>mj p.1)=true:=by
  unfold cY
  rw[i6]
  exact List.all_eq_true.mpr λi hi=>(aK (bl PE (h.sub i hi))).1
 have aj:(cY l).map (·.1)=l.map ax:=by unfold cY;rw[wc];rfl
 rw[agC]
 show ow (Nat.ble (cY l).length 63&&(cY l).all (λp=>mj p.1)) (od ((ar D c).sort ((cY l).map (·.1))) λl=>some (V.list l))=_
 rw[aX,aw,aj,e];rfl
theorem sF{H:T}{l:List V}(h:cz l=true):f1 H dy [.list l]=some (.int l.length):=by
 rw[agD]
 show ow (cz l) _=_
 rw[h];rfl
theorem qn{l:List Nat}(h:Pts l):cz (l.map ax)=true:=by
 unfold cz
 rw[eQ]
 exact PF h.len rfl
theorem FX{l:List Nat}(h:Pts l):(l.map ax).all V.flat=true:=by
 rw[i6]
 exact List.all_eq_true.mpr λi hi=>(aK (bl PE (h.sub i hi))).2
theorem PG{x:V}:∀{a b:List V}{n:Nat},dL x a n=none->dL x (a++b) n=dL x b (n+a.length)
 |[],_,_,_=>rfl
 |y::a,b,n,h=>by
  rw[ts,mo]
  rw[mo] at h
  rcases e:V.same y x with _|_<;>rw[e] at h
  .exact(PG (a:=a) h).trans (by rw [kk,jE,jG 1])
  .exact nomatch h
theorem agE:(PS.all λi=>V.key 31 2 (ax i))=true:=by rfl'
theorem agF{l:List Nat}(h:∀i∈l,i∈PS):(l.map ax).all (V.key 31 2)=true:=by
 rw[i6]
 exact List.all_eq_true.mpr λi hi=>bl agE (h i hi)
theorem PI{z k:Nat}(h:V.same (.int z) (ax k)=true):k=z:=by
 unfold ax at h
 rcases e:Nat.blt k 31 with _|_<;>rw[e] at h
 .exact c2 h
 .exact(Int.ofNat.inj (iEq_iff.mp (show cN (z:Int) (k:Int)=true from h))).symm
theorem agG:∀{l:List Nat},V.l8 [.int 8,.int 9] (l.map ax)=true->l=[8,9]
 |[],h=>c2 h
 |[_],h=>c2 (aK h).2
 |[i,j],h=>by rw [PI (z:=8) (aK h).1,PI (z:=9) (aK (aK h).2).1]
 |_::_::_::_,h=>c2 (aK (aK h).2).2
def agH (L:List V) (D:List V):List V:=Ca (.tup [.int 6,.tup L]) D (dL (.tup [.int 6,.tup L]) D 0)
inductive PutU (D:List V) (c:Nat) (l:List Nat) (x:Option (V×T)):Prop
 |mk (a0:List V) (aP:Nat) (e:x=some (aH l,ar a0 aP)) (h:aP<=c+1)
theorem agI{L:List V}(aj:L.all (V.key 31 2)=true)(aJ:V.l8 [.int 8,.int 9] L=false)(D:List V)(c:Nat):(ar D c).put (.tup [.int 6,.tup L])=some (.ty (.tup [.int 6,.tup L]),ar (agH L D) (c+1)):=by
 have a6:dL (.tup [.int 6,.tup L]) base1 0=none:=by
  have gn:base1=base1.take 12++(.tup [.int 6,.tup [.int 8,.int 9]]::base1.drop 13):=by rfl'
  have aa:dL (.tup [.int 6,.tup L]) (base1.take 12) 0=none:=by rfl'
  have ah:dL (.tup [.int 6,.tup L]) (base1.drop 13) 13=none:=by rfl'
  have aC:V.same (.tup [.int 6,.tup [.int 8,.int 9]]) (.tup [.int 6,.tup L])=false:=by
   show (true&&(V.l8 [.int 8,.int 9] L&&true))=false
   rw[aJ];rfl
  rw[gn,PG aa,mo,aC]
  exact ah
 have agJ:V.key 31 4 (.tup [.int 6,.tup L])=true:=by
  show (true&&(L.all (V.key 31 2)&&true))=true
  rw[aj];rfl
 show ow (true&&V.key 31 4 (.tup [.int 6,.tup L])) ((ar D c).putN (.tup [.int 6,.tup L]) (dL (.tup [.int 6,.tup L]) base1 0))=_
 rw[agJ,a6];rfl
theorem agK{i j:Nat}{r:List Nat}(h:Pts (i::j::r))(D:List V)(c:Nat):PutU D c (i::j::r) ((ar D c).put (.tup [.int 6,.tup ((i::j::r).map ax)])):=by
 have e:aH (i::j::r)=match f0 (i::j::r) [8,9] with|true=> .int 12|false=> .ty (.tup [.int 6,.tup ((i::j::r).map ax)]):=rfl
 rcases q:f0 (i::j::r) [8,9] with _|_<;>rw[q] at e
 .have aJ:V.l8 [.int 8,.int 9] ((i::j::r).map ax)=false:=by
   rcases z:V.l8 [.int 8,.int 9] ((i::j::r).map ax) with _|_
   .rfl
   .exact nomatch q.symm.trans (lEq_iff.mpr (agG z))
  have e:aH (i::j::r)= .ty (.tup [.int 6,.tup ((i::j::r).map ax)]):=e
  exact⟨_,c+1,by rw [e];exact agI (agF h.sub) aJ D c,cq _⟩
 .refine⟨D,c,?_,cG c⟩
  rw[lEq_iff.mp q]
  rfl'
def Has(J L:am):Prop:=∀x s,a2 L x=some s->a2 J x=some s
theorem Has.rfl{J:am}:Has J J:=λ_ _ h=>h
theorem Has.g{J L:am}(h:Has J L){x:Str}{s:V×Bool}(e:a2 L x=some s:=by rfl'):a2 J x=some s:=h x s e
theorem Has.f{J L:am}(h:Has J L){x:Str}{v:V}{o:Bool}(e:a2 L x=some (v,o)):(a2 J x).map (·.1)=some v:=agA (h x _ e)
theorem Has.upd{J L:am}(h:Has J L){x:Str}{v:V}{o:Bool}:Has (cb J x v o) (cb L x v o):=λy s q=>by
 rw[aad] at q |-
 rcases eR (y=x) with z|z
 .rw[if_pos z] at q |-;exact q
 .rw[if_neg z] at q |-;exact h y s q
theorem Has.nil{J:am}:Has J []:=λ_ _ h=>aI h
theorem Has.trans{J L M:am}(h:Has J L)(k:Has L M):Has J M:=λy s q=>h y s (k y s q)
theorem PJ:∀{M:am}{x:Str}{s:V×Bool},a2 M x=some s->(x,s)∈M
 |(y,u)::_,x,s,h=>(eA h).elim (λp=>by rw [<-(sEq_iff.mp p.1:y=x),<-(Option.some.inj p.2:u=s)];exact .head _) λp=> .tail _ (PJ p.2)
theorem Has.sub{J L M:am}(h:Has J L)(e:(M.map λp=>a2 L p.1)=M.map λp=>some p.2:=by rfl'):Has J M:=λx s q=>h x s (bJ e (PJ q))
theorem Has.push{J L:am}(h:Has J L){x:Str}{s:V×Bool}:Has ((x,s)::J) ((x,s)::L):=λy z q=>by
 show cond (a9 x y) (some s) (a2 J y)=some z
 rcases eA q with ⟨a,b⟩|⟨a,b⟩
 .rw[a];exact b
 .rw[a];exact h y z b
def FY (L:am) (e:Expr):Bool:=match ek e with
 |some x=>ci (a2 L x) λs=> !s.2
 |none=>true
def agL (L:am) (es:List Expr):Bool:=es.all (FY L)
theorem agM{J L:am}(h:Has J L){r:V}{e:Expr}(k:FY L e=true):tY J r e=true:=by
 revert k
 unfold tY FY
 rcases ek e with _|x
 .exact λ_=>rfl
 .intro k
  obtain⟨⟨u,o⟩,e1,k⟩:=dX k
  have k:o=false:=Bool.tg k
  rw[k] at e1
  show (match a2 J x with|some s=>lh r s|none=>true)=true
  rw[h x _ e1];rfl
theorem cW{J L:am}(h:Has J L){r:V}:∀{es:List Expr},(e:agL L es=true:=by rfl')->gx J r es=true
 |[],_=>rfl
 |_::_,e=>(c6 _ _).mpr ⟨agM h (aK e).1,cW h (aK e).2⟩
theorem kS{J:am}{r:V}{es:List Expr}{x:Str}{p:Pos}{a:V}(h:a2 J x=some (a,false))(q:gx J r es=true):gx J r (.Name x p::es)=true:=(c6 _ _).mpr ⟨FQ h,q⟩
theorem FZ{J:am}{r:V}{es:List Expr}{x:Str}{p:Pos}{d:List (V×V)}(h:a2 J x=some (.dict d,true))(aq:V.ma r=true)(q:gx J r es=true):gx J r (.Name x p::es)=true:=
 (c6 _ _).mpr ⟨by show (match a2 J x with|some s=>lh r s|none=>true)=true;rw[h];exact aq,q⟩
theorem yw{J:am}{r:V}{es:List Expr}{x:Str}{p:Pos}{d:List V}(h:a2 J x=some (.list d,true))(aq:V.k7 r=true)(q:gx J r es=true):gx J r (.Name x p::es)=true:=
 (c6 _ _).mpr ⟨by show (match a2 J x with|some s=>lh r s|none=>true)=true;rw[h];exact aq,q⟩
theorem yx{J:am}{r:V}:gx J r []=true:=rfl
def eP (i:Nat):Cx:=⟨(aE i).sc,(aE i).bd⟩
noncomputable def sG (l:List Stmt):Expr:=match l with
 | .For t _ _ _ _::_=>t
 |_=>default
noncomputable def lY (l:List Stmt):List Stmt:=match l with
 | .For _ _ b _ _::_=>b
 |_=>[]
noncomputable def qo (l:List Stmt):Expr:=match l with
 | .If t _ _ _::_=>t
 |_=>default
noncomputable def yy (l:List Stmt):List Stmt:=match l with
 | .If _ b _ _::_=>b
 |_=>[]
noncomputable def bE (x:Str) (v:V):Str×V×Bool:=(x,v,false)
section
variable {G:Gl}{n:Nat}{c:Cx}{J L:am}{H O:T}{v u:V}{Q:V->T->Prop}{b0:Fl->am->T->Prop}{eD:Bool->T->Prop}{eE:List V->T->Prop}
theorem aM(h:Has J L){f:Expr->T->Option (V×T)}{x:Str}{p:Pos}(q:Q v H)(aj:fF c x=true:=by rfl')(aq:a2 L x=some (v,false):=by rfl'):WE (b7 c J f (.Name x p) H) Q:=sB aj (h.f aq) q
theorem jx(h:Has J L){f:Expr->T->Option (V×T)}{x:Str}{p:Pos}(q:Q v H)(aj:fF c x=true:=by rfl')(aq:a2 L x=some (v,true):=by rfl'):WE (b7 c J f (.Name x p) H) Q:=sB aj (h.f aq) q
theorem dt(h:Has J L){x:Str}{p:Pos}(q:Q v H)(aj:fF c x=true:=by rfl')(aq:a2 L x=some (v,false):=by rfl'):WE (aN G (n+1) c J (.Name x p) H) Q:=sE aj (h.g aq) q
abbrev PK (G:Gl) (n:Nat) (c:Cx) (L:am) (b0:Fl->am->T->Prop) (x:Str) (o:Bool) (r:List Stmt) (v:V) (H:T):Prop:=∀J,Has J (cb L x v o)->WS (bv G n c J r H) b0
theorem cH(h:Has J L){x:Str}{p q:Pos}{e:Expr}{r:List Stmt}(cL:WE (aN G n c J e H) (PK G n c L b0 x false r))(ag:d6 c x=true:=by rfl')(av:fU x c.bd=false:=by rfl'):WS (bv G (n+1) c J (.Assign [.Name x p] e q::r) H) b0:=Po ag av (cL.mono λ_ _ k=>k _ h.upd)
theorem yz(h:Has J L){x:Str}{p q:Pos}{e:Expr}{r:List Stmt}(cL:WE (aN G n c J e H) (PK G n c L b0 x true r))(ag:d6 c x=true:=by rfl')(av:fU x c.bd=true:=by rfl')(aQ:ll e=true:=by rfl'):WS (bv G (n+1) c J (.Assign [.Name x p] e q::r) H) b0:=Pp ag av aQ (cL.mono λ_ _ k=>k _ h.upd)
theorem ka(h:Has J L){x:Str}{p:Pos}{b:am->Option (Fl×am×T)}(k:∀J,Has J (cb L x v false)->WS (b J) b0)(ag:d6 c x=true:=by rfl')(av:fU x c.bd=false:=by rfl'):WS (od (li c (.Name x p) v J) b) b0:=Pq ag av (k _ h.upd)
abbrev agN (G:Gl) (n:Nat) (c:Cx) (L:am) (b0:Fl->am->T->Prop) (x:Str) (l:List (V×V)) (r:List Stmt) (v i:V) (H:T):Prop:=(jb i&&v.flat&&cz l)=true/\∃cK,H.k5 i v l=some cK/\∀J,Has J (cb L x (.dict cK) true)->WS (bv G n c J r H) b0
abbrev agO (G:Gl) (n:Nat) (c:Cx) (J L:am) (b0:Fl->am->T->Prop) (x:Str) (l:List (V×V)) (k:Expr) (r:List Stmt) (v:V) (H:T):Prop:=WE (aN G n c J k H) (agN G n c L b0 x l r v)
theorem PL(h:Has J L){x:Str}{p q s:Pos}{k e:Expr}{r:List Stmt}{l:List (V×V)}(cL:WE (aN G n c J e H) (agO G n c J L b0 x l k r))(aq:a2 L x=some (.dict l,true):=by rfl')(ag:d6 c x=true:=by rfl'):
  WS (bv G (n+1) c J (.Assign [.Subscript (.Name x p) k q] e s::r) H) b0:=FT (h.g aq) ag (cL.mono λ_ _ k=>k.mono λ_ _ ⟨a,cK,b,k⟩=>⟨a,cK,b,k _ h.upd⟩)
end
inductive UQ (b:Nat) (R:List Nat->Prop) (v:V) (O:T):Prop
 |mk (r:List Nat) (D:List V) (c:Nat) (e:v=aH r) (s:O=ar D c) (h:c<=b) (q:R r)
theorem UQ.le{b hC:Nat}{R:List Nat->Prop}{v:V}{O:T}(h:UQ b R v O)(k:b<=hC):UQ hC R v O:=by
 obtain⟨r,D,c,e1,e2,h,q⟩:=h
 exact⟨r,D,c,e1,e2,aT h k,q⟩
theorem UQ.to{b:Nat}{R:List Nat->Prop}{x:Option (V×T)}(h:WE x (UQ b R)):∃r D c,x=some (aH r,ar D c)/\c<=b/\R r:=by
 obtain⟨v,O,e,r,D,c,e1,e2,h,q⟩:=h
 exact⟨r,D,c,by rw [e,e1,e2],h,q⟩
def eb (ls:List (List Nat)):List Nat:=ls.foldl (λg l=>l.foldl fe g) []
def m2 (g:List Nat):List Nat:=(g4 g).filter (kR (g4 g))
def eG (g l:List Nat):Prop:=(eF g= -1/\l.Perm (m2 g))\/(eF g≠ -1/\l=[(eF g).toNat])
theorem Pts.jn{l:List Nat}(h:Pts l):Pts (g4 l):=by
 exact Mi (P:=Pts) h.amK h _
theorem Pts.filter{l:List Nat}(h:Pts l)(p:Nat->Bool):Pts (l.filter p):=⟨λi hi=>h.sub i (List.mem_filter.mp hi).1,h.nd.filter p⟩
theorem Pts.perm{l m:List Nat}(h:Pts l)(p:m.Perm l):Pts m:=⟨λi hi=>h.sub i (p.mem_iff.mp hi),p.nodup_iff.mpr h.nd⟩
theorem Pts.adds:∀{m l:List Nat},Pts l->(∀i∈m,i∈PS)->Pts (m.foldl fe l)
 |[],_,h,_=>h
 |i::m,_,h,av=>Pts.adds (m:=m) (h.add (av i (dV ..))) λj bt=>av j (.tail _ bt)
theorem Pts.nil:Pts []:=⟨λ_ h=>(nomatch h),wa⟩
theorem yA:∀{ls:List (List Nat)},(∀l∈ls,Pts l)->Pts (eb ls):=by
 have:∀(ls:List (List Nat)) g,Pts g->(∀l∈ls,Pts l)->Pts (ls.foldl (λg l=>l.foldl fe g) g):=λls=>by
  induction ls with
  |nil=>intro g h _;exact h
  |cons l ls bg=>exact λg h ag=>bg _ (h.adds (ag l (dV ..)).sub) λk aj=>ag k (.tail _ aj)
 exact λ{ls} h=>this ls [] .nil h
theorem PM{g:List Nat}(h:Pts g):dg g 13=false:=by
 rcases e:dg g 13 with _|_
 .rfl
 .obtain⟨j,bt,e⟩:=List.any_eq_true.mp e
  have:j=13:=Int.ofNat.inj (iEq_iff.mp e)
  rw[this] at bt
  exact absurd (h.sub _ bt) (by decide)
theorem agP{g:List Nat}(h:Pts g)(a1:eF g≠ -1):Pts [(eF g).toNat]/\aH [(eF g).toNat]= .int (eF g):=by
 revert a1
 unfold eF
 rw[PM h]
 rcases dg g 0 with _|_
 .rcases dg g 1 with _|_
  .exact λa1=>absurd rfl a1
  .exact λ_=>⟨⟨by decide,by decide⟩,rfl⟩
 .exact λ_=>(⟨⟨by decide,by decide⟩,rfl⟩:Pts [0]/\aH [0]= .int 0)
theorem agQ{g:List Nat}(a1:eF g≠ -1):h4 0 (eF g)=true:=by
 revert a1
 unfold eF
 rcases dg g 0 with _|_
 .rcases dg g 13 with _|_
  .rcases dg g 1 with _|_
   .exact λa1=>absurd rfl a1
   .exact λ_=>rfl
  .exact λ_=>rfl
 .exact λ_=>rfl
theorem yB{G:Gl}{n:Nat}{c:Cx}{J:am}{H:T}{Q:V->T->Prop}{x:Str}{p q r:Pos}{k:Const}{j:Nat}(h:WE (b7 c J (aN G n c J) (.Name x p) H) (Pl (aN G n c J) Q (.Constant k j q))):WE (aN G (n+1) c J (.Subscript (.Name x p) (.Constant k j q) r) H) Q:=
 WE.ob (h.mono λ_ _ h=>WE.ob (h.mono λ_ _ ⟨_,h,q⟩=>WE.pt h q))
theorem F2{G:Gl}{n:Nat}{c:Cx}{J:am}{H:T}{Q:V->T->Prop}{es:List Expr}{k:Nat}{p:Pos}(h:WE (dz (aN G n c J) es H) (afX Q)):WE (aN G (n+1) c J (.Tuple es k p) H) Q:=
 WE.ob (h.mono λ_ _ ⟨h,q⟩=>WE.ow h (.of rfl q))
theorem agR(H:T)(as:List V):f1 H tT as=od (fD as) Ch:=by rfl'
theorem agS{H:T}{l:List V}(h:cz l=true):f1 H tT [.list l]=some (.tup l):=by
 rw[agR]
 show ow (cz l) _=_
 rw[h];rfl
theorem agT{H:T}{i k:Nat}{r:List Nat}:cX H .Eq (.int (((i::k::r).map ax).length:Nat)) (.int 1)=some false:=by
 show some (cN _ _)=_
 rw[Option.some.injEq]
 exact Bool.eq_false_iff.mpr λe=>Nat.succ_ne_zero (r.map ax).length (Nat.succ.inj (Int.ofNat.inj (iEq_iff.mp e)))
theorem PN{H:T}{l:List Nat}(P:Pts l){k:Nat}(aj:34<=k):cX H .Gt (.int ((l.map ax).length:Nat)) (.int k)=some false:=by
 show some (e0 _ _)=_
 rw[Option.some.injEq,<-v5,iLt_iff,eQ]
 have:=P.len
 lia
def anZ:=an "part"
def PO (g:List Nat):am:=[bE cF .tab,(go,.dict (cY g),true)]
def PP(D:List V)(c:Nat)(g:List Nat)(J:am)(O:T):Prop:=Has J (PO g)/\Pts g/\O=ar D c
theorem PQ{i:Nat}{g:List Nat}(fP:Pts g):(jb (ax i)&&V.flat (.int 1)&&cz (cY g))=true:=by
 rw[yv fP]
 unfold ax
 rcases Nat.blt i 31 with _|_<;>rfl
def agU (g K:List Nat):am:=[bE cF .tab,bE "kept" (.list (K.map ax)),(go,.dict (cY g),true)]
theorem agV{uj:List Nat}{n:Nat}{D:List V}{c:Nat}{K j:List Nat}(P:Pts K)(a7:eG uj K){J:am}(F:Has J (agU j K)):WS (bv G0 (n+70) (eP 67) J ((aE 67).bd.drop 6) (ar D c)) (jw (UQ (c+1) λl=>Pts l/\eG uj l)):=by
 have iU:=qn P
 have agW:(V.list (K.map ax)).truth=some (!(K.map ax).isEmpty):=by show ow (cz _) _=_;rw[iU];rfl
 refine bO (kP (j9 (aM F (v:=.list (K.map ax)) ⟨_,agW,?_⟩)))
 match K,P,a7,F,iU with
 |[],P,a7,_,_=>exact ck (.og (v:=.int 2) ⟨[],D,c,rfl,rfl,cG c,P,a7⟩)
 |[i],P,a7,F,iU=>
  refine bm (bO (b6 (cw (ef (az (aM F (bj ⟨_,sF iU,.og (v:=.int 1) ⟨true,rfl,?_⟩⟩)))))))
  exact ck (lX (yB (aM F (v:=.list ([i].map ax)) (.og (v:=.int 0) ⟨ax i,rfl,[i],D,c,rfl,rfl,cG c,P,a7⟩))))
 |i::k::r,P,a7,F,iU=>
  refine bm (bO (b6 (cw (ef (az (aM F (bj ⟨_,sF iU,.og (v:=.int 1) ⟨false,agT,?_⟩⟩)))))))
  refine bm (bO (b6 (cw (ef (az (aM F (bj ⟨_,sF iU,.og (v:=.int 400) ⟨false,PN P (by decide),?_⟩⟩)))))))
  obtain⟨a0,aP,aS,ap⟩:=agK P D c
  refine bm (ck (cw (ags (by rfl') (by rfl') (by rfl') (dt F ⟨rfl,F2 (az (.og (v:=.int 6) (az (ef (az (aM F (bj ⟨_,agS iU,bj ⟨rfl,?_⟩⟩)))))))⟩))))
  exact .of aS ⟨_,a0,aP,rfl,rfl,ap,P,a7⟩
theorem m3{ls:List (List Nat)}(ag:∀l∈ls,Pts l){X:V}(yC:hd X=some (ls.map aH)){m:Nat}(av:80<=m)(D:List V)(c:Nat):
  ∃l a0 aP,bK G0 m (aE 67) [.tab,X] (ar D c)=some (aH l,ar a0 aP)/\aP<=c+1/\Pts l/\eG (eb ls) l:=by
 obtain⟨n,rfl⟩:=c0 av
 refine UQ.to ?_
 refine cc rfl ?_
 refine so (.og (v:=.dict []) ?_)
 refine il (ht (dE ⟨_,yC,?_⟩))
 refine(yu (I:=PP D c) (ok:=Pts) (st:=λg l=>l.foldl fe g) ?_ ls ag [] _ _ ⟨Has.sub .rfl,.nil,rfl⟩).mono ?_
 .intro l PR g J O ⟨F,fP,e⟩
  subst e
  refine ka F λJ F1=>?_
  refine il (hS (bo (fn:=aE 61) (az (aM F1 (v:=.tab) (az (aM F1 (v:=aH l) (bj (.of (io PR (bH rfl) D c) ⟨cW F1,_,rfl,?_⟩))))))))
  refine(yu (I:=PP D c) (ok:=λi=>i∈PS) (st:=fe) ?_ l PR.sub g _ _ ⟨F1.sub,fP,rfl⟩).mono ?_
  .intro i hi g J O ⟨F,fP,e⟩
   subst e
   exact ka F λJ F1=>PL F1 (.og (v:=.int 1) (dt F1 ⟨PQ fP,_,vp hi fP.sub,λJ j4=>bm ⟨rfl,j4.sub,fP.add hi,rfl⟩⟩))
  .rintro f J O ⟨rfl,F⟩
   exact bm ⟨rfl,F⟩
 rintro f J O ⟨rfl,F,fP,rfl⟩
 change Has J (PO (eb ls)) at F
 change Pts (eb ls) at fP
 generalize eb ls=g at F fP |-
 refine cH F (bo (fn:=aE 66) (az (jx F (bj (.of (agt fP (bH rfl) D c) ⟨Pt rfl rfl,λJ F=>?_⟩)))))
 refine bO (b6 (aM F (v:=.int (eF g)) (.og (v:=.int 0) ⟨_,rfl,?_⟩)))
 rcases eR (eF g= -1) with a1|a1
 rotate_left
 .have PT:=agP fP a1
  rw[agQ a1]
  exact ck (aM F ⟨[(eF g).toNat],D,c,PT.2.symm,rfl,cG c,PT.1,.inr ⟨a1,rfl⟩⟩)
 rw[show h4 0 (eF g)=false by rw [a1];rfl]
 refine bm (agq F.g (by rfl') (by rfl') (fn:=aE 64) (y:=go) (by rfl') (by rfl') (by rfl') (by rfl') ((agv fP (bH rfl) D c).mono ?_))
 rintro bw bb O ⟨rfl,rfl,bx⟩
 refine⟨rfl,_,bx,?_⟩
 have j4:Has (cb J "got" (.dict (cY (g4 g))) true) [bE cF .tab,(go,.dict (cY (g4 g)),true)]:=F.upd.sub
 generalize cb J "got" (.dict (cY (g4 g))) true=lV at j4 |-
 obtain⟨agX,PU,agY⟩:=FW fP.jn D c
 have yD:=fP.jn.perm PU
 have a7:eG g (agX.filter (kR (g4 g))):=.inl ⟨a1,PU.filter _⟩
 refine cH j4 (d8 (hS (ef (az (jx j4 (bj ⟨_,agY,_,rfl,.of (kQ (p:=kR (g4 g)) (g:=ax) (λi hi=>?_) λi hi=>?_) ⟨?_,λJ F=>agV (j:=g4 g) (yD.filter _) a7 F.sub⟩⟩))))))
 .refine dD (iq (bo (fn:=aE 65) (az (aM j4.push (v:=.tab) (az (jx j4.push (v:=.dict (cY (g4 g))) (az (aM j4.push (v:=ax i) (bj (.of (agn fP.jn (yD.sub i hi) (bH rfl) D c) ⟨Pt rfl rfl,_,rfl,?_⟩))))))))))
  rcases kR (g4 g) i with _|_
  .exact⟨rfl,rfl⟩
  .exact dc ⟨rfl,rfl⟩
 .exact dE ⟨rfl,rfl⟩
 .rw[FX (yD.filter _),qn (yD.filter _)];rfl
abbrev sH:=List V×List V×List Int×Bool×Option (List V)×Nat
def F3 (O:T):sH:=(O.base,O.decls,O.bounds,O.bld,O.I,O.cnt)
def F4 (c:Nat):sH:=(base1,FK,[-1],false,none,c)
theorem PV{O:T}{c:Nat}(e:F3 O=F4 c):∃D,O=ar D c:=by
 have g:=λ{α:Type} (k:sH->α)=>congrArg k e
 obtain⟨b,d,LJ,de,ci,kK,I⟩:=O
 refine⟨d,?_⟩
 rw[show b=base1 from g (·.1),show de=FK from g (·.2.1),show ci=[-1] from g (·.2.2.1),show LJ=false from g (·.2.2.2.1),show I=none from g (·.2.2.2.2.1),show kK=c from g (·.2.2.2.2.2)];rfl
def kT {α:Type} (p:α×T):α×sH:=(p.1,F3 p.2)
def kU {α:Type} (v:α) (c:Nat):Option (α×sH):=some (v,F4 c)
theorem lZ{α:Type}{x:Option (α×T)}{v:α}{c:Nat}(h:x.map kT=kU v c):∃D,x=some (v,ar D c):=by
 obtain⟨⟨u,O⟩,e1,e⟩:=nk h
 obtain⟨D,e2⟩:=PV (congrArg (·.2) e)
 exact⟨D,by rw [e1,show O=_ from e2,show u=v from congrArg (·.1) e]⟩
def l0 (l:List (Nat×Nat)) (i:Nat):List Nat:=match lW l i with
 |2=>[]
 |0=>[i]
 |k=>[k]
noncomputable def yE:List (Nat×Nat):=[(1,11),(3,2),(4,2),(5,2),(30,38),(31,2),(32,2)]
noncomputable def yF:List (Nat×Nat):=[(1,11),(3,2),(4,2),(5,2),(8,2),(18,2),(22,2),(25,2),(30,38),(31,2),(32,2)]
noncomputable def yG:List (Nat×Nat):=[(6,18),(9,2),(10,2),(15,2),(16,2),(19,2),(20,2),(21,2),(23,2),(24,2),(26,2),(27,2),(28,2),(29,2),(37,2)]
noncomputable def q2 (i:Nat):Nat:=cond (Nat.beq i 30) 1 0
theorem agZ(n:Nat)(D:List V)(c:Nat):(PS.map λi=>(bK G0 (n+100) (aE 100) [.tab,ax i] (ar D c)).map kT)=PS.map λi=>kU (aH (l0 yE i)) (c+q2 i):=by rfl'
theorem ah0(n:Nat)(D:List V)(c:Nat):(PS.map λi=>(bK G0 (n+100) (aE 103) [.tab,ax i] (ar D c)).map kT)=PS.map λi=>kU (aH (l0 yF i)) (c+q2 i):=by rfl'
theorem ah1(n:Nat)(D:List V)(c:Nat):(PS.map λi=>(bK G0 (n+100) (aE 108) [.tab,ax i] (ar D c)).map kT)=PS.map λi=>kU (aH (l0 yG i)) (c+0):=by rfl'
theorem F5{j:Nat}{k:Nat->Nat}{F:Nat->List Nat}(a1:∀n D c,(PS.map λi=>(bK G0 (n+100) (aE j) [.tab,ax i] (ar D c)).map kT)=PS.map λi=>kU (aH (F i)) (c+k i))(aj:∀i,k i<=1){i:Nat}(hi:i∈PS){m:Nat}(av:100<=m)(D:List V)(c:Nat):
  ∃a0 aP,bK G0 m (aE j) [.tab,ax i] (ar D c)=some (aH (F i),ar a0 aP)/\aP<=c+1:=by
 obtain⟨n,rfl⟩:=c0 av
 obtain⟨a0,e⟩:=lZ (bJ (a1 n D c) hi)
 exact⟨a0,_,e,dh (aj i) c⟩
theorem PW(i:Nat):q2 i<=1:=by unfold q2;cases Nat.beq i 30<;>decide
def ff (j:Nat):Nat->List Nat:=match j with
 |101=>l0 yE
 |104=>l0 yF
 |_=>l0 yG
theorem ah2{j:Nat}(bt:j=101\/j=104\/j=109){i:Nat}(hi:i∈PS){m:Nat}(av:100<=m)(D:List V)(c:Nat):∃a0 aP,bK G0 m (aE (j - 1)) [.tab,ax i] (ar D c)=some (aH (ff j i),ar a0 aP)/\aP<=c+1:=by
 rcases bt with rfl|rfl|rfl
 .exact F5 agZ PW hi av D c
 .exact F5 ah0 PW hi av D c
 .exact F5 (k:=λ_=>0) ah1 (λ_=>iB _) hi av D c
theorem PX{test:V->T->Option (Bool×T)}{elt:V->T->Option (V×T)}{f:Nat->V}{R:Nat->List Nat->Prop}{k:Nat}:∀{l:List Nat},(∀i∈l,∀D c,WE (test (f i) (ar D c)) (Is true (ar D c)))->
  (∀i∈l,∀D c,WE (elt (f i) (ar D c)) (UQ (c+k) (R i)))->∀D c,∃a3 a0 aP,gR test elt (l.map f) (ar D c)=some (a3.map aH,ar a0 aP)/\aP<=c+k*l.length/\Paired R l a3
 |[],_,_,D,c=>⟨[],D,c,rfl,eZ ..,.nil⟩
 |i::l,aa,ah,D,c=>by
  obtain⟨_,_,a,e1,e2⟩:=aa i (dV ..) D c
  obtain⟨_,_,b,r,fq,eW,e3,eN,l₁,aq⟩:=ah i (dV ..) D c
  obtain⟨a3,eO,eH,e,l₂,p⟩:=PX (l:=l) (λj bt=>aa j (.tail _ bt)) (λj bt=>ah j (.tail _ bt)) fq eW
  rw[e1,e2] at a
  rw[e3,eN] at b
  refine⟨r::a3,eO,eH,(m0 a).trans ((m0 b).trans ((m0 e).trans rfl)),aT l₂ (aT (jC l₁ _) (dW ?_)),.cons aq p⟩
  rw[kk,zZ,jE,jG k]
theorem sJ{test:V->T->Option (Bool×T)}{elt:V->T->Option (V×T)}{f:Nat->V}{R:Nat->List Nat->Prop}{k:Nat}{l:List Nat}(aa:∀i∈l,∀D c,WE (test (f i) (ar D c)) (Is true (ar D c)))(ah:∀i∈l,∀D c,WE (elt (f i) (ar D c)) (UQ (c+k) (R i)))(D:List V)(c:Nat){Q:List V->T->Prop}(q:∀a3 a0 aP,aP<=c+k*l.length->Paired R l a3->Q (a3.map aH) (ar a0 aP)):WE (gR test elt (l.map f) (ar D c)) Q:=by
 obtain⟨a3,a0,aP,e,h,p⟩:=PX aa ah D c
 exact .of e (q a3 a0 aP h p)
theorem Paired.fn{l:List Nat}{F:Nat->List Nat}{a3:List (List Nat)}(h:Paired (λi r=>r=F i) l a3):a3=l.map F:=by
 induction h with
 |nil=>rfl
 |cons h _ bg=>rw[h,bg];rfl
theorem vr(l:List Nat):V.flat (aH l)=true:=by
 have aS:∀i,V.flat (ax i)=true:=λi=>by unfold ax;split<;>rfl
 match l with
 |[]=>rfl
 |[i]=>exact aS i
 |i::j::r=>
  show V.flat (match f0 (i::j::r) [8,9] with|true=>_|false=>_)=true
  split<;>rfl
theorem yH(ls:List (List Nat)):(ls.map aH).all V.flat=true:=by
 rw[i6]
 exact List.all_eq_true.mpr λl _=>vr l
theorem Paired.len{α bR:Type}{R:α->bR->Prop}{l:List α}{m:List bR}(h:Paired R l m):l.length=m.length:=by
 induction h with
 |nil=>rfl
 |cons _ _ bg=>exact congrArg Nat.succ bg
theorem Paired.all{α bR:Type}{R:α->bR->Prop}{l:List α}{m:List bR}(h:Paired R l m):∀b∈m,∃a∈l,R a b:=by
 induction h with
 |nil=>exact λ_ ao=>nomatch ao
 |cons h _ bg=>
  intro b ao
  rcases List.mem_cons.mp ao with e|ao
  .exact⟨_,dV ..,e▸h⟩
  .obtain⟨a,aw,r⟩:=bg b ao;exact⟨a,.tail _ aw,r⟩
theorem ah3:(PS.all λi=>[yE,yF,yG].all λt=>(l0 t i).all λk=>PS.any (Nat.beq k))=true:=by rfl'
theorem ah4(t:List (Nat×Nat))(i:Nat):(l0 t i).Nodup:=by
 unfold l0
 split
 .exact .nil
 .exact List.nodup_cons.mpr ⟨kj,.nil⟩
 .exact List.nodup_cons.mpr ⟨kj,.nil⟩
theorem F6{t:List (Nat×Nat)}(a1:t∈[yE,yF,yG]){i:Nat}(hi:i∈PS):Pts (l0 t i):=by
 refine⟨λk aj=>?_,ah4 t i⟩
 obtain⟨z,bi,e⟩:=List.any_eq_true.mp (bl (bl (bl ah3 hi) a1) aj)
 rw[ei e];exact bi
theorem sK{j i:Nat}(hi:i∈PS):Pts (ff j i):=by
 unfold ff
 split
 .exact F6 (.head _) hi
 .exact F6 (.tail _ (.head _)) hi
 .exact F6 (.tail _ (.tail _ (.head _))) hi
def PY(j:Nat)(l u:List Nat):Prop:=Pts u/\eG (eb (l.map (ff j))) u
inductive MapEnd (j:Nat) (l:List Nat) (n b:Nat) (a3:List (List Nat)) (D:List V) (c:Nat):Prop
 |mk (ok:((a3.map aH).all V.flat&&cz (a3.map aH))=true) (u:List Nat) (a0:List V) (aP:Nat) (e:bK G0 (n+137) (aE 67) [.tab,.list (a3.map aH)] (ar D c)=some (aH u,ar a0 aP)) (h:aP<=b) (p:PY j l u)
theorem F7{j:Nat}{l:List Nat}(ag:Pts l){n c:Nat}{a3:List (List Nat)}{fq:List V}{eW:Nat}(aB:eW<=c+1*l.length)(fO:Paired (λi r=>r=ff j i) l a3):MapEnd j l n (c+40) a3 fq eW:=by
 have oq:=aT (dW (Paired.len fO).symm) ag.len
 have aq:∀r∈a3,Pts r:=λr aq=>by
  obtain⟨i,hi,e⟩:=Paired.all fO r aq
  exact e▸sK (ag.sub i hi)
 obtain⟨u,a0,aP,e,a8,l1,a7⟩:=m3 aq (X:=.list (a3.map aH)) rfl (m:=n+137) (bH rfl) fq eW
 rw[Nat.one_mul] at aB
 exact⟨by rw [yH];exact md (by rw [eQ];exact aT oq (by decide)),u,a0,aP,e,aT a8 (aT (gr (aT aB (dh ag.len c))) (dh (by decide:34+1<=40) c)),l1,Paired.fn fO▸a7⟩
theorem yI{j:Nat}(bt:j=101\/j=104\/j=109){l:List Nat}(ag:Pts l){m:Nat}(av:140<=m)(D:List V)(c:Nat):
  ∃u a0 aP,bK G0 m (aE j) [.tab,aH l] (ar D c)=some (aH u,ar a0 aP)/\aP<=c+40/\PY j l u:=by
 obtain⟨n,rfl⟩:=c0 av
 refine UQ.to ?_
 have m4:=λ(i:Nat) (hi:i∈l) (D:List V) (c:Nat)=>ah2 bt (ag.sub i hi) (m:=n+135) (bH rfl) D c
 have ec:=io ag (m:=n+134) (bH rfl) D c
 rcases bt with rfl|rfl|rfl
 .refine cc rfl (ck (cw (bo (fn:=aE 67) (az (vn (v:=.tab) (az (j8 (d8 (hS (bo (fn:=aE 61) (az (vn (v:=.tab) (az (vn (v:=aH l) (bj (.of ec ⟨cr rfl,_,rfl,?_⟩))))))))))))))))
  refine sJ (R:=λi r=>r=ff 101 i) (k:=1) (λi hi D c=>dc ⟨rfl,rfl⟩) (λi hi D c=>?_) D c λa3 fq eW aB fO=>?_
  .obtain⟨a0,aP,e,h⟩:=m4 i hi D c
   exact bo (fn:=aE 100) (az (vn (v:=.tab) (az (vn (v:=ax i) (bj (.of e ⟨cr rfl,_,a0,aP,rfl,rfl,h,rfl⟩))))))
  .obtain⟨ok,u,a0,aP,e,h,p⟩:=F7 (n:=n) ag aB fO
   exact⟨ok,bj (.of e ⟨cr rfl,u,a0,aP,rfl,rfl,h,p⟩)⟩
 .refine cc rfl (ck (cw (bo (fn:=aE 67) (az (vn (v:=.tab) (az (j8 (d8 (hS (bo (fn:=aE 61) (az (vn (v:=.tab) (az (vn (v:=aH l) (bj (.of ec ⟨cr rfl,_,rfl,?_⟩))))))))))))))))
  refine sJ (R:=λi r=>r=ff 104 i) (k:=1) (λi hi D c=>dc ⟨rfl,rfl⟩) (λi hi D c=>?_) D c λa3 fq eW aB fO=>?_
  .obtain⟨a0,aP,e,h⟩:=m4 i hi D c
   exact bo (fn:=aE 103) (az (vn (v:=.tab) (az (vn (v:=ax i) (bj (.of e ⟨cr rfl,_,a0,aP,rfl,rfl,h,rfl⟩))))))
  .obtain⟨ok,u,a0,aP,e,h,p⟩:=F7 (n:=n) ag aB fO
   exact⟨ok,bj (.of e ⟨cr rfl,u,a0,aP,rfl,rfl,h,p⟩)⟩
 .refine cc rfl (ck (cw (bo (fn:=aE 67) (az (vn (v:=.tab) (az (j8 (d8 (hS (bo (fn:=aE 61) (az (vn (v:=.tab) (az (vn (v:=aH l) (bj (.of ec ⟨cr rfl,_,rfl,?_⟩))))))))))))))))
  refine sJ (R:=λi r=>r=ff 109 i) (k:=1) (λi hi D c=>dc ⟨rfl,rfl⟩) (λi hi D c=>?_) D c λa3 fq eW aB fO=>?_
  .obtain⟨a0,aP,e,h⟩:=m4 i hi D c
   exact bo (fn:=aE 108) (az (vn (v:=.tab) (az (vn (v:=ax i) (bj (.of e ⟨cr rfl,_,a0,aP,rfl,rfl,h,rfl⟩))))))
  .obtain⟨ok,u,a0,aP,e,h,p⟩:=F7 (n:=n) ag aB fO
   exact⟨ok,bj (.of e ⟨cr rfl,u,a0,aP,rfl,rfl,h,p⟩)⟩
noncomputable def fQ (w:Nat):Str:=match w with
 |0=>"string"
 |1=>"object"
 |2=>"undefined"
 |3=>"number"
 |4=>"function"
 |_=>"boolean"
noncomputable def fR {α:Type} (l:List α) (d:α):Nat->α:=λi=>(l[i]?).getD d
noncomputable def ah5:List (List Nat):=[[6,18,19,20,21,27],[0,5,10,11,16,28,32],[3,4,31],[7,22,23,24,25,26],[0,1,10,11,29,30,38],[8,9,15]]
noncomputable def ah6:List (List (Nat×List Nat)):=[[(0,[6]),(1,[6]),(11,[6]),(30,[33]),(38,[33])],[(1,[5,10]),(30,[32,37]),(38,[37])],[(0,[4]),(1,[4]),(30,[31])],[(0,[7]),(1,[7]),(11,[7]),(30,[34]),(38,[34])],[],[(0,[8,9]),(1,[8,9]),(11,[8,9]),(30,[35,36]),(38,[35,36])]]
noncomputable def ah7:List (List Nat):=[[6,18,19,20,21,27],[5,16,28,32],[3,4,31],[7,22,23,24,25,26],[29],[8,9,15]]
noncomputable def ah8:List (List (Nat×Nat)):=[[(30,1),(38,1)],[(1,1),(30,4),(38,2)],[(30,1)],[(30,1),(38,1)],[],[(30,3),(38,3)]]
noncomputable def bY (i:Nat):List Nat->Bool
 |[]=>false
 |j::r=>cond (Nat.beq j i) true (bY i r)
noncomputable def PZ (i:Nat):List (Nat×List Nat)->Option (List Nat)
 |[]=>none
 |(j,v)::r=>cond (Nat.beq j i) (some v) (PZ i r)
def ir (w:Nat) (y:Bool) (i:Nat):List Nat:=match y with
 |true=>match PZ i (fR ah6 [] w) with
  |some r=>r
  |none=>cond (bY i (fR ah5 [] w)) [i] []
 |false=>cond (bY i (fR ah7 [] w)) [] [i]
def yJ (w:Nat) (y:Bool) (i:Nat):Nat:=cond y (lW (fR ah8 [] w) i) 0
def PSa:List Nat:=PS.filter λi=> !(Nat.ble 33 i&&Nat.ble i 37)
noncomputable def P0 (w:Nat) (y:Bool) (i:Nat):Bool:=y&&((Nat.beq w 1&&Nat.beq i 30)||(Nat.beq w 5&&(Nat.beq i 30||Nat.beq i 38)))
def F8 (w:Nat) (y:Bool):List Nat:=PSa.filter λi=> !P0 w y i
def iZ (w:Nat) (y:Bool):Prop:=∀n D c,((F8 w y).map λi=>(bK G0 (n+100) (aE 147) [.host,ax i,.str (fQ w),.bool y] (ar D c)).map kT)=(F8 w y).map λi=>kU (aH (ir w y i)) (c+yJ w y i)
theorem ah9:iZ 0 true:=λ_ _ _=>by rfl'
theorem aha:iZ 0 false:=λ_ _ _=>by rfl'
theorem ahb:iZ 1 true:=λ_ _ _=>by rfl'
theorem ahc:iZ 1 false:=λ_ _ _=>by rfl'
theorem ahd:iZ 2 true:=λ_ _ _=>by rfl'
theorem ahe:iZ 2 false:=λ_ _ _=>by rfl'
theorem ahf:iZ 3 true:=λ_ _ _=>by rfl'
theorem ahg:iZ 3 false:=λ_ _ _=>by rfl'
theorem ahh:iZ 4 true:=λ_ _ _=>by rfl'
theorem ahi:iZ 4 false:=λ_ _ _=>by rfl'
theorem ahj:iZ 5 true:=λ_ _ _=>by rfl'
theorem ahk:iZ 5 false:=λ_ _ _=>by rfl'
abbrev P1:=Fl×am×sH
def qp (p:Fl×am×T):P1:=(p.1,p.2.1,F3 p.2.2)
def qq (f:Fl) (J:am) (c:Nat):Option P1:=some (f,J,F4 c)
theorem P2{f j1:Fl}{J bb:am}{O:T}{c:Nat}(h:some (qp (j1,bb,O))=qq f J c):j1=f/\bb=J/\∃D,O=ar D c:=by
 have e:=Option.some.inj h
 exact⟨congrArg (·.1) e,congrArg (·.2.1) e,PV (congrArg (·.2.2) e)⟩
theorem WS.of{x:Option (Fl×am×T)}{f:Fl}{J:am}{c:Nat}{Q:Fl->am->T->Prop}(h:x.map qp=qq f J c)(q:∀D,Q f J (ar D c)):WS x Q:=by
 obtain⟨⟨j1,bb,O⟩,e1,e⟩:=nk h
 obtain⟨e2,e3,D,eN⟩:=P2 (congrArg some e)
 exact⟨f,J,ar D c,by rw [e1,e2,e3,eN],q D⟩
theorem F9{l:List Nat}{a b:Nat}(h:l.Perm [a,b]):l=[a,b]\/l=[b,a]:=by
 match l,h.length_eq with
 |[x,y],_=>
  have hx:x∈[a,b]:=h.mem_iff.mp (dV ..)
  rcases(List.mem_cons.mp hx).imp id dG with rfl|rfl
  .exact .inl (by rw [List.perm_singleton.mp h.cons_inv])
  .exact .inr (by rw [List.perm_singleton.mp (h.trans (.swap ..)).cons_inv])
structure PairE (r s:Nat):Prop where
 t1:eF [r,s]= -1
 t2:eF [s,r]= -1
 u1:m2 [r,s]=[r,s]
 u2:m2 [s,r]=[s,r]
 g1:eb [[r],[s]]=[r,s]
 g2:eb [[s],[r]]=[s,r]
 nd:[r,s].Nodup
 sub:∀i∈[r,s],i∈PS
theorem ahl{r s:Nat}(h:PairE r s){l u:List Nat}(ag:l.Perm [r,s])(bG:eG (eb (l.map λi=>[i])) u):u=[r,s]\/u=[s,r]:=by
 rcases F9 ag with e|e<;>rw[e] at bG
 .rcases bG with ⟨_,p⟩|⟨q,_⟩
  .exact F9 (h.u1▸h.g1▸p)
  .exact absurd (h.g1.symm▸h.t1) q
 .rcases bG with ⟨_,p⟩|⟨q,_⟩
  .exact(F9 (h.u2▸h.g2▸p)).symm
  .exact absurd (h.g2.symm▸h.t2) q
theorem Ga(l:List Nat):l.map ax=(l.map λi=>[i]).map aH:=by rw [wc];rfl
def vt:=an "found"
noncomputable def m2L:List (Nat×Nat×Nat×Nat×Nat):=[(30,5,10,32,37),(30,8,9,35,36),(38,8,9,35,36),(30,4,5,31,32),(30,5,4,32,31)]
def sM (p a b:Nat):am:=[(cF,.tab,false),("s",ax p,false),("t",aH [a,b],false)]
def Gb (p a b r s:Nat):am:=[(cF,.tab,false),("s",ax p,false),("t",aH [a,b],false),(vt,.dict (cY [r,s]),true),("one",ax p,false),("other",ax b,false),("met",ax s,false)]
def m2F:List Stmt:=(aE 96).bd
theorem ahm(n:Nat)(D:List V)(c:Nat):(m2L.map λq=>dR G0 (n+118) (eP 96) (sM q.1 q.2.1 q.2.2.1) (qo m2F) (ar D c))=m2L.map λ_=>some (false,ar D c):=by rfl'
theorem ahn(n:Nat)(D:List V)(c:Nat):(m2L.map λq=>dR G0 (n+117) (eP 96) (sM q.1 q.2.1 q.2.2.1) (qo (m2F.drop 1)) (ar D c))=m2L.map λ_=>some (false,ar D c):=by rfl'
theorem aho(n:Nat)(D:List V)(c:Nat):(m2L.map λq=>(bv G0 (n+116) (eP 96) (cb (sM q.1 q.2.1 q.2.2.1) vt (.dict []) true) ((m2F.drop 3).take 1) (ar D c)).map qp)=m2L.map λq=>qq .next (Gb q.1 q.2.1 q.2.2.1 q.2.2.2.1 q.2.2.2.2) (c+2):=by rfl'
theorem ahp:∀q∈m2L,PairE q.2.2.2.1 q.2.2.2.2:=by
 have:∀q∈m2L,eF [q.2.2.2.1,q.2.2.2.2]= -1/\eF [q.2.2.2.2,q.2.2.2.1]= -1/\m2 [q.2.2.2.1,q.2.2.2.2]=[q.2.2.2.1,q.2.2.2.2]/\m2 [q.2.2.2.2,q.2.2.2.1]=[q.2.2.2.2,q.2.2.2.1]/\eb [[q.2.2.2.1],[q.2.2.2.2]]=[q.2.2.2.1,q.2.2.2.2]/\eb [[q.2.2.2.2],[q.2.2.2.1]]=[q.2.2.2.2,q.2.2.2.1]/\[q.2.2.2.1,q.2.2.2.2].Nodup/\∀i∈[q.2.2.2.1,q.2.2.2.2],i∈PS:=by decide
 intro q aO
 obtain⟨a,b,c,d,e,f,g,h⟩:=this q aO
 exact⟨a,b,c,d,e,f,g,h⟩
theorem P4{G:Gl}{n:Nat}{c:Cx}{t it:Expr}{b:List Stmt}{p:Pos}{r:List Stmt}{J bb:am}{H:T}{k:Nat}{b0:Fl->am->T->Prop}(h:(bv G (n+2) c J [.For t it b [] p] H).map qp=qq .next bb k)(q:∀D,WS (bv G (n+1) c bb r (ar D k)) b0):WS (bv G (n+2) c J (.For t it b [] p::r) H) b0:=by
 obtain⟨⟨j1,sz,O⟩,e1,e⟩:=nk h
 obtain⟨e2,e3,D,eN⟩:=P2 (congrArg some e)
 rw[e2,e3,eN] at e1
 obtain⟨l,ag7,a,e1⟩:=b1 (show ob (gA G (n+1) c J it H) (λl H=>thn (je (om G (n+1) c t b) l J H) λJ H=>bv G (n+1) c J [] H)=_ from e1)
 obtain⟨f,lV,yt,e,e1⟩:=rn e1
 rcases f with _|v
 .have e2:=Option.some.inj (show some (Fl.next,lV,yt)=some (Fl.next,bb,ar D k) from e1)
  have e3:lV=bb:=congrArg (·.2.1) e2
  have eN:yt=ar D k:=congrArg (·.2.2) e2
  refine il (.of a ⟨.next,lV,yt,e,?_⟩)
  rw[e3,eN]
  exact q D
 .exact nomatch (congrArg (·.1) (Option.some.inj e1):Fl.ret v=Fl.next)
theorem ahq{p a b r s:Nat}(h:(p,a,b,r,s)∈m2L){m:Nat}(av:120<=m)(D:List V)(c:Nat):∃u a0 aP,bK G0 m (aE 96) [.tab,ax p,aH [a,b]] (ar D c)=some (aH u,ar a0 aP)/\aP<=c+5/\(u=[r,s]\/u=[s,r]):=by
 obtain⟨n,rfl⟩:=c0 av
 refine UQ.to ?_
 have P:PairE r s:=ahp _ h
 have t1:dR G0 (n+118) (eP 96) (sM p a b) (qo m2F) (ar D c)=some (false,ar D c):=(bJ (ahm n D c) h:)
 have t2:dR G0 (n+117) (eP 96) (sM p a b) (qo (m2F.drop 1)) (ar D c)=some (false,ar D c):=(bJ (ahn n D c) h:)
 have z4:(bv G0 (n+116) (eP 96) (cb (sM p a b) vt (.dict []) true) ((m2F.drop 3).take 1) (ar D c)).map qp=qq .next (Gb p a b r s) (c+2):=(bJ (aho n D c) h:)
 have P5:Pts [r,s]:=⟨P.sub,P.nd⟩
 refine cc rfl ?_
 refine bO (.of t1 (bm ?_))
 refine bO (.of t2 (bm ?_))
 refine so (.og (v:=.dict []) ?_)
 refine P4 z4 λD=>?_
 obtain⟨l,di,ho⟩:=FW P5 D (c+2)
 have fL:∀r∈l.map (λi=>[i]),Pts r:=λr aq=>by
  obtain⟨i,hi,e⟩:=List.mem_map.mp aq
  exact e▸⟨λj bt=>(dG bt).symm▸(P5.perm di).sub i hi,List.nodup_cons.mpr ⟨kj,.nil⟩⟩
 obtain⟨u,a0,aP,e,a8,l1,a7⟩:=m3 fL (X:=.list (l.map ax)) (by rw [Ga];rfl) (m:=n+113) (bH rfl) D (c+2)
 have U:Has (Gb p a b r s) [bE cF .tab,(vt,.dict (cY [r,s]),true)]:=Has.sub .rfl
 exact ck (cw (bo (fn:=aE 67) (az (aM U (v:=.tab) (az (cw (ef (az (jx U (v:=.dict (cY [r,s])) (bj ⟨_,ho,bj (.of e ⟨cW U,u,a0,aP,rfl,rfl,aT a8 (dh (by decide:3<=5) c),ahl P di a7⟩)⟩))))))))))
theorem WE.amP{α:Type}{x:Option (α×T)}{v:α}{c:Nat}{Q:α->T->Prop}(h:x.map kT=kU v c)(q:∀D,Q v (ar D c)):WE x Q:=(lZ h).elim λD e=> .of e (q D)
def yK (p a b:Nat):am:=[(cF,.tab,false),("parts",.tup [ax p,aH [a,b]],false)]
theorem ahr(n:Nat)(D:List V)(c:Nat):(m2L.map λq=>(bv G0 (n+149) (eP 97) (yK q.1 q.2.1 q.2.2.1) ((aE 97).bd.take 1) (ar D c)).map qp)=m2L.map λq=>qq .next (yK q.1 q.2.1 q.2.2.1++([("t",.int 13,false)]:am)) c:=by rfl'
theorem ahs(n:Nat)(D:List V)(c:Nat):(m2L.map λq=>bK G0 (n+100) (aE 96) [.tab,.int 1,ax q.1] (ar D c))=m2L.map λq=>some (ax q.1,ar D c):=by rfl'
theorem vu{p a b r s:Nat}(h:(p,a,b,r,s)∈m2L){m:Nat}(av:150<=m)(D:List V)(c:Nat):∃u a0 aP,bK G0 m (aE 97) [.tab,.tup [ax p,aH [a,b]]] (ar D c)=some (aH u,ar a0 aP)/\aP<=c+5/\(u=[r,s]\/u=[s,r]):=by
 obtain⟨n,rfl⟩:=c0 av
 refine UQ.to ?_
 have t1:(bv G0 (n+149) (eP 97) (yK p a b) ((aE 97).bd.take 1) (ar D c)).map qp=qq .next (yK p a b++([("t",.int 13,false)]:am)) c:=(bJ (ahr n D c) h:)
 refine cc rfl (P4 t1 λD=>?_)
 have t2:bK G0 (n+144) (aE 96) [.tab,.int 1,ax p] (ar D c)=some (ax p,ar D c):=(bJ (ahs (n+44) D c) h:)
 obtain⟨u,a0,aP,e,ap,bG⟩:=ahq h (m:=n+144) (bH rfl) D c
 refine cH .rfl (.og (v:=.int 1) λJ U=>?_)
 refine il (ht (dt U (v:=.tup [ax p,aH [a,b]]) ⟨[ax p,aH [a,b]],rfl,?_⟩))
 refine cJ (ka U λJ U=>cH U (bo (fn:=aE 96) (az (aM U (v:=.tab) (az (aM U (v:=.int 1) (az (aM U (v:=ax p) (bj (.of t2 ⟨cW U,λJ U=>bm ?_⟩))))))))))
 refine cJ (ka U λJ U=>cH U (bo (fn:=aE 96) (az (aM U (v:=.tab) (az (aM U (v:=ax p) (az (aM U (v:=aH [a,b]) (bj (.of e ⟨cW U,λJ U=>bm (oo ?_)⟩))))))))))
 exact ck (aM U (v:=aH u) ⟨u,a0,aP,rfl,rfl,ap,bG⟩)
theorem Gc{u:List Nat}{r s:Nat}(h:u=[r,s]\/u=[s,r]):u.Perm [r,s]:=h.elim (λe=>e▸ .refl _) λe=>e▸ .swap ..
theorem P6{i:Nat}(hi:i=30\/i=38){n:Nat}(D:List V)(c:Nat):WE (bK G0 (n+160) (aE 136) [.tab,ax i,.str (fQ 5),.bool true] (ar D c)) (UQ (c+8) λu=>u.Perm (ir 5 true i)):=by
 rcases hi with rfl|rfl
 .refine cc rfl (cB (.og (v:=.str ⟨#[]⟩) ?_))
  refine bO (.og (v:=false) (bm ?_))
  refine bO (.og (v:=false) (bm ?_))
  refine bO (.og (v:=false) (bm ?_))
  refine bO (.og (v:=false) (bm ?_))
  refine bO (.og (v:=false) (bm ?_))
  refine ck (cw (bo (fn:=aE 97) (.og (v:=[.tab,.tup [ax 30,aH [8,9]]]) ?_)))
  obtain⟨u,a0,aP,e,ap,bG⟩:=vu (p:=30) (a:=8) (b:=9) (r:=35) (s:=36) (by decide) (m:=n+151) (bH rfl) D c
  exact .of e ⟨cr rfl,u,a0,aP,rfl,rfl,aT ap (dh (by decide:5<=8) c),Gc bG⟩
 .refine cc rfl (cB (.og (v:=.str ⟨#[]⟩) ?_))
  refine bO (.og (v:=false) (bm ?_))
  refine bO (.og (v:=false) (bm ?_))
  refine bO (.og (v:=false) (bm ?_))
  refine bO (.og (v:=false) (bm ?_))
  refine bO (.og (v:=false) (bm ?_))
  refine ck (cw (bo (fn:=aE 97) (.og (v:=[.tab,.tup [ax 38,aH [8,9]]]) ?_)))
  obtain⟨u,a0,aP,e,ap,bG⟩:=vu (p:=38) (a:=8) (b:=9) (r:=35) (s:=36) (by decide) (m:=n+151) (bH rfl) D c
  exact .of e ⟨cr rfl,u,a0,aP,rfl,rfl,aT ap (dh (by decide:5<=8) c),Gc bG⟩
theorem aht{w i:Nat}(h:(w=1/\i=30)\/(w=5/\i=30)\/(w=5/\i=38)){m:Nat}(av:200<=m)(D:List V)(c:Nat):∃u a0 aP,bK G0 m (aE 147) [.host,ax i,.str (fQ w),.bool true] (ar D c)=some (aH u,ar a0 aP)/\aP<=c+8/\u.Perm (ir w true i):=by
 obtain⟨n,rfl⟩:=c0 av
 refine UQ.to ?_
 rcases h with ⟨rfl,rfl⟩|⟨rfl,rfl⟩|⟨rfl,rfl⟩
 .refine cc rfl ?_
  refine cB (.og (v:=.int 0) ?_)
  refine bO (.og (v:=false) (bm ?_))
  refine bO (.og (v:=true) ?_)
  refine ck (cw (bo (fn:=aE 148) (.og (v:=[.host,ax 30,.str (fQ 1),.bool true]) ?_)))
  refine cc rfl ?_
  refine cB (.og (v:=ax 30) ?_)
  refine bO (.og (v:=false) (bm ?_))
  refine ck (cw (bo (fn:=aE 136) (.og (v:=[.tab,ax 30,.str (fQ 1),.bool true]) ?_)))
  refine WE.mono (P:=UQ (c+8) λu=>u.Perm (ir 1 true 30)) ?_ (λv O q=>⟨cr rfl,cr rfl,q⟩)
  refine cc rfl ?_
  refine cB (.og (v:=.str ⟨#[]⟩) ?_)
  refine bO (.og (v:=false) (bm ?_))
  refine bO (.og (v:=false) (bm ?_))
  refine bO (.og (v:=true) ?_)
  refine ck (cw (bo (fn:=aE 97) (.amP (v:=[.tab,.tup [ax 30,aH [5,10]]]) (c:=c+1) (by rfl') λD=>?_)))
  obtain⟨u,a0,aP,e,ap,bG⟩:=vu (p:=30) (a:=5) (b:=10) (r:=32) (s:=37) (by decide) (m:=n+182) (bH rfl) D (c+1)
  exact .of e ⟨cr rfl,u,a0,aP,rfl,rfl,aT ap (dh (by decide:1+5<=8) c),Gc bG⟩
 .refine cc rfl ?_
  refine cB (.og (v:=.int 0) ?_)
  refine bO (.og (v:=false) (bm ?_))
  refine bO (.og (v:=true) ?_)
  refine ck (cw (bo (fn:=aE 148) (.og (v:=[.host,ax 30,.str (fQ 5),.bool true]) ?_)))
  refine cc rfl ?_
  refine cB (.og (v:=ax 30) ?_)
  refine bO (.og (v:=false) (bm ?_))
  refine ck (cw (bo (fn:=aE 136) (.og (v:=[.tab,ax 30,.str (fQ 5),.bool true]) ?_)))
  exact WE.mono (P6 (i:=30) (.inl rfl) D c) (λv O q=>⟨cr rfl,cr rfl,q⟩)
 .refine cc rfl ?_
  refine cB (.og (v:=.int 0) ?_)
  refine bO (.og (v:=false) (bm ?_))
  refine bO (.og (v:=false) (bm ?_))
  refine ck (cw (bo (fn:=aE 136) (.og (v:=[.tab,ax 38,.str (fQ 5),.bool true]) ?_)))
  exact WE.mono (P6 (i:=38) (.inr rfl) D c) (λv O q=>⟨cr rfl,q⟩)
theorem ahu{w:Nat}(cs:w<6)(y:Bool):iZ w y:=by
 rcases w with _|_|_|_|_|_|w
 .rcases y with _|_;exact aha;exact ah9
 .rcases y with _|_;exact ahc;exact ahb
 .rcases y with _|_;exact ahe;exact ahd
 .rcases y with _|_;exact ahg;exact ahf
 .rcases y with _|_;exact ahi;exact ahh
 .rcases y with _|_;exact ahk;exact ahj
 .exact(Nat.not_lt_of_le (tw 6 w) cs).elim
theorem ahv:((List.range 6).all λw=>PSa.all λi=>Nat.ble (yJ w true i) 8&&Nat.ble (yJ w false i) 8)=true:=by rfl'
theorem ahw{w:Nat}(cs:w<6)(y:Bool){i:Nat}(hi:i∈PSa):yJ w y i<=8:=by
 have h:=aK (bl (bl ahv (List.mem_range.mpr cs)) hi)
 rcases y with _|_
 .exact fi h.2
 .exact fi h.1
theorem ahx{w:Nat}(cs:w<6)(y:Bool){i:Nat}(hi:i∈PSa){m:Nat}(av:200<=m)(D:List V)(c:Nat):∃u a0 aP,bK G0 m (aE 147) [.host,ax i,.str (fQ w),.bool y] (ar D c)=some (aH u,ar a0 aP)/\aP<=c+8/\u.Perm (ir w y i):=by
 rcases e:P0 w y i with _|_
 .obtain⟨n,rfl⟩:=c0 (aT (by decide:100<=200) av)
  have aJ:i∈F8 w y:=List.mem_filter.mpr ⟨hi,by rw [e];rfl⟩
  have t:=ahu cs y
  unfold iZ at t
  have q:=bJ (t n D c) aJ
  obtain⟨a0,h⟩:=lZ q
  exact⟨_,a0,_,h,dh (ahw cs y hi) c,.refl _⟩
 .obtain⟨e1,e2⟩:=aK (show (y&&(Nat.beq w 1&&Nat.beq i 30||Nat.beq w 5&&(Nat.beq i 30||Nat.beq i 38)))=true from e)
  rw[e1]
  have b:=λ{a b:Nat} (h:Nat.beq a b=true)=>ei h
  refine aht ?_ av D c
  rcases(f9 ..).mp e2 with e|e
  .exact .inl ⟨b (aK e).1,b (aK e).2⟩
  .rcases(f9 ..).mp (aK e).2 with q|q
   .exact .inr (.inl ⟨b (aK e).1,b q⟩)
   .exact .inr (.inr ⟨b (aK e).1,b q⟩)
noncomputable def ahy (a:Nat):List Nat->Bool
 |[]=>true
 |b::r=> !Nat.beq a b&&r.isEmpty
def P7:List Nat->Bool
 |[]=>true
 |a::r=>ahy a r
theorem ahz{l:List Nat}(h:P7 l=true):l.Nodup:=by
 rcases l with _|⟨a,_|⟨b,r⟩⟩
 .exact .nil
 .exact List.nodup_cons.mpr ⟨kj,.nil⟩
 .obtain⟨aa,ah⟩:=aK (show (!Nat.beq a b&&r.isEmpty)=true from h)
  rw[List.isEmpty_iff.mp ah]
  exact List.nodup_cons.mpr ⟨λq=>by rw [dG q,jF] at aa;exact c2 aa,List.nodup_cons.mpr ⟨kj,.nil⟩⟩
theorem ahA:((List.range 6).all λw=>PSa.all λi=>[true,false].all λy=>(ir w y i).all (λk=>PS.any (Nat.beq k))&&P7 (ir w y i))=true:=by rfl'
theorem Gd{w:Nat}(cs:w<6)(y:Bool){i:Nat}(hi:i∈PSa):Pts (ir w y i):=by
 have aY:y∈[true,false]:=by rcases y with _|_<;>decide
 obtain⟨aa,ah⟩:=aK (bl (bl (bl ahA (List.mem_range.mpr cs)) hi) aY)
 refine⟨λk aj=>?_,ahz ah⟩
 obtain⟨z,bi,e⟩:=List.any_eq_true.mp (bl aa aj)
 rw[ei e];exact bi
def ahB(w:Nat)(y:Bool)(l u:List Nat):Prop:=∃a3,Pts u/\eG (eb a3) u/\Paired (λi r=>r.Perm (ir w y i)) l a3
theorem P8{w:Nat}(cs:w<6)(y:Bool){l:List Nat}(ag:Pts l)(aw:∀i∈l,i∈PSa){m:Nat}(av:220<=m)(D:List V)(c:Nat):
  ∃u a0 aP,bK G0 m (aE 149) [.host,aH l,.str (fQ w),.bool y] (ar D c)=some (aH u,ar a0 aP)/\aP<=c+300/\ahB w y l u:=by
 obtain⟨n,rfl⟩:=c0 av
 refine UQ.to ?_
 refine cc rfl ?_
 refine cB (bo (fn:=aE 61) (.og (v:=[.tab,aH l]) (.of (io ag (bH rfl) D c) ⟨cr rfl,?_⟩)))
 refine ck (cw (bo (fn:=aE 67) (az (.og (v:=.tab) (az (j8 (d8 (ht (dE (v:=.tup (l.map ax)) ⟨_,rfl,?_⟩)))))))))
 refine sJ (R:=λi r=>r.Perm (ir w y i)) (k:=8) (λi hi D c=>dc ⟨rfl,rfl⟩) (λi hi D c=>?_) D c λa3 fq eW aB fO=>?_
 .obtain⟨u,a0,aP,e,h,aS⟩:=ahx cs y (aw i hi) (m:=n+214) (bH rfl) D c
  exact bo (fn:=aE 147) (az (vn (v:=.host) (az (vn (v:=ax i) (az (vn (v:=.str (fQ w)) (az (vn (v:=.bool y) (bj (.of e ⟨cr rfl,u,a0,aP,rfl,rfl,h,aS⟩))))))))))
 .have oq:=aT (dW (Paired.len fO).symm) ag.len
  have aq:∀r∈a3,Pts r:=λr aq=>by
   obtain⟨i,hi,p⟩:=Paired.all fO r aq
   exact(Gd cs y (aw i hi)).perm p
  obtain⟨u,a0,aP,e,a8,l1,a7⟩:=m3 aq (X:=.list (a3.map aH)) rfl (m:=n+216) (bH rfl) fq eW
  exact⟨by rw [yH];exact md (by rw [eQ];exact aT oq (by decide)),bj (.of e ⟨cr rfl,u,a0,aP,rfl,rfl,aT a8 (aT (gr (aT aB (dh (oL 8 ag.len) c))) (dh (by decide:8*34+1<=300) c)),a3,l1,a7,fO⟩)⟩
theorem ahC{l:List Nat}(ag:Pts l){m:Nat}(av:160<=m)(D:List V)(c:Nat):
  ∃u a0 aP,bK G0 m (aE 146) [.host,aH l,.bool false] (ar D c)=some (aH u,ar a0 aP)/\aP<=c+80/\Pts u/\eG (eb (l.map (ff 109))) u:=by
 obtain⟨n,rfl⟩:=c0 av
 obtain⟨u,a0,aP,e,h,l1,a7⟩:=yI (j:=109) (.inr (.inr rfl)) ag (m:=n+153) (bH rfl) D c
 refine⟨u,a0,aP,WE.to ?_,aT h (dh (by decide) c),l1,a7⟩
 refine cc rfl ?_
 refine ck (cw (bo (fn:=aE 130) (.og (v:=[.tab,aH l,.bool false]) ?_)))
 refine cc rfl ?_
 refine bO (.og (v:=true) ?_)
 exact ck (cw (bo (fn:=aE 109) (az (vn (v:=.tab) (az (vn (v:=aH l) (bj (.of e ⟨cr rfl,cr rfl,rfl,rfl⟩))))))))
theorem ahD{l:List Nat}(ag:Pts l){m:Nat}(av:160<=m)(D:List V)(c:Nat):
  ∃u1 u a0 aP,bK G0 m (aE 146) [.host,aH l,.bool true] (ar D c)=some (aH u,ar a0 aP)/\aP<=c+80/\Pts u1/\eG (eb (l.map (ff 104))) u1/\Pts u/\eG (eb (u1.map (ff 101))) u:=by
 obtain⟨n,rfl⟩:=c0 av
 obtain⟨u1,fq,eW,iR,aB,P9,ahE⟩:=yI (j:=104) (.inr (.inl rfl)) ag (m:=n+152) (bH rfl) D c
 obtain⟨u,a0,aP,e,h,l1,a7⟩:=yI (j:=101) (.inl rfl) P9 (m:=n+153) (bH rfl) fq eW
 refine⟨u1,u,a0,aP,WE.to ?_,aT h (jC aB 40),P9,ahE,l1,a7⟩
 refine cc rfl ?_
 refine ck (cw (bo (fn:=aE 130) (.og (v:=[.tab,aH l,.bool true]) ?_)))
 refine cc rfl ?_
 refine bO (.og (v:=false) (bm ?_))
 exact ck (cw (bo (fn:=aE 101) (az (vn (v:=.tab) (az (cw (bo (fn:=aE 104) (az (vn (v:=.tab) (az (vn (v:=aH l) (bj (.of iR ⟨cr rfl,bj (.of e ⟨cr rfl,cr rfl,rfl,rfl⟩)⟩)))))))))))))
def bB:Nat->Nat:=lW [(3,6),(4,5),(5,4),(6,1),(7,2),(8,3),(9,3),(10,7),(11,7),(15,3),(16,7),(18,1),(19,1),(20,1),(21,1),(22,2),(23,2),(24,2),(25,2),(26,2),(27,1),(28,7),(29,7),(31,5),(32,4),(33,1),(34,2),(35,3),(36,3),(37,7)]
noncomputable def f7 (i:Nat):V:=match i with
 |4=> .tup [.int 5,.int 0]
 |5=> .tup [.int 4,.int 0]
 |8=> .tup [.int 3,.int 0]
 |9|15=> .tup [.int 3,.int 1]
 |18=> .tup [.int 1,.str ⟨#[]⟩]
 |19|20|27=> .tup [.int 1,.str "a"]
 |21=> .tup [.int 1,.str "x"]
 |22|25=> .tup [.int 2,.int 0]
 |23|26=> .tup [.int 2,.int 1]
 |24=> .tup [.int 2,.int (-1)]
 |_=> .tup []
def dU (i:Nat):Bool:=Nat.blt 0 (bB i)&&Nat.blt (bB i) 7
def eu (i:Nat):Bool:=Nat.blt 3 (bB i)&&Nat.blt (bB i) 7
theorem ahF(n:Nat)(D:List V)(c:Nat):(PS.map λi=>bK G0 (n+60) (aE 75) [.tab,ax i] (ar D c))=PS.map λi=>some (.int (bB i),ar D c):=by rfl'
theorem ahG(n:Nat)(D:List V)(c:Nat):(PS.map λi=>bK G0 (n+70) (aE 126) [.tab,ax i] (ar D c))=PS.map λi=>some (f7 i,ar D c):=by rfl'
theorem ahH(n:Nat)(D:List V)(c:Nat):(PS.map λi=>bK G0 (n+70) (aE 140) [.tab,ax i] (ar D c))=PS.map λi=>some (.bool (dU i),ar D c):=by rfl'
theorem Ge(D:List V)(c:Nat):(PS.map λi=>cX (ar D c) .In (.int (bB i)) (.tup [.int 4,.int 5,.int 6]))=PS.map λi=>some (eu i):=by rfl'
theorem kV{i:Nat}(hi:i∈PS){m:Nat}(av:60<=m)(D:List V)(c:Nat):bK G0 m (aE 75) [.tab,ax i] (ar D c)=some (.int (bB i),ar D c):=by
 obtain⟨n,rfl⟩:=c0 av
 exact bJ (ahF n D c) hi
theorem vv{i:Nat}(hi:i∈PS){m:Nat}(av:70<=m)(D:List V)(c:Nat):bK G0 m (aE 126) [.tab,ax i] (ar D c)=some (f7 i,ar D c):=by
 obtain⟨n,rfl⟩:=c0 av
 exact bJ (ahG n D c) hi
theorem Qa{i:Nat}(hi:i∈PS){m:Nat}(av:70<=m)(D:List V)(c:Nat):bK G0 m (aE 140) [.tab,ax i] (ar D c)=some (.bool (dU i),ar D c):=by
 obtain⟨n,rfl⟩:=c0 av
 exact bJ (ahH n D c) hi
theorem Qb{α:Type}(f:α->Bool):∀l:List α,rk (l.map λa=>V.bool (f a))=some (l.map f)
 |[]=>rfl
 |a::l=>by
  show od (rk (l.map λa=>V.bool (f a))) (λl=>some (f a::l))=_
  rw[Qb f l];rfl
theorem i0{α bR:Type}{f:α->bR}{l:List α}(h:l.length<=4096):cz (l.map f)=true:=by
 unfold cz
 rw[eQ]
 exact md h
theorem Qc{α:Type}(g:List Bool->Bool)(f:α->Bool){l:List α}(h:l.length<=4096):rm g (.list (l.map λa=>V.bool (f a)))=some (.bool (g (l.map f))):=by
 show ow (cz _) (od (rk _) _)=_
 rw[i0 h,Qb f l];rfl
theorem sN{α:Type}(H:T)(f:α->Bool){l:List α}(h:l.length<=4096):f1 H wt [.list (l.map λa=>V.bool (f a))]=some (.bool (l.all f)):=by
 refine mg (b:=rm (λl=>l.all id) (.list (l.map λa=>V.bool (f a)))) (by rfl') ((Qc _ f h).trans ?_)
 rw[i6];rfl
theorem Gf{α:Type}(H:T)(f:α->Bool){l:List α}(h:l.length<=4096):f1 H tR [.list (l.map λa=>V.bool (f a))]=some (.bool (l.any f)):=by
 refine mg (b:=rm (λl=>l.any id) (.list (l.map λa=>V.bool (f a)))) (by rfl') ((Qc _ f h).trans ?_)
 rw[List.any_map];rfl
theorem yL{α:Type}(f:α->Bool)(l:List α):(l.map λa=>V.bool (f a)).all V.flat=true:=by
 rw[i6]
 exact List.all_eq_true.mpr λ_ _=>rfl
theorem sO{H:T}{test:V->T->Option (Bool×T)}{elt:V->T->Option (V×T)}{f g:Nat->V}{l:List Nat}(aa:∀i∈l,WE (test (f i) H) (Is true H))(ah:∀i∈l,WE (elt (f i) H) (Is (g i) H)):gR test elt (l.map f) H=some (l.map g,H):=by
 have:=kQ (p:=λ_=>true) aa ah
 rwa [List.filter_eq_self.mpr λ_ _=>rfl] at this
theorem Qd{l:List Nat}(ag:Pts l){m:Nat}(av:120<=m)(D:List V)(c:Nat):bK G0 m (aE 141) [.tab,aH l] (ar D c)=some (.bool (l.all dU),ar D c):=by
 obtain⟨n,rfl⟩:=c0 av
 refine WE.to ?_
 have kc:=ag.len
 refine cc rfl ?_
 refine ck (cw (ef (az (j8 (d8 (hS (bo (fn:=aE 61) (az (vn (v:=.tab) (az (vn (v:=aH l) (bj (.of (io ag (by first|exact bH rfl|lia) D c) ⟨cr rfl,_,rfl,?_⟩)))))))))))))
 refine .of (sO (g:=λi=> .bool (dU i)) (λi hi=>dc ⟨rfl,rfl⟩) λi hi=>?_) ⟨by rw [yL,i0 (by first|exact bH rfl|lia)];rfl,bj ⟨_,sN _ dU (by first|exact bH rfl|lia),rfl,rfl⟩⟩
 exact bo (fn:=aE 140) (az (vn (v:=.tab) (az (vn (v:=ax i) (bj (.of (Qa (ag.sub i hi) (by first|exact bH rfl|lia) D c) ⟨cr rfl,rfl,rfl⟩))))))
theorem ahI{f:Expr->T->Option (V×T)}{op:BoolOp}{e:Expr}{H:T}{Q:V->T->Prop}(h:WE (f e H) Q):WE (kw f op [e] H) Q:=h
theorem ahJ{f:Expr->T->Option (V×T)}{e e2:Expr}{r:List Expr}{H:T}{Q:V->T->Prop}(h:WE (f e H) λv H=>∃t,v.truth=some t/\cond t (WE (kw f .And (e2::r) H) Q) (Q v H)):WE (kw f .And (e::e2::r) H) Q:=
 WE.ob (h.mono λv H ⟨t,h,q⟩=>WE.od h (by
  rcases t with _|_
  .exact .of rfl q
  .exact q))
theorem Gg{f:Expr->T->Option (V×T)}{e e2:Expr}{r:List Expr}{H:T}{Q:V->T->Prop}(h:WE (f e H) λv H=>∃t,v.truth=some t/\cond t (Q v H) (WE (kw f .Or (e2::r) H) Q)):WE (kw f .Or (e::e2::r) H) Q:=
 WE.ob (h.mono λv H ⟨t,h,q⟩=>WE.od h (by
  rcases t with _|_
  .exact q
  .exact .of rfl q))
theorem Gi{G:Gl}{n:Nat}{c:Cx}{J:am}{H:T}{Q:V->T->Prop}{op:BoolOp}{vs:List Expr}{p:Pos}(h:WE (kw (aN G n c J) op vs H) Q):WE (aN G (n+1) c J (.BoolOp op vs p) H) Q:=h
abbrev ahK (f:Expr->T->Option (V×T)) (Q:V->T->Prop) (b:Expr) (v:V) (H:T):Prop:=∃t,v.truth=some t/\cond t (WE (f b H) Q) (Q v H)
abbrev ahL (f:Expr->T->Option (V×T)) (Q:V->T->Prop) (b:Expr) (v:V) (H:T):Prop:=∃t,v.truth=some t/\cond t (Q v H) (WE (f b H) Q)
theorem vw{G:Gl}{n:Nat}{c:Cx}{J:am}{H:T}{Q:V->T->Prop}{a b:Expr}{p:Pos}(h:WE (aN G n c J a H) (ahK (aN G n c J) Q b)):WE (aN G (n+1) c J (.BoolOp .And [a,b] p) H) Q:=Gi (ahJ h)
theorem ao0{G:Gl}{n:Nat}{c:Cx}{J:am}{H:T}{Q:V->T->Prop}{a b:Expr}{p:Pos}(h:WE (aN G n c J a H) (ahL (aN G n c J) Q b)):WE (aN G (n+1) c J (.BoolOp .Or [a,b] p) H) Q:=Gi (Gg h)
theorem sP{G:Gl}{n:Nat}{c:Cx}{J:am}{H:T}{Q:V->T->Prop}{f x:Str}{cR tp uZ fL:Pos}{it elt:Expr}{sc:Scope}{ls:List Nat}{m:Nat->V}{g:Nat->Bool}{r:Bool}(ao:f1 H f [.list (ls.map λa=>V.bool (g a))]=some (.bool r))(aX:ls.length<=4096)(hi:WE (gA G (n+1) c J it H) (Is (ls.map m) H))(cL:∀q∈ls,WE (FO G (n+1) c J x sc elt (m q) H) (Is (.bool (g q)) H))(q:Q (.bool r) H)(mP:lj x sc c.sc=true:=by rfl')(aj:lk c.sc.names f=some .globalImplicit:=by rfl')(a6:G.fn f=none:=by rfl')(bx:G.free f=true:=by rfl')(h':a9 f mm=false:=by rfl'):
  WE (aN G (n+3) c J (.Call (.Name f cR) [.ListComp elt [⟨.Name x tp,it,[],0⟩] sc uZ] [] fL) H) Q:=
 ef (az (j8 (d8 (hi.is (.of (sO (g:=λa=> .bool (g a)) (λ_ _=>dc ⟨rfl,rfl⟩) cL) ⟨by rw [yL,i0 aX];rfl,bj ⟨_,ao,q⟩⟩)) mP))) aj a6 bx h'
theorem ahM{H:T}{l:List V}(h:cz l=true):f1 H dy [.tup l]=some (.int l.length):=by
 refine mg (b:=ow (cz l) (some (.int l.length))) (by rfl') ?_
 rw[h];rfl
theorem yM{f:Expr->T->Option (V×T)}{c:Cx}{J:am}{H:T}{Q:V->T->Prop}{a b p}(h:WE (f (.BoolOp a b p) H) Q):WE (b7 c J f (.BoolOp a b p) H) Q:=h
def fu (l:List Nat):Bool:= !l.isEmpty&&l.all eu
theorem yN{l:List Nat}(ag:Pts l){m:Nat}(av:120<=m)(D:List V)(c:Nat):bK G0 m (aE 128) [.tab,aH l] (ar D c)=some (.bool (fu l),ar D c):=by
 obtain⟨n,rfl⟩:=c0 av
 refine WE.to ?_
 have kc:=ag.len
 refine cc rfl ?_
 refine cB (bo (fn:=aE 61) (az (vn (v:=.tab) (az (vn (v:=aH l) (bj (.of (io ag (by first|exact bH rfl|lia) D c) ⟨cr rfl,?_⟩)))))))
 refine ck (yM (vw (iX (cw (ef (az (vn (v:=.tup (l.map ax)) (bj ⟨_,ahM (qn ag),.og (v:=.int 0) ⟨!l.isEmpty,?_,!l.isEmpty,rfl,?_⟩⟩))))))))
 .show some (e0 0 _)=_
  rw[eQ]
  cases l<;>rfl
 cases e:l.isEmpty with
 |true=>exact⟨by simp only [fu,e];rfl,rfl⟩
 |false=>
  refine ef (az (j8 (d8 (ht (dE (v:=.tup (l.map ax)) ⟨_,rfl,?_⟩)))))
  refine .of (sO (g:=λi=> .bool (eu i)) (λi hi=>dc ⟨rfl,rfl⟩) λi hi=>?_) ⟨by rw [yL,i0 (by first|exact bH rfl|lia)];rfl,bj ⟨_,sN _ eu (by first|exact bH rfl|lia),by simp only [fu,e];rfl,rfl⟩⟩
  refine iX (cw (bo (fn:=aE 75) (az (vn (v:=.tab) (az (vn (v:=ax i) (bj (.of (kV (ag.sub i hi) (by first|exact bH rfl|lia) D c) ⟨cr rfl,?_⟩))))))))
  exact .og (v:=.tup [.int 4,.int 5,.int 6]) ⟨_,bJ (Ge D c) (ag.sub i hi),rfl,rfl⟩
noncomputable def Gj (a b:Nat) (s:Bool):Bool:=Nat.beq a 0||Nat.beq b 0||(Nat.blt 3 a&&Nat.blt a 7&&Nat.blt 3 b&&Nat.blt b 7&&(!s||(!Nat.beq a 4&& !Nat.beq b 4)))||(!s&&Nat.blt a 4&&Nat.blt b 4)
def fv (i:Nat):Bool:=V.same (f7 i) (.tup [])
def sQ (i j:Nat):Bool:=V.same (f7 i) (f7 j)
def jy (i j:Nat) (s:Bool):Bool:=match Nat.beq (bB i) (bB j)&& !Nat.beq (bB i) 0 with
 |true=>fv i||fv j||sQ i j
 |false=>Gj (bB i) (bB j) s
def Gk (x y:V) (s:Bool) (a b:Nat):am:=[(cF,.tab,false),("s",x,false),("t",y,false),("strict",.bool s,false),("fs",.int a,false),("ft",.int b,false)]
noncomputable def L8:List Nat:=[0,1,2,3,4,5,6,7]
theorem ahN(n:Nat)(D:List V)(c:Nat)(x y:V):(L8.map λa=>L8.map λb=>[true,false].map λs=>cond (Nat.beq a b&& !Nat.beq a 0) none (bv G0 (n+30) (eP 127) (Gk x y s a b) ((aE 127).bd.drop 2) (ar D c)))=
  L8.map λa=>L8.map λb=>[true,false].map λs=>cond (Nat.beq a b&& !Nat.beq a 0) none (some (.ret (.bool (Gj a b s)),Gk x y s a b,ar D c)):=by rfl'
theorem Gm(D:List V)(c:Nat):(PS.map λi=>cX (ar D c) .Eq (f7 i) (.tup []))=PS.map λi=>some (fv i):=by rfl'
theorem ahO(D:List V)(c:Nat):(PS.map λi=>PS.map λj=>cX (ar D c) .Eq (f7 i) (f7 j))=PS.map λi=>PS.map λj=>some (sQ i j):=by rfl'
theorem yO:(PS.all λi=>bY (bB i) L8)=true:=by rfl'
theorem hT{i:Nat}:∀{l:List Nat},bY i l=true->i∈l
 |j::l,h=>by
  unfold bY at h
  cases e:Nat.beq j i with
  |true=>rw[ei e];exact dV ..
  |false=>rw[e] at h;exact .tail _ (hT h)
theorem i1(H:T)(a b:Nat):cX H .Eq (.int a) (.int b)=some (Nat.beq a b):=rfl
theorem Gn{i j:Nat}(hi:i∈PS)(bt:j∈PS)(s:Bool){m:Nat}(av:120<=m)(D:List V)(c:Nat):bK G0 m (aE 127) [.tab,ax i,ax j,.bool s] (ar D c)=some (.bool (jy i j s),ar D c):=by
 obtain⟨n,rfl⟩:=c0 av
 refine WE.to ?_
 have ahP:=hT (bl yO hi)
 have ahQ:=hT (bl yO bt)
 have Qe:=bJ (bJ (bJ (ahN (n+87) D c (ax i) (ax j)) ahP) ahQ) (x:=s) (by rcases s with _|_<;>decide)
 have pF:=bJ (Gm D c) hi
 have DD:=bJ (Gm D c) bt
 have Mj:=bJ (bJ (ahO D c) hi) bt
 have ahR:jy i j s=match Nat.beq (bB i) (bB j)&& !Nat.beq (bB i) 0 with|true=>fv i||fv j||sQ i j|false=>Gj (bB i) (bB j) s:=rfl
 rw[ahR]
 refine cc rfl ?_
 refine cB (bo (fn:=aE 75) (az (vn (v:=.tab) (az (vn (v:=ax i) (bj (.of (kV hi (bH rfl) D c) ⟨cr rfl,?_⟩)))))))
 refine cB (bo (fn:=aE 75) (az (vn (v:=.tab) (az (vn (v:=ax j) (bj (.of (kV bt (bH rfl) D c) ⟨cr rfl,?_⟩)))))))
 generalize bB i=a at*
 generalize bB j=b at*
 rcases e:Nat.beq a b&& !Nat.beq a 0 with _|_
 .rw[e] at Qe
  exact⟨_,_,_,mg (b:=bv G0 (n+87+30) (eP 127) (Gk (ax i) (ax j) s a b) ((aE 127).bd.drop 2) (ar D c)) (by rfl') Qe,rfl,rfl⟩
 .obtain⟨e1,e2⟩:=aK e
  have e2:Nat.beq a 0=false:=(ki _).mp e2
  have:=ei e1
  subst this
  refine bO (fN (fp (b6 (vn (v:=.int a) (.og (v:=.int 0) ⟨_,(i1 _ a 0).trans (by rw [e2]),?_⟩)))))
  refine fp (b6 (vn (v:=.int a) (.og (v:=.int 0) ⟨_,(i1 _ a 0).trans (by rw [e2]),?_⟩)))
  refine dc (bm ?_)
  refine bO (b6 (vn (v:=.int a) (vn (v:=.int a) ⟨_,(i1 _ a a).trans (by rw [e1]),?_⟩)))
  refine cB (bo (fn:=aE 126) (az (vn (v:=.tab) (az (vn (v:=ax i) (bj (.of (vv hi (bH rfl) D c) ⟨cr rfl,?_⟩)))))))
  refine cB (bo (fn:=aE 126) (az (vn (v:=.tab) (az (vn (v:=ax j) (bj (.of (vv bt (bH rfl) D c) ⟨cr rfl,?_⟩)))))))
  refine ck (yM (Gi (Gg (iX (vn (v:=f7 i) (.og (v:=.tup []) ⟨_,pF,fv i,rfl,?_⟩))))))
  rcases fv i with _|_
  rotate_left
  .exact⟨rfl,rfl⟩
  .refine Gg (iX (vn (v:=f7 j) (.og (v:=.tup []) ⟨_,DD,fv j,rfl,?_⟩)))
   rcases fv j with _|_
   rotate_left
   .exact⟨rfl,rfl⟩
   .exact ahI (iX (vn (v:=f7 i) (vn (v:=f7 j) ⟨_,Mj,rfl,rfl⟩)))
noncomputable def obS:List Nat:=[10,11,16,28,29,37]
noncomputable def obT:List Nat:=[10,11,16,28,29]
noncomputable def Go (i j:Nat):Nat:=match Nat.beq i j||(Nat.beq i 11&& !Nat.beq j 37)||(Nat.beq j 11&& !Nat.beq i 37) with
 |true=>0
 |false=>1
theorem ahS(n:Nat)(D:List V)(c:Nat)(s:Bool):(obS.map λi=>obT.map λj=>(bK G0 (n+100) (aE 143) [.tab,ax i,ax j,.bool s] (ar D c)).map kT)=obS.map λi=>obT.map λj=>kU (.bool true) (c+Go i j):=by rfl'
noncomputable def sR (i:Nat):Bool:=Nat.beq i 0||Nat.beq i 1||Nat.beq i 11||Nat.beq i 30||Nat.beq i 38
theorem ahT(n:Nat)(D:List V)(c:Nat):(PS.map λi=>bK G0 (n+100) (aE 142) [.tab,ax i] (ar D c))=PS.map λi=>some (.bool (sR i),ar D c):=by rfl'
theorem Qf{i:Nat}(hi:i∈PS){m:Nat}(av:100<=m)(D:List V)(c:Nat):bK G0 m (aE 142) [.tab,ax i] (ar D c)=some (.bool (sR i),ar D c):=by
 obtain⟨n,rfl⟩:=c0 av
 exact bJ (ahT n D c) hi
noncomputable def yP (a:Nat):Bool:=Nat.blt 0 a&&Nat.blt a 4
noncomputable def yQ (iV hk kO m5 P x y:Bool):Bool:=cond iV (cond hk true (cond m5 P x)) (cond hk (cond kO P y) P)
def iu (i j:Nat) (s:Bool):Bool:=yQ (Nat.beq (bB i) 7) (Nat.beq (bB j) 7) (Nat.beq (bB i) 0) (Nat.beq (bB j) 0) (jy i j s) (sR i&&yP (bB j)) (sR j&&yP (bB i))
theorem ahU:∀{iV hk kO m5 P x y:Bool},(iV&&hk)=false->(iV&& !m5)=true->yQ iV hk kO m5 P x y=x:=by decide
theorem ahV:∀{iV hk kO m5 P x y:Bool},(iV&&hk)=false->(hk&& !kO)=true->yQ iV hk kO m5 P x y=y:=by decide
theorem ahW:∀{iV hk kO m5 P x y:Bool},(iV&&hk)=false->(iV&& !m5)=false->(hk&& !kO)=false->yQ iV hk kO m5 P x y=P:=by decide
theorem Qg(D:List V)(c:Nat):(L8.map λ(a:Nat)=>cX (ar D c) .In (.int (a:Int)) (.tup [.int 1,.int 2,.int 3]))=L8.map λa=>some (yP a):=by rfl'
theorem Gp(H:T)(a b:Nat):cX H .NotEq (.int a) (.int b)=some (!Nat.beq a b):=rfl
theorem ahX{i j:Nat}(hi:i∈PS)(bt:j∈PS)(s:Bool)(aG:(Nat.beq (bB i) 7&&Nat.beq (bB j) 7)=false){m:Nat}(av:200<=m)(D:List V)(c:Nat):bK G0 m (aE 143) [.tab,ax i,ax j,.bool s] (ar D c)=some (.bool (iu i j s),ar D c):=by
 obtain⟨n,rfl⟩:=c0 av
 refine WE.to ?_
 have EO:=bJ (Qg D c) (hT (bl yO hi))
 have ahY:=bJ (Qg D c) (hT (bl yO bt))
 refine cc rfl ?_
 refine cB (bo (fn:=aE 75) (az (vn (v:=.tab) (az (vn (v:=ax i) (bj (.of (kV hi (bH rfl) D c) ⟨cr rfl,?_⟩)))))))
 refine cB (bo (fn:=aE 75) (az (vn (v:=.tab) (az (vn (v:=ax j) (bj (.of (kV bt (bH rfl) D c) ⟨cr rfl,?_⟩)))))))
 refine bO (WE.is (a:=Nat.beq (bB i) 7&&Nat.beq (bB j) 7) (s:=ar D c) ?_ ?_)
 .refine fN (dD (b6 (vn (v:=.int (bB i)) (.og (v:=.int 7) ⟨_,i1 _ _ 7,?_⟩))))
  rcases Nat.beq (bB i) 7 with _|_
  .exact⟨rfl,rfl⟩
  refine dD (b6 (vn (v:=.int (bB j)) (.og (v:=.int 7) ⟨_,i1 _ _ 7,?_⟩)))
  rcases Nat.beq (bB j) 7 with _|_
  .exact⟨rfl,rfl⟩
  .exact dc ⟨rfl,rfl⟩
 unfold iu
 rw[aG]
 refine bm (bO (WE.is (a:=(Nat.beq (bB i) 7&& !Nat.beq (bB j) 0)) (s:=ar D c) ?_ ?_))
 .refine fN (dD (b6 (vn (v:=.int (bB i)) (.og (v:=.int 7) ⟨_,i1 _ _ 7,?_⟩))))
  rcases Nat.beq (bB i) 7 with _|_
  .exact⟨rfl,rfl⟩
  refine dD (b6 (vn (v:=.int (bB j)) (.og (v:=.int 0) ⟨_,Gp _ _ 0,?_⟩)))
  rcases Nat.beq (bB j) 0 with _|_
  .exact dc ⟨rfl,rfl⟩
  .exact⟨rfl,rfl⟩
 rcases e1:Nat.beq (bB i) 7&& !Nat.beq (bB j) 0 with _|_
 rotate_left
 .rw[ahU aG e1]
  refine ck (yM (vw (bo (fn:=aE 142) (az (vn (v:=.tab) (az (vn (v:=ax i) (bj (.of (Qf hi (bH rfl) D c) ⟨cr rfl,_,rfl,?_⟩)))))))))
  rcases sR i with _|_
  .exact⟨rfl,rfl⟩
  .exact iX (vn (v:=.int (bB j)) (.og (v:=.tup [.int 1,.int 2,.int 3]) ⟨_,ahY,rfl,rfl⟩))
 refine bm (bO (WE.is (a:=(Nat.beq (bB j) 7&& !Nat.beq (bB i) 0)) (s:=ar D c) ?_ ?_))
 .refine fN (dD (b6 (vn (v:=.int (bB j)) (.og (v:=.int 7) ⟨_,i1 _ _ 7,?_⟩))))
  rcases Nat.beq (bB j) 7 with _|_
  .exact⟨rfl,rfl⟩
  refine dD (b6 (vn (v:=.int (bB i)) (.og (v:=.int 0) ⟨_,Gp _ _ 0,?_⟩)))
  rcases Nat.beq (bB i) 0 with _|_
  .exact dc ⟨rfl,rfl⟩
  .exact⟨rfl,rfl⟩
 rcases e2:Nat.beq (bB j) 7&& !Nat.beq (bB i) 0 with _|_
 .rw[ahW aG e1 e2]
  exact bm (ck (cw (bo (fn:=aE 127) (az (vn (v:=.tab) (az (vn (v:=ax i) (az (vn (v:=ax j) (az (vn (v:=.bool s) (bj (.of (Gn hi bt s (bH rfl) D c) ⟨cr rfl,rfl,rfl⟩)))))))))))))
 .rw[ahV aG e2]
  refine ck (yM (vw (bo (fn:=aE 142) (az (vn (v:=.tab) (az (vn (v:=ax j) (bj (.of (Qf bt (bH rfl) D c) ⟨cr rfl,_,rfl,?_⟩)))))))))
  rcases sR j with _|_
  .exact⟨rfl,rfl⟩
  .exact iX (vn (v:=.int (bB i)) (.og (v:=.tup [.int 1,.int 2,.int 3]) ⟨_,EO,rfl,rfl⟩))
noncomputable def Gq:Fn:=⟨aA 98,[.int 0]⟩
def qr (i:Nat):Bool:=bY i [0,1,3,4,5,30,31,32]
theorem ao1:∃f,G0.fn "may_be_nullish"=some f/\f.dfl.length=1:=⟨⟨aA 98,[.int 0]⟩,by rfl',rfl⟩
theorem ahZ(n:Nat)(D:List V)(c:Nat):(PS.map λi=>bK G0 (n+100) Gq [.tab,ax i] (ar D c))=PS.map λi=>some (.bool (qr i),ar D c):=by rfl'
theorem ai0{i:Nat}(hi:i∈PS){m:Nat}(av:100<=m)(D:List V)(c:Nat):bK G0 m Gq [.tab,ax i] (ar D c)=some (.bool (qr i),ar D c):=by
 obtain⟨n,rfl⟩:=c0 av
 exact bJ (ahZ n D c) hi
noncomputable def inL:List (Nat×List Nat):=[(0,[4]),(0,[5]),(0,[4,5]),(0,[5,4]),(1,[4]),(1,[5]),(1,[4,5]),(1,[5,4]),(38,[4]),(38,[5]),(38,[4,5]),(38,[5,4]),(30,[4]),(30,[5])]
noncomputable def ai1 (i:Nat) (u:List Nat):List Nat:=match i with
 |0=>[0]
 |1=>u
 |30=>u.map (· +27)
 |_=>[]
noncomputable def ai2 (i:Nat):Nat:=match i with
 |30=>1
 |_=>0
theorem Qh(n:Nat)(D:List V)(c:Nat):(inL.map λp=>(bK G0 (n+120) (aE 97) [.tab,.tup [ax p.1,aH p.2]] (ar D c)).map kT)=inL.map λp=>kU (aH (ai1 p.1 p.2)) (c+ai2 p.1):=by rfl'
def dk:Nat->Nat:=lW [(0,16383),(1,16383),(3,1),(4,1),(5,2),(6,112),(7,1920),(8,4),(9,8),(10,14336),(11,16380),(15,8),(16,4096),(18,16),(19,32),(20,32),(21,64),(22,128),(23,256),(24,512),(25,128),(26,256),(27,32),(28,4096),(29,8192),(30,16383),(31,1),(32,2),(33,112),(34,1920),(35,4),(36,8),(37,14336),(38,16380)]
def cS (i v:Nat):Bool:=(dk i).testBit v
def cZ (l:List Nat) (v:Nat):Bool:=l.any λi=>cS i v
theorem HS_iff{l:List Nat}{v:Nat}:cZ l v=true↔∃i∈l,cS i v=true:=by unfold cZ;exact tt
theorem Qi{a b v:Nat}(h:Nat.beq (Nat.land a b) a=true)(al:a.testBit v=true):b.testBit v=true:=by
 have e:a&&&b=a:=ei h
 rw[<-e,qW,c6] at al
 exact al.2
def vx (i j:Nat):Bool:=Nat.beq (Nat.land (dk i) (dk j)) (dk i)
theorem Gs{i j v:Nat}(h:vx i j=true)(al:cS i v=true):cS j v=true:=Qi h al
noncomputable def Qj {α:Type} (f:α->Bool):Option α->Bool
 |some a=>f a
 |none=>true
def Qk (i:Nat):Bool:=Qj (λw=>vx i w&&(cN (ip w) (-1)&&cN (iY w) (-1))) (jL (ip i))
def Ql (i:Nat):Bool:=Qj (λt=>vx i t&&(cN (iY t) (-1)&&cN (ip t) (ip i))) (jL (iY i))
theorem ai3:(PS.all λi=>Qk i&&Ql i)=true:=by rfl'
theorem any_iEq{l:List Nat}{z:Int}:(l.any λj=>cN j z)=true↔∃j∈l,(j:Int)=z:=by
 rw[tt]
 exact⟨λ⟨j,h,e⟩=>⟨j,h,iEq_iff.mp e⟩,λ⟨j,h,e⟩=>⟨j,h,iEq_iff.mpr e⟩⟩
theorem stN_iff{l:List Nat}{i:Nat}:kR l i=true↔(∀j∈l,(j:Int)≠iY i)/\∀j∈l,(j:Int)≠ip i:=by
 unfold kR
 rw[c6,ki,ki,<-v5,<-v5,any_iEq,any_iEq]
 exact⟨λ⟨a,b⟩=>⟨λj h e=>a ⟨j,h,e⟩,λj h e=>b ⟨j,h,e⟩⟩,λ⟨a,b⟩=>⟨λ⟨j,h,e⟩=>a j h e,λ⟨j,h,e⟩=>b j h e⟩⟩
theorem ai4{l:List Nat}{i:Nat}(aa:iY i= -1)(ah:ip i= -1):kR l i=true:=stN_iff.mpr ⟨λj _ e=>(by rw [aa] at e;exact nomatch e),λj _ e=>by rw [ah] at e;exact nomatch e⟩
theorem ai5{l:List Nat}(ag:∀i∈l,i∈PS){v:Nat}:(∃i∈l.filter (kR l),cS i v=true)↔∃i∈l,cS i v=true:=by
 refine⟨λ⟨i,h,e⟩=>⟨i,(List.mem_filter.mp h).1,e⟩,λ⟨i,hi,e⟩=>?_⟩
 obtain⟨ur,Gu⟩:=aK (bl ai3 (ag i hi))
 unfold Qk at ur
 unfold Ql at Gu
 rcases eR (∃j∈l,(j:Int)=ip i) with cs|cs
 .obtain⟨w,cs,ql⟩:=cs
  rw[<-ql] at ur
  obtain⟨a,b⟩:=aK (show (vx i w&&(cN (ip w) (-1)&&cN (iY w) (-1)))=true from ur)
  obtain⟨b,c⟩:=aK b
  exact⟨w,List.mem_filter.mpr ⟨cs,ai4 (iEq_iff.mp c) (iEq_iff.mp b)⟩,Gs a e⟩
 rcases eR (∃j∈l,(j:Int)=iY i) with a1|a1
 .obtain⟨t,a1,ai6⟩:=a1
  rw[<-ai6] at Gu
  obtain⟨a,b⟩:=aK (show (vx i t&&(cN (iY t) (-1)&&cN (ip t) (ip i)))=true from Gu)
  obtain⟨b,c⟩:=aK b
  refine⟨t,List.mem_filter.mpr ⟨a1,stN_iff.mpr ⟨λj _ q=>?_,λj bt q=>cs ⟨j,bt,q.trans (iEq_iff.mp c)⟩⟩⟩,Gs a e⟩
  rw[iEq_iff.mp b] at q
  exact nomatch q
 .exact⟨i,List.mem_filter.mpr ⟨hi,stN_iff.mpr ⟨λj bt q=>a1 ⟨j,bt,q⟩,λj bt q=>cs ⟨j,bt,q⟩⟩⟩,e⟩
theorem addsN_mem:∀{m l:List Nat}{k:Nat},k∈m.foldl fe l↔k∈l\/k∈m
 |[],l,k=>by simp
 |i::m,l,k=>by
  rw[v7,addsN_mem,addN_mem,qY]
  exact⟨λh=>h.elim (λh=>h.elim .inl λh=> .inr (.inl h)) λh=> .inr (.inr h),λh=>h.elim (λh=> .inl (.inl h)) λh=>h.elim (λh=> .inl (.inr h)) .inr⟩
theorem gotN_mem{ls:List (List Nat)}{k:Nat}:k∈eb ls↔∃l∈ls,k∈l:=by
 have:∀(ls:List (List Nat)) g,k∈ls.foldl (λg l=>l.foldl fe g) g↔k∈g\/∃l∈ls,k∈l:=λls=>by
  induction ls with
  |nil=>intro g;simp
  |cons l ls bg=>
   intro g
   rw[v7,bg,addsN_mem]
   constructor
   .rintro((h|h)|⟨cK,h,q⟩)
    .exact .inl h
    .exact .inr ⟨l,dV ..,h⟩
    .exact .inr ⟨cK,.tail _ h,q⟩
   .rintro(h|⟨cK,h,q⟩)
    .exact .inl (.inl h)
    .rcases List.mem_cons.mp h with rfl|h
     .exact .inl (.inr q)
     .exact .inr ⟨cK,h,q⟩
 unfold eb
 rw[this];simp
theorem sS{l:List Nat}{n:Nat}(h:dg l (n:Int)=true):n∈l:=by
 obtain⟨j,bt,e⟩:=any_iEq.mp h
 exact Int.ofNat.inj e▸bt
theorem ai7{l:List Nat}(ag:∀i∈l,i∈PS)(h:dg l (14:Nat)=true){P:Prop}:P:=absurd (ag _ (sS h)) (by decide)
theorem Gv{l:List Nat}(ag:∀i∈l,i∈PS){k:Nat}(h:k∈g4 l):k∈l\/(k=8/\8∈l)\/(k=9/\(9∈l\/15∈l)):=by
 unfold g4 at h
 rcases q:(dg l 8||dg l 14)&&(dg l 9||dg l 15) with _|_<;>rw[q] at h
 .exact .inl h
 .obtain⟨bU,bZ⟩:=aK q
  rcases addN_mem.mp h with h|h
  .exact(addN_mem.mp h).imp id λe=> .inl ⟨e,((f9 ..).mp bU).elim sS λh=>ai7 ag h⟩
  .exact .inr (.inr ⟨h,((f9 ..).mp bZ).imp sS sS⟩)
theorem ai8{l:List Nat}{k:Nat}(h:k∈l):k∈g4 l:=by
 unfold g4
 rcases(dg l 8||dg l 14)&&(dg l 9||dg l 15) with _|_
 .exact h
 .exact addN_mem.mpr (.inl (addN_mem.mpr (.inl h)))
theorem Qm{g:List Nat}(h:Pts g)(a1:eF g≠ -1):((eF g).toNat=0\/(eF g).toNat=1)/\(eF g).toNat∈g:=by
 unfold eF at a1 |-
 rw[PM h] at a1 |-
 rcases e7:dg g 0 with _|_<;>rw[e7] at a1
 .rcases e1:dg g 1 with _|_<;>rw[e1] at a1
  .exact absurd rfl a1
  .exact⟨.inr rfl,sS e1⟩
 .exact⟨.inl rfl,sS e7⟩
theorem vy{i v:Nat}(h:i=0\/i=1)(al:v<14):cS i v=true:=by
 have:(List.range 14).all (λv=>cS 0 v&&cS 1 v)=true:=by rfl'
 have:=bl this (List.mem_range.mpr al)
 rw[c6] at this
 rcases h with rfl|rfl
 .exact this.1
 .exact this.2
theorem ai9{g u:List Nat}(bx:Pts g)(a7:eG g u){v:Nat}(al:v<14):cZ u v=true↔∃i∈g,cS i v=true:=by
 rw[HS_iff]
 rcases a7 with ⟨_,p⟩|⟨a1,rfl⟩
 .have e:(∃i∈u,cS i v=true)↔∃i∈m2 g,cS i v=true:=⟨λ⟨i,h,e⟩=>⟨i,p.mem_iff.mp h,e⟩,λ⟨i,h,e⟩=>⟨i,p.mem_iff.mpr h,e⟩⟩
  rw[e]
  unfold m2
  rw[ai5 bx.jn.sub]
  refine⟨λ⟨i,h,e⟩=>?_,λ⟨i,h,e⟩=>⟨i,ai8 h,e⟩⟩
  rcases Gv bx.sub h with h|⟨rfl,h'⟩|⟨rfl,h'|h'⟩
  .exact⟨i,h,e⟩
  .exact⟨8,h',e⟩
  .exact⟨9,h',e⟩
  .exact⟨15,h',Gs (i:=9) (by rfl') e⟩
 .obtain⟨a,b⟩:=Qm bx a1
  exact⟨λ_=>⟨_,b,vy a al⟩,λ_=>⟨_,List.mem_singleton.mpr rfl,vy a al⟩⟩
theorem aia{g u:List Nat}(bx:Pts g)(a7:eG g u){k:Nat}(h:k∈u):k∈g\/k=8\/k=9:=by
 rcases a7 with ⟨_,p⟩|⟨a1,rfl⟩
 .have h:=p.mem_iff.mp h
  unfold m2 at h
  rcases Gv bx.sub (List.mem_filter.mp h).1 with h|⟨rfl,h⟩|⟨rfl,h⟩
  .exact .inl h
  .exact .inr (.inl rfl)
  .exact .inr (.inr rfl)
 .rw[dG h]
  exact .inl (Qm bx a1).2
theorem vz{a3:List (List Nat)}{u:List Nat}(aq:∀r∈a3,Pts r)(a7:eG (eb a3) u){v:Nat}(al:v<14):cZ u v=true↔∃r∈a3,cZ r v=true:=by
 rw[ai9 (yA aq) a7 al]
 constructor
 .rintro⟨i,h,e⟩
  obtain⟨l,ag,q⟩:=gotN_mem.mp h
  exact⟨l,ag,HS_iff.mpr ⟨i,q,e⟩⟩
 .rintro⟨l,ag,q⟩
  obtain⟨i,h,e⟩:=HS_iff.mp q
  exact⟨i,gotN_mem.mpr ⟨l,ag,h⟩,e⟩
theorem Gx{a3:List (List Nat)}{u:List Nat}(aq:∀r∈a3,Pts r)(a7:eG (eb a3) u){k:Nat}(h:k∈u):(∃r∈a3,k∈r)\/k=8\/k=9:=(aia (yA aq) a7 h).imp gotN_mem.mp id
theorem Pts.one{i:Nat}(h:i∈PS):Pts [i]:=⟨λj bt=>by rw [dG bt];exact h,by simp⟩
noncomputable def bF (i:Nat):V:=.int (i:Int)
def bV (L:List Nat):V:=.list (L.map bF)
noncomputable def R14:List Nat:=[0,1,2,3,4,5,6,7,8,9,10,11,12,13]
def cT (p:Nat->Bool):List Nat:=R14.filter p
def fw:V:=.dict ((.int 2,.list [])::kindsL.map λp=>(.int p.1,hV p.2))
def PS2:List Nat:=2::PS
theorem Qn{i:Nat}:∀{l:List Nat},i∈l->bY i l=true
 |j::l,h=>by
  unfold bY
  rcases List.mem_cons.mp h with rfl|h
  .rw[jF];rfl
  .rw[Qn h];cases Nat.beq j i<;>rfl
theorem memN_eq{i:Nat}{l:List Nat}:bY i l=true↔i∈l:=⟨hT,Qn⟩
theorem Gy(H:T)(v:Nat):∀L:List Nat,H.mem (.int (v:Int)) (L.map bF)=some (bY v L)
 |[]=>rfl
 |j::L=>by
  have e:H.eq (bF j) (.int (v:Int))=some (Nat.beq j v):=rfl
  simp only[km,T.mem,e,bY,Gy H v L]
  cases Nat.beq j v<;>rfl
theorem yR(H:T)(v:Nat)(L:List Nat):cX H .In (.int (v:Int)) (bV L)=some (bY v L):=Gy H v L
theorem Gz(H:T)(v:Nat)(L:List Nat):cX H .NotIn (.int (v:Int)) (bV L)=some (!bY v L):=by
 show (H.mem (.int (v:Int)) (L.map bF)).map (!·)=_
 rw[Gy];rfl
theorem R14_mem{v:Nat}:v∈R14↔v<14:=by
 have:R14=List.range 14:=by decide
 rw[this,List.mem_range]
theorem fV_mem{p:Nat->Bool}{v:Nat}:v∈cT p↔v<14/\p v=true:=by
 unfold cT
 rw[List.mem_filter,R14_mem]
theorem ot(p:Nat->Bool):(cT p).length<=14:=v3 ..
theorem Qo{L:List Nat}(h:L.length<=4096):cz (L.map bF)=true:=i0 h
theorem aib(L:List Nat):(L.map bF).all V.flat=true:=by
 rw[i6]
 exact List.all_eq_true.mpr λ_ _=>rfl
theorem sT(n:Nat):∀{c:Cx}{J:am}{H:T}{x:Str}{p:Pos}{Q:V->T->Prop},a9 x "_law_all"=true->gy c x=true->Q (bV R14) H->WE (aN G0 (n+1) c J (.Name x p) H) Q:=λ{c J H x p Q} hx aj q=>by
 have e:=sEq_iff.mp hx
 subst e
 refine⟨bV R14,H,?_,q⟩
 have al:G0.val "_law_all"=some (bV R14):=by rfl'
 show cond (gy c _) (Mine.pt H (G0.val _)) _=_
 rw[aj,al];rfl
section
variable {G:Gl}{n:Nat}{c:Cx}{J:am}{H:T}{Q:V->T->Prop}{eE:List V->T->Prop}
theorem Qp{b s:Expr}{p:Pos}(h:WE (aN G n c J (.Subscript b s p) H) (KI eE)):WE (gA G (n+1) c J (.Subscript b s p) H) eE:=
 WE.ob (h.mono λ_ _ ⟨_,aJ,q⟩=>WE.pt aJ q)
theorem sU{b s:Expr}{r p q:Pos}{k:Const}{j:Nat}(h:WE (aN G n c J (.Subscript b s r) H) (Pl (aN G n c J) Q (.Constant k j q))):WE (aN G (n+1) c J (.Subscript (.Subscript b s r) (.Constant k j q) p) H) Q:=
 WE.ob (h.mono λ_ _ h=>WE.ob (h.mono λ_ _ ⟨_,h,q⟩=>WE.pt h q))
end
section
variable {G:Gl}{n:Nat}{c:Cx}{J:am}{H:T}{Q:V->T->Prop}
theorem aic{B:List Nat}{m:Nat->V}(h:B.length<=4096)(p:Nat->Bool):cz ((B.filter p).map m)=true:=i0 (aT (v3 ..) h)
theorem yS{y x f:Str}{mU xp tp uZ cR fL:Pos}{ifs:List Expr}{sc:Scope}{B:List Nat}{m:Nat->V}{p:Nat->Bool}(Eh:B.length<=4096)(av:∀v,V.flat (m v)=true)(aY:a2 J y=some (.list (B.map m),false))(a1:∀v∈B,WE (FN G (n+2) c J x sc ifs (m v) H) (Is (p v) H))(q:Q (.int ((B.filter p).length:Nat)) H)(a6:(a9 f dy&&fF c y&&lj x sc c.sc&&fF {c with sc:=sc} x&&gy c f)=true:=by rfl')(aj:lk c.sc.names f=some .globalImplicit:=by rfl')(bx:G.fn f=none:=by rfl')(aq:G.free f=true:=by rfl'):
  WE (b7 c J (aN G (n+4) c J) (.Call (.Name f cR) [.ListComp (.Name x xp) [⟨.Name x tp,.Name y mU,ifs,0⟩] sc uZ] [] fL) H) Q:=by
 obtain⟨a6,_⟩:=aK a6
 obtain⟨a6,bC⟩:=aK a6
 obtain⟨a6,aC⟩:=aK a6
 obtain⟨aa,ah⟩:=aK a6
 have e:=sEq_iff.mp aa
 subst e
 have M:=kQ (test:=FN G (n+2) c J x sc ifs) (elt:=FO G (n+2) c J x sc (.Name x xp)) (p:=p) (f:=m) (g:=m) a1 λv _=>sE (v:=m v) bC (by show cond (a9 x x) _ _=_;rw[sEq_iff.mpr rfl];rfl) ⟨rfl,rfl⟩
 have k:=aic (m:=m) Eh p
 refine cw (ef (az (j8 (d8 (ht (sE ah aY ⟨_,rfl,.of M ⟨?_,bj ⟨_,sF k,?_⟩⟩⟩)) aC))) aj bx aq (by rfl'))
 .exact(c6 _ _).mpr ⟨by rw [i6];exact List.all_eq_true.mpr λv _=>av v,k⟩
 .rw[eQ];exact q
end
theorem Qq{p:Nat->Bool}:∀{l:List Nat},e0 0 ((l.filter p).length:Nat)=l.any p
 |[]=>by rfl'
 |a::l=>by
  rw[qT,h1]
  rcases p a with _|_
  .exact Qq
  .rfl'
theorem GA{H:T}{p:Nat->Bool}{l:List Nat}:cX H .Gt (.int ((l.filter p).length:Nat)) (.int 0)=some (l.any p):=congrArg some Qq
theorem vA{p:Nat->Bool}:(((cT p).map bF).all V.flat&&cz ((cT p).map bF))=true:=(c6 _ _).mpr ⟨aib _,Qo (aT (ot _) (by decide))⟩
theorem aid(n:Nat)(D:List V)(c:Nat):(PS2.map λi=>bK G0 (n+100) (aE 161) [.tab,fw,ax i] (ar D c))=PS2.map λi=>some (bV (cT (cS i)),ar D c):=by rfl'
theorem yT{i:Nat}(hi:i∈PS2){m:Nat}(av:100<=m)(D:List V)(c:Nat):bK G0 m (aE 161) [.tab,fw,ax i] (ar D c)=some (bV (cT (cS i)),ar D c):=by
 obtain⟨n,rfl⟩:=c0 av
 exact bJ (aid n D c) hi
def vB (l:List Nat):V:=.tup [.int 6,.tup (l.map ax)]
theorem GB{i j:Nat}{r:List Nat}(D:List V)(c:Nat):(ar D c).rowOf (aH (i::j::r))=some (vB (i::j::r))/\cX (ar D c) .In (aH (i::j::r)) fw=some false:=by
 have e:aH (i::j::r)=match f0 (i::j::r) [8,9] with|true=> .int 12|false=> .ty (.tup [.int 6,.tup ((i::j::r).map ax)]):=rfl
 rw[e]
 unfold vB
 cases q:f0 (i::j::r) [8,9] with
 |true=>
  rw[lEq_iff.mp q]
  exact⟨by rfl',by rfl'⟩
 |false=>
  generalize (i::j::r).map ax=L
  exact⟨by rfl',by rfl'⟩
theorem Qr{p q:Nat->Bool}(h:∀v,v<14->p v=q v):cT p=cT q:=by
 unfold cT
 exact List.filter_congr λv al=>h v (R14_mem.mp al)
theorem aie(v:Nat):cS 2 v=cZ [] v:=by
 unfold cS
 rw[show dk 2=0 by decide,qV];rfl
theorem GC{l:List Nat}(ag:Pts l){m:Nat}(av:140<=m)(D:List V)(c:Nat):bK G0 m (aE 161) [.tab,fw,aH l] (ar D c)=some (bV (cT (cZ l)),ar D c):=by
 obtain⟨n,rfl⟩:=c0 av
 have kc:=ag.len
 match l,ag with
 |[],_=>exact(yT (i:=2) (by decide) (bH rfl) D c).trans (by rw [Qr (q:=cZ []) (λv _=>aie v)])
 |[i],ag=>exact(yT (i:=i) (.tail _ (ag.sub i (dV ..))) (bH rfl) D c).trans (by rw [Qr (q:=cZ [i]) (λv _=>by simp [cZ])])
 |i::j::r,ag=>
 obtain⟨Qs,sV⟩:=GB (i:=i) (j:=j) (r:=r) D c
 have yC:aH (i::j::r)=aH (i::j::r):=rfl
 generalize aH (i::j::r)=X at Qs sV |-
 refine WE.to ?_
 generalize i::j::r=l at*
 refine cc rfl ?_
 refine bO (b6 (vn (v:=X) (vn (v:=fw) ⟨_,sV,?_⟩)))
 refine bm ?_
 refine cB (ql (dE (v:=.tab) ⟨rfl,dE (v:=X) ⟨_,Qs,?_⟩⟩))
 refine bO (b6 (lX (yB (vn (v:=vB l) (.og (v:=.int 0) ⟨.int 6,rfl,.og (v:=.int 6) ⟨true,rfl,?_⟩⟩)))))
 refine cB (d8 (Qp (yB (vn (v:=vB l) (.og (v:=.int 1) ⟨.tup (l.map ax),rfl,_,rfl,?_⟩)))))
 refine .of (sO (g:=λi=>bV (cT (cS i))) (λi hi=>dc ⟨rfl,rfl⟩) λi hi=>?_) ⟨?_,?_⟩
 .exact bo (fn:=aE 161) (az (vn (v:=.tab) (az (vn (v:=fw) (az (vn (v:=ax i) (bj (.of (yT (.tail _ (ag.sub i hi)) (bH rfl) D c) ⟨cr rfl,rfl,rfl⟩))))))))
 .exact(c6 _ _).mpr ⟨by rw [i6];exact List.all_eq_true.mpr λ_ _=>rfl,i0 (aT kc (by decide))⟩
 refine ck (j8 (d8 (ht (sT _ (by rfl') (by rfl') ⟨_,rfl,.of (kQ (p:=cZ l) (g:=bF) (λv al=>?_) λv al=>dE ⟨rfl,rfl⟩) ⟨vA,rfl,rfl⟩⟩))))
 refine dD (b6 (yS (B:=l) (m:=λi=>bV (cT (cS i))) (p:=λi=>cS i v) (aT kc (by decide)) (λ_=>rfl) (by rfl') (λi hi=>?_) (.og (v:=.int 0) ⟨cZ l v,GA,?_⟩)))
 .refine dD (b6 (vn (v:=bF v) (vn (v:=bV (cT (cS i))) ⟨_,yR _ v _,?_⟩)))
  have e:bY v (cT (cS i))=cS i v:=by
   rw[i5,memN_eq,fV_mem]
   exact⟨λh=>h.2,λh=>⟨R14_mem.mp al,h⟩⟩
  rw[e]
  rcases cS i v with _|_
  .exact⟨rfl,rfl⟩
  .exact dc ⟨rfl,rfl⟩
 .rcases cZ l v with _|_
  .exact⟨rfl,rfl⟩
  .exact dc ⟨rfl,rfl⟩
def g5 (dl may:List Nat) (i:Nat):Bool:=Nat.blt 30 i||bY i dl||(R14.any λv=>cS i v&&bY v may)
structure Good (l u sure may dl:List Nat):Prop where
 keep:∀v,v<14->cZ l v=true->bY v sure=true->cZ u v=true
 only:∀v,v<14->cZ u v=true->∃i∈l,g5 dl may i=true/\cS i v=true
section
variable {G:Gl}{n:Nat}{c:Cx}{J:am}{H:T}{Q:V->T->Prop}{eD:Bool->T->Prop}
theorem Qt{es:List Expr}{p:Pos}(h:WE (dz (aN G n c J) es H) (Pe Q)):WE (aN G (n+1) c J (.List es p) H) Q:=
 WE.ob (h.mono λ_ _ h=>WE.ow h.1 (.of rfl h.2))
theorem eX{l r:Expr}{op:Operator}{p:Pos}(h:WE (b7 c J (aN G n c J) l H) (afZ c J (aN G n c J) Q op r)):WE (aN G (n+1) c J (.BinOp l op r p) H) Q:=
 WE.ob (h.mono λ_ _ h=>WE.ob (h.mono λ_ _ h=>let ⟨_,h,q⟩:=h;WE.pt h q))
theorem Qu{α bR:Type}{turn:V->am->T->Option (Fl×am×T)}{f:α->V}{I:List α->bR->am->T->Prop}{st:bR->α->bR}(a1:∀a l b J H,I (a::l) b J H->WS (turn (f a) J H) (f6 (I l (st b a)))):
  ∀(l:List α) b J H,I l b J H->WS (je turn (l.map f) J H) (f6 (I [] (l.foldl st b)))
 |[],b,J,H,h=>oo ⟨rfl,h⟩
 |a::l,b,J,H,h=>by
  obtain⟨bw,bb,O,e,e1,h'⟩:=a1 a l b J H h
  rw[e1] at e
  exact cJ ⟨_,_,_,e,Qu a1 l _ bb O h'⟩
end
noncomputable def dlL:List (List Nat):=[[],[16,28,29]]
theorem aif(D:List V)(c:Nat):(PS2.map λi=>cX (ar D c) .NotIn (ax i) fw)=PS2.map λi=>some (Nat.blt 30 i):=by rfl'
theorem aig(D:List V)(c:Nat):(dlL.map λd=>PS2.map λi=>cX (ar D c) .In (ax i) (bV d))=dlL.map λd=>PS2.map λi=>some (bY i d):=by rfl'
theorem aih(D:List V)(c:Nat):(PS2.map λi=>((ar D c).rowOf (ax i)).bind λr=>(fE (ar D c) r (.int 0)).bind λk=>cX (ar D c) .Eq k (.int 6))=PS2.map λ_=>some false:=by rfl'
def jz (dl may:List Nat) (b:List Nat) (i:Nat):List Nat:=b++cond (g5 dl may i) (cT (cS i)) []
theorem aii{dl may b:List Nat}{i v:Nat}:v∈jz dl may b i↔v∈b\/(g5 dl may i=true/\v<14/\cS i v=true):=by
 unfold jz
 rw[zP]
 refine or_congr qZ ?_
 rcases g5 dl may i with _|_
 .exact⟨(λh=>nomatch h),λh=>c2 h.1⟩
 .exact fV_mem.trans ⟨λh=>⟨rfl,h⟩,λh=>h.2⟩
theorem stO_mem{dl may:List Nat}{v:Nat}:∀{l b:List Nat},v∈l.foldl (jz dl may) b↔v∈b\/∃i∈l,g5 dl may i=true/\v<14/\cS i v=true
 |[],b=>⟨.inl,λh=>h.elim id λ⟨_,h,_⟩=>nomatch h⟩
 |i::l,b=>by
  rw[v7,stO_mem,aii,or_assoc]
  refine or_congr qZ ⟨λh=>h.elim (λh=>⟨i,.head _,h⟩) λ⟨j,bt,h⟩=>⟨j,.tail _ bt,h⟩,λ⟨j,bt,h⟩=>(List.mem_cons.mp bt).elim (λe=> .inl (e▸h)) λbt=> .inr ⟨j,bt,h⟩⟩
theorem aij(dl may b:List Nat)(i:Nat):(jz dl may b i).length<=b.length+14:=by
 unfold jz
 rw[d5]
 cases g5 dl may i
 .exact dh (iB _) _
 .exact dh (ot _) _
theorem GD{a b:List Nat}(h:(a++b).length<=4096):kr .Add (bV a) (bV b)=some (bV (a++b)):=by
 have h':=Qo h
 show ow (cz (a.map bF++b.map bF)) (some (V.list (a.map bF++b.map bF)))=some (V.list ((a++b).map bF))
 rw[<-nj,h'];rfl
noncomputable def m6 (l:List Nat):List Nat:=match l with
 |[]=>[2]
 |l=>l
def GF:=an "book"
def GG:=an "dull"
def GH:=an "may"
def GI:=an "got"
def aik:=an "open_ones"
def ao2:=an "mine"
def yU (B a7 dl may:List Nat):am:=[bE cF .tab,bE GF fw,bE GG (bV dl),bE GH (bV may),bE GI (bV a7),bE aik (bV B)]
theorem Qv{l:List Nat}(ag:Pts l)(D:List V)(c:Nat):∃row k,(ar D c).rowOf (aH l)=some row/\fE (ar D c) row (.int 0)=some k/\cX (ar D c) .Eq k (.int 6)=some (Nat.ble 2 l.length):=by
 have one:∀i∈PS2,∃row k,(ar D c).rowOf (ax i)=some row/\fE (ar D c) row (.int 0)=some k/\cX (ar D c) .Eq k (.int 6)=some false:=λi hi=>by
  have h:=bJ (aih D c) hi
  obtain⟨r,e1,h⟩:=oQ h
  obtain⟨k,e2,h⟩:=oQ h
  exact⟨r,k,e1,e2,h⟩
 match l,ag with
 |[],_=>exact one 2 (by decide)
 |[i],ag=>exact one i (.tail _ (ag.sub i (dV ..)))
 |i::j::r,_=>exact⟨_,.int 6,(GB D c).1,rfl,rfl⟩
theorem ail{p q:Nat->Bool}:(cT p).any q=R14.any λv=>p v&&q v:=by
 unfold cT
 rw[List.any_filter]
theorem aim{l:List Nat}(ag:Pts l):(∀i∈m6 l,i∈PS2)/\(m6 l).length<=34/\∀i∈l,i∈m6 l:=by
 match l,ag with
 |[],_=>exact⟨by decide,by decide,λ_ h=>nomatch h⟩
 |a::r,ag=>exact⟨λi hi=> .tail _ (ag.sub i hi),ag.len,λ_ h=>h⟩
structure RI (a7 dl may:List Nat) (D:List V) (c:Nat) (r b:List Nat) (J:am) (O:T):Prop where
 fr:Has J (yU b a7 dl may)
 len:b.length+14*r.length<=4096
 mem:∀i∈r,i∈PS2
 st:O=ar D c
theorem RI.next{a7 dl may:List Nat}{D:List V}{c i:Nat}{r b:List Nat}{J bb:am}{O:T}(h:RI a7 dl may D c (i::r) b J O)(U:Has bb (yU (jz dl may b i) a7 dl may)):RI a7 dl may D c r (jz dl may b i) bb (ar D c):=
 ⟨U,by have:=h.len;have:=aij dl may b i;rw[kk] at*;lia,λj bt=>h.mem j (.tail _ bt),rfl⟩
theorem RI.room{a7 dl may:List Nat}{D:List V}{c i:Nat}{r b:List Nat}{J:am}{O:T}(h:RI a7 dl may D c (i::r) b J O):(b++cT (cS i)).length<=4096:=by
 have:=h.len
 have:=ot (cS i)
 rw[kk] at*
 rw[d5]
 lia
theorem ain{dl may a7 b:List Nat}(aQ:dl∈dlL){n:Nat}{D:List V}{c i:Nat}(hi:i∈PS2){J:am}(U:Has J (cb (cb (yU b a7 dl may) "part" (ax i) false) "mine" (bV (cT (cS i))) false)):
  WE (dR G0 (n+8) (eP 164) J (qo ((lY ((aE 164).bd.drop 6)).drop 1)) (ar D c)) (Is (g5 dl may i) (ar D c)):=by
 refine fN (fp (b6 (aM U (v:=ax i) (aM U (v:=fw) ⟨_,bJ (aif D c) hi,?_⟩))))
 unfold g5
 rcases Nat.blt 30 i with _|_
 rotate_left
 .exact⟨rfl,rfl⟩
 refine fp (b6 (aM U (v:=ax i) (aM U (v:=bV dl) ⟨_,bJ (bJ (aig D c) aQ) hi,?_⟩)))
 rcases bY i dl with _|_
 rotate_left
 .exact⟨rfl,rfl⟩
 refine fp (b6 (yS (m:=bF) (p:=λv=>bY v may) (aT (ot (cS i)) (by decide)) (λ_=>rfl) U.g (λv _=>?_) (.og (v:=.int 0) ⟨_,GA,?_⟩)))
 .have U:=U.push (x:="v") (s:=(bF v,false))
  refine dD (b6 (aM U (v:=bF v) (aM U (v:=bV may) ⟨_,yR _ v _,?_⟩)))
  rcases bY v may with _|_
  .exact⟨rfl,rfl⟩
  .exact dc ⟨rfl,rfl⟩
 .rw[ail]
  rcases R14.any λv=>cS i v&&bY v may with _|_
  .exact dc ⟨rfl,rfl⟩
  .exact⟨rfl,rfl⟩
theorem aio{dl may a7:List Nat}(aQ:dl∈dlL){n:Nat}{D:List V}{c i:Nat}{r b:List Nat}{J:am}{H:T}(h:RI a7 dl may D c (i::r) b J H):
  WS (om G0 (n+110) (eP 164) (sG ((aE 164).bd.drop 6)) (lY ((aE 164).bd.drop 6)) (ax i) J H) (f6 (RI a7 dl may D c r (jz dl may b i))):=by
 rw[h.st]
 have hi:=h.mem i (dV ..)
 refine ka h.fr λJ U=>cH U (bo (fn:=aE 161) (az (aM U (v:=.tab) (az (aM U (v:=fw) (az (aM U (v:=ax i) (bj (.of (yT hi (bH rfl) D c) ⟨cW U,λJ U=>?_⟩)))))))))
 refine bO (WE.is (ain aQ hi U) ?_)
 have es:jz dl may b i=b++cond (g5 dl may i) (cT (cS i)) []:=rfl
 have next:∀{bb},_->RI a7 dl may D c r (jz dl may b i) bb _:=h.next
 rw[es] at next |-
 generalize g5 dl may i=t at next |-
 rcases t with _|_
 .exact bm (bm ⟨rfl,next (by rw [cond_false,eh];exact U.sub)⟩)
 .exact cH U (eX (aM U (v:=bV b) (aM U (v:=bV (cT (cS i))) ⟨_,GD h.room,λJ U=>bm (bm ⟨rfl,next U.sub⟩)⟩)))
section
variable {l u sure may dl:List Nat}{n:Nat}{D:List V}{c:Nat}{J:am}
theorem Qw{p:Nat->Bool}:(cT p).length<=4096:=aT (ot _) (by decide)
theorem aip(GJ:∀i∈l,i∈m6 l)(g:Good l u sure may dl)(U:Has J (yU ((m6 l).foldl (jz dl may) []) (cT (cZ u)) dl may)):WS (bv G0 (n+20) (eP 164) J ((aE 164).bd.drop 7) (ar D c)) (jw (Is (.bool true) (ar D c))):=by
 refine ck (PA (iX (yS (B:=cT (cZ u)) (m:=bF) (p:=λ_=>false) Qw (λ_=>rfl) U.g (λv al=>?_) (.og (v:=.int 0) ⟨true,?_,rfl,rfl⟩))))
 .have fK:=fV_mem.mp al
  have U:=U.push (x:="v") (s:=(bF v,false))
  refine dD (b6 (aM U (v:=bF v) (aM U (v:=bV ((m6 l).foldl (jz dl may) [])) ⟨_,Gz _ v _,?_⟩)))
  obtain⟨i,hi,a,b⟩:=g.only v fK.1 fK.2
  rw[memN_eq.mpr (stO_mem.mpr (.inr ⟨i,GJ i hi,a,fK.1,b⟩))]
  exact⟨rfl,rfl⟩
 .rw[List.filter_eq_nil_iff.mpr (λ_ _=>Bool.false_ne_true)];rfl
theorem aiq(ag:Pts l)(aQ:dl∈dlL)(g:Good l u sure may dl){P:V}(qi:hd P=some ((m6 l).map ax))(U:Has J [bE cF .tab,bE GF fw,bE GG (bV dl),bE GH (bV may),bE GI (bV (cT (cZ u))),bE "parts" P]):WS (bv G0 (n+130) (eP 164) J ((aE 164).bd.drop 5) (ar D c)) (jw (Is (.bool true) (ar D c))):=by
 refine cH U (.og (v:=.list []) λJ U=>?_)
 obtain⟨im,GJ,air⟩:=aim ag
 refine il (ht (dt U (v:=P) ⟨_,qi,?_⟩))
 refine(Qu (I:=RI (cT (cZ u)) dl may D c) (st:=jz dl may) (λ_ _ _ _ _ h=>aio aQ h) (m6 l) [] _ _ ⟨U.sub,aT (dh (oL 14 GJ) 0) (by decide),im,rfl⟩).mono ?_
 rintro f J O ⟨e,U,_,_,e2⟩
 rw[e,e2]
 exact aip air g U
theorem ais(ag:Pts l)(aQ:dl∈dlL)(g:Good l u sure may dl)(U:Has J [bE cF .tab,bE GF fw,bE GG (bV dl),bE GH (bV may),bE "before" (aH l),bE GI (bV (cT (cZ u)))]):WS (bv G0 (n+132) (eP 164) J ((aE 164).bd.drop 3) (ar D c)) (jw (Is (.bool true) (ar D c))):=by
 refine cH U (Qt (az (dt U (v:=aH l) (bj ⟨by rw [oO,vr];rfl,λJ U=>?_⟩))))
 obtain⟨row,k,aa,ah,aC⟩:=Qv ag D c
 refine bO (b6 (lX (sU (ql (dt U (v:=.tab) ⟨rfl,dt U (v:=aH l) ⟨_,aa,.og (v:=.int 0) ⟨_,ah,.og (v:=.int 6) ⟨_,aC,?_⟩⟩⟩⟩)))))
 have pz:=λ{J:am} {P:V} (qi:hd P=some ((m6 l).map ax))=>aiq (J:=J) (n:=n) (D:=D) (c:=c) ag aQ g qi
 rcases l with _|⟨i,_|⟨j,r⟩⟩
 .exact bm (pz (P:=.list [ax 2]) rfl U.sub)
 .exact bm (pz (P:=.list [ax i]) rfl U.sub)
 .have aJ:fE (ar D c) (vB (i::j::r)) (.int 1)=some (.tup ((i::j::r).map ax)):=rfl
  exact cH U (sU (ql (dt U (v:=.tab) ⟨rfl,dt U (v:=aH (i::j::r)) ⟨_,(GB D c).1,.og (v:=.int 1) ⟨_,aJ,λJ U=>bm (pz (P:=.tup ((i::j::r).map ax)) rfl U.sub)⟩⟩⟩)))
end
theorem Qx{l u sure may dl:List Nat}(ag:Pts l)(bG:Pts u)(aQ:dl∈dlL)(g:Good l u sure may dl){m:Nat}(av:180<=m)(D:List V)(c:Nat):
  bK G0 m (aE 164) [.tab,fw,bV dl,aH l,aH u,bV sure,bV may] (ar D c)=some (.bool true,ar D c):=by
 obtain⟨n,rfl⟩:=c0 av
 refine WE.to ?_
 refine cc rfl ?_
 refine cB (bo (fn:=aE 161) (az (vn (v:=.tab) (az (vn (v:=fw) (az (vn (v:=aH l) (bj (.of (GC ag (bH rfl) D c) ⟨cr rfl,?_⟩)))))))))
 refine cB (bo (fn:=aE 161) (az (vn (v:=.tab) (az (vn (v:=fw) (az (vn (v:=aH u) (bj (.of (GC bG (bH rfl) D c) ⟨cr rfl,?_⟩)))))))))
 refine bO (b6 (yS (B:=cT (cZ l)) (m:=bF) (p:=λ_=>false) Qw (λ_=>rfl) (by rfl') (λv al=>?_) (.og (v:=.int 0) ⟨_,GA,?_⟩)))
 .have fK:=fV_mem.mp al
  refine dD (fN (dD (b6 (vn (v:=bF v) (vn (v:=bV sure) ⟨_,yR _ v _,?_⟩)))))
  rcases e:bY v sure with _|_
  .exact⟨rfl,rfl⟩
  .refine dD (b6 (vn (v:=bF v) (vn (v:=bV (cT (cZ u))) ⟨_,Gz _ v _,?_⟩)))
   rw[memN_eq.mpr (fV_mem.mpr ⟨fK.1,g.keep v fK.1 fK.2 e⟩)]
   exact⟨rfl,rfl⟩
 rw[show (cT (cZ l)).any (λ_=>false)=false from List.any_eq_false.mpr λ_ _=>Bool.false_ne_true]
 exact bm (ais ag aQ g (Has.sub .rfl))
section
variable {G:Gl}{n:Nat}{c:Cx}{J:am}{H:T}{Q:V->T->Prop}{eD:Bool->T->Prop}{b0:Fl->am->T->Prop}{eE:List V->T->Prop}
abbrev ait (G:Gl) (n:Nat) (c:Cx) (L:am) (b0:Fl->am->T->Prop) (x:Str) (l:List V) (r:List Stmt) (v:V) (H:T):Prop:=(v.flat&&cz l)=true/\∀J,Has J (cb L x (.list (l++[v])) true)->WS (bv G n c J r H) b0
theorem sW{L:am}(U:Has J L){x m:Str}{p mp q ca:Pos}{a:Expr}{r:List Stmt}{l:List V}(h:WE (aN G n c J a H) (ait G n c L b0 x l r))(aq:a2 L x=some (.list l,true):=by rfl')(ag:d6 c x=true:=by rfl')(av:(a9 m jd&&mp.endLine==q.line)=true:=by rfl'):
  WS (bv G (n+1) c J (.Expr (.Call (.Attribute (.Name x p) m mp) [a] [] q) ca::r) H) b0:=by
 obtain⟨aa,ah⟩:=aK av
 show WS (wE c J (aN G n c J) (λJ H=>bv G n c J r H) x m a (.Call (.Attribute (.Name x p) m mp) [a] [] q) (mp.endLine==q.line) H (pb J x)) b0
 rw[agp (U.g aq)]
 refine WS.ow (by rw [ag,ah];rfl) ?_
 rw[aa]
 exact WE.obS (h.mono λ_ _ k=>WS.ow k.1 (k.2 _ U.upd))
theorem vC{α:Type}{turn:V->am->T->Option (Fl×am×T)}{f:α->V}{I:List α->List α->am->T->Prop}(a1:∀d a l J H,I d (a::l) J H->WS (turn (f a) J H) (f6 (I (d++[a]) l))):
  ∀(l d:List α) J H,I d l J H->WS (je turn (l.map f) J H) (f6 (I (d++l) []))
 |[],d,J,H,h=>oo ⟨rfl,by rw [eh];exact h⟩
 |a::l,d,J,H,h=>by
  obtain⟨bw,bb,O,e,e1,h'⟩:=a1 d a l J H h
  rw[e1] at e
  have:=vC a1 l (d++[a]) bb O h'
  rw[iA,List.singleton_append] at this
  exact cJ ⟨_,_,_,e,this⟩
theorem Qy{t b o:Expr}{p:Pos}(h:WE (dR G n c J t H) (ag0 (aN G n c J) Q b o)):WE (aN G (n+1) c J (.IfExp t b o p) H) Q:=WE.ob h
theorem aiu{f:Expr->T->Option (V×T)}{a b d p}(h:WE (f (.IfExp a b d p) H) Q):WE (b7 c J f (.IfExp a b d p) H) Q:=h
theorem Qz{f:Expr->T->Option (V×T)}{a b d}(h:WE (f (.Tuple a b d) H) Q):WE (b7 c J f (.Tuple a b d) H) Q:=h
end
def QA(b:Bool)(k:Nat)(x:Bool)(O:T):Prop:=x=b/\∃D c,O=ar D c/\c<=k
theorem QB{test:V->T->Option (Bool×T)}{elt:V->T->Option (V×T)}{f g:Nat->V}{p:Nat->Bool}{k:Nat}:∀{l:List Nat},(∀i∈l,∀D c,WE (test (f i) (ar D c)) (QA (p i) (c+k)))->
  (∀i∈l,∀D c,WE (elt (f i) (ar D c)) (Is (g i) (ar D c)))->∀D c,∃a0 aP,gR test elt (l.map f) (ar D c)=some ((l.filter p).map g,ar a0 aP)/\aP<=c+k*l.length
 |[],_,_,D,c=>⟨D,c,rfl,eZ ..⟩
 |i::l,aa,ah,D,c=>by
  obtain⟨_,_,a,e1,fq,eW,e2,l₁⟩:=aa i (dV ..) D c
  obtain⟨_,_,b,e3,eN⟩:=ah i (dV ..) fq eW
  obtain⟨eO,eH,e,l₂⟩:=QB (l:=l) (λj bt=>aa j (.tail _ bt)) (λj bt=>ah j (.tail _ bt)) fq eW
  rw[e1,e2] at a
  rw[e3,eN] at b
  refine⟨eO,eH,(m0 a).trans ?_,by rw [kk,zZ];lia⟩
  rw[qT]
  rcases p i with _|_
  .exact e
  .exact(m0 b).trans ((m0 e).trans rfl)
structure Same (h r:List Nat):Prop where
 dF:Pts r
 held:∀v,v<14->cZ r v=cZ h v
 sub:∀k∈r,k∈h\/k=8\/k=9
 H5:1∈r->r=[1]
theorem QC{g u:List Nat}(bx:Pts g)(a7:eG g u)(h:1∈u):u=[1]:=by
 rcases a7 with ⟨a1,p⟩|⟨a1,rfl⟩
 .exfalso
  have h:=p.mem_iff.mp h
  unfold m2 at h
  rcases Gv bx.sub (List.mem_filter.mp h).1 with h|⟨q,_⟩|⟨q,_⟩
  .have aa:dg g 1=true:=any_iEq.mpr ⟨1,h,rfl⟩
   unfold eF at a1
   rw[aa] at a1
   cases e7:dg g 0<;>cases aiv:dg g 13<;>rw[e7,aiv] at a1<;>exact absurd a1 (by decide)
  .cases q
  .cases q
 .rw[dG h]
theorem yV{h:List Nat}(hh:Pts h):∀r∈h.map (λi=>[i]),Pts r:=λr aq=>by
 obtain⟨i,hi,rfl⟩:=List.mem_map.mp aq
 exact .one (hh.sub i hi)
theorem aiw{h r:List Nat}(hh:Pts h)(m4:Pts r)(a7:eG (eb (h.map λi=>[i])) r):Same h r:=by
 refine⟨m4,λv al=>?_,λk aj=>?_,QC (yA (yV hh)) a7⟩
 .rw[i5,vz (yV hh) a7 al,HS_iff]
  constructor
  .rintro⟨_,aq,q⟩
   obtain⟨i,hi,rfl⟩:=List.mem_map.mp aq
   obtain⟨j,bt,q⟩:=HS_iff.mp q
   rw[dG bt] at q
   exact⟨i,hi,q⟩
  .rintro⟨i,hi,q⟩
   exact⟨[i],List.mem_map.mpr ⟨i,hi,rfl⟩,HS_iff.mpr ⟨i,List.mem_singleton.mpr rfl,q⟩⟩
 .rcases Gx (yV hh) a7 aj with ⟨_,aq,q⟩|q
  .obtain⟨i,hi,rfl⟩:=List.mem_map.mp aq
   rw[dG q];exact .inl hi
  .exact .inr q
theorem yW{h:List Nat}(hh:Pts h){X:V}(yC:hd X=some (h.map ax)){m:Nat}(av:80<=m)(D:List V)(c:Nat):
  ∃r a0 aP,bK G0 m (aE 67) [.tab,X] (ar D c)=some (aH r,ar a0 aP)/\aP<=c+1/\Same h r:=by
 obtain⟨r,a0,aP,e,ap,m4,a7⟩:=m3 (yV hh) (by rw [yC,Ga]) av D c
 exact⟨r,a0,aP,e,ap,aiw hh m4 a7⟩
def GK (i:Nat):V:=match vq i with
 | .tup (x::_)=>x
 |_=> .none
noncomputable def qs (i:Nat):Bool:=Nat.beq i 6||Nat.beq i 7
theorem aix(n:Nat)(D:List V)(c:Nat):(PS.map λi=>bK G0 (n+30) (aE 56) [.tab,ax i] (ar D c))=PS.map λi=>some (GK i,ar D c):=by rfl'
theorem aiy(D:List V)(c:Nat):(PS.map λi=>cX (ar D c) .Eq (GK i) (.int 18))=PS.map λ_=>some false:=by rfl'
theorem aiz(D:List V)(c:Nat):(PS.map λi=>cX (ar D c) .In (ax i) (.tup [.int 6,.int 7]))=PS.map λi=>some (qs i):=by rfl'
theorem aiA{i:Nat}(hi:i∈PS){m:Nat}(av:30<=m)(D:List V)(c:Nat):bK G0 m (aE 56) [.tab,ax i] (ar D c)=some (GK i,ar D c):=by
 obtain⟨n,rfl⟩:=c0 av
 exact bJ (aix n D c) hi
theorem aiB(D:List V)(c:Nat):(PS.map λi=>cX (ar D c) .NotEq (f7 i) (.tup []))=PS.map λi=>some (!fv i):=by rfl'
theorem ao3{h:List Nat}(hh:Pts h):(V.list (h.map ax)).flat=true:=rfl
def QD(i:Nat)(h r:List Nat):Prop:=r=[i]\/(qs i=true/\(∀q∈h,Nat.beq (bB q) (bB i)=true/\fv q=false)/\Same h r)
def QE (i:Nat) (h:List Nat):am:=[bE cF .tab,bE "part" (ax i),bE "hits" (.list (h.map ax)),bE "fam" (.int (bB i))]
theorem aiC{n:Nat}{D:List V}{c i:Nat}{h:List Nat}{J:am}(hh:Pts h)(bi:Nat.beq (bB i) 0=true->h.all eu=false)(U:Has J (QE i h)):WS (bv G0 (n+100) (eP 129) J ((aE 129).bd.drop 2) (ar D c)) (jw (UQ (c+1) (QD i h))):=by
 refine bO (WE.is (a:=false) (s:=ar D c) ?_ (bm (ck (aM U (v:=ax i) ⟨[i],D,c,rfl,rfl,cG c,.inl rfl⟩))))
 refine fN (dD (b6 (aM U (v:=.int (bB i)) (.og (v:=.int 0) ⟨_,i1 _ _ 0,?_⟩))))
 generalize Nat.beq (bB i) 0=b at bi
 rcases b with _|_
 .exact⟨rfl,rfl⟩
 refine dD (iq (sP (sN _ eu (aT hh.len (by decide))) (aT hh.len (by decide)) (ht (dt U (v:=.list (h.map ax)) ⟨_,rfl,rfl,rfl⟩)) (λq aO=>?_) ⟨_,rfl,?_⟩))
 .have U:=U.push (x:="hit") (s:=(ax q,false))
  refine iX (cw (bo (fn:=aE 75) (az (aM U (v:=.tab) (az (aM U (v:=ax q) (bj (.of (kV (hh.sub q aO) (bH rfl) D c) ⟨cW U,?_⟩))))))))
  exact .og (v:=.tup [.int 4,.int 5,.int 6]) ⟨_,bJ (Ge D c) (hh.sub q aO),rfl,rfl⟩
 .rw[bi rfl];exact⟨rfl,rfl⟩
theorem QF{i:Nat}(hi:i∈PS){h:List Nat}(hh:Pts h)(bi:Nat.beq (bB i) 0=true->h.all eu=false){m:Nat}(av:130<=m)(D:List V)(c:Nat):
  ∃r a0 aP,bK G0 m (aE 129) [.tab,ax i,.list (h.map ax)] (ar D c)=some (aH r,ar a0 aP)/\aP<=c+1/\QD i h r:=by
 obtain⟨n,rfl⟩:=c0 av
 refine UQ.to ?_
 refine cc rfl ?_
 refine cH .rfl (bo (fn:=aE 75) (az (vn (v:=.tab) (az (vn (v:=ax i) (bj (.of (kV hi (bH rfl) D c) ⟨cr rfl,λJ U=>?_⟩)))))))
 replace U:Has J (QE i h):=U.sub
 have QG:=λ{n:Nat}=>aiC (n:=n) (D:=D) (c:=c) hh bi U
 refine bO (WE.is (a:=qs i) (s:=ar D c) ?_ ?_)
 .refine fN (fp (b6 (aM U (v:=ax i) (.og (v:=.tup [.int 6,.int 7]) ⟨_,bJ (aiz D c) hi,?_⟩))))
  rcases qs i with _|_
  .refine fp (b6 (cw (bo (fn:=aE 56) (az (aM U (v:=.tab) (az (aM U (v:=ax i) (bj (.of (aiA hi (bH rfl) D c) ⟨cW U,?_⟩)))))))))
   exact .og (v:=.int 18) ⟨_,bJ (aiy D c) hi,dc ⟨rfl,rfl⟩⟩
  .exact⟨rfl,rfl⟩
 rcases es:qs i with _|_
 .exact bm QG
 refine bO (iq (sP (sN _ (λq=>Nat.beq (bB q) (bB i)&& !fv q) (aT hh.len (by decide))) (aT hh.len (by decide)) (ht (dt U (v:=.list (h.map ax)) ⟨_,rfl,rfl,rfl⟩)) (λq aO=>?_) ⟨_,rfl,?_⟩))
 .have U:=U.push (x:="hit") (s:=(ax q,false))
  refine vw (iX (cw (bo (fn:=aE 75) (az (aM U (v:=.tab) (az (aM U (v:=ax q) (bj (.of (kV (hh.sub q aO) (bH rfl) D c) ⟨cW U,?_⟩)))))))))
  refine aM U (v:=.int (bB i)) ⟨_,i1 _ _ (bB i),_,rfl,?_⟩
  rcases Nat.beq (bB q) (bB i) with _|_
  .exact⟨rfl,rfl⟩
  .refine iX (cw (bo (fn:=aE 126) (az (aM U (v:=.tab) (az (aM U (v:=ax q) (bj (.of (vv (hh.sub q aO) (bH rfl) D c) ⟨cW U,?_⟩))))))))
   exact .og (v:=.tup []) ⟨_,bJ (aiB D c) (hh.sub q aO),rfl,rfl⟩
 rcases fM:h.all λq=>Nat.beq (bB q) (bB i)&& !fv q with _|_
 .exact bm (bm QG)
 .obtain⟨r,a0,aP,e,ap,S⟩:=yW hh (X:=.list (h.map ax)) rfl (m:=n+124) (bH rfl) D c
  refine ck (cw (bo (fn:=aE 67) (az (aM U (v:=.tab) (az (aM U (v:=.list (h.map ax)) (bj (.of e ⟨cW U,r,a0,aP,rfl,rfl,ap,.inr ⟨es,λq aO=>?_,S⟩⟩))))))))
  have k:=aK (List.all_eq_true.mp fM q aO)
  exact⟨k.1,(ki _).mp k.2⟩
def PSp:List Nat:=PS.filter λi=>yP (bB i)&&Nat.blt i 31
noncomputable def zL:List Int:=[0,1,2,13]
theorem aiD(n:Nat)(D:List V)(c:Nat):(PSp.map λi=>bK G0 (n+100) (aE 95) [.tab,ax 11,ax i] (ar D c))=PSp.map λi=>some (ax i,ar D c):=by rfl'
theorem aiE(D:List V)(c:Nat):(PSp.map λi=>cX (ar D c) .NotEq (ax i) (.int 2))=PSp.map λ_=>some true:=by rfl'
theorem aiF(D:List V)(c:Nat):(zL.map λz=>PSp.map λi=>(ar D c).eq (ax i) (.int z))=zL.map λ_=>PSp.map λ_=>some false:=by rfl'
theorem aiG(D:List V)(c:Nat):(PSp.map λi=>(ar D c).eq (.int 11) (ax i))=PSp.map λ_=>some false:=by rfl'
theorem aiH:(PSp.all λi=>V.jB 20 (ax i))=true:=by rfl'
theorem QH{h:List Nat}(h0:h≠[])(aS:∀i∈h,i∈PSp)(D:List V)(c:Nat):(∀z∈zL,(ar D c).eq (aH h) (.int z)=some false)/\(ar D c).eq (.int 11) (aH h)=some false/\V.jB 20 (aH h)=true:=by
 match h,h0,aS with
 |[i],_,aS=>exact⟨λz bi=>bJ (bJ (aiF D c) bi) (aS i (List.mem_singleton.mpr rfl)),bJ (aiG D c) (aS i (List.mem_singleton.mpr rfl)),bl aiH (aS i (List.mem_singleton.mpr rfl))⟩
 |i::j::r,_,_=>
  have e:aH (i::j::r)=match f0 (i::j::r) [8,9] with|true=> .int 12|false=> .ty (.tup [.int 6,.tup ((i::j::r).map ax)]):=rfl
  rw[e]
  have bi:∀X:V,(zL.map λz=>(ar D c).eq X (.int z))=(zL.map λ_=>some false)->∀z∈zL,(ar D c).eq X (.int z)=some false:=λX h z bi=>bJ h bi
  cases q:f0 (i::j::r) [8,9] with
  |true=>exact⟨bi _ (by rfl'),by rfl',by rfl'⟩
  |false=>
   generalize (i::j::r).map ax=L
   exact⟨bi _ (by rfl'),by rfl',by rfl'⟩
theorem aiI{H:T}{a b:V}(h:V.jB 20 a=true):cX H .Eq a b=H.eq a b:=by
 show ow (V.jB 20 a) (H.eq a b)=_
 rw[h];rfl
theorem ao4{h:List Nat}(aS:∀i∈h,i∈PSp):∀i∈h,i∈PS:=λi hi=>(List.mem_filter.mp (aS i hi)).1
theorem Same.of{g h r:List Nat}(S:Same g r)(e:∀k,k∈g↔k∈h):Same h r:=by
 refine⟨S.dF,λv al=>(S.held v al).trans ?_,λk aj=>(S.sub k aj).imp (e k).mp id,S.H5⟩
 rw[i5,HS_iff,HS_iff]
 exact⟨λ⟨i,hi,q⟩=>⟨i,(e i).mp hi,q⟩,λ⟨i,hi,q⟩=>⟨i,(e i).mpr hi,q⟩⟩
theorem aiJ{H:T}{l:List (V×V)}(h:cz l=true):f1 H dy [.dict l]=some (.int l.length):=by
 refine mg (b:=ow (cz l) (some (.int l.length))) (by rfl') ?_
 rw[h];rfl
theorem aiK{H:T}{l:List Nat}(P:Pts l):cX H .Gt (.int ((cY l).length:Nat)) (.int 200)=some false:=by
 unfold cY
 rw[eQ,<-eQ (f:=ax)]
 exact PN P (by decide)
def aiL (g:List Nat):am:=[bE cF .tab,bE "one" (ax 11),(vt,.dict (cY g),true)]
def GL(D:List V)(c:Nat)(g:List Nat)(J:am)(O:T):Prop:=Has J (aiL g)/\Pts g/\O=ar D c
theorem aiM{n:Nat}{D:List V}{c i:Nat}(hi:i∈PSp)(g:List Nat)(J:am)(H:T)(h:GL D c g J H):
  WS (om G0 (n+112) (eP 96) (sG (lY ((aE 96).bd.drop 3))) (lY (lY ((aE 96).bd.drop 3))) (ax i) J H) (f6 (GL D c (fe g i))):=by
 obtain⟨U,fP,e⟩:=h
 rw[e]
 have iM:=(List.mem_filter.mp hi).1
 refine ka U λJ U=>cH U (bo (fn:=aE 95) (az (aM U (v:=.tab) (az (aM U (v:=ax 11) (az (aM U (v:=ax i) (bj (.of (bJ (aiD _ D c) hi) ⟨cW U,λJ U=>?_⟩)))))))))
 refine bO (b6 (aM U (v:=ax i) (.og (v:=.int 2) ⟨_,bJ (aiE D c) hi,?_⟩)))
 have P3:=fP.add iM
 refine PL U (.og (v:=.int 1) (dt U (v:=ax i) ⟨PQ fP,_,vp iM fP.sub,λJ U=>bm ?_⟩))
 exact bO (b6 (cw (ef (az (jx U (v:=.dict (cY (fe g i))) (bj ⟨_,aiJ (yv P3),.og (v:=.int 200) ⟨false,aiK P3,bm (bm ⟨rfl,U.sub,P3,rfl⟩)⟩⟩))))))
theorem aiN{h:List Nat}(hh:Pts h)(h0:h≠[])(aS:∀i∈h,i∈PSp){m:Nat}(av:120<=m)(D:List V)(c:Nat):
  ∃r a0 aP,bK G0 m (aE 96) [.tab,ax 11,aH h] (ar D c)=some (aH r,ar a0 aP)/\aP<=c+1/\Same h r:=by
 obtain⟨n,rfl⟩:=c0 av
 refine UQ.to ?_
 obtain⟨bi,vD,dT⟩:=QH h0 aS D c
 refine cc rfl ?_
 refine bO (WE.is (a:=false) (s:=ar D c) ?_ (bm ?_))
 .refine fN (fp (b6 (vn (v:=.int 11) (vn (v:=aH h) ⟨false,vD,?_⟩))))
  exact fp (b6 (vn (v:=aH h) (.og (v:=.int 1) ⟨false,(aiI dT).trans (bi 1 (by decide)),dc ⟨rfl,rfl⟩⟩)))
 refine bO (.og (v:=false) (bm ?_))
 refine so (.og (v:=.dict []) ?_)
 refine il (.og (v:=[ax 11]) ?_)
 refine cJ (qk ?_)
 refine il (hS (bo (fn:=aE 61) (az (vn (v:=.tab) (az (vn (v:=aH h) (bj (.of (io hh (bH rfl) D c) ⟨cW .rfl,_,rfl,?_⟩))))))))
 refine(yu (I:=GL D c) (ok:=λi=>i∈PSp) (st:=fe) (λ_=>aiM) h aS [] _ _ ⟨Has.sub .rfl,.nil,rfl⟩).mono ?_
 rintro f J O ⟨rfl,U,fP,rfl⟩
 refine bm (oo ?_)
 obtain⟨l,di,ho⟩:=FW fP D c
 obtain⟨r,a0,aP,e,ap,S⟩:=yW (fP.perm di) (X:=.list (l.map ax)) rfl (m:=n+113) (bH rfl) D c
 exact ck (cw (bo (fn:=aE 67) (az (aM U (v:=.tab) (az (cw (ef (az (jx U (v:=.dict (cY (h.foldl fe []))) (bj ⟨_,ho,bj (.of e ⟨cW U,r,a0,aP,rfl,rfl,ap,S.of λk=>di.mem_iff.trans (addsN_mem.trans (or_iff_right kj))⟩)⟩))))))))))
theorem aiO(n:Nat)(D:List V)(c:Nat):bK G0 (n+60) (aE 96) [.tab,.int 1,.int 11] (ar D c)=some (.int 11,ar D c):=by rfl'
theorem aiP{h:List Nat}(hh:Pts h)(h0:h≠[])(aS:∀i∈h,i∈PSp){m:Nat}(av:130<=m)(D:List V)(c:Nat):
  ∃r a0 aP,bK G0 m (aE 97) [.tab,.tup [ax 11,aH h]] (ar D c)=some (aH r,ar a0 aP)/\aP<=c+1/\Same h r:=by
 obtain⟨n,rfl⟩:=c0 av
 obtain⟨r,a0,aP,e,ap,S⟩:=aiN hh h0 aS (m:=n+124) (bH rfl) D c
 refine⟨r,a0,aP,WE.to ?_,ap,S⟩
 obtain⟨bi,vD,dT⟩:=QH h0 aS D c
 have sV:∀z∈zL,cN 11 z=false->cX (ar D c) .In (.int z) (.tup [ax 11,aH h])=some false:=λz rV q=>by
  show (od (some (cN 11 z)) λt=>cond t (some true) (od ((ar D c).eq (aH h) (.int z)) λt=>cond t (some true) (some false)))=_
  rw[q,bi z rV];rfl
 refine cc rfl ?_
 refine il (.og (v:=[.int 2,.int 0,.int 13]) ?_)
 refine cJ (qk (bO (b6 (vn (v:=.int 2) (vn (v:=.tup [ax 11,aH h]) ⟨false,sV 2 (by decide) rfl,bm (bm ?_)⟩)))))
 refine cJ (qk (bO (b6 (vn (v:=.int 0) (vn (v:=.tup [ax 11,aH h]) ⟨false,sV 0 (by decide) rfl,bm (bm ?_)⟩)))))
 refine cJ (qk (bO (b6 (vn (v:=.int 13) (vn (v:=.tup [ax 11,aH h]) ⟨false,sV 13 (by decide) rfl,bm (bm ?_)⟩)))))
 refine oo ?_
 refine cH (L:=[bE cF .tab,bE "parts" (.tup [ax 11,aH h])]) (Has.sub .rfl) (.og (v:=.int 1) λJ U=>?_)
 refine il (ht (dt U (v:=.tup [ax 11,aH h]) ⟨[ax 11,aH h],rfl,?_⟩))
 refine cJ (ka U λJ U=>cH U (bo (fn:=aE 96) (az (aM U (v:=.tab) (az (aM U (v:=.int 1) (az (aM U (v:=ax 11) (bj (.of (aiO (n+64) D c) ⟨cW U,λJ U=>bm ?_⟩))))))))))
 refine cJ (ka U λJ U=>cH U (bo (fn:=aE 96) (az (aM U (v:=.tab) (az (aM U (v:=ax 11) (az (aM U (v:=aH h) (bj (.of e ⟨cW U,λJ U=>bm (oo ?_)⟩))))))))))
 exact ck (aM U (v:=aH r) ⟨rfl,rfl⟩)
theorem aiQ{test:V->T->Option (Bool×T)}{elt:V->T->Option (V×T)}{f g:Nat->V}{p:Nat->Bool}{k:Nat}{l:List Nat}(aa:∀i∈l,∀D c,WE (test (f i) (ar D c)) (QA (p i) (c+k)))(ah:∀i∈l,∀D c,WE (elt (f i) (ar D c)) (Is (g i) (ar D c)))(D:List V)(c:Nat){Q:List V->T->Prop}(q:∀a0 aP,aP<=c+k*l.length->Q ((l.filter p).map g) (ar a0 aP)):WE (gR test elt (l.map f) (ar D c)) Q:=by
 obtain⟨a0,aP,e,h⟩:=QB aa ah D c
 exact .of e (q a0 aP h)
noncomputable def PSo:List Nat:=[0,1,4,5,6,7,8,9,10,11,15,16,18,19,20,21,22,23,24,25,26,27,28,29,30]
theorem yX:∀i∈PSo,i∈PS:=by decide
noncomputable def bothS:List Bool:=[true,false]
theorem f8(s:Bool):s∈bothS:=by cases s<;>decide
theorem aiR:(PS.all λi=>PSo.all λq=> !(Nat.beq (bB i) 7&&Nat.beq (bB q) 7)||(bY i obS&&bY q obT))=true:=by rfl'
theorem aiS(i j:Nat):Go i j<=1:=by
 unfold Go
 split<;>decide
theorem aiT{a b c:Bool}(h:(!(a&&b)||c)=true)(aw:a=true)(ao:b=true):c=true:=by
 rw[aw,ao] at h;exact h
theorem aiU{i q:Nat}(hi:i∈PS)(aO:q∈PSo)(s:Bool){m:Nat}(av:200<=m)(D:List V)(c:Nat):∃a0 aP,bK G0 m (aE 143) [.tab,ax i,ax q,.bool s] (ar D c)=some (.bool (iu i q s),ar a0 aP)/\aP<=c+1:=by
 rcases e:Nat.beq (bB i) 7&&Nat.beq (bB q) 7 with _|_
 .exact⟨D,c,ahX hi (yX q aO) s e av D c,cG c⟩
 .obtain⟨e1,e2⟩:=aK e
  have h:=aK (aiT (bl (bl aiR hi) aO) e1 e2)
  obtain⟨n,rfl⟩:=c0 (aT (by decide:100<=200) av)
  obtain⟨a0,h⟩:=lZ (bJ (bJ (ahS n D c s) (hT h.1)) (hT h.2))
  refine⟨a0,_,?_,dh (aiS i q) c⟩
  rw[h]
  unfold iu
  rw[e1,e2];rfl
def g6 (i:Nat) (o:List Nat) (s:Bool):List Nat:=o.filter λq=>iu i q s
def aiV(i:Nat)(s:Bool)(h r:List Nat):Prop:=r=[i]\/(qs i=true/\(∀q∈h,Nat.beq (bB q) (bB i)=true/\fv q=false)/\Same h r)\/(i=11/\s=true/\(∀q∈h,dU q=true)/\Same h r)
def GN(i:Nat)(s:Bool)(h r:List Nat):Prop:=(h=[]/\r=[])\/(h≠[]/\aiV i s h r)
def kW(i:Nat)(o:List Nat)(s:Bool)(r:List Nat):Prop:=GN i s (g6 i o s) r
theorem Pts.vZ{l:List Nat}(h:Pts l)(p:Nat->Bool):Pts (l.filter p):=⟨λi hi=>h.sub i (List.mem_filter.mp hi).1,h.nd.filter p⟩
theorem aiW:(PS.all λi=>PSo.all λq=>bothS.all λs=> !(Nat.beq (bB i) 7&&dU q&&iu i q s)||(Nat.beq i 11&&bY q PSp))=true:=by rfl'
theorem aiX:(PS.all λi=>PSo.all λq=>bothS.all λs=> !Nat.beq (bB i) 0||iu i q s)=true:=by rfl'
theorem aiY:(PSp.all λi=>R14.any λv=>cS i v)=true:=by rfl'
def QI (i:Nat) (h:List Nat) (s:Bool):am:=[bE cF .tab,bE "part" (ax i),bE "strict" (.bool s),bE "hits" (.list (h.map ax))]
structure Hits (i:Nat) (s:Bool) (h:List Nat):Prop where
 dF:Pts h
 so:∀q∈h,q∈PSo
 qm:∀q∈h,iu i q s=true
 nul:Nat.beq (bB i) 0=true->h.all eu=false
theorem aiZ{i:Nat}(hi:i∈PS){o:List Nat}(aG:Pts o)(aJ:∀q∈o,q∈PSo)(bi:o.all eu=false)(s:Bool):Hits i s (g6 i o s):=by
 refine⟨aG.vZ _,λq aO=>aJ q (List.mem_filter.mp aO).1,λq aO=>(List.mem_filter.mp aO).2,λe=>?_⟩
 have:g6 i o s=o:=List.filter_eq_self.mpr λq aO=>by
  have:=bl (bl (bl aiX hi) (aJ q aO)) (f8 s)
  rw[e] at this
  exact this
 rw[this];exact bi
theorem aj0{i:Nat}(hi:i∈PS){s:Bool}{h:List Nat}(W:Hits i s h)(e:(Nat.beq (bB i) 7&&h.all dU)=true):∀q∈h,i=11/\q∈PSp:=λq aO=>by
 have:=bl (bl (bl aiW hi) (W.so q aO)) (f8 s)
 rw[(aK e).1,List.all_eq_true.mp (aK e).2 q aO,W.qm q aO] at this
 exact⟨ei (aK this).1,hT (aK this).2⟩
theorem Same.trans{a b c:List Nat}(S:Same a b)(sX:Same b c):Same a c:=⟨sX.dF,λv al=>(sX.held v al).trans (S.held v al),λk aj=>(sX.sub k aj).elim (S.sub k) .inr,sX.H5⟩
theorem aj1{k:am->T->Option (Fl×am×T)}{n:Nat}{D:List V}{c:Nat}{s:Bool}{h:List Nat}(W:Hits 11 s h)(h0:h≠[])(aS:∀q∈h,q∈PSp)(m4:∀q∈h,dU q=true){J:am}(U:Has J (QI 11 h s)):
  WS (bv G0 (n+216) (eP 150) J (yy ((aE 150).bd.drop 2)) (ar D c)) (sA k (jw (UQ (c+2) (GN 11 s h)))):=by
 refine ck (aiu (Qy (j9 (aM U (v:=.bool s) ⟨s,rfl,?_⟩))))
 rcases s with _|_
 .exact dt U (v:=ax 11) ⟨[11],D,c,rfl,rfl,eZ ..,.inr ⟨h0,.inl rfl⟩⟩
 obtain⟨r,eO,eH,qb,l₂,S⟩:=yW W.dF (X:=.list (h.map ax)) rfl (m:=n+211) (bH rfl) D c
 obtain⟨q,aO⟩:=ti h h0
 have FE:r≠[]:=λdp=>by
  obtain⟨v,al,e⟩:=List.any_eq_true.mp (bl aiY (aS q aO))
  have:=S.held v (R14_mem.mp al)
  rw[dp,HS_iff.mpr ⟨q,aO,e⟩] at this
  cases this
 have aq:∀k∈r,k∈PSp:=λk aj=>(S.sub k aj).elim (aS k) λe=>e.elim (λe=>e▸by decide) λe=>e▸by decide
 obtain⟨d7,EQ,aj2,uN,aj3,sX⟩:=aiP S.dF FE aq (m:=n+213) (bH rfl) eO eH
 exact bo (fn:=aE 97) (az (aM U (v:=.tab) (az (Qz (F2 (az (dt U (v:=ax 11) (az (bo (fn:=aE 67) (az (aM U (v:=.tab) (az (aM U (v:=.list (h.map ax)) (bj (.of qb ⟨cW U,bj ⟨by rw [oO,oO,vr];rfl,bj (.of uN ⟨cW U,d7,EQ,aj2,rfl,rfl,aT aj3 (gr l₂),.inr ⟨h0,.inr (.inr ⟨rfl,rfl,m4,S.trans sX⟩)⟩⟩)⟩⟩)))))))))))))))
theorem aj4{n:Nat}{D:List V}{c i:Nat}(hi:i∈PS){s:Bool}{h:List Nat}(W:Hits i s h){J:am}(U:Has J (QI i h s)):
  WS (bv G0 (n+218) (eP 150) J ((aE 150).bd.drop 1) (ar D c)) (jw (UQ (c+2) (GN i s h))):=by
 have ag:=aT W.dF.len (by decide:34<=4096)
 have GO:(V.list (h.map ax)).truth=some (!(h.map ax).isEmpty):=by
  show ow (cz _) _=_
  rw[qn W.dF];rfl
 refine bO (kP (j9 (aM U (v:=.list (h.map ax)) ⟨_,GO,?_⟩)))
 rcases eR (h=[]) with h0|h0
 .rw[h0]
  exact ck (.og (v:=.int 2) ⟨[],D,c,rfl,rfl,eZ ..,.inl ⟨rfl,rfl⟩⟩)
 rw[show (!(h.map ax).isEmpty)=true by rcases h with _|_;exact absurd rfl h0;rfl]
 refine bm (bO (WE.is (a:=Nat.beq (bB i) 7&&h.all dU) (s:=ar D c) ?_ ?_))
 .refine fN (dD (b6 (cw (bo (fn:=aE 75) (az (aM U (v:=.tab) (az (aM U (v:=ax i) (bj (.of (kV hi (bH rfl) D c) ⟨cW U,?_⟩))))))))))
  refine .og (v:=.int 7) ⟨_,i1 _ _ 7,?_⟩
  rcases Nat.beq (bB i) 7 with _|_
  .exact⟨rfl,rfl⟩
  refine dD (iq (sP (sN _ dU ag) ag (ht (dt U (v:=.list (h.map ax)) ⟨_,rfl,rfl,rfl⟩)) (λq aO=>?_) ⟨_,rfl,?_⟩))
  .have U:=U.push (x:="one") (s:=(ax q,false))
   exact bo (fn:=aE 140) (az (aM U (v:=.tab) (az (aM U (v:=ax q) (bj (.of (Qa (W.dF.sub q aO) (bH rfl) D c) ⟨cW U,rfl,rfl⟩))))))
  .rcases h.all dU with _|_
   .exact⟨rfl,rfl⟩
   .exact dc ⟨rfl,rfl⟩
 rcases yY:Nat.beq (bB i) 7&&h.all dU with _|_
 .obtain⟨r,eO,eH,qb,l₂,S⟩:=QF hi W.dF W.nul (m:=n+214) (bH rfl) D c
  exact bm (ck (cw (bo (fn:=aE 129) (az (aM U (v:=.tab) (az (aM U (v:=ax i) (az (aM U (v:=.list (h.map ax)) (bj (.of qb ⟨cW U,r,eO,eH,rfl,rfl,tr l₂,.inr ⟨h0,S.elim .inl λq=> .inr (.inl q)⟩⟩)))))))))))
 .have key:=aj0 hi W yY
  obtain⟨q,aO⟩:=ti h h0
  obtain rfl:=(key q aO).1
  exact aj1 W h0 (λq aO=>(key q aO).2) (List.all_eq_true.mp (aK yY).2) U
theorem aj5{i:Nat}(hi:i∈PS){o:List Nat}(aG:Pts o)(aJ:∀q∈o,q∈PSo)(bi:o.all eu=false)(s:Bool){m:Nat}(av:220<=m)(D:List V)(c:Nat):
  ∃r a0 aP,bK G0 m (aE 150) [.tab,ax i,aH o,.bool s] (ar D c)=some (aH r,ar a0 aP)/\aP<=c+40/\kW i o s r:=by
 obtain⟨n,rfl⟩:=c0 av
 have W:=aiZ hi aG aJ bi s
 refine UQ.to ?_
 refine cc rfl ?_
 refine cH .rfl (d8 (hS (bo (fn:=aE 61) (az (vn (v:=.tab) (az (vn (v:=aH o) (bj (.of (io aG (bH rfl) D c) ⟨cr rfl,_,rfl,?_⟩)))))))))
 refine aiQ (p:=λq=>iu i q s) (g:=ax) (k:=1) (λq aO D c=>?_) (λq aO D c=>?_) D c λfq eW l₁=>?_
 .obtain⟨a0,aP,e,ap⟩:=aiU hi (aJ q aO) s (m:=n+215) (bH rfl) D c
  refine dD (iq (bo (fn:=aE 143) (az (vn (v:=.tab) (az (vn (v:=ax i) (az (vn (v:=ax q) (az (vn (v:=.bool s) (bj (.of e ⟨cr rfl,_,rfl,?_⟩))))))))))))
  rcases iu i q s with _|_
  .exact⟨rfl,a0,aP,rfl,ap⟩
  .exact dc ⟨rfl,a0,aP,rfl,ap⟩
 .exact dE (v:=ax q) ⟨rfl,rfl⟩
 have kc:=aG.len
 have P:Pts (o.filter λq=>iu i q s):=W.dF
 refine⟨by rw [FX P,qn P];rfl,λJ (U:Has J (cb _ _ (.list ((g6 i o s).map ax)) _))=>?_⟩
 exact(aj4 hi W U.sub).mono λ_ _ _ h=>h.le (aT (jC (aT l₁ (dh (aT (dW (Nat.one_mul _)) kc) c)) 2) (dh (by decide:36<=40) c))
structure Cov (R:Nat->List Nat->Prop) (l:List Nat) (a3:List (List Nat)):Prop where
 zt:∀r∈a3,∃i∈l,R i r
 to:∀i∈l,(∃r∈a3,R i r)\/R i []
theorem Cov.nil{R:Nat->List Nat->Prop}:Cov R [] []:=⟨λ_ h=>(nomatch h),λ_ h=>(nomatch h)⟩
theorem Cov.skip{R:Nat->List Nat->Prop}{l:List Nat}{a3:List (List Nat)}(h:Cov R l a3){i:Nat}(q:R i []):Cov R (l++[i]) a3:=
 ⟨λr aq=>let ⟨j,bt,e⟩:=h.zt r aq;⟨j,List.mem_append.mpr (.inl bt),e⟩,λj bt=>(List.mem_append.mp bt).elim (h.to j) λe=> .inr (by rw [dG e];exact q)⟩
theorem Cov.snoc{R:Nat->List Nat->Prop}{l:List Nat}{a3:List (List Nat)}(h:Cov R l a3){i:Nat}{r:List Nat}(q:R i r):Cov R (l++[i]) (a3++[r]):=by
 refine⟨λd7 aq=>?_,λj bt=>?_⟩
 .rcases List.mem_append.mp aq with aq|aq
  .obtain⟨j,bt,e⟩:=h.zt d7 aq
   exact⟨j,List.mem_append.mpr (.inl bt),e⟩
  .rw[dG aq]
   exact⟨i,List.mem_append.mpr (.inr (List.mem_singleton.mpr rfl)),q⟩
 .rcases List.mem_append.mp bt with bt|bt
  .rcases h.to j bt with ⟨d7,aq,e⟩|e
   .exact .inl ⟨d7,List.mem_append.mpr (.inl aq),e⟩
   .exact .inr e
  .rw[dG bt]
   exact .inl ⟨r,List.mem_append.mpr (.inr (List.mem_singleton.mpr rfl)),q⟩
theorem Paired.cov{R:Nat->List Nat->Prop}{l:List Nat}{a3:List (List Nat)}(h:Paired R l a3):Cov R l a3:=by
 refine⟨Paired.all h,?_⟩
 induction h with
 |nil=>exact λ_ hi=>nomatch hi
 |cons h _ bg=>
  intro i hi
  rcases List.mem_cons.mp hi with e|hi
  .exact .inl ⟨_,dV ..,e▸h⟩
  .exact(bg i hi).imp (λ⟨r,aq,e⟩=>⟨r,.tail _ aq,e⟩) id
inductive OutI (R:Nat->List Nat->Prop) (fr:List V->am) (P:Nat->Prop) (b:Nat) (d r:List Nat) (J:am) (O:T):Prop
 |mk (a3:List (List Nat)) (D:List V) (c:Nat) (U:Has J (fr (a3.map aH))) (e:O=ar D c) (ap:c+8*r.length<=b) (aS:∀r∈a3,Pts r) (ag:a3.length+r.length<=34) (cov:Cov R d a3) (aq:∀i∈r,P i)
section
variable {R:Nat->List Nat->Prop}{fr:List V->am}{P:Nat->Prop}{b c:Nat}{d r:List Nat}{a3:List (List Nat)}{D:List V}{i:Nat} (ap:c+8*(i::r).length<=b)(aS:∀r∈a3,Pts r)(ag:a3.length+(i::r).length<=34)(cov:Cov R d a3)(aq:∀j∈i::r,P j)
include ap aS ag cov aq
theorem OutI.skip{J:am}(U:Has J (fr (a3.map aH)))(q:R i []):OutI R fr P b (d++[i]) r J (ar D c):=
 ⟨a3,D,c,U,rfl,aT (dh (oL 8 (cG _)) c) ap,aS,aT (dh (cG _) _) ag,cov.skip q,λj bt=>aq j (.tail _ bt)⟩
theorem OutI.snoc{J:am}{x:List Nat}{a0:List V}{aP:Nat}(U:Has J (fr (a3.map aH++[aH x])))(hN:Pts x)(q:R i x)(h:aP<=c+8):OutI R fr P b (d++[i]) r J (ar a0 aP):=by
 refine⟨a3++[x],a0,aP,by rw [nj];exact U,rfl,?_,λy aY=>(List.mem_append.mp aY).elim (aS y) λe=>dG e▸hN,?_,cov.snoc q,λj bt=>aq j (.tail _ bt)⟩
 .refine aT (jC h _) (aT (dW ?_) ap)
  rw[jE,jG 8];rfl
 .rw[d5]
  rw[kk] at ag
  exact aT (dW (qO ..)) ag
end
theorem OutI.room{r:List Nat}{a3:List (List Nat)}(ag:a3.length+r.length<=34)(x:List Nat):(V.flat (aH x)&&cz (a3.map aH))=true:=by
 rw[vr,i0 (aT (aT (eZ ..) ag) (by decide))];rfl
noncomputable def nkO:List (List Nat):=[[4],[5],[4,5],[5,4]]
theorem QJ(n:Nat)(D:List V)(c:Nat):(bK G0 (n+100) (aE 67) [.tab,.tup [.int 4,.int 5]] (ar D c)).map kT=kU (aH [4,5]) (c+1):=by rfl'
theorem QK{o:List Nat}(aG:o∈nkO):o=[4]\/o=[5]\/o=[4,5]\/o=[5,4]:=
 (List.mem_cons.mp aG).imp id λh=>(List.mem_cons.mp h).imp id λh=>(List.mem_cons.mp h).imp id dG
theorem aj6{o:List Nat}(aG:o∈nkO){m:Nat}(av:150<=m)(D:List V)(c:Nat):∃u a0 aP,bK G0 m (aE 97) [.tab,.tup [ax 30,aH o]] (ar D c)=some (aH u,ar a0 aP)/\aP<=c+5/\u.Perm (o.map (· +27)):=by
 rcases QK aG with rfl|rfl|rfl|rfl
 .obtain⟨n,rfl⟩:=c0 (aT (by decide:120<=150) av)
  obtain⟨a0,e⟩:=lZ (bJ (Qh n D c) (x:=(30,[4])) (by decide))
  exact⟨_,a0,_,e,dh (by decide) c,.refl _⟩
 .obtain⟨n,rfl⟩:=c0 (aT (by decide:120<=150) av)
  obtain⟨a0,e⟩:=lZ (bJ (Qh n D c) (x:=(30,[5])) (by decide))
  exact⟨_,a0,_,e,dh (by decide) c,.refl _⟩
 .obtain⟨u,a0,aP,e,h,q⟩:=vu (p:=30) (a:=4) (b:=5) (r:=31) (s:=32) (by decide) av D c
  exact⟨u,a0,aP,e,h,by rcases q with rfl|rfl;exact .refl _;exact .swap ..⟩
 .obtain⟨u,a0,aP,e,h,q⟩:=vu (p:=30) (a:=5) (b:=4) (r:=32) (s:=31) (by decide) av D c
  exact⟨u,a0,aP,e,h,by rcases q with rfl|rfl;exact .refl _;exact .swap ..⟩
def fx (l:List Nat) (z:Int):Bool:=match l with
 |[]=>cN 2 z
 |[i]=>cN i z
 |_=>false
theorem aj7(D:List V)(c:Nat):(zL.map λz=>PS.map λi=>cX (ar D c) .Eq (ax i) (.int z))=zL.map λz=>PS.map λ(i:Nat)=>some (cN i z):=by rfl'
theorem aj8(D:List V)(c:Nat):(zL.map λz=>cX (ar D c) .Eq (.int 2) (.int z))=zL.map λz=>some (cN 2 z):=by rfl'
theorem vE{l:List Nat}(ag:Pts l){z:Int}(bi:z∈zL)(D:List V)(c:Nat):cX (ar D c) .Eq (aH l) (.int z)=some (fx l z):=by
 match l,ag with
 |[],_=>exact bJ (aj8 D c) bi
 |[i],ag=>exact bJ (bJ (aj7 D c) bi) (ag.sub i (List.mem_singleton.mpr rfl))
 |i::j::r,_=>
  have e:aH (i::j::r)=match f0 (i::j::r) [8,9] with|true=> .int 12|false=> .ty (.tup [.int 6,.tup ((i::j::r).map ax)]):=rfl
  rw[e]
  have rV:∀X:V,(zL.map λz=>cX (ar D c) .Eq X (.int z))=(zL.map λ_=>some false)->cX (ar D c) .Eq X (.int z)=some false:=λX h=>bJ h bi
  show _=some false
  cases q:f0 (i::j::r) [8,9] with
  |true=>exact rV _ (by rfl')
  |false=>
   generalize (i::j::r).map ax=L
   exact rV _ (by rfl')
theorem aj9(D:List V)(c:Nat):(PS.map λi=>cX (ar D c) .In (ax i) (.tup [.int 0,.int 13]))=PS.map λi=>some (Nat.beq i 0):=by rfl'
noncomputable def m7 (o:List Nat) (s:Bool):List Nat:=cond s o [4,5]
def yZ (o:List Nat) (s:Bool) (i:Nat) (r:List Nat):Prop:=
 (eu i=true/\((o.any λq=>jy i q s)=true/\r=[i]\/(o.any λq=>jy i q s)=false/\r=[]))\/
 (eu i=false/\(i=0/\r=[0]\/i=30/\r.Perm (o.map (· +27))\/Nat.beq i 0=false/\qr i=false/\r=[]))
theorem aja{o:List Nat}(aG:o∈nkO):Pts o/\Pts (o.map (· +27)):=by
 rcases QK aG with rfl|rfl|rfl|rfl<;>exact⟨⟨by decide,by decide⟩,⟨by decide,by decide⟩⟩
theorem ajb:(PS.all λi=> !(qr i&& !eu i&& !Nat.beq i 0&& !Nat.beq i 1)||Nat.beq i 30)=true:=by rfl'
theorem ao5{α:Type}(H:T)(f:α->Bool){l:List α}(h:l.length<=4096):f1 H tR [.list (l.map λa=>V.bool (f a))]=some (.bool (l.any f)):=Gf H f h
theorem ajc(i:Nat):V.k7 (ax i)=true:=by unfold ax;split<;>rfl
theorem y0(l:List Nat):V.k7 (aH l)=true:=by
 match l with
 |[]=>rfl
 |[i]=>exact ajc i
 |i::j::r=>
  show V.k7 (match f0 (i::j::r) [8,9] with|true=>_|false=>_)=true
  split<;>rfl
theorem ao6(l:List Nat):V.ma (aH l)=true:=by
 match l with
 |[]=>rfl
 |[i]=>show V.ma (ax i)=true;unfold ax;split<;>rfl
 |i::j::r=>
  show V.ma (match f0 (i::j::r) [8,9] with|true=>_|false=>_)=true
  split<;>rfl
def ajd (s:Bool) (o:List Nat) (L:List V):am:=[bE cF .tab,bE "strict" (.bool s),bE "other" (aH o),("out",.list L,true)]
theorem aje{i:Nat}(hi:i∈PS)(aa:i≠1)(em:qr i=true)(dE:eu i=false)(e7:Nat.beq i 0=false):i=30:=by
 have:=bl ajb hi
 have e1:Nat.beq i 1=false:=Bool.eq_false_iff.mpr λq=>aa (ei q)
 rw[em,dE,e7,e1] at this
 exact ei this
abbrev GP (s:Bool) (o:List Nat) (b:Nat):List Nat->List Nat->am->T->Prop:=OutI (yZ o s) (ajd s o) (λi=>i∈PS/\i≠1) b
theorem ajf{n b:Nat}{o:List Nat}(aG:o∈nkO)(s:Bool)(d:List Nat)(i:Nat)(r:List Nat)(J:am)(H:T)(h:GP s o b d (i::r) J H):
  WS (om G0 (n+175) (eP 131) (sG ((aE 131).bd.drop 3)) (lY ((aE 131).bd.drop 3)) (ax i) J H) (f6 (GP s o b (d++[i]) r)):=by
 obtain⟨a3,D,c,U,e,ap,aS,eB,cov,aq⟩:=h
 rw[e]
 obtain⟨hi,ajg⟩:=aq i (dV ..)
 obtain⟨GQ,ajh⟩:=aja aG
 refine ka U λJ U=>?_
 refine bO (WE.is (a:=eu i) (s:=ar D c) ?_ ?_)
 .refine b6 (cw (bo (fn:=aE 75) (az (aM U (v:=.tab) (az (aM U (v:=ax i) (bj (.of (kV hi (bH rfl) D c) ⟨cW U,?_⟩))))))))
  exact .og (v:=.tup [.int 4,.int 5,.int 6]) ⟨_,bJ (Ge D c) hi,rfl,rfl⟩
 have room:=OutI.room eB
 rcases dE:eu i with _|_
 .refine bO (b6 (aM U (v:=ax i) (.og (v:=.tup [.int 0,.int 13]) ⟨_,bJ (aj9 D c) hi,?_⟩)))
  rcases e7:Nat.beq i 0 with _|_
  .refine bO (iq (bo (fn:=Gq) (az (aM U (v:=.tab) (az (aM U (v:=ax i) (bj (.of (ai0 hi (bH rfl) D c) ⟨cW U,_,rfl,?_⟩))))))))
   rcases em:qr i with _|_
   .exact bm (bm (bm (bm ⟨rfl,.skip ap aS eB cov aq U.sub (.inr ⟨dE,.inr (.inr ⟨e7,em,rfl⟩)⟩)⟩)))
   .obtain rfl:=aje hi ajg em dE e7
    obtain⟨u,a0,aP,e,hG,ec⟩:=aj6 aG (m:=n+170) (bH rfl) D c
    exact sW U (bo (fn:=aE 97) (az (aM U (v:=.tab) (az (Qz (F2 (az (dt U (v:=ax 30) (az (dt U (v:=aH o) (bj ⟨by rw [oO,oO,vr];rfl,bj (.of e ⟨cW U,room u,λJ U=>bm (bm (bm (bm ⟨rfl,.snoc ap aS eB cov aq U.sub (ajh.perm ec) (.inr ⟨dE,.inr (.inl ⟨rfl,ec⟩)⟩) (aT hG (dh (by decide) c))⟩)))⟩)⟩)))))))))))
  .have Es:=ei e7
   exact sW U (dt U (v:=ax i) ⟨room [i],λJ U=>bm (bm (bm ⟨rfl,.snoc ap aS eB cov aq (x:=[i]) U.sub (.one hi) (.inr ⟨dE,.inl ⟨Es,by rw [Es]⟩⟩) (eZ ..)⟩))⟩)
 .refine bO (WE.is (a:=o.any λq=>jy i q s) (s:=ar D c) ?_ ?_)
  .have lo:=aT GQ.len (by decide:34<=4096)
   refine iq (sP (Gf _ (λq=>jy i q s) lo) lo (hS (bo (fn:=aE 61) (az (aM U (v:=.tab) (az (aM U (v:=aH o) (bj (.of (io GQ (bH rfl) D c) ⟨cW U,_,rfl,rfl,rfl⟩)))))))) (λq aO=>?_) ⟨_,rfl,rfl,rfl⟩)
   have U:=U.push (x:="one") (s:=(ax q,false))
   exact bo (fn:=aE 127) (az (aM U (v:=.tab) (az (aM U (v:=ax i) (az (aM U (v:=ax q) (az (aM U (v:=.bool s) (bj (.of (Gn hi (GQ.sub q aO) s (bH rfl) D c) ⟨cW U,rfl,rfl⟩))))))))))
  rcases fM:o.any λq=>jy i q s with _|_
  .exact bm (bm (bm ⟨rfl,.skip ap aS eB cov aq U.sub (.inl ⟨dE,.inr ⟨fM,rfl⟩⟩)⟩))
  .exact sW U (dt U (v:=ax i) ⟨room [i],λJ U=>bm (bm (bm ⟨rfl,.snoc ap aS eB cov aq (x:=[i]) U.sub (.one hi) (.inl ⟨dE,.inl ⟨fM,rfl⟩⟩) (eZ ..)⟩))⟩)
theorem aji{l:List Nat}(aa:1∉l):fx l 1=false:=by
 match l,aa with
 |[],_=>rfl
 |[i],aa=>exact Bool.eq_false_iff.mpr λ(e:cN i 1=true)=>aa (by rw [Int.ofNat.inj (iEq_iff.mp e)];exact List.mem_singleton.mpr rfl)
 |_::_::_,_=>rfl
def ajj(l o:List Nat)(s:Bool)(u:List Nat):Prop:=Pts u/\∃a3,eG (eb a3) u/\(∀r∈a3,Pts r)/\Cov (yZ (m7 o s) s) l a3
theorem ajk{l:List Nat}(ag:Pts l)(aa:1∉l){o:List Nat}(aG:o∈nkO)(s:Bool){m:Nat}(av:180<=m)(D:List V)(c:Nat):
  ∃u a0 aP,bK G0 m (aE 131) [.tab,aH l,aH o,.bool s] (ar D c)=some (aH u,ar a0 aP)/\aP<=c+400/\ajj l o s u:=by
 obtain⟨n,rfl⟩:=c0 av
 refine UQ.to ?_
 have ajl:m7 o s∈nkO:=by
  rcases s with _|_
  .exact(by decide:[4,5]∈nkO)
  .exact aG
 have kc:=ag.len
 refine cc rfl ?_
 refine bO (kP (j9 (vn (v:=.bool s) ⟨s,rfl,?_⟩)))
 refine WS.mono (P:=f6 λJ O=>∃a0 aP,O=ar a0 aP/\aP<=c+1/\Has J [bE cF .tab,bE "t" (aH l),bE "other" (aH (m7 o s)),bE "strict" (.bool s)]) ?_ ?_
 .rcases s with _|_
  .obtain⟨a0,e⟩:=lZ (QJ (n+76) D c)
   exact cH .rfl (bo (fn:=aE 67) (.og (v:=[.tab,.tup [.int 4,.int 5]]) (.of e ⟨cr rfl,λJ U=>bm ⟨rfl,a0,c+1,rfl,cq _,U.sub⟩⟩)))
  .exact bm ⟨rfl,D,c,rfl,cG c,Has.sub .rfl⟩
 rintro f J O ⟨rfl,qt,ou,rfl,ajm,U⟩
 refine bO (b6 (aM U (v:=aH l) (.og (v:=.int 1) ⟨false,aji aa▸vE ag (by decide) qt ou,bm ?_⟩)))
 refine yz U (.og (v:=.list []) λJ U=>?_)
 refine il (hS (bo (fn:=aE 61) (az (aM U (v:=.tab) (az (aM U (v:=aH l) (bj (.of (io ag (bH rfl) qt ou) ⟨cW U,_,rfl,?_⟩))))))))
 refine(vC (I:=GP s (m7 o s) (ou+8*l.length)) (ajf ajl s) l [] _ _ ⟨[],qt,ou,U.sub,rfl,cq _,(λ_ h=>nomatch h),(by rw [zT,mf];exact kc),.nil,λi hi=>⟨ag.sub i hi,λe=>aa (e▸hi)⟩⟩).mono ?_
 rintro f J O ⟨rfl,a3,a0,aP,U,rfl,ap,aS,_,cov,_⟩
 obtain⟨u,eO,eH,e,hr,ec,a7⟩:=m3 aS (X:=.list (a3.map aH)) rfl (m:=n+173) (bH rfl) a0 aP
 refine ck (cw (bo (fn:=aE 67) (az (aM U (v:=.tab) (az (jx U (v:=.list (a3.map aH)) (bj (.of e ⟨kS (a:=.tab) U.g (yw (d:=a3.map aH) U.g (y0 u) yx),u,eO,eH,rfl,rfl,?_,ec,a3,a7,aS,cov⟩))))))))
 exact aT hr (aT (gr (aT ap (v9 ajm (oL 8 kc)))) (dh (by decide:1+272+1<=400) c))
def ov (i:Nat):Bool:=bY i [0,1,11,30,38]
theorem ajn(n:Nat)(D:List V)(c:Nat):(PSo.map λi=>bK G0 (n+100) (aE 107) [.tab,ax i] (ar D c))=PSo.map λi=>some (.bool (ov i),ar D c):=by rfl'
theorem ajo{i:Nat}(hi:i∈PSo){m:Nat}(av:100<=m)(D:List V)(c:Nat):bK G0 m (aE 107) [.tab,ax i] (ar D c)=some (.bool (ov i),ar D c):=by
 obtain⟨n,rfl⟩:=c0 av
 exact bJ (ajn n D c) hi
def vF (o:List Nat) (s:Bool) (u:List Nat):Prop:=
 (s=false/\fu o=true/\u=[4,5])\/u=[1]\/(s=true/\(∀q∈o,Nat.beq (bB q) 7=true/\ov q=false)/\u=[10])\/(s=true/\(∀q∈o,Nat.beq (bB q) 0=false/\Nat.beq (bB q) 6=false/\Nat.beq (bB q) 7=false)/\u=o)
theorem QL(f:Nat->Nat)(k:Nat):∀l:List Nat,bY k (l.map f)=l.any λq=>Nat.beq (f q) k
 |[]=>rfl
 |a::l=>by
  rw[h1,<-QL f k l]
  show cond (Nat.beq (f a) k) true (bY k (l.map f))=_
  rcases Nat.beq (f a) k with _|_<;>rfl
def QM (o:List Nat) (s:Bool):am:=[bE cF .tab,bE "other" (aH o),bE "strict" (.bool s),bE "fams" (bV (o.map bB))]
def ox (o:List Nat) (k:Nat):Bool:=o.any λq=>Nat.beq (bB q) k
def vG (o:List Nat):Bool:=o.all λq=>Nat.beq (bB q) 7
theorem GR{H:T}{o:List Nat}(k:Nat):cX H .In (.int (k:Int)) (bV (o.map bB))=some (ox o k):=by rw [yR,QL];rfl
theorem y1{o:List Nat}{p:Nat->Bool}(h:o.any p=false){q:Nat}(aO:q∈o):p q=false:=Bool.eq_false_iff.mpr λe=>Bool.noConfusion (h.symm.trans (List.any_eq_true.mpr ⟨q,aO,e⟩))
theorem ajp{k:am->T->Option (Fl×am×T)}{o:List Nat}(aG:Pts o)(aJ:∀q∈o,q∈PSo){n:Nat}{D:List V}{c:Nat}{J:am}(U:Has J (QM o true)):
  WS (bv G0 (n+150) (eP 132) J (yy ((aE 132).bd.drop 3)) (ar D c)) (sA k (jw (UQ (c+1) (vF o true)))):=by
 have ag:=aT aG.len (by decide:34<=4096)
 have dY:(o.map bB).length<=4096:=by rw [eQ];exact ag
 refine cH U (sP (sN _ (λf=>Nat.beq f 7) dY) dY (ht (dt U (v:=bV (o.map bB)) ⟨_,rfl,rfl,rfl⟩)) (λq aO=>?_) λJ U=>?_)
 .have U:=U.push (x:="fam") (s:=(bF q,false))
  exact iX (aM U (v:=bF q) (.og (v:=.int 7) ⟨_,i1 _ q 7,rfl,rfl⟩))
 rw[show ((o.map bB).all λf=>Nat.beq f 7)=vG o by rw [i6];rfl] at U
 refine bO (WE.is (a:=vG o&& !(o.any ov)) (s:=ar D c) ?_ ?_)
 .refine fN (dD (j9 (aM U (v:=.bool (vG o)) ⟨_,rfl,?_⟩)))
  rcases vG o with _|_
  .exact⟨rfl,rfl⟩
  refine dD (kP (iq (sP (Gf _ ov ag) ag (hS (bo (fn:=aE 61) (az (aM U (v:=.tab) (az (aM U (v:=aH o) (bj (.of (io aG (bH rfl) D c) ⟨cW U,_,rfl,rfl,rfl⟩)))))))) (λq aO=>?_) ⟨_,rfl,?_⟩)))
  .have U:=U.push (x:="part") (s:=(ax q,false))
   exact bo (fn:=aE 107) (az (aM U (v:=.tab) (az (aM U (v:=ax q) (bj (.of (ajo (aJ q aO) (bH rfl) D c) ⟨cW U,rfl,rfl⟩))))))
  .rcases o.any ov with _|_
   .exact dc ⟨rfl,rfl⟩
   .exact⟨rfl,rfl⟩
 rcases FV:vG o&& !(o.any ov) with _|_
 .exact bm (ck (.og (v:=.int 1) ⟨[1],D,c,rfl,rfl,cG c,.inr (.inl rfl)⟩))
 .exact ck (.og (v:=.int 10) ⟨[10],D,c,rfl,rfl,cG c,.inr (.inr (.inl ⟨rfl,λq aO=>⟨List.all_eq_true.mp (aK FV).1 q aO,y1 ((ki _).mp (aK FV).2) aO⟩,rfl⟩))⟩)
theorem ajq{o:List Nat}(aG:Pts o)(aJ:∀q∈o,q∈PSo)(s:Bool){n:Nat}{D:List V}{c:Nat}{J:am}(U:Has J (QM o s)):
  WS (bv G0 (n+152) (eP 132) J ((aE 132).bd.drop 2) (ar D c)) (jw (UQ (c+1) (vF o s))):=by
 refine bO (WE.is (a:= !s||ox o 0||ox o 6) (s:=ar D c) ?_ ?_)
 .refine fN (fp (kP (j9 (aM U (v:=.bool s) ⟨s,rfl,?_⟩))))
  rcases s with _|_
  .exact⟨rfl,rfl⟩
  refine fp (b6 (.og (v:=.int 0) (aM U (v:=bV (o.map bB)) ⟨_,GR 0,?_⟩)))
  rcases ox o 0 with _|_
  rotate_left
  .exact⟨rfl,rfl⟩
  refine fp (b6 (.og (v:=.int 6) (aM U (v:=bV (o.map bB)) ⟨_,GR 6,?_⟩)))
  rcases ox o 6 with _|_
  .exact dc ⟨rfl,rfl⟩
  .exact⟨rfl,rfl⟩
 rcases e2: !s||ox o 0||ox o 6 with _|_
 rotate_left
 .exact ck (.og (v:=.int 1) ⟨[1],D,c,rfl,rfl,cG c,.inr (.inl rfl)⟩)
 obtain⟨e,qj⟩:=(qN ..).mp e2
 obtain⟨es,e7⟩:=(qN ..).mp e
 obtain rfl:s=true:=by rcases s with _|_;exact Bool.noConfusion es;rfl
 refine bm (bO (b6 (.og (v:=.int 7) (aM U (v:=bV (o.map bB)) ⟨_,GR 7,?_⟩))))
 rcases yY:ox o 7 with _|_
 .exact bm (ck (aM U (v:=aH o) ⟨o,D,c,rfl,rfl,cG c,.inr (.inr (.inr ⟨rfl,λq aO=>⟨y1 e7 aO,y1 qj aO,y1 yY aO⟩,rfl⟩))⟩))
 .exact ajp aG aJ U
theorem ajr{o:List Nat}(aG:Pts o)(aJ:∀q∈o,q∈PSo)(s:Bool){m:Nat}(av:160<=m)(D:List V)(c:Nat):
  ∃u a0 aP,bK G0 m (aE 132) [.tab,aH o,.bool s] (ar D c)=some (aH u,ar a0 aP)/\aP<=c+1/\vF o s u:=by
 obtain⟨n,rfl⟩:=c0 av
 refine UQ.to ?_
 have ag:=aT aG.len (by decide:34<=4096)
 refine cc rfl ?_
 refine bO (WE.is (a:= !s&&fu o) (s:=ar D c) ?_ ?_)
 .refine fN (dD (kP (j9 (vn (v:=.bool s) ⟨s,rfl,?_⟩))))
  rcases s with _|_
  .refine dD (iq (bo (fn:=aE 128) (az (vn (v:=.tab) (az (vn (v:=aH o) (bj (.of (yN aG (bH rfl) D c) ⟨cr rfl,_,rfl,?_⟩))))))))
   rcases fu o with _|_
   .exact⟨rfl,rfl⟩
   .exact dc ⟨rfl,rfl⟩
  .exact⟨rfl,rfl⟩
 rcases e1: !s&&fu o with _|_
 .refine bm (cH .rfl (d8 (hS (bo (fn:=aE 61) (az (vn (v:=.tab) (az (vn (v:=aH o) (bj (.of (io aG (bH rfl) D c) ⟨cr rfl,_,rfl,?_⟩))))))))))
  refine .of (sO (g:=λq=>bF (bB q)) (λq aO=>dc ⟨rfl,rfl⟩) λq aO=>?_) ⟨?_,λJ U=>ajq aG aJ s (U.trans ?_)⟩
  .exact bo (fn:=aE 75) (az (vn (v:=.tab) (az (vn (v:=ax q) (bj (.of (kV (aG.sub q aO) (bH rfl) D c) ⟨cr rfl,rfl,rfl⟩))))))
  .rw[i0 ag,i6]
   exact(zX _).trans (List.all_eq_true.mpr λ_ _=>rfl)
  .rw[show V.list (o.map λq=>bF (bB q))=bV (o.map bB) by unfold bV;rw[wc];rfl]
   exact Has.rfl.sub
 .obtain⟨aa,ah⟩:=aK e1
  obtain⟨a0,e⟩:=lZ (QJ (n+56) D c)
  exact ck (cw (bo (fn:=aE 67) (.og (v:=[.tab,.tup [.int 4,.int 5]]) (.of e ⟨cr rfl,_,a0,c+1,rfl,rfl,cq _,.inl ⟨(ki _).mp aa,ah,rfl⟩⟩))))
theorem QN:(PSo.all λq=> !eu q||(Nat.beq q 4||Nat.beq q 5))=true:=by rfl'
theorem QO{b:Nat}:∀{l:List Nat},l.Nodup->(∀x∈l,x=b)->l=[]\/l=[b]
 |[],_,_=> .inl rfl
 |[_],_,h=> .inr (by rw [h _ (.head _)])
 |x::y::_,n,h=>absurd (((h x (.head _)).trans (h y (.tail _ (.head _))).symm)▸dV ..) (List.nodup_cons.mp n).1
theorem QP{o:List Nat}(aG:Pts o)(aJ:∀q∈o,q∈PSo)(h:fu o=true):o∈nkO:=by
 obtain⟨h0,aa⟩:=aK (show (!o.isEmpty&&o.all eu)=true from h)
 have GS:∀q∈o,q=4\/q=5:=λq aO=>by
  have:=bl QN (aJ q aO)
  rw[List.all_eq_true.mp aa q aO] at this
  exact((f9 (q.beq 4) (q.beq 5)).mp this).imp ei ei
 have nd:=aG.nd
 rcases o with _|⟨a,r⟩
 .cases h0
 obtain⟨dB,d9⟩:=List.nodup_cons.mp nd
 rcases GS a (.head _) with rfl|rfl
 .rcases QO (b:=5) d9 λx hx=>(GS x (.tail _ hx)).resolve_left λe=>dB (e▸hx) with rfl|rfl<;>decide
 .rcases QO (b:=4) d9 λx hx=>(GS x (.tail _ hx)).resolve_right λe=>dB (e▸hx) with rfl|rfl<;>decide
theorem ajs:(PS.all λi=>PSo.all λq=>bothS.all λs=> !(dU i&&dU q)||(jy i q s==iu i q s))=true:=by rfl'
theorem ajt{i:Nat}(h:dU i=true):Nat.beq (bB i) 0=false:=by
 rcases e:Nat.beq (bB i) 0 with _|_
 .rfl
 .have h:=(aK h).1
  rw[ei e] at h
  exact absurd h (by decide)
structure Uni (R:Nat->List Nat->Prop) (l u:List Nat):Prop where
 dF:Pts u
 ex:∃a3,eG (eb a3) u/\(∀r∈a3,Pts r)/\Cov R l a3
def QQ (l o:List Nat) (s:Bool) (u:List Nat):Prop:=
 (l=[1]/\vF o s u)\/(fu o=true/\o∈nkO/\Uni (yZ (m7 o s) s) l u)\/(fu o=false/\Uni (λi r=>kW i o s r) l u)
theorem y2{l:List Nat}(h:fx l 1=true):l=[1]:=by
 match l,h with
 |[i],h=>rw[Int.ofNat.inj (iEq_iff.mp (show cN i 1=true from h))]
theorem QR{i:Nat}(hi:i∈PS){o:List Nat}{s:Bool}{r:List Nat}(h:kW i o s r):Pts r:=by
 rcases h with ⟨_,rfl⟩|⟨_,rfl|⟨_,_,S⟩|⟨_,_,_,S⟩⟩
 .exact .nil
 .exact .one hi
 .exact S.dF
 .exact S.dF
def aju (s:Bool) (o:List Nat) (L:List V):am:=[bE cF .tab,bE "strict" (.bool s),bE "other" (aH o),("out",.list L,true)]
abbrev GU (s:Bool) (o:List Nat) (b:Nat):List Nat->List Nat->am->T->Prop:=OutI (λi r=>kW i o s r) (aju s o) (λi=>i∈PS/\dU i=true) b
theorem ajv{o:List Nat}(aJ:∀q∈o,q∈PSo)(s:Bool)(vH:o.all dU=true){i:Nat}(hi:i∈PS)(y3:dU i=true):o.filter (λq=>jy i q s)=g6 i o s:=List.filter_congr λq aO=>by
 have:=bl (bl (bl ajs hi) (aJ q aO)) (f8 s)
 rw[y3,List.all_eq_true.mp vH q aO] at this
 exact eq_of_beq this
theorem ajw{n b:Nat}{o:List Nat}(aG:Pts o)(aJ:∀q∈o,q∈PSo)(s:Bool)(vH:o.all dU=true)(d:List Nat)(i:Nat)(r:List Nat)(J:am)(H:T)(h:GU s o b d (i::r) J H):
  WS (om G0 (n+225) (eP 133) (sG ((aE 133).bd.drop 3)) (lY ((aE 133).bd.drop 3)) (ax i) J H) (f6 (GU s o b (d++[i]) r)):=by
 obtain⟨a3,D,c,U,e,ap,aS,eB,cov,aq⟩:=h
 rw[e]
 obtain⟨hi,y3⟩:=aq i (dV ..)
 refine ka U λJ U=>cH U (d8 (hS (bo (fn:=aE 61) (az (aM U (v:=.tab) (az (aM U (v:=aH o) (bj (.of (io aG (bH rfl) D c) ⟨cW U,_,rfl,?_⟩)))))))))
 refine .of (kQ (p:=λq=>jy i q s) (g:=ax) (λq aO=>?_) λq aO=>?_) ⟨by rw [FX (aG.vZ _),qn (aG.vZ _)];rfl,?_⟩
 .have U:=U.push (x:="one") (s:=(ax q,false))
  refine dD (iq (bo (fn:=aE 127) (az (aM U (v:=.tab) (az (aM U (v:=ax i) (az (aM U (v:=ax q) (az (aM U (v:=.bool s) (bj (.of (Gn hi (aG.sub q aO) s (bH rfl) D c) ⟨cW U,_,rfl,?_⟩))))))))))))
  rcases jy i q s with _|_
  .exact⟨rfl,rfl⟩
  .exact dc ⟨rfl,rfl⟩
 .exact dt (U.push (x:="one") (s:=(ax q,false))) (v:=ax q) ⟨rfl,rfl⟩
 rw[ajv aJ s vH hi y3]
 have QS:Pts (g6 i o s):=aG.vZ _
 have GO:(V.list ((g6 i o s).map ax)).truth=some (!((g6 i o s).map ax).isEmpty):=by
  show ow (cz _) _=_
  rw[qn QS];rfl
 intro J U
 refine bO (j9 (aM U (v:=.list ((g6 i o s).map ax)) ⟨_,GO,?_⟩))
 rcases eR (g6 i o s=[]) with h0|h0
 .rw[h0]
  exact bm (bm ⟨rfl,.skip ap aS eB cov aq U.sub (.inl ⟨h0,rfl⟩)⟩)
 rw[show (!((g6 i o s).map ax).isEmpty)=true by revert h0;rcases g6 i o s with _|_;exact λh=>absurd rfl h;exact λ_=>rfl]
 obtain⟨x,a0,aP,e,hG,q⟩:=QF hi QS (λe=>by rw [ajt y3] at e;cases e) (m:=n+221) (bH rfl) D c
 have jg:kW i o s x:=.inr ⟨h0,q.elim .inl λq=> .inr (.inl q)⟩
 exact sW U (bo (fn:=aE 129) (az (aM U (v:=.tab) (az (aM U (v:=ax i) (az (aM U (v:=.list ((g6 i o s).map ax)) (bj (.of e ⟨cW U,OutI.room eB x,λJ U=>bm (bm ⟨rfl,.snoc ap aS eB cov aq U.sub (QR hi jg) jg (aT hG (dh (by decide) c))⟩)⟩)))))))))
theorem ajx{l:List Nat}(ag:Pts l)(aa:1∈l->l=[1]){o:List Nat}(aG:Pts o)(aJ:∀q∈o,q∈PSo)(s:Bool)(aS:l≠[1]->fu o=false->l.all dU=true/\o.all dU=true){m:Nat}(av:230<=m)(D:List V)(c:Nat):
  ∃u a0 aP,bK G0 m (aE 133) [.tab,aH l,aH o,.bool s] (ar D c)=some (aH u,ar a0 aP)/\aP<=c+400/\QQ l o s u:=by
 obtain⟨n,rfl⟩:=c0 av
 refine UQ.to ?_
 have kc:=ag.len
 refine cc rfl ?_
 refine bO (b6 (vn (v:=aH l) (.og (v:=.int 1) ⟨_,vE ag (by decide) D c,?_⟩)))
 rcases fy:fx l 1 with _|_
 rotate_left
 .obtain⟨u,a0,aP,e,ap,q⟩:=ajr aG aJ s (m:=n+226) (bH rfl) D c
  exact ck (cw (bo (fn:=aE 132) (az (vn (v:=.tab) (az (vn (v:=aH o) (az (vn (v:=.bool s) (bj (.of e ⟨cr rfl,u,a0,aP,rfl,rfl,aT ap (dh (by decide) c),.inl ⟨y2 fy,q⟩⟩))))))))))
 have rR:1∉l:=λq=>by rw [aa q] at fy;cases fy
 refine bm (bO (iq (bo (fn:=aE 128) (az (vn (v:=.tab) (az (vn (v:=aH o) (bj (.of (yN aG (bH rfl) D c) ⟨cr rfl,_,rfl,?_⟩)))))))))
 rcases dE:fu o with _|_
 rotate_left
 .have ke:=QP aG aJ dE
  obtain⟨u,a0,aP,e,ap,ec,a3,a7,aq,cov⟩:=ajk ag rR ke s (m:=n+225) (bH rfl) D c
  exact ck (cw (bo (fn:=aE 131) (az (vn (v:=.tab) (az (vn (v:=aH l) (az (vn (v:=aH o) (az (vn (v:=.bool s) (bj (.of e ⟨cr rfl,u,a0,aP,rfl,rfl,ap,.inr (.inl ⟨dE,ke,ec,a3,a7,aq,cov⟩)⟩))))))))))))
 obtain⟨ajy,vH⟩:=aS (λq=>rR (q▸List.mem_singleton.mpr rfl)) dE
 refine bm (yz .rfl (.og (v:=.list []) λJ U=>?_))
 refine il (hS (bo (fn:=aE 61) (az (aM U (v:=.tab) (az (aM U (v:=aH l) (bj (.of (io ag (bH rfl) D c) ⟨cW U,_,rfl,?_⟩))))))))
 refine(vC (I:=GU s o (c+8*l.length)) (ajw aG aJ s vH) l [] _ _ ⟨[],D,c,U.sub,rfl,cq _,(λ_ h=>nomatch h),(by rw [zT,mf];exact kc),.nil,λi hi=>⟨ag.sub i hi,List.all_eq_true.mp ajy i hi⟩⟩).mono ?_
 rintro f J O ⟨rfl,a3,a0,aP,U,rfl,ap,aS,_,cov,_⟩
 obtain⟨u,eO,eH,e,hr,ec,a7⟩:=m3 aS (X:=.list (a3.map aH)) rfl (m:=n+223) (bH rfl) a0 aP
 exact ck (cw (bo (fn:=aE 67) (az (aM U (v:=.tab) (az (jx U (v:=.list (a3.map aH)) (bj (.of e ⟨kS (a:=.tab) U.g (yw (d:=a3.map aH) U.g (y0 u) yx),u,eO,eH,rfl,rfl,aT hr (aT (gr (aT ap (dh (oL 8 kc) c))) (dh (by decide:272+1<=400) c)),.inr (.inr ⟨dE,ec,a3,a7,aS,cov⟩)⟩))))))))
def GV (o:List Nat):V:=match o with
 |[q]=>f7 q
 |_=> .tup []
def y4 (o:List Nat):Bool:=match o with
 |[q]=>fv q
 |_=>true
theorem ajz{o:List Nat}(aG:Pts o)(h0:o≠[]){m:Nat}(av:70<=m)(D:List V)(c:Nat):bK G0 m (aE 126) [.tab,aH o] (ar D c)=some (GV o,ar D c)/\cX (ar D c) .Eq (GV o) (.tup [])=some (y4 o):=by
 obtain⟨n,rfl⟩:=c0 av
 match o,aG,h0 with
 |[q],aG,_=>exact⟨vv (aG.sub q (by simp)) av D c,bJ (Gm D c) (aG.sub q (by simp))⟩
 |i::j::r,_,_=>
  refine⟨?_,rfl⟩
  show _=some (V.tup [],_)
  have e:aH (i::j::r)=match f0 (i::j::r) [8,9] with|true=> .int 12|false=> .ty (.tup [.int 6,.tup ((i::j::r).map ax)]):=rfl
  rw[e]
  cases q:f0 (i::j::r) [8,9] with
  |true=>rfl'
  |false=>
   generalize (i::j::r).map ax=L
   rfl'
def gL (q i:Nat):Bool:= !sQ i q&& !(Nat.beq i 3&&Nat.beq q 4)
theorem ajA(D:List V)(c:Nat):(PS.map λi=>PSo.map λj=>cX (ar D c) .NotEq (f7 i) (f7 j))=PS.map λi=>PSo.map λj=>some (!sQ i j):=by rfl'
theorem QT(D:List V)(c:Nat):([3,4].map λ(z:Nat)=>PS.map λi=>cX (ar D c) .Eq (ax i) (.int (z:Int)))=[3,4].map λz=>PS.map λi=>some (Nat.beq i z):=by rfl'
def famO:List Nat:=PSo.filter λq=> !fv q
theorem ajB(D:List V)(c:Nat):(famO.map λq=>(fE (ar D c) (f7 q) (.int 0)).bind λk=>cX (ar D c) .In k (.tup [.int 4,.int 5,.int 6]))=famO.map λq=>some (eu q):=by rfl'
theorem ajC:(famO.all λq=> !eu q||(Nat.beq q 4||Nat.beq q 5))=true:=by rfl'
theorem QU(n:Nat)(D:List V)(c:Nat):([4,5].map λ(k:Nat)=>(bK G0 (n+100) (aE 67) [.tab,.tup [.int 11,.int (k:Int)]] (ar D c)).map kT)=[4,5].map λk=>kU (aH [k,11]) (c+1):=by rfl'
def GW (l o u:List Nat):Prop:=
 (y4 o=true/\u=l)\/(∃q,o=[q]/\(q=4\/q=5)/\l=[1]/\u=[9 - q,11])\/(∃q,o=[q]/\fv q=false/\Same (l.filter (gL q)) u)
def y5 (q:Nat) (L:List Nat):am:=[bE cF .tab,bE "value" (f7 q),bE "other" (ax q),("out",.list (L.map ax),true)]
structure PnI (q:Nat) (D:List V) (c:Nat) (d r:List Nat) (J:am) (O:T):Prop where
 mem:∀i∈r,i∈PS
 fr:Has J (y5 q (d.filter (gL q)))
 st:O=ar D c
 len:d.length+r.length<=34
theorem ajD{q i:Nat}{d:List Nat}:(d++[i]).filter (gL q)=d.filter (gL q)++cond (gL q i) [i] []:=by
 rw[List.filter_append,qT,List.filter_nil]
 rcases gL q i with _|_<;>rfl
theorem y6(i:Nat):V.flat (ax i)=true:=by
 unfold ax
 rcases Nat.blt i 31 with _|_<;>rfl
theorem ajE{q i:Nat}(aO:q∈PSo)(hi:i∈PS){n:Nat}{D:List V}{c:Nat}{L:List Nat}{J:am}(U:Has J (cb (y5 q L) "part" (ax i) false)):
  WE (dR G0 (n+80) (eP 134) J (qo (lY ((aE 134).bd.drop 4))) (ar D c)) (Is (gL q i) (ar D c)):=by
 refine fN (dD (b6 (cw (bo (fn:=aE 126) (az (aM U (v:=.tab) (az (aM U (v:=ax i) (bj (.of (vv hi (bH rfl) D c) ⟨cW U,?_⟩))))))))))
 refine aM U (v:=f7 q) ⟨_,bJ (bJ (ajA D c) hi) aO,?_⟩
 unfold gL
 rcases sQ i q with _|_
 rotate_left
 .exact⟨rfl,rfl⟩
 refine dD (kP (fN (dD (b6 (aM U (v:=ax i) (.og (v:=.int 3) ⟨_,bJ (bJ (QT D c) (x:=3) (by decide)) hi,?_⟩))))))
 rcases Nat.beq i 3 with _|_
 .exact dc ⟨rfl,rfl⟩
 refine dD (b6 (aM U (v:=ax q) (.og (v:=.int 4) ⟨_,bJ (bJ (QT D c) (x:=4) (by decide)) (yX q aO),?_⟩)))
 rcases Nat.beq q 4 with _|_<;>exact dc ⟨rfl,rfl⟩
theorem ajF{q:Nat}(aO:q∈PSo){n:Nat}{D:List V}{c:Nat}(d:List Nat)(i:Nat)(r:List Nat)(J:am)(H:T)(h:PnI q D c d (i::r) J H):
  WS (om G0 (n+90) (eP 134) (sG ((aE 134).bd.drop 4)) (lY ((aE 134).bd.drop 4)) (ax i) J H) (f6 (PnI q D c (d++[i]) r)):=by
 obtain⟨aq,U,e,eB⟩:=h
 rw[e]
 have hi:=aq i (dV ..)
 have next:∀{J},Has J (y5 q ((d++[i]).filter (gL q)))->PnI q D c (d++[i]) r J (ar D c):=λU=>⟨λj bt=>aq j (.tail _ bt),U,rfl,by rw [d5];exact aT (dW (qO ..)) eB⟩
 have ag:cz ((d.filter (gL q)).map ax)=true:=i0 (aT (v3 ..) (aT (eZ ..) (aT eB (by decide))))
 rw[ajD] at next
 refine ka U λJ U=>bO (WE.is (ajE aO hi U) ?_)
 generalize gL q i=t at next |-
 rcases t with _|_
 .exact bm (bm ⟨rfl,next (by rw [cond_false,eh];exact U.sub)⟩)
 .exact sW U (dt U (v:=ax i) ⟨by rw [y6,ag];rfl,λJ U=>bm (bm ⟨rfl,next (by unfold y5;rw[nj];exact U.sub)⟩)⟩)
theorem ajG{l:List Nat}(ag:Pts l){q:Nat}(aO:q∈PSo)(ev:fv q=false){n:Nat}{D:List V}{c:Nat}{J:am}(U:Has J [bE cF .tab,bE "t" (aH l),bE "value" (f7 q),bE "other" (ax q)]):
  WS (bv G0 (n+146) (eP 134) J ((aE 134).bd.drop 3) (ar D c)) (jw (UQ (c+1) (GW l [q]))):=by
 refine yz U (.og (v:=.list []) λJ U=>?_)
 refine il (hS (bo (fn:=aE 61) (az (aM U (v:=.tab) (az (aM U (v:=aH l) (bj (.of (io ag (bH rfl) D c) ⟨cW U,_,rfl,?_⟩))))))))
 refine(vC (I:=PnI q D c) (ajF aO) l [] _ _ ⟨ag.sub,U.sub,rfl,by rw [zT,mf];exact ag.len⟩).mono ?_
 rintro f J O ⟨rfl,_,U,rfl,_⟩
 rw[tx] at U
 obtain⟨u,eO,eH,e,hr,S⟩:=yW (ag.vZ (gL q)) (X:=.list ((l.filter (gL q)).map ax)) rfl (m:=n+142) (bH rfl) D c
 exact ck (cw (bo (fn:=aE 67) (az (aM U (v:=.tab) (az (jx U (v:=.list ((l.filter (gL q)).map ax)) (bj (.of e ⟨kS (a:=.tab) U.g (yw (d:=(l.filter (gL q)).map ax) U.g (y0 u) yx),u,eO,eH,rfl,rfl,hr,.inr (.inr ⟨q,rfl,ev,S⟩)⟩))))))))
theorem ajH{l:List Nat}(ag:Pts l){o:List Nat}(aG:Pts o)(aJ:∀q∈o,q∈PSo)(eY:o≠[]){m:Nat}(av:150<=m)(D:List V)(c:Nat):
  ∃u a0 aP,bK G0 m (aE 134) [.tab,aH l,aH o] (ar D c)=some (aH u,ar a0 aP)/\aP<=c+1/\GW l o u:=by
 obtain⟨n,rfl⟩:=c0 av
 refine UQ.to ?_
 obtain⟨al,ajI⟩:=ajz aG eY (m:=n+147) (bH rfl) D c
 refine cc rfl ?_
 refine cB (bo (fn:=aE 126) (az (vn (v:=.tab) (az (vn (v:=aH o) (bj (.of al ⟨cr rfl,?_⟩)))))))
 refine bO (b6 (vn (v:=GV o) (.og (v:=.tup []) ⟨_,ajI,?_⟩)))
 rcases ev:y4 o with _|_
 rotate_left
 .exact ck (vn (v:=aH l) ⟨l,D,c,rfl,rfl,cG c,.inl ⟨ev,rfl⟩⟩)
 match o,eY,ev,aJ with
 |[q],_,ev,aJ=>
 have aO:=aJ q (.head _)
 have QV:q∈famO:=List.mem_filter.mpr ⟨aO,by rw [show fv q=false from ev];rfl⟩
 refine bm (bO (WE.is (a:=fx l 1&&eu q) (s:=ar D c) ?_ ?_))
 .refine fN (dD (b6 (vn (v:=aH l) (.og (v:=.int 1) ⟨_,vE ag (by decide) D c,?_⟩))))
  rcases fx l 1 with _|_
  .exact⟨rfl,rfl⟩
  obtain⟨k,e1,e2⟩:=oQ (bJ (ajB D c) QV)
  refine dD (b6 (lX (yB (vn (v:=f7 q) (.og (v:=.int 0) ⟨k,e1,.og (v:=.tup [.int 4,.int 5,.int 6]) ⟨_,e2,?_⟩⟩)))))
  rcases eu q with _|_
  .exact⟨rfl,rfl⟩
  .exact dc ⟨rfl,rfl⟩
 rcases e1:fx l 1&&eu q with _|_
 .exact bm (ajG ag aO ev (Has.sub .rfl))
 obtain⟨jq,e2⟩:=aK e1
 have QW:=bl ajC QV
 rw[e2] at QW
 rcases((f9 (q.beq 4) (q.beq 5)).mp QW).imp ei ei with rfl|rfl
 .obtain⟨a0,e⟩:=lZ (bJ (QU (n+44) D c) (x:=5) (by decide))
  exact ck (cw (bo (fn:=aE 67) (.og (v:=[.tab,.tup [.int 11,.int 5]]) (.of e ⟨cr rfl,_,a0,c+1,rfl,rfl,cq _,.inr (.inl ⟨4,rfl,.inl rfl,y2 jq,rfl⟩)⟩))))
 .obtain⟨a0,e⟩:=lZ (bJ (QU (n+44) D c) (x:=4) (by decide))
  exact ck (cw (bo (fn:=aE 67) (.og (v:=[.tab,.tup [.int 11,.int 4]]) (.of e ⟨cr rfl,_,a0,c+1,rfl,rfl,cq _,.inr (.inl ⟨5,rfl,.inr rfl,y2 jq,rfl⟩)⟩))))
theorem QX(D:List V)(c:Nat):(PS2.map λi=>cX (ar D c) .In (ax i) (.tup [.int 0,.int 13]))=PS2.map λ(i:Nat)=>some (cN i 0):=by rfl'
theorem QY(D:List V)(c:Nat):(PS2.map λi=>cX (ar D c) .In (ax i) (.tup [.int 0,.int 13,.int 1]))=PS2.map λ(i:Nat)=>some (cN i 0||cN i 1):=by rfl'
theorem y7{l:List Nat}(ag:Pts l)(D:List V)(c:Nat):cX (ar D c) .In (aH l) (.tup [.int 0,.int 13])=some (fx l 0)/\cX (ar D c) .In (aH l) (.tup [.int 0,.int 13,.int 1])=some (fx l 0||fx l 1):=by
 match l,ag with
 |[],_=>exact⟨bJ (QX D c) (x:=2) (by decide),bJ (QY D c) (x:=2) (by decide)⟩
 |[i],ag=>exact⟨bJ (QX D c) (.tail _ (ag.sub i (.head _))),bJ (QY D c) (.tail _ (ag.sub i (.head _)))⟩
 |i::j::r,_=>
  have e:aH (i::j::r)=match f0 (i::j::r) [8,9] with|true=> .int 12|false=> .ty (.tup [.int 6,.tup ((i::j::r).map ax)]):=rfl
  rw[e]
  show _=some false/\_=some false
  cases q:f0 (i::j::r) [8,9] with
  |true=>exact⟨by rfl',by rfl'⟩
  |false=>
   generalize (i::j::r).map ax=L
   exact⟨by rfl',by rfl'⟩
def kX (l o:List Nat):Bool:=fx l 0||(fx o 0||fx o 1)
def QZ (l o:List Nat) (y s:Bool) (u:List Nat):Prop:=
 (kX l o=true/\u=l)\/(kX l o=false/\y=true/\QQ l o s u)\/(kX l o=false/\y=false/\((s=false/\fu o=true/\Pts u/\eG (eb (l.map (ff 101))) u)\/((s=true\/fu o=false)/\GW l o u)))
theorem ajJ{l:List Nat}(ag:Pts l)(aa:1∈l->l=[1]){o:List Nat}(aG:Pts o)(aJ:∀q∈o,q∈PSo)(eY:o≠[])(y s:Bool)(aS:y=true->l≠[1]->fu o=false->l.all dU=true/\o.all dU=true){m:Nat}(av:240<=m)(D:List V)(c:Nat):
  ∃u a0 aP,bK G0 m (aE 135) [.tab,aH l,aH o,.bool y,.bool s] (ar D c)=some (aH u,ar a0 aP)/\aP<=c+400/\QZ l o y s u:=by
 obtain⟨n,rfl⟩:=c0 av
 refine UQ.to ?_
 refine cc rfl ?_
 refine bO (WE.is (a:=kX l o) (s:=ar D c) ?_ ?_)
 .refine fN (fp (b6 (vn (v:=aH l) (.og (v:=.tup [.int 0,.int 13]) ⟨_,(y7 ag D c).1,?_⟩))))
  unfold kX
  rcases fx l 0 with _|_
  rotate_left
  .exact⟨rfl,rfl⟩
  refine fp (b6 (vn (v:=aH o) (.og (v:=.tup [.int 0,.int 13,.int 1]) ⟨_,(y7 aG D c).2,?_⟩)))
  rcases fx o 0||fx o 1 with _|_
  .exact dc ⟨rfl,rfl⟩
  .exact⟨rfl,rfl⟩
 rcases fM:kX l o with _|_
 rotate_left
 .exact ck (vn (v:=aH l) ⟨l,D,c,rfl,rfl,eZ ..,.inl ⟨fM,rfl⟩⟩)
 refine bm (bO (j9 (vn (v:=.bool y) ⟨y,rfl,?_⟩)))
 rcases y with _|_
 rotate_left
 .obtain⟨u,a0,aP,e,ap,q⟩:=ajx ag aa aG aJ s (aS rfl) (m:=n+235) (bH rfl) D c
  exact ck (cw (bo (fn:=aE 133) (az (vn (v:=.tab) (az (vn (v:=aH l) (az (vn (v:=aH o) (az (vn (v:=.bool s) (bj (.of e ⟨cr rfl,u,a0,aP,rfl,rfl,ap,.inr (.inl ⟨fM,rfl,q⟩)⟩))))))))))))
 refine bm (bO (WE.is (a:= !s&&fu o) (s:=ar D c) ?_ ?_))
 .refine fN (dD (kP (j9 (vn (v:=.bool s) ⟨s,rfl,?_⟩))))
  rcases s with _|_
  rotate_left
  .exact⟨rfl,rfl⟩
  refine dD (iq (bo (fn:=aE 128) (az (vn (v:=.tab) (az (vn (v:=aH o) (bj (.of (yN aG (bH rfl) D c) ⟨cr rfl,_,rfl,?_⟩))))))))
  rcases fu o with _|_
  .exact⟨rfl,rfl⟩
  .exact dc ⟨rfl,rfl⟩
 rcases e1: !s&&fu o with _|_
 .have e2:s=true\/fu o=false:=by
   rcases s with _|_
   .exact .inr e1
   .exact .inl rfl
  obtain⟨u,a0,aP,e,ap,q⟩:=ajH ag aG aJ eY (m:=n+234) (bH rfl) D c
  exact bm (ck (cw (bo (fn:=aE 134) (az (vn (v:=.tab) (az (vn (v:=aH l) (az (vn (v:=aH o) (bj (.of e ⟨cr rfl,u,a0,aP,rfl,rfl,aT ap (dh (by decide) c),.inr (.inr ⟨fM,rfl,.inr ⟨e2,q⟩⟩)⟩)))))))))))
 .obtain⟨aa,ah⟩:=aK e1
  obtain⟨u,a0,aP,e,ap,ec,a7⟩:=yI (j:=101) (.inl rfl) ag (m:=n+234) (bH rfl) D c
  exact ck (cw (bo (fn:=aE 101) (az (vn (v:=.tab) (az (vn (v:=aH l) (bj (.of e ⟨cr rfl,u,a0,aP,rfl,rfl,aT ap (dh (by decide) c),.inr (.inr ⟨fM,rfl,.inl ⟨(ki _).mp aa,ah,ec,a7⟩⟩)⟩))))))))
def m8(l o:List Nat)(y s:Bool)(u:List Nat):Prop:=
 QZ l o y s u\/(y=true/\fu o=false/\Uni (λi r=>kW i o s r) l u)
theorem ajK{o:List Nat}(h:fu o=false)(h0:o≠[]):o.all eu=false:=by
 rcases o with _|⟨a,r⟩
 .exact absurd rfl h0
 .exact h
def GX (l o:List Nat) (y s:Bool):am:=[bE cF .tab,bE "t" (aH l),bE "other" (aH o),bE "yes" (.bool y),bE "strict" (.bool s),bE "plain" (.bool (l.all dU&&o.all dU))]
def y8 (l o:List Nat) (y:Bool):Bool:=l.all dU&&o.all dU||(!y||(fx l 1||fu o))
theorem ajL{l o:List Nat}(ag:Pts l)(aG:Pts o)(y s:Bool){n:Nat}{D:List V}{c:Nat}{J:am}(U:Has J (GX l o y s)):WE (dR G0 (n+240) (eP 151) J (qo ((aE 151).bd.drop 4)) (ar D c)) (Is (y8 l o y) (ar D c)):=by
 refine fN (fp (j9 (aM U (v:=.bool (l.all dU&&o.all dU)) ⟨_,rfl,?_⟩)))
 unfold y8
 rcases l.all dU&&o.all dU with _|_
 rotate_left
 .exact⟨rfl,rfl⟩
 refine fp (kP (j9 (aM U (v:=.bool y) ⟨_,rfl,?_⟩)))
 rcases y with _|_
 .exact⟨rfl,rfl⟩
 refine fp (b6 (aM U (v:=aH l) (.og (v:=.int 1) ⟨_,vE ag (by decide) D c,?_⟩)))
 rcases fx l 1 with _|_
 rotate_left
 .exact⟨rfl,rfl⟩
 refine fp (iq (bo (fn:=aE 128) (az (aM U (v:=.tab) (az (aM U (v:=aH o) (bj (.of (yN aG (bH rfl) D c) ⟨cW U,_,rfl,?_⟩))))))))
 rcases fu o with _|_
 .exact dc ⟨rfl,rfl⟩
 .exact⟨rfl,rfl⟩
theorem ajM{l:List Nat}(ag:Pts l){o:List Nat}(aG:Pts o)(aJ:∀q∈o,q∈PSo)(bi:o.all eu=false)(dE:fu o=false)(s:Bool){n:Nat}{D:List V}{c:Nat}{J:am}(U:Has J (GX l o true s)):
  WS (bv G0 (n+248) (eP 151) J ((aE 151).bd.drop 6) (ar D c)) (jw (UQ (c+2000) (m8 l o true s))):=by
 refine ck (cw (bo (fn:=aE 67) (az (aM U (v:=.tab) (az (j8 (d8 (hS (bo (fn:=aE 61) (az (aM U (v:=.tab) (az (aM U (v:=aH l) (bj (.of (io ag (bH rfl) D c) ⟨cW U,_,rfl,?_⟩)))))))))))))))
 refine sJ (R:=λi r=>kW i o s r) (k:=40) (λi hi D c=>dc ⟨rfl,rfl⟩) (λi hi D c=>?_) D c λa3 fq eW aB fO=>?_
 .obtain⟨u,a0,aP,e,h,aS⟩:=aj5 (ag.sub i hi) aG aJ bi s (m:=n+244) (bH rfl) D c
  have U:=U.push (x:="part") (s:=(ax i,false))
  exact bo (fn:=aE 150) (az (aM U (v:=.tab) (az (aM U (v:=ax i) (az (aM U (v:=aH o) (az (aM U (v:=.bool s) (bj (.of e ⟨cW U,u,a0,aP,rfl,rfl,h,aS⟩))))))))))
 .have oq:=aT (dW (Paired.len fO).symm) ag.len
  have sY:∀r∈a3,Pts r:=λr aq=>by obtain ⟨i,hi,p⟩:=Paired.all fO r aq;exact QR (ag.sub i hi) p
  obtain⟨u,a0,aP,e,a8,l1,a7⟩:=m3 sY (X:=.list (a3.map aH)) rfl (m:=n+246) (bH rfl) fq eW
  exact⟨by rw [yH];exact md (by rw [eQ];exact aT oq (by decide)),bj (.of e ⟨cW U,u,a0,aP,rfl,rfl,aT a8 (aT (gr (aT aB (dh (oL 40 ag.len) c))) (dh (by decide:40*34+1<=2000) c)),.inr ⟨rfl,dE,l1,a3,a7,sY,Paired.cov fO⟩⟩)⟩
theorem Q0{l:List Nat}(ag:Pts l)(aa:1∈l->l=[1]){o:List Nat}(aG:Pts o)(aJ:∀q∈o,q∈PSo)(eY:o≠[])(y s:Bool){m:Nat}(av:255<=m)(D:List V)(c:Nat):
  ∃u a0 aP,bK G0 m (aE 151) [.host,aH l,aH o,.bool y,.bool s] (ar D c)=some (aH u,ar a0 aP)/\aP<=c+2000/\m8 l o y s u:=by
 obtain⟨n,rfl⟩:=c0 av
 refine UQ.to ?_
 refine cc rfl ?_
 refine cB (.og (v:=.tab) ?_)
 refine cB (.og (v:=aH l) ?_)
 refine cB (.og (v:=aH o) ?_)
 refine cH .rfl (WE.is (a:=.bool (l.all dU&&o.all dU)) (s:=ar D c) ?_ λJ U=>?_)
 .refine vw (bo (fn:=aE 141) (az (vn (v:=.tab) (az (vn (v:=aH l) (bj (.of (Qd ag (bH rfl) D c) ⟨cr rfl,_,rfl,?_⟩)))))))
  rcases l.all dU with _|_
  .exact⟨rfl,rfl⟩
  .exact bo (fn:=aE 141) (az (vn (v:=.tab) (az (vn (v:=aH o) (bj (.of (Qd aG (bH rfl) D c) ⟨cr rfl,rfl,rfl⟩))))))
 replace U:Has J (GX l o y s):=U.sub
 refine bO (WE.is (ajL ag aG y s U) ?_)
 rcases e1:y8 l o y with _|_
 rotate_left
 .obtain⟨u,a0,aP,e,ap,q⟩:=ajJ ag aa aG aJ eY y s (λaY rR ajN=>by
   unfold y8 at e1
   rw[aY,ajN,show fx l 1=false from Bool.eq_false_iff.mpr λe=>rR (y2 e)] at e1
   exact aK ((zY _).symm.trans e1)) (m:=n+247) (bH rfl) D c
  exact ck (cw (bo (fn:=aE 135) (az (aM U (v:=.tab) (az (aM U (v:=aH l) (az (aM U (v:=aH o) (az (aM U (v:=.bool y) (az (aM U (v:=.bool s) (bj (.of e ⟨cW U,u,a0,aP,rfl,rfl,aT ap (dh (by decide) c),.inl q⟩))))))))))))))
 obtain⟨e1,e2⟩:=(qN ..).mp e1
 obtain⟨rO,e2⟩:=(qN ..).mp e2
 obtain⟨fy,dE⟩:=(qN ..).mp e2
 obtain rfl:y=true:=by rcases y with _|_;exact Bool.noConfusion rO;rfl
 refine bm (bO (WE.is (a:=kX l o) (s:=ar D c) ?_ ?_))
 .refine fN (fp (b6 (aM U (v:=aH l) (.og (v:=.tup [.int 0,.int 13]) ⟨_,(y7 ag D c).1,?_⟩))))
  unfold kX
  rcases fx l 0 with _|_
  rotate_left
  .exact⟨rfl,rfl⟩
  refine fp (b6 (aM U (v:=aH o) (.og (v:=.tup [.int 0,.int 13,.int 1]) ⟨_,(y7 aG D c).2,?_⟩)))
  rcases fx o 0||fx o 1 with _|_
  .exact dc ⟨rfl,rfl⟩
  .exact⟨rfl,rfl⟩
 rcases fM:kX l o with _|_
 .exact bm (ajM ag aG aJ (ajK dE eY) dE s U)
 .exact ck (aM U (v:=aH l) ⟨l,D,c,rfl,rfl,eZ ..,.inl (.inl ⟨fM,rfl⟩)⟩)
noncomputable def Q1:List Nat:=[0,0,2,3,2,5,6,2,3,9,10,11,12,13]
noncomputable def wordL:List Nat:=[2,1,5,5,0,0,0,3,3,3,3,1,1,4]
def kf (v w:Nat) (s:Bool):Bool:=cond (Nat.beq v 10||Nat.beq w 10) false (cond s (Nat.beq v w) (Nat.beq (fR Q1 0 v) (fR Q1 0 w)))
def sZ (v w:Nat) (s:Bool):Bool:= !s&&(Nat.blt 1 (min v w)&&(Nat.blt (max v w) 11&& !Nat.beq (fR wordL 0 v) (fR wordL 0 w)))
def Q2 (q:Nat) (s:Bool) (v:Nat):Bool:=R14.any λw=>cS q w&&kf v w s
def Q3 (q:Nat) (s:Bool) (v:Nat):Bool:=R14.any λw=>cS q w&& !kf v w s
def Q4 (q:Nat) (s:Bool) (v:Nat):Bool:=R14.any λw=>cS q w&&sZ v w s
def gp (q:Nat) (s:Bool):Nat:=match s with
 |true=>lW [(0,15359),(1,15359),(4,1),(5,2),(6,112),(7,896),(8,4),(9,8),(10,14336),(11,15356),(15,8),(16,4096),(18,16),(19,32),(20,32),(21,64),(22,128),(23,256),(24,512),(25,128),(26,256),(27,32),(28,4096),(29,8192),(30,15359)] q
 |false=>lW [(0,15359),(1,15359),(4,3),(5,3),(6,244),(7,924),(8,148),(9,264),(10,14336),(11,15356),(15,264),(16,4096),(18,148),(19,32),(20,32),(21,64),(22,148),(23,264),(24,512),(25,148),(26,264),(27,32),(28,4096),(29,8192),(30,15359)] q
def iv (q:Nat) (s:Bool):Nat:=match s with
 |true=>lW [(0,16383),(1,16383),(4,16382),(5,16381),(6,16383),(7,16383),(8,16379),(9,16375),(10,16383),(11,16383),(15,16375),(16,12287),(18,16367),(19,16351),(20,16351),(21,16319),(22,16255),(23,16127),(24,15871),(25,16255),(26,16127),(27,16351),(28,12287),(29,8191),(30,16383)] q
 |false=>lW [(0,16383),(1,16383),(4,16380),(5,16380),(6,16383),(7,16383),(8,16235),(9,16119),(10,16383),(11,16383),(15,16119),(16,12287),(18,16235),(19,16351),(20,16351),(21,16319),(22,16235),(23,16119),(24,15871),(25,16235),(26,16119),(27,16351),(28,12287),(29,8191),(30,16383)] q
def l2 (q:Nat) (s:Bool):Nat:=match s with
 |true=>0
 |false=>lW [(0,2044),(1,2044),(4,0),(5,0),(6,1932),(7,124),(8,2032),(9,2032),(10,0),(11,2044),(15,2032),(16,0),(18,1932),(19,1932),(20,1932),(21,1932),(22,124),(23,124),(24,124),(25,124),(26,124),(27,1932),(28,0),(29,0),(30,2044)] q
theorem ajO:(PSo.all λq=>bothS.all λs=>R14.all λv=>((gp q s).testBit v==Q2 q s v)&&(((iv q s).testBit v==Q3 q s v)&&((l2 q s).testBit v==Q4 q s v)))=true:=by rfl'
theorem s0{q:Nat}(aO:q∈PSo)(s:Bool){v:Nat}(al:v<14):(gp q s).testBit v=Q2 q s v/\(iv q s).testBit v=Q3 q s v/\(l2 q s).testBit v=Q4 q s v:=by
 have h:=bl (bl (bl ajO aO) (f8 s)) (R14_mem.mpr al)
 rw[c6,c6] at h
 exact⟨eq_of_beq h.1,eq_of_beq h.2.1,eq_of_beq h.2.2⟩
def qu (o:List Nat) (s:Bool) (v:Nat):Bool:=(cT (cZ o)).any λw=>kf v w s
def l3 (o:List Nat) (s:Bool) (v:Nat):Bool:=(cT (cZ o)).any λw=> !kf v w s
def oy (o:List Nat) (s:Bool) (v:Nat):Bool:=(cT (cZ o)).any λw=>sZ v w s
theorem GY{o:List Nat}{p:Nat->Bool}:(cT (cZ o)).any p=true↔∃q∈o,(R14.any λw=>cS q w&&p w)=true:=by
 simp only[tt,fV_mem,HS_iff,c6,R14_mem]
 constructor
 .rintro⟨w,⟨cs,q,aO,h⟩,e⟩
  exact⟨q,aO,w,cs,h,e⟩
 .rintro⟨q,aO,w,cs,h,e⟩
  exact⟨w,⟨cs,q,aO,h⟩,e⟩
theorem s1{o:List Nat}(aG:∀q∈o,q∈PSo){s:Bool}{v:Nat}(al:v<14):qu o s v=true↔∃q∈o,(gp q s).testBit v=true:=by
 unfold qu
 rw[GY]
 exact⟨λ⟨q,aO,h⟩=>⟨q,aO,(s0 (aG q aO) s al).1.trans h⟩,λ⟨q,aO,h⟩=>⟨q,aO,(s0 (aG q aO) s al).1.symm.trans h⟩⟩
theorem s2{o:List Nat}(aG:∀q∈o,q∈PSo){s:Bool}{v:Nat}(al:v<14):l3 o s v=true↔∃q∈o,(iv q s).testBit v=true:=by
 unfold l3
 rw[GY]
 exact⟨λ⟨q,aO,h⟩=>⟨q,aO,(s0 (aG q aO) s al).2.1.trans h⟩,λ⟨q,aO,h⟩=>⟨q,aO,(s0 (aG q aO) s al).2.1.symm.trans h⟩⟩
theorem y9{o:List Nat}(aG:∀q∈o,q∈PSo){s:Bool}{v:Nat}(al:v<14):oy o s v=true↔∃q∈o,(l2 q s).testBit v=true:=by
 unfold oy
 rw[GY]
 exact⟨λ⟨q,aO,h⟩=>⟨q,aO,(s0 (aG q aO) s al).2.2.trans h⟩,λ⟨q,aO,h⟩=>⟨q,aO,(s0 (aG q aO) s al).2.2.symm.trans h⟩⟩
noncomputable def oz (a b:Nat):Bool:= !Nat.beq (Nat.land a b) 0
noncomputable def iw (a b:Nat):Bool:=Nat.beq (Nat.land a b) a
theorem kY{a b v:Nat}(h:iw a b=true)(al:a.testBit v=true):b.testBit v=true:=Qi h al
theorem Q5{a b v:Nat}(h:oz a b=false)(aa:a.testBit v=true)(ah:b.testBit v=true):False:=by
 unfold oz at h
 have e:a&&&b=0:=ei (by simpa using h)
 have:=qW a b v
 rw[e,aa,ah,qV] at this
 cases this
theorem ajP{a b:Nat}(aw:a<2^14)(h:oz a b=true):∃v,v<14/\a.testBit v=true/\b.testBit v=true:=by
 unfold oz at h
 have e:a&&&b≠0:=λe=>by
  rw[show Nat.land a b=0 from e] at h;cases h
 obtain⟨v,al⟩:=Nat.exists_testBit_of_ne_zero e
 rw[qW,c6] at al
 refine⟨v,?_,al⟩
 refine Nat.lt_of_not_le λq=>?_
 have:=Nat.testBit_lt_two_pow (me aw (Nat.pow_le_pow_right (by decide) q))
 rw[this] at al
 cases al.1
theorem ajQ:(PS.all λi=>Nat.blt (dk i) (2^14))=true:=by rfl'
theorem Q6{i:Nat}(hi:i∈PS):dk i<2^14:=by
 have:=bl ajQ hi
 exact fi this
def iy (dl:List Nat) (i m:Nat):Bool:=Nat.blt 30 i||bY i dl||oz (dk i) m
theorem oA{dl may:List Nat}{i m:Nat}(hi:i∈PS)(h:iy dl i m=true)(av:∀v,v<14->m.testBit v=true->bY v may=true):g5 dl may i=true:=by
 unfold iy at h
 unfold g5
 rw[f9] at h |-
 refine h.imp id λh=>?_
 obtain⟨v,al,a,b⟩:=ajP (Q6 hi) h
 exact List.any_eq_true.mpr ⟨v,R14_mem.mpr al,by rw [c6];exact⟨a,av v al b⟩⟩
def j2 (r:List Nat):Nat:=r.foldr (λi m=>Nat.lor (dk i) m) 0
theorem s3{r:List Nat}{v:Nat}:(j2 r).testBit v=cZ r v:=by
 induction r with
 |nil=>exact qV v
 |cons i r bg=>
  show (dk i|||j2 r).testBit v=_
  rw[zW,bg];rfl
theorem ao7{r:List Nat}(aq:∀i∈r,i∈PS):j2 r<2^14:=by
 induction r with
 |nil=>decide
 |cons i r bg=>exact Nat.or_lt_two_pow (Q6 (aq i (by simp))) (bg λj bt=>aq j (.tail _ bt))
theorem s4{R:Nat->List Nat->Prop}{l u sure may dl:List Nat}(a7:Uni R l u)(j0:∀i∈l,∀r,R i r->(∀v,v<14->cS i v=true->bY v sure=true->cZ r v=true)/\∀v,v<14->cZ r v=true->cS i v=true/\g5 dl may i=true):Good l u sure may dl:=by
 obtain⟨ec,a3,a7,aq,cov⟩:=a7
 refine⟨λv al h aJ=>?_,λv al h=>?_⟩
 .obtain⟨i,hi,e⟩:=HS_iff.mp h
  rcases cov.to i hi with ⟨r,sY,q⟩|q
  .exact(vz aq a7 al).mpr ⟨r,sY,(j0 i hi r q).1 v al e aJ⟩
  .exact absurd ((j0 i hi [] q).1 v al e aJ) (by simp [cZ])
 .obtain⟨r,sY,q⟩:=(vz aq a7 al).mp h
  obtain⟨i,hi,e⟩:=cov.zt r sY
  obtain⟨a,b⟩:=(j0 i hi r e).2 v al q
  exact⟨i,hi,b,a⟩
theorem Q7{l sure may dl:List Nat}(h:∀i∈l,∀v,v<14->cS i v=true->g5 dl may i=true):Good l l sure may dl:=
 ⟨λ_ _ h _=>h,λv al e=>let ⟨i,hi,q⟩:=HS_iff.mp e;⟨i,hi,h i hi v al q,q⟩⟩
theorem za{i v:Nat}(h:cS i v=true):Nat.beq (dk i) 0=false:=by
 cases e:Nat.beq (dk i) 0 with
 |false=>rfl
 |true=>
  unfold cS at h
  rw[ei e,qV] at h
  cases h
def l4 (dl:List Nat) (i sure may:Nat) (r:List Nat):Bool:=iw (Nat.land (dk i) sure) (j2 r)&&(Nat.beq (j2 r) 0||(iw (j2 r) (dk i)&&iy dl i may))
theorem oB{dl sl ml:List Nat}{i sure may:Nat}{r:List Nat}(hi:i∈PS)(h:l4 dl i sure may r=true)(aJ:∀v,v<14->bY v sl=true->sure.testBit v=true)(av:∀v,v<14->may.testBit v=true->bY v ml=true):
  (∀v,v<14->cS i v=true->bY v sl=true->cZ r v=true)/\∀v,v<14->cZ r v=true->cS i v=true/\g5 dl ml i=true:=by
 unfold l4 at h
 rw[c6] at h
 obtain⟨aa,ah⟩:=h
 refine⟨λv al a b=>?_,λv al a=>?_⟩
 .rw[<-s3]
  refine kY aa ?_
  show (dk i&&&sure).testBit v=true
  rw[qW,c6]
  exact⟨a,aJ v al b⟩
 .rw[<-s3] at a
  rcases(f9 ..).mp ah with ah|ah
  .rw[ei ah,qV] at a;cases a
  .rw[c6] at ah
   exact⟨kY ah.1 a,oA hi ah.2 av⟩
def qw (w:Nat):Nat:=fR [112,6146,1,1920,8192,12] 0 w
noncomputable def trM:Nat:=15208
noncomputable def kZ (y:Bool) (m:Nat):Nat:=cond y m (16383 - m)
theorem ajR:((List.range 6).all λw=>bothS.all λy=>PSa.all λi=>l4 [] i (kZ y (qw w)) (kZ y (qw w)) (ir w y i))=true:=by rfl'
theorem Q8:(PS.all λi=>l4 [] i trM trM (ff 104 i)&&l4 [] i (kZ false trM) (kZ false trM) (ff 109 i))=true:=by rfl'
theorem Q9:(PS.all λi=>iw (Nat.land (dk i) trM) (j2 (ff 101 i))&&iw (j2 (ff 101 i)) (dk i))=true:=by rfl'
def oC (sl:List Nat) (m:Nat):Prop:=∀v,v<14->(bY v sl=true↔m.testBit v=true)
theorem Ra{w:Nat}(cs:w<6)(y:Bool){l u:List Nat}(aw:∀i∈l,i∈PSa){a3:List (List Nat)}(ec:Pts u)(a7:eG (eb a3) u)(P:Paired (λi r=>r.Perm (ir w y i)) l a3){sl:List Nat}(aJ:oC sl (kZ y (qw w))):Good l u sl sl []:=by
 have iQ:∀i∈l,i∈PS:=λi hi=>(List.mem_filter.mp (aw i hi)).1
 refine s4 (R:=λi r=>i∈PSa/\r.Perm (ir w y i)) ⟨ec,a3,a7,λr aq=>?_,?_⟩ λi hi r ⟨_,p⟩=>?_
 .obtain⟨i,hi,p⟩:=Paired.all P r aq
  exact(Gd cs y (aw i hi)).perm p
 .refine⟨λr aq=>?_,λi hi=>?_⟩
  .obtain⟨i,hi,p⟩:=Paired.all P r aq
   exact⟨i,hi,aw i hi,p⟩
  .rcases(Paired.cov P).to i hi with ⟨r,aq,p⟩|p
   .exact .inl ⟨r,aq,aw i hi,p⟩
   .exact .inr ⟨aw i hi,p⟩
 .have h:=oB (dl:=[]) (sl:=sl) (ml:=sl) (iQ i hi) (bl (bl (bl ajR (List.mem_range.mpr cs)) (f8 y)) (aw i hi)) (λv al=>(aJ v al).mp) λv al=>(aJ v al).mpr
  have e:∀v,cZ r v=cZ (ir w y i) v:=λv=>by
   rw[i5,HS_iff,HS_iff]
   exact⟨λ⟨j,bt,q⟩=>⟨j,p.mem_iff.mp bt,q⟩,λ⟨j,bt,q⟩=>⟨j,p.mem_iff.mpr bt,q⟩⟩
  exact⟨λv al a b=>(e v).trans (h.1 v al a b),λv al a=>h.2 v al ((e v).symm.trans a)⟩
theorem GZ{F:Nat->List Nat}{l u:List Nat}(ec:Pts u)(dY:∀i∈l,Pts (F i))(a7:eG (eb (l.map F)) u):Uni (λi r=>r=F i) l u:=by
 refine⟨ec,_,a7,λr aq=>?_,λr aq=>?_,λi hi=> .inl ⟨F i,List.mem_map.mpr ⟨i,hi,rfl⟩,rfl⟩⟩
 .obtain⟨i,hi,rfl⟩:=List.mem_map.mp aq;exact dY i hi
 .obtain⟨i,hi,rfl⟩:=List.mem_map.mp aq;exact⟨i,hi,rfl⟩
theorem ajS{l u:List Nat}(ag:Pts l)(ec:Pts u)(a7:eG (eb (l.map (ff 109))) u){sl:List Nat}(aJ:oC sl (kZ false trM)):Good l u sl sl []:=by
 refine s4 (GZ ec (λi hi=>sK (ag.sub i hi)) a7) λi hi r e=>?_
 subst e
 have h:=bl Q8 (ag.sub i hi)
 rw[c6] at h
 exact oB (ag.sub i hi) h.2 (λv al=>(aJ v al).mp) λv al=>(aJ v al).mpr
theorem ajT{l u1 u:List Nat}(ag:Pts l)(fm:Pts u1)(oD:eG (eb (l.map (ff 104))) u1)(ec:Pts u)(a7:eG (eb (u1.map (ff 101))) u){sl:List Nat}(aJ:oC sl trM):Good l u sl sl []:=by
 have g1:Good l u1 sl sl []:=s4 (GZ fm (λi hi=>sK (ag.sub i hi)) oD) λi hi r e=>by
  subst e
  have h:=bl Q8 (ag.sub i hi)
  rw[c6] at h
  exact oB (ag.sub i hi) h.1 (λv al=>(aJ v al).mp) λv al=>(aJ v al).mpr
 have aq:∀r∈u1.map (ff 101),Pts r:=λr aq=>by
  obtain⟨i,hi,rfl⟩:=List.mem_map.mp aq
  exact sK (fm.sub i hi)
 refine⟨λv al a b=>?_,λv al a=>?_⟩
 .obtain⟨i,hi,e⟩:=HS_iff.mp (g1.keep v al a b)
  have h:=bl Q9 (fm.sub i hi)
  rw[c6] at h
  refine(vz aq a7 al).mpr ⟨_,List.mem_map.mpr ⟨i,hi,rfl⟩,?_⟩
  rw[<-s3]
  refine kY h.1 ?_
  show (dk i&&&trM).testBit v=true
  rw[qW,c6]
  exact⟨e,(aJ v al).mp b⟩
 .obtain⟨r,lv,e⟩:=(vz aq a7 al).mp a
  obtain⟨i,hi,rfl⟩:=List.mem_map.mp lv
  have h:=bl Q9 (fm.sub i hi)
  rw[c6] at h
  rw[<-s3] at e
  exact g1.only v al (HS_iff.mpr ⟨i,hi,kY h.2 e⟩)
noncomputable def dP:List Nat:=[16,28,29]
theorem BV:(PS.all λi=>PSo.all λq=>bothS.all λs=>iu i q s|| !oz (dk i) (gp q s))=true:=by rfl'
theorem BW:(PS.all λi=>PSo.all λq=>bothS.all λs=> !iu i q s||(Nat.beq (dk i) 0||iy dP i (Nat.lor (gp q s) (l2 q s))))=true:=by rfl'
theorem BX:([6,7].all λi=>PSo.all λq=>bothS.all λs=> !(Nat.beq (bB q) (bB i)&& !fv q)||(iw (Nat.land (dk i) (gp q s)) (dk q)&&iw (dk q) (dk i)))=true:=by rfl'
theorem BY:(PSo.all λq=> !(dU q&&iu 11 q true)||(iw (Nat.land (dk 11) (gp q true)) (dk q)&&iw (dk q) (dk 11)))=true:=by rfl'
theorem ra:(PSo.all λq=>bothS.all λs=>iy dP 0 (gp q s)&&(iy dP 1 (gp q s)&&(iy dP 0 (iv q s)&&iy dP 1 (iv q s))))=true:=by rfl'
theorem wn:(PS.all λi=>[0,1].all λq=>bothS.all λs=>Nat.beq (dk i) 0||(iy dP i (gp q s)&&iy dP i (iv q s)))=true:=by rfl'
theorem BZ:(PS.all λi=>PSo.all λq=>bothS.all λs=> !fv q||(Nat.beq (dk i) 0||iy dP i (Nat.lor (iv q s) (l2 q s))))=true:=by rfl'
theorem B0:(PS.all λi=>PSo.all λq=>bothS.all λs=>fv q||(eu q&& !s)||(cond (gL q i) (Nat.beq (dk i) 0||iy dP i (Nat.lor (iv q s) (l2 q s))) (!oz (dk i) (iv q s))))=true:=by rfl'
theorem B1:([4,5].all λq=>iw (iv q true) (j2 [9 - q,11]))=true:=by rfl'
def k0 (o:List Nat) (s:Bool):Nat:=o.foldr (λq m=>Nat.lor (gp q s) m) 0
def Rb (o:List Nat) (s:Bool):Nat:=o.foldr (λq m=>Nat.lor (iv q s) m) 0
def s5 (o:List Nat) (s:Bool):Nat:=o.foldr (λq m=>Nat.lor (l2 q s) m) 0
def Rc (o:List Nat) (s:Bool):Nat:=cond (Nat.ble 2 o.length) 16383 (Nat.lor (Rb o s) (s5 o s))
theorem ajU:(nkO.all λo=>bothS.all λs=>PS.all λi=> !eu i||l4 dP i (k0 o s) (Nat.lor (k0 o s) (s5 o s)) (cond ((m7 o s).any λq=>jy i q s) [i] []))=true:=by rfl'
theorem ajV:(nkO.all λo=>bothS.all λs=>l4 dP 0 (k0 o s) (Nat.lor (k0 o s) (s5 o s)) [0]&&l4 dP 30 (k0 o s) (Nat.lor (k0 o s) (s5 o s)) ((m7 o s).map (· +27)))=true:=by rfl'
theorem ajW:(nkO.all λo=>bothS.all λs=>PS.all λi=>eu i||(Nat.beq i 0||(qr i||l4 dP i (k0 o s) (Nat.lor (k0 o s) (s5 o s)) [])))=true:=by rfl'
theorem ajX:(nkO.all λo=>PS.all λi=>l4 dP i (Rb o false) (Rc o false) (ff 101 i))=true:=by rfl'
theorem oD:(nkO.all λo=>iw (k0 o false) (j2 [4,5]))=true:=by rfl'
theorem ajY:(PSo.all λq=> !(Nat.beq (bB q) 7&& !ov q)||iw (gp q true) (dk 10))=true:=by rfl'
theorem ajZ:(PSo.all λq=>(Nat.beq (bB q) 0||(Nat.beq (bB q) 6||Nat.beq (bB q) 7))||iw (gp q true) (dk q))=true:=by rfl'
theorem fold_bit{f:Nat->Nat}{v:Nat}:∀{o:List Nat},(o.foldr (λq m=>Nat.lor (f q) m) 0).testBit v=true↔∃q∈o,(f q).testBit v=true
 |[]=>by
  show (0:Nat).testBit v=true↔_
  rw[qV]
  exact⟨λh=>c2 h,λ⟨_,h,_⟩=>nomatch h⟩
 |q::o=>by
  show (f q|||o.foldr (λq m=>Nat.lor (f q) m) 0).testBit v=true↔_
  rw[zW,f9,fold_bit]
  exact⟨λh=>h.elim (λh=>⟨q,.head _,h⟩) λ⟨p,aS,h⟩=>⟨p,.tail _ aS,h⟩,λ⟨p,aS,h⟩=>(List.mem_cons.mp aS).elim (λe=> .inl (e▸h)) λaS=> .inr ⟨p,aS,h⟩⟩
theorem lor_bit{a b v:Nat}:(Nat.lor a b).testBit v=true↔a.testBit v=true\/b.testBit v=true:=by
 show (a|||b).testBit v=true↔_
 rw[zW,f9]
section
variable {l o sure may u:List Nat}{s:Bool}
theorem zb{h r:List Nat}(S:Same h r){v:Nat}(al:v<14):cZ r v=true↔∃q∈h,cS q v=true:=by
 rw[S.held v al,HS_iff]
theorem HS_one{i v:Nat}:cZ [i] v=cS i v:=zY _
structure Tells (sure may:List Nat) (i:Nat) (r:List Nat):Prop where
 k:∀v,v<14->cS i v=true->bY v sure=true->cZ r v=true
 o:∀v,v<14->cZ r v=true->cS i v=true/\g5 dP may i=true
structure OnW (o sure may:List Nat) (s:Bool):Prop where
 so:∀q∈o,q∈PSo
 sure:∀v,v<14->bY v sure=true->qu o s v=true
 may:∀v,v<14->qu o s v=true\/oy o s v=true->bY v may=true
theorem OnW.one(W:OnW o sure may s){q:Nat}(aO:q∈o)(v:Nat)(al:v<14)(e:(gp q s).testBit v=true):bY v may=true:=W.may v al (.inl ((s1 W.so al).mpr ⟨q,aO,e⟩))
theorem OnW.two(W:OnW o sure may s){q:Nat}(aO:q∈o)(v:Nat)(al:v<14)(e:(Nat.lor (gp q s) (l2 q s)).testBit v=true):bY v may=true:=
 W.may v al ((lor_bit.mp e).imp (λe=>(s1 W.so al).mpr ⟨q,aO,e⟩) λe=>(y9 W.so al).mpr ⟨q,aO,e⟩)
theorem OnW.hit(W:OnW o sure may s){i:Nat}(hi:i∈PS){v:Nat}(al:v<14)(a:cS i v=true)(b:bY v sure=true):∃q∈g6 i o s,(gp q s).testBit v=true:=by
 obtain⟨q,aO,e⟩:=(s1 W.so al).mp (W.sure v al b)
 rcases(f9 ..).mp (bl (bl (bl BV hi) (W.so q aO)) (f8 s)) with t|t
 .exact⟨q,List.mem_filter.mpr ⟨aO,t⟩,e⟩
 .exact(Q5 ((ki _).mp t) a e).elim
theorem OnW.op(W:OnW o sure may s){i:Nat}(hi:i∈PS){q:Nat}(aO:q∈g6 i o s){v:Nat}(a:cS i v=true):g5 dP may i=true:=by
 obtain⟨aO,t⟩:=List.mem_filter.mp aO
 have h:=bl (bl (bl BW hi) (W.so q aO)) (f8 s)
 rw[t,za a] at h
 exact oA hi h (W.two aO)
theorem OnW.same(W:OnW o sure may s){i:Nat}(hi:i∈PS){r:List Nat}(k:∀q∈g6 i o s,iw (Nat.land (dk i) (gp q s)) (dk q)=true/\iw (dk q) (dk i)=true)(S:Same (g6 i o s) r):Tells sure may i r:=by
 refine⟨λv al a b=>(zb S al).mpr ?_,λv al a=>?_⟩
 .obtain⟨q,aO,e⟩:=W.hit hi al a b
  refine⟨q,aO,kY (k q aO).1 ?_⟩
  show (dk i&&&gp q s).testBit v=true
  rw[qW]
  exact(c6 _ _).mpr ⟨a,e⟩
 .obtain⟨q,aO,e⟩:=(zb S al).mp a
  have nY:cS i v=true:=kY (k q aO).2 e
  exact⟨nY,W.op hi aO nY⟩
theorem ak0{i:Nat}(h:qs i=true):i∈[6,7]:=by
 rcases(f9 ..).mp (show (Nat.beq i 6||Nat.beq i 7)=true from h) with e|e<;>rw[ei e]<;>decide
theorem ak1(W:OnW o sure may s){i:Nat}(hi:i∈PS){r:List Nat}(h:kW i o s r):Tells sure may i r:=by
 rcases h with ⟨h0,e⟩|⟨h0,e|⟨ak2,k,S⟩|⟨e1,e2,k,S⟩⟩
 .rw[e]
  refine⟨λv al a b=>?_,λv al a=>c2 a⟩
  obtain⟨q,aO,_⟩:=W.hit hi al a b
  rw[h0] at aO
  exact nomatch aO
 .obtain⟨q,aO⟩:=ti _ h0
  rw[e]
  exact⟨λv al a _=>HS_one.trans a,λv al a=>⟨HS_one.symm.trans a,W.op hi aO (HS_one.symm.trans a)⟩⟩
 .refine W.same hi (λq aO=>?_) S
  have h:=bl (bl (bl BX (ak0 ak2)) (W.so q (List.mem_filter.mp aO).1)) (f8 s)
  rw[(k q aO).1,(k q aO).2] at h
  exact aK h
 .refine W.same hi (λq aO=>?_) S
  obtain⟨G1,t⟩:=List.mem_filter.mp aO
  have h:=bl BY (W.so q G1)
  rw[e1,e2] at t |-
  rw[k q aO,t] at h
  exact aK h
theorem G2{l:List Nat}{z:Nat}(h:fx l z=true)(bi:z≠2):l=[z]:=by
 rcases l with _|⟨i,_|⟨j,r⟩⟩
 .exact absurd (Int.ofNat.inj (iEq_iff.mp (show cN (2:Nat) z=true from h))).symm bi
 .rw[Int.ofNat.inj (iEq_iff.mp (show cN i z=true from h))]
 .exact c2 h
theorem ak3(h:kX l o=true):l=[0]\/o=[0]\/o=[1]:=
 ((f9 ..).mp h).imp (λh=>G2 (z:=0) h (by decide)) λh=>((f9 ..).mp h).imp (λh=>G2 (z:=0) h (by decide)) λh=>G2 (z:=1) h (by decide)
theorem Re(ag:Pts l){f:Nat->Nat}(eY:o≠[])(aw:kX l o=true)(aa:∀q∈o,∀v,v<14->(f q).testBit v=true->bY v may=true)(ee:∀q∈o,iy dP 0 (f q)=true)(mF:∀i∈PS,∀q∈[0,1],(Nat.beq (dk i) 0||iy dP i (f q))=true):Good l l sure may dP:=by
 refine Q7 λi hi v al e=>?_
 have dq:=λ(q:Nat) (aO:q∈[0,1]) (m:q∈o)=>by
  have h:=mF i (ag.sub i hi) q aO
  rw[za e] at h
  exact oA (ag.sub i hi) h (aa q m)
 rcases ak3 aw with bq|bq|bq
 .obtain⟨q,aO⟩:=ti o eY
  rw[bq] at hi
  rw[dG hi]
  exact oA (by decide) (ee q aO) (aa q aO)
 .exact dq 0 (by decide) (bq▸ .head _)
 .exact dq 1 (by decide) (bq▸ .head _)
theorem ak4(W:OnW o sure may s)(eY:o≠[])(vI:vF o s u):Good [1] u sure may dP:=by
 obtain⟨dp,Rf⟩:=ti o eY
 have G3:=aK (aK (bl (bl ra (W.so dp Rf)) (f8 s))).2
 refine⟨λv al _ b=>?_,λv al _=>⟨1,.head _,oA (by decide) G3.1 (W.one Rf),vy (.inr rfl) al⟩⟩
 obtain⟨q,aO,e⟩:=(s1 W.so al).mp (W.sure v al b)
 rcases vI with ⟨es,aX,fy⟩|fy|⟨es,k,fy⟩|⟨es,k,fy⟩
 .rw[fy,<-s3]
  have h:=bl QN (W.so q aO)
  rw[List.all_eq_true.mp (aK (show (!o.isEmpty&&o.all eu)=true from aX)).2 q aO] at h
  rw[es] at e
  rcases(f9 (q.beq 4) (q.beq 5)).mp h with h|h<;>rw[ei h] at e
  .exact kY (a:=gp 4 false) (by decide) e
  .exact kY (a:=gp 5 false) (by decide) e
 .rw[fy,HS_one];exact vy (.inr rfl) al
 .have h:=bl ajY (W.so q aO)
  rw[(k q aO).1,(k q aO).2] at h
  rw[fy,HS_one]
  rw[es] at e
  exact kY h e
 .have h:=bl ajZ (W.so q aO)
  rw[(k q aO).1,(k q aO).2.1,(k q aO).2.2] at h
  rw[es] at e
  exact HS_iff.mpr ⟨q,fy▸aO,kY h e⟩
theorem Rg{r m:List Nat}(p:r.Perm m)(v:Nat):cZ r v=cZ m v:=by
 rw[i5,HS_iff,HS_iff]
 exact⟨λ⟨j,bt,q⟩=>⟨j,p.mem_iff.mp bt,q⟩,λ⟨j,bt,q⟩=>⟨j,p.mem_iff.mpr bt,q⟩⟩
theorem ak5(W:OnW o sure may s)(ag:Pts l)(ke:o∈nkO)(a7:Uni (yZ (m7 o s) s) l u):Good l u sure may dP:=by
 refine s4 a7 λi hi r q=>?_
 have iM:=ag.sub i hi
 have jp:∀v,v<14->bY v sure=true->(k0 o s).testBit v=true:=λv al b=>fold_bit.mpr ((s1 W.so al).mp (W.sure v al b))
 have ly:∀v,v<14->(Nat.lor (k0 o s) (s5 o s)).testBit v=true->bY v may=true:=λv al b=>W.may v al ((lor_bit.mp b).imp (λb=>(s1 W.so al).mpr (fold_bit.mp b)) λb=>(y9 W.so al).mpr (fold_bit.mp b))
 have hb:=aK (bl (bl ajV ke) (f8 s))
 rcases q with ⟨n,q⟩|⟨n,⟨e1,e2⟩|⟨e1,p⟩|⟨e7,em,e1⟩⟩
 .have i7:=bl (bl (bl ajU ke) (f8 s)) iM
  rw[n] at i7
  rcases q with ⟨a,e⟩|⟨a,e⟩<;>rw[a] at i7<;>exact oB iM (e▸i7) jp ly
 .rw[e1,e2]
  exact oB (by decide) hb.1 jp ly
 .have h:=oB (e1▸iM) hb.2 jp ly
  rw[e1]
  exact⟨λv al a b=>(Rg p v).trans (h.1 v al a b),λv al a=>h.2 v al ((Rg p v).symm.trans a)⟩
 .have k4:=bl (bl (bl ajW ke) (f8 s)) iM
  rw[n,e7,em] at k4
  exact e1▸oB iM k4 jp ly
theorem ak6(ag:Pts l)(aG:∀q∈o,q∈PSo)(eY:o≠[])(G4:∀v,v<14->bY v sure=true->qu o s v=true)(G5:∀v,v<14->qu o s v=true\/oy o s v=true->bY v may=true)(h:m8 l o true s u):Good l u sure may dP:=by
 have W:OnW o sure may s:=⟨aG,G4,G5⟩
 have Rh:Uni (λi r=>kW i o s r) l u->Good l u sure may dP:=λa7=>s4 a7 λi hi r q=>let t:=ak1 W (ag.sub i hi) q;⟨t.k,t.o⟩
 rcases h with (⟨aw,e⟩|⟨_,_,⟨e,vI⟩|⟨_,ke,a7⟩|⟨_,a7⟩⟩|⟨_,q,_⟩)|⟨_,_,a7⟩
 .rw[e]
  exact Re ag eY aw (λq aO=>W.one aO) (λq aO=>(aK (bl (bl ra (aG q aO)) (f8 s))).1) λi hi q aO=>by
   have h:=bl (bl (bl wn hi) aO) (f8 s)
   rcases e:Nat.beq (dk i) 0 with _|_<;>rw[e] at h
   .exact(aK h).1
   .rfl
 .rw[e];exact ak4 W eY vI
 .exact ak5 W ag ke a7
 .exact Rh a7
 .exact c2 q.symm
 .exact Rh a7
structure OfW (o sure may:List Nat) (s:Bool):Prop where
 so:∀q∈o,q∈PSo
 sure:∀v,v<14->bY v sure=true->l3 o s v=true
 may:∀v,v<14->2<=o.length\/l3 o s v=true\/oy o s v=true->bY v may=true
theorem OfW.one(W:OfW o sure may s){q:Nat}(aO:q∈o)(v:Nat)(al:v<14)(e:(iv q s).testBit v=true):bY v may=true:=W.may v al (.inr (.inl ((s2 W.so al).mpr ⟨q,aO,e⟩)))
theorem OfW.two(W:OfW o sure may s){q:Nat}(aO:q∈o)(v:Nat)(al:v<14)(e:(Nat.lor (iv q s) (l2 q s)).testBit v=true):bY v may=true:=
 W.may v al (.inr ((lor_bit.mp e).imp (λe=>(s2 W.so al).mpr ⟨q,aO,e⟩) λe=>(y9 W.so al).mpr ⟨q,aO,e⟩))
theorem ak7(W:OfW o sure may s)(ag:Pts l)(eY:o≠[])(al:y4 o=true):Good l l sure may dP:=by
 refine Q7 λi hi v fK e=>?_
 rcases o with _|⟨q,_|⟨bZ,r⟩⟩
 .exact absurd rfl eY
 .have h:=bl (bl (bl BZ (ag.sub i hi)) (W.so q (.head _))) (f8 s)
  rw[show fv q=true from al,za e] at h
  exact oA (ag.sub i hi) h (W.two (.head _))
 .unfold g5
  exact(f9 _ _).mpr (.inr (List.any_eq_true.mpr ⟨v,R14_mem.mpr fK,(c6 _ _).mpr ⟨e,W.may v fK (.inl (tw 2 r.length))⟩⟩))
theorem ak8{q:Nat}(W:OfW [q] sure may true)(aO:q=4\/q=5):Good [1] [9 - q,11] sure may dP:=by
 have G1:q∈[4,5]:=by rcases aO with e|e<;>rw[e]<;>decide
 have G3:=aK (aK (aK (bl (bl ra (W.so q (.head _))) (f8 true))).2).2
 refine⟨λv al _ b=>?_,λv al _=>⟨1,.head _,oA (by decide) G3.2 (W.one (.head _)),vy (.inr rfl) al⟩⟩
 obtain⟨jg,G6,e⟩:=(s2 W.so al).mp (W.sure v al b)
 rw[dG G6] at e
 rw[<-s3]
 exact kY (bl B1 G1) e
theorem ak9{q:Nat}(W:OfW [q] sure may s)(ag:Pts l)(x6:(eu q&& !s)=false)(al:fv q=false)(S:Same (l.filter (gL q)) u):Good l u sure may dP:=by
 have key:∀i∈l,cond (gL q i) (Nat.beq (dk i) 0||iy dP i (Nat.lor (iv q s) (l2 q s))) (!oz (dk i) (iv q s))=true:=λi hi=>by
  have h:=bl (bl (bl B0 (ag.sub i hi)) (W.so q (.head _))) (f8 s)
  rw[al,x6] at h
  exact h
 refine⟨λv al a b=>?_,λv al a=>?_⟩
 .obtain⟨i,hi,e⟩:=HS_iff.mp a
  obtain⟨jg,G6,bq⟩:=(s2 W.so al).mp (W.sure v al b)
  rw[dG G6] at bq
  have k:=key i hi
  rcases gm:gL q i with _|_
  .rw[gm] at k
   exact(Q5 ((ki _).mp k) e bq).elim
  .exact(zb S al).mpr ⟨i,List.mem_filter.mpr ⟨hi,gm⟩,e⟩
 .obtain⟨i,hi,e⟩:=(zb S al).mp a
  obtain⟨hi,gm⟩:=List.mem_filter.mp hi
  have k:=key i hi
  rw[gm,cond_true,za e] at k
  exact⟨i,hi,oA (ag.sub i hi) k (W.two (.head _)),e⟩
theorem aka{o:List Nat}(W:OfW o sure may false)(ag:Pts l)(ke:o∈nkO)(ec:Pts u)(a7:eG (eb (l.map (ff 101))) u):Good l u sure may dP:=by
 refine s4 (GZ ec (λi hi=>sK (ag.sub i hi)) a7) λi hi r e=>?_
 rw[e]
 refine oB (ag.sub i hi) (bl (bl ajX ke) (ag.sub i hi)) (λv al b=>fold_bit.mpr ((s2 W.so al).mp (W.sure v al b))) λv al b=>W.may v al ?_
 unfold Rc at b
 rcases e2:Nat.ble 2 o.length with _|_
 .rw[e2] at b
  exact .inr ((lor_bit.mp b).imp (λb=>(s2 W.so al).mpr (fold_bit.mp b)) λb=>(y9 W.so al).mpr (fold_bit.mp b))
 .exact .inl (fi e2)
theorem akb(ag:Pts l)(aG:∀q∈o,q∈PSo)(gc:Pts o)(eY:o≠[])(G4:∀v,v<14->bY v sure=true->l3 o s v=true)(G5:∀v,v<14->2<=o.length\/l3 o s v=true\/oy o s v=true->bY v may=true)(h:m8 l o false s u):Good l u sure may dP:=by
 have W:OfW o sure may s:=⟨aG,G4,G5⟩
 rcases h with (⟨aw,e⟩|⟨_,q,_⟩|⟨_,_,⟨es,aX,ec,a7⟩|⟨zc,G7⟩⟩)|⟨q,_⟩
 .rw[e]
  exact Re ag eY aw (λq aO=>W.one aO) (λq aO=>(aK (aK (aK (bl (bl ra (aG q aO)) (f8 s))).2).2).1) λi hi q aO=>by
   have h:=bl (bl (bl wn hi) aO) (f8 s)
   rcases e:Nat.beq (dk i) 0 with _|_<;>rw[e] at h
   .exact(aK h).2
   .rfl
 .exact c2 q
 .rw[es] at W
  exact aka W ag (QP gc aG aX) ec a7
 .rcases G7 with ⟨al,e⟩|⟨q,d8,aO,ho,fy⟩|⟨q,d8,al,S⟩
  .rw[e];exact ak7 W ag eY al
  .rw[d8] at W zc
   rw[ho,fy]
   have aJ:s=true:=zc.elim id λh=>by rcases aO with e|e<;>rw[e] at h<;>exact absurd h (by decide)
   rw[aJ] at W
   exact ak8 W aO
  .rw[d8] at W zc
   refine ak9 W ag ?_ al S
   rcases zc with h|h
   .rw[h];exact Bool.and_false _
   .rw[show eu q=false from (zX _).symm.trans h];rfl
 .exact c2 q
end
theorem Ri:∀q∈PSo,q∈PSa:=by decide
theorem akc:(PSa.all λi=>([101,104,109].all λj=>(ff j i).all λk=>bY k PSa))=true:=by rfl'
theorem akd{j i:Nat}(bt:j=101\/j=104\/j=109)(hi:i∈PSa):∀k∈ff j i,k∈PSa:=λk aj=>
 hT (bl (bl (bl akc hi) (x:=j) (by rcases bt with rfl|rfl|rfl<;>decide)) aj)
theorem ake{a3:List (List Nat)}{u:List Nat}(aq:∀r∈a3,Pts r)(a7:eG (eb a3) u)(h:∀r∈a3,∀k∈r,k∈PSa):∀k∈u,k∈PSa:=λk aj=>by
 rcases Gx aq a7 aj with ⟨r,aq,q⟩|rfl|rfl
 .exact h r aq k q
 .decide
 .decide
theorem G8{h r:List Nat}(S:Same h r)(q:∀k∈h,k∈PSa):∀k∈r,k∈PSa:=λk aj=>by
 rcases S.sub k aj with e|rfl|rfl
 .exact q k e
 .decide
 .decide
structure Now (b:Bool) (l:List Nat):Prop where
 dF:Pts l
 one:1∈l->l=[1]
 a:b=true->∀i∈l,i∈PSa
theorem s6{a3:List (List Nat)}{u:List Nat}{b:Bool}(ec:Pts u)(aq:∀r∈a3,Pts r)(a7:eG (eb a3) u)(h:b=true->∀r∈a3,∀k∈r,k∈PSa):Now b u:=
 ⟨ec,QC (yA aq) a7,λe=>ake aq a7 (h e)⟩
theorem Rj{R:Nat->List Nat->Prop}{l u:List Nat}{b:Bool}(a7:Uni R l u)(h:b=true->∀i∈l,∀r,R i r->∀k∈r,k∈PSa):Now b u:=by
 obtain⟨ec,a3,a7,aq,cov⟩:=a7
 exact s6 ec aq a7 λe r aq k aj=>by
  obtain⟨i,hi,q⟩:=cov.zt r aq
  exact h e i hi r q k aj
theorem zd{j:Nat}(bt:j=101\/j=104\/j=109){l u:List Nat}{b:Bool}(N:Now b l)(ec:Pts u)(a7:eG (eb (l.map (ff j))) u):Now b u:=
 s6 ec (λr aq=>by obtain ⟨i,hi,rfl⟩:=List.mem_map.mp aq;exact sK (N.dF.sub i hi)) a7 λe r aq k aj=>by
  obtain⟨i,hi,rfl⟩:=List.mem_map.mp aq
  exact akd bt (N.a e i hi) k aj
theorem akf{i:Nat}{o:List Nat}{s:Bool}{r:List Nat}(aJ:∀q∈o,q∈PSo)(hi:i∈PSa)(h:kW i o s r):∀k∈r,k∈PSa:=by
 have hh:∀k∈g6 i o s,k∈PSa:=λk aj=>Ri k (aJ k (List.mem_filter.mp aj).1)
 rcases h with ⟨_,rfl⟩|⟨_,rfl|⟨_,_,S⟩|⟨_,_,_,S⟩⟩
 .intro k aj;cases aj
 .intro k aj;rw[dG aj];exact hi
 .exact G8 S hh
 .exact G8 S hh
theorem akg:(nkO.all λo=>o.all λk=>bY (k+27) PSa)=true:=by rfl'
theorem Rk{l o u:List Nat}{y s b:Bool}(N:Now b l)(aL:Now true o)(aJ:∀q∈o,q∈PSo)(h:m8 l o y s u):Now b u:=by
 have eq:Uni (λi r=>kW i o s r) l u->Now b u:=λa7=>Rj a7 λe i hi r q=>akf aJ (N.a e i hi) q
 rcases h with h|⟨_,_,a7⟩
 rotate_left
 .exact eq a7
 rcases h with ⟨_,rfl⟩|⟨_,_,aS⟩|⟨_,_,aS⟩
 .exact N
 .rcases aS with ⟨_,vI⟩|⟨_,ke,a7⟩|⟨_,a7⟩
  .rcases vI with ⟨_,_,rfl⟩|rfl|⟨_,_,rfl⟩|⟨_,_,rfl⟩
   .exact⟨⟨by decide,by decide⟩,by decide,λ_=>by decide⟩
   .exact⟨⟨by decide,by decide⟩,by decide,λ_=>by decide⟩
   .exact⟨⟨by decide,by decide⟩,by decide,λ_=>by decide⟩
   .exact⟨aL.dF,aL.one,λ_=>aL.a rfl⟩
  .refine Rj a7 λe i hi r q=>?_
   have akh:m7 o s∈nkO:=by
    cases s with
    |false=>exact(by decide:[4,5]∈nkO)
    |true=>exact ke
   rcases q with ⟨_,⟨_,rfl⟩|⟨_,rfl⟩⟩|⟨_,⟨rfl,rfl⟩|⟨rfl,p⟩|⟨_,_,rfl⟩⟩
   .intro k aj;rw[dG aj];exact N.a e i hi
   .intro k aj;cases aj
   .intro k aj;rw[dG aj];exact N.a e 0 hi
   .intro k aj
    obtain⟨z,bi,rfl⟩:=List.mem_map.mp (p.mem_iff.mp aj)
    exact hT (bl (bl akg akh) bi)
   .intro k aj;cases aj
  .exact eq a7
 .rcases aS with ⟨_,_,ec,a7⟩|⟨_,G7⟩
  .exact zd (.inl rfl) N ec a7
  .rcases G7 with ⟨_,rfl⟩|⟨q,_,rfl|rfl,_,rfl⟩|⟨q,_,_,S⟩
   .exact N
   .exact⟨⟨by decide,by decide⟩,by decide,λ_=>by decide⟩
   .exact⟨⟨by decide,by decide⟩,by decide,λ_=>by decide⟩
   .exact⟨S.dF,S.H5,λe=>G8 S λk aj=>N.a e k (List.mem_filter.mp aj).1⟩
section
variable {G:Gl}{n:Nat}{c:Cx}{J:am}{H:T}{Q:V->T->Prop}{eE:List V->T->Prop}
abbrev aki (f:Expr->T->Option (V×T)) (Q:V->T->Prop) (s:Expr) (b:V) (H:T):Prop:=WE (f s H) (Pk Q b)
theorem fy{b s:Expr}{p:Pos}(h:WE (b7 c J (aN G n c J) b H) (aki (aN G n c J) Q s))(aa:lg b=none:=by rfl)(ah:rq s=none:=by rfl):WE (aN G (n+1) c J (.Subscript b s p) H) Q:=by
 show WE (wD c J (aN G n c J) (ln G n c J) b s H (lg b)) Q
 rw[aa]
 show WE (wC c J (aN G n c J) (ln G n c J) b s H (rq s)) Q
 rw[ah]
 exact WE.ob (h.mono λ_ _ h=>WE.ob (h.mono λ_ _ h=>h.elim λ_ h=>WE.pt h.1 h.2))
theorem hU{f:Expr->T->Option (V×T)}{a b d p}(h:WE (f (.BinOp a b d p) H) Q):WE (b7 c J f (.BinOp a b d p) H) Q:=h
theorem Rl:∀k i,rl i k=(List.range' i k).map bF
 |0,_=>rfl
 |k+1,i=>congrArg (V.int i:: ·) (Rl k (i+1))
abbrev akj (eE:List V->T->Prop) (v:V) (O:T):Prop:=∃k:Nat,v= .int (k:Int)/\k<=1000/\eE ((List.range k).map bF) O
theorem akk{f:Str}{a:Expr}{p q:Pos}(h:WE (aN G n c J a H) (akj eE))(a6:a9 f h5=true:=by rfl')(aj:gy c h5=true:=by rfl')(bx:G.free h5=true:=by rfl'):WE (gA G (n+1) c J (.Call (.Name f q) [a] [] p) H) eE:=by
 show WE (ru G c (aN G n c J) (.Call (.Name f q) [a] [] p) H (ow (a9 f h5) (some a))) eE
 rw[a6]
 refine WE.ow (by rw [aj,bx];rfl) (WE.ob (h.mono λv H h=>?_))
 obtain⟨k,e,aj,q⟩:=h
 rw[e]
 refine WE.od (b:=k) rfl (WE.ow (md aj) (.of rfl ?_))
 rw[Rl,<-List.range_eq_range']
 exact q
abbrev akl (f:Expr->T->Option (V×T)) (Q:V->T->Prop) (up:Expr) (b:V) (H:T):Prop:=WE (f up H) λu H=>∃v,o6 b .none u=some v/\Q v H
theorem akm{x:Str}{up:Expr}{p q r:Pos}(h:WE (b7 c J (aN G (n+1) c J) (.Name x r) H) (akl (aN G n c J) Q up)):WE (aN G (n+1+1) c J (.Subscript (.Name x r) (.Slice none (some up) none q) p) H) Q:=
 WE.ob (h.mono λ_ _ h=>WE.ob (.of rfl (WE.ob (h.mono λ_ _ h=>h.elim λ_ h=>WE.pt h.1 h.2))))
end
theorem Rm{b:Nat}(ao:0<b):e0 0 (b:Int)=true:=iLt_iff.mpr (Int.ofNat_lt.mpr ao)
theorem l5(z:Int){b:Nat}(ao:0<b):∃k:Nat,k<b/\kr .Mod (.int z) (.int (b:Int))=some (bF k):=by
 have h0:Int.fmod z (b:Int)=z % (b:Int):=Int.fmod_eq_emod_of_nonneg _ (zK b)
 have oE:=Int.ofNat_lt.mpr ao
 have ah:=Int.emod_nonneg z (Int.ne_of_gt oE)
 refine⟨(z % (b:Int)).toNat,(Int.toNat_lt ah).mpr (Int.emod_lt_of_pos z oE),?_⟩
 show ow (e0 0 (b:Int)) (some (V.int (Int.fmod z b)))=some (V.int ((z % (b:Int)).toNat:Int))
 rw[Rm ao,h0,Int.toNat_of_nonneg ah];rfl
theorem vJ(z:Int){b:Nat}(ao:0<b)(oE:b<=1000000):∃q:Int,kr .FloorDiv (.int z) (.int (b:Int))=some (.int q):=by
 refine⟨Int.fdiv z b,?_⟩
 show ow (e0 0 (b:Int)&&h4 b 1000000) (some (V.int (Int.fdiv z b)))=_
 rw[Rm ao,show h4 (b:Int) 1000000=true from iLe_iff.mpr (Int.ofNat_le.mpr oE)];rfl
theorem G9{L:List Int}(h0:L≠[])(ag:L.length<=100)(i:Nat){m:Nat}(av:30<=m)(D:List V)(c:Nat):∃z,bK G0 m (aE 159) [.list (L.map .int),bF i] (ar D c)=some (.int z,ar D c):=by
 obtain⟨n,rfl⟩:=c0 av
 have eB:cz (L.map V.int)=true:=i0 (aT ag (by decide))
 have aS:0<(L.map V.int).length:=by rw [eQ];exact List.length_pos_iff.mpr h0
 have aO:(L.map V.int).length<=1000000:=by rw [eQ];exact aT ag (by decide)
 obtain⟨k,aj,xM⟩:=l5 i aS
 obtain⟨z,hdiv⟩:=vJ i aS aO
 rw[eQ] at aj
 have akn:fE (ar D c) (.list (L.map V.int)) (bF k)=some (.int L[k]):=by
  show ow (cz (L.map V.int)) ((L.map V.int)[k]?)=_
  rw[eB,ni,oI aj];rfl
 refine⟨L[k]+31*z,WE.to ?_⟩
 refine cc rfl ?_
 refine ck (hU (eX (lX (fy (vn (v:=.list (L.map V.int)) (eX (vn (v:=bF i) (cw (ef (az (vn (v:=.list (L.map V.int)) (bj ⟨_,sF eB,_,xM,_,akn,?_⟩))))))))))))
 exact hU (eX (.og (v:=.int 31) (hU (eX (vn (v:=bF i) (cw (ef (az (vn (v:=.list (L.map V.int)) (bj ⟨_,sF eB,_,hdiv,.int (31*z),rfl,_,rfl,rfl,rfl⟩))))))))))
def k1 (k:Nat):Nat:=((kindsL.map (·.1))[k]?).getD 0
noncomputable def R26:List Nat:=List.range 26
theorem ako(D:List V)(c:Nat):(R26.map λk=>(fE (ar D c) mZ (bF k)).bind λt=>fE (ar D c) t (.int 0))=R26.map λk=>some (ax (k1 k)):=by rfl'
theorem akp:(R26.all λk=>bY (k1 k) PS&&(bY (k1 k) PSa&&(Nat.beq (k1 k) 3||bY (k1 k) PSo)))=true:=by rfl'
theorem akq{k:Nat}(aj:k<26):k1 k∈PS/\k1 k∈PSa/\(k1 k≠3->k1 k∈PSo):=by
 have h:=bl akp (x:=k) (List.mem_range.mpr aj)
 rw[c6,c6,f9] at h
 exact⟨hT h.1,hT h.2.1,λe=>hT (h.2.2.resolve_left λq=>e (ei q))⟩
theorem akr{k:Nat}(aj:k<26)(D:List V)(c:Nat):∃t,fE (ar D c) mZ (bF k)=some t/\fE (ar D c) t (.int 0)=some (ax (k1 k)):=by
 obtain⟨t,aa,ah⟩:=oQ (bJ (ako D c) (x:=k) (List.mem_range.mpr aj))
 exact⟨t,aa,ah⟩
def Ha:V:=.list (wordL.map λw=> .str (fQ w))
theorem aks(n:Nat)(D:List V)(c:Nat):bK G0 (n+30) (aE 154) [] (ar D c)=some (Ha,ar D c):=by rfl'
theorem Rn(D:List V)(c:Nat):(R14.map λv=>fE (ar D c) Ha (bF v))=R14.map λv=>some (.str (fQ (fR wordL 0 v))):=by rfl'
noncomputable def R6:List Nat:=[0,1,2,3,4,5]
theorem akt(D:List V)(c:Nat):(R6.map λa=>R6.map λb=>cX (ar D c) .Eq (.str (fQ a)) (.str (fQ b)))=R6.map λa=>R6.map λb=>some (Nat.beq a b):=by rfl'
theorem aku(D:List V)(c:Nat):(R6.map λa=>R6.map λb=>cX (ar D c) .NotEq (.str (fQ a)) (.str (fQ b)))=R6.map λa=>R6.map λb=>some (!Nat.beq a b):=by rfl'
theorem Rp:(R14.all λv=>bY (fR wordL 0 v) R6)=true:=by rfl'
def Hb:V:=.list (R6.map λw=> .str (fQ w))
theorem akv(n:Nat)(D:List V)(c:Nat):bK G0 (n+30) (aE 158) [] (ar D c)=some (Hb,ar D c):=by rfl'
theorem akw(D:List V)(c:Nat):(R6.map λk=>fE (ar D c) Hb (bF k))=R6.map λk=>some (.str (fQ k)):=by rfl'
theorem akx(n:Nat)(D:List V)(c:Nat):(R14.map λv=>R14.map λw=>bothS.map λs=>bK G0 (n+60) (aE 162) [bF v,bF w,.bool s] (ar D c))=R14.map λv=>R14.map λw=>bothS.map λs=>some (.bool (kf v w s),ar D c):=by rfl'
theorem aky(n:Nat)(D:List V)(c:Nat):(R14.map λv=>R14.map λw=>bothS.map λs=>bK G0 (n+60) (aE 163) [bF v,bF w,.bool s] (ar D c))=R14.map λv=>R14.map λw=>bothS.map λs=>some (.bool (sZ v w s),ar D c):=by rfl'
theorem Rq{α:Type}(H:T)(x:Bool)(f:α->Bool):∀l:List α,cX H .In (.bool x) (.list (l.map λa=> .bool (f a)))=some (l.any λa=>f a==x)
 |[]=>rfl
 |a::l=>by
  have bg:=Rq H x f l
  show (cond (f a==x) (some true) (H.mem (.bool x) (l.map λa=> .bool (f a))))=_
  rw[h1]
  rcases f a==x with _|_
  .exact bg
  .rfl
theorem vK(a b:Nat):kr .Add (bF a) (bF b)=some (bF (a+b)):=rfl
def akz:=an "book"
def akA (L:List V):am:=FM L++([(akz,fw,true),bE "t" (.int 0),bE "held" (hV 16383)]:am)
def ao8:List Nat:=PSo++[3]
def ze (L:List Int) (X:Int) (C:Nat) (l:List Nat):am:=[bE "nums" (.list (L.map .int)),bE "tab" .tab,bE "host" .host,bE "kinds" mZ,("book",fw,true),bE "shapes" (bV dP),bE "x" (.int X),bE "count" (bF C),bE "now" (aH l)]
noncomputable def ordersL:List (List Nat):=[[2,0,1],[0,1,2],[1,2,0],[0,2,1],[2,1,0],[1,0,2]]
def gM (k j:Nat):Nat:=fR (fR ordersL [] k) 0 j
def Hc:V:=.list (ordersL.map bV)
def He (L:List Int) (X:Int) (C:Nat) (l:List Nat) (Y:Int) (cg ch qx qy qz mof dl:List Nat):am:=ze L X C l++([bE "y" (.int Y),bE "yes" (aH cg),bE "no" (aH ch),bE "on" (bV qx),bE "off" (bV qy),bE "may_on" (bV qz),bE "may_off" (bV mof),bE "dull" (bV dl)]:am)
noncomputable def J3:List Nat:=[0,1,2]
theorem akB(D:List V)(c:Nat):(R6.map λk=>J3.map λj=>(fE (ar D c) Hc (bF k)).bind λt=>fE (ar D c) t (bF j))=R6.map λk=>J3.map λj=>some (bF (gM k j)):=by rfl'
theorem akC{k j:Nat}(aj:k∈R6)(bt:j∈J3)(D:List V)(c:Nat):∃t,fE (ar D c) Hc (bF k)=some t/\fE (ar D c) t (bF j)=some (bF (gM k j)):=by
 obtain⟨t,aa,ah⟩:=oQ (bJ (bJ (akB D c) aj) bt)
 exact⟨t,aa,ah⟩
theorem ao9:(R6.all λk=>J3.all λj=>bY (gM k j) J3)=true:=by rfl'
theorem akD:(R6.all λk=>[(0,[1,2]),(1,[2]),(2,[])].all λp=> !Nat.beq (gM k p.1) 0|| !(p.2.any λj=>Nat.beq (gM k j) 0))=true:=by rfl'
theorem Rr{d r:List Nat}{j:Nat}(h:d++j::r=J3):j∈J3/\(j,r)∈[(0,[1,2]),(1,[2]),(2,([]:List Nat))]:=by
 have e:=congrArg (List.drop d.length) h
 rw[zU] at e
 have k:=congrArg List.length h
 rw[d5] at k
 generalize d.length=n at e k
 match n,e,k with
 |0,e,_=>injection e with e1 e2;rw[e1,e2];decide
 |1,e,_=>injection e with e1 e2;rw[e1,e2];decide
 |2,e,_=>injection e with e1 e2;rw[e1,e2];decide
 |_+3,_,k=>exact absurd (Nat.succ.inj (Nat.succ.inj (Nat.succ.inj ((qO _ 3 _).symm.trans k)))) (Nat.succ_ne_zero _)
theorem Rs{k:Nat}(h:k<6):k∈R6:=by
 exact(List.mem_range.mpr h:k∈List.range 6)
theorem Rt{m:Nat}(av:30<=m)(D:List V)(c:Nat):bK G0 m (aE 154) [] (ar D c)=some (Ha,ar D c):=by
 obtain⟨n,rfl⟩:=c0 av
 exact aks n D c
theorem akE{m:Nat}(av:30<=m)(D:List V)(c:Nat):bK G0 m (aE 158) [] (ar D c)=some (Hb,ar D c):=by
 obtain⟨n,rfl⟩:=c0 av
 exact akv n D c
theorem Ru:(R6.all λw=>R14.all λv=>((qw w).testBit v==Nat.beq (fR wordL 0 v) w)&&((kZ false (qw w)).testBit v== !Nat.beq (fR wordL 0 v) w))=true:=by rfl'
theorem Hf{p:Nat->Bool}{m:Nat}(h:∀v,v<14->m.testBit v=p v):oC (cT p) m:=λv al=>by
 rw[memN_eq,fV_mem,h v al]
 exact⟨λh=>h.2,λh=>⟨al,h⟩⟩
theorem akF{w:Nat}(cs:w∈R6):oC (cT λv=>Nat.beq (fR wordL 0 v) w) (kZ true (qw w)):=Hf λv al=>by
 have h:=bl (bl Ru cs) (R14_mem.mpr al)
 rw[c6] at h
 exact eq_of_beq h.1
theorem akG{w:Nat}(cs:w∈R6):oC (cT λv=> !Nat.beq (fR wordL 0 v) w) (kZ false (qw w)):=Hf λv al=>by
 have h:=bl (bl Ru cs) (R14_mem.mpr al)
 rw[c6] at h
 exact eq_of_beq h.2
noncomputable def l6:List Nat:=[3,5,6,8,9,11,12,13]
theorem Rv:(R14.all λv=>(trM.testBit v==bY v l6)&&((kZ false trM).testBit v== !bY v l6))=true:=by rfl'
theorem akH:oC l6 trM:=λv al=>by
 have h:=bl Rv (R14_mem.mpr al)
 rw[c6] at h
 rw[eq_of_beq h.1]
theorem akI:oC (cT λv=> !bY v l6) (kZ false trM):=Hf λv al=>by
 have h:=bl Rv (R14_mem.mpr al)
 rw[c6] at h
 exact eq_of_beq h.2
theorem akJ(D:List V)(c:Nat):(PS.map λk=>cX (ar D c) .NotEq (ax k) (.int 3))=PS.map λk=>some (!Nat.beq k 3):=by rfl'
theorem Rw{v w:Nat}(al:v<14)(cs:w<14)(s:Bool){m:Nat}(av:60<=m)(D:List V)(c:Nat):bK G0 m (aE 162) [bF v,bF w,.bool s] (ar D c)=some (.bool (kf v w s),ar D c):=by
 obtain⟨n,rfl⟩:=c0 av
 exact bJ (bJ (bJ (akx n D c) (R14_mem.mpr al)) (R14_mem.mpr cs)) (f8 s)
theorem akK{v w:Nat}(al:v<14)(cs:w<14)(s:Bool){m:Nat}(av:60<=m)(D:List V)(c:Nat):bK G0 m (aE 163) [bF v,bF w,.bool s] (ar D c)=some (.bool (sZ v w s),ar D c):=by
 obtain⟨n,rfl⟩:=c0 av
 exact bJ (bJ (bJ (aky n D c) (R14_mem.mpr al)) (R14_mem.mpr cs)) (f8 s)
noncomputable def Hg (l:List Stmt):List Stmt:=match l with
 | .If _ _ o _::_=>o
 |_=>[]
def lawFor:List Stmt:=lY (lawFn.bd.drop 15)
def lawE:List Stmt:=Hg (Hg (lawFor.drop 3))
inductive TurnD (ci:Bool->Prop) (L:List Int) (X:Int) (C:Nat) (l:List Nat) (Y:Int) (k:Nat) (J:am) (O:T):Prop
 |mk (b:Bool) (cg ch:List Nat) (D:List V) (c:Nat) (qx qy qz mof dl:List Nat) (e:O=ar D c) (ap:c<=k) (U:Has J (He L X C l Y cg ch qx qy qz mof dl)) (g1:Good l cg qx qz dl) (g2:Good l ch qy mof dl) (aQ:dl∈dlL) (Hh:Now b cg) (Hi:Now b ch) (ao:ci b)
section
variable {ci:Bool->Prop}{L:List Int}{X Y:Int}{C:Nat}{l:List Nat}{J:am}{D:List V}{c:Nat}{b:Bool}{b0:Fl->am->T->Prop}
def zf (L:List Int) (X:Int) (C:Nat) (l:List Nat) (Y:Int) (w:Nat):am:=ze L X C l++([bE "y" (.int Y),bE "what" (bF w),bE "dull" (bV [])]:am)
theorem Hj{c eW eH k j:Nat}(h:eW<=c+k)(h':eH<=eW+j)(q:k+j<=10000):eH<=c+10000:=aT h' (aT (jC h j) (aT (dW (jE ..)) (dh q c)))
theorem akL{w:Nat}(qA:ci false)(aw:∀i∈l,i∈PSa)(N:Now b l)(U:Has J (zf L X C l Y w)):WS (bv G0 287 hs J (yy (lawFor.drop 3)) (ar D c)) (f6 (TurnD ci L X C l Y (c+10000))):=by
 obtain⟨gJ,s7,Hk⟩:=l5 Y (b:=6) (by decide)
 have vL:=Rs s7
 refine cH U (fy (cw (bo (fn:=aE 158) (bj (.of (akE (by decide) D c) ⟨rfl,eX (aM U (v:=.int Y) (.og (v:=.int 6) ⟨_,Hk,_,bJ (akw D c) vL,λJ U=>?_⟩))⟩)))))
 obtain⟨cg,fq,eW,e1,vM,akM,fm,oD,Rx⟩:=P8 s7 true N.dF aw (m:=284) (by decide) D c
 refine cH U (bo (fn:=aE 149) (az (aM U (v:=.host) (az (aM U (v:=aH l) (az (aM U (v:=.str (fQ gJ)) (az (.og (v:=.bool true) (bj (.of e1 ⟨cW U,λJ U=>?_⟩)))))))))))
 obtain⟨ch,eO,eH,e2,hr,akN,gF,vN,Ry⟩:=P8 s7 false N.dF aw (m:=283) (by decide) fq eW
 refine cH U (bo (fn:=aE 149) (az (aM U (v:=.host) (az (aM U (v:=aH l) (az (aM U (v:=.str (fQ gJ)) (az (.og (v:=.bool false) (bj (.of e2 ⟨cW U,λJ U=>?_⟩)))))))))))
 refine cH U (d8 (ht (sT _ (by rfl') (by rfl') ⟨_,rfl,.of (kQ (p:=λv=>Nat.beq (fR wordL 0 v) gJ) (g:=bF) (λv al=>?_) λv al=>?_) ⟨vA,λJ U=>?_⟩⟩)))
 .have U:=U.push (x:="v") (s:=(bF v,false))
  refine dD (b6 (lX (fy (cw (bo (fn:=aE 154) (bj (.of (Rt (by decide) eO eH) ⟨rfl,dt U (v:=bF v) ⟨_,bJ (Rn eO eH) al,aM U (v:=.str (fQ gJ)) ⟨_,bJ (bJ (akt eO eH) (hT (bl Rp al))) vL,?_⟩⟩⟩)))))))
  rcases Nat.beq (fR wordL 0 v) gJ with _|_
  .exact⟨rfl,rfl⟩
  .exact dc ⟨rfl,rfl⟩
 .exact dt (U.push (x:="v") (s:=(bF v,false))) (v:=bF v) ⟨rfl,rfl⟩
 refine cH U (d8 (ht (sT _ (by rfl') (by rfl') ⟨_,rfl,.of (kQ (p:=λv=> !Nat.beq (fR wordL 0 v) gJ) (g:=bF) (λv al=>?_) λv al=>?_) ⟨vA,λJ U=>?_⟩⟩)))
 .have U:=U.push (x:="v") (s:=(bF v,false))
  refine dD (b6 (lX (fy (cw (bo (fn:=aE 154) (bj (.of (Rt (by decide) eO eH) ⟨rfl,dt U (v:=bF v) ⟨_,bJ (Rn eO eH) al,aM U (v:=.str (fQ gJ)) ⟨_,bJ (bJ (aku eO eH) (hT (bl Rp al))) vL,?_⟩⟩⟩)))))))
  rcases Nat.beq (fR wordL 0 v) gJ with _|_
  .exact dc ⟨rfl,rfl⟩
  .exact⟨rfl,rfl⟩
 .exact dt (U.push (x:="v") (s:=(bF v,false))) (v:=bF v) ⟨rfl,rfl⟩
 refine cH U (dt U (v:=bV (cT λv=>Nat.beq (fR wordL 0 v) gJ)) λJ U=>?_)
 refine cH U (dt U (v:=bV (cT λv=> !Nat.beq (fR wordL 0 v) gJ)) λJ U=>?_)
 have us:∀y a3,Paired (λi r=>r.Perm (ir gJ y i)) l a3->∀r∈a3,Pts r:=λy a3 P r aq=>by
  obtain⟨i,hi,p⟩:=Paired.all P r aq
  exact(Gd s7 y (aw i hi)).perm p
 exact bm ⟨rfl,false,cg,ch,eO,eH,_,_,_,_,[],rfl,Hj vM hr (by decide),U.sub,Ra s7 true aw fm oD Rx (akF vL),Ra s7 false aw gF vN Ry (akG vL),.head _,s6 fm (us true akM Rx) oD (λe=>nomatch e),s6 gF (us false akN Ry) vN (λe=>nomatch e),qA⟩
theorem akO{w:Nat}(qA:ci b)(N:Now b l)(U:Has J (zf L X C l Y w)):WS (bv G0 286 hs J (yy (Hg (lawFor.drop 3))) (ar D c)) (f6 (TurnD ci L X C l Y (c+10000))):=by
 obtain⟨u1,cg,fq,eW,e1,vM,Rz,RA,fm,oD⟩:=ahD N.dF (m:=284) (by decide) D c
 refine cH U (bo (fn:=aE 146) (az (aM U (v:=.host) (az (aM U (v:=aH l) (az (.og (v:=.bool true) (bj (.of e1 ⟨cW U,λJ U=>?_⟩)))))))))
 obtain⟨ch,eO,eH,e2,hr,gF,vN⟩:=ahC N.dF (m:=283) (by decide) fq eW
 refine cH U (bo (fn:=aE 146) (az (aM U (v:=.host) (az (aM U (v:=aH l) (az (.og (v:=.bool false) (bj (.of e2 ⟨cW U,λJ U=>?_⟩)))))))))
 refine cH U (.og (v:=bV l6) λJ U=>?_)
 refine cH U (d8 (ht (sT _ (by rfl') (by rfl') ⟨_,rfl,.of (kQ (p:=λv=> !bY v l6) (g:=bF) (λv al=>?_) λv al=>?_) ⟨vA,λJ U=>?_⟩⟩)))
 .have U:=U.push (x:="v") (s:=(bF v,false))
  refine dD (b6 (aM U (v:=bF v) (.og (v:=bV l6) ⟨_,Gz _ v _,?_⟩)))
  rcases bY v l6 with _|_
  .exact dc ⟨rfl,rfl⟩
  .exact⟨rfl,rfl⟩
 .exact dt (U.push (x:="v") (s:=(bF v,false))) (v:=bF v) ⟨rfl,rfl⟩
 refine cH U (dt U (v:=bV l6) λJ U=>?_)
 refine cH U (dt U (v:=bV (cT λv=> !bY v l6)) λJ U=>?_)
 exact bm ⟨rfl,b,cg,ch,eO,eH,_,_,_,_,[],rfl,Hj vM hr (by decide),U.sub,ajT N.dF Rz RA fm oD akH,ajS N.dF gF vN akI,.head _,zd (.inl rfl) (zd (.inr (.inl rfl)) N Rz RA) fm oD,zd (.inr (.inr rfl)) N gF vN,qA⟩
theorem Hl(z:Int){n:Nat}(aX:0<n)(h:n<=26)(D:List V)(c:Nat):∃k t q,kr .Mod (.int z) (.int (n:Int))=some (bF k)/\fE (ar D c) mZ (bF k)=some t/\fE (ar D c) t (.int 0)=some (ax q)/\q∈PSa/\(q≠3->q∈PSo):=by
 obtain⟨k,aj,gm⟩:=l5 z aX
 have aj:=me aj h
 obtain⟨t,e1,e2⟩:=akr aj D c
 exact⟨k,t,k1 k,gm,e1,e2,(akq aj).2⟩
theorem Hm{q:Nat}(h:q∈PSa):q∈PS:=(List.mem_filter.mp h).1
theorem akP{K o:List Nat}(n4:∀k∈K,k∈PSo)(nn:Pts o)(a7:eG (eb (K.map λi=>[i])) o):Now true o/\∀q∈o,q∈PSo:=by
 have key:∀r∈K.map (λi=>[i]),∃i∈K,r=[i]:=λr aq=>by
  obtain⟨i,hi,e⟩:=List.mem_map.mp aq
  exact⟨i,hi,e.symm⟩
 have fL:∀r∈K.map (λi=>[i]),Pts r:=λr aq=>by
  obtain⟨i,hi,e⟩:=key r aq
  exact e▸ .one (yX i (n4 i hi))
 refine⟨s6 nn fL a7 λ_ r aq k aj=>?_,λq aO=>?_⟩
 .obtain⟨i,hi,e⟩:=key r aq
  rw[e] at aj
  exact dG aj▸Ri i (n4 i hi)
 .rcases Gx fL a7 aO with ⟨r,aq,h⟩|e|e
  .obtain⟨i,hi,e⟩:=key r aq
   rw[e] at h
   exact dG h▸n4 i hi
  .rw[e];decide
  .rw[e];decide
def Hn (L:List Int) (X:Int) (C:Nat) (l:List Nat) (Y:Int) (s:Bool) (o:List Nat):am:=ze L X C l++([bE "y" (.int Y),bE "strict" (.bool s),bE "other" (aH o)]:am)
theorem akQ(m9 na:Nat){y:Nat}(aY:y<2):o6 (.list [ax m9,ax na]) .none (bF (1+y))=some (.list (([m9,na].take (1+y)).map ax))/\([m9,na].take (1+y)).length<=2/\∀k∈[m9,na].take (1+y),k=m9\/k=na:=by
 refine⟨?_,by rw [zM];exact Nat.min_le_right ..,λk aj=>(List.mem_cons.mp (List.mem_of_mem_take aj)).imp id dG⟩
 rcases y with _|_|y
 .rfl
 .rfl
 .exact absurd (oJ (oJ aY)) (zS _)
theorem akR{w:Nat}(U:Has J (zf L X C l Y w))(q:∀J o s D aP,aP<=c+1->Now true o->(∀q∈o,q∈PSo)->o≠[]->Has J (Hn L X C l Y s o)->WS (bv G0 282 hs J (lawE.drop 4) (ar D aP)) b0):WS (bv G0 286 hs J lawE (ar D c)) b0:=by
 obtain⟨sj,aoa,akS⟩:=l5 Y (b:=3) (by decide)
 refine cH U (iX (hU (eX (aM U (v:=.int Y) (.og (v:=.int 3) ⟨_,akS,.og (v:=.int 1) ⟨_,Gp _ sj 1,λJ U=>?_⟩⟩)))))
 generalize (!Nat.beq sj 1)=s at U
 obtain⟨akT,akU⟩:=vJ Y (b:=3) (by decide) (by decide)
 obtain⟨Oy,ta,m9,gm,akV,akW,aw,akX⟩:=Hl akT (n:=23) (by decide) (by decide) D c
 obtain⟨kb,vj,na,akY,akZ,al0,ao,oE⟩:=Hl Y (n:=26) (by decide) (by decide) D c
 refine cH U (Qt (az (sU (fy (aM U (v:=mZ) (eX (hU (eX (aM U (v:=.int Y) (.og (v:=.int 3) ⟨_,akU,.og (v:=.int 23) ⟨_,gm,ta,akV,.og (v:=.int 0) ⟨_,akW,?_⟩⟩⟩))))))))))
 refine az (sU (fy (aM U (v:=mZ) (eX (aM U (v:=.int Y) (.og (v:=.int 26) ⟨_,akY,vj,akZ,.og (v:=.int 0) ⟨_,al0,bj ⟨by rw [oO,oO,y6,y6];rfl,λJ U=>?_⟩⟩⟩))))))
 obtain⟨mV,al1,Ho⟩:=l5 Y (b:=2) (by decide)
 obtain⟨RB,RC,RD⟩:=akQ m9 na al1
 generalize [m9,na].take (1+mV)=K0 at RB RD RC
 have RE:∀k∈K0,k∈PS/\(k≠3->k∈PSo):=λk aj=>(RD k aj).elim (λe=>e▸⟨Hm aw,akX⟩) λe=>e▸⟨Hm ao,oE⟩
 have n4:∀k∈K0.filter (λk=> !Nat.beq k 3),k∈PSo:=λk aj=>by
  obtain⟨aa,ah⟩:=List.mem_filter.mp aj
  exact(RE k aa).2 λe=>by rw [e] at ah;exact absurd ah (by decide)
 obtain⟨o,qt,ou,al2,RF,nn,al3⟩:=m3 (ls:=(K0.filter λk=> !Nat.beq k 3).map λi=>[i]) (λr aq=>by
  obtain⟨i,hi,e⟩:=List.mem_map.mp aq
  exact e▸ .one (yX i (n4 i hi))) (X:=.list ((K0.filter λk=> !Nat.beq k 3).map ax)) (by rw [Ga];rfl) (m:=282) (by decide) D c
 obtain⟨aL,kg⟩:=akP n4 nn al3
 refine cH U (bo (fn:=aE 67) (az (aM U (v:=.tab) (az (j8 (d8 (Qp (akm (aM U (v:=.list [ax m9,ax na]) (eX (.og (v:=bF 1) (hU (eX (aM U (v:=.int Y) (.og (v:=.int 2) ⟨_,Ho,_,vK 1 mV,_,RB,_,rfl,?_⟩)))))))))))))))
 refine .of (kQ (p:=λk=> !Nat.beq k 3) (g:=ax) (λk aj=>?_) λk aj=>?_) ⟨?_,bj (.of al2 ⟨cW U,λJ U=>?_⟩)⟩
 .have U:=U.push (x:="t") (s:=(ax k,false))
  refine dD (b6 (aM U (v:=ax k) (.og (v:=.int 3) ⟨_,bJ (akJ D c) (RE k aj).1,?_⟩)))
  rcases Nat.beq k 3 with _|_
  .exact dc ⟨rfl,rfl⟩
  .exact⟨rfl,rfl⟩
 .exact dt (U.push (x:="t") (s:=(ax k,false))) (v:=ax k) ⟨rfl,rfl⟩
 .rw[i0 (aT (v3 ..) (aT RC (by decide))),i6]
  exact(zX _).trans (List.all_eq_true.mpr λk _=>y6 k)
 refine bO (b6 (aM U (v:=aH o) (.og (v:=.int 2) ⟨_,vE nn (by decide) qt ou,?_⟩)))
 rcases jq:fx o 2 with _|_
 .exact bm (q _ o s qt ou RF aL kg (λe=>by rw [e] at jq;exact absurd jq (by decide)) U.sub)
 .exact cH U (.og (v:=aH [4]) λJ U=>bm (q _ [4] s qt ou RF ⟨⟨by decide,by decide⟩,by decide,λ_=>by decide⟩ (by decide) (by decide) U.sub))
def RG (L:List Int) (X:Int) (C:Nat) (l:List Nat) (Y:Int) (s:Bool) (o cg ch:List Nat):am:=Hn L X C l Y s o++([bE "given" (bV (cT (cZ o))),bE "yes" (aH cg),bE "no" (aH ch)]:am)
theorem al4(L:List Nat):V.ma (bV L)=true:=by
 show V.zu (L.map bF)=true
 induction L with
 |nil=>rfl
 |cons a L bg=>exact bg
theorem aob{J:am}{r:V}{k:Const}{j:Nat}{q p:Pos}{x:Str}{v:V}(h:a2 J x=some (v,false)):gx J r [.Constant k j q,.Name x p]=true:=(c6 _ _).mpr ⟨rfl,kS h rfl⟩
theorem al5{o:List Nat}{s:Bool}(N:Now b l)(aL:Now true o)(kg:∀q∈o,q∈PSo)(eY:o≠[])(U:Has J (Hn L X C l Y s o))(q:∀J cg ch D aP,aP<=c+4000->m8 l o true s cg->m8 l o false s ch->Has J (RG L X C l Y s o cg ch)->WS (bv G0 279 hs J (lawE.drop 7) (ar D aP)) b0):WS (bv G0 282 hs J (lawE.drop 4) (ar D c)) b0:=by
 refine cH U (bo (fn:=aE 161) (az (aM U (v:=.tab) (az (jx U (v:=fw) (az (aM U (v:=aH o) (bj (.of (GC aL.dF (m:=280) (by decide) D c) ⟨kS (a:=.tab) U.g (FZ (U.g (s:=(fw,true)) (by rfl')) (al4 _) (cW U)),λJ U=>?_⟩)))))))))
 obtain⟨cg,fq,eW,e1,vM,dB⟩:=Q0 N.dF N.one aL.dF kg eY true s (m:=279) (by decide) D c
 refine cH U (bo (fn:=aE 151) (az (aM U (v:=.host) (az (aM U (v:=aH l) (az (aM U (v:=aH o) (az (.og (v:=.bool true) (az (aM U (v:=.bool s) (bj (.of e1 ⟨cW U,λJ U=>?_⟩)))))))))))))
 obtain⟨ch,eO,eH,e2,hr,d9⟩:=Q0 N.dF N.one aL.dF kg eY false s (m:=278) (by decide) fq eW
 refine cH U (bo (fn:=aE 151) (az (aM U (v:=.host) (az (aM U (v:=aH l) (az (aM U (v:=aH o) (az (.og (v:=.bool false) (az (aM U (v:=.bool s) (bj (.of e2 ⟨cW U,λJ U=>?_⟩)))))))))))))
 exact q _ cg ch eO eH (aT hr (jC vM 2000)) dB d9 U.sub
end
theorem Hp{n:Nat}{c:Cx}{J L:am}(U:Has J L){eg nb Hq cB Hr Hs:Str}{fm gF lE lF u0 Ft al6 al7 RH rP al8 al9 us:Pos}{sc s8:Scope}{x s:Bool}{j:Nat}{qB:List Nat}{F:Fn}{g:Nat->Nat->Bool->Bool}{D:List V}{kK:Nat}{Q:V->T->Prop}(dY:∀v w,v<14->w<14->bK G0 (n+2) F [bF v,bF w,.bool s] (ar D kK)=some (.bool (g v w s),ar D kK))(bx:∀w∈qB,w<14)(ag:qB.length<=4096)(q:Q (bV (cT λv=>qB.any λw=>g v w s==x)) (ar D kK))(aw:a9 Hr "_law_all"=true:=by rfl')(aa:gy c Hr=true:=by rfl')(ah:lj eg sc c.sc=true:=by rfl')(aC:lj nb s8 sc=true:=by rfl')(bC:fF ⟨sc,c.bd⟩ Hq=true:=by rfl')(ee:∀a,a2 ((eg,a,false)::L) Hq=some (bV qB,false):=by intro _;rfl')(mF:lk s8.names Hs=some .globalImplicit:=by rfl')(lB:G0.fn Hs=some F:=by rfl')(jX:(fF ⟨s8,c.bd⟩ eg&&fF ⟨s8,c.bd⟩ nb&&fF ⟨s8,c.bd⟩ cB&&fF ⟨sc,c.bd⟩ eg)=true:=by rfl')(RJ:∀a b,a2 ((nb,a,false)::(eg,b,false)::L) eg=some (b,false):=by intro _ _;rfl')(RK:∀a b,a2 ((nb,a,false)::(eg,b,false)::L) nb=some (a,false):=by intro _ _;rfl')(vD:∀a b,a2 ((nb,a,false)::(eg,b,false)::L) cB=some (.bool s,false):=by intro _ _;rfl'):
  WE (aN G0 (n+6) c J (.ListComp (.Name eg fm) [⟨.Name eg gF,.Name Hr lE,[.Compare (.Constant (.bool x) j lF) [.In] [.ListComp (.Call (.Name Hs u0) [.Name eg Ft,.Name nb al6,.Name cB al7] [] RH) [⟨.Name nb rP,.Name Hq al8,[],0⟩] s8 al9] us],0⟩] sc RH) (ar D kK)) Q:=by
 obtain⟨jX,ala⟩:=aK jX
 obtain⟨jX,alb⟩:=aK jX
 obtain⟨alc,ald⟩:=aK jX
 refine d8 (ht (sT _ aw aa ⟨_,rfl,.of (kQ (p:=λv=>qB.any λw=>g v w s==x) (g:=bF) (λv al=>?_) λv al=>?_) ⟨vA,q⟩⟩)) ah
 .have U:=U.push (x:=eg) (s:=(bF v,false))
  refine dD (b6 (.of (v:=.bool x) (O:=ar D kK) rfl (j8 (d8 (ht (sE bC (U.g (ee _)) ⟨_,rfl,.of (sO (g:=λw=> .bool (g v w s)) (λw cs=>dc ⟨rfl,rfl⟩) λw cs=>?_) ⟨by rw [yL,i0 ag];rfl,⟨_,Rq _ x (λw=>g v w s) qB,?_⟩⟩⟩)) aC))))
  .have U:=U.push (x:=nb) (s:=(bF w,false))
   exact bo (az (sB alc (U.f (RJ _ _)) (az (sB ald (U.f (RK _ _)) (az (sB alb (U.f (vD _ _)) (bj (.of (dY v w (R14_mem.mp al) (bx w cs)) ⟨kS (U.g (RJ _ _)) (kS (U.g (RK _ _)) (kS (U.g (vD _ _)) rfl)),rfl,rfl⟩)))))))) mF lB
  .rcases(qB.any λw=>g v w s==x) with _|_
   .exact⟨rfl,rfl⟩
   .exact dc ⟨rfl,rfl⟩
 .exact sE ala (by show cond (a9 eg eg) _ _=_;rw[sEq_iff.mpr rfl];rfl) ⟨rfl,rfl⟩
section
variable {ci:Bool->Prop}{L:List Int}{X Y:Int}{C:Nat}{l:List Nat}{J:am}{D:List V}{c:Nat}{b:Bool}{b0:Fl->am->T->Prop}
def qC (o:List Nat) (s:Bool):List Nat:=cT λv=>(cT (cZ o)).any λw=>kf v w s==true
def vO (o:List Nat) (s:Bool):List Nat:=cT λv=>(cT (cZ o)).any λw=>kf v w s==false
def qD (o:List Nat) (s:Bool):List Nat:=cT λv=>(cT (cZ o)).any λw=>sZ v w s==true
theorem RL{l:List Nat}{p:Nat->Bool}:(l.any λw=>p w==true)=l.any p:=by
 congr 1
 funext w
 rcases p w with _|_<;>rfl
theorem on_iff{o:List Nat}{s:Bool}{v:Nat}:bY v (qC o s)=true↔v<14/\qu o s v=true:=by
 unfold qC
 rw[memN_eq,fV_mem,RL];exact qZ
theorem of_iff{o:List Nat}{s:Bool}{v:Nat}:bY v (vO o s)=true↔v<14/\l3 o s v=true:=by
 unfold vO
 rw[memN_eq,fV_mem]
 refine and_congr qZ ?_
 rw[show ((cT (cZ o)).any λw=>kf v w s==false)=l3 o s v by
  unfold l3
  congr 1
  funext w
  rcases kf v w s with _|_<;>rfl]
theorem tu_iff{o:List Nat}{s:Bool}{v:Nat}:bY v (qD o s)=true↔v<14/\oy o s v=true:=by
 unfold qD
 rw[memN_eq,fV_mem,RL];exact qZ
theorem RM{a b:List Nat}{v:Nat}(h:bY v a=true\/bY v b=true):bY v (a++b)=true:=memN_eq.mpr (List.mem_append.mpr (h.imp memN_eq.mp memN_eq.mp))
theorem RN{p q:Nat->Bool}:(cT p++cT q).length<=4096:=by
 rw[d5]
 exact aT (v9 (ot _) (ot _)) (by decide)
theorem ale{o cg ch:List Nat}{s:Bool}{k:Nat}(aj:c<=k)(qA:ci b)(N:Now b l)(aL:Now true o)(kg:∀q∈o,q∈PSo)(eY:o≠[])(dB:m8 l o true s cg)(d9:m8 l o false s ch)(U:Has J (RG L X C l Y s o cg ch)):
  WS (bv G0 279 hs J (lawE.drop 7) (ar D c)) (f6 (TurnD ci L X C l Y k)):=by
 have Ht:∀w∈cT (cZ o),w<14:=λw cs=>(fV_mem.mp cs).1
 have uw:=aT (ot (cZ o)) (by decide:14<=4096)
 refine cH U (Hp U (g:=kf) (λv w al cs=>Rw al cs s (by decide) D c) Ht uw λJ U=>?_)
 refine cH U (Hp U (g:=kf) (λv w al cs=>Rw al cs s (by decide) D c) Ht uw λJ U=>?_)
 refine cH U (Hp U (g:=sZ) (λv w al cs=>akK al cs s (by decide) D c) Ht uw λJ U=>?_)
 refine cH U (eX (aM U (v:=bV (qC o s)) (aM U (v:=bV (qD o s)) ⟨_,GD RN,λJ U=>?_⟩)))
 refine cH U (eX (aM U (v:=bV (vO o s)) (aM U (v:=bV (qD o s)) ⟨_,GD RN,λJ U=>?_⟩)))
 obtain⟨row,aoc,aa,ah,aC⟩:=Qv aL.dF D c
 refine bO (b6 (lX (sU (ql (dt U (v:=.tab) ⟨rfl,dt U (v:=aH o) ⟨_,aa,.og (v:=.int 0) ⟨_,ah,.og (v:=.int 6) ⟨_,aC,?_⟩⟩⟩⟩)))))
 have g1:Good l cg (qC o s) (qC o s++qD o s) dP:=ak6 N.dF kg eY (λv al h=>(on_iff.mp h).2) (λv al h=>RM (h.imp (λh=>on_iff.mpr ⟨al,h⟩) λh=>tu_iff.mpr ⟨al,h⟩)) dB
 have lI:∀{J mof},(∀v,v<14->2<=o.length\/l3 o s v=true\/oy o s v=true->bY v mof=true)->Has J (He L X C l Y cg ch (qC o s) (vO o s) (qC o s++qD o s) mof dP)->TurnD ci L X C l Y k J (ar D c):=λav U=>
  ⟨b,cg,ch,D,c,_,_,_,_,dP,rfl,aj,U,g1,akb N.dF kg aL.dF eY (λv al h=>(of_iff.mp h).2) av d9,.tail _ (.head _),Rk N aL kg dB,Rk N aL kg d9,qA⟩
 rcases e2:Nat.ble 2 o.length with _|_
 .refine bm (cH U (dt U (v:=bV dP) λJ U=>bm ⟨rfl,lI (mof:=vO o s++qD o s) (λv al h=>?_) U.sub⟩))
  rcases h with h|h
  .exact absurd (md h) (by rw [e2];decide)
  .exact RM (h.imp (λh=>of_iff.mpr ⟨al,h⟩) λh=>tu_iff.mpr ⟨al,h⟩)
 .exact cH U (sT _ (by rfl') (by rfl') λJ U=>bm (cH U (dt U (v:=bV dP) λJ U=>bm ⟨rfl,lI (mof:=R14) (λv al _=>memN_eq.mpr (R14_mem.mpr al)) U.sub⟩)))
inductive LoopI (L:List Int) (X:Int) (C dq:Nat) (d r:List Nat) (J:am) (O:T):Prop
 |mk (b:Bool) (l:List Nat) (D:List V) (c:Nat) (aQ:d++r=J3) (e:O=ar D c) (ap:c+20000*r.length<=100000) (U:Has J (ze L X C l)) (N:Now b l) (ao:(r.any λj=>Nat.beq (gM dq j) 0)=true->b=true)
theorem alf{ci:Bool->Prop}{dq j:Nat}{d r:List Nat}(aQ:d++j::r=J3)(ap:c+20000*(j::r).length<=100000)(qA:∀b,ci b->(r.any λj=>Nat.beq (gM dq j) 0)=true->b=true)(N:Now b l){J:am}{O:T}(h:TurnD ci L X C l Y (c+10000) J O):
  WS (bv G0 287 hs J (lawFor.drop 4) O) (f6 (LoopI L X C dq (d++[j]) r)):=by
 obtain⟨hC,cg,ch,a0,aP,qx,qy,qz,mof,dl,e,hG,U,g1,g2,RO,Hh,Hi,oE⟩:=h
 rw[e]
 have ge:=Qx N.dF Hh.dF RO g1 (m:=283) (by decide) a0 aP
 have gf:=Qx N.dF Hi.dF RO g2 (m:=282) (by decide) a0 aP
 refine bO (kP (iq (bo (fn:=aE 164) (az (aM U (v:=.tab) (az (jx U (v:=fw) (az (aM U (v:=bV dl) (az (aM U (v:=aH l) (az (aM U (v:=aH cg) (az (aM U (v:=bV qx) (az (aM U (v:=bV qz) (bj (.of ge ⟨kS (a:=.tab) U.g (FZ (U.g (s:=(fw,true)) (by rfl')) rfl (cW U)),true,rfl,bm ?_⟩)))))))))))))))))))
 refine bO (kP (iq (bo (fn:=aE 164) (az (aM U (v:=.tab) (az (jx U (v:=fw) (az (aM U (v:=bV dl) (az (aM U (v:=aH l) (az (aM U (v:=aH ch) (az (aM U (v:=bV qy) (az (aM U (v:=bV mof) (bj (.of gf ⟨kS (a:=.tab) U.g (FZ (U.g (s:=(fw,true)) (by rfl')) rfl (cW U)),true,rfl,bm ?_⟩)))))))))))))))))))
 obtain⟨gJ,Hk⟩:=vJ Y (b:=6) (by decide) (by decide)
 obtain⟨mV,_,Ho⟩:=l5 gJ (b:=2) (by decide)
 have lI:∀{u J},Now hC u->Has J (cb (He L X C l Y cg ch qx qy qz mof dl) "now" (aH u) false)->LoopI L X C dq (d++[j]) r J (ar a0 aP):=λ{u J} alg h=>
  ⟨hC,u,a0,aP,by rw [iA];exact aQ,rfl,by rw [kk] at ap;lia,h.sub,alg,qA hC oE⟩
 refine cH U (Qy (b6 (hU (eX (hU (eX (aM U (v:=.int Y) (.og (v:=.int 6) ⟨_,Hk,.og (v:=.int 2) ⟨_,Ho,.og (v:=.int 0) ⟨_,i1 _ mV 0,?_⟩⟩⟩))))))))
 rcases Nat.beq mV 0 with _|_
 .exact dt U (v:=aH cg) λJ U=>bm ⟨rfl,lI Hh U⟩
 .exact dt U (v:=aH ch) λJ U=>bm ⟨rfl,lI Hi U⟩
theorem alh{dq j:Nat}{d r:List Nat}(oF:dq∈R6)(aQ:d++j::r=J3)(ap:c+20000*(j::r).length<=100000)(N:Now b l)(ao:((j::r).any λj=>Nat.beq (gM dq j) 0)=true->b=true)(U:Has J (zf L X C l Y (gM dq j))):
  WS (bv G0 288 hs J (lawFor.drop 3) (ar D c)) (f6 (LoopI L X C dq (d++[j]) r)):=by
 obtain⟨bt,ali⟩:=Rr aQ
 have RP:(!Nat.beq (gM dq j) 0|| !(r.any λj=>Nat.beq (gM dq j) 0))=true:=bl (bl akD oF) ali
 have yi:Nat.beq (gM dq j) 0=true->b=true:=λe=>ao (List.any_eq_true.mpr ⟨j,dV ..,e⟩)
 have RQ:(r.any λj=>Nat.beq (gM dq j) 0)=true->b=true:=λe=>ao (by rw [h1,e,Bool.or_true])
 refine bO (b6 (aM U (v:=bF (gM dq j)) (.og (v:=.int 0) ⟨_,i1 _ _ 0,?_⟩)))
 refine WS.mono (P:=f6 (TurnD (λb=>(r.any λj=>Nat.beq (gM dq j) 0)=true->b=true) L X C l Y (c+10000))) ?_ λf J O h=>by
  obtain⟨e,h⟩:=h
  rw[e]
  exact alf aQ ap (λ_ h=>h) N h
 rcases RR:Nat.beq (gM dq j) 0 with _|_
 .refine bO (b6 (aM U (v:=bF (gM dq j)) (.og (v:=.int 1) ⟨_,i1 _ _ 1,?_⟩)))
  refine WS.mono (P:=f6 (TurnD (λb=>(r.any λj=>Nat.beq (gM dq j) 0)=true->b=true) L X C l Y (c+10000))) ?_ λf J O h=>by
   obtain⟨e,h⟩:=h
   rw[e]
   exact bm ⟨rfl,h⟩
  rcases Nat.beq (gM dq j) 1 with _|_
  .exact akR U λJ o s D aP hG aL kg eY U=>al5 N aL kg eY U λJ cg ch D aod alj dB d9 U=>ale (Hj hG alj (by decide)) RQ N aL kg eY dB d9 U
  .exact akO RQ N U
 .exact akL (λe=>by rw [RR,e] at RP;exact absurd RP (by decide)) (N.a (yi RR)) N U
theorem alk(h0:L≠[])(ag:L.length<=100){gY:Int}{dq:Nat}(Hu:kr .FloorDiv (.int X) (.int 4)=some (.int gY))(Hv:kr .Mod (.int gY) (.int 6)=some (bF dq))(oF:dq∈R6)(d:List Nat)(j:Nat)(r:List Nat)(J:am)(H:T)(h:LoopI L X C dq d (j::r) J H):
  WS (om G0 291 hs (sG (lawFn.bd.drop 15)) lawFor (bF j) J H) (f6 (LoopI L X C dq (d++[j]) r)):=by
 obtain⟨b,l,D,c,aQ,e,ap,U,N,ao⟩:=h
 rw[e]
 obtain⟨Y,EX⟩:=G9 h0 ag (1+C+j) (m:=289) (by decide) D c
 obtain⟨t,alm,aln⟩:=akC oF (Rr aQ).1 D c
 refine ka U λJ U=>cH U (bo (fn:=aE 159) (az (aM U (v:=.list (L.map .int)) (az (hU (eX (hU (eX (.og (v:=bF 1) (aM U (v:=bF C) ⟨_,vK 1 C,aM U (v:=bF j) ⟨_,vK (1+C) j,bj (.of EX ⟨cW U,λJ U=>?_⟩)⟩⟩))))))))))
 refine cH U (fy (lX (fy (.og (v:=Hc) (eX (hU (eX (aM U (v:=.int X) (.og (v:=.int 4) ⟨_,Hu,.og (v:=.int 6) ⟨_,Hv,t,alm,dt U (v:=bF j) ⟨_,aln,λJ U=>?_⟩⟩⟩)))))))))
 exact cH U (.og (v:=bV []) λJ U=>alh (Y:=Y) oF aQ ap N ao U.sub)
end
section
variable {L:List Int}{X:Int}{C:Nat}
def L0 (L:List Int):am:=[bE "nums" (.list (L.map .int)),bE "tab" .tab,bE "host" .host,bE "kinds" mZ,("book",fw,true)]
def RS (L:List Int) (X:Int) (C:Nat) (P:List V):am:=L0 L++([bE "shapes" (bV dP),bE "x" (.int X),bE "count" (bF C),("picks",.list P,true)]:am)
structure Picks (k:Nat) (a3:List (List Nat)):Prop where
 len:a3.length<=k
 one:∀r∈a3,∃q,q∈PSa/\r=[q]
theorem Picks.dF{k:Nat}{a3:List (List Nat)}(h:Picks k a3):∀r∈a3,Pts r:=λr aq=>by
 obtain⟨q,aO,e⟩:=h.one r aq
 exact e▸ .one (Hm aO)
theorem Picks.now{k:Nat}{a3:List (List Nat)}(h:Picks k a3){l:List Nat}(di:Pts l)(a7:eG (eb a3) l):Now true l:=s6 di h.dF a7 λ_ r aq k aj=>by
 obtain⟨q,aO,e⟩:=h.one r aq
 rw[e] at aj
 exact dG aj▸aO
theorem alo{k:Nat}(h:k<2):bF k=aH [k]/\k∈PSa:=by
 rcases k with _|_|k
 .exact⟨rfl,by decide⟩
 .exact⟨rfl,by decide⟩
 .exact absurd (oJ (oJ h)) (zS _)
theorem alp(h0:L≠[])(ag:L.length<=100){a3:List (List Nat)}(P:Picks 4 a3){D:List V}{c:Nat}(ap:c<=1000){J:am}(U:Has J (RS L X C (a3.map aH))):WS (bv G0 294 hs J (lawFn.bd.drop 13) (ar D c)) λbw _ O=>bw= .ret (.bool true)/\O.cnt<=ba:=by
 obtain⟨RT,RU⟩:=vJ X (b:=24) (by decide) (by decide)
 obtain⟨z7,aoe,alq⟩:=l5 RT (b:=10) (by decide)
 obtain⟨hb,alr,e2⟩:=l5 RT (b:=2) (by decide)
 refine bO (b6 (hU (eX (hU (eX (aM U (v:=.int X) (.og (v:=.int 24) ⟨_,RU,.og (v:=.int 10) ⟨_,alq,.og (v:=.int 7) ⟨_,rfl,?_⟩⟩⟩)))))))
 refine WS.mono (P:=f6 λbb O=>O=ar D c/\∃a3:List (List Nat),Picks 5 a3/\Has bb (RS L X C (a3.map aH))) ?_ ?_
 .rcases e0 7 (z7:Int) with _|_
  .exact bm ⟨rfl,rfl,a3,⟨tr P.len,P.one⟩,U⟩
  .obtain⟨e3,aw⟩:=alo alr
   refine sW U (l:=a3.map aH) (eX (hU (eX (aM U (v:=.int X) (.og (v:=.int 24) ⟨_,RU,.og (v:=.int 2) ⟨_,e2,by rw [i0 (aT P.len (by decide))];rfl,λJ U=>bm ⟨rfl,rfl,a3++[[hb]],⟨?_,?_⟩,?_⟩⟩⟩)))))
   .rw[d5];exact gr P.len
   .exact λr aq=>(List.mem_append.mp aq).elim (P.one r) λq=>⟨hb,aw,dG q⟩
   .rw[e3] at U
    rw[nj];exact U.sub
 rintro f J O ⟨rfl,rfl,a3,P,U⟩
 obtain⟨l,eO,eH,e,hr,di,a7⟩:=m3 P.dF (X:=.list (a3.map aH)) rfl (m:=291) (by decide) D c
 refine cH U (bo (fn:=aE 67) (az (aM U (v:=.tab) (az (jx U (v:=.list (a3.map aH)) (bj (.of e ⟨kS (a:=.tab) U.g (yw (d:=a3.map aH) U.g (y0 l) yx),λJ U=>?_⟩)))))))
 obtain⟨gY,Hu⟩:=vJ X (b:=4) (by decide) (by decide)
 obtain⟨dq,oF,Hv⟩:=l5 gY (b:=6) (by decide)
 have oF:=Rs oF
 refine il (.og (v:=J3.map bF) ?_)
 refine(vC (I:=LoopI L X C dq) (alk h0 ag Hu Hv oF) J3 [] _ _ ⟨true,l,eO,eH,rfl,rfl,aT (jC (aT hr (gr ap)) 60000) (by decide),U.sub,P.now di a7,λ_=>rfl⟩).mono ?_
 rintro f J O ⟨rfl,b,l,D,c,aQ,rfl,ap,U,N,_⟩
 refine ck (.og (v:=.bool true) ⟨rfl,?_⟩)
 show c<=ba
 rw[show ba=1048576 by rfl']
 exact aT ap (by decide)
theorem als(h0:L≠[])(ag:L.length<=100):WS (bv G0 300 hs (FM (L.map .int)) (lawFn.bd.drop 7) (ar [] 31)) λbw _ O=>bw= .ret (.bool true)/\O.cnt<=ba:=by
 refine so (.og (v:=.dict [(.int 2,.list [])]) ?_)
 refine il (.og (v:=kindsL.map λp=> .tup [.int p.1,hV p.2]) ?_)
 refine WS.of (f:=.next) (J:=akA (L.map .int)) (c:=31) (by rfl') λD=>?_
 refine cH (L:=L0 L) (Has.sub .rfl) (.og (v:=bV dP) λJ U=>?_)
 obtain⟨X,alt⟩:=G9 h0 ag 0 (m:=295) (by decide) D 31
 refine cH U (bo (fn:=aE 159) (az (aM U (v:=.list (L.map .int)) (az (.og (v:=bF 0) (bj (.of alt ⟨cW U,λJ U=>?_⟩)))))))
 obtain⟨k4,alu,alv⟩:=l5 X (b:=4) (by decide)
 refine cH U (eX (.og (v:=bF 1) (hU (eX (aM U (v:=.int X) (.og (v:=.int 4) ⟨_,alv,_,vK 1 k4,λJ U=>?_⟩))))))
 have jY:1+k4<=4:=aT (dW (jG ..)) alu
 generalize 1+k4=C at jY U
 refine yz U (d8 (akk (dt U (v:=bF C) ⟨C,rfl,aT jY (by decide),?_⟩)))
 refine sJ (R:=λi r=>∃q,q∈PSa/\r=[q]) (k:=0) (λi hi D c=>dc ⟨rfl,rfl⟩) (λi hi D c=>?_) D 31 λa3 fq eW l₁ fO=>?_
 .obtain⟨z,jq⟩:=G9 h0 ag (1+i) (m:=289) (by decide) D c
  obtain⟨k,t,q,gm,e1,e2,aO,_⟩:=Hl z (n:=24) (by decide) (by decide) D c
  have U:=U.push (x:="i") (s:=(bF i,false))
  exact sU (fy (aM U (v:=mZ) (eX (cw (bo (fn:=aE 159) (az (aM U (v:=.list (L.map .int)) (az (hU (eX (.og (v:=bF 1) (aM U (v:=bF i) ⟨_,vK 1 i,bj (.of jq ⟨cW U,.og (v:=.int 24) ⟨_,gm,t,e1,.og (v:=.int 0) ⟨_,e2,[q],D,c,rfl,rfl,cq _,q,aO,rfl⟩⟩⟩)⟩))))))))))))
 have oq:a3.length<=4:=aT (dW ((Paired.len fO).symm.trans List.length_range)) jY
 refine⟨by rw [yH];exact md (by rw [eQ];exact aT oq (by decide)),λJ U=>?_⟩
 exact alp (X:=X) (C:=C) h0 ag ⟨oq,λr aq=>(Paired.all fO r aq).elim λ_ h=>h.2⟩ (aT l₁ (by rw [Nat.zero_mul];decide)) U.sub
end
theorem RV(ns:List Int):mW ns≠[]/\(mW ns).length<=100:=by
 have h:((ns.take 16).map λk=>k.fmod 999983).length<=100:=by rw [eQ,zM];exact aT (zQ ..) (by decide)
 unfold mW
 generalize (ns.take 16).map (λk=>k.fmod 999983)=l at h |-
 rcases l with _|⟨a,r⟩
 .exact⟨(List.cons_ne_nil 11 []:([11]:List Int)≠[]),by decide⟩
 .exact⟨(List.cons_ne_nil a r:a::r≠[]),h⟩
theorem alw:(base1.all λr=>gw r&&V.key base1.length 4 r)=true:=by rfl'
theorem alx(ns:List Int):LawEv ns:=by
 obtain⟨f,lV,O,e,rfl,ap⟩:=als (RV ns).1 (RV ns).2
 refine⟨_,_,lV,O,afH _,rfl,λr aq=>aK (bl alw aq),?_,e,ap⟩
 show 31<=ba
 rw[show ba=1048576 by rfl']
 decide
end Mine
end
noncomputable section
open PySem PySem.W PyProof.Rows PySem.Calls
namespace Mine
def look (P:Params) (a:Addr):Option Obj:=match Nat.blt a 892 with
 |true=>((Hd.T21 P).get a).bind alive
 |false=>none
theorem qE{P:Params}{a:Addr}{o:Obj}(h:look P a=some o):(Hd.H1 P).get? a=some o:=by
 unfold look at h
 rcases e:Nat.blt a 892 with _|_<;>rw[e] at h
 .exact aI h
 .obtain⟨q,aa,ah⟩:=oQ (show ((Hd.T21 P).get a).bind alive=some o from h)
  exact(abs_get (fi e) aa).trans ah
noncomputable def s9 (f:Addr->Option Obj):List Addr->Frag
 |[]=>[]
 |a::r=>match f a with
  |some o=>(a,o)::s9 f r
  |none=>s9 f r
theorem Hw{f:Addr->Option Obj}{a:Addr}{o:Obj}:∀{l:List Addr},(s9 f l).lookup a=some o->f a=some o
 |[],h=>aI h
 |b::r,h=>by
  unfold s9 at h
  rcases e:f b with _|q<;>rw[e] at h
  .exact Hw h
  .change (match a==b with|true=>some q|false=>(s9 f r).lookup a)=some o at h
   rcases w:a==b with _|_<;>rw[w] at h
   .exact Hw h
   .rw[eq_of_beq w,e];exact h
noncomputable def qF:Value->Option Str
 | .str y _=>some y
 |_=>none
def tb (x:Str) (k:Value):Bool:=ci (qF k) λy=>a9 y x
def hW (x:Str):List DictEntry->Option Value
 |[]=>none
 |d::r=>cond (tb x d.key) (some d.val) (hW x r)
theorem aly(x:Str)(k:Value):k.isStr x=tb x k:=by
 unfold tb Value.isStr
 rcases k<;>first|rfl|exact(Cv ..).symm
theorem alz{es:Array DictEntry}{x:Str}:nsFind es x=hW x es.toList:=by
 unfold nsFind findBy
 rw[<-Array.find?_toList]
 generalize es.toList=l
 induction l with
 |nil=>rfl
 |cons e l bg=>
  show Option.map _ (List.find? _ (e::l))=cond (tb x e.key) _ _
  rw[tv,show (λn (v:Value)=>v.isStr n) x e.key=tb x e.key from aly x e.key]
  rcases tb x e.key with _|_
  .exact bg
  .rfl
noncomputable def RW:Data->Option (Array DictEntry×Nat)
 | .dict es ca=>some (es,ca)
 |_=>none
theorem alA{d:Data}{p:Array DictEntry×Nat}(h:RW d=some p):d= .dict p.1 p.2:=by
 rcases d<;>first|exact aI h|rw[<-Option.some.inj h]
def zg (o:Obj):Option (Array DictEntry×Nat):=RW o.data
theorem Hx{o:Obj}{p:Array DictEntry×Nat}(h:zg o=some p):o.data= .dict p.1 p.2:=alA h
def i2 (P:Params) (a:Addr):Array DictEntry:=match (look P a).bind zg with
 |some p=>p.1
 |none=> #[]
def alB (l:List DictEntry):Bool:=l.all λd=>(qF d.key).isSome
theorem zh{k:Value}{y:Str}(h:qF k=some y):∃t,k= .str y t:=by
 rcases k<;>first|exact aI h|exact⟨_,congrArg (Value.str · _) (Option.some.inj h)⟩
def RX (P:Params) (a:Addr):Bool:=((look P a).bind zg).isSome&&alB (i2 P a).toList
theorem alC{P:Params}{a:Addr}(h:RX P a=true):(Hd.H1 P).Ns a λx=>hW x (i2 P a).toList:=by
 obtain⟨aa,ah⟩:=aK h
 obtain⟨⟨es,ca⟩,e⟩:=Option.isSome_iff_exists.mp aa
 have e2:i2 P a=es:=by unfold i2;rw[e]
 obtain⟨o,e1,e3⟩:=oQ e
 rw[e2] at ah
 refine⟨o,es,ca,qE e1,Hx e3,λd iJ=>?_,λx=>by rw [alz,e2]⟩
 obtain⟨y,rO⟩:=Option.isSome_iff_exists.mp (List.all_eq_true.mp ah d (Array.mem_toList_iff.mpr iJ))
 exact⟨y,zh rO⟩
def qG:List Str->Bool
 |[]=>true
 |x::r=> !pd x r&&qG r
theorem memS_iff{x:Str}:∀{l:List Str},pd x l=true↔x∈l
 |[]=>⟨λh=>c2 h,λh=>nomatch h⟩
 |y::r=>by
  show (match a9 y x with|true=>true|false=>pd x r)=true↔_
  rw[qY]
  rcases e:a9 y x with _|_
  .exact⟨λh=> .inr (memS_iff.mp h),λh=>h.elim (λq=>by rw [q,sEq_iff.mpr rfl] at e;exact c2 e.symm) memS_iff.mpr⟩
  .exact⟨λ_=> .inl (sEq_iff.mp e).symm,λ_=>rfl⟩
theorem zi:∀{l:List Str},qG l=true->l.Nodup
 |[],_=>wa
 |x::r,h=>by
  obtain⟨aa,ah⟩:=aK (show (!pd x r&&qG r)=true from h)
  exact List.nodup_cons.mpr ⟨λq=>by rw [memS_iff.mpr q] at aa;exact c2 aa,zi ah⟩
def Hy (sc:Scope):List Str:=(cellsFrom 0 sc.names []).map (·.1)
def RY (x:Str) (gG:List Str):NameKind->Bool
 | .local=>true
 | .cell=>pd x gG
 | .globalImplicit=>true
 |_=>false
def RZ (gG:List Str) (p:Str×NameKind):Bool:=RY p.1 gG p.2&&(!a9 p.1 Cd&&(!a9 p.1 Ce&& !a9 p.1 dM))
noncomputable def R0:ScopeKind->Bool
 | .function=>true
 |_=>false
theorem alD:∀{k:ScopeKind},R0 k=true->k= .function
 | .function,_=>rfl
def R1 (sc:Scope):Bool:=R0 sc.kind&&(!sc.isCoroutine&&(!sc.isGenerator&&(qG (Hy sc)&&sc.names.all (RZ (Hy sc)))))
theorem zj{b:Bool}(h:(!b)=true):b=false:=(ki b).mp h
theorem Hz{x y:Str}(h:(!a9 x y)=true):x≠y:=λq=>by rw [sEq_iff.mpr q] at h;exact c2 h
theorem alE{x:Str}{gG:List Str}:∀{k:NameKind},RY x gG k=true->k= .local\/k= .cell\/k= .globalImplicit
 | .local,_=> .inl rfl
 | .cell,_=> .inr (.inl rfl)
 | .globalImplicit,_=> .inr (.inr rfl)
theorem alF{sc:Scope}(h:R1 sc=true):ScopeOk sc:=by
 obtain⟨aa,h⟩:=aK h
 obtain⟨ah,h⟩:=aK h
 obtain⟨aC,h⟩:=aK h
 obtain⟨bC,ee⟩:=aK h
 have key:∀x k,lk sc.names x=some k->RZ (Hy sc) (x,k)=true:=λx k e=>List.all_eq_true.mp ee _ (DT e)
 refine⟨alD aa,zj ah,zj aC,zi bC,λx e=>memS_iff.mp (aK (key x _ e)).1,λx k e=>?_⟩
 obtain⟨a,b⟩:=aK (key x k e)
 obtain⟨b,c⟩:=aK b
 obtain⟨c,d⟩:=aK c
 exact⟨alE a,Hz b,Hz c,Hz d⟩
noncomputable def R2:Data->Option FuncData
 | .func b4=>some b4
 |_=>none
theorem alG{d:Data}{b4:FuncData}(h:R2 d=some b4):d= .func b4:=by
 rcases d<;>first|exact aI h|rw[Option.some.inj h]
def zk (o:Obj):Option FuncData:=R2 o.data
theorem alH{o:Obj}{b4:FuncData}(h:zk o=some b4):o.data= .func b4:=alG h
noncomputable def tc:Value->Option Addr
 | .ref a=>some a
 |_=>none
theorem zl{v:Value}{a:Addr}(h:tc v=some a):v= .ref a:=by
 rcases v<;>first|exact aI h|rw[Option.some.inj h]
noncomputable def R3:Data->Option (Array Value)
 | .fields vs=>some vs
 |_=>none
theorem alI{d:Data}{vs:Array Value}(h:R3 d=some vs):d= .fields vs:=by
 rcases d<;>first|exact aI h|rw[Option.some.inj h]
noncomputable def HA:Data->Option (Array Value×Nat)
 | .seq vs n=>some (vs,n)
 |_=>none
theorem R4{d:Data}{p:Array Value×Nat}(h:HA d=some p):d= .seq p.1 p.2:=by
 rcases d<;>first|exact aI h|rw[<-Option.some.inj h]
def R5 (P:Params) (b4:FuncData):Bool:=ci (tc b4.code) λc=>ci (look P c) λo=>ci (R3 o.data) λvs=>ci (vs[1]? :Option Value) λk=>ci (qF k) λq=>a9 q b4.qualname
theorem alJ{P:Params}{b4:FuncData}(h:R5 P b4=true):(Hd.H1 P).CodeRec b4.code b4.qualname:=by
 obtain⟨c,e1,h⟩:=dX h
 obtain⟨o,e2,h⟩:=dX h
 obtain⟨vs,e3,h⟩:=dX h
 obtain⟨k,eN,h⟩:=dX h
 obtain⟨q,kF,h⟩:=dX h
 obtain⟨t,qj⟩:=zh kF
 exact⟨c,o,vs,t,zl e1,qE e2,alI e3,by rw [eN,qj,sEq_iff.mp h]⟩
noncomputable def td:Value->Option Int
 | .int i _=>some i
 |_=>none
theorem HB{v:Value}{i:Int}(h:td v=some i):∃t,v= .int i t:=by
 rcases v<;>first|exact aI h|exact⟨_,congrArg (Value.int · _) (Option.some.inj h)⟩
def zm:List V->List Value->Bool
 |[],r=>r.isEmpty
 |u::l,r=>match r with
  |[]=>false
  |v::r=>(ci (td v) λi=>ci (ja u) λj=>cN i j)&&zm l r
theorem R7{look:bA}:∀{l:List V}{vs:List Value},zm l vs=true->∃ds,RdL look vs ds/\∀H,bX H l=some ds
 |[],r,h=>by
  rcases r with _|_
  .exact⟨[],.nil,λ_=>rfl⟩
  .exact c2 h
 |u::l,r,h=>by
  rcases r with _|⟨v,r⟩
  .exact c2 h
  obtain⟨aa,ah⟩:=aK (show ((ci (td v) λi=>ci (ja u) λj=>cN i j)&&zm l r)=true from h)
  obtain⟨i,e1,aa⟩:=dX aa
  obtain⟨j,e2,aa⟩:=dX aa
  obtain⟨t,e1⟩:=HB e1
  obtain⟨ds,a,b⟩:=R7 (look:=look) ah
  rw[e1,lp e2,iEq_iff.mp aa]
  exact⟨.int j::ds,.cons (.int j t) a,λH=>h9 rfl (b H)⟩
noncomputable def zn:Value->Bool
 | .none=>true
 |_=>false
theorem R8{v:Value}(h:zn v=true):v= .none:=by
 rcases v<;>first|exact c2 h|rfl
def R9 (P:Params) (d:Value) (l:List V):Bool:=ci (tc d) λt=>ci (look P t) λo=>ci (HA o.data) λp=>zm l p.1.toList
def HC (P:Params) (d:Value) (l:List V):Bool:=cond (zn d) l.isEmpty (R9 P d l)
theorem alK{P:Params}{d:Value}{l:List V}(h:HC P d l=true):FnDfl (Hd.H1 P) d l:=by
 unfold HC at h
 rcases e:zn d with _|_<;>rw[e] at h
 .obtain⟨t,e1,h⟩:=dX (show R9 P d l=true from h)
  obtain⟨o,e2,h⟩:=dX h
  obtain⟨p,e3,h⟩:=dX h
  obtain⟨ds,a,b⟩:=R7 (look:=(Hd.H1 P).get?) h
  exact .yes t o p.1 p.2 ds (zl e1) (qE e2) (R4 e3) a b
 .exact .no (R8 e) (List.isEmpty_iff.mp h)
noncomputable def alL (a:Arguments):Bool:=a.posonlyargs.isEmpty&&(a.kwonlyargs.isEmpty&&(a.vararg.isNone&&a.kwarg.isNone))
noncomputable def Sa:Option NameKind->Bool
 |some .local|some .cell=>true
 |_=>false
theorem alM:∀{o:Option NameKind},Sa o=true->o=some .local\/o=some .cell
 |some .local,_=> .inl rfl
 |some .cell,_=> .inr rfl
def alN (ps:List Str) (sc:Scope):Bool:=qG ps&&ps.all λx=>Sa (lk sc.names x)
abbrev qH:=Stmt×Addr×List V
def alO (P:Params) (p:qH) (b4:FuncData):Bool:=R5 P b4&&(HC P b4.defaults p.2.2&&(alL (mh p.1)&&(R1 (nl p.1)&&(alN ((mh p.1).args.map (·.arg)) (nl p.1)&&Nat.ble p.2.2.length ((mh p.1).args.map (·.arg)).length))))
def Sb (P:Params) (K:Frag) (p:qH):Bool:=keepIn K (.ref p.2.1)&&ci ((look P p.2.1).bind zk) (alO P p)
theorem alP:∀(s:Stmt)(d:List V),q0 s=Fn.bd ⟨s,d⟩/\nl s=Fn.sc ⟨s,d⟩/\(mh s).args.map (·.arg)=Fn.ps ⟨s,d⟩:=λs d=>by rcases s<;>exact⟨rfl,rfl,rfl⟩
noncomputable def Sc (b4:FuncData):=(b4.body,b4.scope,b4.params,b4.globals,b4.closure,b4.builtins)
def Sd (s:Stmt):=(FuncBody.stmts (q0 s),nl s,mh s,mainGlobals,([]:List (Str×Addr)),builtinsNs)
theorem alQ{P:Params}{K:Frag}{p:qH}(h:Sb P K p=true)(e:(od (look P p.2.1) λo=>od (zk o) λb4=>some (Sc b4))=some (Sd p.1)):FnOk (Hd.H1 P) K ⟨p.1,p.2.2⟩ (.ref p.2.1):=by
 obtain⟨aj,h⟩:=aK h
 obtain⟨o,e1,e2⟩:=bD e
 obtain⟨b4,e3,eN⟩:=bD e2
 obtain⟨aof,kF,h⟩:=dX h
 rw[e1,Option.bind_some,e3] at kF
 rw[<-Option.some.inj kF] at h
 have eN:=Option.some.inj eN
 have b:=λ{α:Type} (f:_->α)=>congrArg f eN
 have hg:b4.body= .stmts (q0 p.1):=b (·.1)
 have gV:b4.scope=nl p.1:=b (·.2.1)
 have hj:b4.params=mh p.1:=b (·.2.2.1)
 obtain⟨eT,h⟩:=aK h
 obtain⟨cP,h⟩:=aK h
 obtain⟨jj,h⟩:=aK h
 obtain⟨mG,h⟩:=aK h
 obtain⟨kE,pM⟩:=aK h
 obtain⟨d1,jj⟩:=aK jj
 obtain⟨d2,jj⟩:=aK jj
 obtain⟨d3,d4⟩:=aK jj
 obtain⟨fH,gC,f3⟩:=alP p.1 p.2.2
 rw[f3] at kE pM
 rw[gC] at mG kE
 obtain⟨kE,DL⟩:=aK kE
 rw[<-hj] at d1 d2 d3 d4
 exact⟨⟨p.2.1,o,b4,rfl,aj,qE e1,alH e3,hg.trans (congrArg _ fH),gV.trans gC,b (·.2.2.2.1),b (·.2.2.2.2.1),b (·.2.2.2.2.2),alJ eT,List.isEmpty_iff.mp d1,List.isEmpty_iff.mp d2,Option.isNone_iff_eq_none.mp d3,Option.isNone_iff_eq_none.mp d4,hj▸f3,alK cP⟩,alF mG,zi kE,λx hx=>alM (List.all_eq_true.mp DL x hx),fi pM⟩
noncomputable def Tr.i4 {α:Type}:Tr α->List (Str×α)
 | .lf=>[]
 | .nd l _ x v r=>l.i4++(x,v)::r.i4
theorem Tr.get_mem{α:Type}{n:Nat}{x:Str}{v:α}:∀{t:Tr α},t.get n x=some v->(x,v)∈t.i4
 | .nd l k y u r,h=>by
  show (x,v)∈l.i4++(y,u)::r.i4
  rw[zP,qY]
  revert h
  unfold Tr.get
  rcases Nat.beq n k with _|_
  .rcases Nat.ble n k with _|_
   .exact λh=> .inr (.inr (Tr.get_mem h))
   .exact λh=> .inl (Tr.get_mem h)
  .intro h
   rcases e:a9 y x with _|_<;>rw[e] at h
   .exact aI h
   .exact .inr (.inl (by rw [<-sEq_iff.mp e,<-Option.some.inj h]))
noncomputable def fz:Addr:=140
noncomputable def hX:Addr:=161
noncomputable def iz:Addr:=634
def FL:List qH:=fnT.i4.map (λp=>(aA p.2.i,p.2.a,p.2.dfl))++(meL.map (λp=>(c5 p.2.1 p.2.2.1,p.2.2.2,[]))++[(c5 54 2,137,[]),(aA 59,195,[.int (-1),.int (-1)]),(aA 60,202,[]),(c5 55 0,158,[]),(c5 54 0,123,[]),(c5 115 0,610,[])])
def alR:List Addr:=[140,139,161,160,634,633,592,591]++FL.map (·.2.1)
def K0 (P:Params):Frag:=s9 (look P) alR
theorem HD(P:Params):(K0 P).In (Hd.H1 P):=λ_ _ h=>qE (Hw h)
theorem alS(P:Params):(FL.all (Sb P (K0 P)))=true:=by rfl'
theorem alT(P:Params):(FL.map λp=>od (look P p.2.1) λo=>od (zk o) λb4=>some (Sc b4))=FL.map λp=>some (Sd p.1):=by rfl'
theorem zo(P:Params){p:qH}(h:p∈FL):FnOk (Hd.H1 P) (K0 P) ⟨p.1,p.2.2⟩ (.ref p.2.1):=alQ (bl (alS P) h) (bJ (alT P) h)
noncomputable def Se:Value->Option String
 | .type s=>some s
 |_=>none
theorem alU{v:Value}{s:String}(h:Se v=some s):v= .type s:=by
 rcases v<;>first|exact aI h|rw[Option.some.inj h]
def zp (n:String) (c:Value):Bool:=ci (Se c) λs=>s==n
theorem HE{n:String}{c:Value}(h:zp n c=true):c= .type n:=by
 obtain⟨s,e,h⟩:=dX h
 rw[alU e,eq_of_beq h]
noncomputable def HF {α:Type}:Option α->Bool
 |none=>true
 |some _=>false
theorem Sf{α:Type}:∀{o:Option α},HF o=true->o=none
 |none,_=>rfl
noncomputable def HG:Value->Option Bool
 | .bool b=>some b
 |_=>none
theorem alV{v:Value}{b:Bool}(h:HG v=some b):v= .bool b:=by
 rcases v<;>first|exact aI h|rw[Option.some.inj h]
def vP (f:bA) (v:Value) (p:Obj->Bool) (k:List Value->Bool):Bool:=ci (tc v) λa=>ci (f a) λo=>ci (HA o.data) λq=>p o&&k q.1.toList
def Sg (o:Obj):Bool:=zp "tuple" o.cls
def HH (o:Obj):Bool:=zp "list" o.cls&&(HF o.dict&&o.slots.toList.isEmpty)
mutual
noncomputable def qI (f:bA):V->Value->Bool
 | .none,v=>zn v
 | .bool a,v=>ci (HG v) λb=>a==b
 | .int i,v=>ci (td v) λj=>cN i j
 | .str s,v=>ci (qF v) λx=>a9 s x&&oY s.cps.toList
 | .tup l,v=>vP f v Sg (qJ f l)
 | .list l,v=>vP f v HH (qJ f l)
 |_,_=>false
noncomputable def qJ (f:bA):List V->List Value->Bool
 |[],l=>l.isEmpty
 |u::r,l=>match l with
  |[]=>false
  |v::s=>qI f u v&&qJ f r s
end
theorem Sh{α:Type}{a:Array α}(h:a.toList.isEmpty=true):a= #[]:=Array.toList_inj.mp (List.isEmpty_iff.mp h)
inductive SqAt (f:bA) (v:Value) (p:Obj->Bool) (k:List Value->Bool):Prop
 |mk (a:Addr) (o:Obj) (vs:Array Value) (n:Nat) (e:v= .ref a) (h:f a=some o) (d:o.data= .seq vs n) (aS:p o=true) (aj:k vs.toList=true)
theorem Si{f:bA}{v:Value}{p:Obj->Bool}{k:List Value->Bool}(h:vP f v p k=true):SqAt f v p k:=by
 obtain⟨a,e1,h⟩:=dX h
 obtain⟨o,e2,h⟩:=dX h
 obtain⟨q,e3,h⟩:=dX h
 exact⟨a,o,q.1,q.2,zl e1,e2,R4 e3,(aK h).1,(aK h).2⟩
theorem alW{o:Obj}{vs:Array Value}{n:Nat}(aQ:o.data= .seq vs n)(h:HH o=true):o=listOf vs n:=by
 obtain⟨aa,h⟩:=aK h
 obtain⟨ah,aC⟩:=aK h
 obtain⟨c,d,eM,sl⟩:=o
 rw[show c=_ from HE aa,show d=_ from Sf ah,show sl=_ from Sh aC,show eM=_ from aQ]
inductive RdTo (f:bA) (u:V) (v:Value):Prop
 |mk (d:PyData) (c:∀H,bI H u=some d) (r:Rd f v d)
inductive RdTos (f:bA) (l:List V) (vs:List Value):Prop
 |mk (ds:List PyData) (c:∀H,bX H l=some ds) (r:RdL f vs ds)
mutual
theorem HI{f:bA}:∀{u:V}{v:Value},qI f u v=true->RdTo f u v
 | .none,v,h=>⟨_,λ_=>rfl,(R8 h)▸ .none⟩
 | .bool a,v,h=>by
  obtain⟨b,e,h⟩:=dX (show ci (HG v) (λb=>a==b)=true from h)
  rw[alV e,eq_of_beq h]
  exact⟨_,λ_=>rfl,.bool _⟩
 | .int i,v,h=>by
  obtain⟨j,e,h⟩:=dX (show ci (td v) (λj=>cN i j)=true from h)
  obtain⟨t,e⟩:=HB e
  rw[e,iEq_iff.mp h]
  exact⟨_,λ_=>rfl,.int _ _⟩
 | .str s,v,h=>by
  obtain⟨x,e,h⟩:=dX (show ci (qF v) (λx=>a9 s x&&oY s.cps.toList)=true from h)
  obtain⟨t,e⟩:=zh e
  obtain⟨aa,ah⟩:=aK h
  rw[e,<-sEq_iff.mp aa]
  exact⟨.str s,λH=>Do (Dn ah),.str _ _⟩
 | .tup l,v,h=>by
  obtain⟨a,o,vs,n,e,e2,aQ,aS,aj⟩:=Si (show vP f v Sg (qJ f l)=true from h)
  obtain⟨ds,aa,ah⟩:=HJ aj
  rw[e]
  exact⟨.tuple ds,λH=>by show od (bX H l) _=_;rw[aa H];rfl,.tup e2 (HE aS) aQ ah⟩
 | .list l,v,h=>by
  obtain⟨a,o,vs,n,e,e2,aQ,aS,aj⟩:=Si (show vP f v HH (qJ f l)=true from h)
  obtain⟨ds,aa,ah⟩:=HJ aj
  rw[e]
  exact⟨.list ds,λH=>by show od (bX H l) _=_;rw[aa H];rfl,.list (e2.trans (congrArg some (alW aQ aS))) ah⟩
 | .dict _,_,h=>c2 h
 | .ty _,_,h=>c2 h
 | .tab,_,h=>c2 h
 | .host,_,h=>c2 h
 | .decl _,_,h=>c2 h
theorem HJ{f:bA}:∀{l:List V}{vs:List Value},qJ f l vs=true->RdTos f l vs
 |[],vs,h=>by
  rw[List.isEmpty_iff.mp (show vs.isEmpty=true from h)]
  exact⟨[],λ_=>rfl,.nil⟩
 |u::r,vs,h=>by
  rcases vs with _|⟨v,s⟩
  .exact c2 h
  obtain⟨aa,ah⟩:=aK (show (qI f u v&&qJ f r s)=true from h)
  obtain⟨d,a,b⟩:=HI aa
  obtain⟨ds,c,e⟩:=HJ ah
  exact⟨d::ds,λH=>h9 (a H) (c H),.cons b e⟩
end
def vQ (p:V×V):Int:=(ja p.1).getD 0
def vR (p:V×V):Str:=(wr p.1).getD default
def HK (p:V×V) (k:Value):Bool:=ci (td k) λj=>ci (ja p.1) λi=>cN i j
def HL (p:V×V) (k:Value):Bool:=ci (qF k) λy=>ci (wr p.1) λx=>a9 x y&&oY x.cps.toList
def qK (ks:V×V->Value->Bool) (f:bA):List (V×V)->List DictEntry->Bool
 |[],l=>l.isEmpty
 |p::r,l=>match l with
  |[]=>false
  |d::s=>ks p d.key&&(qI f p.2 d.val&&qK ks f r s)
def vS:List Int->Bool
 |[]=>true
 |x::r=> !(r.any λy=>cN y x)&&vS r
theorem Sj:∀{l:List Int},vS l=true->l.Nodup
 |[],_=>wa
 |x::r,h=>by
  obtain⟨aa,ah⟩:=aK (show (!(r.any λy=>cN y x)&&vS r)=true from h)
  exact List.nodup_cons.mpr ⟨λq=>Bool.noConfusion ((zj aa).symm.trans (List.any_eq_true.mpr ⟨x,q,iEq_iff.mpr rfl⟩)),Sj ah⟩
section
variable {α:Type} [DecidableEq α] {prog:Program}{w:World}
inductive DkTo (κ:PySem.KeyKind prog w α) (c7:α->PyData) (dE:V×V->α) (f:bA) (l:List (V×V)) (es:List DictEntry):Prop
 |mk (aW:List (α×Value)) (a:aW.map (·.1)=l.map dE) (b:Pairs κ es aW) (c:∀H,Kvs c7 H f l aW) (d:∀e∈es,∃k,κ.is k e.key=true/\e.hash=κ.hash k)
theorem HM{κ:PySem.KeyKind prog w α}{c7:α->PyData}{dE:V×V->α}{ks:V×V->Value->Bool}(U:∀p k,ks p k=true->κ.is (dE p) k=true/\∀H,bI H p.1=some (c7 (dE p))){f:bA}:∀{l:List (V×V)}{es:List DictEntry},qK ks f l es=true->(es.map (·.hash))=l.map (λp=>κ.hash (dE p))->DkTo κ c7 dE f l es
 |[],es,h,_=>by
  rw[List.isEmpty_iff.mp (show es.isEmpty=true from h)]
  exact⟨[],rfl,.nil,λ_=> .nil,λ_ h=>nomatch h⟩
 |p::l,es,h,hh=>by
  rcases es with _|⟨e,s⟩
  .exact c2 h
  obtain⟨aa,h⟩:=aK (show (ks p e.key&&(qI f p.2 e.val&&qK ks f l s))=true from h)
  obtain⟨ah,aC⟩:=aK h
  rw[km,km] at hh
  obtain⟨bU,bZ⟩:=List.cons.inj hh
  obtain⟨aW,a,b,c,d⟩:=HM U aC bZ
  obtain⟨dv,e1,e2⟩:=HI ah
  obtain⟨aj,ap⟩:=U p _ aa
  exact⟨(dE p,e.val)::aW,congrArg (dE p:: ·) a,.cons aj rfl b,λH=> .cons (ap H) (e1 H) e2 (c H),λz bi=>(List.mem_cons.mp bi).elim (λq=>by rw [q];exact⟨_,aj,bU⟩) (d z)⟩
theorem alX(p:V×V)(k:Value)(h:HK p k=true):(intKind prog w).is (vQ p) k=true/\∀H,bI H p.1=some (.int (vQ p)):=by
 obtain⟨j,e1,h⟩:=dX h
 obtain⟨i,e2,h⟩:=dX h
 obtain⟨t,e1⟩:=HB e1
 unfold vQ
 rw[e2,e1,lp e2,iEq_iff.mp h]
 exact⟨beq_self_eq_true j,λ_=>rfl⟩
theorem alY(p:V×V)(k:Value)(h:HL p k=true):(strKind prog w).is (vR p) k=true/\∀H,bI H p.1=some (.str (vR p)):=by
 obtain⟨y,e1,h⟩:=dX h
 obtain⟨x,e2,h⟩:=dX h
 obtain⟨aa,ah⟩:=aK h
 obtain⟨t,e1⟩:=zh e1
 unfold vR
 rw[e2,e1,Kb e2,<-sEq_iff.mp aa]
 exact⟨beq_self_eq_true x,λ_=>Do (Dn ah)⟩
end
def Sk (o:Obj):Bool:=zp "dict" o.cls&&(HF o.dict&&o.slots.toList.isEmpty)
theorem Sl{o:Obj}(h:Sk o=true):o.ExactDict:=by
 obtain⟨aa,h⟩:=aK h
 obtain⟨ah,aC⟩:=aK h
 exact⟨HE aa,Sf ah,Sh aC⟩
def HN:List (V×V)->Bool
 |[]=>false
 |p::_=>isInt p.1
def oG (P:Params):List DictEntry:=(i2 P 3).toList
def Sm (f:bA) (l:List (V×V)) (es:List DictEntry):Bool:=cond (HN l) (qK HK f l es&&vS (l.map vQ)) (qK HL f l es&&qG (l.map vR))
def Sn (f:bA) (l:List (V×V)) (v:Value):Bool:=ci (tc v) λa=> !(a==sysModules)&&ci (f a) λo=>Sk o&&ci (zg o) λq=>Sm f l q.1.toList
def So (P:Params) (u:V) (v:Value):Bool:=match oX u with
 |some l=>Sn (look P) l v
 |none=>qI (look P) u v
def alZ (P:Params) (p:Str×V):Bool:=ci (hW p.1 (oG P)) (So P p.2)
def HO (P:Params) (v:Value):List Int:=match tc v with
 |some a=>(i2 P a).toList.map (·.hash)
 |none=>[]
def Sp (P:Params) (p:Str×V):List Int:=match oX p.2 with
 |some _=>(match hW p.1 (oG P) with|some v=>HO P v|none=>[])
 |none=>[]
def zq (w:World) (l:List (V×V)):List Int:=cond (HN l) (l.map λp=>hashInt (vQ p)) (l.map λp=>hashStr w (vR p))
def Sq (w:World) (p:Str×V):List Int:=match oX p.2 with
 |some l=>zq w l
 |none=>[]
theorem am0(P:Params):(vaT.i4.all (alZ P))=true:=by rfl'
theorem am1(w:World):(vaT.i4.map (Sp w.params))=vaT.i4.map (Sq w):=by rfl'
theorem Sr(P:Params):(fnT.i4.map λp=>hW p.1 (oG P))=fnT.i4.map λp=>some (.ref p.2.a):=by rfl'
theorem am2(P:Params):(freeL.map λx=>(hW x (oG P),hW x (i2 P 0).toList))=freeL.map λx=>(none,some (nS x)):=by rfl'
theorem am3(P:Params):([0,2,3].all λa=>RX P a)=true:=by rfl'
theorem am4(P:Params):hW "sys.recursionlimit" (i2 P 2).toList=none:=by rfl'
def Ss (x:Str):Bool:=a9 x "force"||(a9 x "bound"||(a9 x "shape"||a9 x "list_prop"))
theorem am5(P:Params):(meL.all λp=>lz (K0 P) iz p.2.2.2 p.1&&Ss p.1)=true:=by rfl'
theorem am6(P:Params):([(fz,h6),(fz,jc),(fz,kt),(fz,ku),(fz,"defaults"),(fz,"names"),(iz,cF),(hX,fT),(hX,lc)].all λp=>iN (K0 P) p.1 p.2)=true:=by rfl'
section
def aog:=an "__init__"
theorem am7(P:Params):lz (K0 P) fz 137 h7=true:=by rfl'
theorem HP(P:Params):([202,195,hX,fz,iz].all λa=>keepIn (K0 P) (.ref a))=true:=by rfl'
theorem HQ(P:Params):([hX,fz,iz].all λa=>makesIn (K0 P) a)=true:=by rfl'
theorem HR(P:Params):([(hX,158),(fz,123),(iz,610)].map λp=>findIn (K0 P) (.ref p.1) "__init__")=[(hX,158),(fz,123),(iz,610)].map λp=>some (some (.ref p.2)):=by rfl'
theorem HS(P:Params):([158,123,610].all λa=>isFn (K0 P) (.ref a))=true:=by rfl'
theorem am8(P:Params):((declL.map (·.1)).all λa=>hp (K0 P) hX a)=true:=by rfl'
theorem am9(P:Params):((tabL.map (·.1)).all λa=>hp (K0 P) fz a)=true:=by rfl'
theorem ama(P:Params):((hostL.map (·.1)).all λa=>hp (K0 P) iz a)=true:=by rfl'
theorem amb(P:Params):hp (K0 P) hX fT=true:=by rfl'
def mgL:List (Str×Addr):=[("TypeTable",fz),("RefHost",iz),(ss,hX),(tV,202),(tW,195)]
theorem amc(P:Params):(mgL.map λp=>hW p.1 (oG P))=mgL.map λp=>some (.ref p.2):=by rfl'
theorem amd(P:Params):(hW FC (oG P)).isSome=true:=by rfl'
theorem ame(P:Params):(look P sysModules).isSome=true:=by rfl'
theorem HT:G0.free dy=true:=by rfl'
theorem amf:G0.val oi=some (.int 10):=by rfl'
theorem Su(P:Params):hW dy (oG P)=none/\hW dy (i2 P 0).toList=some (.builtin "len"):=⟨by rfl',by rfl'⟩
def nc (w:World):Str->Option Value:=λx=>hW x (oG w.params)
def HU (w:World):Str->Option Value:=λx=>hW x (i2 w.params 0).toList
variable {prog:Program}{w:World}
theorem vT{p:Str×Addr}(h:p∈mgL):nc w p.1=some (.ref p.2):=bJ (amc w.params) h
theorem qL{a:Addr}(h:a∈[0,2,3]):(Hd.H1 w.params).Ns a λx=>hW x (i2 w.params a).toList:=alC (bl (am3 w.params) h)
theorem HV:(Hd.H1 w.params).NoLimit:=⟨_,qL (a:=2) (by decide),am4 w.params⟩
theorem amg{H:T}{g:Gh}{v:Value}{u:V}{f:bA}(up:∀a o,f a=some o->g.im a=some o)(h:qI f u v=true):Val prog w H g g.im v u:=by
 obtain⟨d,aa,ah⟩:=HI h
 exact .g8 (aa H) (ah.mono up)
theorem amh{H:T}{g:Gh}{v:Value}{l:List (V×V)}(up:∀a o,look w.params a=some o->g.im a=some o)(h:Sn (look w.params) l v=true)(hh:HO w.params v=zq w l):Val prog w H g g.im v (.dict l):=by
 obtain⟨a,e1,h⟩:=dX h
 obtain⟨av,h⟩:=aK h
 obtain⟨o,d8,h⟩:=dX h
 obtain⟨hx,h⟩:=aK h
 obtain⟨q,eq,h⟩:=dX h
 have ami:i2 w.params a=q.1:=by unfold i2;rw[d8,Option.bind_some,eq]
 unfold HO at hh
 rw[e1] at hh
 replace hh:(i2 w.params a).toList.map (·.hash)=zq w l:=hh
 rw[ami] at hh
 unfold zq at hh
 unfold Sm at h
 refine⟨a,o,zl e1,up _ _ d8,zj av,?_⟩
 rcases ig:HN l with _|_<;>rw[ig] at h hh
 .obtain⟨aa,ah⟩:=aK (show (qK HL _ _ _&&qG _)=true from h)
  obtain⟨aW,en,er,e4,ij⟩:=HM (κ:=strKind prog w) alY aa hh
  exact .str aW ⟨q.1,q.2,Sl hx,Hx eq,λe cL=>ij e (Array.mem_toList_iff.mpr cL),er,by rw [en];exact zi ah⟩ ((e4 H).mono (T.bP.refl H) up)
 .obtain⟨aa,ah⟩:=aK (show (qK HK _ _ _&&vS _)=true from h)
  obtain⟨aW,en,er,e4,ij⟩:=HM (κ:=intKind prog w) alX aa hh
  exact .int aW ⟨q.1,q.2,Sl hx,Hx eq,λe cL=>ij e (Array.mem_toList_iff.mpr cL),er,by rw [en];exact Sj ah⟩ ((e4 H).mono (T.bP.refl H) up)
theorem Sv{x:Str}{f:Fn}:∀{l:List (Str×Nat×Nat×Nat)},wH x l=some f->∃p∈l,p.1=x/\f=⟨c5 p.2.1 p.2.2.1,[]⟩
 |(y,i,j,a)::r,h=>by
  revert h
  show (match a9 y x with|true=>some (⟨c5 i j,[]⟩:Fn)|false=>wH x r)=some f->_
  rcases e:a9 y x with _|_
  .intro h
   obtain⟨p,aS,e⟩:=Sv h
   exact⟨p,.tail _ aS,e⟩
  .exact λh=>⟨_,dV ..,sEq_iff.mp e,(Option.some.inj h).symm⟩
theorem Sw{x:Str}{e:FnE}(h:(x,e)∈fnT.i4):(aA e.i,e.a,e.dfl)∈FL:=List.mem_append.mpr (.inl (List.mem_map.mpr ⟨(x,e),h,rfl⟩))
theorem amj{p:Str×Nat×Nat×Nat}(h:p∈meL):(c5 p.2.1 p.2.2.1,p.2.2.2,[])∈FL:=List.mem_append.mpr (.inr (List.mem_append.mpr (.inl (List.mem_map.mpr ⟨p,h,rfl⟩))))
def amk:List qH:=[(c5 54 2,137,[]),(aA 59,195,[.int (-1),.int (-1)]),(aA 60,202,[]),(c5 55 0,158,[]),(c5 54 0,123,[]),(c5 115 0,610,[])]
theorem te{p:qH}(h:p∈amk):FnOk (Hd.H1 w.params) (K0 w.params) ⟨p.1,p.2.2⟩ (.ref p.2.1):=zo w.params (List.mem_append.mpr (.inr (List.mem_append.mpr (.inr h))))
theorem Sx:FnOk (Hd.H1 w.params) (K0 w.params) fnPut (.ref 137):=te (p:=(c5 54 2,137,[])) (.head _)
theorem aml:FnOk (Hd.H1 w.params) (K0 w.params) fnNP (.ref 195):=te (p:=(aA 59,195,[.int (-1),.int (-1)])) (.tail _ (.head _))
theorem amm:FnOk (Hd.H1 w.params) (K0 w.params) fnND (.ref 202):=te (p:=(aA 60,202,[])) (.tail _ (.tail _ (.head _)))
theorem amn:FnOk (Hd.H1 w.params) (K0 w.params) fnDI (.ref 158):=te (p:=(c5 55 0,158,[])) (.tail _ (.tail _ (.tail _ (.head _))))
theorem amo:FnOk (Hd.H1 w.params) (K0 w.params) fnTI (.ref 123):=te (p:=(c5 54 0,123,[])) (.tail _ (.tail _ (.tail _ (.tail _ (.head _)))))
theorem amp:FnOk (Hd.H1 w.params) (K0 w.params) fnHI (.ref 610):=te (p:=(c5 115 0,610,[])) (.tail _ (.tail _ (.tail _ (.tail _ (.tail _ (.head _))))))
abbrev HW (w:World) (ta:Ta):Prop:=TaOf (Hd.H1 w.params) fz iz hX ta
def amq:List (Addr×Str):=[(fz,h6),(fz,jc),(fz,kt),(fz,ku),(fz,"defaults"),(fz,"names"),(iz,cF),(hX,fT),(hX,lc)]
theorem nf{i:Nat}{p:Addr×Str}(h:amq[i]? =some p):iN (K0 w.params) p.1 p.2=true:=bl (am6 w.params) (oK h)
theorem amr{ta:Ta}(t:HW w ta):Tp ta (K0 w.params):=by
 obtain⟨h0,tf,jY,Sy⟩:=t
 refine⟨by rw [h0];exact HD _,?_,?_,?_,?_,?_,?_,?_,?_,?_⟩
 .rw[tf];exact nf (i:=0) rfl
 .rw[tf];exact nf (i:=1) rfl
 .rw[tf];exact nf (i:=2) rfl
 .rw[tf];exact nf (i:=3) rfl
 .rw[tf];exact nf (i:=4) rfl
 .rw[tf];exact nf (i:=5) rfl
 .rw[jY];exact nf (i:=6) rfl
 .rw[Sy];exact nf (i:=7) rfl
 .rw[Sy];exact nf (i:=8) rfl
theorem ams{x:Str}{u:V}(e:G0.val x=some u):∃v,nc w x=some v/\∀H g,(∀a o,look w.params a=some o->g.im a=some o)->Val prog w H g g.im v u:=by
 have m:=Tr.get_mem (t:=vaT) e
 have hh:=bJ (am1 w) m
 obtain⟨v,Sz,al⟩:=dX (bl (am0 w.params) m)
 refine⟨v,Sz,λH g up=>?_⟩
 unfold Sp Sq at hh
 unfold So at al
 rw[Sz] at hh
 rcases xP:oX u with _|l<;>rw[xP] at al hh
 .exact amg up al
 .rw[Cw xP]
  exact amh up al hh
theorem amt{m:Str}(h:Ss m=true):m="force"\/m="bound"\/m="shape"\/m="list_prop":=by
 have o:=λ{a b:Bool} (h:(a||b)=true)=>(f9 a b).mp h
 exact(o h).imp sEq_iff.mp λh=>(o h).imp sEq_iff.mp λh=>(o h).imp sEq_iff.mp sEq_iff.mp
theorem SA{ta:Ta}(t:HW w ta):Bk prog w G0 ta (K0 w.params) (nc w) (HU w):=by
 have h0:=t.h0
 refine⟨amr t,by rw [h0];exact qL (a:=3) (by decide),by rw [h0];exact qL (a:=0) (by decide),by rw [h0];exact HV,λx u e=>?_,λx f e=>?_,λm f e=>?_,λx e=>?_⟩
 .obtain⟨v,e1,k⟩:=ams (prog:=prog) (w:=w) e
  exact⟨v,e1,λH g _ ao=>k H g λa o e=>ao a o (by rw [h0];exact qE e)⟩
 .obtain⟨dE,e1,e2⟩:=nk e
  have m:=Tr.get_mem (t:=fnT) e1
  rw[<-e2,h0]
  exact⟨_,bJ (Sr w.params) m,zo w.params (Sw m)⟩
 .obtain⟨p,aS,e1,e2⟩:=Sv (l:=meL) e
  obtain⟨a,b⟩:=aK (bl (am5 w.params) aS)
  rw[<-e1,e2,h0,t.h]
  exact⟨amt b,p.2.2.2,a,zo w.params (amj aS)⟩
 .have q:=bJ (am2 w.params) (memS_iff.mp e)
  exact⟨congrArg (·.1) q,congrArg (·.2) q⟩
theorem HX{A:Around}{n:Nat}(R:Room A n):A.depth+2<recursionLimit/\A.units+200<cLine:=
 ⟨me (Nat.add_lt_add_right (hZ (eZ ..) R.depth) 2) (by decide),hZ (aT (dh (by decide) _) (jC (eZ ..) 400)) R.units⟩
theorem amu{ta:Ta}(t:HW w ta):Prm prog w ta (K0 w.params) (nc w):=by
 have B:Bk prog w G0 ta (K0 w.params) (nc w) (HU w):=SA t
 have fL:=λ{a:Addr} (h:a∈[202,195,hX,fz,iz])=>bl (HP w.params) h
 have dx:lz (K0 w.params) ta.gN 137 h7=true:=by rw [t.t];exact am7 _
 have h0:=t.h0
 refine⟨⟨137,dx,λH row v O h ag A n g s nW Q E R T C al ak=>?_⟩,⟨.ref 202,vT (p:=(tV,202)) (.tail _ (.tail _ (.tail _ (.head _)))),fL (.head _),λH i x ao A n g s el ep Q E R T C qc Fp ak=>?_⟩,
  ⟨.ref 195,vT (p:=(tW,195)) (.tail _ (.tail _ (.tail _ (.tail _ (.head _))))),fL (.tail _ (.head _)),λH x v O ao h ag A n g s ep Q E R T C al ak=>?_⟩⟩
 .obtain⟨ge,gf⟩:=HX R
  exact NW B HT (h0▸Sx) h ag (qR (qR ge)) (hZ (dh (by decide) _) gf) T C al ak
 .refine aee B HT (t.d▸vT (p:=(ss,hX)) (.tail _ (.tail _ (.head _)))) (t.d▸fL (.tail _ (.tail _ (.head _)))) (t.d▸bl (HQ w.params) (.head _)) (fI:=158) (t.d▸bJ (HR w.params) (x:=(hX,158)) (.head _)) (bl (HS w.params) (.head _)) (h0▸amn) (λa aw=>t.d▸bl (am8 w.params) aw) (h0▸amm) ao (HX R).1 T C qc Fp ak
 .obtain⟨ge,gf⟩:=HX R
  exact adn B HT amf dx (h0▸Sx) (h0▸aml) ao h ag (qR ge) gf T C al ak
theorem amv:Tops prog w (Hd.H1 w.params) (K0 w.params) (nc w) (HU w) fz iz hX:=by
 have i:=bJ (HR w.params) (x:=(fz,123)) (.tail _ (.head _))
 refine⟨λ_=>SA,λ_=>amu,amb _,?_,bl (HP w.params) (.tail _ (.tail _ (.tail _ (.head _)))),vT (p:=("TypeTable",fz)) (.head _),aeL HV (HD _) (qL (a:=3) (by decide)) (bl (HQ w.params) (.tail _ (.head _))) ⟨123,i,bl (HS w.params) (.tail _ (.head _)),amo⟩ λa aw=>bl (am9 w.params) aw⟩
 obtain⟨o,e⟩:=Option.isSome_iff_exists.mp (ame w.params)
 exact⟨o,qE e⟩
theorem amw:HostOk (Hd.H1 w.params) (K0 w.params) (nc w) iz:=by
 have i:=bJ (HR w.params) (x:=(iz,610)) (.tail _ (.tail _ (.head _)))
 exact⟨bl (HP w.params) (.tail _ (.tail _ (.tail _ (.tail _ (.head _))))),vT (p:=("RefHost",iz)) (.tail _ (.head _)),
  aeX HV (HD _) (qL (a:=3) (by decide)) (bl (HQ w.params) (.tail _ (.tail _ (.head _)))) ⟨610,i,bl (HS w.params) (.tail _ (.tail _ (.head _))),amp⟩ (λa aw=>bl (ama w.params) aw) (Option.isSome_iff_exists.mp (amd w.params))⟩
end
theorem amx{h:Heap}{a:Addr}{m jl:Str->Option Value}(aa:h.Ns a m)(ah:h.Ns a jl):m=jl:=by
 obtain⟨o,es,ca,en,er,_,e4⟩:=aa
 obtain⟨b9,dN,aac,hg,gV,_,hj⟩:=ah
 rw[<-Option.some.inj (en.symm.trans hg),er] at gV
 injection gV with gV
 rw[<-gV] at hj
 funext x
 rw[<-e4,<-hj]
theorem amy{x:WData}(h:WShape.has [] x .int=true):∃n:Int,x= .int n:=by
 rcases x<;>first|exact⟨_,rfl⟩|exact c2 h
theorem SD:∀{a4:List WData},WShape.hasItems [] a4 .int=true->∃ns:List Int,a4=ns.map .int
 |[],_=>⟨[],rfl⟩
 |x::a4,h=>by
  obtain⟨aa,ah⟩:=aK (show (WShape.has [] x .int&&WShape.hasItems [] a4 .int)=true from h)
  obtain⟨n,e⟩:=amy aa
  obtain⟨ns,bq⟩:=SD ah
  exact⟨n::ns,by rw [e,bq];rfl⟩
theorem amz{x:WData}(h:WShape.has [] x (.list .int)=true):∃ns:List Int,x= .list (ns.map .int):=by
 rcases x
 case list a4=>
  obtain⟨ns,e⟩:=SD ((zY _).symm.trans (show (WShape.hasItems [] a4 .int||false)=true from h))
  exact⟨ns,by rw [e]⟩
 all_goals exact c2 h
theorem SE{cl:Str->Option Addr}{h:Heap}:∀{ns:List Int}{vs:List Value}{as:List Addr},ReadsAllW [] cl h vs (ns.map .int) as->IntsAre vs ns
 |[],_,_,r=>(readsAllW_nil_inv r).1▸ .nil
 |n::ns,_,_,r=>by
  obtain⟨v,vs,as,bs,e,_,a,b⟩:=readsAllW_cons_inv r
  obtain⟨t,bq,_⟩:=readsW_int_inv a
  rw[e,bq]
  exact .cons n t (SE b)
theorem amA{ns:List Int}(h:WTm.holds [] PySem.Challenge.rw_pc0112_01.pre {args:=[.list (ns.map .int)]}=true):ns.length<=63:=by
 rcases oP 63 ns.length with q|q
 .have e:decide (((63:Nat):Int)<(((ns.map WData.int).length:Nat):Int))=true:=decide_eq_true (by rw [eQ];exact Int.ofNat_lt.mpr q)
  have k:WTm.holds [] PySem.Challenge.rw_pc0112_01.pre {args:=[.list (ns.map .int)]}=WTm.holds [] (.and (.not (.lit (.bool (decide (((63:Nat):Int)<(((ns.map WData.int).length:Nat):Int)))))) (.lit (.bool true))) {args:=[]}:=rfl
  rw[k,e] at h
  exact c2 h
 .exact q
theorem amB{args:List WData}(h:Hd.lawRow.toRowW.claim.pre args=true):∃ns:List Int,args=[.list (ns.map .int)]/\ns.length<=63:=by
 obtain⟨aa,ah⟩:=aK (show (WShape.hasAll [] args [.list .int]&&WTm.holds [] (PySem.Challenge.rw_pc0112_01.pre) {args:=args})=true from h)
 rcases args with _|⟨x,r⟩
 .exact c2 aa
 obtain⟨aa,aC⟩:=aK (show (WShape.has [] x (.list .int)&&WShape.hasAll [] r [])=true from aa)
 obtain⟨ns,e⟩:=amz aa
 rcases r with _|⟨y,r⟩
 .rw[e] at ah
  exact⟨ns,by rw [e],amA ah⟩
 .exact c2 aC
def vU:=an "law"
theorem amC{w:World}:FnOk (Hd.H1 w.params) (K0 w.params) lawFn (.ref 891):=by
 have m:(vU,(⟨165,891,[]⟩:FnE))∈fnT.i4:=Tr.get_mem (n:=wG vU) (by rfl')
 exact zo w.params (Sw m)
theorem amD{w:World}:nc w vU=some (.ref 891):=by
 have m:(vU,(⟨165,891,[]⟩:FnE))∈fnT.i4:=Tr.get_mem (n:=wG vU) (by rfl')
 exact bJ (Sr w.params) m
theorem amE:WalkO Hd.qv Hd.loose0 Hd.XP0 Hd.YP0 Hd.lawRow.toRowW Hd.d0 [] (λf vs=>call f vs):=by
 intro w aoh c1 bp mb G Y a o mi cd doc cY aoi aw aQ ap ux SF amF args b2 as amG aoj hm aok has
 obtain⟨ns,e,aX⟩:=amB amG
 have em:=amx G.T.g ((qL (a:=3) (by decide)).keeps Y:c1.heap.Ns mainGlobals (nc w))
 have fM:a=891:=by
  rw[em] at SF
  injection Option.some.inj (SF.symm.trans (amD (w:=w)))
 rw[e] at hm
 obtain⟨v,vs,aol,bs,e1,_,ge,gf⟩:=readsAllW_cons_inv hm
 obtain⟨l,aU,_,e2,eJ,qa,_⟩:=readsW_list_inv ge
 rw[fM,e1,(readsAllW_nil_inv gf).1,e2]
 refine afv amv amw amC (qL (a:=0) (by decide)) (Su w.params).1 (Su w.params).2 rfl (by decide) (by decide) Y (vs:=aU.toList) eJ (SE qa) aX (alx ns) λh' dC k=>?_
 exact GoodW.toG ⟨.inl ⟨.bool true,.bool true,[],rfl,λ_=>rfl,.bool true,by rfl',λ_=>⟨wa,λ_ h=>nomatch h⟩⟩,k,rfl,amF⟩
theorem holds:PySem.Challenge.rw_pc0112_01.Holds:=Hd.holds0 amE
end Mine
end
theorem PySem.Challenge.cw_pc0112_01_holds : PySem.Challenge.rw_pc0112_01.Holds :=
 Mine.holds
