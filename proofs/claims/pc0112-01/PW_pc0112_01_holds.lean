import PyProof.Rows.All
import Wide.All
import OpenK.AllK
import Wide.FinOn
import Lean
import PySem.Challenge.RW_pc0112_01
set_option Elab.async false
local macro_rules | `(tactic| rfl') => `(tactic| kernel_rfl)
set_option genInjectivity false
set_option maxRecDepth 100000
set_option maxHeartbeats 400000
noncomputable section
open PySem PySem.W PyProof.Rows
set_option maxHeartbeats 0
namespace Mine
abbrev aT:=@Nat.le_trans
abbrev c0:=@Nat.exists_eq_add_of_le'
abbrev fh:=@PySem.W.Fast.te14364793385576792824
abbrev dh:=@Nat.add_le_add_left
abbrev fB:=@PySem.W.Fast.te10110043849684766642
abbrev fC:=@PySem.W.Fast.te12563942051412417395
abbrev c6:=@Bool.and_eq_true
abbrev cq:=@Nat.le_refl
abbrev ey:=@PySem.Heap.get?_push_of_some
abbrev dV:=@List.mem_cons_self
abbrev cG:=@Nat.le_succ
abbrev d5:=@List.length_append
abbrev ez:=@PySem.Heap.get?_push_size
abbrev eh:=@List.append_nil
abbrev eZ:=@Nat.le_add_right
abbrev dW:=@Nat.le_of_eq
abbrev eQ:=@List.length_map
abbrev eR:=@Decidable.em
abbrev gr:=@Nat.succ_le_succ
abbrev f9:=@Bool.or_eq_true
abbrev ha:=@List.lookup_cons
abbrev hZ:=@Nat.lt_of_le_of_lt
abbrev jC:=@Nat.add_le_add_right
abbrev jD:=@List.mem_append_left
abbrev iA:=@List.append_assoc
abbrev gs:=@PySem.Heap.lt_size
abbrev mc:=@List.getElem?_append_left
abbrev gP:=@Nat.ne_of_lt
abbrev nh:=@List.getElem?_append_right
abbrev i5:=@Bool.eq_iff_iff
abbrev h1:=@List.any_cons
abbrev md:=@Nat.ble_eq_true_of_le
abbrev ki:=@Bool.not_eq_true'
abbrev kj:=@List.not_mem_nil
abbrev kk:=@List.length_cons
abbrev oI:=@List.getElem?_eq_getElem
abbrev me:=@Nat.lt_of_lt_of_le
abbrev jE:=@Nat.add_assoc
abbrev i6:=@List.all_map
abbrev iB:=@Nat.zero_le
abbrev kl:=@PySem.Heap.size_push
abbrev oJ:=@Nat.lt_of_succ_lt_succ
abbrev jF:=@Nat.beq_refl
abbrev jG:=@Nat.add_comm
abbrev jH:=@Nat.le_of_lt
abbrev km:=@List.map_cons
abbrev oK:=@List.mem_of_getElem?
abbrev ni:=@List.getElem?_map
abbrev oL:=@Nat.mul_le_mul_left
abbrev tk:=@List.exists_mem_of_ne_nil
abbrev nj:=@List.map_append
abbrev qO:=@Bool.or_eq_false_iff
abbrev oM:=@Array.toList_push
abbrev tl:=@Nat.add_sub_cancel_left
abbrev mf:=@Nat.zero_add
abbrev qP:=@Nat.add_right_comm
abbrev oN:=@List.forIn_cons
abbrev qQ:=@List.size_toArray
abbrev qR:=@Nat.lt_succ_of_lt
abbrev qS:=@Nat.lt_of_succ_lt
abbrev qT:=@Nat.succ_ne_self
abbrev qU:=@List.filter_cons
abbrev qV:=@Nat.lt_succ_self
abbrev qW:=@Nat.zero_testBit
abbrev tm:=@List.mem_map_of_mem
abbrev tn:=@Array.length_toList
abbrev oO:=@List.all_cons
abbrev tr:=@List.zip_cons_cons
abbrev ts:=@Nat.add_sub_cancel
abbrev qX:=@Nat.testBit_and
abbrev tt:=@Nat.le_succ_of_le
abbrev oP:=@Nat.lt_or_ge
abbrev v2:=@Bool.beq_eq_decide_eq
abbrev v3:=@PySem.Heap.get?_update_self
abbrev v4:=@List.take_append_drop
abbrev v5:=@List.length_filter_le
abbrev tu:=@List.cons_append
abbrev tv:=@List.any_eq_true
abbrev qY:=@Nat.lt_irrefl
abbrev qZ:=@List.mem_cons
abbrev tw:=@Nat.le_antisymm
abbrev tx:=@List.find?_cons
abbrev tz:=@Nat.le_add_left
abbrev tA:=@List.nil_append
abbrev mg:=@Eq.trans
abbrev zC:=@PySem.F.args_tuple_add_2
abbrev v6:=@PySem.Heap.IsSliceOf.new
abbrev zD:=@PySem.F.entry_tuple_add
abbrev zE:=@Nat.exists_eq_add_of_le
abbrev zF:=@Nat.le_of_succ_le_succ
abbrev zG:=@PySem.F.slot_tuple_add
abbrev zH:=@List.length_take_of_le
abbrev tB:=@Bool.false_or
abbrev v7:=@Bool.not_eq_true
abbrev v8:=@List.length_drop
abbrev zI:=@List.mem_append_right
abbrev zJ:=@PySem.F.slot_dict_get
abbrev zK:=@Nat.not_succ_le_zero
abbrev v9:=@List.foldl_cons
abbrev tC:=@Classical.em
abbrev zM:=@Array.toList_append
abbrev wa:=@Int.negSucc_eq
abbrev wb:=@Nat.add_le_add
abbrev wc:=@List.nodup_nil
abbrev zN:=@List.mem_singleton
abbrev zO:=@Int.natCast_nonneg
abbrev wd:=@List.take_nil
abbrev Ig:=@PyProof.Rows.getItem_tuple
abbrev Ih:=@List.mem_of_find?_eq_some
abbrev Ii:=@List.drop_eq_getElem_cons
abbrev zP:=@List.length_take
abbrev zQ:=@List.getElem_mem
abbrev we:=@List.map_map
abbrev zR:=@List.drop_length
abbrev Ij:=@PySem.F.slot_list_extend
abbrev wg:=@Nat.sub_self
abbrev Ik:=@PySem.F.args_dict_get_3
abbrev Il:=@PySem.F.plainAttrs_list
abbrev zS:=@List.mem_append
abbrev zT:=@Nat.min_le_left
abbrev zU:=@List.zip_append
abbrev zV:=@Nat.not_lt_zero
abbrev zW:=@List.length_nil
abbrev Im:=@PySem.F.entry_dict_get
abbrev zX:=@List.drop_left
abbrev zY:=@List.forIn_nil
abbrev Io:=@Nat.le_of_sub_eq_zero
abbrev Ip:=@List.getElem?_toArray
abbrev q0:=@Iff.rfl
abbrev zZ:=@Nat.testBit_or
abbrev wh:=@PySem.Walks.list
abbrev Iq:=@Nat.sub_succ_lt_self
abbrev z0:=@Bool.and_true
abbrev z1:=@Bool.or_false
abbrev Ir:=@Nat.add_left_cancel
abbrev It:=@List.length_take_le
abbrev z2:=@Nat.mul_succ
abbrev z3:=@Nat.lt_trans
abbrev z4:=@Bool.true_or
noncomputable def an(s:String):Str:=s
abbrev cI:=Value->Shared->Prop
theorem oQ{α bR:Type}{x:Option α}{f:α->Option bR}{b:bR}(h:x.bind f=some b):∃a,x=some a/\f a=some b:=Option.bind_eq_some_iff.mp h
theorem nk{α bR:Type}{x:Option α}{f:α->bR}{b:bR}(h:x.map f=some b):∃a,x=some a/\f a=b:=Option.map_eq_some_iff.mp h
theorem ei{a b:Nat}(h:Nat.beq a b=true):a=b:=Nat.eq_of_beq_eq_true h
theorem fi{a b:Nat}(h:Nat.ble a b=true):a<=b:=Nat.le_of_ble_eq_true h
theorem dG{α:Type}{a b:α}(h:a∈[b]):a=b:=List.mem_singleton.mp h
abbrev pw:Program:=PySem.Challenge.pw_pc0112_01
noncomputable def z5:Stmt:=.Pass ⟨0,0,0,0⟩
def aA(i:Nat):Stmt:=pw.main.body.getD i z5
def c5(i j:Nat):Stmt:=match aA i with| .ClassDef _ _ _ b _ _ _ _ _ _ _=>b.getD j z5|_=>z5
noncomputable def mh:Stmt->Arguments| .FunctionDef _ a _ _ _ _ _ _ _ _=>a|_=>⟨[],[],none,[],[],none,[]⟩
noncomputable def q1:Stmt->List Stmt| .FunctionDef _ _ b _ _ _ _ _ _ _=>b|_=>[]
noncomputable def nl:Stmt->Scope| .FunctionDef _ _ _ _ _ _ s _ _ _=>s|_=>default
end Mine
end
noncomputable section
open PySem PySem.W PyProof.Rows
set_option maxHeartbeats 0
namespace Mine.Hd
theorem oR{a b:Bool}(h:a=true)(k:b=true):(a&&b)=true:=by rw [h,k];rfl
theorem SR:PySem.Challenge.rw_pc0112_01.wellSaid=true:=by
 rw[PySem.W.Fast.te9446332074065402090]
 unfold Fast.tw9446332074065402090 Fast.tw17960256430627541270 Fast.tw2436336058641802641 Fast.tw12908688711261696721
 repeat' (with_reducible apply oR)
 all_goals decide+kernel
abbrev q2 (p:Program) (g) (l:List Stmt):=TablesWhole.wSs TablesWhole.holds p.main.scope ⟨p.main.scope,[],g,[],none⟩ p.main.scope l
abbrev Iu (p:Program):=TablesWhole.wSs TablesWhole.gather p.main.scope ⟨p.main.scope,[],[],[],none⟩ p.main.scope p.main.body
theorem wi{p g}(k:Nat):∀(l:List Stmt),q2 p g (l.take k)=true->q2 p g (l.drop k)=true->q2 p g l=true:=by
 induction k with
 |zero=>exact λl _ h=>h
 |succ k bb=>exact λl h h'=>match l,h,h' with
  |[],h,_=>h
  |_::r,h,h'=>oR (Bool.and_eq_true_iff.mp h).1 (bb r (Bool.and_eq_true_iff.mp h).2 h')
theorem SS{p:Program}(k:Nat)(a:Iu p=[])(n:TablesWhole.noTwice p.main.scope=true)(x:p.modules=[])(y:p.parses=[])(z:p.harvested=[])(h:q2 p [] (p.main.body.take k)=true)(h':q2 p [] (p.main.body.drop k)=true):p.tablesWhole=true:=by
 unfold Program.tablesWhole TablesWhole.wProgram
 rw[x,y,z]
 exact oR (oR n (oR (a.symm▸wi k _ h h':q2 p (Iu p) p.main.body=true) rfl)) rfl
theorem SU:PySem.Challenge.rw_pc0112_01.row.prog.tablesWhole=true:=by
 refine SS 100 ?_ ?_ rfl rfl rfl ?_ ?_<;>decide+kernel
noncomputable def gt:Obj:=⟨.type "tuple",none,.seq #[] 0,#[]⟩
noncomputable def z6:Obj:=⟨.none,none,.fields #[],#[]⟩
noncomputable def c9(l:List Value):Obj:=⟨.type "tuple",none,.seq l.toArray 0,#[]⟩
noncomputable def fY(l:List DictEntry)(n:Nat):Obj:=⟨.type "dict",none,.dict l.toArray n,#[]⟩
noncomputable def h2(l:List Value):Obj:=⟨.none,none,.fields l.toArray,#[]⟩
def Iw:=an "/claim/cut.py"
def k8(n:Str)(t1:Nat)(q:Str)(t2 z7:Nat)(l ac nn z8 bw:Int)(fr:Nat)(fn:Bool)(SV:Int)(di:Nat)(cg ch SW:Value)(id:Int)(SX:Nat):Obj:=
 ⟨.type "code",none,.fields #[.str n t1,.str q t2,.str Iw z7,.int l 0,.int ac 0,.int nn 0,.int z8 0,.int bw 0,.ref fr,.bool fn,.int SV 0,.ref di,.none,cg,ch,SW,.int id 0,.int l 0,.str Iw SX],#[]⟩
def Ix(s:Stmt)(n q:Str):Obj:=⟨.none,none,.func {name:=n,qualname:=q,params:=mh s,body:=.stmts (q1 s),scope:=nl s,globals:=builtinsNs,closure:=[],defaults:=.none,kwdefaults:=.none},#[]⟩
def Iy(s:Stmt)(n q:Str)(d mi c:Value):Obj:=⟨.type "function",none,.func {name:=n,qualname:=q,params:=mh s,body:=.stmts (q1 s),scope:=nl s,globals:=mainGlobals,closure:=[],defaults:=d,kwdefaults:=.none,pyModule:=mi,code:=c,builtins:=builtinsNs},#[]⟩
noncomputable def ay(P:Params)(k:Str)(t:Nat)(v:Value):DictEntry:=⟨PyData.keyHash P k,.str k t,v⟩
noncomputable def Iz:Nat->List Str->List Value
 |_,[]=>[]
 |t,k::r=> .str k t::Iz (t+1) r
def bL(s:Stmt)(n q:Str)(b t:Nat)(l ac bw:Int)(vs:List Str)(d mi:Value):List Obj:=
 [gt,z6,c9 (Iz (t+3) vs),gt,Ix s n q,k8 n t q (t+1) (t+2) l ac 0 0 bw b true 181 (b+1) (.ref (b+2)) (.ref (b+3)) (.ref (b+4)) (t+3+vs.length) (t+4+vs.length),Iy s n q d mi (.ref (b+5))]
def cJ(s:Stmt)(n q:Str)(b t:Nat)(l ac bw:Int)(d mi:Value):List Obj:=
 [gt,z6,Ix s n q,k8 n t q (t+1) (t+2) l ac 0 0 bw b true 181 (b+1) .none .none (.ref (b+2)) (t+3) (t+4),Iy s n q d mi (.ref (b+3))]
noncomputable def z9:List Obj->List Obj
 |a::_::r=>a::z9 r
 |[a]=>[a]
 |[]=>[]
@[irreducible] def fj:Nat->List Obj->BT
 |n+1,x::r=> .node x (fj n (z9 r)) (fj n (z9 r.tail))
 |_,_=> .nil
noncomputable def e9:List Obj->Nat->List (Nat×Obj)->List Obj
 |x::r,i,p::ps=>match Nat.beq i p.1 with
  |true=>p.2::e9 r (i+1) ps
  |false=>x::e9 r (i+1) (p::ps)
 |l,_,_=>l
def ej:Env:={scope:=pw.main.scope,locals:=mainNs,globals:=mainNs,cells:=[],code:=.ref 13,frame:=some 14}
def bd:List Stmt:=behindTheImports pw
def cm:Code:=.body bd ej
noncomputable def dK:Option Value:=some (.ref 6)
noncomputable def dp:Pos:=⟨0,0,0,0⟩
def IA:=an "<module>"
def i7:=an "__main__"
def hb:=an "type.__subclasses__.Exception.0"
def k3:=an "type.__subclasses__.Exception.n"
def k4:=an "__name__"
def iC:=an "kindkeep.diags"
def dq:=an "__doc__"
def SY:=an "__package__"
def S0:=an "__loader__"
def S1:=an "__spec__"
def Aa:=an "__annotations__"
def S2:=an "__builtins__"
def S3:=an "__file__"
def q3:=an "/claim/cut.py"
def Ab:=an "__cached__"
def Ac:=an "_wall"
def hw:=an "KeepError"
def S4:=an "k"
def iD:=an "__module__"
def oS:=an "__qualname__"
def iE:=an "__firstlineno__"
def fZ:=an "__init__"
def iF:=an "__static_attributes__"
noncomputable def Ad:Str:=⟨#[]⟩
def e6:=an "self"
def oT:=an "text"
def S5:=an "KeepError.__init__"
def oU:=an "number"
def np:=an "__weakref__"
def nq:=an "TooDeep"
def q4:=an "TooDeep.__init__"
def dH:=an "kindkeep.types"
def nt:=an "HostFault"
def S6:=an "Y_KEY"
def S7:=an "Y_BOOL"
def S8:=an "Y_STR"
def S9:=an "Y_NUM"
def Tb:=an "Y_ENUM"
def Tc:=an "Y_UNION"
def Td:=an "Y_INTER"
def Te:=an "Y_OBJ"
def Tf:=an "Y_REF"
def Tg:=an "Y_PARAM"
def Th:=an "Y_ARRAY"
def Ti:=an "Y_TUPLE"
def wj:=an "Y_SIG"
def Tj:=an "Y_INDEX"
def Tl:=an "Y_COND"
def Tm:=an "HostFault.__init__"
def Tn:=an "Y_TPL"
def To:=an "Y_ALIAS"
def Tq:=an "ANY"
def Ts:=an "UNKNOWN"
def Tt:=an "NEVER"
def Tu:=an "VOID"
def Tv:=an "UNDEF"
def Tw:=an "NULLT"
def Tx:=an "STRING"
def Tz:=an "NUMBER"
def TA:=an "FALSE_T"
def TB:=an "TRUE_T"
def TC:=an "OBJECTT"
def TD:=an "EMPTY"
def TE:=an "BOOLEAN"
def TF:=an "ERR"
def TG:=an "FRESH_F"
def TH:=an "FRESH_T"
def TJ:=an "P_OPT"
def TK:=an "FAM_OTHER"
def TL:=an "FAM_STR"
def TM:=an "FAM_NUM"
def TN:=an "FAM_BOOL"
def TO:=an "FAM_NULL"
def TP:=an "FAM_UNDEF"
def TQ:=an "FAM_VOID"
def TR:=an "FAM_OBJ"
def TS:=an "MAX_UNION"
def TU:=an "FIRST_ROWS"
def TV:=an "LITERAL_ROWS"
def TW:=an "MARKED_ROWS"
def TX:=an "any"
def TY:=an "unknown"
def TZ:=an "never"
def T0:=an "void"
def wk:=an "undefined"
def T1:=an "null"
def Ae:=an "string"
def Af:=an "object"
def T2:=an "error"
def T3:=an "OBJECT_ROWS"
def T4:=an "KEY_FAMILIES"
def nu:=an "TypeTable"
def fS:=an "row"
def Ag:=an "put"
def T5:=an "TypeTable.__init__"
def cV:=an "t"
def T6:=an "TypeTable.row"
def T7:=an "TypeTable.put"
def T8:=an "bounds"
def T9:=an "decls"
def Ua:=an "defaults"
def Ub:=an "index"
def Uc:=an "names"
def Ud:=an "origins"
def Ue:=an "renamed"
def Uf:=an "rows"
def Ug:=an "shaping"
def q5:=an "__dict__"
def nv:=an "Decl"
def Ah:=an "kind_of"
def Ai:=an "str_type"
def Aj:=an "func_type"
def Al:=an "new_param"
def IB:=an "did"
def tD:=an "kind"
def oV:=an "name"
def Uh:=an "Decl.__init__"
def Ui:=an "abstract"
def Uj:=an "at"
def Uk:=an "bases"
def Ul:=an "body"
def Um:=an "busy"
def Un:=an "extends_class"
def Uo:=an "file"
def Up:=an "members"
def Uq:=an "nid"
def Ur:=an "params"
def Us:=an "static"
def Ut:=an "variances"
def dj:=an "tab"
def Uu:=an "fresh"
def IC:=an "sig"
def q6:=an "bound"
def Uv:=an "default"
def Uw:=an "pid"
def Am:=an "new_decl"
def An:=an "parts_of"
def Ao:=an "whole_of_row"
def Ap:=an "regular_twin"
def Aq:=an "join_bools"
def Ar:=an "stays_beside"
def As:=an "top_of"
def At:=an "union"
def Au:=an "add_undef"
def Av:=an "is_literal"
def Aw:=an "is_unit"
def Ax:=an "is_fresh"
def Ay:=an "regular_one"
def ID:=an "decl"
def Az:=an "got"
def eS:=an "kindkeep.typeops"
def AA:=an "common_family"
def AB:=an "meet_family"
def AC:=an "family"
def AD:=an "is_nullish_family"
def Ux:=an "MAX_DRAWN"
def Uy:=an "MEET_NEVER"
def Uz:=an "MEET_LEFT"
def UA:=an "MEET_RIGHT"
def UB:=an "MEET_BOTH"
def UC:=an "PRIMITIVE_NAMES"
def AE:=an "all_units"
def AF:=an "all_values"
def AG:=an "units_clash"
def AH:=an "flat_props"
def AI:=an "shapes_clash"
def AJ:=an "meet_nullish"
def IE:=an "parts"
def AK:=an "found"
def nw:=an "part"
def AL:=an "fam"
def IF:=an "whole"
def UD:=an "charAt"
def UE:=an "concat"
def UF:=an "includes"
def UG:=an "indexOf"
def UH:=an "length"
def UI:=an "slice"
def UJ:=an "toLowerCase"
def UK:=an "toString"
def UL:=an "toUpperCase"
def wl:=an "one"
def tE:=an "other"
def hy:=an "s"
def AM:=an "prop"
def q7:=an "fs"
def q8:=an "ft"
def AN:=an "meet_values"
def AO:=an "meet_objects"
def AP:=an "meet_case"
def AQ:=an "lay_on"
def AR:=an "members_of_meet"
def AS:=an "meet_parts"
def AT:=an "meet_two"
def AU:=an "inter"
def AV:=an "may_be_nullish"
def AW:=an "meet_may_be_nullish"
def AX:=an "not_nullish"
def AY:=an "remove_nullish"
def IG:=an "kept"
def wm:=an "out"
def UM:=an "held"
def UN:=an "case"
def UO:=an "met"
def wn:=an "deep"
def ed:=an "kindkeep.hosts"
def AZ:=an "literal_truth"
def A0:=an "truthy_of"
def A1:=an "truthy_part"
def A2:=an "typeops_all_props"
def A3:=an "loose_props"
def A4:=an "lets_primitive"
def A5:=an "falsy_of"
def A6:=an "falsy_part"
def UP:=an "MOST_ROUNDS"
def UR:=an "MOST_SHAPES"
def US:=an "PLAIN_ROWS"
def UT:=an "many"
def UU:=an "props"
def jI:=an "Thin"
def A7:=an "force"
def A8:=an "put_deferred"
def A9:=an "put_cond"
def Ba:=an "lay_row"
def q9:=an "fits"
def ra:=an "lies"
def Bb:=an "infers"
def Bc:=an "tpl_fits"
def Bd:=an "shape_fits"
def Be:=an "put_in"
def Bf:=an "own_sig"
def Bg:=an "list_prop"
def Bh:=an "list_index"
def UV:=an "Thin.__init__"
def UW:=an "Thin.force"
def UX:=an "Thin.put_deferred"
def Bi:=an "mapping"
def UY:=an "Thin.put_cond"
def UZ:=an "Thin.lay_row"
def U0:=an "Thin.bound"
def U1:=an "Thin.fits"
def U2:=an "Thin.lies"
def U3:=an "pids"
def U4:=an "check"
def U5:=an "ext"
def U6:=an "Thin.infers"
def U7:=an "Thin.tpl_fits"
def U8:=an "Thin.shape_fits"
def U9:=an "Thin.put_in"
def Va:=an "erased"
def Vb:=an "Thin.own_sig"
def Vc:=an "Thin.list_prop"
def Vd:=an "Thin.list_index"
def IH:=an "most_rounds"
def ny:=an "RefHost"
def Bj:=an "plain_shape"
def wo:=an "shape"
def Ve:=an "RefHost.__init__"
def Vf:=an "RefHost.shape"
def Vg:=an "RefHost.fits"
def Vh:=an "RefHost.lies"
def Vi:=an "turn"
def iG:=an "kindkeep.narrowplain"
def Bl:=an "find_prop"
def Bm:=an "prop_row"
def Bn:=an "calls_of"
def Bo:=an "ctors_of"
def nz:=an "host"
def Vj:=an "WHOLES"
def IJ:=an "boolean"
def Vk:=an "FAMILY_WORDS"
def i8:=an "kindkeep.narrow"
def Vl:=an "COERCED"
def Vm:=an "NULLISH"
def Bp:=an "plain_value"
def Bq:=an "plain_meets"
def Br:=an "is_nullish_kind"
def Bs:=an "sharpen"
def Bt:=an "narrow_plain_truthy"
def Bu:=an "nullish_side"
def Bv:=an "unknown_equal"
def Bw:=an "plain_equal_yes"
def Bx:=an "plain_equal_no"
def By:=an "narrow_plain_equal"
def Bz:=an "plain_typeof_part"
def Vn:=an "FREE_ROWS"
def tF:=an "strict"
def rb:=an "yes"
def Vo:=an "value"
def wp:=an "word"
def Vp:=an "told"
def jJ:=an "law_pc0112_01"
def Vq:=an "PRIMITIVES"
def BA:=an "narrow_is_primitive"
def BB:=an "all_primitive"
def BC:=an "is_loose"
def BD:=an "part_meets"
def BE:=an "shape_allows"
def BF:=an "object_words"
def BG:=an "narrow_truthy"
def BH:=an "typeof_part"
def BI:=an "typeof_free"
def BJ:=an "narrow_typeof"
def BK:=an "equal_part"
def BL:=an "narrow_equal"
def IK:=an "words"
def Vr:=an "_law_all"
def BM:=an "_law_word"
def BN:=an "_law_like"
def Vs:=an "_law_true"
def Vt:=an "_law_orders"
def BP:=an "_law_words"
def BQ:=an "_law_draw"
def BR:=an "_law_kinds"
def BS:=an "_law_holds"
def BU:=an "_law_same"
def BV:=an "_law_turned"
def BW:=an "_law_right"
def BX:=an "law"
def Vu:=an "nums"
def Vv:=an "i"
def Vw:=an "named"
def IL:=an "v"
def IM:=an "w"
def F0(P:Params):List DictEntry:=[ay P dq 166 .none,ay P SY 167 .none,ay P S0 168 (.builtin "__main__.__loader__#opaque"),ay P S1 169 .none,ay P Aa 170 (.ref 6),ay P S2 171 (.ref 4),ay P S3 173 (.str q3 172),ay P Ab 174 .none,ay P Ac 193 (.ref 21),ay P hw 226 (.ref 39),ay P nq 255 (.ref 60),ay P nt 282 (.ref 80),ay P S6 286 (.int 1 285),ay P S7 288 (.int 2 287),ay P S8 290 (.int 3 289),ay P S9 292 (.int 4 291),ay P Tb 294 (.int 5 293),ay P Tc 296 (.int 6 295),ay P Td 298 (.int 7 297),ay P Te 300 (.int 8 299),ay P Tf 302 (.int 9 301),ay P Tg 304 (.int 10 303),ay P Th 306 (.int 11 305),ay P Ti 308 (.int 12 307),ay P wj 310 (.int 13 309),ay P Tj 312 (.int 15 311),ay P Tl 314 (.int 16 313),ay P Tn 316 (.int 18 315),ay P To 318 (.int 19 317),ay P Tq 320 (.int 0 319),ay P Ts 322 (.int 1 321),ay P Tt 324 (.int 2 323),ay P Tu 326 (.int 3 325),ay P Tv 328 (.int 4 327),ay P Tw 330 (.int 5 329),ay P Tx 332 (.int 6 331),ay P Tz 334 (.int 7 333),ay P TA 336 (.int 8 335),ay P TB 338 (.int 9 337),ay P TC 340 (.int 10 339),ay P TD 342 (.int 11 341),ay P TE 344 (.int 12 343),ay P TF 346 (.int 13 345),ay P TG 348 (.int 14 347),ay P TH 350 (.int 15 349),ay P TJ 352 (.int 1 351),ay P TK 354 (.int 0 353),ay P TL 356 (.int 1 355),ay P TM 358 (.int 2 357),ay P TN 360 (.int 3 359),ay P TO 362 (.int 4 361),ay P TP 364 (.int 5 363),ay P TQ 366 (.int 6 365),ay P TR 368 (.int 7 367),ay P TS 370 (.int 400 369),ay P TU 392 (.ref 105),ay P TV 393 (.ref 106),ay P TW 394 (.ref 107),ay P T3 395 (.ref 108),ay P T4 402 (.ref 109),ay P nu 456 (.ref 140),ay P nv 501 (.ref 161),ay P Ah 509 (.ref 172),ay P Ai 519 (.ref 180),ay P Aj 527 (.ref 187),ay P Al 542 (.ref 195),ay P Am 552 (.ref 202),ay P An 561 (.ref 209),ay P Ao 569 (.ref 216),ay P Ap 578 (.ref 223),ay P Aq 585 (.ref 230),ay P Ar 594 (.ref 237),ay P As 602 (.ref 244),ay P At 608 (.ref 249),ay P Au 616 (.ref 256),ay P Av 624 (.ref 263),ay P Aw 632 (.ref 270),ay P Ax 641 (.ref 277),ay P Ay 649 (.ref 284),ay P AA 655 (.ref 289),ay P AB 666 (.ref 296),ay P AC 677 (.ref 303),ay P AD 684 (.ref 310),ay P Ux 688 (.int 200 687),ay P Uy 690 (.int 0 689),ay P Uz 692 (.int 1 691),ay P UA 694 (.int 2 693),ay P UB 696 (.int 3 695),ay P UC 706 (.ref 311),ay P AE 712 (.ref 316),ay P AF 718 (.ref 321),ay P AG 729 (.ref 328),ay P AH 739 (.ref 335),ay P AI 750 (.ref 342),ay P AJ 760 (.ref 349),ay P AN 771 (.ref 356),ay P AO 782 (.ref 363),ay P AP 793 (.ref 370),ay P AQ 806 (.ref 377),ay P AR 815 (.ref 384),ay P AS 821 (.ref 389),ay P AT 834 (.ref 396),ay P AU 844 (.ref 403),ay P AV 857 (.ref 411),ay P AW 863 (.ref 416),ay P AX 871 (.ref 423),ay P AY 877 (.ref 428),ay P AZ 884 (.ref 435),ay P A0 892 (.ref 442),ay P A1 898 (.ref 447),ay P A2 910 (.ref 454),ay P A3 916 (.ref 459),ay P A4 922 (.ref 464),ay P A5 931 (.ref 471),ay P A6 937 (.ref 476),ay P UP 941 (.int 200 940),ay P UR 943 (.int 40 942),ay P US 944 (.ref 477),ay P jI 1098 (.ref 592),ay P ny 1151 (.ref 634),ay P Bj 1161 (.ref 643),ay P Bl 1170 (.ref 650),ay P Bm 1180 (.ref 657),ay P Bn 1188 (.ref 664),ay P Bo 1196 (.ref 671),ay P Vj 1207 (.ref 672),ay P Vk 1222 (.ref 673),ay P Vl 1223 (.ref 674),ay P Vm 1224 (.ref 675),ay P Bp 1233 (.ref 682),ay P Bq 1247 (.ref 689),ay P Br 1253 (.ref 694),ay P Bs 1259 (.ref 699),ay P Bt 1268 (.ref 706),ay P Bu 1274 (.ref 711),ay P Bv 1280 (.ref 716),ay P Bw 1286 (.ref 721),ay P Bx 1298 (.ref 728),ay P By 1309 (.ref 735),ay P Bz 1320 (.ref 742),ay P Vn 1323 (.ref 743),ay P Vq 1324 (.ref 744),ay P BA 1332 (.ref 751),ay P BB 1338 (.ref 756),ay P BC 1344 (.ref 761),ay P BD 1356 (.ref 768),ay P BE 1366 (.ref 775),ay P BF 1376 (.ref 782),ay P BG 1385 (.ref 789),ay P BH 1397 (.ref 796),ay P BI 1409 (.ref 803),ay P BJ 1415 (.ref 808),ay P BK 1421 (.ref 813),ay P BL 1427 (.ref 818),ay P Vr 1444 (.ref 819),ay P BM 1450 (.ref 826),ay P BN 1456 (.ref 833),ay P Vs 1465 (.ref 834),ay P Vt 1484 (.ref 841),ay P BP 1490 (.ref 848),ay P BQ 1498 (.ref 855),ay P BR 1508 (.ref 862),ay P BS 1514 (.ref 867),ay P BU 1523 (.ref 874),ay P BV 1532 (.ref 881),ay P BW 1538 (.ref 886),ay P BX 1544 (.ref 891)]
noncomputable def F1:List Value:=[.int 0 0,.ref 20,.int 5 0,.int 0 0,.ref 27,.int 10 0,.int 0 0,.ref 48,.int 15 0,.int 0 0,.ref 68,.int 69 0,.int 0 0,.ref 115,.int 94 0,.int 0 0,.ref 150,.int 112 0,.int 0 0,.ref 171,.int 114 0,.int 0 0,.ref 179,.int 116 0,.int 0 0,.ref 186,.int 118 0,.int 0 0,.ref 194,.int 124 0,.int 0 0,.ref 201,.int 128 0,.int 0 0,.ref 208,.int 135 0,.int 0 0,.ref 215,.int 144 0,.int 0 0,.ref 222,.int 149 0,.int 0 0,.ref 229,.int 153 0,.int 0 0,.ref 236,.int 157 0,.int 0 0,.ref 243,.int 162 0,.int 0 0,.ref 248,.int 179 0,.int 0 0,.ref 255,.int 181 0,.int 0 0,.ref 262,.int 183 0,.int 0 0,.ref 269,.int 185 0,.int 0 0,.ref 276,.int 188 0,.int 0 0,.ref 283,.int 192 0,.int 0 0,.ref 288,.int 196 0,.int 0 0,.ref 295,.int 205 0,.int 0 0,.ref 302,.int 222 0,.int 0 0,.ref 309,.int 231 0,.int 0 0,.ref 315,.int 234 0,.int 0 0,.ref 320,.int 237 0,.int 0 0,.ref 327,.int 245 0,.int 0 0,.ref 334,.int 253 0,.int 0 0,.ref 341,.int 261 0,.int 0 0,.ref 348,.int 267 0,.int 0 0,.ref 355,.int 277 0,.int 0 0,.ref 362,.int 285 0,.int 0 0,.ref 369,.int 299 0,.int 0 0,.ref 376,.int 313 0,.int 0 0,.ref 383,.int 320 0,.int 0 0,.ref 388,.int 329 0,.int 0 0,.ref 395,.int 343 0,.int 0 0,.ref 402,.int 351 0,.int 0 0,.ref 410,.int 365 0,.int 0 0,.ref 415,.int 370 0,.int 0 0,.ref 422,.int 378 0,.int 0 0,.ref 427,.int 380 0,.int 0 0,.ref 434,.int 384 0,.int 0 0,.ref 441,.int 389 0,.int 0 0,.ref 446,.int 391 0,.int 0 0,.ref 453,.int 399 0,.int 0 0,.ref 458,.int 413 0,.int 0 0,.ref 463,.int 421 0,.int 0 0,.ref 470,.int 432 0,.int 0 0,.ref 475,.int 438 0,.int 0 0,.ref 483,.int 486 0,.int 0 0,.ref 602,.int 501 0,.int 0 0,.ref 642,.int 514 0,.int 0 0,.ref 649,.int 519 0,.int 0 0,.ref 656,.int 525 0,.int 0 0,.ref 663,.int 527 0,.int 0 0,.ref 670,.int 534 0,.int 0 0,.ref 681,.int 545 0,.int 0 0,.ref 688,.int 557 0,.int 0 0,.ref 693,.int 560 0,.int 0 0,.ref 698,.int 568 0,.int 0 0,.ref 705,.int 572 0,.int 0 0,.ref 710,.int 587 0,.int 0 0,.ref 715,.int 599 0,.int 0 0,.ref 720,.int 610 0,.int 0 0,.ref 727,.int 621 0,.int 0 0,.ref 734,.int 629 0,.int 0 0,.ref 741,.int 645 0,.int 0 0,.ref 750,.int 647 0,.int 0 0,.ref 755,.int 649 0,.int 0 0,.ref 760,.int 654 0,.int 0 0,.ref 767,.int 664 0,.int 0 0,.ref 774,.int 671 0,.int 0 0,.ref 781,.int 683 0,.int 0 0,.ref 788,.int 685 0,.int 0 0,.ref 795,.int 697 0,.int 0 0,.ref 802,.int 706 0,.int 0 0,.ref 807,.int 709 0,.int 0 0,.ref 812,.int 716 0,.int 0 0,.ref 817,.int 728 0,.int 0 0,.ref 825,.int 730 0,.int 0 0,.ref 832,.int 734 0,.int 0 0,.ref 847,.int 736 0,.int 0 0,.ref 854,.int 738 0,.int 0 0,.ref 861,.int 744 0,.int 0 0,.ref 866,.int 755 0,.int 0 0,.ref 873,.int 759 0,.int 0 0,.ref 880,.int 761 0,.int 0 0,.ref 885,.int 775 0,.int 0 0,.ref 890]
def IN(P:Params):List Obj:=[boot_o_0 P,boot_o_1 P,boot_o_2 P,boot_o_3 P,boot_o_4 P,boot_o_5 P,boot_o_6 P,boot_o_7 P,boot_o_8 P,boot_o_9 P,boot_o_10 P,gt,z6,k8 IA 182 IA 183 184 1 0 0 0 0 11 false 181 12 .none .none .none 185 186,⟨.type "frame",none,.plain,#[some (.ref 13),some (.ref 3),some (.ref 3),none,some (.str i7 164),none,some (.ref 0)]⟩]
def k9(P:Params):BT:=fj 12 (IN P)
def IP(P:Params):List Obj:=e9 (IN P) 0 [(2,⟨.none,none,.dict #[ay P hb 223 (.int 39 0),ay P k3 224 (.int 1 0)] 2,#[]⟩),(3,fY (ay P k4 165 (.str iC 194)::List.take 10 (F0 P)) 11),(12,h2 (.int 1 0::List.take 5 F1))]
def IQ(P:Params):List Obj:=bL (aA 0) Ac Ac 15 187 1 1 3 [S4] .none (.str i7 164)++[c9 [.type "Exception"],⟨.type "builtin_function_or_method",none,.fields #[.builtin "type.__prepare__",.type "type"],#[]⟩,⟨.type "dict",none,.dict #[ay P iD 203 (.str iC 194),ay P oS 205 (.str hw 204),ay P iE 207 (.int 5 206),ay P fZ 216 (.ref 36),ay P iF 219 (.ref 37)] 5,#[]⟩,gt,⟨.none,none,.fields #[.int 7 0,.int 4 0,.ref 35],#[]⟩,k8 hw 198 hw 199 200 5 0 0 0 0 25 false 181 26 .none .none .none 201 202,⟨.type "frame",none,.plain,#[some (.ref 27),some (.ref 3),some (.ref 24),none,some (.str iC 194),none,some (.ref 0)]⟩,c9 [.str Ad 208]]++bL (c5 2 0) fZ S5 30 209 7 2 3 [e6,oT] (.ref 29) (.str iC 194)++[c9 [.str oU 217,.str oT 218],⟨.type "dict",none,.dict #[ay P iD 203 (.str iC 194),ay P iE 207 (.int 5 206),ay P fZ 216 (.ref 36),ay P iF 219 (.ref 37),ay P np 221 (.ref 40),ay P dq 222 .none] 3,#[]⟩,⟨.type "type",none,.cls ⟨hw,[.type "Exception"],[.ref 39,.type "Exception",.type "BaseException",.type "object"],38,hw,true,[],[],false,none,false⟩,#[some (.ref 22),none,some (.str hw 196),some (.str hw 204),some (.builtin "Exception.__new__"),some (.bool true)]⟩,⟨.type "getset_descriptor",none,.fields #[.str np 220,.ref 39,.builtin "ExceptionGroup.__weakref__",.none],#[]⟩,⟨.type "super",none,.fields #[.ref 39,.ref 39,.ref 39],#[]⟩,⟨.type "builtin_function_or_method",none,.fields #[.builtin "object.__init_subclass__",.ref 39],#[]⟩]
def BY(P:Params):BT:=fj 12 (IP P++(IQ P))
def IS(P:Params):List Obj:=e9 (IP P) 0 [(3,fY (ay P k4 165 (.str iC 194)::List.take 11 (F0 P)) 12),(12,h2 (.int 1 0::List.take 8 F1))]
def IT(P:Params):List Obj:=e9 (IQ P) 0 [(24,⟨.type "type",none,.cls ⟨hw,[.type "Exception"],[.ref 39,.type "Exception",.type "BaseException",.type "object"],38,hw,true,[],[.ref 60],false,none,false⟩,#[some (.ref 22),none,some (.str hw 196),some (.str hw 204),some (.builtin "Exception.__new__"),some (.bool true)]⟩)]
def ga(P:Params):List Obj:=[c9 [.ref 39],⟨.type "builtin_function_or_method",none,.fields #[.builtin "type.__prepare__",.type "type"],#[]⟩,⟨.type "dict",none,.dict #[ay P iD 234 (.str iC 194),ay P oS 236 (.str nq 235),ay P iE 238 (.int 10 237),ay P fZ 249 (.ref 57),ay P iF 252 (.ref 58)] 5,#[]⟩,gt,⟨.none,none,.fields #[.int 12 0,.int 4 0,.ref 56],#[]⟩,k8 nq 229 nq 230 231 10 0 0 0 0 46 false 181 47 .none .none .none 232 233,⟨.type "frame",none,.plain,#[some (.ref 48),some (.ref 3),some (.ref 45),none,some (.str iC 194),none,some (.ref 0)]⟩,c9 [.int 2589 239,.str Ad 240]]++bL (c5 3 0) fZ q4 51 241 12 3 3 [e6,oU,oT] (.ref 50) (.str iC 194)++[c9 [.str oU 250,.str oT 251],⟨.type "dict",none,.dict #[ay P iD 234 (.str iC 194),ay P iE 238 (.int 10 237),ay P fZ 249 (.ref 57),ay P iF 252 (.ref 58),ay P dq 253 .none] 2,#[]⟩,⟨.type "type",none,.cls ⟨nq,[.ref 39],[.ref 60,.ref 39,.type "Exception",.type "BaseException",.type "object"],59,nq,true,[],[],false,none,false⟩,#[some (.ref 43),none,some (.str nq 227),some (.str nq 235),some (.builtin "Exception.__new__"),some (.bool true)]⟩,⟨.type "super",none,.fields #[.ref 60,.ref 60,.ref 60],#[]⟩,⟨.type "builtin_function_or_method",none,.fields #[.builtin "object.__init_subclass__",.ref 60],#[]⟩]
def BZ(P:Params):BT:=fj 12 (IS P++(IT P++(ga P)))
def IU(P:Params):List Obj:=e9 (IS P) 0 [(3,fY (ay P k4 165 (.str dH 283)::List.take 27 (F0 P)) 28),(12,h2 (.int 1 0::List.take 11 F1))]
def gu(P:Params):List Obj:=e9 (IT P) 0 [(24,⟨.type "type",none,.cls ⟨hw,[.type "Exception"],[.ref 39,.type "Exception",.type "BaseException",.type "object"],38,hw,true,[],[.ref 60,.ref 80],false,none,false⟩,#[some (.ref 22),none,some (.str hw 196),some (.str hw 204),some (.builtin "Exception.__new__"),some (.bool true)]⟩)]
def gv(P:Params):List Obj:=[c9 [.ref 39],⟨.type "builtin_function_or_method",none,.fields #[.builtin "type.__prepare__",.type "type"],#[]⟩,⟨.type "dict",none,.dict #[ay P iD 263 (.str iC 194),ay P oS 265 (.str nt 264),ay P iE 267 (.int 15 266),ay P fZ 276 (.ref 77),ay P iF 279 (.ref 78)] 5,#[]⟩,gt,⟨.none,none,.fields #[.int 17 0,.int 4 0,.ref 76],#[]⟩,k8 nt 258 nt 259 260 15 0 0 0 0 66 false 181 67 .none .none .none 261 262,⟨.type "frame",none,.plain,#[some (.ref 68),some (.ref 3),some (.ref 65),none,some (.str iC 194),none,some (.ref 0)]⟩,c9 [.str Ad 268]]++bL (c5 4 0) fZ Tm 71 269 17 2 3 [e6,oT] (.ref 70) (.str iC 194)++[c9 [.str oU 277,.str oT 278],⟨.type "dict",none,.dict #[ay P iD 263 (.str iC 194),ay P iE 267 (.int 15 266),ay P fZ 276 (.ref 77),ay P iF 279 (.ref 78),ay P dq 280 .none] 2,#[]⟩,⟨.type "type",none,.cls ⟨nt,[.ref 39],[.ref 80,.ref 39,.type "Exception",.type "BaseException",.type "object"],79,nt,true,[],[],false,none,false⟩,#[some (.ref 63),none,some (.str nt 256),some (.str nt 264),some (.builtin "Exception.__new__"),some (.bool true)]⟩,⟨.type "super",none,.fields #[.ref 80,.ref 80,.ref 80],#[]⟩,⟨.type "builtin_function_or_method",none,.fields #[.builtin "object.__init_subclass__",.ref 80],#[]⟩]
def B0(P:Params):BT:=fj 12 (IU P++(gu P++(ga P++(gv P))))
def IV(P:Params):List Obj:=e9 (IU P) 0 [(3,fY (ay P k4 165 (.str dH 283)::List.take 58 (F0 P)) 59)]
def gQ(P:Params):List Obj:=[c9 [.int 1 285,.str TX 371],c9 [.int 1 285,.str TY 372],c9 [.int 1 285,.str TZ 373],c9 [.int 1 285,.str T0 374],c9 [.int 1 285,.str wk 375],c9 [.int 1 285,.str T1 376],c9 [.int 1 285,.str Ae 377],c9 [.int 1 285,.str oU 378],c9 [.int 2 287,.int 0 379,.int 0 380],c9 [.int 2 287,.int 1 381,.int 0 382],c9 [.int 1 285,.str Af 383],gt,gt,gt,gt,gt,c9 [.int 8 299,.ref 94,.ref 95,.ref 96,.ref 97,.ref 98,.int 0 384],c9 [.int 8 385,.int 9 386],c9 [.int 6 295,.ref 100],c9 [.int 1 285,.str T2 387],c9 [.int 2 287,.int 0 388,.int 1 389],c9 [.int 2 287,.int 1 390,.int 1 391],c9 [.ref 83,.ref 84,.ref 85,.ref 86,.ref 87,.ref 88,.ref 89,.ref 90,.ref 91,.ref 92,.ref 93,.ref 99,.ref 101,.ref 102,.ref 103,.ref 104],c9 [.int 2 287,.int 3 289,.int 4 291,.int 5 293],c9 [.int 2 287,.int 3 289,.int 4 291,.int 5 293,.int 8 299]]
def B1(P:Params):BT:=fj 12 (IV P++(gu P++(ga P++(gv P++(gQ P)))))
def IW(P:Params):List Obj:=e9 (IV P) 0 [(3,fY (ay P k4 165 (.str dH 283)::List.take 59 (F0 P)) 60)]
noncomputable def hc(P:Params):List Obj:=[c9 [.int 8 299,.int 9 301,.int 11 305,.int 12 307,.int 13 309]]
def rf(P:Params):BT:=fj 12 (IW P++(gu P++(ga P++(gv P++(gQ P++(hc P))))))
def IX(P:Params):List Obj:=e9 (IW P) 0 [(3,fY (ay P k4 165 (.str dH 283)::List.take 60 (F0 P)) 61)]
noncomputable def hz(P:Params):List Obj:=[⟨.type "dict",none,.dict #[⟨3,.int 3 325,.int 6 365⟩,⟨4,.int 4 327,.int 5 363⟩,⟨5,.int 5 329,.int 4 361⟩,⟨6,.int 6 331,.int 1 355⟩,⟨7,.int 7 333,.int 2 357⟩,⟨10,.int 10 339,.int 7 367⟩] 6,#[]⟩]
def wq(P:Params):BT:=fj 12 (IX P++(gu P++(ga P++(gv P++(gQ P++(hc P++(hz P)))))))
def IY(P:Params):List Obj:=e9 (IX P) 0 [(3,fY (ay P k4 165 (.str dH 283)::List.take 61 (F0 P)) 62),(12,h2 (.int 1 0::List.take 14 F1))]
def h3(P:Params):List Obj:=[gt,⟨.type "builtin_function_or_method",none,.fields #[.builtin "type.__prepare__",.type "type"],#[]⟩,⟨.type "dict",none,.dict #[ay P iD 410 (.str dH 283),ay P oS 412 (.str nu 411),ay P iE 414 (.int 69 413),ay P fZ 422 (.ref 123),ay P fS 430 (.ref 130),ay P Ag 439 (.ref 137),ay P iF 449 (.ref 138)] 7,#[]⟩,gt,⟨.none,none,.fields #[.int 71 0,.int 4 0,.ref 122,.int 84 0,.int 4 0,.ref 129,.int 87 0,.int 4 0,.ref 136],#[]⟩,k8 nu 405 nu 406 407 69 0 0 0 0 113 false 181 114 .none .none .none 408 409,⟨.type "frame",none,.plain,#[some (.ref 115),some (.ref 3),some (.ref 112),none,some (.str dH 283),none,some (.ref 0)]⟩]++bL (c5 54 0) fZ T5 117 415 71 1 3 [e6,fS] .none (.str dH 283)++bL (c5 54 1) fS T6 124 423 84 2 3 [e6,cV] .none (.str dH 283)++bL (c5 54 2) Ag T7 131 431 87 2 3 [e6,fS,cV] .none (.str dH 283)++[c9 [.str T8 440,.str T9 441,.str Ua 442,.str Ub 443,.str Uc 444,.str Ud 445,.str Ue 446,.str Uf 447,.str Ug 448],⟨.type "dict",none,.dict #[ay P iD 410 (.str dH 283),ay P iE 414 (.int 69 413),ay P fZ 422 (.ref 123),ay P fS 430 (.ref 130),ay P Ag 439 (.ref 137),ay P iF 449 (.ref 138),ay P q5 451 (.ref 141),ay P np 453 (.ref 142),ay P dq 454 .none] 4,#[]⟩,⟨.type "type",none,.cls ⟨nu,[.type "object"],[.ref 140,.type "object"],139,nu,true,[],[],false,none,false⟩,#[none,none,some (.str nu 403),some (.str nu 411),some (.builtin "object.__new__"),some (.bool true)]⟩,⟨.type "getset_descriptor",none,.fields #[.str q5 450,.ref 140,.builtin "function.__dict__",.builtin "function.__dict__#set"],#[]⟩,⟨.type "getset_descriptor",none,.fields #[.str np 452,.ref 140,.builtin "ExceptionGroup.__weakref__",.none],#[]⟩,⟨.type "super",none,.fields #[.ref 140,.ref 140,.ref 140],#[]⟩,⟨.type "builtin_function_or_method",none,.fields #[.builtin "object.__init_subclass__",.ref 140],#[]⟩]
def B2(P:Params):BT:=fj 12 (IY P++(gu P++(ga P++(gv P++(gQ P++(hc P++(hz P++(h3 P))))))))
def IZ(P:Params):List Obj:=e9 (IY P) 0 [(3,fY (ay P k4 165 (.str dH 283)::List.take 66 (F0 P)) 67),(12,h2 (.int 1 0::List.take 29 F1))]
def iH(P:Params):List Obj:=[gt,⟨.type "builtin_function_or_method",none,.fields #[.builtin "type.__prepare__",.type "type"],#[]⟩,⟨.type "dict",none,.dict #[ay P iD 464 (.str dH 283),ay P oS 466 (.str nv 465),ay P iE 468 (.int 94 467),ay P fZ 478 (.ref 158),ay P iF 494 (.ref 159)] 5,#[]⟩,gt,⟨.none,none,.fields #[.int 96 0,.int 4 0,.ref 157],#[]⟩,k8 nv 459 nv 460 461 94 0 0 0 0 148 false 181 149 .none .none .none 462 463,⟨.type "frame",none,.plain,#[some (.ref 150),some (.ref 3),some (.ref 147),none,some (.str dH 283),none,some (.ref 0)]⟩]++bL (c5 55 0) fZ Uh 152 469 96 4 3 [e6,IB,tD,oV] .none (.str dH 283)++[c9 [.str Ui 479,.str Uj 480,.str Uk 481,.str Ul 482,.str Um 483,.str IB 484,.str Un 485,.str Uo 486,.str tD 487,.str Up 488,.str oV 489,.str Uq 490,.str Ur 491,.str Us 492,.str Ut 493],⟨.type "dict",none,.dict #[ay P iD 464 (.str dH 283),ay P iE 468 (.int 94 467),ay P fZ 478 (.ref 158),ay P iF 494 (.ref 159),ay P q5 496 (.ref 162),ay P np 498 (.ref 163),ay P dq 499 .none] 4,#[]⟩,⟨.type "type",none,.cls ⟨nv,[.type "object"],[.ref 161,.type "object"],160,nv,true,[],[],false,none,false⟩,#[none,none,some (.str nv 457),some (.str nv 465),some (.builtin "object.__new__"),some (.bool true)]⟩,⟨.type "getset_descriptor",none,.fields #[.str q5 495,.ref 161,.builtin "function.__dict__",.builtin "function.__dict__#set"],#[]⟩,⟨.type "getset_descriptor",none,.fields #[.str np 497,.ref 161,.builtin "ExceptionGroup.__weakref__",.none],#[]⟩,⟨.type "super",none,.fields #[.ref 161,.ref 161,.ref 161],#[]⟩,⟨.type "builtin_function_or_method",none,.fields #[.builtin "object.__init_subclass__",.ref 161],#[]⟩]++bL (aA 56) Ah Ah 166 502 112 2 3 [dj,cV] .none (.str dH 283)++[c9 [.int 0 510]]++bL (aA 57) Ai Ai 174 511 114 3 3 [dj,oT,Uu] (.ref 173) (.str dH 283)++bL (aA 58) Aj Aj 181 520 116 2 3 [dj,IC] .none (.str dH 283)++[c9 [.int (-1) 529,.int (-1) 531]]++bL (aA 59) Al Al 189 532 118 4 3 [dj,oV,q6,Uv,Uw] (.ref 188) (.str dH 283)
def B3(P:Params):BT:=fj 12 (IZ P++(gu P++(ga P++(gv P++(gQ P++(hc P++(hz P++(h3 P++(iH P)))))))))
def I0(P:Params):List Obj:=e9 (IZ P) 0 [(3,fY (ay P k4 165 (.str dH 283)::List.take 79 (F0 P)) 80),(12,h2 (.int 1 0::List.take 68 F1))]
def i9(P:Params):List Obj:=bL (aA 60) Am Am 196 543 124 3 3 [dj,tD,oV,ID] .none (.str dH 283)++bL (aA 61) An An 203 553 128 2 3 [dj,cV,fS] .none (.str dH 283)++bL (aA 62) Ao Ao 210 562 135 1 3 [fS,tD] .none (.str dH 283)++bL (aA 63) Ap Ap 217 570 144 2 3 [dj,cV,fS] .none (.str dH 283)++bL (aA 64) Aq Aq 224 579 149 1 3 [Az] .none (.str dH 283)++bL (aA 65) Ar Ar 231 586 153 3 3 [dj,Az,cV] .none (.str dH 283)++bL (aA 66) As As 238 595 157 1 3 [Az,cV] .none (.str dH 283)++cJ (aA 67) At At 245 603 162 2 3 .none (.str dH 283)++bL (aA 68) Au Au 250 609 179 2 3 [dj,cV] .none (.str dH 283)++bL (aA 69) Av Av 257 617 181 2 3 [dj,cV] .none (.str dH 283)++bL (aA 70) Aw Aw 264 625 183 2 3 [dj,cV] .none (.str dH 283)++bL (aA 71) Ax Ax 271 633 185 2 3 [dj,cV,fS] .none (.str dH 283)++bL (aA 72) Ay Ay 278 642 188 2 3 [dj,cV] .none (.str dH 283)
def B4(P:Params):BT:=fj 12 (I0 P++(gu P++(ga P++(gv P++(gQ P++(hc P++(hz P++(h3 P++(iH P++(i9 P))))))))))
def I1(P:Params):List Obj:=e9 (I0 P) 0 [(3,fY (ay P k4 165 (.str eS 685)::List.take 95 (F0 P)) 96),(12,h2 (.int 1 0::List.take 98 F1))]
def jK(P:Params):List Obj:=cJ (aA 73) AA AA 285 650 192 2 3 .none (.str dH 283)++bL (aA 74) AB AB 290 656 196 2 3 [dj,IE,AK,nw,AL] .none (.str dH 283)++bL (aA 75) AC AC 297 667 205 2 3 [dj,cV,fS,tD,IF] .none (.str dH 283)++bL (aA 76) AD AD 304 678 222 1 3 [AL] .none (.str dH 283)++[c9 [.str UD 697,.str UE 698,.str UF 699,.str UG 700,.str UH 701,.str UI 702,.str UJ 703,.str UK 704,.str UL 705]]++cJ (aA 84) AE AE 312 707 231 2 3 .none (.str eS 685)++cJ (aA 85) AF AF 317 713 234 2 3 .none (.str eS 685)++bL (aA 86) AG AG 322 719 237 3 3 [dj,wl,tE,hy,cV] .none (.str eS 685)++bL (aA 87) AH AH 329 730 245 2 3 [dj,cV,fS,ID] .none (.str eS 685)++bL (aA 88) AI AI 336 740 253 3 3 [dj,hy,cV,AK,AM] .none (.str eS 685)++bL (aA 89) AJ AJ 343 751 261 4 3 [hy,cV,q7,q8] .none (.str eS 685)
def Vx(P:Params):BT:=fj 12 (I1 P++(gu P++(ga P++(gv P++(gQ P++(hc P++(hz P++(h3 P++(iH P++(i9 P++(jK P)))))))))))
def I2(P:Params):List Obj:=e9 (I1 P) 0 [(3,fY (ay P k4 165 (.str eS 685)::List.take 107 (F0 P)) 108),(12,h2 (.int 1 0::List.take 134 F1))]
def ko(P:Params):List Obj:=bL (aA 90) AN AN 350 761 267 5 3 [dj,hy,cV,q7,q8] .none (.str eS 685)++bL (aA 91) AO AO 357 772 277 5 3 [dj,hy,cV,q7,q8] .none (.str eS 685)++bL (aA 92) AP AP 364 783 285 3 3 [dj,hy,cV,q7,q8] .none (.str eS 685)++bL (aA 93) AQ AQ 371 794 299 3 3 [dj,IG,cV,wm,UM,wl,UN] .none (.str eS 685)++bL (aA 94) AR AR 378 807 313 2 3 [dj,cV,fS] .none (.str eS 685)++cJ (aA 95) AS AS 385 816 320 3 3 .none (.str eS 685)++bL (aA 96) AT AT 390 822 329 3 3 [dj,hy,cV,AK,wl,tE,UO] .none (.str eS 685)++bL (aA 97) AU AU 397 835 343 2 3 [dj,IE,cV,wm] .none (.str eS 685)++[c9 [.int 0 845]]++bL (aA 98) AV AV 405 846 351 3 3 [dj,cV,wn,nw,fS,q6] (.ref 404) (.str eS 685)++cJ (aA 99) AW AW 412 858 365 3 3 .none (.str eS 685)++bL (aA 100) AX AX 417 864 370 2 3 [dj,cV] .none (.str eS 685)++cJ (aA 101) AY AY 424 872 378 2 3 .none (.str eS 685)
def Vy(P:Params):BT:=fj 12 (I2 P++(gu P++(ga P++(gv P++(gQ P++(hc P++(hz P++(h3 P++(iH P++(i9 P++(jK P++(ko P))))))))))))
def I3(P:Params):List Obj:=e9 (I2 P) 0 [(3,fY (ay P k4 165 (.str ed 938)::List.take 118 (F0 P)) 119),(12,h2 (.int 1 0::List.take 158 F1))]
def la(P:Params):List Obj:=bL (aA 102) AZ AZ 429 878 380 1 3 [fS] .none (.str eS 685)++bL (aA 103) A0 A0 436 885 384 2 3 [dj,cV] .none (.str eS 685)++cJ (aA 104) A1 A1 443 893 389 2 3 .none (.str eS 685)++bL (aA 105) A2 A2 448 899 391 3 3 [dj,UT,wn,wm,cV,UU] .none (.str eS 685)++cJ (aA 106) A3 A3 455 911 399 3 3 .none (.str eS 685)++cJ (aA 107) A4 A4 460 917 413 2 3 .none (.str eS 685)++bL (aA 108) A5 A5 465 923 421 2 3 [dj,cV,fS] .none (.str eS 685)++cJ (aA 109) A6 A6 472 932 432 2 3 .none (.str eS 685)++[c9 [.int 1 285,.int 2 287,.int 3 289,.int 4 291,.int 5 293]]
def Vz(P:Params):BT:=fj 12 (I3 P++(gu P++(ga P++(gv P++(gQ P++(hc P++(hz P++(h3 P++(iH P++(i9 P++(jK P++(ko P++(la P)))))))))))))
def I4(P:Params):List Obj:=e9 (I3 P) 0 [(3,fY (ay P k4 165 (.str ed 938)::List.take 119 (F0 P)) 120),(12,h2 (.int 1 0::List.take 161 F1))]
def I5(P:Params):List Obj:=[gt,⟨.type "builtin_function_or_method",none,.fields #[.builtin "type.__prepare__",.type "type"],#[]⟩,⟨.type "dict",none,.dict #[ay P iD 952 (.str ed 938),ay P oS 954 (.str jI 953),ay P iE 956 (.int 438 955),ay P fZ 964 (.ref 491),ay P A7 972 (.ref 498),ay P A8 980 (.ref 505),ay P A9 989 (.ref 512),ay P Ba 998 (.ref 519),ay P q6 1006 (.ref 526),ay P q9 1015 (.ref 533),ay P ra 1024 (.ref 540),ay P Bb 1034 (.ref 547),ay P Bc 1043 (.ref 554),ay P Bd 1052 (.ref 561),ay P Be 1061 (.ref 568),ay P Bf 1070 (.ref 575),ay P Bg 1079 (.ref 582),ay P Bh 1087 (.ref 589),ay P iF 1091 (.ref 590)] 19,#[]⟩,gt,⟨.none,none,.fields #[.int 440 0,.int 4 0,.ref 490,.int 445 0,.int 4 0,.ref 497,.int 448 0,.int 4 0,.ref 504,.int 451 0,.int 4 0,.ref 511,.int 454 0,.int 4 0,.ref 518,.int 457 0,.int 4 0,.ref 525,.int 460 0,.int 4 0,.ref 532,.int 463 0,.int 4 0,.ref 539,.int 466 0,.int 4 0,.ref 546,.int 469 0,.int 4 0,.ref 553,.int 472 0,.int 4 0,.ref 560,.int 475 0,.int 4 0,.ref 567,.int 478 0,.int 4 0,.ref 574,.int 481 0,.int 4 0,.ref 581,.int 484 0,.int 4 0,.ref 588],#[]⟩,k8 jI 947 jI 948 949 438 0 0 0 0 481 false 181 482 .none .none .none 950 951,⟨.type "frame",none,.plain,#[some (.ref 483),some (.ref 3),some (.ref 480),none,some (.str ed 938),none,some (.ref 0)]⟩]++bL (c5 114 0) fZ UV 485 957 440 2 3 [e6,dj] .none (.str ed 938)++bL (c5 114 1) A7 UW 492 965 445 2 3 [e6,cV] .none (.str ed 938)++bL (c5 114 2) A8 UX 499 973 448 2 3 [e6,fS] .none (.str ed 938)++bL (c5 114 3) A9 UY 506 981 451 3 3 [e6,fS,Bi] .none (.str ed 938)++bL (c5 114 4) Ba UZ 513 990 454 3 3 [e6,fS,Bi] .none (.str ed 938)++bL (c5 114 5) q6 U0 520 999 457 2 3 [e6,cV] .none (.str ed 938)++bL (c5 114 6) q9 U1 527 1007 460 3 3 [e6,hy,cV] .none (.str ed 938)++bL (c5 114 7) ra U2 534 1016 463 3 3 [e6,hy,cV] .none (.str ed 938)++bL (c5 114 8) Bb U6 541 1025 466 4 3 [e6,U3,U4,U5] .none (.str ed 938)++bL (c5 114 9) Bc U7 548 1035 469 3 3 [e6,hy,cV] .none (.str ed 938)++bL (c5 114 10) Bd U8 555 1044 472 3 3 [e6,hy,cV] .none (.str ed 938)++bL (c5 114 11) Be U9 562 1053 475 3 3 [e6,cV,Bi] .none (.str ed 938)++bL (c5 114 12) Bf Vb 569 1062 478 3 3 [e6,hy,Va] .none (.str ed 938)++bL (c5 114 13) Bg Vc 576 1071 481 3 3 [e6,cV,oV] .none (.str ed 938)++bL (c5 114 14) Bh Vd 583 1080 484 2 3 [e6,cV] .none (.str ed 938)++[c9 [.str wn 1088,.str IH 1089,.str dj 1090],⟨.type "dict",none,.dict #[ay P iD 952 (.str ed 938),ay P iE 956 (.int 438 955),ay P fZ 964 (.ref 491),ay P A7 972 (.ref 498),ay P A8 980 (.ref 505),ay P A9 989 (.ref 512),ay P Ba 998 (.ref 519),ay P q6 1006 (.ref 526),ay P q9 1015 (.ref 533),ay P ra 1024 (.ref 540),ay P Bb 1034 (.ref 547),ay P Bc 1043 (.ref 554),ay P Bd 1052 (.ref 561),ay P Be 1061 (.ref 568),ay P Bf 1070 (.ref 575),ay P Bg 1079 (.ref 582),ay P Bh 1087 (.ref 589),ay P iF 1091 (.ref 590),ay P q5 1093 (.ref 593),ay P np 1095 (.ref 594),ay P dq 1096 .none] 4,#[]⟩,⟨.type "type",none,.cls ⟨jI,[.type "object"],[.ref 592,.type "object"],591,jI,true,[],[],false,none,false⟩,#[none,none,some (.str jI 945),some (.str jI 953),some (.builtin "object.__new__"),some (.bool true)]⟩,⟨.type "getset_descriptor",none,.fields #[.str q5 1092,.ref 592,.builtin "function.__dict__",.builtin "function.__dict__#set"],#[]⟩,⟨.type "getset_descriptor",none,.fields #[.str np 1094,.ref 592,.builtin "ExceptionGroup.__weakref__",.none],#[]⟩,⟨.type "super",none,.fields #[.ref 592,.ref 592,.ref 592],#[]⟩,⟨.type "builtin_function_or_method",none,.fields #[.builtin "object.__init_subclass__",.ref 592],#[]⟩]
def VA(P:Params):BT:=fj 12 (I4 P++(gu P++(ga P++(gv P++(gQ P++(hc P++(hz P++(h3 P++(iH P++(i9 P++(jK P++(ko P++(la P++(I5 P))))))))))))))
def I6(P:Params):List Obj:=e9 (I4 P) 0 [(3,fY (ay P k4 165 (.str ed 938)::List.take 121 (F0 P)) 122),(12,h2 (.int 1 0::List.take 167 F1))]
def nA(P:Params):List Obj:=e9 (I5 P) 0 [(114,⟨.type "type",none,.cls ⟨jI,[.type "object"],[.ref 592,.type "object"],591,jI,true,[],[.ref 634],false,none,false⟩,#[none,none,some (.str jI 945),some (.str jI 953),some (.builtin "object.__new__"),some (.bool true)]⟩)]
def nB(P:Params):List Obj:=[c9 [.ref 592],⟨.type "builtin_function_or_method",none,.fields #[.builtin "type.__prepare__",.type "type"],#[]⟩,⟨.type "dict",none,.dict #[ay P iD 1106 (.str ed 938),ay P oS 1108 (.str ny 1107),ay P iE 1110 (.int 486 1109),ay P fZ 1118 (.ref 610),ay P wo 1126 (.ref 617),ay P q9 1135 (.ref 624),ay P ra 1144 (.ref 631),ay P iF 1148 (.ref 632)] 8,#[]⟩,gt,⟨.none,none,.fields #[.int 488 0,.int 4 0,.ref 609,.int 493 0,.int 4 0,.ref 616,.int 496 0,.int 4 0,.ref 623,.int 499 0,.int 4 0,.ref 630],#[]⟩,k8 ny 1101 ny 1102 1103 486 0 0 0 0 600 false 181 601 .none .none .none 1104 1105,⟨.type "frame",none,.plain,#[some (.ref 602),some (.ref 3),some (.ref 599),none,some (.str ed 938),none,some (.ref 0)]⟩]++bL (c5 115 0) fZ Ve 604 1111 488 2 3 [e6,dj] .none (.str ed 938)++bL (c5 115 1) wo Vf 611 1119 493 2 3 [e6,cV] .none (.str ed 938)++bL (c5 115 2) q9 Vg 618 1127 496 3 3 [e6,hy,cV] .none (.str ed 938)++bL (c5 115 3) ra Vh 625 1136 499 3 3 [e6,hy,cV] .none (.str ed 938)++[c9 [.str wn 1145,.str IH 1146,.str dj 1147],⟨.type "dict",none,.dict #[ay P iD 1106 (.str ed 938),ay P iE 1110 (.int 486 1109),ay P fZ 1118 (.ref 610),ay P wo 1126 (.ref 617),ay P q9 1135 (.ref 624),ay P ra 1144 (.ref 631),ay P iF 1148 (.ref 632),ay P dq 1149 .none] 2,#[]⟩,⟨.type "type",none,.cls ⟨ny,[.ref 592],[.ref 634,.ref 592,.type "object"],633,ny,true,[],[],false,none,false⟩,#[some (.ref 597),none,some (.str ny 1099),some (.str ny 1107),some (.builtin "object.__new__"),some (.bool true)]⟩,⟨.type "super",none,.fields #[.ref 634,.ref 634,.ref 634],#[]⟩,⟨.type "builtin_function_or_method",none,.fields #[.builtin "object.__init_subclass__",.ref 634],#[]⟩]++bL (aA 116) Bj Bj 637 1152 501 2 3 [dj,cV,Vi,fS] .none (.str ed 938)
def VB(P:Params):BT:=fj 12 (I6 P++(gu P++(ga P++(gv P++(gQ P++(hc P++(hz P++(h3 P++(iH P++(i9 P++(jK P++(ko P++(la P++(nA P++(nB P)))))))))))))))
def I7(P:Params):List Obj:=e9 (I6 P) 0 [(3,fY (ay P k4 165 (.str iG 1197)::List.take 125 (F0 P)) 126),(12,h2 (.int 1 0::List.take 179 F1))]
def oW(P:Params):List Obj:=bL (aA 117) Bl Bl 644 1162 514 2 3 [fS,oV,AM] .none (.str ed 938)++bL (aA 118) Bm Bm 651 1171 519 3 3 [nz,cV,oV,fS] .none (.str ed 938)++bL (aA 119) Bn Bn 658 1181 525 2 3 [nz,cV] .none (.str ed 938)++bL (aA 120) Bo Bo 665 1189 527 2 3 [nz,cV] .none (.str ed 938)
def VC(P:Params):BT:=fj 12 (I7 P++(gu P++(ga P++(gv P++(gQ P++(hc P++(hz P++(h3 P++(iH P++(i9 P++(jK P++(ko P++(la P++(nA P++(nB P++(oW P))))))))))))))))
def I8(P:Params):List Obj:=e9 (I7 P) 0 [(3,fY (ay P k4 165 (.str iG 1197)::List.take 126 (F0 P)) 127)]
def rg(P:Params):List Obj:=[⟨.type "dict",none,.dict #[ay P Ae 1199 (.int 6 331),ay P oU 1200 (.int 7 333),ay P IJ 1201 (.int 12 343),ay P wk 1202 (.int 4 327)] 4,#[]⟩]
def VD(P:Params):BT:=fj 12 (I8 P++(gu P++(ga P++(gv P++(gQ P++(hc P++(hz P++(h3 P++(iH P++(i9 P++(jK P++(ko P++(la P++(nA P++(nB P++(oW P++(rg P)))))))))))))))))
def I9(P:Params):List Obj:=e9 (I8 P) 0 [(3,fY (ay P k4 165 (.str iG 1197)::List.take 127 (F0 P)) 128)]
def tG(P:Params):List Obj:=[⟨.type "dict",none,.dict #[⟨1,.int 1 355,.str Ae 1208⟩,⟨2,.int 2 357,.str oU 1209⟩,⟨3,.int 3 359,.str IJ 1210⟩,⟨4,.int 4 361,.str Af 1211⟩,⟨5,.int 5 363,.str wk 1212⟩,⟨6,.int 6 365,.str wk 1213⟩,⟨7,.int 7 367,.str Af 1214⟩] 7,#[]⟩]
def VE(P:Params):BT:=fj 12 (I9 P++(gu P++(ga P++(gv P++(gQ P++(hc P++(hz P++(h3 P++(iH P++(i9 P++(jK P++(ko P++(la P++(nA P++(nB P++(oW P++(rg P++(tG P))))))))))))))))))
def Ja(P:Params):List Obj:=e9 (I9 P) 0 [(3,fY (ay P k4 165 (.str i8 1321)::List.take 141 (F0 P)) 142),(12,h2 (.int 1 0::List.take 212 F1))]
def wr(P:Params):List Obj:=[c9 [.int 1 355,.int 2 357,.int 3 359],c9 [.int 4 361,.int 5 363,.int 6 365]]++bL (aA 126) Bp Bp 676 1225 534 2 3 [dj,cV,fS] .none (.str iG 1197)++bL (aA 127) Bq Bq 683 1234 545 4 3 [dj,hy,cV,tF,q7,q8,wl,tE] .none (.str iG 1197)++cJ (aA 128) Br Br 690 1248 557 2 3 .none (.str iG 1197)++cJ (aA 129) Bs Bs 695 1254 560 3 3 .none (.str iG 1197)++bL (aA 130) Bt Bt 700 1260 568 3 3 [dj,cV,rb] .none (.str iG 1197)++cJ (aA 131) Bu Bu 707 1269 572 4 3 .none (.str iG 1197)++cJ (aA 132) Bv Bv 712 1275 587 3 3 .none (.str iG 1197)++cJ (aA 133) Bw Bw 717 1281 599 4 3 .none (.str iG 1197)++bL (aA 134) Bx Bx 722 1287 610 3 3 [dj,cV,tE,Vo,wm,nw] .none (.str iG 1197)++bL (aA 135) By By 729 1299 621 5 3 [dj,cV,tE,rb,tF] .none (.str iG 1197)++bL (aA 136) Bz Bz 736 1310 629 4 3 [dj,nw,wp,rb,Vp] .none (.str iG 1197)++[c9 [.int 10 303,.int 15 311,.int 16 313]]
def VF(P:Params):BT:=fj 12 (Ja P++(gu P++(ga P++(gv P++(gQ P++(hc P++(hz P++(h3 P++(iH P++(i9 P++(jK P++(ko P++(la P++(nA P++(nB P++(oW P++(rg P++(tG P++(wr P)))))))))))))))))))
def Jb(P:Params):List Obj:=e9 (Ja P) 0 [(3,fY (ay P k4 165 (.str jJ 1428)::List.take 154 (F0 P)) 155),(12,h2 (.int 1 0::List.take 248 F1))]
def B5(P:Params):List Obj:=[c9 [.int 1 355,.int 2 357,.int 3 359,.int 4 361,.int 5 363,.int 6 365]]++bL (aA 140) BA BA 745 1325 645 2 3 [dj,cV] .none (.str i8 1321)++cJ (aA 141) BB BB 752 1333 647 2 3 .none (.str i8 1321)++cJ (aA 142) BC BC 757 1339 649 2 3 .none (.str i8 1321)++bL (aA 143) BD BD 762 1345 654 4 3 [dj,hy,cV,tF,q7,q8] .none (.str i8 1321)++bL (aA 144) BE BE 769 1357 664 3 3 [nz,nw,IF,AM] .none (.str i8 1321)++bL (aA 145) BF BF 776 1367 671 2 3 [nz,nw,IK,wp] .none (.str i8 1321)++bL (aA 146) BG BG 783 1377 683 3 3 [nz,cV,rb] .none (.str i8 1321)++bL (aA 147) BH BH 790 1386 685 4 3 [nz,nw,wp,rb,AL,IK] .none (.str i8 1321)++bL (aA 148) BI BI 797 1398 697 4 3 [nz,nw,wp,rb,q6,IG] .none (.str i8 1321)++cJ (aA 149) BJ BJ 804 1410 706 4 3 .none (.str i8 1321)++cJ (aA 150) BK BK 809 1416 709 4 3 .none (.str i8 1321)++cJ (aA 151) BL BL 814 1422 716 5 3 .none (.str i8 1321)
def VG(P:Params):BT:=fj 12 (Jb P++(gu P++(ga P++(gv P++(gQ P++(hc P++(hz P++(h3 P++(iH P++(i9 P++(jK P++(ko P++(la P++(nA P++(nB P++(oW P++(rg P++(tG P++(wr P++(B5 P))))))))))))))))))))
def Jc(P:Params):List Obj:=e9 (Jb P) 0 [(3,fY (ay P k4 165 (.str jJ 1428)::F0 P) 168),(12,h2 (.int 1 0::F1))]
def Jd(P:Params):List Obj:=[⟨.type "list",none,.seq #[.int 0 1430,.int 1 1431,.int 2 1432,.int 3 1433,.int 4 1434,.int 5 1435,.int 6 1436,.int 7 1437,.int 8 1438,.int 9 1439,.int 10 1440,.int 11 1441,.int 12 1442,.int 13 1443] 0,#[]⟩]++bL (aA 154) BM BM 820 1445 728 0 3 [] .none (.str jJ 1428)++bL (aA 155) BN BN 827 1451 730 0 3 [] .none (.str jJ 1428)++[⟨.type "list",none,.seq #[.int 3 1457,.int 5 1458,.int 6 1459,.int 8 1460,.int 9 1461,.int 11 1462,.int 12 1463,.int 13 1464] 0,#[]⟩,⟨.type "list",none,.seq #[.int 2 1466,.int 0 1467,.int 1 1468] 0,#[]⟩,⟨.type "list",none,.seq #[.int 0 1469,.int 1 1470,.int 2 1471] 0,#[]⟩,⟨.type "list",none,.seq #[.int 1 1472,.int 2 1473,.int 0 1474] 0,#[]⟩,⟨.type "list",none,.seq #[.int 0 1475,.int 2 1476,.int 1 1477] 0,#[]⟩,⟨.type "list",none,.seq #[.int 2 1478,.int 1 1479,.int 0 1480] 0,#[]⟩,⟨.type "list",none,.seq #[.int 1 1481,.int 0 1482,.int 2 1483] 0,#[]⟩,⟨.type "list",none,.seq #[.ref 835,.ref 836,.ref 837,.ref 838,.ref 839,.ref 840] 0,#[]⟩]++bL (aA 158) BP BP 842 1485 734 0 3 [] .none (.str jJ 1428)++bL (aA 159) BQ BQ 849 1491 736 2 3 [Vu,Vv] .none (.str jJ 1428)++bL (aA 160) BR BR 856 1499 738 1 3 [dj,wo,Vw,IC] .none (.str jJ 1428)++cJ (aA 161) BS BS 863 1509 744 3 3 .none (.str jJ 1428)++bL (aA 162) BU BU 868 1515 755 3 3 [IL,IM,tF] .none (.str jJ 1428)++bL (aA 163) BV BV 875 1524 759 3 3 [IL,IM,tF] .none (.str jJ 1428)++cJ (aA 164) BW BW 882 1533 761 7 3 .none (.str jJ 1428)++cJ (aA 165) BX BX 887 1539 775 1 3 .none (.str jJ 1428)
def VH(P:Params):BT:=fj 12 (Jc P++(gu P++(ga P++(gv P++(gQ P++(hc P++(hz P++(h3 P++(iH P++(i9 P++(jK P++(ko P++(la P++(nA P++(nB P++(oW P++(rg P++(tG P++(wr P++(B5 P++(Jd P)))))))))))))))))))))
def T21(P:Params):BT:=fj 12 (Jc P++(gu P++(ga P++(gv P++(gQ P++(hc P++(hz P++(h3 P++(iH P++(i9 P++(jK P++(ko P++(la P++(nA P++(nB P++(oW P++(rg P++(tG P++(wr P++(B5 P++(Jd P)))))))))))))))))))))
noncomputable def tH(w:World)(os:OsState):SharedT:=⟨k9 w.params,15,{},#[],{},187,os⟩
noncomputable def Je(w:World)(os:OsState):SharedT:=⟨BY w.params,43,{},#[],{},227,os⟩
noncomputable def Jf(w:World)(os:OsState):SharedT:=⟨BZ w.params,63,{},#[],{},256,os⟩
noncomputable def Jg(w:World)(os:OsState):SharedT:=⟨B0 w.params,83,{},#[],{},315,os⟩
noncomputable def Jh(w:World)(os:OsState):SharedT:=⟨B1 w.params,108,{},#[],{},395,os⟩
noncomputable def tJ(w:World)(os:OsState):SharedT:=⟨rf w.params,109,{},#[],{},396,os⟩
noncomputable def tK(w:World)(os:OsState):SharedT:=⟨wq w.params,110,{},#[],{},403,os⟩
noncomputable def Ji(w:World)(os:OsState):SharedT:=⟨B2 w.params,145,{},#[],{},457,os⟩
noncomputable def Jj(w:World)(os:OsState):SharedT:=⟨B3 w.params,196,{},#[],{},543,os⟩
noncomputable def Jk(w:World)(os:OsState):SharedT:=⟨B4 w.params,285,{},#[],{},650,os⟩
noncomputable def Jl(w:World)(os:OsState):SharedT:=⟨Vx w.params,350,{},#[],{},761,os⟩
noncomputable def Jm(w:World)(os:OsState):SharedT:=⟨Vy w.params,429,{},#[],{},878,os⟩
noncomputable def Jn(w:World)(os:OsState):SharedT:=⟨Vz w.params,478,{},#[],{},945,os⟩
noncomputable def Jo(w:World)(os:OsState):SharedT:=⟨VA w.params,597,{},#[],{},1099,os⟩
noncomputable def Jp(w:World)(os:OsState):SharedT:=⟨VB w.params,644,{},#[],{},1162,os⟩
noncomputable def tL(w:World)(os:OsState):SharedT:=⟨VC w.params,672,{},#[],{},1199,os⟩
noncomputable def nC(w:World)(os:OsState):SharedT:=⟨VD w.params,673,{},#[],{},1208,os⟩
noncomputable def tM(w:World)(os:OsState):SharedT:=⟨VE w.params,674,{},#[],{},1223,os⟩
noncomputable def Jq(w:World)(os:OsState):SharedT:=⟨VF w.params,744,{},#[],{},1324,os⟩
noncomputable def Jr(w:World)(os:OsState):SharedT:=⟨VG w.params,819,{},#[],{},1430,os⟩
noncomputable def Js(w:World)(os:OsState):SharedT:=⟨VH w.params,892,{},#[],{},1545,os⟩
noncomputable def ws(w:World)(os:OsState):SharedT:=⟨T21 w.params,892,{},#[],{},1545,os⟩
noncomputable def L0:List Stmt:=[aA 0,aA 1,aA 2]
noncomputable def Jt:List Stmt:=[aA 3]
noncomputable def Ju:List Stmt:=[aA 4,aA 5,aA 6,aA 7,aA 8,aA 9,aA 10,aA 11,aA 12,aA 13,aA 14,aA 15,aA 16,aA 17,aA 18,aA 19,aA 20]
noncomputable def L3:List Stmt:=[aA 21,aA 22,aA 23,aA 24,aA 25,aA 26,aA 27,aA 28,aA 29,aA 30,aA 31,aA 32,aA 33,aA 34,aA 35,aA 36,aA 37,aA 38,aA 39,aA 40,aA 41,aA 42,aA 43,aA 44,aA 45,aA 46,aA 47,aA 48,aA 49,aA 50,aA 51]
noncomputable def Jv:List Stmt:=[aA 52]
noncomputable def tN:List Stmt:=[aA 53]
noncomputable def Jw:List Stmt:=[aA 54]
noncomputable def Jx:List Stmt:=[aA 55,aA 56,aA 57,aA 58,aA 59]
noncomputable def L8:List Stmt:=[aA 60,aA 61,aA 62,aA 63,aA 64,aA 65,aA 66,aA 67,aA 68,aA 69,aA 70,aA 71,aA 72]
noncomputable def Jy:List Stmt:=[aA 73,aA 74,aA 75,aA 76,aA 77,aA 78,aA 79,aA 80,aA 81,aA 82,aA 83,aA 84,aA 85,aA 86,aA 87,aA 88,aA 89]
noncomputable def Jz:List Stmt:=[aA 90,aA 91,aA 92,aA 93,aA 94,aA 95,aA 96,aA 97,aA 98,aA 99,aA 100,aA 101]
noncomputable def JA:List Stmt:=[aA 102,aA 103,aA 104,aA 105,aA 106,aA 107,aA 108,aA 109,aA 110,aA 111,aA 112,aA 113]
noncomputable def JB:List Stmt:=[aA 114]
noncomputable def JC:List Stmt:=[aA 115,aA 116]
noncomputable def JD:List Stmt:=[aA 117,aA 118,aA 119,aA 120,aA 121]
noncomputable def tO:List Stmt:=[aA 122]
noncomputable def tP:List Stmt:=[aA 123]
noncomputable def JE:List Stmt:=[aA 124,aA 125,aA 126,aA 127,aA 128,aA 129,aA 130,aA 131,aA 132,aA 133,aA 134,aA 135,aA 136,aA 137,aA 138]
noncomputable def JF:List Stmt:=[aA 139,aA 140,aA 141,aA 142,aA 143,aA 144,aA 145,aA 146,aA 147,aA 148,aA 149,aA 150,aA 151,aA 152]
noncomputable def JG:List Stmt:=[aA 153,aA 154,aA 155,aA 156,aA 157,aA 158,aA 159,aA 160,aA 161,aA 162,aA 163,aA 164,aA 165]
theorem rh(w:World)(os:OsState):segRunT treeTable pw w 11 dK 1 270 (tH w os) (piecesOf L0 ej cm ⟨0,0,0,0⟩ [topFrame dp])=some (.next,Je w os,cm,⟨5,0,9,24⟩):=by
 unfold piecesOf
 rw[fB,fh,fC]
 rfl'
theorem g1(w:World)(os:OsState):segRunT treeTable pw w 11 dK 1 251 (Je w os) (piecesOf Jt ej cm ⟨5,0,9,24⟩ [topFrame dp])=some (.next,Jf w os,cm,⟨10,0,14,24⟩):=by
 unfold piecesOf
 rw[fB,fh,fC]
 rfl'
theorem g2(w:World)(os:OsState):segRunT treeTable pw w 11 dK 1 393 (Jf w os) (piecesOf Ju ej cm ⟨10,0,14,24⟩ [topFrame dp])=some (.next,Jg w os,cm,⟨35,0,35,6⟩):=by
 unfold piecesOf
 rw[fB,fh,fC]
 rfl'
theorem B6(w:World)(os:OsState):segRunT treeTable pw w 11 dK 1 398 (Jg w os) (piecesOf L3 ej cm ⟨35,0,35,6⟩ [topFrame dp])=some (.next,Jh w os,cm,⟨66,0,66,11⟩):=by
 unfold piecesOf
 rw[fB,fh,fC]
 rfl'
theorem B7(w:World)(os:OsState):segRunT treeTable pw w 11 dK 1 21 (Jh w os) (piecesOf Jv ej cm ⟨66,0,66,11⟩ [topFrame dp])=some (.next,tJ w os,cm,⟨67,0,67,11⟩):=by
 unfold piecesOf
 rw[fB,fh,fC]
 rfl'
theorem VI(w:World)(os:OsState):segRunT treeTable pw (w.withFollow "special-get-raises" false) 11 dK 1 101 (tJ (w.withFollow "special-get-raises" false) os) (piecesOf tN ej cm ⟨67,0,67,11⟩ [topFrame dp])=some (.next,tK (w.withFollow "special-get-raises" false) os,cm,⟨68,0,68,12⟩):=by
 unfold piecesOf
 rw[fB,fh,fC]
 rfl'
theorem VJ(w:World)(os:OsState):segRunT treeTable pw (w.withFollow "special-get-raises" true) 11 dK 1 101 (tJ (w.withFollow "special-get-raises" true) os) (piecesOf tN ej cm ⟨67,0,67,11⟩ [topFrame dp])=some (.next,tK (w.withFollow "special-get-raises" true) os,cm,⟨68,0,68,12⟩):=by
 unfold piecesOf
 rw[fB,fh,fC]
 rfl'
theorem B8(w:World)(os:OsState):segRunT treeTable pw w 11 dK 1 101 (tJ w os) (piecesOf tN ej cm ⟨67,0,67,11⟩ [topFrame dp])=some (.next,tK w os,cm,⟨68,0,68,12⟩):=
 byRow2 "special-get-raises" (P:=λw=>segRunT treeTable pw w 11 dK 1 101 (tJ w os) (piecesOf tN ej cm ⟨67,0,67,11⟩ [topFrame dp])=some (.next,tK w os,cm,⟨68,0,68,12⟩)) (λw=>VI w os) (λw=>VJ w os) w
theorem VL(w:World)(os:OsState):segRunT treeTable pw w 11 dK 1 296 (tK w os) (piecesOf Jw ej cm ⟨68,0,68,12⟩ [topFrame dp])=some (.next,Ji w os,cm,⟨69,0,93,16⟩):=by
 unfold piecesOf
 rw[fB,fh,fC]
 rfl'
theorem VM(w:World)(os:OsState):segRunT treeTable pw w 11 dK 1 378 (Ji w os) (piecesOf Jx ej cm ⟨69,0,93,16⟩ [topFrame dp])=some (.next,Jj w os,cm,⟨118,0,123,34⟩):=by
 unfold piecesOf
 rw[fB,fh,fC]
 rfl'
theorem VN(w:World)(os:OsState):segRunT treeTable pw w 11 dK 1 392 (Jj w os) (piecesOf L8 ej cm ⟨118,0,123,34⟩ [topFrame dp])=some (.next,Jk w os,cm,⟨188,0,191,12⟩):=by
 unfold piecesOf
 rw[fB,fh,fC]
 rfl'
theorem VO(w:World)(os:OsState):segRunT treeTable pw w 11 dK 1 377 (Jk w os) (piecesOf Jy ej cm ⟨188,0,191,12⟩ [topFrame dp])=some (.next,Jl w os,cm,⟨261,0,266,21⟩):=by
 unfold piecesOf
 rw[fB,fh,fC]
 rfl'
theorem VP(w:World)(os:OsState):segRunT treeTable pw w 11 dK 1 377 (Jl w os) (piecesOf Jz ej cm ⟨261,0,266,21⟩ [topFrame dp])=some (.next,Jm w os,cm,⟨378,0,379,76⟩):=by
 unfold piecesOf
 rw[fB,fh,fC]
 rfl'
theorem VQ(w:World)(os:OsState):segRunT treeTable pw w 11 dK 1 276 (Jm w os) (piecesOf JA ej cm ⟨378,0,379,76⟩ [topFrame dp])=some (.next,Jn w os,cm,⟨437,0,437,10⟩):=by
 unfold piecesOf
 rw[fB,fh,fC]
 rfl'
theorem VR(w:World)(os:OsState):segRunT treeTable pw w 11 dK 1 684 (Jn w os) (piecesOf JB ej cm ⟨437,0,437,10⟩ [topFrame dp])=some (.next,Jo w os,cm,⟨438,0,485,17⟩):=by
 unfold piecesOf
 rw[fB,fh,fC]
 rfl'
theorem VS(w:World)(os:OsState):segRunT treeTable pw w 11 dK 1 378 (Jo w os) (piecesOf JC ej cm ⟨438,0,485,17⟩ [topFrame dp])=some (.next,Jp w os,cm,⟨501,0,513,23⟩):=by
 unfold piecesOf
 rw[fB,fh,fC]
 rfl'
theorem VT(w:World)(os:OsState):segRunT treeTable pw w 11 dK 1 133 (Jp w os) (piecesOf JD ej cm ⟨501,0,513,23⟩ [topFrame dp])=some (.next,tL w os,cm,⟨529,0,529,8⟩):=by
 unfold piecesOf
 rw[fB,fh,fC]
 rfl'
theorem VU(w:World)(os:OsState):segRunT treeTable pw (w.withFollow "special-get-raises" false) 11 dK 1 75 (tL (w.withFollow "special-get-raises" false) os) (piecesOf tO ej cm ⟨529,0,529,8⟩ [topFrame dp])=some (.next,nC (w.withFollow "special-get-raises" false) os,cm,⟨530,0,530,6⟩):=by
 unfold piecesOf
 rw[fB,fh,fC]
 rfl'
theorem VV(w:World)(os:OsState):segRunT treeTable pw (w.withFollow "special-get-raises" true) 11 dK 1 75 (tL (w.withFollow "special-get-raises" true) os) (piecesOf tO ej cm ⟨529,0,529,8⟩ [topFrame dp])=some (.next,nC (w.withFollow "special-get-raises" true) os,cm,⟨530,0,530,6⟩):=by
 unfold piecesOf
 rw[fB,fh,fC]
 rfl'
theorem VW(w:World)(os:OsState):segRunT treeTable pw w 11 dK 1 75 (tL w os) (piecesOf tO ej cm ⟨529,0,529,8⟩ [topFrame dp])=some (.next,nC w os,cm,⟨530,0,530,6⟩):=
 byRow2 "special-get-raises" (P:=λw=>segRunT treeTable pw w 11 dK 1 75 (tL w os) (piecesOf tO ej cm ⟨529,0,529,8⟩ [topFrame dp])=some (.next,nC w os,cm,⟨530,0,530,6⟩)) (λw=>VU w os) (λw=>VV w os) w
theorem VX(w:World)(os:OsState):segRunT treeTable pw (w.withFollow "special-get-raises" false) 11 dK 1 109 (nC (w.withFollow "special-get-raises" false) os) (piecesOf tP ej cm ⟨530,0,530,6⟩ [topFrame dp])=some (.next,tM (w.withFollow "special-get-raises" false) os,cm,⟨531,0,531,12⟩):=by
 unfold piecesOf
 rw[fB,fh,fC]
 rfl'
theorem VY(w:World)(os:OsState):segRunT treeTable pw (w.withFollow "special-get-raises" true) 11 dK 1 109 (nC (w.withFollow "special-get-raises" true) os) (piecesOf tP ej cm ⟨530,0,530,6⟩ [topFrame dp])=some (.next,tM (w.withFollow "special-get-raises" true) os,cm,⟨531,0,531,12⟩):=by
 unfold piecesOf
 rw[fB,fh,fC]
 rfl'
theorem VZ(w:World)(os:OsState):segRunT treeTable pw w 11 dK 1 109 (nC w os) (piecesOf tP ej cm ⟨530,0,530,6⟩ [topFrame dp])=some (.next,tM w os,cm,⟨531,0,531,12⟩):=
 byRow2 "special-get-raises" (P:=λw=>segRunT treeTable pw w 11 dK 1 109 (nC w os) (piecesOf tP ej cm ⟨530,0,530,6⟩ [topFrame dp])=some (.next,tM w os,cm,⟨531,0,531,12⟩)) (λw=>VX w os) (λw=>VY w os) w
theorem V0(w:World)(os:OsState):segRunT treeTable pw w 11 dK 1 386 (tM w os) (piecesOf JE ej cm ⟨531,0,531,12⟩ [topFrame dp])=some (.next,Jq w os,cm,⟨643,0,643,9⟩):=by
 unfold piecesOf
 rw[fB,fh,fC]
 rfl'
theorem V1(w:World)(os:OsState):segRunT treeTable pw w 11 dK 1 389 (Jq w os) (piecesOf JF ej cm ⟨643,0,643,9⟩ [topFrame dp])=some (.next,Jr w os,cm,⟨726,0,726,8⟩):=by
 unfold piecesOf
 rw[fB,fh,fC]
 rfl'
theorem V2(w:World)(os:OsState):segRunT treeTable pw w 11 dK 1 369 (Jr w os) (piecesOf JG ej cm ⟨726,0,726,8⟩ [topFrame dp])=some (.next,Js w os,cm,⟨775,0,835,15⟩):=by
 unfold piecesOf
 rw[fB,fh,fC]
 rfl'
theorem V3(w:World)(os:OsState):topGo treeTable pw w 11 dK 12 ⟨boot_heap w.params,#[],boot_drawn,boot_toks,os⟩ (topStub pw)=some ((tH w os).abs,⟨denote treeTable cm,cm,dp,[topFrame dp]⟩):=by
 rw[PySem.W.Fast.te15667345088766844465,fh,PySem.W.Fast.te11892475500146522536]
 rfl'
theorem V4(w:World)(os:OsState):segRun treeTable pw w 11 dK 1 1 (tH w os).abs (blockOf bd ej cm dp [topFrame dp])=some (.next,(tH w os).abs,cm,dp):=by
 rfl'
theorem V5(w:World)(os:OsState):topRun treeTable pw w 11 dK 2 (Js w os).abs ⟨doneF .next,cm,⟨775,0,835,15⟩,[topFrame dp]⟩=some (ws w os).abs:=by
 rfl'
theorem V6:bd=(L0++(Jt++(Ju++(L3++(Jv++(tN++(Jw++(Jx++(L8++(Jy++(Jz++(JA++(JB++(JC++(JD++(tO++(tP++(JE++(JF++(JG++[])))))))))))))))))))):=by rfl'
theorem V7(w:World)(os:OsState):topRun treeTable pw w 11 dK (270+(251+(393+(398+(21+(101+(296+(378+(392+(377+(377+(276+(684+(378+(133+(75+(109+(386+(389+(369+2)))))))))))))))))))) (tH w os).abs (restOf bd ej cm dp [topFrame dp])=some (ws w os).abs:=by
 rw[V6]
 exact(piece_app (segRun_of (rh w os)) (piece_app (segRun_of (g1 w os)) (piece_app (segRun_of (g2 w os)) (piece_app (segRun_of (B6 w os)) (piece_app (segRun_of (B7 w os)) (piece_app (segRun_of (B8 w os)) (piece_app (segRun_of (VL w os)) (piece_app (segRun_of (VM w os)) (piece_app (segRun_of (VN w os)) (piece_app (segRun_of (VO w os)) (piece_app (segRun_of (VP w os)) (piece_app (segRun_of (VQ w os)) (piece_app (segRun_of (VR w os)) (piece_app (segRun_of (VS w os)) (piece_app (segRun_of (VT w os)) (piece_app (segRun_of (VW w os)) (piece_app (segRun_of (VZ w os)) (piece_app (segRun_of (V0 w os)) (piece_app (segRun_of (V1 w os)) (piece_app (segRun_of (V2 w os)) (piece_nil (V5 w os))))))))))))))))))))))
noncomputable def B9:Nat:=6068
theorem V8(w:World)(os:OsState):topRun treeTable pw w 11 dK B9 ⟨boot_heap w.params,#[],boot_drawn,boot_toks,os⟩ (topStub pw)=some (ws w os).abs:=
 go_top (V3 w os) (piece_block (V4 w os) (V7 w os))
noncomputable def H1(P:Params):Heap:=absHeap (T21 P) 892 {}
theorem V9(w:World)(os:OsState):(ws w os).abs=⟨H1 w.params,#[],{},1545,os⟩:=by rfl'
theorem Wa(w:World)(os:OsState):topRun treeTable pw w 11 dK B9 ⟨boot_heap w.params,#[],boot_drawn,boot_toks,os⟩ (topStub pw)=some ⟨H1 w.params,#[],{},1545,os⟩:=(V8 w os).trans (congrArg some (V9 w os))
noncomputable def ri:Stmt:=aA 165
def qv:Program:={pw with main:={pw.main with body:=[ri]}}
def Wb:=an "law"
def loose0:List Str:=pw.boundNames.filter (λn=>n !=Wb)
noncomputable def Ca:Shared->Bool:=λ_=>true
theorem Wc(w:World):((boot_heap w.params).isNs mainGlobals&&(#[]:Array GenState).size==0,(boot_heap w.params).objs.size,(boot_heap w.params).nsMap mainGlobals "__annotations__")=(true,11,dK):=by rfl'
theorem Wd(w:World):staticsOk (importedModules pw.main.body) (boot_heap w.params) (H1 w.params)=true:=by rfl'
theorem We(w:World):namesBound pw (H1 w.params)=true:=by rfl'
theorem Wf(w:World):laidKept (boot_heap w.params) (H1 w.params)=true:=by rfl'
noncomputable def JH(w:World)(os:OsState):Shared:=⟨H1 w.params,#[],{},1545,os⟩
theorem an4:chainsOk qv=true:=by rfl'
theorem an5:opensWell pw=true:=by rfl'
theorem an6(w:World)(os:OsState):seen ((recsOf qv).map (·.name)) (ownsOf qv) [] {JH w os with gens:= #[]}=expectedOf qv:=by rfl'
theorem an7(w:World)(os:OsState):(H1 w.params).bltView=bltViewBooted:=by rfl'
theorem Cb:importedModules pw.main.body=[]:=by rfl'
theorem Wg(w:World)(os:OsState):openSeen qv loose0 [] Ca true (JH w os)=openGood qv loose0:=by rfl'
abbrev lawRow:OpenRow:=PySem.Challenge.rw_pc0112_01.row
noncomputable def XP0:(Str->Option Value)->Heap->Prop:=λ_ _=>True
noncomputable def YP0:World->Heap->Prop:=λw h=>∀b o,(H1 w.params).get? b=some o->h.get? b=some o
def d0:DefRec:={name:=PySem.Challenge.rw_pc0112_01.name,params:=mh (aA 165),body:=q1 (aA 165),scope:=nl (aA 165),pos:=match aA 165 with| .FunctionDef _ _ _ _ _ _ _ _ _ p=>p|_=>default}
theorem Wh:LeftO pw qv loose0 Ca (λs=>s.heap) (λw=>H1 w.params) 20000:=by
 refine LeftO.of_pieces (H₀:=boot_heap) (H₁:=H1) (gs₀:= #[]) (gs₁:= #[]) (d₀:=boot_drawn) (d₁:={}) (k₀:=boot_toks) (k₁:=1545) (m₀:=11) (ann:=dK) (M:=B9) ?_ ?_ ?_ ?_ ?_
 .exact λw=>boot_open (p:=pw) (by rfl') (by rfl') (λs=>by rfl') w
 .exact Wc
 .exact Wa
 .rfl'
 .intro w
  funext os
  rw[Cb,<-Cb,Wd,We,Wf,Cb]
  exact congrArg (λx=>(true,x,H1 w.params)) (Wg w os)
theorem Wi:defOf qv lawRow.name=some (d0,[]):=by rfl'
theorem Wj:lawRow.prog.theDef lawRow.name=some (d0.params,d0.body,d0.scope):=by rfl'
theorem Wk:lawRow.toRowW.promised:=by
 w_witness2
theorem holds0(walk:WalkO qv loose0 XP0 YP0 lawRow.toRowW d0 [] (λf vs=>call f vs)):PySem.Challenge.rw_pc0112_01.Holds:=by
 refine holds_law SR λWl=>?_
 refine holds_open (q:=qv) (loose:=loose0) (Xt:=Ca) (XP:=XP0) (Yf:=λs=>s.heap) (Ya:=λw=>H1 w.params) (YP:=YP0) (d:=d0) (kwd:=[]) (N:=20000) Wh
  (λw s e=>?_) (λw h h' y k=>?_) (λs _=>trivial) (λbp h h' x k=>trivial) Wi Wj rfl (λs _=>recFacts_nil rfl) rfl Wl (by rfl') ⟨rfl,rfl,rfl,rfl,rfl,SU⟩ Wk walk
 .exact λb o q=>e▸q
 .exact λb o q=>k b o (y b o q)
end Mine.Hd
end
noncomputable section
open PySem PySem.W PyProof.Rows
namespace Mine
inductive V where
 |none
 |bool (b:Bool)
 |int (i:Int)
 |str (s:Str)
 |tup (l:List V)
 |list (l:List V)
 |dict (l:List (V×V))
 |ty (r:V)
 |tab
 |host
 |decl (k:Nat)
noncomputable def f0:List Nat->List Nat->Bool
 |[],l=>l.isEmpty
 |a::x,l=>match l with
  |[]=>false
  |b::y=>Nat.beq a b&&f0 x y
def a9 (a b:Str):Bool:=f0 a.cps.toList b.cps.toList
noncomputable def jL:Int->Option Nat
 | .ofNat k=>some k
 | .negSucc _=>none
def cN (a b:Int):Bool:=match a with
 | .ofNat a=>(match jL b with
  |some b=>Nat.beq a b
  |none=>false)
 | .negSucc a=>(match jL (-b - 1) with
  |some b=>Nat.beq a b
  |none=>false)
noncomputable def h4 (a b:Int):Bool:=match b - a with| .ofNat _=>true| .negSucc _=>false
noncomputable def e0 (a b:Int):Bool:=match b - a with| .ofNat n=> !Nat.beq n 0| .negSucc _=>false
noncomputable def od {α bR:Type} (x:Option α) (f:α->Option bR):Option bR:=match x with
 |some a=>f a
 |none=>none
noncomputable def ow {α:Type} (c:Bool) (x:Option α):Option α:=match c with
 |true=>x
 |false=>none
noncomputable def ci {α:Type} (x:Option α) (f:α->Bool):Bool:=match x with
 |some a=>f a
 |none=>false
noncomputable def oX:V->Bool
 | .none=>true
 |_=>false
noncomputable def wt:V->Option Bool
 | .bool b=>some b
 |_=>none
noncomputable def ja:V->Option Int
 | .int i=>some i
 |_=>none
noncomputable def wu:V->Option Str
 | .str s=>some s
 |_=>none
noncomputable def kp:V->Option (List V)
 | .tup l=>some l
 |_=>none
noncomputable def rj:V->Option (List V)
 | .list l=>some l
 |_=>none
noncomputable def oY:V->Option (List (V×V))
 | .dict l=>some l
 |_=>none
noncomputable def tQ:V->Option V
 | .ty r=>some r
 |_=>none
noncomputable def JI:V->Option Nat
 | .decl k=>some k
 |_=>none
noncomputable def tR:V->Bool
 | .tab=>true
 |_=>false
noncomputable def isInt:V->Bool
 | .int _=>true
 |_=>false
noncomputable def isStr:V->Bool
 | .str _=>true
 |_=>false
noncomputable def gw:V->Bool
 | .tup _=>true
 |_=>false
def kq (v:V):Option Nat:=od (ja v) jL
def Cc (v:V):Bool:=ci (ja v) λi=>match i with
 | .ofNat _=>false
 | .negSucc k=>Nat.beq k 0
noncomputable def hd:V->Option (List V)
 | .tup l=>some l
 | .list l=>some l
 |_=>none
mutual
noncomputable def V.same:V->V->Bool
 | .none,b=>oX b
 | .bool a,b=>ci (wt b) λb=>a==b
 | .int a,b=>ci (ja b) (cN a)
 | .str a,b=>ci (wu b) (a9 a)
 | .tup a,b=>ci (kp b) (V.ma a)
 | .list a,b=>ci (rj b) (V.ma a)
 | .ty a,b=>ci (tQ b) (V.same a)
 |_,_=>false
noncomputable def V.ma:List V->List V->Bool
 |[],b=>b.isEmpty
 |a::x,b=>match b with
  |[]=>false
  |b::y=>V.same a b&&V.ma x y
end
structure T where
 base:List V
 dyn:List V
 bld:Bool
 decls:List V
 bounds:List Int
 cnt:Nat
 I:Option (List V):=none
def rk (n:Nat):V->Bool
 | .int i=>e0 i n
 | .str _=>true
 | .ty _=>true
 |_=>false
noncomputable def nE {α:Type} (d:Bool) (f:α->Bool):Option (List α)->Bool
 |some l=>l.all f
 |none=>d
def V.key (n:Nat):Nat->V->Bool
 |0,v=>rk n v
 |d+1,v=>nE (rk n v) (V.key n d) (kp v)
noncomputable def V.flat:V->Bool
 | .dict _=>false
 | .tab=>false
 | .host=>false
 | .decl _=>false
 |_=>true
def dL (x:V):List V->Nat->Option Nat
 |[],_=>none
 |y::r,n=>match V.same y x with
  |true=>some n
  |false=>dL x r (n+1)
def rl (v:V):Bool:=ci (kp v) λl=>ci l.head? λh=>ci (kq h) λk=>Nat.beq k 6||Nat.beq k 7
def T.rowOf (H:T) (v:V):Option V:=match tQ v with
 |some r=>some r
 |none=>od (kq v) λi=>H.base[i]?
noncomputable def T.kb (H:T):Nat:=match H.bld with
 |true=>64
 |false=>H.base.length
noncomputable def Cd (row:V) (l:List V):Option Nat->List V
 |some _=>l
 |none=>l++[row]
def T.putN (H:T) (row:V):Option Nat->Option (V×T)
 |some i=>some (.int i,H)
 |none=>cond H.bld (some (.int H.base.length,{H with base:=H.base++[row],cnt:=H.cnt+1}))
   (ow (rl row) (some (.ty row,{H with dyn:=Cd row H.dyn (dL row H.dyn 0),cnt:=H.cnt+1})))
def T.put (H:T) (row:V):Option (V×T):=ow (gw row&&V.key H.kb 4 row) (T.putN H row (dL row H.base 0))
noncomputable def Wm:Option Nat->Int
 |some i=>i
 |none=> -1
def T.find (H:T) (row:V):Option V:=ow (gw row&&V.key H.kb 4 row&& !rl row&& !H.bld) (some (.int (Wm (dL row H.base 0))))
def T.pos (H:T) (r:V):Nat:=(dL r H.dyn 0).getD 0
def T.SO (H:T) (r:V):Bool:=match H.I with
 |none=>true
 |some l=>(dL r l 0).isSome
def T.amL (H:T) (a:Int):V->Option Bool
 | .int b=>some (h4 a b)
 | .ty _=>ow (e0 a H.base.length) (some true)
 |_=>none
def T.amO (H:T) (r:V):V->Option Bool
 | .int b=>ow (e0 b H.base.length) (some false)
 | .ty s=>ow (H.SO r&&H.SO s) (some (Nat.ble (H.pos r) (H.pos s)))
 |_=>none
def T.le (H:T) (a b:V):Option Bool:=match a with
 | .int a=>H.amL a b
 | .ty r=>H.amO r b
 |_=>none
def T.ins (H:T) (x:V):List V->Option (List V)
 |[]=>some [x]
 |y::r=>od (H.le x y) λt=>cond t (some (x::y::r)) (od (H.ins x r) λl=>some (y::l))
def T.sort (H:T):List V->Option (List V)
 |[]=>some []
 |x::r=>od (H.sort r) (H.ins x)
def T.Ia (H:T) (a:Int):V->Option Bool
 | .int b=>some (cN a b)
 | .str _=>some false
 | .ty _=>ow (e0 a H.base.length) (some false)
 |_=>none
def T.H4 (a:Str):V->Option Bool
 | .str b=>some (a9 a b)
 | .int _=>some false
 | .ty _=>some false
 |_=>none
def T.eqT (H:T) (a:V):V->Option Bool
 | .ty b=>some (V.same a b)
 | .str _=>some false
 | .int b=>ow (e0 b H.base.length) (some false)
 |_=>none
mutual
noncomputable def T.eq (H:T):V->V->Option Bool
 | .none,b=>ow (oX b) (some true)
 | .bool a,b=>od (wt b) λb=>some (a==b)
 | .int a,b=>H.Ia a b
 | .str a,b=>T.H4 a b
 | .ty a,b=>H.eqT a b
 | .tup a,b=>od (kp b) (H.eqs a)
 |_,_=>none
noncomputable def T.eqs (H:T):List V->List V->Option Bool
 |[],b=>some b.isEmpty
 |a::x,b=>match b with
  |[]=>some false
  |b::y=>od (H.eq a b) λt=>cond t (H.eqs x y) (some false)
end
def T.mem (H:T) (x:V):List V->Option Bool
 |[]=>some false
 |y::r=>od (H.eq y x) λt=>cond t (some true) (H.mem x r)
def T.l7 (H:T) (a b:V):Option Bool:=ow (isStr a==isStr b) (H.eq a b)
def T.get (H:T) (x:V):List (V×V)->Option (Option V)
 |[]=>some none
 |p::r=>od (H.l7 p.1 x) λt=>cond t (some (some p.2)) (H.get x r)
def T.k7 (H:T) (x v:V):List (V×V)->Option (List (V×V))
 |[]=>some [(x,v)]
 |p::r=>od (H.l7 p.1 x) λt=>cond t (some ((p.1,v)::r)) (od (H.k7 x v r) λl=>some (p::l))
noncomputable def cz {α:Type} (l:List α):Bool:=Nat.ble l.length 4096
def V.jB:Nat->V->Bool
 |0,v=>nE true (λ_=>false) (od (hd v) λl=>some (v::l))
 |d+1,v=>nE true (V.jB d) (hd v)
def V.truth:V->Option Bool
 | .none=>some false
 | .bool b=>some b
 | .int i=>some (!cN i 0)
 | .tup l=>ow (cz l) (some (!l.isEmpty))
 | .list l=>ow (cz l) (some (!l.isEmpty))
 |_=>Option.none
noncomputable def jb:V->Bool
 | .int _=>true
 | .ty _=>true
 | .str _=>true
 |_=>false
noncomputable def mj:V->Bool
 | .int _=>true
 | .ty _=>true
 |_=>false
def tS (l:List V):Int->Option V
 | .ofNat i=>l[i]?
 | .negSucc i=>ow (Nat.ble (i+1) l.length) (l[l.length - (i+1)]?)
abbrev am:=List (Str×V×Bool)
def a2:am->Str->Option (V×Bool)
 |[],_=>none
 |p::r,x=>cond (a9 p.1 x) (some p.2) (a2 r x)
def cb:am->Str->V->Bool->am
 |[],x,v,o=>[(x,v,o)]
 |p::r,x,v,o=>cond (a9 p.1 x) ((p.1,v,o)::r) (p::cb r x v o)
def lk:List (Str×NameKind)->Str->Option NameKind
 |[],_=>none
 |p::r,x=>cond (a9 p.1 x) (some p.2) (lk r x)
inductive Fl where
 |next
 |ret (v:V)
noncomputable def oZ:List Nat->Bool
 |[]=>true
 |c::r=>Nat.blt c 1114112&&oZ r
def JJ:Const->Option V
 | .none=>some .none
 | .bool b=>some (.bool b)
 | .int i=>some (.int i)
 | .str s=>ow (oZ s.cps.toList) (some (.str s))
 |_=>none
def lb {α:Type} (a b:V) (f:Int->Int->Option α):Option α:=od (ja a) λa=>od (ja b) λb=>f a b
def JK:V->V->Option V
 | .int a,b=>od (ja b) λb=>some (.int (a+b))
 | .tup a,b=>od (kp b) λb=>ow (cz (a++b)) (some (.tup (a++b)))
 | .list a,b=>od (rj b) λb=>ow (cz (a++b)) (some (.list (a++b)))
 |_,_=>none
def kr:Operator->V->V->Option V
 | .Add,a,b=>JK a b
 | .Sub,a,b=>lb a b λa b=>some (.int (a - b))
 | .Mult,a,b=>lb a b λa b=>ow (h4 0 a&&h4 a 1000000) (some (.int (a*b)))
 | .FloorDiv,a,b=>lb a b λa b=>ow (e0 0 b&&h4 b 1000000) (some (.int (Int.fdiv a b)))
 | .Mod,a,b=>lb a b λa b=>ow (e0 0 b) (some (.int (Int.fmod a b)))
 | .BitAnd,a,b=>od (kq a) λa=>od (kq b) λb=>some (.int (Nat.land a b:Nat))
 |_,_,_=>none
def wv (x:Option Bool):Option Bool:=od x λb=>some (!b)
def JL (a b:V):Option Bool:=ow (oX b) (match a with
 | .none=>some true
 | .tup _=>some false
 | .list _=>some false
 |_=>none)
def Ce (H:T) (a:V):V->Option Bool
 | .tup l=>ow (V.jB 20 a&&a.flat) (H.mem a l)
 | .list l=>ow (V.jB 20 a&&a.flat) (H.mem a l)
 | .dict l=>ow (jb a) (od (H.get a l) λo=>some o.isSome)
 |_=>none
def cX (H:T):CmpOp->V->V->Option Bool
 | .Eq,a,b=>ow (V.jB 20 a) (H.eq a b)
 | .NotEq,a,b=>ow (V.jB 20 a) (wv (H.eq a b))
 | .Lt,a,b=>lb a b λa b=>some (e0 a b)
 | .LtE,a,b=>lb a b λa b=>some (h4 a b)
 | .Gt,a,b=>lb a b λa b=>some (e0 b a)
 | .GtE,a,b=>lb a b λa b=>some (h4 b a)
 | .Is,a,b=>JL a b
 | .In,a,b=>Ce H a b
 | .NotIn,a,b=>wv (Ce H a b)
 |_,_,_=>none
def rm:List V->Option (List Bool)
 |[]=>some []
 |v::r=>od (wt v) λb=>od (rm r) λl=>some (b::l)
noncomputable def rn (i:Nat):Nat->List V
 |0=>[]
 |n+1=> .int i::rn (i+1) n
def dy:=an "len"
def ww:=an "all"
def tT:=an "any"
def tU:=an "sorted"
def tV:=an "tuple"
def Cf:=an "min"
def JM:=an "max"
def h5:=an "range"
def mm:=an "isinstance"
def tW:=an "str"
def h6:=an "rows"
def kt:=an "decls"
def ku:=an "bounds"
def jc:=an "index"
def cF:=an "tab"
def fT:=an "body"
def lc:=an "bases"
def o6:Str:="get"
def h7:Str:="put"
def jd:=an "append"
def wx:=an "extend"
def tX:=an "new_decl"
def tY:=an "new_param"
def dM:=an ".0"
def Cg:=an "__debug__"
def Ch:=an "__classdict__"
noncomputable def fD {α:Type}:List α->Option α
 |[]=>none
 |a::r=>match r with
  |[]=>some a
  |_::_=>none
def mn {α:Type}:List α->Option (α×α)
 |[]=>none
 |a::r=>od (fD r) λb=>some (a,b)
def Ci:V->Option V
 | .tup l=>ow (cz l) (some (.int l.length))
 | .list l=>ow (cz l) (some (.int l.length))
 | .dict l=>ow (cz l) (some (.int l.length))
 |_=>none
def rp (f:List Bool->Bool) (v:V):Option V:=od (rj v) λl=>ow (cz l) (od (rm l) λbs=>some (.bool (f bs)))
def Cj (H:T) (v:V):Option V:=od (oY v) λl=>ow (Nat.ble l.length 63&&l.all (λp=>mj p.1)) (od (H.sort (l.map (·.1))) λl=>some (.list l))
def Ck:V->Option V
 | .list l=>ow (cz l) (some (.tup l))
 | .tup l=>some (.tup l)
 |_=>none
def Cm (f:Int->Int->Int) (q:V×V):Option V:=lb q.1 q.2 λa b=>some (.int (f a b))
def Wn (a b:Int):Int:=cond (e0 b a) b a
def Wo (a b:Int):Int:=cond (e0 a b) b a
def f1 (H:T) (x:Str) (as:List V):Option V:=
 cond (a9 x dy) (od (fD as) Ci) (cond (a9 x ww) (od (fD as) (rp λl=>l.all id)) (cond (a9 x tT) (od (fD as) (rp λl=>l.any id)) (cond (a9 x tU) (od (fD as) (Cj H))
  (cond (a9 x tV) (od (fD as) Ck) (cond (a9 x Cf) (od (mn as) (Cm Wn)) (ow (a9 x JM) (od (mn as) (Cm Wo))))))))
def wi (l u:V):List V->Option V
 |[]=>none
 |x::r=>ow (oX l&&Cc u&&cz r) (some (.tup ((x::r).take r.length)))
def JN (a4:List V) (l u:V):Option V:=ow (cz a4) (cond (oX u) (od (kq l) λa=>some (.list (a4.drop a))) (ow (oX l) (od (kq u) λb=>some (.list (a4.take b)))))
def o7 (b l u:V):Option V:=match b with
 | .list a4=>JN a4 l u
 | .tup a4=>wi l u a4
 |_=>none
def fE (H:T) (b k:V):Option V:=match b with
 | .tup l=>od (ja k) λi=>ow (cz l) (tS l i)
 | .list l=>od (ja k) λi=>ow (cz l) (tS l i)
 | .dict l=>ow (jb k) (od (H.get k l) id)
 |_=>none
noncomputable def ek:Expr->Option Str
 | .Name x _=>some x
 |_=>none
structure Att where
 o:Expr
 a:Str
 p:Pos
noncomputable def lg :Expr->Option Att
 | .Attribute o a p=>some ⟨o,a,p⟩
 |_=>none
noncomputable def Wp:Expr->Option Expr
 | .Subscript b _ _=>some b
 |_=>none
def Wq:Expr->Option Att
 | .Call f _ _ _=>lg f
 |_=>none
def tZ (x:Str):Nat->Stmt->Bool
 |0,_=>true
 |n+1,s=>match s with
  | .Expr e _=>ci (Wq e) λq=>ci (ek q.o) λy=>a9 x y&&(a9 q.a jd||a9 q.a wx)
  | .Assign cO _ _=>cO.any λt=>ci (Wp t) λb=>ci (ek b) (a9 x)
  | .If _ b o _=>b.any (tZ x n)||o.any (tZ x n)
  | .For _ _ b o _=>b.any (tZ x n)||o.any (tZ x n)
  |_=>false
def fU (x:Str) (b:List Stmt):Bool:=b.any (tZ x 12)
def JO (x:Str):Option Str->Bool
 |some y=>a9 x y
 |none=>true
def o8 (x:Str):Expr->Bool
 | .Name y _=>a9 x y
 | .Tuple es _ _=>es.any λe=>JO x (ek e)
 | .Subscript ..=>false
 | .Attribute ..=>false
 |_=>true
def fV (x:Str):Nat->Stmt->Bool
 |0,_=>true
 |n+1,s=>match s with
  | .Expr ..=>false
  | .Return ..=>false
  | .Assign cO _ _=>cO.any (o8 x)
  | .If _ b o _=>b.any (fV x n)||o.any (fV x n)
  | .For t _ b o _=>o8 x t||b.any (fV x n)||o.any (fV x n)
  |_=>true
def kv (x:Str) (b:List Stmt):Bool:=b.any (fV x 12)
structure Fn where
 st:Stmt
 dfl:List V
noncomputable def Fn.ps (f:Fn):List Str:=match f.st with
 | .FunctionDef _ a _ _ _ _ _ _ _ _=>a.args.map (·.arg)
 |_=>[]
noncomputable def Fn.bd (f:Fn):List Stmt:=match f.st with
 | .FunctionDef _ _ b _ _ _ _ _ _ _=>b
 |_=>[]
noncomputable def Fn.sc (f:Fn):Scope:=match f.st with
 | .FunctionDef _ _ _ _ _ _ s _ _ _=>s
 |_=>default
structure Cx where
 sc:Scope
 bd:List Stmt
structure Gl where
 val:Str->Option V
 fn:Str->Option Fn
 i3:Str->Option Fn
 free:Str->Bool
mutual
noncomputable def V.k5:V->Bool
 | .list _=>false
 | .tup l=>V.H9 l
 | .dict _=>false
 |_=>true
noncomputable def V.H9:List V->Bool
 |[]=>true
 |v::r=>V.k5 v&&V.H9 r
end
mutual
noncomputable def V.l8:V->Bool
 | .dict _=>false
 | .tup l=>V.zA l
 | .list l=>V.zA l
 |_=>true
noncomputable def V.zA:List V->Bool
 |[]=>true
 |v::r=>V.l8 v&&V.zA r
end
noncomputable def JP:V->Bool
 | .dict _=>true
 |_=>false
def lh (r:V) (s:V×Bool):Bool:=cond s.2 (cond (JP s.1) (V.l8 r) (V.k5 r)) true
def t0 (J:am) (r:V) (e:Expr):Bool:=match od (ek e) (a2 J) with
 |some s=>lh r s
 |none=>true
def gx (J:am) (r:V):List Expr->Bool
 |[]=>true
 |e::es=>t0 J r e&&gx J r es
def o9 (ps:List Str) (as dfl:List V):Option am:=
 ow (Nat.ble as.length ps.length&&Nat.ble (ps.length - as.length) dfl.length) (some ((ps.zip (as++dfl.drop (dfl.length - (ps.length - as.length)))).map λq=>(q.1,q.2,false)))
noncomputable def ob {α bR:Type} (x:Option (α×T)) (f:α->T->Option bR):Option bR:=match x with
 |some (a,s)=>f a s
 |none=>none
def oc {α:Type} (x:Option (Fl×am×T)) (f:Fl->am->T->Option α):Option α:=match x with
 |some (a,r,s)=>f a r s
 |none=>none
noncomputable def pt {α:Type} (H:T) (x:Option α):Option (α×T):=match x with
 |some a=>some (a,H)
 |none=>none
def thn (x:Option (Fl×am×T)) (k:am->T->Option (Fl×am×T)):Option (Fl×am×T):=oc x λf J H=>match f with
 | .next=>k J H
 | .ret v=>some (.ret v,J,H)
inductive OB {α bR:Type} (x:Option (α×T)) (f:α->T->Option bR) (r:bR):Prop
 |mk (a:α) (s:T) (e:x=some (a,s)) (k:f a s=some r)
inductive OC {α:Type} (x:Option (Fl×am×T)) (f:Fl->am->T->Option α) (r:α):Prop
 |mk (a:Fl) (J:am) (s:T) (e:x=some (a,J,s)) (k:f a J s=some r)
inductive OD {α bR:Type} (x:Option α) (f:α->Option bR) (r:bR):Prop
 |mk (a:α) (e:x=some a) (k:f a=some r)
theorem b1{α bR:Type}:∀{x:Option (α×T)}{f:α->T->Option bR}{r:bR},ob x f=some r->OB x f r
 |some (a,s),_,_,h=>⟨a,s,rfl,h⟩
theorem rq{α:Type}:∀{x:Option (Fl×am×T)}{f:Fl->am->T->Option α}{r:α},oc x f=some r->OC x f r
 |some (a,J,s),_,_,h=>⟨a,J,s,rfl,h⟩
theorem bD{α bR:Type}:∀{x:Option α}{f:α->Option bR}{r:bR},od x f=some r->OD x f r
 |some a,_,_,h=>⟨a,rfl,h⟩
theorem br{α:Type}:∀{c:Bool}{x:Option α}{r:α},ow c x=some r->c=true/\x=some r
 |true,_,_,h=>⟨rfl,h⟩
theorem pI{α bR:Type}{a b:α}{s t:bR}(h:some (a,s)=some (b,t)){P:α->bR->Prop}(k:P a s):P b t:=by
 injection h with h;injection h with aa ah;subst aa;subst ah;exact k
theorem rr{α bR JQ:Type}{a b:α}{s t:bR}{u v:JQ}(h:some (a,s,u)=some (b,t,v)){P:α->bR->JQ->Prop}(k:P a s u):P b t v:=by
 injection h with h;injection h with aa h;injection h with ah aC;subst aa;subst ah;subst aC;exact k
theorem h8{α:Type}{H:T}:∀{x:Option α}{a:α}{O:T},pt H x=some (a,O)->∀{P:α->T->Prop},(∀a,x=some a->P a H)->P a O
 |some a,_,_,h,_,k=>pI h (k a rfl)
theorem aI{α:Type}{r:α}{P:Prop}(h:none=some r):P:=nomatch h
def gy (c:Cx) (x:Str):Bool:=match lk c.sc.names x with
 |some .globalImplicit=>true
 |_=>false
def fF (c:Cx) (x:Str):Bool:=match lk c.sc.names x with
 |some .local|some .cell|some .free=>true
 |_=>false
def d6 (c:Cx) (x:Str):Bool:=match lk c.sc.names x with
 |some .local|some .cell=> !a9 x dM
 |_=>false
def dz (f:Expr->T->Option (V×T)):List Expr->T->Option (List V×T)
 |[],H=>some ([],H)
 |e::r,H=>ob (f e H) λv H=>ob (dz f r H) λvs H=>some (v::vs,H)
def pa (f:Expr->T->Option (V×T)):List (Option Expr)->List Expr->T->Option (List (V×V)×T)
 |[],l,H=>match l with
  |[]=>some ([],H)
  |_::_=>none
 |k::ks,l,H=>match k with
  |none=>none
  |some k=>match l with
   |[]=>none
   |v::vs=>ob (f k H) λa H=>ob (f v H) λb H=>ob (pa f ks vs H) λr H=>some ((a,b)::r,H)
noncomputable def wy:BoolOp->Bool->Bool
 | .And,b=> !b
 | .Or,b=>b
def kw (f:Expr->T->Option (V×T)) (op:BoolOp):List Expr->T->Option (V×T)
 |[],_=>none
 |e::r,H=>match r with
  |[]=>f e H
  |bq::d7=>ob (f e H) λv H=>od v.truth λb=>cond (wy op b) (some (v,H)) (kw f op (bq::d7) H)
def gz (f:Expr->T->Option (Bool×T)) (op:BoolOp):List Expr->T->Option (Bool×T)
 |[],H=>some (match op with| .And=>true| .Or=>false,H)
 |e::r,H=>ob (f e H) λb H=>cond (wy op b) (some (b,H)) (gz f op r H)
def gR (test:V->T->Option (Bool×T)) (elt:V->T->Option (V×T)):List V->T->Option (List V×T)
 |[],H=>some ([],H)
 |v::r,H=>ob (test v H) λb H=>cond b (ob (elt v H) λx H=>ob (gR test elt r H) λa4 H=>some (x::a4,H)) (gR test elt r H)
def je (turn:V->am->T->Option (Fl×am×T)):List V->am->T->Option (Fl×am×T)
 |[],J,H=>some (.next,J,H)
 |v::r,J,H=>thn (turn v J H) λJ H=>je turn r J H
def t3 (c:Cx):List Expr->List V->am->Option am
 |[],l,J=>match l with
  |[]=>some J
  |_::_=>none
 |t::cO,l,J=>od (ek t) λx=>match l with
  |[]=>none
  |v::vs=>ow (d6 c x&& !fU x c.bd) (t3 c cO vs (cb J x v false))
noncomputable def JR:Expr->Option (List Expr)
 | .Tuple cO _ _=>some cO
 |_=>none
def li (c:Cx) (t:Expr) (v:V) (J:am):Option am:=match ek t with
 |some _=>t3 c [t] [v] J
 |none=>od (JR t) λcO=>od (kp v) λvs=>t3 c cO vs J
def Cn (J:am) (f:Expr->T->Option (V×T)) (e:Expr) (H:T):Option Str->Option (V×T)
 |some x=>od (a2 J x) λs=>some (s.1,H)
 |none=>f e H
def b7 (c:Cx) (J:am) (f:Expr->T->Option (V×T)) (e:Expr) (H:T):Option (V×T):=Cn J f e H (od (ek e) λx=>ow (fF c x) (some x))
def wz (x y:Str) (out:List (Str×NameKind)):NameKind->Bool
 | .local=>a9 y x||a9 y dM
 | .cell=>a9 y x
 | .free=>match lk out y with
  |some .cell|some .free=>true
  |_=>false
 | .globalImplicit=>true
 |_=>false
def he (x:Str) (out:List (Str×NameKind)):List (Str×NameKind)->Bool
 |[]=>true
 |(y,k)::r=>wz x y out k&& !a9 y Cg&& !a9 y Ch&& !((lk r y).isSome)&&he x out r
def lj (x:Str) (sc out:Scope):Bool:=(match sc.kind with| .function=>true|_=>false)&&he x out.names sc.names&&(match lk sc.names x with|some .local|some .cell=>true|_=>false)&& !a9 x dM
noncomputable def hA:Expr->Bool
 | .Call ..=>false
 |_=>true
noncomputable def pb:Expr->Bool
 | .ListComp ..| .SetComp ..| .DictComp ..=>true
 |_=>false
noncomputable def ll:Expr->Bool
 | .List ..| .Dict ..| .ListComp ..=>true
 |_=>false
structure Gen where
 x:Str
 it:Expr
 ifs:List Expr
def JS :List Comprehension->Option Gen
 |[]=>none
 |g::r=>match r with
  |_::_=>none
  |[]=>od (ek g.target) λx=>ow (cN g.is_async 0) (some ⟨x,g.iter,g.ifs⟩)
structure Cut where
 lo:Option Expr
 up:Option Expr
noncomputable def rs :Expr->Option Cut
 | .Slice lo up st _=>match st with
  |none=>some ⟨lo,up⟩
  |some _=>none
 |_=>none
noncomputable def Co:Expr->Option Int
 | .Constant k _ _=>match k with
  | .int i=>some i
  |_=>none
 |_=>none
inductive Ak where
 |nm (x:Str)
 |sub (x:Str) (k:Expr)
 |att (x a:Str)
 |bad
def JT:Expr->Ak
 | .Name x _=> .nm x
 | .Subscript b k _=>match ek b with
  |some x=> .sub x k
  |none=> .bad
 | .Attribute b a _=>match ek b with
  |some x=> .att x a
  |none=> .bad
 |_=> .bad
def rt:List Expr->Ak
 |[]=> .bad
 |t::r=>match r with
  |[]=>JT t
  |_::_=> .bad
inductive Xk where
 |i3 (x m:Str) (a:Expr) (l:Bool)
 |fn (f x:Str)
 |eo
def Cp (a:Expr) (q:Pos):Expr->Xk
 | .Attribute o m mp=>match ek o with
  |some x=> .i3 x m a (mp.endLine==q.line)
  |none=> .eo
 | .Name f _=>match ek a with
  |some x=> .fn f x
  |none=> .eo
 |_=> .eo
def wA:Expr->Xk
 | .Call f as ks q=>match ks with
  |_::_=> .eo
  |[]=>match fD as with
   |some a=>Cp a q f
   |none=> .eo
 |_=> .eo
inductive Tk where
 |not (x:Expr)
 |bool (op:BoolOp) (vs:List Expr)
 |ite (t b o:Expr)
 |cmp (l:Expr) (ops:List CmpOp) (a3:List Expr)
 |eo
noncomputable def Wr (x:Expr):UnaryOp->Tk
 | .Not=> .not x
 |_=> .eo
def wB:Expr->Tk
 | .UnaryOp op x _=>Wr x op
 | .BoolOp op vs _=> .bool op vs
 | .IfExp t b o _=> .ite t b o
 | .Compare l ops a3 _=> .cmp l ops a3
 |_=> .eo
def nF :Expr->Option Expr
 | .Call f as ks _=>match ks with
  |_::_=>none
  |[]=>od (ek f) λx=>ow (a9 x h5) (fD as)
 |_=>none
def pc (J:am) (x:Str):Option (List V):=od (a2 J x) λs=>ow s.2 (rj s.1)
def wC (J:am) (x:Str):Option (List (V×V)):=od (a2 J x) λs=>ow s.2 (oY s.1)
def nG (J:am) (x:Str):Option V:=od (a2 J x) λs=>ow s.2 (some s.1)
def t4 (J:am) (x:Str):Option V:=od (a2 J x) λs=>ow (!s.2) (some s.1)
def ru (H:T):List (V×V)->Option (V×T)
 |[]=>some (.dict [],H)
 |p::r=>match r with
  |[]=>ow (isInt p.1&&p.2.flat) (some (.dict [p],H))
  |_::_=>none
def jM (l:List V):Bool:=l.all V.flat&&cz l
def JU (H:T) (a:Str) (i:V):Option V:=
 cond (a9 a h6) (H.rowOf i) (cond (a9 a kt) (od (kq i) λk=>ow (Nat.ble 1 k&&Nat.blt k H.decls.length) (some (.decl k)))
  (ow (a9 a ku) (od (kq i) λk=>od (H.bounds[k]?) λz=>some (.int z))))
def Ws (H:T) (a:Str):V->Option V
 | .host=>ow (a9 a cF) (some .tab)
 | .decl k=>cond (a9 a fT) (H.decls[k]?) (ow (a9 a lc) (some (.tup [])))
 |_=>none
noncomputable def Cq:V->Option V
 | .str _=>some (.bool true)
 | .int _=>some (.bool false)
 |_=>none
def Cr (H:T):List V->Option (V×T)
 |[]=>none
 |t::r=>od (mn r) λq=>ow (tR t&&isInt q.1&&isStr q.2&&(H.bld&&Nat.blt H.decls.length 60)) (some (.decl H.decls.length,{H with decls:=H.decls++[.int (-1)]}))
def Cs (H:T) (l:List V):Option (V×T):=od (mn l) λq=>ow (tR q.1&&isStr q.2&&(H.bld&&Nat.blt H.bounds.length 60)) (({H with bounds:=H.bounds++[-1]}:T).put (.tup [.int 10,.int H.bounds.length]))
def Wt (H:T) (l:List (V×V)) (vs:List V):Option V:=od (mn vs) λq=>ow (jb q.1) (od (H.get q.1 l) λr=>some (r.getD q.2))
noncomputable def Fl.val:Fl->V
 | .next=> .none
 | .ret v=>v
noncomputable def wD (f:Expr->T->Option (V×T)) (H:T):Option Expr->Option (V×T)
 |none=>some (.none,H)
 |some e=>f e H
section
variable (G:Gl)(c:Cx)(J:am)(bM:Expr->T->Option (V×T))(cJ:Fn->List V->T->Option (V×T))
def JV (x:Str) (H:T):Option (V×T):=cond (gy c x) (pt H (G.val x)) (ow (fF c x) (pt H (t4 J x)))
def Ct (x:Expr) (H:T):UnaryOp->Option (V×T)
 | .Not=>ob (b7 c J bM x H) λv H=>od v.truth λb=>some (.bool (!b),H)
 | .USub=>od (Co x) λi=>some (.int (-i),H)
 |_=>none
def wE {α:Type} (l:Expr) (ops:List CmpOp) (a3:List Expr) (H:T) (k:Bool->T->Option α):Option α:=od (fD ops) λo=>od (fD a3) λr=>ob (b7 c J bM l H) λa H=>ob (b7 c J bM r H) λb H=>od (cX H o a b) λt=>k t H
def JW (o s:Expr) (a:Str) (H:T):Option (V×T):=ow (hA o) (ob (bM o H) λb H=>ow (tR b) (ob (bM s H) λi H=>pt H (JU H a i)))
def JX (o:Expr) (a:Str) (H:T):Option (V×T):=ow (hA o) (ob (bM o H) λb H=>pt H (Ws H a b))
def JY (f:Str) (as:List Expr) (H:T):Option (V×T):=cond (a9 f mm)
 (od (mn as) λq=>od (ek q.2) λs=>ow (a9 s tW&&G.free s&&gy c s) (ob (bM q.1 H) λv H=>pt H (Cq v)))
 (ob (dz (b7 c J bM) as H) λl H=>pt H (f1 H f l))
def Wu (f:Str) (as:List Expr) (H:T):Option (V×T):=cond (a9 f tX) (ob (dz bM as H) λl H=>Cr H l) (ow (a9 f tY) (ob (dz bM as H) λl H=>Cs H l))
def JZ (f:Str) (as:List Expr) (H:T):Option Fn->Option (V×T)
 |some fn=>ob (dz (b7 c J bM) as H) λl H=>ob (cJ fn l H) λv H=>ow (gx J v as) (some (v,H))
 |none=>cond (G.free f) (JY G c J bM f as H) (Wu bM f as H)
def J0 (f:Str) (as:List Expr) (H:T):Option (V×T):=ow (gy c f) (JZ G c J bM cJ f as H (G.fn f))
def J1 (q:Att) (m:Str) (l:Bool) (kd:Expr×Expr) (H:T):Option (V×T):=ow (hA q.o&&l&&a9 q.a jc&&a9 m o6) (ob (bM q.o H) λb H=>ow (tR b) (ob (bM kd.1 H) λr H=>ob (bM kd.2 H) λz H=>ow (Cc z) (pt H (H.find r))))
def J2 (m:Str) (as:List Expr) (H:T):V->Option (V×T)
 | .tab=>ow (a9 m h7) (ob (dz bM as H) λl H=>od (fD l) λrow=>H.put row)
 | .host=>od (G.i3 m) λfn=>ob (dz bM as H) λl H=>cJ fn (.host::l) H
 | .dict l=>ow (a9 m o6) (ob (dz bM as H) λcK H=>pt H (Wt H l cK))
 |_=>none
def t5 (o:Expr) (m:Str) (l:Bool) (as:List Expr) (H:T):Option (Att×Expr×Expr)->Option (V×T)
 |some (q,kd)=>J1 bM q m l kd H
 |none=>ow (hA o&&l&&Nat.blt as.length 25) (ob (bM o H) λb H=>J2 G bM cJ m as H b)
def rv (o:Expr) (as:List Expr):Option (Att×Expr×Expr):=od (lg o) λq=>od (mn as) λkd=>some (q,kd)
def Wv (as:List Expr) (p:Pos) (H:T):Expr->Option (V×T)
 | .Name x _=>J0 G c J bM cJ x as H
 | .Attribute o m cj=>t5 G bM cJ o m (cj.endLine==p.line) as H (rv o as)
 |_=>none
def J4 (as:List Expr) (p:Pos) (H:T) (f:Expr):List Keyword->Option (V×T)
 |_::_=>none
 |[]=>Wv G c J bM cJ as p H f
def wF (lm:Option Expr->T->Option (V×T)) (b s:Expr) (H:T):Option Cut->Option (V×T)
 |some q=>ob (b7 c J bM b H) λb H=>ob (lm q.lo H) λl H=>ob (lm q.up H) λu H=>pt H (o7 b l u)
 |none=>ob (b7 c J bM b H) λb H=>ob (bM s H) λi H=>pt H (fE H b i)
def wG (lm:Option Expr->T->Option (V×T)) (b s:Expr) (H:T):Option Att->Option (V×T)
 |some q=>JW bM q.o s q.a H
 |none=>wF c J bM lm b s H (rs s)
def Cu (pd:Expr->T->Option (Bool×T)) (e:Expr) (H:T):Tk->Option (Bool×T)
 | .not x=>ob (pd x H) λb H=>some (!b,H)
 | .bool op vs=>gz pd op vs H
 | .ite t b o=>ob (pd t H) λx H=>pd (cond x b o) H
 | .cmp l ops a3=>wE c J bM l ops a3 H λt H=>some (t,H)
 | .eo=>ob (b7 c J bM e H) λv H=>pt H v.truth
def rx (e:Expr) (H:T):Option Expr->Option (List V×T)
 |some a=>ow (gy c h5&&G.free h5) (ob (bM a H) λv H=>od (kq v) λk=>ow (Nat.ble k 1000) (some (rn 0 k,H)))
 |none=>ob (bM e H) λv H=>pt H (hd v)
end
section
variable (c:Cx)(J:am)(bM:Expr->T->Option (V×T))(dQ:am->T->Option (Fl×am×T))
def Cv (x m:Str) (a:Expr) (l:Bool) (aU:List V) (H:T):Option (Fl×am×T):=ow (d6 c x&&l) (cond (a9 m jd)
 (ob (bM a H) λv H=>ow (v.flat&&cz aU) (dQ (cb J x (.list (aU++[v])) true) H))
 (ow (a9 m wx) (ob (b7 c J bM a H) λv H=>od (rj v) λk=>ow (cz (aU++k)) (dQ (cb J x (.list (aU++k)) true) H))))
def Ww (x:Str) (e:Expr) (H:T):Option (Fl×am×T):=ow (d6 c x) (ob (bM e H) λv H=>ow (!fU x c.bd||ll e) (dQ (cb J x v (fU x c.bd)) H))
def Wx (x:Str) (k e:Expr) (H:T):Option (Fl×am×T):=ob (bM e H) λv H=>od (wC J x) λl=>ow (d6 c x) (ob (bM k H) λi H=>ow (jb i&&v.flat&&cz l) (od (H.k7 i v l) λl=>dQ (cb J x (.dict l) true) H))
def Wy (x a:Str) (e:Expr) (H:T):Option (Fl×am×T):=ob (bM e H) λv H=>od (t4 J x) λd=>od (JI d) λk=>ow (d6 c x&&a9 a fT&&H.bld&&Nat.blt k H.decls.length&&mj v) (dQ J {H with decls:=H.decls.set k v})
def Cw (e:Expr) (H:T):Ak->Option (Fl×am×T)
 | .nm x=>Ww c J bM dQ x e H
 | .sub x k=>Wx c J bM dQ x k e H
 | .att x a=>Wy c J bM dQ x a e H
 | .bad=>none
def J5 (x y:Str):Fl->am->T->Option (Fl×am×T)
 | .next,bg,H=>od (nG bg y) λf2=>dQ (cb J x f2 true) H
 | .ret _,_,_=>none
def J6 (kx:Fn->am->T->Option (Fl×am×T)) (x:Str) (v:V) (H:T) (fn:Fn):Option (Fl×am×T):=
 od (fD fn.ps) λy=>ow (fU y fn.bd&& !kv y fn.bd) (oc (kx fn [(y,v,true)] H) (J5 J dQ x y))
def wH (x m:Str) (a e:Expr) (l:Bool) (H:T):Option (List V)->Option (Fl×am×T)
 |some aU=>Cv c J bM dQ x m a l aU H
 |none=>ob (bM e H) λ_ H=>dQ J H
def wI (G:Gl) (kx:Fn->am->T->Option (Fl×am×T)) (f x:Str) (e:Expr) (H:T):Option V->Option (Fl×am×T)
 |some v=>ow (d6 c x&&gy c f) (od (G.fn f) λfn=>J6 J dQ kx x v H fn)
 |none=>ob (bM e H) λ_ H=>dQ J H
def Cy (G:Gl) (c:Cx) (J:am) (bM:Expr->T->Option (V×T)) (dQ:am->T->Option (Fl×am×T)) (kx:Fn->am->T->Option (Fl×am×T)) (e:Expr) (H:T):Xk->Option (Fl×am×T)
 | .i3 x m a l=>wH c J bM dQ x m a e l H (pc J x)
 | .fn f x=>wI c J bM dQ G kx f x e H (nG J x)
 | .eo=>ow (!pb e) (ob (bM e H) λ_ H=>dQ J H)
end
mutual
noncomputable def aN (G:Gl):Nat->Cx->am->Expr->T->Option (V×T)
 |0,_,_,_,_=>none
 |n+1,c,J,e,H=>match e with
  | .Constant k _ _=>pt H (JJ k)
  | .Name x _=>JV G c J x H
  | .Tuple es _ _=>ob (dz (aN G n c J) es H) λl H=>ow (jM l) (some (.tup l,H))
  | .List es _=>ob (dz (aN G n c J) es H) λl H=>ow (jM l) (some (.list l,H))
  | .Dict ks l _=>ob (pa (aN G n c J) ks l H) λl H=>ru H l
  | .UnaryOp op x _=>Ct c J (aN G n c J) x H op
  | .BinOp l op r _=>ob (b7 c J (aN G n c J) l H) λa H=>ob (b7 c J (aN G n c J) r H) λb H=>pt H (kr op a b)
  | .BoolOp op l _=>kw (aN G n c J) op l H
  | .Compare l ops a3 _=>wE c J (aN G n c J) l ops a3 H λt H=>some (.bool t,H)
  | .IfExp t b o _=>ob (dR G n c J t H) λx H=>aN G n c J (cond x b o) H
  | .ListComp elt nH sc _=>od (JS nH) λq=>ow (lj q.x sc c.sc) (ob (gA G n c J q.it H) λl H=>
    ob (gR (λv H=>gz (dR G n {c with sc:=sc} ((q.x,v,false)::J)) .And q.ifs H) (λv H=>aN G n {c with sc:=sc} ((q.x,v,false)::J) elt H) l H) λl H=>ow (jM l) (some (.list l,H)))
  | .Subscript b s _=>wG c J (aN G n c J) (ln G n c J) b s H (lg b)
  | .Attribute o a _=>JX (aN G n c J) o a H
  | .Call f as ks p=>J4 G c J (aN G n c J) (bK G n) as p H f ks
  |_=>none
noncomputable def dR (G:Gl):Nat->Cx->am->Expr->T->Option (Bool×T)
 |0,_,_,_,_=>none
 |n+1,c,J,e,H=>Cu c J (aN G n c J) (dR G n c J) e H (wB e)
noncomputable def ln (G:Gl):Nat->Cx->am->Option Expr->T->Option (V×T)
 |0,_,_,_,_=>none
 |n+1,c,J,e,H=>wD (aN G n c J) H e
noncomputable def gA (G:Gl):Nat->Cx->am->Expr->T->Option (List V×T)
 |0,_,_,_,_=>none
 |n+1,c,J,e,H=>rx G c (aN G n c J) e H (nF e)
noncomputable def bK (G:Gl):Nat->Fn->List V->T->Option (V×T)
 |0,_,_,_=>none
 |n+1,f,as,H=>ow (!(f.ps.any λp=>fU p f.bd)) (od (o9 f.ps as f.dfl) λJ=>oc (bv G n ⟨f.sc,f.bd⟩ J f.bd H) λbw _ H=>some (bw.val,H))
noncomputable def bv (G:Gl):Nat->Cx->am->List Stmt->T->Option (Fl×am×T)
 |0,_,_,_,_=>none
 |n+1,c,J,cB,H=>match cB with
  |[]=>some (.next,J,H)
  |s::bu=>match s with
   | .Expr e _=>Cy G c J (aN G n c J) (λJ H=>bv G n c J bu H) (λfn J H=>bv G n ⟨fn.sc,fn.bd⟩ J fn.bd H) e H (wA e)
   | .Assign cO e _=>Cw c J (aN G n c J) (λJ H=>bv G n c J bu H) e H (rt cO)
   | .If t b o _=>ob (dR G n c J t H) λx H=>thn (bv G n c J (cond x b o) H) λJ H=>bv G n c J bu H
   | .For t it b o _=>ow o.isEmpty (ob (gA G n c J it H) λl H=>thn (je (λv J H=>od (li c t v J) λJ=>bv G n c J b H) l J H) λJ H=>bv G n c J bu H)
   | .Return e _=>ob (wD (b7 c J (aN G n c J)) H e) λv H=>some (.ret v,J,H)
   |_=>none
end
end Mine
end
noncomputable section
open PySem PySem.W PyProof.Rows
set_option maxHeartbeats 0
namespace Mine
inductive Tr (α:Type) where
 |lf
 |nd (l:Tr α) (k:Nat) (x:Str) (v:α) (r:Tr α)
noncomputable def J7:List Nat->Nat
 |[]=>0
 |c::r=>Nat.add c (Nat.mul 1114112 (J7 r))
def wJ (s:Str):Nat:=J7 s.cps.toList
def Tr.get {α:Type} (n:Nat) (x:Str):Tr α->Option α
 | .lf=>none
 | .nd l k y v r=>match Nat.beq n k with
  |true=>match a9 y x with
   |true=>some v
   |false=>none
  |false=>match Nat.ble n k with
   |true=>l.get n x
   |false=>r.get n x
structure FnE where
 i:Nat
 a:Nat
 dfl:List V
noncomputable def fnT:Tr FnE:=(.nd (.nd (.nd (.nd (.nd (.nd (.nd .lf 147708328345708 "law" (⟨165,891,[]⟩) .lf) 169476109796371055881617525 "union" (⟨67,249,[]⟩) .lf) 175638858014640285630201961 "inter" (⟨97,403,[]⟩) (.nd (.nd .lf 175083353337756172658371058401396 "top_of" (⟨66,244,[]⟩) .lf) 188815367637440720958428548235372 "lay_on" (⟨93,377,[]⟩) .lf)) 207696882677449268365471670927462 "family" (⟨75,303,[]⟩) (.nd (.nd (.nd .lf 195062464953834205016168456649484861547 "kind_of" (⟨56,172,[]⟩) .lf) 210361449704292673631771444722505613427 "sharpen" (⟨129,699,[]⟩) .lf) 221835708006884355694591452108598476905 "is_unit" (⟨70,270,[]⟩) (.nd .lf 215190834664312752427992465901504758874898547 "str_type" (⟨57,180,[.int 0]⟩) .lf))) 215190840401421305696221224345127044872601705 "is_loose" (⟨142,761,[]⟩) (.nd (.nd (.nd (.nd .lf 217321432954646133842083826485605912542249059 "calls_of" (⟨119,664,[]⟩) .lf) 217321432954646133842083834782928999776780387 "ctors_of" (⟨120,671,[]⟩) .lf) 217321432954646133842083837548705844651163760 "parts_of" (⟨61,209,[]⟩) (.nd .lf 217321432954646133851327979236493609361539174 "falsy_of" (⟨108,471,[]⟩) .lf)) 221582641009663890363093504309078095860793449 "is_fresh" (⟨71,277,[]⟩) (.nd (.nd (.nd .lf 236496850078463344839332629713902479779102829 "meet_two" (⟨96,396,[]⟩) .lf) 253541636401483995532605766247716344755781744 "prop_row" (⟨118,657,[]⟩) .lf) 237372968197618262247102779544635851852864058818655 "_law_word" (⟨154,826,[]⟩) (.nd .lf 239746680536495197449243160693149161845345026310239 "_law_like" (⟨155,833,[]⟩) .lf)))) 239746684797680303965843009803791521436765027827807 "_law_same" (⟨162,874,[]⟩) (.nd (.nd (.nd (.nd (.nd .lf 239746691189526809233055542170436526613774807138406 "func_type" (⟨58,187,[]⟩) .lf) 239746697581281520457878341454063098785547578310765 "meet_case" (⟨92,370,[]⟩) .lf) 242120395005974247802187423617681639924637261627489 "add_undef" (⟨68,256,[]⟩) (.nd (.nd .lf 242120416311966713477370700655543801647062626467956 "truthy_of" (⟨103,442,[]⟩) .lf) 265857688842901336043548785299513228374322521374822 "find_prop" (⟨117,650,[]⟩) .lf)) 272978881255154624664833627220372156704094732157025 "all_units" (⟨84,316,[]⟩) (.nd (.nd (.nd .lf 282473749786127298693906450942179705085833627041887 "_law_draw" (⟨159,855,[]⟩) .lf) 285616816130383288891588148154299840804291045672345600105 "is_literal" (⟨69,263,[]⟩) .lf) 304129009373313171559847811440458640831271897373847847007 "_law_holds" (⟨161,867,[]⟩) (.nd .lf 304129009373317432748779071653163139497164266462237163615 "_law_kinds" (⟨160,862,[]⟩) .lf))) 304129009373325955161064356687345702384622520307557335135 "_law_words" (⟨158,848,[]⟩) (.nd (.nd (.nd (.nd .lf 304129011747059600045764198163470180887008317185733689441 "all_values" (⟨85,321,[]⟩) .lf) 304129028363137588079086022553064430978714009041459150954 "join_bools" (⟨64,230,[]⟩) .lf) 304129037858046600444138153133351457284125210599102349414 "flat_props" (⟨87,335,[]⟩) (.nd .lf 304129047352934306776564718203274044417080997595560607856 "part_meets" (⟨143,768,[]⟩) .lf)) 304129047352962004571551014643668205297621671657791094893 "meet_parts" (⟨95,389,[]⟩) (.nd (.nd (.nd .lf 306773616885605946189655679659821232253342292325845172319 "_law_right" (⟨164,886,[]⟩) .lf) 306773640622865693500113206300386419960381425187052126309 "equal_part" (⟨150,813,[]⟩) .lf) 306773640622865693500113206300406448961926515947241275494 "falsy_part" (⟨109,476,[]⟩) (.nd .lf 294638105740193547051912408148824468633255401246745587035668575 "_law_turned" (⟨163,881,[]⟩) .lf))))) 297584484126558368735109925949039003880850764687759544324522100 "typeof_free" (⟨148,803,[]⟩) (.nd (.nd (.nd (.nd (.nd (.nd .lf 297584507927933404088174038206642782960720870567855085629800562 "regular_one" (⟨72,284,[]⟩) .lf) 297584513217096206714636750303136748905208172204247322853113968 "plain_shape" (⟨116,643,[]⟩) .lf) 297584526440112404671582957641626550262977110912367536464724080 "plain_value" (⟨126,682,[]⟩) (.nd (.nd .lf 306423656309956239305662178430465650343707332420261536682868853 "units_clash" (⟨86,328,[]⟩) .lf) 306423656309975229123686914271842230193138480347706691764027502 "not_nullish" (⟨100,423,[]⟩) .lf)) 338833781535540065126186442344300090168386621339515928131731565 "meet_values" (⟨90,356,[]⟩) (.nd (.nd (.nd .lf 338833810626104014114019646063704458754620973846244498979356780 "loose_props" (⟨106,459,[]⟩) .lf) 338833821204472346391452071326886052164358788876524401957011568 "plain_meets" (⟨127,689,[]⟩) .lf) 341780194301622143516798124497725816125745352005518279777517684 "typeof_part" (⟨147,796,[]⟩) (.nd .lf 341780194301622143516798124497758429648922289968546931417415796 "truthy_part" (⟨104,447,[]⟩) .lf))) 356512070365829662960701363411610758074784820466652685326942317 "meet_family" (⟨74,296,[]⟩) (.nd (.nd (.nd (.nd .lf 331542441832806009601585894619157522593561562352030094275795740852334 "nullish_side" (⟨131,711,[]⟩) .lf) 331542441832806009601585907402747264827294314645789220683105736851571 "stays_beside" (⟨65,237,[]⟩) .lf) 341390272578797965685309900935522946635728440427054424642180325310579 "shapes_clash" (⟨88,342,[]⟩) (.nd .lf 341390272578819122469449075433230690764937898617144197762191742795885 "meet_nullish" (⟨89,349,[]⟩) .lf)) 354520601611156326667747031027017769625334141749623413990010878230638 "narrow_equal" (⟨151,818,[]⟩) (.nd (.nd (.nd .lf 361085816215746918416568885253732003589094599837684817005990974390386 "regular_twin" (⟨63,223,[]⟩) .lf) 377498779067737292895608075287270891054612246808519421798362233569391 "object_words" (⟨145,782,[]⟩) .lf) 377498826209751805586838654867778840440804337035225617945780865532013 "meet_objects" (⟨91,363,[]⟩) (.nd .lf 377498835048918699845643882141210877071972504191743152774415561261171 "shape_allows" (⟨144,775,[]⟩) .lf)))) 390629193545015966172326197096533164293880271569730015502537136275575 "whole_of_row" (⟨62,216,[]⟩) (.nd (.nd (.nd (.nd (.nd .lf 369375472041950470995792013444102035952603104822743307491645522283615486049 "all_primitive" (⟨141,756,[]⟩) .lf) 373032628120159871196382332860121789695737367164979759736411044977382064238 "narrow_typeof" (⟨149,808,[]⟩) .lf) 380347002645964203508292570870551384003494568706845434227656731307108008044 "literal_truth" (⟨102,435,[]⟩) (.nd (.nd .lf 394975656502208597416456980231572821335608907910084698218589264235434213493 "unknown_equal" (⟨132,716,[]⟩) .lf) 442519007213441709822305729927162413852332428287006900802830977937664180334 "narrow_truthy" (⟨146,789,[]⟩) .lf)) 442519020343791366755322402942813486665147951555899552610940815021554204771 "common_family" (⟨73,289,[]⟩) (.nd (.nd (.nd .lf 411525645907601523142063831682235407479226550320276191796132185802659270418038892 "lets_primitive" (⟨107,464,[]⟩) .lf) 423749156154682023145348033517594063204621376931106061262644518689698620443263085 "may_be_nullish" (⟨98,411,[.int 0]⟩) .lf) 423749156154682023145348033517594063204621376931106061293458351051474603982782578 "remove_nullish" (⟨101,428,[]⟩) (.nd .lf 452270687378861810032448752594184133420313793301580335561690469064376478430134384 "plain_equal_no" (⟨134,728,[]⟩) .lf))) 453946170593380975586326800410656664584105440020052510210059698337838716409238316580969 "is_nullish_kind" (⟨128,694,[]⟩) (.nd (.nd (.nd (.nd .lf 522037992282458677876774941743934068789725978584134879703156325743619008819232712163440 "plain_equal_yes" (⟨133,721,[]⟩) .lf) 526577449506357723896133084690709313675300578646586881485213840182080974472974523760749 "members_of_meet" (⟨94,384,[]⟩) .lf) 647977389723504899570490975657716059304214375451578774276816758401742853304176482774040818959843444 "typeops_all_props" (⟨105,454,[]⟩) (.nd .lf 653611980910430264479627276737388611781822504017604489740332433382630757181137190812756471058268272 "plain_typeof_part" (⟨136,742,[]⟩) .lf)) 681784855925990899291635696987553724465681779673743677140918769651091263738907449372646186519036009 "is_nullish_family" (⟨76,310,[]⟩) (.nd (.nd (.nd .lf 677976420389452586826731227361917309285905149077536076736020681525755610685140558309037835553314670968942 "narrow_plain_equal" (⟨135,735,[]⟩) .lf) 706384506786263015664984512473448201322169929715362022629910425572206749517897855023481525213373147051155587182 "narrow_is_primitive" (⟨140,751,[]⟩) .lf) 727366183974419269674108420210979225758250402637057178292193088149628387168631869865899295352492985699731308653 "meet_may_be_nullish" (⟨99,416,[]⟩) (.nd .lf 846262392372693013864440559494209260191686187163290237309534707104855254801558978443476586665598650079232721006 "narrow_plain_truthy" (⟨130,706,[]⟩) .lf))))))
noncomputable def vaT:Tr V:=(.nd (.nd (.nd (.nd (.nd (.nd (.nd .lf 101782226337861 "ERR" (.int 13) .lf) 110470940721217 "ANY" (.int 0) .lf) 94036376730415857750 "VOID" (.int 3) (.nd .lf 107848431243877767002849365 "UNDEF" (.int 4) .lf)) 107848431243895144459468889 "Y_REF" (.int 9) (.nd (.nd .lf 109389127287222923483349081 "Y_SIG" (.int 13) .lf) 114011189142352920826544217 "Y_OBJ" (.int 8) (.nd .lf 117092589526331566087667801 "Y_TPL" (.int 18) .lf))) 118633286952537216972161113 "Y_NUM" (.int 4) (.nd (.nd (.nd .lf 126336717385263654938935374 "NEVER" (.int 2) .lf) 126336738128558339923050585 "Y_STR" (.int 3) (.nd .lf 129418108089017757478486094 "NULLT" (.int 5) .lf)) 129418113620567723544084560 "P_OPT" (.int 1) (.nd (.nd .lf 137121550967712069490507865 "Y_KEY" (.int 1) .lf) 137121571711016684389990469 "EMPTY" (.int 11) (.nd .lf 116722241721287827440028766634073 "Y_COND" (.int 16) .lf)))) 121871747083661235747616321699923 "STRING" (.int 6) (.nd (.nd (.nd (.nd (.nd .lf 130454257561662887507969277100121 "Y_BOOL" (.int 2) .lf) 132170768593265143843015984349273 "Y_ENUM" (.int 5) .lf) 140753252879503203410045550526542 "NUMBER" (.int 7) (.nd .lf 142469754666977600814244608606295 "WHOLES" (.dict [(.str "string",.int 6),(.str "number",.int 7),(.str "boolean",.int 12),(.str "undefined",.int 4)]) .lf)) 144186296512381795439560797323348 "TRUE_T" (.int 9) (.nd (.nd .lf 130041634720052848594350406845908058179 "COERCED" (.tup [.int 1,.int 2,.int 3]) .lf) 131954021975016658732035442818610561113 "Y_TUPLE" (.int 12) (.nd .lf 133866429827969563888881055875789357126 "FRESH_F" (.int 14) .lf))) 137691159708812192908697127718008193102 "NULLISH" (.tup [.int 4,.int 5,.int 6]) (.nd (.nd (.nd .lf 141515881007153588114184463611161804870 "FAM_OBJ" (.int 7) .lf) 147253005008950229482375058460446228569 "Y_PARAM" (.int 10) (.nd .lf 147253039338979815973185252587956404294 "FAM_NUM" (.int 2) .lf)) 149165380248361469453837126600337850434 "BOOLEAN" (.int 12) (.nd (.nd .lf 149165404279392656666609533901847068761 "Y_UNION" (.int 6) .lf) 149165418011416200494228492148431257685 "UNKNOWN" (.int 1) (.nd .lf 156814888072116805388167585372167929945 "Y_INTER" (.int 7) .lf))))) 156814913819642076629692923233310933062 "FAM_STR" (.int 1) (.nd (.nd (.nd (.nd (.nd (.nd .lf 158727256445523976880401535683598942297 "Y_ALIAS" (.int 19) .lf) 160639664298479963411356306318676852815 "OBJECTT" (.int 10) .lf) 160639683180002706877994178458856521798 "FALSE_T" (.int 8) (.nd .lf 160639683180007328949529510656538181702 "FRESH_T" (.int 15) .lf)) 168289139508679767937399866979406250073 "Y_INDEX" (.int 15) (.nd (.nd .lf 170201507882125456700725644040826978393 "Y_ARRAY" (.int 11) .lf) 144880953390749075005836976910355145442787398 "FAM_VOID" (.int 6) (.nd .lf 161925760749911091445042541367820976324149318 "FAM_NULL" (.int 4) .lf))) 161925766487026510709636290525623933379608646 "FAM_BOOL" (.int 3) (.nd (.nd (.nd .lf 230105028434043347881287798711008842193043551 "_law_all" (.list [.int 0,.int 1,.int 2,.int 3,.int 4,.int 5,.int 6,.int 7,.int 8,.int 9,.int 10,.int 11,.int 12,.int 13]) .lf) 166161054727832043788953182952484886556607415124038 "FAM_UNDEF" (.int 5) (.nd .lf 170908541193035778685152805589747186690632359149645 "MEET_BOTH" (.int 3) .lf)) 185150894058562263159311209436658329517804758302797 "MAX_UNION" (.int 400) (.nd (.nd .lf 185150911103348586190260887242825105817141475606605 "MAX_DRAWN" (.int 200) .lf) 194645781764917638242702814093988172945939886047302 "FAM_OTHER" (.int 0) (.nd .lf 197019547368824503169651676850306672269998213431366 "FREE_ROWS" (.tup [.int 10,.int 15,.int 16]) .lf)))) 199393238401691761346917908111003916761765546098765 "MEET_LEFT" (.int 1) (.nd (.nd (.nd (.nd .lf 239746701842514436372628990162637878919186407489631 "_law_true" (.list [.int 3,.int 5,.int 6,.int 8,.int 9,.int 11,.int 12,.int 13]) .lf) 216857201213705748152007032806417779063959426900111458381 "MEET_NEVER" (.int 0) (.nd .lf 219501799231100163442637431972550694425425734828221923408 "PRIMITIVES" (.tup [.int 1,.int 2,.int 3,.int 4,.int 5,.int 6]) .lf)) 219501841958175804875346968999062733476209797362740887632 "PLAIN_ROWS" (.tup [.int 1,.int 2,.int 3,.int 4,.int 5]) (.nd (.nd .lf 219501841958175804875346968999071977633109365842469519430 "FIRST_ROWS" (.tup [.tup [.int 1,.str "any"],.tup [.int 1,.str "unknown"],.tup [.int 1,.str "never"],.tup [.int 1,.str "void"],.tup [.int 1,.str "undefined"],.tup [.int 1,.str "null"],.tup [.int 1,.str "string"],.tup [.int 1,.str "number"],.tup [.int 2,.int 0,.int 0],.tup [.int 2,.int 1,.int 0],.tup [.int 1,.str "object"],.tup [.int 8,.tup [],.tup [],.tup [],.tup [],.tup [],.int 0],.tup [.int 6,.tup [.int 8,.int 9]],.tup [.int 1,.str "error"],.tup [.int 2,.int 0,.int 1],.tup [.int 2,.int 1,.int 1]]) .lf) 222146404369644378992063253323837546948385193939944407117 "MEET_RIGHT" (.int 2) (.nd .lf 244549585900342458106530865870131078008273962680799660357910605 "MOST_ROUNDS" (.int 200) .lf))) 244549588544945222912840311066819445538787669452453676834553933 "MOST_SHAPES" (.int 40) (.nd (.nd (.nd .lf 244549636147707162321282562325466615094609695855788739341123661 "MARKED_ROWS" (.tup [.int 2,.int 3,.int 4,.int 5,.int 8]) .lf) 244549636147707162321282562325494079120127675631476627571081295 "OBJECT_ROWS" (.tup [.int 8,.int 9,.int 11,.int 12,.int 13]) (.nd .lf 338833815915276311600490914724260644570797408609122325256470623 "_law_orders" (.list [.list [.int 2,.int 0,.int 1],.list [.int 0,.int 1,.int 2],.list [.int 1,.int 2,.int 0],.list [.int 0,.int 2,.int 1],.list [.int 2,.int 1,.int 0],.list [.int 1,.int 0,.int 2]]) .lf)) 272455628246612915063810547223722909556158123303277768428532630880326 "FAMILY_WORDS" (.dict [(.int 1,.str "string"),(.int 2,.str "number"),(.int 3,.str "boolean"),(.int 4,.str "object"),(.int 5,.str "undefined"),(.int 6,.str "undefined"),(.int 7,.str "object")]) (.nd (.nd .lf 272455631192967500029859585650872324540347184022804884154258034065483 "KEY_FAMILIES" (.dict [(.int 3,.int 6),(.int 4,.int 5),(.int 5,.int 4),(.int 6,.int 1),(.int 7,.int 2),(.int 10,.int 7)]) .lf) 272455684227794322028088758077565560471335251255721062469185310359628 "LITERAL_ROWS" (.tup [.int 2,.int 3,.int 4,.int 5]) (.nd .lf 376775230730961364233062593844985604622701412320920806702271583340028270285230953332816 "PRIMITIVE_NAMES" (.tup [.str "charAt",.str "concat",.str "includes",.str "indexOf",.str "length",.str "slice",.str "toLowerCase",.str "toString",.str "toUpperCase"]) .lf))))))
noncomputable def meL:List (Str×Nat×Nat×Nat):=[("force",114,1,498),("bound",114,5,526),("shape",115,1,617),("list_prop",114,13,582)]
def freeL:List Str:=[dy,ww,tT,tU,tV,Cf,JM,h5,mm,tW]
def pe (x:Str):List Str->Bool
 |[]=>false
 |y::r=>match a9 y x with
  |true=>true
  |false=>pe x r
def wK (x:Str):List (Str×Nat×Nat×Nat)->Option Fn
 |[]=>none
 |(y,i,j,_)::r=>match a9 y x with
  |true=>some ⟨c5 i j,[]⟩
  |false=>wK x r
def G0:Gl where
 val x:=vaT.get (wJ x) x
 fn x:=(fnT.get (wJ x) x).map λe=>⟨aA e.i,e.dfl⟩
 i3 x:=wK x meL
 free x:=pe x freeL
end Mine
end
noncomputable section
open PySem PySem.W PyProof.Rows
namespace Mine
theorem gb{α:Type}{a b:α}(h:some a=some b){P:α->Prop}(k:P a):P b:=Option.some.inj h▸k
abbrev bA:=Addr->Option Obj
mutual
inductive Rd (g:bA):Value->PyData->Prop
 |none:Rd g .none .none
 |bool (b:Bool):Rd g (.bool b) (.bool b)
 |int (i:Int) (t:Tok):Rd g (.int i t) (.int i)
 |str (x:Str) (t:Tok):Rd g (.str x t) (.str x)
 |tup {a:Addr} {o:Obj} {vs:Array Value} {n:Nat} {l:List PyData}:g a=some o->o.cls= .type "tuple"->o.data= .seq vs n->RdL g vs.toList l->Rd g (.ref a) (.tuple l)
 |list {a:Addr} {vs:Array Value} {n:Nat} {l:List PyData}:g a=some (listOf vs n)->RdL g vs.toList l->Rd g (.ref a) (.list l)
inductive RdL (g:bA):List Value->List PyData->Prop
 |nil:RdL g [] []
 |cons {v:Value} {vs:List Value} {d:PyData} {l:List PyData}:Rd g v d->RdL g vs l->RdL g (v::vs) (d::l)
end
theorem Rd.mono{g au:bA}(k:∀b o,g b=some o->au b=some o){v:Value}{d:PyData}(h:Rd g v d):Rd au v d:=
 Rd.rec (motive_1:=λv d _=>Rd au v d) (motive_2:=λvs l _=>RdL au vs l) .none .bool .int .str (λe c d _ r=> .tup (k _ _ e) c d r) (λe _ r=> .list (k _ _ e) r) .nil (λ_ _ a b=> .cons a b) h
theorem Rd.reads{g:bA}{h:Heap}(k:∀b o,g b=some o->h.get? b=some o){v:Value}{d:PyData}(r:Rd g v d):∃as,Reads h v d as:=
 Rd.rec (motive_1:=λv d _=>∃as,Reads h v d as) (motive_2:=λvs l _=>∃as,ReadsAll h vs l as) ⟨_,.none⟩ (λb=>⟨_,.bool b⟩) (λi t=>⟨_,.int i t⟩) (λx t=>⟨_,.str x t⟩)
  (λe c d _ q=>q.elim λ_ q=>⟨_,.tuple (k _ _ e) c d q⟩) (λe _ q=>q.elim λ_ q=>⟨_,.list (k _ _ e) rfl rfl q⟩) ⟨_,.nil⟩ (λ_ _ p q=>p.elim λ_ p=>q.elim λ_ q=>⟨_,.cons p q⟩) r
theorem RdL.reads{g:bA}{h:Heap}(k:∀b o,g b=some o->h.get? b=some o){vs:List Value}{l:List PyData}(r:RdL g vs l):∃as,ReadsAll h vs l as:=
 RdL.rec (motive_1:=λv d _=>∃as,Reads h v d as) (motive_2:=λvs l _=>∃as,ReadsAll h vs l as) ⟨_,.none⟩ (λb=>⟨_,.bool b⟩) (λi t=>⟨_,.int i t⟩) (λx t=>⟨_,.str x t⟩)
  (λe c d _ q=>q.elim λ_ q=>⟨_,.tuple (k _ _ e) c d q⟩) (λe _ q=>q.elim λ_ q=>⟨_,.list (k _ _ e) rfl rfl q⟩) ⟨_,.nil⟩ (λ_ _ p q=>p.elim λ_ p=>q.elim λ_ q=>⟨_,.cons p q⟩) r
inductive RdT (g:bA) (v:Value) (l:List PyData):Prop
 |mk (a:Addr) (o:Obj) (vs:Array Value) (n:Nat) (e:v= .ref a) (h:g a=some o) (c:o.cls= .type "tuple") (d:o.data= .seq vs n) (r:RdL g vs.toList l)
inductive RdS (g:bA) (v:Value) (l:List PyData):Prop
 |mk (a:Addr) (vs:Array Value) (n:Nat) (e:v= .ref a) (h:g a=some (listOf vs n)) (r:RdL g vs.toList l)
def J8(g:bA)(v:Value):PyData->Prop
 | .none=>v= .none
 | .bool b=>v= .bool b
 | .int i=>∃t,v= .int i t
 | .str x=>∃t,v= .str x t
 | .tuple l=>RdT g v l
 | .list l=>RdS g v l
 | .dict _=>False
theorem Rd.dat{g:bA}{v:Value}{d:PyData}(h:Rd g v d):J8 g v d:=
 Rd.casesOn (motive_1:=λv d _=>J8 g v d) h rfl (λ_=>rfl) (λ_ t=>⟨t,rfl⟩) (λ_ t=>⟨t,rfl⟩) (λa b c d=>⟨_,_,_,_,rfl,a,b,c,d⟩) (λa b=>⟨_,_,_,rfl,a,b⟩)
def J9(g:bA)(d:PyData):Value->Prop
 | .none=>d= .none
 | .bool b=>d= .bool b
 | .int i _=>d= .int i
 | .str x _=>d= .str x
 | .ref a=>(∃l,d= .tuple l/\RdT g (.ref a) l)\/∃l,d= .list l/\RdS g (.ref a) l
 |_=>False
theorem Rd.val{g:bA}{v:Value}{d:PyData}(h:Rd g v d):J9 g d v:=
 Rd.casesOn (motive_1:=λv d _=>J9 g d v) h rfl (λ_=>rfl) (λ_ _=>rfl) (λ_ _=>rfl) (λa b c d=> .inl ⟨_,rfl,_,_,_,_,rfl,a,b,c,d⟩) (λa b=> .inr ⟨_,rfl,_,_,_,rfl,a,b⟩)
inductive RdC (g:bA) (d:PyData) (l:List PyData) (vs:List Value):Prop
 |mk (v:Value) (aU:List Value) (e:vs=v::aU) (a:Rd g v d) (r:RdL g aU l)
def Ka(g:bA)(vs:List Value):List PyData->Prop
 |[]=>vs=[]
 |d::l=>RdC g d l vs
theorem RdL.dat{g:bA}{vs:List Value}{l:List PyData}(h:RdL g vs l):Ka g vs l:=
 RdL.casesOn (motive_2:=λvs l _=>Ka g vs l) h rfl (λa r=>⟨_,_,rfl,a,r⟩)
inductive RdE (g:bA) (v:Value) (vs:List Value) (l:List PyData):Prop
 |mk (d:PyData) (m:List PyData) (e:l=d::m) (a:Rd g v d) (r:RdL g vs m)
def Kb(g:bA)(l:List PyData):List Value->Prop
 |[]=>l=[]
 |v::vs=>RdE g v vs l
theorem RdL.val{g:bA}{vs:List Value}{l:List PyData}(h:RdL g vs l):Kb g l vs:=
 RdL.casesOn (motive_2:=λvs l _=>Kb g l vs) h rfl (λa r=>⟨_,_,rfl,a,r⟩)
theorem RdL.mono{g au:bA}(k:∀b o,g b=some o->au b=some o){vs:List Value}{l:List PyData}(h:RdL g vs l):RdL au vs l:=by
 revert l
 induction vs with
 |nil=>intro l h;rw[h.val];exact .nil
 |cons v vs bb=>intro l h;obtain⟨d,m,e,a,r⟩:=h.val;rw[e];exact .cons (a.mono k) (bb r)
theorem RdL.length{g:bA}{vs:List Value}:∀{l:List PyData},RdL g vs l->vs.length=l.length:=by
 induction vs with
 |nil=>intro l h;rw[h.val];rfl
 |cons v vs bb=>intro l h;obtain⟨d,m,e,_,r⟩:=h.val;rw[e];exact congrArg Nat.succ (bb r)
theorem RdL.get{g:bA}{vs:List Value}:∀{l:List PyData},RdL g vs l->∀{i:Nat}{d:PyData},l[i]? =some d->∃v,vs[i]? =some v/\Rd g v d:=by
 induction vs with
 |nil=>intro l h i d e;rw[h.val] at e;exact nomatch e
 |cons v vs bb=>
  intro l h i d e
  obtain⟨d,m,q,a,r⟩:=h.val
  rw[q] at e
  rcases i with _|i
  .exact⟨v,rfl,gb e a⟩
  .exact bb r (i:=i) e
theorem RdL.append{g:bA}{vs eI:List Value}{l m:List PyData}(h:RdL g vs l)(k:RdL g eI m):RdL g (vs++eI) (l++m):=by
 revert l
 induction vs with
 |nil=>intro l h;rw[h.val];exact k
 |cons v vs bb=>intro l h;obtain⟨d,n,q,a,r⟩:=h.val;rw[q];exact .cons a (bb r)
theorem RdL.take{g:bA}{vs:List Value}:∀{l:List PyData},RdL g vs l->∀(n:Nat),RdL g (vs.take n) (l.take n):=by
 induction vs with
 |nil=>intro l h n;rw[h.val,wd,wd];exact .nil
 |cons v vs bb=>
  intro l h n
  obtain⟨d,m,q,a,r⟩:=h.val
  rw[q]
  rcases n with _|n
  .exact .nil
  .exact .cons a (bb r n)
theorem RdL.drop{g:bA}{vs:List Value}:∀{l:List PyData},RdL g vs l->∀(n:Nat),RdL g (vs.drop n) (l.drop n):=by
 induction vs with
 |nil=>intro l h n;rw[h.val,List.drop_nil,List.drop_nil];exact .nil
 |cons v vs bb=>
  intro l h n
  obtain⟨d,m,q,a,r⟩:=h.val
  rw[q]
  rcases n with _|n
  .exact .cons a r
  .exact bb r n
theorem aK{a b:Bool}(h:(a&&b)=true):a=true/\b=true:=by
 rcases a with _|_
 .exact nomatch h
 .exact⟨rfl,h⟩
theorem lEq_iff:∀{x y:List Nat},f0 x y=true↔x=y
 |[],[]=>⟨λ_=>rfl,λ_=>rfl⟩
 |[],_::_=>⟨nofun,nofun⟩
 |_::_,[]=>⟨nofun,nofun⟩
 |a::x,b::y=>⟨λh=>by rw [ei (aK h).1,(lEq_iff (x:=x)).mp (aK h).2],λh=>by injection h with aa ah;exact(c6 _ _).mpr ⟨aa▸jF a,lEq_iff.mpr ah⟩⟩
theorem sEq_iff{a b:Str}:a9 a b=true↔a=b:=by
 refine⟨λh=>?_,λh=>h▸lEq_iff.mpr rfl⟩
 have:a.cps=b.cps:=Array.toList_inj.mp (lEq_iff.mp h)
 rcases a with ⟨a⟩
 rcases b with ⟨b⟩
 exact congrArg _ this
theorem pf(a:Str):a9 a a=true:=sEq_iff.mpr rfl
theorem Kc:∀{i:Int}{n:Nat},jL i=some n->i=n
 | .ofNat _,_,h=>congrArg Int.ofNat (Option.some.inj h)
theorem an8(n:Nat):jL (n:Int)=some n:=rfl
theorem iEq_iff{a b:Int}:cN a b=true↔a=b:=by
 rcases a with a|a<;>rcases b with b|b
 .exact⟨λh=>congrArg Int.ofNat (ei h),λh=>by injection h with h;rw[h];exact jF b⟩
 .exact⟨nofun,nofun⟩
 .refine⟨λh=>?_,nofun⟩
  have:jL (-(b:Int) - 1)=none:=by
   rcases e:jL (-(b:Int) - 1) with _|k
   .rfl
   .have:=Kc e;lia
  have h:(match jL (-(b:Int) - 1) with|some b=>Nat.beq a b|none=>false)=true:=h
  rw[this] at h;exact nomatch h
 .have e:jL (-Int.negSucc b - 1)=some b:=by rw [show -Int.negSucc b - 1=(b:Int) by rw [wa];lia];rfl
  have e2:cN (.negSucc a) (.negSucc b)=Nat.beq a b:=by
   show (match jL (-Int.negSucc b - 1) with|some b=>Nat.beq a b|none=>false)=_
   rw[e]
  rw[e2]
  exact⟨λh=>congrArg Int.negSucc (ei h),λh=>by injection h with h;rw[h];exact jF b⟩
theorem Kd(a b:Int):cN a b=(a==b):=by
 rw[i5,iEq_iff,beq_iff_eq]
theorem iLe_iff{a b:Int}:h4 a b=true↔a<=b:=by
 unfold h4
 split
 .rename_i n h
  have h':b - a=(n:Int):=h
  simp;lia
 .rename_i n h
  have h':b - a= -((n:Int)+1):=by rw [h,wa]
  simp;lia
theorem iLt_iff{a b:Int}:e0 a b=true↔a<b:=by
 unfold e0
 split
 .rename_i n h
  have h':b - a=(n:Int):=h
  rw[ki,<-v7,Nat.beq_eq]
  lia
 .rename_i n h
  have h':b - a= -((n:Int)+1):=by rw [h,wa]
  simp;lia
theorem Cz(a b:Str):a9 a b=(a==b):=by
 rw[i5,sEq_iff,beq_iff_eq]
inductive BO {α:Type} (x:Option α) (f:α->Bool):Prop
 |mk (a:α) (e:x=some a) (k:f a=true)
theorem dX{α:Type}{f:α->Bool}:∀{x:Option α},ci x f=true->BO x f
 |some a,h=>⟨a,rfl,h⟩
theorem pg{v:V}(h:oX v=true):v= .none:=by rcases v<;>first|rfl|exact nomatch h
theorem wL{v:V}{b:Bool}(h:wt v=some b):v= .bool b:=by rcases v<;>first|exact aI h|exact congrArg V.bool (Option.some.inj h)
theorem lp{v:V}{b:Int}(h:ja v=some b):v= .int b:=by rcases v<;>first|exact aI h|exact congrArg V.int (Option.some.inj h)
theorem Ke{v:V}{b:Str}(h:wu v=some b):v= .str b:=by rcases v<;>first|exact aI h|exact congrArg V.str (Option.some.inj h)
theorem ry{v:V}{b:List V}(h:kp v=some b):v= .tup b:=by rcases v<;>first|exact aI h|exact congrArg V.tup (Option.some.inj h)
theorem t6{v:V}{b:List V}(h:rj v=some b):v= .list b:=by rcases v<;>first|exact aI h|exact congrArg V.list (Option.some.inj h)
theorem CA{v:V}{b:List (V×V)}(h:oY v=some b):v= .dict b:=by rcases v<;>first|exact aI h|exact congrArg V.dict (Option.some.inj h)
theorem Kf{v:V}{b:V}(h:tQ v=some b):v= .ty b:=by rcases v<;>first|exact aI h|exact congrArg V.ty (Option.some.inj h)
theorem Wz{v:V}{b:Nat}(h:JI v=some b):v= .decl b:=by rcases v<;>first|exact aI h|exact congrArg V.decl (Option.some.inj h)
theorem wM{v:V}(h:tR v=true):v= .tab:=by rcases v<;>first|rfl|exact nomatch h
theorem Kg{v:V}(h:isInt v=true):∃i,v= .int i:=by rcases v<;>first|exact⟨_,rfl⟩|exact nomatch h
theorem Kh{v:V}(h:isStr v=true):∃i,v= .str i:=by rcases v<;>first|exact⟨_,rfl⟩|exact nomatch h
theorem nJ{v:V}{n:Nat}(h:kq v=some n):v= .int n:=let ⟨_,e,k⟩:=bD h;Kc k▸lp e
theorem Ki{v:V}(h:Cc v=true):v= .int (-1):=by
 obtain⟨i,e,k⟩:=dX h
 rw[lp e]
 rcases i with _|n
 .exact nomatch k
 .rw[ei k];rfl
mutual
theorem V.zB:∀{a b:V},V.same a b=true->a=b
 | .none,_,h=>(pg h).symm
 | .bool _,_,h=>let ⟨_,e,k⟩:=dX h;(wL e).symm▸eq_of_beq k▸rfl
 | .int _,_,h=>let ⟨_,e,k⟩:=dX h;(lp e).symm▸iEq_iff.mp k▸rfl
 | .str _,_,h=>let ⟨_,e,k⟩:=dX h;(Ke e).symm▸sEq_iff.mp k▸rfl
 | .tup _,_,h=>let ⟨_,e,k⟩:=dX h;(ry e).symm▸V.Ib k▸rfl
 | .list _,_,h=>let ⟨_,e,k⟩:=dX h;(t6 e).symm▸V.Ib k▸rfl
 | .ty _,_,h=>let ⟨_,e,k⟩:=dX h;(Kf e).symm▸V.zB k▸rfl
theorem V.Ib:∀{a b:List V},V.ma a b=true->a=b
 |[],[],_=>rfl
 |_::_,_::_,h=>V.zB (aK h).1▸V.Ib (aK h).2▸rfl
end
mutual
noncomputable def V.plain:V->Bool
 | .int _| .str _=>true
 | .tup l=>V.zx l
 | .ty r=>V.plain r
 |_=>false
noncomputable def V.zx:List V->Bool
 |[]=>true
 |v::r=>V.plain v&&V.zx r
end
mutual
theorem V.same_self:∀{a:V},V.plain a=true->V.same a a=true
 | .int _,_=>iEq_iff.mpr rfl
 | .str _,_=>pf _
 | .tup a,h=>V.SN (a:=a) h
 | .ty a,h=>V.same_self (a:=a) h
theorem V.SN:∀{a:List V},V.zx a=true->V.ma a a=true
 |[],_=>rfl
 |x::a,h=>(c6 _ _).mpr ⟨V.same_self (a:=x) (aK h).1,V.SN (a:=a) (aK h).2⟩
end
mutual
noncomputable def bI (H:T):V->Option PyData
 | .none=>some .none
 | .bool b=>some (.bool b)
 | .int i=>some (.int i)
 | .str s=>ow (PyData.strOk s) (some (.str s))
 | .tup l=>od (bX H l) λm=>some (.tuple m)
 | .list l=>od (bX H l) λm=>some (.list m)
 | .ty r=>od (dL r H.dyn 0) λi=>some (.int ((H.base.length+i:Nat):Int))
 |_=>Option.none
noncomputable def bX (H:T):List V->Option (List PyData)
 |[]=>some []
 |v::r=>od (bI H v) λd=>od (bX H r) λl=>some (d::l)
end
theorem fa{H:T}{v:V}{r:List V}{l:List PyData}(h:bX H (v::r)=some l):∃d m,l=d::m/\bI H v=some d/\bX H r=some m:=
 let ⟨d,e,k⟩:=bD h;let ⟨m,f,k⟩:=bD k;⟨d,m,(Option.some.inj k).symm,e,f⟩
theorem h9{H:T}{v:V}{r:List V}{d:PyData}{m:List PyData}(aQ:bI H v=some d)(av:bX H r=some m):bX H (v::r)=some (d::m):=by
 show od (bI H v) _=_
 rw[aQ];show od (bX H r) _=_;rw[av];rfl
theorem mo{x y:V}{r:List V}{n:Nat}:dL x (y::r) n=cond (V.same y x) (some n) (dL x r (n+1)):=by
 show (match V.same y x with|true=>some n|false=>dL x r (n+1))=_
 cases V.same y x<;>rfl
theorem t7{x:V}:∀{l:List V}{n i:Nat},dL x l n=some i->∃k,i=n+k/\l[k]? =some x
 |[],_,_,h=>aI h
 |y::r,n,i,h=>by
  rw[mo] at h
  cases e:V.same y x
  .rw[e] at h
   obtain⟨k,q,e⟩:=t7 (l:=r) h
   exact⟨k+1,by rw [q,jE,jG 1 k],e⟩
  .rw[e] at h
   exact⟨0,(Option.some.inj h).symm,V.zB e▸rfl⟩
theorem t8{x:V}(aS:V.plain x=true):∀{l:List V}{n:Nat},dL x l n=none->x∉l
 |y::r,n,h,m=>by
  rw[mo] at h
  cases m with
  |head=>rw[V.same_self aS] at h;exact nomatch h
  |tail _ m=>
   cases e:V.same y x<;>rw[e] at h
   .exact t8 aS (l:=r) h m
   .exact nomatch h
theorem an9{x:V}(aS:V.plain x=true){l:List V}(m:x∈l)(n:Nat):∃i,dL x l n=some i:=by
 rcases h:dL x l n with _|i
 .exact absurd m (t8 aS h)
 .exact⟨i,rfl⟩
theorem Kj{x:V}{i:Nat}:∀{l:List V}(m:List V){n:Nat},dL x l n=some i->dL x (l++m) n=some i
 |[],_,_,h=>aI h
 |y::r,m,n,h=>by
  rw[mo] at h
  rw[tu,mo]
  cases e:V.same y x<;>rw[e] at h
  .exact Kj (l:=r) m h
  .exact h
structure T.bP (H O:T):Prop where
 base:O.base=H.base\/H.dyn=[]
 dyn:∃m,O.dyn=H.dyn++m
 cnt:H.cnt<=O.cnt
 decls:H.decls.length<=O.decls.length
 bld:O.bld=H.bld
theorem T.bP.refl(H:T):H.bP H:=⟨.inl rfl,⟨[],by simp⟩,cq _,cq _,rfl⟩
theorem T.bP.trans{H O t9:T}(a:H.bP O)(b:O.bP t9):H.bP t9:=by
 obtain⟨m,av⟩:=a.dyn
 obtain⟨k,aj⟩:=b.dyn
 refine⟨?_,⟨m++k,by rw [aj,av,iA]⟩,aT a.cnt b.cnt,aT a.decls b.decls,b.bld.trans a.bld⟩
 rcases a.base with e|e
 .rcases b.base with f|f
  .exact .inl (f.trans e)
  .right
   rw[av] at f
   exact(List.append_eq_nil_iff.mp f).1
 .exact .inr e
mutual
theorem pi{H O:T}(k:H.bP O):∀{v:V}{d:PyData},bI H v=some d->bI O v=some d
 | .none,_,h=>h
 | .bool _,_,h=>h
 | .int _,_,h=>h
 | .str _,_,h=>h
 | .tup l,d,h=>by
  obtain⟨m,av,e⟩:=bD h
  show od (bX O l) _=_
  rw[mq k av];exact e
 | .list l,d,h=>by
  obtain⟨m,av,e⟩:=bD h
  show od (bX O l) _=_
  rw[mq k av];exact e
 | .ty r,d,h=>by
  obtain⟨i,hi,e⟩:=bD h
  obtain⟨m,av⟩:=k.dyn
  show od (dL r O.dyn 0) _=_
  rw[av,Kj m hi]
  rcases k.base with q|q
  .rw[q];exact e
  .rw[q] at hi;exact aI hi
theorem mq{H O:T}(k:H.bP O):∀{v:List V}{d:List PyData},bX H v=some d->bX O v=some d
 |[],_,h=>h
 |x::r,d,h=>by
  obtain⟨a,m,e,aw,av⟩:=fa h
  rw[e];exact h9 (pi k aw) (mq k av)
end
end Mine
end
noncomputable section
open PySem PySem.W PyProof.Rows PySem.PyData
namespace Mine
structure T.Ok (H:T):Prop where
 plain:∀r∈H.dyn,V.plain r=true
 met:∀r∈H.dyn,rl r=true
 key:∀r∈H.base++H.dyn,gw r=true/\V.key H.kb 4 r=true
 bld:H.bld=true->H.dyn=[]
 size:H.base.length+H.dyn.length<=64+H.cnt
 once:H.dyn.Nodup
 small:H.base.length<=64+H.cnt
@[elab_as_elim] theorem da {α:Type} {a:α} {P:α->Prop} {b:α} (h:some a=some b) (k:P a):P b:=gb h k
theorem gB{H:T}{s:Str}{d:PyData}(h:bI H (.str s)=some d):d= .str s/\PyData.strOk s=true:=⟨(Option.some.inj (br h).2).symm,(br h).1⟩
theorem hB{H:T}{r:V}{d:PyData}(h:bI H (.ty r)=some d):∃i:Nat,H.dyn[i]? =some r/\dL r H.dyn 0=some i/\d= .int ((H.base.length+i:Nat):Int):=by
 obtain⟨i,hi,q⟩:=bD h
 obtain⟨k,e,f⟩:=t7 hi
 rw[mf] at e
 exact⟨i,e▸f,hi,(Option.some.inj q).symm⟩
theorem CB{H:T}(aL:H.Ok){r:V}{d:PyData}(h:bI H (.ty r)=some d):V.plain r=true:=by
 obtain⟨i,hi,_⟩:=hB h
 exact aL.plain r (oK hi)
theorem gS{H:T}{l:List V}{d:PyData}(h:bI H (.tup l)=some d):∃m,bX H l=some m/\d= .tuple m:=by
 obtain⟨m,e,k⟩:=bD h
 exact⟨m,e,(Option.some.inj k).symm⟩
theorem ua{H:T}{l:List V}{d:PyData}(h:bI H (.list l)=some d):∃m,bX H l=some m/\d= .list m:=by
 obtain⟨m,e,k⟩:=bD h
 exact⟨m,e,(Option.some.inj k).symm⟩
theorem WA{H:T}{x:Int}{b:V}{t:Bool}{e:PyData}(h:H.Ia x b=some t)(ao:bI H b=some e):(PyData.int x).eqv e=t:=by
 rcases b
 case int y=>exact da h (da ao (Kd x y).symm)
 case str=>rw[(gB ao).1];exact da h rfl
 case ty=>
  obtain⟨q,k⟩:=br h
  obtain⟨i,_,_,e⟩:=hB ao
  rw[e]
  refine da k (beq_false_of_ne λz=>?_)
  have:=iLt_iff.mp q
  lia
 all_goals exact aI h
theorem WB{H:T}{x:Str}{b:V}{t:Bool}{e:PyData}(h:T.H4 x b=some t)(ao:bI H b=some e):(PyData.str x).eqv e=t:=by
 rcases b
 case int=>exact da h (da ao rfl)
 case str=>rw[(gB ao).1];exact da h (Cz _ _).symm
 case ty=>
  obtain⟨i,_,_,e⟩:=hB ao
  rw[e];exact da h rfl
 all_goals exact aI h
theorem WC{H:T}(aL:H.Ok){x:V}{b:V}{t:Bool}{d e:PyData}(h:H.eqT x b=some t)(aw:bI H (.ty x)=some d)(ao:bI H b=some e):d.eqv e=t:=by
 obtain⟨i,hi,Kk,q⟩:=hB aw
 rw[q]
 rcases b
 case int=>
  obtain⟨q,k⟩:=br h
  refine da ao (da k (beq_false_of_ne λz=>?_))
  have:=iLt_iff.mp q
  lia
 case str=>rw[(gB ao).1];exact da h rfl
 case ty y=>
  have aS:=CB aL aw
  obtain⟨j,bt,WD,e⟩:=hB ao
  rw[e]
  refine da h ?_
  show (((H.base.length+i:Nat):Int)==((H.base.length+j:Nat):Int))=_
  rcases aJ:V.same x y with _|_
  .refine beq_false_of_ne λz=>?_
   have:i=j:=Ir (Int.ofNat.inj z)
   rw[this,bt] at hi
   rw[Option.some.inj hi,V.same_self aS] at aJ
   exact nomatch aJ
  .rw[V.zB aJ,WD] at Kk
   rw[Option.some.inj Kk];exact beq_self_eq_true _
 all_goals exact aI h
mutual
theorem ub{H:T}(aL:H.Ok):∀{a b:V}{t:Bool}{d e:PyData},H.eq a b=some t->bI H a=some d->bI H b=some e->d.eqv e=t
 | .none,b,t,d,e,h,aw,ao=>by
  rw[pg (br h).1] at ao
  exact da (br h).2 (da aw (da ao rfl))
 | .bool x,b,t,d,e,h,aw,ao=>by
  obtain⟨y,k,q⟩:=bD h
  rw[wL k] at ao
  exact da q (da aw (da ao rfl))
 | .int x,b,t,d,e,h,aw,ao=>da aw (WA h ao)
 | .str x,b,t,d,e,h,aw,ao=>(gB aw).1▸WB h ao
 | .ty x,b,t,d,e,h,aw,ao=>WC aL h aw ao
 | .tup x,b,t,d,e,h,aw,ao=>by
  obtain⟨l,k,q⟩:=bD h
  rw[ry k] at ao
  obtain⟨m,av,e1⟩:=gS aw
  obtain⟨n,aX,e2⟩:=gS ao
  rw[e1,e2]
  exact Kl aL q av aX
theorem Kl{H:T}(aL:H.Ok):∀{a b:List V}{t:Bool}{d e:List PyData},H.eqs a b=some t->bX H a=some d->bX H b=some e->eqvAll d e=t
 |[],[],t,d,e,h,aw,ao=>da h (da aw (da ao rfl))
 |[],y::b,t,d,e,h,aw,ao=>by
  obtain⟨p,m,q,_,_⟩:=fa ao
  rw[q];exact da h (da aw rfl)
 |x::a,[],t,d,e,h,aw,ao=>by
  obtain⟨p,m,q,_,_⟩:=fa aw
  rw[q];exact da h (da ao rfl)
 |x::a,y::b,t,d,e,h,aw,ao=>by
  obtain⟨p,m,e1,aS,av⟩:=fa aw
  obtain⟨q,k,e2,aO,aj⟩:=fa ao
  obtain⟨u,g,h⟩:=bD h
  rw[e1,e2,eqvAll,ub aL g aS aO]
  rcases u with _|_
  .exact da h rfl
  .exact Kl aL h av aj
end
theorem Km{H:T}(aL:H.Ok){x:V}{d:PyData}(hx:bI H x=some d):∀{l:List V}{t:Bool}{m:List PyData},H.mem x l=some t->bX H l=some m->(m.any λy=>y.eqv d)=t
 |[],t,m,h,av=>da h (da av rfl)
 |y::r,t,m,h,av=>by
  obtain⟨p,k,q,aS,aj⟩:=fa av
  obtain⟨u,g,h⟩:=bD h
  rw[q,h1,ub aL g aS hx]
  rcases u with _|_
  .exact Km aL hx (l:=r) h aj
  .exact da h rfl
mutual
theorem wN{H:T}:∀{v:V}{d:PyData},bI H v=some d->d.canLay0=true
 | .none,_,h=>da h rfl
 | .bool _,_,h=>da h rfl
 | .int _,_,h=>da h rfl
 | .str s,_,h=>by
  obtain⟨e,q⟩:=gB h
  rw[e]
  simpa only [canLay0] using q
 | .tup l,d,h=>by
  obtain⟨m,av,e⟩:=gS h
  rw[e]
  simp only[canLay0];exact wO av
 | .list l,d,h=>by
  obtain⟨m,av,e⟩:=ua h
  rw[e]
  simp only[canLay0];exact wO av
 | .ty r,d,h=>by obtain ⟨i,_,_,e⟩:=hB h;rw[e];rfl
theorem wO{H:T}:∀{v:List V}{d:List PyData},bX H v=some d->canLayAll0 d=true
 |[],_,h=>da h rfl
 |x::r,d,h=>by
  obtain⟨a,m,e,aw,av⟩:=fa h
  rw[e]
  simp only[canLayAll0,c6]
  exact⟨wN aw,wO av⟩
end
end Mine
end
noncomputable section
open PySem PySem.W PyProof.Rows
namespace Mine
def T.fA(H:T):Prop:=H.bld=true->H.dyn=[]
def Gr(H O:T):Prop:=H.fA->H.bP O/\O.fA
theorem Gr.refl(H:T):Gr H H:=λb=>⟨.refl H,b⟩
theorem Gr.trans{H O t9:T}(a:Gr H O)(b:Gr O t9):Gr H t9:=λx=>let ⟨p,q⟩:=a x;let ⟨r,s⟩:=b q;⟨p.trans r,s⟩
def Mo{α:Type}(H:T)(x:Option (α×T)):Prop:=∀a O,x=some (a,O)->Gr H O
def dm{α:Type}(H:T)(r:Option (α×am×T)):Prop:=∀a J O,r=some (a,J,O)->Gr H O
theorem Mo.no{α:Type}{H:T}:Mo H (none:Option (α×T)):=λ_ _ h=>aI h
theorem Mo.so{α:Type}{H:T}{v:α}:Mo H (some (v,H)):=λ_ _ h=>pI h (P:=λ_ O=>Gr H O) (.refl H)
theorem Mo.ob{α bR:Type}{H:T}{x:Option (α×T)}{f:α->T->Option (bR×T)}(h:Mo H x)(k:∀a O,Mo O (f a O)):Mo H (ob x f):=λa O e=>let ⟨_,_,e1,e2⟩:=b1 e;(h _ _ e1).trans (k _ _ _ _ e2)
theorem Mo.od{α bR:Type}{H:T}{x:Option α}{f:α->Option (bR×T)}(k:∀a,Mo H (f a)):Mo H (od x f):=λa O e=>let ⟨_,_,e2⟩:=bD e;k _ _ _ e2
theorem Mo.pt{α:Type}{H:T}{x:Option α}:Mo H (pt H x):=λ_ _ h=>h8 h (P:=λ_ O=>Gr H O) λ_ _=> .refl H
theorem Mo.ow{α:Type}{H:T}{x:Option (α×T)}(h:Mo H x):∀{c:Bool},Mo H (ow c x)
 |true=>h
 |false=> .no
theorem Mo.cond{α:Type}{H:T}{x y:Option (α×T)}(h:Mo H x)(k:Mo H y):∀{c:Bool},Mo H (cond c x y)
 |true=>h
 |false=>k
theorem Mo.oc{α:Type}{H:T}{x:Option (Fl×am×T)}{f:Fl->am->T->Option (α×T)}(h:dm H x)(k:∀a J O,Mo O (f a J O)):Mo H (oc x f):=λ_ _ e=>let ⟨_,_,_,e1,e2⟩:=rq e;(h _ _ _ e1).trans (k _ _ _ _ _ e2)
theorem uc{α:Type}{H:T}:dm H (none:Option (α×am×T)):=λ_ _ _ h=>aI h
theorem wP{α:Type}{H:T}{v:α}{J:am}:dm H (some (v,J,H)):=λ_ _ _ h=>rr h (P:=λ_ _ O=>Gr H O) (.refl H)
theorem jN{α bR:Type}{H:T}{x:Option (α×T)}{f:α->T->Option (bR×am×T)}(h:Mo H x)(k:∀a O,dm O (f a O)):dm H (ob x f):=λ_ _ _ e=>let ⟨_,_,e1,e2⟩:=b1 e;(h _ _ e1).trans (k _ _ _ _ _ e2)
theorem mr{α bR:Type}{H:T}{x:Option α}{f:α->Option (bR×am×T)}(k:∀a,dm H (f a)):dm H (od x f):=λ_ _ _ e=>let ⟨_,_,e2⟩:=bD e;k _ _ _ _ e2
theorem jf{α:Type}{H:T}{x:Option (α×am×T)}(h:dm H x):∀{c:Bool},dm H (ow c x)
 |true=>h
 |false=>uc
theorem WF{α:Type}{H:T}{x y:Option (α×am×T)}(h:dm H x)(k:dm H y):∀{c:Bool},dm H (cond c x y)
 |true=>h
 |false=>k
theorem Kn{α:Type}{H:T}{x:Option (Fl×am×T)}{f:Fl->am->T->Option (α×am×T)}(h:dm H x)(k:∀a J O,dm O (f a J O)):dm H (oc x f):=λ_ _ _ e=>let ⟨_,_,_,e1,e2⟩:=rq e;(h _ _ _ e1).trans (k _ _ _ _ _ _ e2)
theorem CC{H:T}{x:Option (Fl×am×T)}{k:am->T->Option (Fl×am×T)}(h:dm H x)(aj:∀J O,dm O (k J O)):dm H (thn x k):=Kn h λ
 | .next,_,_=>aj _ _
 | .ret _,_,_=>wP
theorem Gr.dec(H:T){l:List V}(h:H.decls.length<=l.length):Gr H {H with decls:=l}:=λaL=>⟨⟨.inl rfl,⟨[],(eh _).symm⟩,cq _,h,rfl⟩,aL⟩
theorem Gr.amW(H:T)(l:List Int):Gr H {H with bounds:=l}:=λaL=>⟨⟨.inl rfl,⟨[],(eh _).symm⟩,cq _,cq _,rfl⟩,aL⟩
theorem Mo.SP{α:Type}{H O:T}{x:Option (α×T)}(h:Gr H O)(k:Mo O x):Mo H x:=λ_ _ e=>h.trans (k _ _ e)
theorem WG{α:Type}{H O:T}{x:Option (α×am×T)}(h:Gr H O)(k:dm O x):dm H x:=λ_ _ _ e=>h.trans (k _ _ _ e)
theorem eA{α:Type}:∀{c:Bool}{x y:Option α}{r:α},cond c x y=some r->(c=true/\x=some r)\/(c=false/\y=some r)
 |true,_,_,_,h=> .inl ⟨rfl,h⟩
 |false,_,_,_,h=> .inr ⟨rfl,h⟩
theorem WH{row:V}{l:List V}:∀{o:Option Nat},∃m,Cd row l o=l++m
 |some _=>⟨[],(eh _).symm⟩
 |none=>⟨[row],rfl⟩
theorem WI{H:T}{row:V}:∀{o:Option Nat},Mo H (H.putN row o)
 |some _=> .so
 |none=>λa O h aL=>by
  rcases eA h with ⟨ao,h⟩|⟨ao,h⟩
  .exact pI h (P:=λ_ O=>H.bP O/\O.fA) ⟨⟨.inr (aL ao),⟨[],(eh _).symm⟩,cG _,cq _,rfl⟩,aL⟩
  .exact pI (br h).2 (P:=λ_ O=>H.bP O/\O.fA) ⟨⟨.inl rfl,WH,cG _,cq _,rfl⟩,λb=>nomatch ao.symm.trans b⟩
theorem wQ{H:T}{row:V}:Mo H (H.put row):=.ow WI
def dI{α bR:Type}(f:α->T->Option (bR×T)):Prop:=∀e H,Mo H (f e H)
theorem jO{f:Expr->T->Option (V×T)}(a6:dI f):∀{es:List Expr}{H:T},Mo H (dz f es H)
 |[],_=> .so
 |_::_,_=> .ob (a6 _ _) λ_ _=> .ob (jO a6) λ_ _=> .so
theorem Ko{f:Expr->T->Option (V×T)}(a6:dI f):∀{ks:List (Option Expr)}{es:List Expr}{H:T},Mo H (pa f ks es H)
 |[],[],_=> .so
 |[],_::_,_=> .no
 |none::_,_,_=> .no
 |some _::_,[],_=> .no
 |some _::_,_::_,_=> .ob (a6 _ _) λ_ _=> .ob (a6 _ _) λ_ _=> .ob (Ko a6) λ_ _=> .so
theorem CD{f:Expr->T->Option (V×T)}(a6:dI f){op:BoolOp}:∀{es:List Expr}{H:T},Mo H (kw f op es H)
 |[],_=> .no
 |[_],_=>a6 _ _
 |_::_::_,_=> .ob (a6 _ _) λ_ _=> .od λ_=> .cond .so (CD a6)
theorem ud{f:Expr->T->Option (Bool×T)}(a6:dI f){op:BoolOp}:∀{es:List Expr}{H:T},Mo H (gz f op es H)
 |[],_=> .so
 |_::_,_=> .ob (a6 _ _) λ_ _=> .cond .so (ud a6)
theorem wR{t:V->T->Option (Bool×T)}{f:V->T->Option (V×T)}(a1:dI t)(a6:dI f):∀{vs:List V}{H:T},Mo H (gR t f vs H)
 |[],_=> .so
 |_::_,_=> .ob (a1 _ _) λ_ _=> .cond (.ob (a6 _ _) λ_ _=> .ob (wR a1 a6) λ_ _=> .so) (wR a1 a6)
theorem wS{t:V->am->T->Option (Fl×am×T)}(a1:∀v J H,dm H (t v J H)):∀{vs:List V}{J:am}{H:T},dm H (je t vs J H)
 |[],_,_=>wP
 |_::_,_,_=>CC (a1 _ _ _) λ_ _=>wS a1
theorem iI{c:Cx}{J:am}{f:Expr->T->Option (V×T)}(a6:dI f):dI (b7 c J f):=λe H=>by
 show Mo H (Cn J f e H _)
 generalize (od (ek e) λx=>ow (fF c x) (some x))=y
 cases y
 .exact a6 _ _
 .exact .od λ_=> .so
theorem ana{bR:Type}{c:Bool}{x:Option bR}{r:bR}(h:(if c=true then x else Option.none)=some r):c=true/\x=some r:=by
 cases c
 .exact aI h
 .exact⟨rfl,h⟩
structure MonoAt (G:Gl) (n:Nat):Prop where
 e:∀c J,dI (aN G n c J)
 t:∀c J,dI (dR G n c J)
 o:∀c J,dI (ln G n c J)
 i:∀c J,dI (gA G n c J)
 c:∀f,dI (bK G n f)
 s:∀c J cB H,dm H (bv G n c J cB H)
section
variable {G:Gl}{n:Nat}{c:Cx}{J:am}{bM:Expr->T->Option (V×T)}{cJ:Fn->List V->T->Option (V×T)}{H:T}
theorem Kp(h:dI bM):∀{e:Option Expr},Mo H (wD bM H e)
 |none=> .so
 |some _=>h _ _
theorem Kq{α:Type}(h:dI bM){l:Expr}{ops:List CmpOp}{a3:List Expr}{k:Bool->T->Option (α×T)}(aj:∀b O,Mo O (k b O)):Mo H (wE c J bM l ops a3 H k):=
 .od λ_=> .od λ_=> .ob (iI h _ _) λ_ _=> .ob (iI h _ _) λ_ _=> .od λ_=>aj _ _
theorem WJ(h:dI bM){x:Expr}:∀{o:UnaryOp},Mo H (Ct c J bM x H o)
 | .Not=> .ob (iI h _ _) λ_ _=> .od λ_=> .so
 | .USub=> .od λ_=> .so
 | .Invert=> .no
 | .UAdd=> .no
theorem WK:∀{l:List (V×V)},Mo H (ru H l)
 |[]=> .so
 |[_]=> .ow .so
 |_::_::_=> .no
theorem WL:∀{l:List V},Mo H (Cr H l)
 |[]=> .no
 |_::_=> .od λ_=> .ow (.SP (.dec H (by rw [d5];exact eZ _ _)) .so)
theorem Kr{l:List V}:Mo H (Cs H l):=.od λ_=> .ow (.SP (.amW H _) wQ)
theorem WM(h:dI bM){f:Str}{as:List Expr}:Mo H (JY G c J bM f as H):=.cond (.od λ_=> .od λ_=> .ow (.ob (h _ _) λ_ _=> .pt)) (.ob (jO (iI h)) λ_ _=> .pt)
theorem WN(h:dI bM)(ap:∀f,dI (cJ f)){f:Str}{as:List Expr}:∀{o:Option Fn},Mo H (JZ G c J bM cJ f as H o)
 |none=> .cond (WM h) (.cond (.ob (jO h) λ_ _=>WL) (.ow (.ob (jO h) λ_ _=>Kr)))
 |some _=> .ob (jO (iI h)) λ_ _=> .ob (ap _ _ _) λ_ _=> .ow .so
theorem WO(h:dI bM)(ap:∀f,dI (cJ f)){m:Str}{as:List Expr}:∀{v:V},Mo H (J2 G bM cJ m as H v)
 | .tab=> .ow (.ob (jO h) λ_ _=> .od λ_=>wQ)
 | .host=> .od λ_=> .ob (jO h) λ_ _=>ap _ _ _
 | .dict _=> .ow (.ob (jO h) λ_ _=> .pt)
 | .none| .bool _| .int _| .str _| .tup _| .list _| .ty _| .decl _=> .no
theorem WP(h:dI bM)(ap:∀f,dI (cJ f)){o:Expr}{m:Str}{l:Bool}{as:List Expr}:∀{q:Option (Att×Expr×Expr)},Mo H (t5 G bM cJ o m l as H q)
 |some _=> .ow (.ob (h _ _) λ_ _=> .ow (.ob (h _ _) λ_ _=> .ob (h _ _) λ_ _=> .ow .pt))
 |none=> .ow (.ob (h _ _) λ_ _=>WO h ap)
theorem WQ(h:dI bM)(ap:∀f,dI (cJ f)){as:List Expr}{p:Pos}{f:Expr}:∀{ks:List Keyword},Mo H (J4 G c J bM cJ as p H f ks)
 |_::_=> .no
 |[]=>by
  cases f
  case Name=>exact .ow (WN h ap)
  case Attribute=>exact WP h ap
  all_goals exact .no
theorem WR(h:dI bM){lm:Option Expr->T->Option (V×T)}(aG:dI lm){b s:Expr}:∀{q:Option Cut},Mo H (wF c J bM lm b s H q)
 |none=> .ob (iI h _ _) λ_ _=> .ob (h _ _) λ_ _=> .pt
 |some _=> .ob (iI h _ _) λ_ _=> .ob (aG _ _) λ_ _=> .ob (aG _ _) λ_ _=> .pt
theorem WT(h:dI bM){lm:Option Expr->T->Option (V×T)}(aG:dI lm){b s:Expr}:∀{q:Option Att},Mo H (wG c J bM lm b s H q)
 |none=>WR h aG
 |some _=> .ow (.ob (h _ _) λ_ _=> .ow (.ob (h _ _) λ_ _=> .pt))
theorem WU(h:dI bM){pd:Expr->T->Option (Bool×T)}(a1:dI pd){e:Expr}:∀{k:Tk},Mo H (Cu c J bM pd e H k)
 | .not _=> .ob (a1 _ _) λ_ _=> .so
 | .bool _ _=>ud a1
 | .ite _ _ _=> .ob (a1 _ _) λ_ _=>a1 _ _
 | .cmp _ _ _=>Kq h λ_ _=> .so
 | .eo=> .ob (iI h _ _) λ_ _=> .pt
theorem WV(h:dI bM){e:Expr}:∀{k:Option Expr},Mo H (rx G c bM e H k)
 |none=> .ob (h _ _) λ_ _=> .pt
 |some _=> .ow (.ob (h _ _) λ_ _=> .od λ_=> .ow .so)
theorem WW(M:MonoAt G n)(c:Cx)(J:am):dI (aN G (n+1) c J):=λe H=>by
 have E:=M.e c J
 cases e
 case Constant=>exact .pt
 case Name=>exact .cond .pt (.ow .pt)
 case Tuple=>exact .ob (jO E) λ_ _=> .ow .so
 case List=>exact .ob (jO E) λ_ _=> .ow .so
 case Dict=>exact .ob (Ko E) λ_ _=>WK
 case UnaryOp=>exact WJ E
 case BinOp=>exact .ob (iI E _ _) λ_ _=> .ob (iI E _ _) λ_ _=> .pt
 case BoolOp=>exact CD E
 case Compare=>exact Kq E λ_ _=> .so
 case IfExp=>exact .ob (M.t _ _ _ _) λ_ _=>E _ _
 case ListComp=>exact .od λ_=> .ow (.ob (M.i _ _ _ _) λ_ _=> .ob (wR (λ_ _=>ud (M.t _ _)) λ_ _=>M.e _ _ _ _) λ_ _=> .ow .so)
 case Subscript=>exact WT E (M.o _ _)
 case Attribute=>exact .ow (.ob (E _ _) λ_ _=> .pt)
 case Call=>exact WQ E (M.c)
 all_goals exact .no
theorem WX(h:dI bM){dQ:am->T->Option (Fl×am×T)}(aJ:∀J H,dm H (dQ J H)){x m:Str}{a:Expr}{l:Bool}{aU:List V}:dm H (Cv c J bM dQ x m a l aU H):=
 jf (WF (jN (h _ _) λ_ _=>jf (aJ _ _)) (jf (jN (iI h _ _) λ_ _=>mr λ_=>jf (aJ _ _))))
theorem WY(h:dI bM){dQ:am->T->Option (Fl×am×T)}(aJ:∀J H,dm H (dQ J H)){e:Expr}:∀{k:Ak},dm H (Cw c J bM dQ e H k)
 | .nm _=>jf (jN (h _ _) λ_ _=>jf (aJ _ _))
 | .sub _ _=>jN (h _ _) λ_ _=>mr λ_=>jf (jN (h _ _) λ_ _=>jf (mr λ_=>aJ _ _))
 | .att _ _=>jN (h _ _) λ_ O=>mr λ_=>mr λ_=>jf (WG (.dec O (dW (List.length_set ..).symm)) (aJ _ _))
 | .bad=>uc
theorem WZ(h:dI bM){dQ:am->T->Option (Fl×am×T)}(aJ:∀J H,dm H (dQ J H)){x m:Str}{a e:Expr}{l:Bool}:∀{q:Option (List V)},dm H (wH c J bM dQ x m a e l H q)
 |some _=>WX h aJ
 |none=>jN (h _ _) λ_ _=>aJ _ _
theorem W0{dQ:am->T->Option (Fl×am×T)}(aJ:∀J H,dm H (dQ J H)){x y:Str}:∀f bg O,dm O (J5 J dQ x y f bg O)
 | .next,_,_=>mr λ_=>aJ _ _
 | .ret _,_,_=>uc
theorem W1(h:dI bM){dQ:am->T->Option (Fl×am×T)}(aJ:∀J H,dm H (dQ J H)){kx:Fn->am->T->Option (Fl×am×T)}(eJ:∀f J H,dm H (kx f J H)){f x:Str}{e:Expr}:∀{q:Option V},dm H (wI c J bM dQ G kx f x e H q)
 |some _=>jf (mr λ_=>mr λ_=>jf (Kn (eJ _ _ _) (W0 aJ)))
 |none=>jN (h _ _) λ_ _=>aJ _ _
theorem W2(h:dI bM){dQ:am->T->Option (Fl×am×T)}(aJ:∀J H,dm H (dQ J H)){kx:Fn->am->T->Option (Fl×am×T)}(eJ:∀f J H,dm H (kx f J H)){e:Expr}:∀{q:Xk},dm H (Cy G c J bM dQ kx e H q)
 | .i3 _ _ _ _=>WZ h aJ
 | .fn _ _=>W1 h aJ eJ
 | .eo=>jf (jN (h _ _) λ_ _=>aJ _ _)
theorem W3(M:∀m,m<=n->MonoAt G m)(c:Cx)(J:am)(cB:List Stmt)(H:T):dm H (bv G (n+1) c J cB H):=by
 have M:=M n (cq _)
 have E:=M.e c J
 cases cB with
 |nil=>exact wP
 |cons s bu=>
  have S:∀J H,dm H (bv G n c J bu H):=λJ H=>M.s _ _ _ _
  cases s
  case Expr=>exact W2 E S λ_ _ _=>M.s _ _ _ _
  case Assign=>exact WY E S
  case If=>exact jN (M.t _ _ _ _) λ_ _=>CC (M.s _ _ _ _) S
  case For=>exact jf (jN (M.i _ _ _ _) λ_ _=>CC (wS λ_ _ _=>mr λ_=>M.s _ _ _ _) S)
  case Return=>exact jN (Kp (iI E)) λ_ _=>wP
  all_goals exact uc
theorem gT(G:Gl):∀n,∀m,m<=n->MonoAt G m
 |0,0,_=>⟨λ_ _ _ _=> .no,λ_ _ _ _=> .no,λ_ _ _ _=> .no,λ_ _ _ _=> .no,λ_ _ _=> .no,λ_ _ _ _=>uc⟩
 |n+1,m,av=>by
  have bb:=gT G n
  rcases oP m (n+1) with q|q
  .exact bb m (Nat.le_of_lt_succ q)
  .obtain rfl:=tw av q
   have K:=bb n (cq _)
   exact⟨WW K,λ_ _ _ _=>WU (K.e _ _) (K.t _ _),λ_ _ _ _=>Kp (K.e _ _),λ_ _ _ _=>WV (K.e _ _),λ_ _ _=> .ow (.od λ_=> .oc (K.s _ _ _ _) λ_ _ _=> .so),W3 bb⟩
end
end Mine
end
noncomputable section
open PySem PySem.W PyProof.Rows PySem.PyData
namespace Mine
noncomputable def Ks:PyData->Bool
 | .int _=>true
 | .str s=>PyData.strOk s
 |_=>false
noncomputable def W4:PyData->Option (List PyData)
 | .tuple l=>some l
 |_=>none
def fG:Nat->PyData->Bool
 |0,x=>Ks x
 |d+1,x=>nE (Ks x) (fG d) (W4 x)
inductive KD (d:Nat):PyData->Prop
 |int (i:Int):KD d (.int i)
 |str (s:Str) (h:PyData.strOk s=true):KD d (.str s)
 |tup (n:Nat) (l:List PyData) (e:d=n+1) (h:∀x∈l,fG n x=true):KD d (.tuple l)
theorem ky{d:Nat}{x:PyData}(h:fG d x=true):KD d x:=by
 rcases d with _|d
 .rcases x
  case int=>exact .int _
  case str=>exact .str _ h
  all_goals exact nomatch h
 .rcases x
  case int=>exact .int _
  case str=>exact .str _ h
  case tuple l=>exact .tup d l rfl (List.all_eq_true.mp h)
  all_goals exact nomatch h
theorem wT{P:PyData->Prop}(hi:∀i,P (.int i))(aJ:∀s,PyData.strOk s=true->P (.str s))(a1:∀l,(∀x∈l,P x)->P (.tuple l)):∀(d:Nat){x:PyData},fG d x=true->P x:=by
 intro d
 induction d with
 |zero=>
  intro x h
  rcases ky h with i|⟨s,k⟩|⟨n,l,e,k⟩
  .exact hi i
  .exact aJ s k
  .exact nomatch e
 |succ d bb=>
  intro x h
  rcases ky h with i|⟨s,k⟩|⟨n,l,e,k⟩
  .exact hi i
  .exact aJ s k
  .injection e with e
   exact a1 l λx m=>bb (e▸k x m)
theorem Kt:∀{l:List PyData},(∀x∈l,x.canLay0=true)->canLayAll0 l=true
 |[],_=>rfl
 |x::r,h=>(c6 _ _).mpr ⟨h x (.head _),Kt λy m=>h y (.tail _ m)⟩
theorem Ku{d:Nat}{x:PyData}:fG d x=true->x.canLay0=true:=wT (λ_=>rfl) (λ_ h=>h) (λ_ h=>Kt h) d
theorem wU{n:Nat}:∀{l:List PyData},(∀x∈l,x.depth<=n)->depthAll l<=n
 |[],_=>iB _
 |x::r,h=>Nat.max_le.mpr ⟨h x (.head _),wU λy m=>h y (.tail _ m)⟩
theorem W5:∀{d:Nat}{x:PyData},fG d x=true->x.depth<=d:=by
 intro d
 induction d with
 |zero=>
  intro x h
  rcases ky h with i|⟨s,k⟩|⟨n,l,e,k⟩
  .exact cq _
  .exact cq _
  .exact nomatch e
 |succ d bb=>
  intro x h
  rcases ky h with i|⟨s,k⟩|⟨n,l,e,k⟩
  .exact iB _
  .exact iB _
  .injection e with e
   exact gr (wU λy m=>bb (e▸k y m))
open Classical in
theorem Kv{P:PyData->Prop}:∀{x y:List PyData},(∀a∈x,∀b,P b->a.eqv b=decide (a=b))->(∀z∈y,P z)->eqvAll x y=decide (x=y)
 |[],[],_,_=>(decide_eq_true rfl).symm
 |[],_::_,_,_=>(decide_eq_false nofun).symm
 |_::_,[],_,_=>(decide_eq_false nofun).symm
 |x::r,y::t,h,k=>by
  show (x.eqv y&&eqvAll r t)=_
  rw[h x (.head _) y (k y (.head _)),Kv (λz m=>h z (.tail _ m)) (λz m=>k z (.tail _ m)),<-Bool.decide_and]
  exact decide_eq_decide.mpr ⟨λh=>by rw [h.1,h.2],λh=>by injection h with a b;exact⟨a,b⟩⟩
open Classical in
theorem CE{α:Type}{f:α->PyData}(inj:∀a b,f a=f b->a=b)(a b:α)[Decidable (a=b)]:decide (a=b)=decide (f a=f b):=decide_eq_decide.mpr ⟨λh=>h▸rfl,inj a b⟩
open Classical in
theorem W6{d e:Nat}(x y:PyData)(hx:fG d x=true):fG e y=true->x.eqv y=decide (x=y):=by
 suffices h:∀e y,fG e y=true->x.eqv y=decide (x=y) from h e y
 refine wT (P:=λx=>∀e y,fG e y=true->x.eqv y=decide (x=y)) (λi e y h=>?_) (λs _ e y h=>?_) (λl bb e y h=>?_) d hx
 .rcases ky h with j|⟨_,_⟩|⟨_,_,_,_⟩
  .exact(v2 i j).trans (CE (λ_ _ h=>PyData.int.inj h) i j)
  .exact(decide_eq_false nofun).symm
  .exact(decide_eq_false nofun).symm
 .rcases ky h with _|⟨t,_⟩|⟨_,_,_,_⟩
  .exact(decide_eq_false nofun).symm
  .exact(v2 s t).trans (CE (λ_ _ h=>PyData.str.inj h) s t)
  .exact(decide_eq_false nofun).symm
 .rcases ky h with _|⟨_,_⟩|⟨n,m,_,k⟩
  .exact(decide_eq_false nofun).symm
  .exact(decide_eq_false nofun).symm
  .exact(Kv (P:=λz=>fG n z=true) (λa aw b ao=>bb a aw n b ao) k).trans (CE (λ_ _ h=>PyData.tuple.inj h) l m)
mutual
noncomputable def CF (w:World):PyData->Int
 | .int i=>hashInt i
 | .str s=>hashStr w s
 | .tuple l=>reduceHash (Builtin.Tuple.tupleHashOf (CG w l))
 |_=>0
noncomputable def CG (w:World):List PyData->List Int
 |[]=>[]
 |x::r=>CF w x::CG w r
end
mutual
noncomputable def wV:PyData->Nat
 | .tuple l=>ue l+1
 |_=>1
noncomputable def ue:List PyData->Nat
 |[]=>0
 |x::r=>wV x+ue r
end
theorem Rd.gN{g:bA}{v:Value}{l:List PyData}(h:Rd g v (.tuple l)):RdT g v l:=h.dat
section
variable {prog:Program}{w:World}{E:cI}
def PH(prog:Program)(w:World)(E:cI)(d:Nat)(k:PyData):Prop:=∀(v:Value)(A:Around)(s:Shared)(Q:Int->Shared->Prop),Rd s.heap.get? v k->A.units+d<cLine->
  Q (CF w k) {s with toks:=s.toks+wV k}->wpAny (model prog w) A (pyHash v) Q E s
theorem Kw{d:Nat}:∀(a4:List PyData)(vs:List Value)(A:Around)(s:Shared)(b:Array Int)(Q:Array Int->Shared->Prop),(∀x∈a4,PH prog w E d x)->RdL s.heap.get? vs a4->A.units+d<cLine->
  (∀hC,hC.toList=b.toList++CG w a4->Q hC {s with toks:=s.toks+ue a4})->
  wpAny (model prog w) A (forIn vs b λx r=>do let h <-pyHash x;pure PUnit.unit;pure (ForInStep.yield (r.push h))) Q E s
 |[],_,A,s,b,Q,_,x,_,h=>by rw [x.dat];exact wpAny_pure (h b (eh _).symm)
 |k::a4,_,A,s,b,Q,aj,x,bG,h=>by
  obtain⟨v,vs,e,pj,kz⟩:=x.dat
  rw[e,oN]
  refine wpAny_bind (wpAny_bind (aj k (.head _) _ A s _ pj bG ?_))
  refine wpAny_bind (wpAny_pure (wpAny_pure ?_))
  exact Kw a4 _ A _ _ Q (λy m=>aj y (.tail _ m)) kz bG λhC ao=>by
   rw[oM,iA] at ao
   have:=h hC ao
   rwa [show ue (k::a4)=wV k+ue a4 from rfl,<-jE] at this
theorem W7{d:Nat}{a4:List PyData}(aj:∀x∈a4,PH prog w E d x):PH prog w E (d+1) (.tuple a4):=by
 intro v A s Q x bG h
 obtain⟨a,o,vs,n,e,bx,ap,aQ,aq⟩:=x.gN
 rw[e]
 refine pyHash_slot (T:="tuple") ⟨_,bx,ap⟩ F.slot_tuple_hash F.entry_tuple_hash (F.args_tuple_hash_1 _) (beq_builtin_none _) (.inr (hZ (eZ _ _) bG)) ?_
 show wpAny _ _ (Builtin.Tuple.tupleItemsOf (.ref a)>>=_) _ _ s
 refine wpAny_bind (wpAny_tupleItemsOf bx aQ ?_)
 refine wpAny_bind ?_
 rw[<-Array.forIn_toList]
 refine Kw a4 vs.toList A.in1 s #[] _ aj aq (by simp only [Around.in1_units];lia) λb ao=>?_
 show wpAny _ _ (retInt (Builtin.Tuple.tupleHashOf b.toList)) _ _ _
 rw[ao]
 exact wpAny_bind (wpAny_mkInt (wpAny_pure ⟨_,_,rfl,h⟩))
theorem W8:∀(d:Nat)(k:PyData),fG d k=true->PH prog w E d k:=by
 intro d
 induction d with
 |zero=>
  intro k h v A s Q x bG q
  rcases ky h with i|⟨y,k⟩|⟨n,l,e,k⟩
  .obtain⟨t,e⟩:=x.dat;rw[e];exact wpAny_pyHash_int q
  .obtain⟨t,e⟩:=x.dat;rw[e];exact wpAny_pyHash_str q
  .exact nomatch e
 |succ d bb=>
  intro k h
  rcases ky h with i|⟨y,k⟩|⟨n,l,e,k⟩
  .intro v A s Q x bG q;obtain⟨t,e⟩:=x.dat;rw[e];exact wpAny_pyHash_int q
  .intro v A s Q x bG q;obtain⟨t,e⟩:=x.dat;rw[e];exact wpAny_pyHash_str q
  .injection e with e
   exact W7 λx m=>bb x (e▸k x m)
end
theorem Kx{vs:Array Value}{n:Nat}:(listOf vs n).cls≠ .type "tuple":=by simp
theorem Rd.uniq{g:bA}{d:PyData}{v:Value}(h:Rd g v d):∀{e:PyData},Rd g v e->d=e:=
 Rd.rec (motive_1:=λv d _=>∀{e},Rd g v e->d=e) (motive_2:=λvs l _=>∀{m},RdL g vs m->l=m) (λk=>k.val.symm) (λ_ _ k=>k.val.symm) (λ_ _ _ k=>k.val.symm) (λ_ _ _ k=>k.val.symm)
  (λ{a o vs n l} aw ap aQ aq bb {e} k=>by
   rcases k.val with ⟨m,q,b,b9,kA,db,bq,h',aP,mv,d7⟩|⟨m,q,b,kA,db,bq,h',d7⟩
   .injection bq with bq
    rw[<-bq,aw] at h'
    rw[<-Option.some.inj h',aQ] at mv
    injection mv with d1 d2
    rw[q,bb (d1▸d7)]
   .injection bq with bq
    rw[<-bq,aw] at h'
    rw[Option.some.inj h'] at ap
    exact absurd ap Kx)
  (λ{a vs n l} aw aq bb {e} k=>by
   rcases k.val with ⟨m,q,b,b9,kA,db,bq,h',aP,mv,d7⟩|⟨m,q,b,kA,db,bq,h',d7⟩
   .injection bq with bq
    rw[<-bq,aw] at h'
    rw[<-Option.some.inj h'] at aP
    exact absurd aP Kx
   .injection bq with bq
    rw[<-bq,aw] at h'
    have mv:=congrArg Obj.data (Option.some.inj h')
    injection mv with d1 d2
    rw[q,bb (d1▸d7)]) (λk=>k.val.symm) (by
   intro _ _ _ _ _ _ W9 Xa m k
   obtain⟨d,n,e,a,r⟩:=k.val
   rw[e,W9 a,Xa r]) h
section
variable {prog:Program}{w:World}{A:Around}{E:cI}{s:Shared}
def wW(prog:Program)(w:World)(A:Around)(E:cI)(d:Nat)(k:PyData):Prop:=∀(n:Nat)(v:Value)(s:Shared)(Q:Bool->Shared->Prop),d<=n->Rd s.heap.get? v k->Q true s->wpAny (model prog w) A (eqIsQuiet n v) Q E s
theorem Ky{d n:Nat}(aX:d<=n):∀(ks:List PyData)(vs:List Value)(s:Shared)(Q:Option Bool×Unit->Shared->Prop)(f:Value->Option Bool×Unit->Sem (ForInStep (Option Bool×Unit))),
  (∀y r,f y r=(do if !(<-eqIsQuiet n y) then pure (.done (some false,())) else pure (.yield (Option.none,()))))->
  (∀x∈ks,wW prog w A E d x)->RdL s.heap.get? vs ks->Q (Option.none,()) s->wpAny (model prog w) A (forIn vs (Option.none,()) f) Q E s
 |[],_,s,Q,f,_,_,x,h=>by rw [x.dat];exact wpAny_pure h
 |k::ks,_,s,Q,f,a6,aj,x,h=>by
  obtain⟨v,vs,e,pj,kz⟩:=x.dat
  rw[e,oN,a6]
  exact wpAny_bind (wpAny_bind (aj k (.head _) n _ s _ aX pj (wpAny_pure (Ky aX ks _ s Q f a6 (λy m=>aj y (.tail _ m)) kz h))))
theorem Xb{d:Nat}{a4:List PyData}(aj:∀x∈a4,wW prog w A E d x):wW prog w A E (d+1) (.tuple a4):=by
 intro n v s Q aX x h
 rcases n with _|n
 .exact absurd aX (zK _)
 obtain⟨a,o,vs,m,e,bx,ap,aQ,aq⟩:=x.gN
 rw[e]
 have lq:s.TypeIs (.ref a) "tuple":=⟨_,bx,ap⟩
 unfold eqIsQuiet
 refine wpAny_bind (wpAny_specialOf lq F.slot_tuple_eq.lookup ?_)
 show wpAny _ _ (isInstance (.ref a) (.type "tuple")>>=_) _ _ s
 refine wpAny_bind (wpAny_isInstance lq isSubtype_tuple_tuple ?_)
 show wpAny _ _ (seqItems? (.ref a)>>=_) _ _ s
 refine wpAny_bind (wpAny_seqItems bx aQ ?_)
 refine wpAny_bind ?_
 show wpAny _ _ (forIn vs _ _) _ _ s
 rw[<-Array.forIn_toList]
 exact Ky (zF aX) a4 vs.toList s _ _ (λ_ _=>rfl) aj aq (wpAny_pure h)
theorem Xc:∀(d:Nat)(k:PyData),fG d k=true->wW prog w A E d k:=by
 intro d
 induction d with
 |zero=>
  intro k h n v s Q _ x q
  rcases ky h with i|⟨y,k⟩|⟨n,l,e,k⟩
  .obtain⟨t,e⟩:=x.dat;rw[e,eqIsQuiet_byValue _ rfl];exact wpAny_pure q
  .obtain⟨t,e⟩:=x.dat;rw[e,eqIsQuiet_byValue _ rfl];exact wpAny_pure q
  .exact nomatch e
 |succ d bb=>
  intro k h
  rcases ky h with i|⟨y,k⟩|⟨n,l,e,k⟩
  .intro n v s Q _ x q;obtain⟨t,e⟩:=x.dat;rw[e,eqIsQuiet_byValue _ rfl];exact wpAny_pure q
  .intro n v s Q _ x q;obtain⟨t,e⟩:=x.dat;rw[e,eqIsQuiet_byValue _ rfl];exact wpAny_pure q
  .injection e with e
   exact Xb λx m=>bb x (e▸k x m)
end
theorem Kz{h h':Heap}:∀{k:List PyData}{v:List Value},(∀x∈k,∀v,Rd h.get? v x->Rd h'.get? v x)->RdL h.get? v k->RdL h'.get? v k
 |[],_,_,x=>by rw [x.dat];exact .nil
 |_::_,_,aj,x=>by
  obtain⟨v,vs,e,a,r⟩:=x.dat
  rw[e]
  exact .cons (aj _ (.head _) _ a) (Kz (λy m=>aj y (.tail _ m)) r)
theorem Xd{h h':Heap}{d:Addr}{o:Obj}{es:Array DictEntry}{ca:Nat}(aG:h.get? d=some o)(aQ:o.data= .dict es ca)(aJ:Heap.SameBut d h h')(n:Nat){k:PyData}(aj:fG n k=true):∀v:Value,Rd h.get? v k->Rd h'.get? v k:=
 wT (P:=λk=>∀v:Value,Rd h.get? v k->Rd h'.get? v k) (λi v x=>by obtain ⟨t,e⟩:=x.dat;rw[e];exact .int i t) (λi _ v x=>by obtain ⟨t,e⟩:=x.dat;rw[e];exact .str i t) (λl bb v x=>by
  obtain⟨a,anb,vs,m,e,bx,ap,aO,aq⟩:=x.gN
  rw[e]
  refine .tup ((aJ.2 a λe=>?_).trans bx) ap aO (Kz bb aq)
  rw[e,aG] at bx
  rw[Option.some.inj bx,aO] at aQ
  exact nomatch aQ) n aj
open Classical in
def kB (prog:Program) (w:World):HeapKind prog w PyData where
 is:=λh k a=>Rd h.get? (.ref a) k/\fG 6 k=true
 hash:=CF w
 draws:=wV
 room:=λA=>A.units+8<cLine
 inj:=λhx aY=>hx.1.uniq aY.1
 keeps:=λ{h h' k a d o es ca} x aG aQ aJ=>⟨Xd aG aQ aJ 6 x.2 _ x.1,x.2⟩
 pyHash:=λ{A E s k a Q} bG aj h=>W8 6 k aj.2 _ A s Q aj.1 (by lia) h
 eqBool:=λ{A E s x y a b Q} bG hx aY h=>by
  obtain⟨as,pk⟩:=hx.1.reads (h:=s.heap) λ_ _ e=>e
  obtain⟨bs,Xe⟩:=aY.1.reads (h:=s.heap) λ_ _ e=>e
  refine SeqAt.eqBoolOverData _ _ _ _ _ _ _ _ _ _ _ _ pk Xe (Ku hx.2) (Ku aY.2) ?_ (by rw [W6 x y hx.2 aY.2];exact h)
  have:=W5 hx.2
  lia
 quiet:=λ{A E s k a Q} aj h=>Xc 6 k aj.2 8 _ s Q (by decide) aj.1 h
end Mine
end
noncomputable section
open PySem PySem.W PyProof.Rows
namespace Mine
noncomputable def hE:V->Bool
 | .list _=>true
 | .dict _=>true
 |_=>false
structure Ta where
 tab:Addr
 cU:Addr
 rows:Addr
 idx:Addr
 decls:Addr
 du:Addr
 dfl:Addr
 ew:Addr
 host:Addr
 hv:Addr
 hh:Bool
 gO:Addr
 qN:Addr
 fg:Addr
 h0:Heap
structure Gh where
 ta:Ta
 im:bA
 dd:List (Addr×Addr)
noncomputable def Gh.bW(g:Gh):List Addr:=[g.ta.rows,g.ta.idx,g.ta.decls,g.ta.du,g.ta.dfl,g.ta.ew]++g.dd.map (·.2)
section
variable (prog:Program)(w:World)
inductive ObjDict {K:Type} [DecidableEq K] (knd:KeyKind prog w K) (o:Obj) (aW:List (K×Value)):Prop
 |mk (es:Array DictEntry) (ca:Nat) (aa:o.ExactDict) (ah:o.data= .dict es ca) (aC:KeysOf knd es) (bC:Pairs knd es.toList aW) (ee:(aW.map (·.1)).Nodup)
inductive Kvs {K:Type} (c7:K->PyData) (H:T) (im:bA):List (V×V)->List (K×Value)->Prop
 |nil:Kvs c7 H im [] []
 |cons {k x:V} {i:K} {v:Value} {d:PyData} {l:List (V×V)} {aW:List (K×Value)}:bI H k=some (c7 i)->bI H x=some d->Rd im v d->Kvs c7 H im l aW->Kvs c7 H im ((k,x)::l) ((i,v)::aW)
inductive DictO (H:T) (im:bA) (o:Obj) (l:List (V×V)):Prop
 |int (aW:List (Int×Value)) (aa:ObjDict prog w (intKind prog w) o aW) (ah:Kvs .int H im l aW)
 |str (aW:List (Str×Value)) (aa:ObjDict prog w (strKind prog w) o aW) (ah:Kvs .str H im l aW)
inductive VDec (g:Gh) (v:Value) (k:Nat):Prop
 |mk (p:Addr×Addr) (aa:1<=k) (ah:g.dd[k - 1]? =some p) (e:v= .ref p.1)
inductive VDic (H:T) (im look:bA) (v:Value) (l:List (V×V)):Prop
 |mk (a:Addr) (o:Obj) (e:v= .ref a) (h:look a=some o) (m:(a==sysModules)=false) (D:DictO prog w H im o l)
inductive VLis (H:T) (im look:bA) (v:Value) (l:List V):Prop
 |mk (a:Addr) (vs:Array Value) (n:Nat) (ds:List PyData) (e:v= .ref a) (h:look a=some (listOf vs n)) (r:RdL im vs.toList ds) (c:bX H l=some ds)
inductive VDat (H:T) (im:bA) (v:Value) (u:V):Prop
 |mk (d:PyData) (c:bI H u=some d) (r:Rd im v d)
def Val(H:T)(g:Gh)(look:bA)(v:Value):V->Prop
 | .tab=>v= .ref g.ta.tab
 | .host=>v= .ref g.ta.host/\g.ta.hh=true
 | .decl k=>VDec g v k
 | .dict l=>VDic prog w H g.im look v l
 | .list l=>VLis H g.im look v l
 |x=>VDat H g.im v x
inductive Vals (H:T) (g:Gh):List Value->List V->Prop
 |nil:Vals H g [] []
 |cons {v:Value} {x:V} {vs:List Value} {a4:List V}:Val prog w H g g.im v x->Vals H g vs a4->Vals H g (v::vs) (x::a4)
inductive TkTab (g:Gh):Prop
 |mk (es:List DictEntry) (n:Nat) (h:g.im g.ta.cU=some (dictOf es n)) (rows:getL h6 es=some (some (.ref g.ta.rows))) (idx:getL jc es=some (some (.ref g.ta.idx))) (decls:getL kt es=some (some (.ref g.ta.decls)))
  (du:getL ku es=some (some (.ref g.ta.du))) (dfl:getL "defaults" es=some (some (.ref g.ta.dfl))) (ew:getL "names" es=some (some (.ref g.ta.ew))) (put:getL h7 es=some none)
inductive TkHost (g:Gh):Prop
 |mk (es:List DictEntry) (n:Nat) (h:g.im g.ta.hv=some (dictOf es n)) (tab:getL cF es=some (some (.ref g.ta.tab))) (no:∀m:Str,m="force"\/m="bound"\/m="shape"\/m="list_prop"->getL m es=some none)
inductive TkRows (H:T) (g:Gh) (h:Heap):Prop
 |mk (vs:Array Value) (n:Nat) (ds:List PyData) (e:h.get? g.ta.rows=some (listOf vs n)) (r:RdL g.im vs.toList ds) (c:bX H (H.base++H.dyn)=some ds)
open Classical in
inductive TkIdx (H:T) (g:Gh) (h:Heap):Prop
 |mk (o:Obj) (es:Array DictEntry) (ca:Nat) (a4:List (PyData×Addr×Value)) (e:h.get? g.ta.idx=some o) (x:o.ExactDict) (d:o.data= .dict es ca) (l:es.toList=a4.map (entryOfKey (kB prog w))) (nd:(a4.map (·.1)).Nodup)
  (r:∀x∈a4,Rd g.im (.ref x.2.1) x.1/\fG 6 x.1=true) (c:bX H (H.base++H.dyn)=some (a4.map (·.1))) (i:∀(i:Nat)(x:PyData×Addr×Value),a4[i]? =some x->∃t,x.2.2= .int i t)
inductive TkDecls (H:T) (g:Gh) (h:Heap):Prop
 |mk (vs:Array Value) (n:Nat) (e:h.get? g.ta.decls=some (listOf vs n)) (l:vs.toList= .none::g.dd.map (.ref ·.1)) (n:H.decls.length=g.dd.length+1)
inductive TkDecl (H:T) (g:Gh) (h:Heap) (k:Nat) (p:Addr×Addr):Prop
 |mk (a:g.im p.1=some (instObj g.ta.fg p.2)) (es:List DictEntry) (n:Nat) (e:h.get? p.2=some (dictOf es n)) (l:es.length<=100) (v:Value) (b:getL lc es=some (some v)) (r:Rd g.im v (.tuple []))
  (i:Int) (t:Tok) (x:V) (y:getL fT es=some (some (.int i t))) (a5:H.decls[k+1]? =some x) (c:bI H x=some (.int i))
inductive TkBnds (H:T) (g:Gh) (h:Heap):Prop
 |mk (vs:Array Value) (n:Nat) (e:h.get? g.ta.du=some (listOf vs n)) (l:vs.toList.length=H.bounds.length) (i:∀(i:Nat)(z:Int),H.bounds[i]? =some z->∃t,vs.toList[i]? =some (Value.int z t))
inductive TkLst (H:T) (h:Heap) (a:Addr):Prop
 |mk (vs:Array Value) (n:Nat) (e:h.get? a=some (listOf vs n)) (l:vs.size<=H.bounds.length)
open Classical in
structure TOK (H:T) (g:Gh) (h:Heap):Prop where
 tab:g.im g.ta.tab=some (instObj g.ta.gO g.ta.cU)
 cU:TkTab g
 host:g.ta.hh=true->g.im g.ta.host=some (instObj g.ta.qN g.ta.hv)
 hv:g.ta.hh=true->TkHost g
 rows:TkRows H g h
 idx:TkIdx prog w H g h
 k2:(g.ta.idx==sysModules)=false
 decls:TkDecls H g h
 decl:∀(k:Nat)(p:Addr×Addr),g.dd[k]? =some p->TkDecl H g h k p
 du:TkBnds H g h
 dfl:TkLst H h g.ta.dfl
 ew:TkLst H h g.ta.ew
 nd:g.bW.Nodup
 out:∀a∈g.bW,g.im a=none
structure Cfg (H:T) (g:Gh) (h:Heap):Prop where
 bn:∀a o,g.im a=some o->h.get? a=some o
 base:∀a o,g.ta.h0.get? a=some o->g.im a=some o
 ok:H.Ok
 tok:TOK prog w H g h
 line:H.decls.length<=64+H.cnt/\H.bounds.length<=64+H.cnt
 mods:∃o,g.ta.h0.get? sysModules=some o
end
inductive DdTo (g au:Gh) (h:Heap):Prop
 |mk (m:List (Addr×Addr)) (e:au.dd=g.dd++m) (n:∀p∈m,h.get? p.2=none)
structure Ext (g:Gh) (h:Heap) (au:Gh) (h':Heap):Prop where
 ta:au.ta=g.ta
 im:∀a o,g.im a=some o->au.im a=some o
 new:∀a o,h.get? a=some o->au.im a=g.im a
 old:∀a o,h.get? a=some o->a∉g.bW->h'.get? a=some o
 dd:DdTo g au h
 live:∀a o,h.get? a=some o->∃b9,h'.get? a=some b9
theorem DdTo.mem{g au:Gh}{h:Heap}(d:DdTo g au h)(e:au.ta=g.ta){a:Addr}{o:Obj}(aw:h.get? a=some o):a∈au.bW↔a∈g.bW:=by
 obtain⟨m,av,aS⟩:=d
 unfold Gh.bW
 rw[e,av,nj,<-iA,zS]
 refine⟨λq=>q.elim id λq=>?_,.inl⟩
 obtain⟨p,CH,e⟩:=List.mem_map.mp q
 exact aI ((aS p CH).symm.trans (e▸aw))
theorem Ext.bW{g au:Gh}{h h':Heap}(x:Ext g h au h'){a:Addr}{o:Obj}(aw:h.get? a=some o):a∈au.bW↔a∈g.bW:=x.dd.mem x.ta aw
theorem DdTo.refl(g:Gh)(h:Heap):DdTo g g h:=⟨[],(eh _).symm,nofun⟩
theorem Ext.refl(g:Gh)(h:Heap):Ext g h g h:=⟨rfl,λ_ _ e=>e,λ_ _ _=>rfl,λ_ _ e _=>e,.refl g h,λ_ o e=>⟨o,e⟩⟩
theorem gU{h h':Heap}(l:∀a o,h.get? a=some o->∃b9,h'.get? a=some b9){a:Addr}(e:h'.get? a=none):h.get? a=none:=by
 rcases q:h.get? a with _|o
 .rfl
 .obtain⟨b9,gc⟩:=l a o q
  exact aI (e.symm.trans gc)
theorem DdTo.trans{g au hF:Gh}{h h':Heap}(x:DdTo g au h)(y:DdTo au hF h')(l:∀a o,h.get? a=some o->∃b9,h'.get? a=some b9):DdTo g hF h:=by
 obtain⟨m,av,aS⟩:=x
 obtain⟨k,aj,aO⟩:=y
 exact⟨m++k,by rw [aj,av,iA],λp CH=>(List.mem_append.mp CH).elim (aS p) λq=>gU l (aO p q)⟩
theorem Ext.trans{g au hF:Gh}{h h' jP:Heap}(x:Ext g h au h')(y:Ext au h' hF jP):Ext g h hF jP:=
 ⟨y.ta.trans x.ta,λa o e=>y.im a o (x.im a o e),λa o aw=>(x.live a o aw).elim λb9 gc=>(y.new a b9 gc).trans (x.new a o aw),λa o aw aX=>y.old a o (x.old a o aw aX) (λq=>aX ((x.bW aw).mp q)),
  x.dd.trans y.dd x.live,λa o e=>(x.live a o e).elim λb9 gc=>y.live a b9 gc⟩
section
variable {prog:Program}{w:World}
theorem Kvs.mono{K:Type}{c7:K->PyData}{H O:T}{im hf:bA}(k:H.bP O)(hi:∀a o,im a=some o->hf a=some o){l:List (V×V)}{aW:List (K×Value)}(h:Kvs c7 H im l aW):Kvs c7 O hf l aW:=by
 induction h with
 |nil=>exact .nil
 |cons a b c _ bb=>exact .cons (pi k a) (pi k b) (c.mono hi) bb
theorem DictO.mono{H O:T}{im hf:bA}(k:H.bP O)(hi:∀a o,im a=some o->hf a=some o){o:Obj}{l:List (V×V)}(h:DictO prog w H im o l):DictO prog w O hf o l:=by
 rcases h with ⟨aW,a,b⟩|⟨aW,a,b⟩
 .exact .int aW a (b.mono k hi)
 .exact .str aW a (b.mono k hi)
structure Gh.le (g au:Gh):Prop where
 ta:au.ta=g.ta
 im:∀a o,g.im a=some o->au.im a=some o
 dd:∃m,au.dd=g.dd++m
theorem DdTo.le{g au:Gh}{h:Heap}(x:DdTo g au h):∃m,au.dd=g.dd++m:=by
 obtain⟨m,a,_⟩:=x
 exact⟨m,a⟩
theorem Ext.le{g au:Gh}{h h':Heap}(x:Ext g h au h'):g.le au:=⟨x.ta,x.im,x.dd.le⟩
theorem VDat.mono{H O:T}{im hf:bA}(k:H.bP O)(hi:∀a o,im a=some o->hf a=some o){v:Value}{u:V}(h:VDat H im v u):VDat O hf v u:=by
 obtain⟨d,aa,ah⟩:=h
 exact⟨d,pi k aa,ah.mono hi⟩
theorem VLis.mono{H O:T}{im hf look jQ:bA}(k:H.bP O)(hi:∀a o,im a=some o->hf a=some o){v:Value}(ag:∀a o,v= .ref a->look a=some o->jQ a=some o){l:List V}(h:VLis H im look v l):VLis O hf jQ v l:=by
 obtain⟨a,vs,n,ds,aa,ah,aC,bC⟩:=h
 exact⟨a,vs,n,ds,aa,ag _ _ aa ah,aC.mono hi,mq k bC⟩
theorem VDic.mono{H O:T}{im hf look jQ:bA}(k:H.bP O)(hi:∀a o,im a=some o->hf a=some o){v:Value}(ag:∀a o,v= .ref a->look a=some o->jQ a=some o){l:List (V×V)}(h:VDic prog w H im look v l):VDic prog w O hf jQ v l:=by
 obtain⟨a,o,aa,ah,aC,bC⟩:=h
 exact⟨a,o,aa,ag _ _ aa ah,aC,bC.mono k hi⟩
theorem VDec.mono{g au:Gh}(x:g.le au){v:Value}{k:Nat}(h:VDec g v k):VDec au v k:=by
 obtain⟨p,aa,ah,aC⟩:=h
 obtain⟨m,av⟩:=x.dd
 exact⟨p,aa,by rw [av];exact mc (List.getElem?_eq_some_iff.mp ah).1▸ah,aC⟩
theorem Val.mono{H O:T}{g au:Gh}{look jQ:bA}(k:H.bP O)(x:g.le au)(ag:∀a o,look a=some o->jQ a=some o){v:Value}{u:V}(h:Val prog w H g look v u):Val prog w O au jQ v u:=by
 rcases u
 case tab=>exact mg h (congrArg _ (congrArg _ x.ta.symm))
 case host=>exact⟨h.1.trans (congrArg _ (congrArg _ x.ta.symm)),x.ta.symm▸h.2⟩
 case decl=>exact VDec.mono x h
 case dict=>exact VDic.mono k x.im (λa o _=>ag a o) h
 case list=>exact VLis.mono k x.im (λa o _=>ag a o) h
 all_goals exact VDat.mono k x.im h
theorem Val.seen{H O:T}{g au:Gh}{look jQ:bA}(k:H.bP O)(x:∀a o,g.im a=some o->au.im a=some o){a:Addr}(ag:∀o,look a=some o->jQ a=some o){u:V}(ap:hE u=true)(h:Val prog w H g look (.ref a) u):Val prog w O au jQ (.ref a) u:=by
 have ag:∀b o,Value.ref a= .ref b->look b=some o->jQ b=some o:=λb o e=>by injection e with e;exact e▸ag o
 rcases u
 case dict=>exact VDic.mono k x ag h
 case list=>exact VLis.mono k x ag h
 all_goals exact nomatch ap
theorem Val.ext{H O:T}{g au:Gh}{h h':Heap}(k:H.bP O)(x:Ext g h au h'){v:Value}{u:V}(q:Val prog w H g g.im v u):Val prog w O au au.im v u:=q.mono k x.le x.im
theorem Vals.ext{H O:T}{g au:Gh}{h h':Heap}(k:H.bP O)(x:Ext g h au h'){v:List Value}{u:List V}(q:Vals prog w H g v u):Vals prog w O au v u:=by
 induction q with
 |nil=>exact .nil
 |cons a _ bb=>exact .cons (a.ext k x) bb
inductive ValC (prog:Program) (w:World) (H:T) (g:Gh) (vs:List Value) (x:V) (a4:List V):Prop
 |mk (v:Value) (aU:List Value) (e:vs=v::aU) (a:Val prog w H g g.im v x) (r:Vals prog w H g aU a4)
noncomputable def KA(prog:Program)(w:World)(H:T)(g:Gh)(vs:List Value):List V->Prop
 |[]=>vs=[]
 |x::a4=>ValC prog w H g vs x a4
theorem Vals.dat{H:T}{g:Gh}{vs:List Value}{a4:List V}(q:Vals prog w H g vs a4):KA prog w H g vs a4:=
 Vals.casesOn (motive:=λvs a4 _=>KA prog w H g vs a4) q rfl λa r=>⟨_,_,rfl,a,r⟩
theorem anc{H:T}{u:V}{d:PyData}(h:bI H u=some d):u.flat=true:=by
 rcases u
 case dict=>exact aI h
 case tab=>exact aI h
 case host=>exact aI h
 case decl=>exact aI h
 all_goals rfl
theorem Val.g9{H:T}{g:Gh}{v:Value}{u:V}{d:PyData}(ap:bI H u=some d)(aq:Rd g.im v d):Val prog w H g g.im v u:=by
 rcases u
 case list l=>
  obtain⟨ds,aa,e⟩:=ua ap
  rw[e] at aq
  obtain⟨a,vs,n,e,h,r⟩:=aq.dat
  exact⟨_,_,_,_,e,h,r,aa⟩
 case dict=>exact aI ap
 case tab=>exact aI ap
 case host=>exact aI ap
 case decl=>exact aI ap
 all_goals exact ⟨d,ap,aq⟩
theorem Xf{H:T}{l:List V}{ds:List PyData}(h:bX H l=some ds):bI H (.list l)=some (.list ds):=by
 show od (bX H l) _=_
 rw[h];rfl
theorem VDat.look{H:T}{im look:bA}(ag:∀a o,im a=some o->look a=some o){v:Value}{u:V}(h:VDat H im v u):∃d,bI H u=some d/\Rd look v d:=by
 obtain⟨d,aa,ah⟩:=h
 exact⟨d,aa,ah.mono ag⟩
theorem Val.flat{H:T}{g:Gh}{look:bA}{v:Value}{u:V}(ag:∀a o,g.im a=some o->look a=some o)(h:Val prog w H g look v u)(a6:u.flat=true):∃d,bI H u=some d/\Rd look v d:=by
 rcases u
 case list l=>
  obtain⟨a,vs,n,ds,e,ah,aC,bC⟩:=h
  exact⟨.list ds,Xf bC,e▸ .list ah (aC.mono ag)⟩
 case dict=>exact nomatch a6
 case tab=>exact nomatch a6
 case host=>exact nomatch a6
 case decl=>exact nomatch a6
 all_goals exact VDat.look ag h
theorem Vals.flat{H:T}{g:Gh}{vs:List Value}{aU:List V}(h:Vals prog w H g vs aU):aU.all V.flat=true->∃ds,bX H aU=some ds/\RdL g.im vs ds:=by
 induction h with
 |nil=>exact λ_=>⟨[],rfl,.nil⟩
 |cons a _ bb=>
  intro a6
  obtain⟨ds,aa,ah⟩:=bb (aK a6).2
  obtain⟨d,aC,bC⟩:=a.flat (λ_ _ e=>e) (aK a6).1
  exact⟨d::ds,h9 aC aa,.cons bC ah⟩
theorem Vals.Ie{H:T}{g:Gh}:∀{aU:List V}{vs:List Value}{ds:List PyData},bX H aU=some ds->RdL g.im vs ds->Vals prog w H g vs aU
 |[],_,_,h,r=>by
  rw[<-Option.some.inj h] at r
  rw[r.dat];exact .nil
 |u::aU,_,_,h,r=>by
  obtain⟨d,m,e,aQ,av⟩:=fa h
  rw[e] at r
  obtain⟨v,vs,e,a,b⟩:=r.dat
  rw[e]
  exact .cons (.g9 aQ a) (Vals.Ie av b)
theorem Vals.length{H:T}{g:Gh}{vs:List Value}{aU:List V}(h:Vals prog w H g vs aU):vs.length=aU.length:=by
 induction h with
 |nil=>rfl
 |cons _ _ bb=>simp[bb]
inductive VSeq (H:T) (im look:bA) (v:Value) (u:V) (l:List V):Prop
 |mk (a:Addr) (o:Obj) (vs:Array Value) (n:Nat) (ds:List PyData) (e:v= .ref a) (h:look a=some o) (d:o.data= .seq vs n) (k:(u= .tup l/\o.cls= .type "tuple")\/(u= .list l/\o=listOf vs n)) (r:RdL im vs.toList ds) (c:bX H l=some ds)
theorem Val.seq{H:T}{g:Gh}{look:bA}{v:Value}{u:V}{l:List V}(h:Val prog w H g look v u)(aJ:hd u=some l)(ag:∀a o,g.im a=some o->look a=some o):VSeq H g.im look v u l:=by
 rcases u
 case tup=>
  obtain⟨d,aa,ah⟩:=h
  obtain⟨ds,aC,e⟩:=gS aa
  rw[e] at ah
  obtain⟨a,o,vs,n,e,bx,ap,aQ,aq⟩:=ah.gN
  exact gb aJ ⟨a,o,vs,n,ds,e,ag _ _ bx,aQ,.inl ⟨rfl,ap⟩,aq,aC⟩
 case list=>
  obtain⟨a,vs,n,ds,e,ah,aC,bC⟩:=h
  exact gb aJ ⟨a,_,vs,n,ds,e,ah,rfl,.inr ⟨rfl,rfl⟩,aC,bC⟩
 all_goals exact aI aJ
end
inductive Ro where
 |loc
 |cell (x:Str)
 |own (x:Str)
theorem KC{x y:Str}(h:Ro.cell x= .cell y):x=y:=by injection h
theorem KE{x y:Str}(h:Ro.own x= .own y):x=y:=by injection h
section
variable (prog:Program)(w:World)
inductive HOwn (H:T) (g:Gh) (h:Heap) (ai:Addr->Option Ro) (x:Str) (v:Value) (u:V):Prop
 |mk (c:hE u=true) (a:Addr) (e:v= .ref a) (f:ai a=some (.own x)) (k:Val prog w H g h.get? v u)
def Hold(H:T)(g:Gh)(h:Heap)(ai:Addr->Option Ro)(x:Str)(v:Value)(u:V)(o:Bool):Prop:=match o with
 |false=>Val prog w H g g.im v u
 |true=>HOwn prog w H g h ai x v u
inductive FrNs (H:T) (g:Gh) (h:Heap) (env:Env) (J:am) (ai:Addr->Option Ro):Prop
 |mk (m:Str->Option Value) (n:h.Ns env.locals m) (k:∀x u o,env.kindOf x=some .local->a2 J x=some (u,o)->∃v,m x=some v/\Hold prog w H g h ai x v u o)
inductive FrCl (H:T) (g:Gh) (h:Heap) (env:Env) (J:am) (ai:Addr->Option Ro) (x:Str) (a:Addr):Prop
 |mk (v:Option Value) (c:h.IsCell a v) (f:ai a=some (.cell x)) (k:∀u o,(env.kindOf x=some .cell\/env.kindOf x=some .free)->a2 J x=some (u,o)->∃z,v=some z/\Hold prog w H g h ai x z u o)
structure Sep1 (g:Gh) (h:Heap) (a:Addr):Prop where
 im:g.im a=none
 mu:a∉g.bW
 live:∃o,h.get? a=some o
structure FrR (H:T) (g:Gh) (h:Heap) (env:Env) (J:am) (ai:Addr->Option Ro):Prop where
 ns:FrNs prog w H g h env J ai
 cl:∀x a,env.cells.lookup x=some a->FrCl prog w H g h env J ai x a
 loc:ai env.locals=some .loc
 sep:∀a r,ai a=some r->Sep1 g h a
 dot:a2 J dM=none
end
structure EnvR (sc:Scope) (env:Env):Prop where
 kind:env.scope.kind= .function
 glob:env.globals=mainGlobals
 blt:env.builtins=builtinsNs
 loc:∀x,lk sc.names x=some .local->env.kindOf x=some .local
 cell:∀x,lk sc.names x=some .cell->env.kindOf x=some .cell/\∃a,env.cells.lookup x=some a
 free:∀x,lk sc.names x=some .free->(env.kindOf x=some .cell\/env.kindOf x=some .free)/\∃a,env.cells.lookup x=some a
 impl:∀x,lk sc.names x=some .globalImplicit->env.kindOf x=some .globalImplicit
 good:∀x k,lk sc.names x=some k->x≠"__debug__"/\x≠"__classdict__"
section
variable {prog:Program}{w:World}
theorem Hold.ext{H O:T}{g au:Gh}{h h':Heap}{ai:Addr->Option Ro}{x:Str}{v:Value}{u:V}{o:Bool}(k:H.bP O)(X:Ext g h au h')(aJ:∀a r,ai a=some r->Sep1 g h a)(q:Hold prog w H g h ai x v u o):Hold prog w O au h' ai x v u o:=by
 rcases o with _|_
 .exact Val.ext k X q
 .obtain⟨ap,a,e,aw,al⟩:=q
  rw[e] at al
  exact⟨ap,a,e,aw,e▸al.seen k X.im (λo e=>X.old a o e (aJ _ _ aw).mu) ap⟩
theorem FrR.same{H:T}{g au:Gh}{h h':Heap}{env:Env}{J:am}{ai:Addr->Option Ro}(F:FrR prog w H g h env J ai)(X:Ext g h au h'){a:Addr}{r:Ro}{o:Obj}(e:ai a=some r)(q:h.get? a=some o):h'.get? a=some o:=X.old a o q (F.sep a r e).mu
theorem FrR.ext{H O:T}{g au:Gh}{h h':Heap}{env:Env}{J:am}{ai:Addr->Option Ro}(F:FrR prog w H g h env J ai)(k:H.bP O)(X:Ext g h au h')(_im:∀a o,au.im a=some o->h'.get? a=some o):
  FrR prog w O au h' env J ai:=by
 refine⟨?_,λx a e=>?_,F.loc,λa r e=>?_,F.dot⟩
 .obtain⟨m,aX,al⟩:=F.ns
  refine⟨m,?_,λx u o e q=>(al x u o e q).elim λv h=>⟨v,h.1,h.2.ext k X F.sep⟩⟩
  obtain⟨ob,es,ca,aG,r⟩:=aX
  exact⟨ob,es,ca,F.same X F.loc aG,r⟩
 .obtain⟨v,⟨ob,aG,aQ⟩,ah,aC⟩:=F.cl x a e
  exact⟨v,⟨ob,F.same X ah aG,aQ⟩,ah,λu o q jg=>(aC u o q jg).elim λz h=>⟨z,h.1,h.2.ext k X F.sep⟩⟩
 .obtain⟨aa,ah,o,aC⟩:=F.sep a r e
  exact⟨(X.new a o aC).trans aa,λq=>ah ((X.bW aC).mp q),X.live a o aC⟩
end
end Mine
end
noncomputable section
open PySem PySem.W PyProof.Rows PySem.Calls
namespace Mine
variable {H:T} {O:T} {aD:T} {g:Gh} {au:Gh} {h:Heap} {h':Heap} {J:am} {bg:am} {x:Str} {y:Str} {p:Pos} {q:Pos} {pp:Pos} {c:Cx} {n:Nat} {m:Nat} {i:Nat} {k:Nat} {j:Nat} {env:Env} {ai:Addr->Option Ro} {A:Around} {E:cI} {Q:cI} {s:Shared} {sc:Scope} {u:V} {K:Frag} {a:Addr} {e:Expr} {G:Gl} {prog:Program} {w:World} {ta:Ta} {bp:Str->Option Value} {mb:Str->Option Value} {bu:List Stmt} {as:List Expr} {d:PyData}
abbrev ba:Nat:=1048576
structure Room (A:Around) (n:Nat):Prop where
 handled:A.handled=none
 depth:A.depth+n<990
 units:A.units+20*n+400<cLine
theorem Room.less(R:Room A n)(h:m<=n):Room A m:=⟨R.handled,hZ (dh h _) R.depth,hZ (jC (dh (oL 20 h) _) 400) R.units⟩
theorem FrR.amM(F:FrR prog w H g h env J ai):∃m,h.Ns env.locals m:=by
 obtain⟨m,a,_⟩:=F.ns
 exact⟨m,a⟩
section
def ToV(prog:Program)(w:World)(H:T)(g:Gh)(s:Shared)(O:T)(v:V)(Q:cI):Prop:=∀au h' aF u,Ext g s.heap au h'->H.bP O->Cfg prog w O au h'->Val prog w O au au.im u v->Q u {s with heap:=h',toks:=aF}
def CJ(prog:Program)(w:World)(H:T)(g:Gh)(s:Shared)(O:T)(l:List V)(Q:List Value->Shared->Prop):Prop:=∀au h' aF vs,Ext g s.heap au h'->H.bP O->Cfg prog w O au h'->Vals prog w O au vs l->Q vs {s with heap:=h',toks:=aF}
def cx(prog:Program)(w:World)(G:Gl)(ta:Ta)(n:Nat):Prop:=
 ∀(c:Cx)(J:am)(e:Expr)(H:T)(v:V)(O:T),aN G n c J e H=some (v,O)->O.cnt<=ba->
  ∀(A:Around)(env:Env)(ai:Addr->Option Ro)(g:Gh)(s:Shared)(Q:cI)(E:cI),
   Room A n->g.ta=ta->EnvR c.sc env->Cfg prog w H g s.heap->FrR prog w H g s.heap env J ai->
   ToV prog w H g s O v Q->
   wpAny (model prog w) A (eval e env) Q E s
theorem ia(R:EnvR sc env){k:NameKind}(h:lk sc.names x=some k):(x==("__debug__":Str))=false:=beq_eq_false_iff_ne.mpr (R.good x k h).1
theorem jh{o:Bool}(R:EnvR sc env)(F:FrR prog w H g s.heap env J ai)(aj:lk sc.names x=some .local\/lk sc.names x=some .cell\/lk sc.names x=some .free)(aq:a2 J x=some (u,o))(ak:∀v,Hold prog w H g s.heap ai x v u o->Q v s):wpAny (model prog w) A (eval (.Name x p) env) Q E s:=by
 rcases aj with aj|aj|aj
 .obtain⟨m,aX,al⟩:=F.ns
  obtain⟨v,aa,ah⟩:=al x u o (R.loc x aj) aq
  exact wpAny_Name (wpAny_loadName_local R.kind (R.loc x aj) aX aa (ak v ah)) (ia R aj)
 .obtain⟨aa,a,aw⟩:=R.cell x aj
  obtain⟨v,ah,aC,bC⟩:=F.cl x a aw
  obtain⟨z,e,ee⟩:=bC u o (.inl aa) aq
  exact wpAny_Name (wpAny_loadName_cell R.kind aa aw (e▸ah) (ak z ee)) (ia R aj)
 .obtain⟨aa,a,aw⟩:=R.free x aj
  obtain⟨v,ah,aC,bC⟩:=F.cl x a aw
  obtain⟨z,e,ee⟩:=bC u o aa aq
  exact wpAny_Name (aa.elim (λaa=>wpAny_loadName_cell R.kind aa aw (e▸ah) (ak z ee)) λaa=>wpAny_loadName_free R.kind aa aw (e▸ah) (ak z ee) (beq_eq_false_iff_ne.mpr (R.good x _ aj).2)) (ia R aj)
theorem jR{v:V}(h:aN G n c J e H=some (v,O))(aL:H.Ok):H.bP O/\O.fA:=(gT G n n (cq _)).e c J e H _ _ h aL.bld
theorem mw{v:V}(h:aN G n c J e H=some (v,O))(aL:H.fA):H.bP O/\O.fA:=(gT G n n (cq _)).e c J e H _ _ h aL
theorem pl{v:V}(h:b7 c J (aN G n c J) e H=some (v,O))(aL:H.fA):H.bP O/\O.fA:=iI ((gT G n n (cq _)).e c J) _ _ _ _ h aL
theorem rz{e:List Expr}{v:List V}(h:dz (aN G n c J) e H=some (v,O))(aL:H.fA):H.bP O/\O.fA:=jO ((gT G n n (cq _)).e c J) _ _ h aL
theorem CK{e:List Expr}{v:List V}(h:dz (b7 c J (aN G n c J)) e H=some (v,O))(aL:H.fA):H.bP O/\O.fA:=jO (iI ((gT G n n (cq _)).e c J)) _ _ h aL
def Seen(prog:Program)(w:World)(H:T)(g:Gh)(h:Heap)(ai:Addr->Option Ro)(v:Value)(u:V):Prop:=∃x o,Hold prog w H g h ai x v u o
theorem Seen.of{v:Value}(q:Val prog w H g g.im v u):Seen prog w H g h ai v u:=⟨"",false,q⟩
theorem Seen.val{v:Value}(q:Seen prog w H g h ai v u)(im:∀a o,g.im a=some o->h.get? a=some o):Val prog w H g h.get? v u:=by
 obtain⟨x,o,q⟩:=q
 rcases o with _|_
 .exact Val.mono (.refl H) ⟨rfl,λ_ _ e=>e,[],(eh _).symm⟩ im q
 .obtain⟨_,_,_,_,q⟩:=q
  exact q
theorem Seen.ext{v:Value}(k:H.bP O)(X:Ext g h au h')(aJ:∀a r,ai a=some r->Sep1 g h a)(_im:∀a o,au.im a=some o->h'.get? a=some o)(q:Seen prog w H g h ai v u):Seen prog w O au h' ai v u:=by
 obtain⟨x,o,q⟩:=q
 exact⟨x,o,q.ext k X aJ⟩
def KG(prog:Program)(w:World)(H:T)(g:Gh)(s:Shared)(ai:Addr->Option Ro)(O:T)(v:V)(Q:cI):Prop:=∀au h' aF u,Ext g s.heap au h'->H.bP O->Cfg prog w O au h'->Seen prog w O au h' ai u v->Q u {s with heap:=h',toks:=aF}
theorem jS(h:ek e=some x):∃p,e= .Name x p:=by
 rcases e
 case Name=>exact gb h (P:=λx=>∃p,_=Expr.Name x p) ⟨_,rfl⟩
 all_goals exact aI h
theorem CL(h:fF c x=true):lk c.sc.names x=some .local\/lk c.sc.names x=some .cell\/lk c.sc.names x=some .free:=by
 unfold fF at h
 rcases e:lk c.sc.names x with _|k<;>rw[e] at h
 .exact nomatch h
 .rcases k
  case «local»=>exact .inl rfl
  case cell=>exact .inr (.inl rfl)
  case free=>exact .inr (.inr rfl)
  all_goals exact nomatch h
theorem rA(h:gy c x=true):lk c.sc.names x=some .globalImplicit:=by
 unfold gy at h
 rcases e:lk c.sc.names x with _|k<;>rw[e] at h
 .exact nomatch h
 .rcases k
  case globalImplicit=>rfl
  all_goals exact nomatch h
inductive ViewI (c:Cx) (J:am) (f:Expr->T->Option (V×T)) (e:Expr) (H:T) (v:V) (O:T):Prop
 |nm (x:Str) (p:Pos) (u:V) (o:Bool) (q:e= .Name x p) (k:lk c.sc.names x=some .local\/lk c.sc.names x=some .cell\/lk c.sc.names x=some .free) (r:a2 J x=some (u,o)) (h:some (u,H)=some (v,O))
 |ev (h:f e H=some (v,O))
theorem CM{f:Expr->T->Option (V×T)}{v:V}(h:b7 c J f e H=some (v,O)):ViewI c J f e H v O:=by
 unfold b7 at h
 rcases q:(od (ek e) λx=>ow (fF c x) (some x)) with _|x<;>rw[q] at h
 .exact .ev h
 .obtain⟨y,aa,ah⟩:=bD q
  obtain⟨aC,bC⟩:=br ah
  obtain⟨p,e⟩:=jS aa
  obtain⟨⟨u,o⟩,aq,h⟩:=bD h
  rw[Option.some.inj bC] at e aC
  exact .nm x p u o e (CL aC) aq h
theorem my(S:cx prog w G ta n){v:V}(h:b7 c J (aN G n c J) e H=some (v,O))(ag:O.cnt<=ba)(R:Room A n)(T:g.ta=ta)(N:EnvR c.sc env)(C:Cfg prog w H g s.heap)(F:FrR prog w H g s.heap env J ai)(ak:KG prog w H g s ai O v Q):
  wpAny (model prog w) A (eval e env) Q E s:=by
 rcases CM h with ⟨x,p,u,o,e,aj,aq,q⟩|h
 .refine pI q (P:=λv O=>KG prog w H g s ai O v Q->_) (λak=>?_) ak
  rw[e]
  exact jh N F aj aq λv al=>ak g s.heap s.toks v (.refl _ _) (.refl _) C ⟨x,o,al⟩
 .exact S c J e H v O h ag A env ai g s Q E R T N C F λau h' aF u a b c d=>ak au h' aF u a b c (.of d)
noncomputable def mz:Expr->Bool
 | .Starred ..=>false
 | .Slice ..=>false
 | .Set ..=>false
 | .SetComp ..=>false
 | .DictComp ..=>false
 |_=>true
theorem mA{r:V×T}(h:aN G n c J e H=some r):mz e=true:=by
 rcases n with _|n
 .exact aI h
 .rcases e
  case Starred=>exact aI h
  case Slice=>exact aI h
  case Set=>exact aI h
  case SetComp=>exact aI h
  case DictComp=>exact aI h
  all_goals rfl
theorem wX{v:V}(h:b7 c J (aN G n c J) e H=some (v,O)):mz e=true:=by
 rcases CM h with ⟨x,p,u,o,e,aj,aq,q⟩|h
 .rw[e];rfl
 .exact mA h
theorem wY(h:mz e=true)(bu:List Expr)(env:Env):starEach (e::bu) env=(false,eval e env)::starEach bu env:=by
 rcases e
 case Starred=>exact nomatch h
 all_goals rfl
theorem nK{r:V×T}(h:aN G n c J e H=some r)(bu:List Expr)(env:Env):starEach (e::bu) env=(false,eval e env)::starEach bu env:=wY (mA h) bu env
theorem KH{v:V}(h:b7 c J (aN G n c J) e H=some (v,O))(bu:List Expr)(env:Env):starEach (e::bu) env=(false,eval e env)::starEach bu env:=wY (wX h) bu env
theorem mB(S:cx prog w G ta n){pos:Pos}(R:Room A n)(N:EnvR c.sc env):
  ∀{es:List Expr}{H:T}{l:List V}{O:T},dz (aN G n c J) es H=some (l,O)->O.cnt<=ba->∀{g:Gh}{s:Shared}{Q:List Value->Shared->Prop},g.ta=ta->Cfg prog w H g s.heap->FrR prog w H g s.heap env J ai->
  CJ prog w H g s O l Q->wpAny (model prog w) A (spliced (backTo pos (starEach es env))) Q E s
 |[],H,l,O,h,_,g,s,Q,T,C,F,ak=>by
  revert ak
  exact pI h (P:=λl O=>CJ prog w H g s O l Q->_) λak=>args_nil (ak g s.heap s.toks [] (.refl _ _) (.refl _) C .nil)
 |e::es,H,l,O,h,ag,g,s,Q,T,C,F,ak=>by
  obtain⟨v,aD,aa,h⟩:=b1 h
  obtain⟨vs,bS,ah,h⟩:=b1 h
  revert ag ak
  refine pI h (P:=λl O=>O.cnt<=ba->CJ prog w H g s O l Q->_) λag ak=>?_
  have cC:=jR aa C.ok
  have cA:=rz ah cC.2
  refine args_cons (S c J e H v aD aa (aT cA.1.cnt ag) A env ai g s _ E R T N C F λaV aB bh u aR k₁ aZ bT=>?_) (nK aa es env)
  refine mB S R N ah ag (aR.ta.trans T) aZ (F.ext k₁ aR aZ.bn) λcD a8 b8 aU cn dn b3 dr=>?_
  exact ak cD a8 b8 _ (aR.trans cn) (k₁.trans dn) b3 (.cons (bT.ext dn cn) dr)
inductive Seens (prog:Program) (w:World) (H:T) (g:Gh) (h:Heap) (ai:Addr->Option Ro):List Value->List V->Prop
 |nil:Seens prog w H g h ai [] []
 |cons {v:Value} {x:V} {vs:List Value} {a4:List V}:Seen prog w H g h ai v x->Seens prog w H g h ai vs a4->Seens prog w H g h ai (v::vs) (x::a4)
def CN(prog:Program)(w:World)(H:T)(g:Gh)(s:Shared)(ai:Addr->Option Ro)(O:T)(l:List V)(Q:List Value->Shared->Prop):Prop:=∀au h' aF vs,Ext g s.heap au h'->H.bP O->Cfg prog w O au h'->Seens prog w O au h' ai vs l->Q vs {s with heap:=h',toks:=aF}
theorem Xg(S:cx prog w G ta n){pos:Pos}(R:Room A n)(N:EnvR c.sc env):
  ∀{es:List Expr}{H:T}{l:List V}{O:T},dz (b7 c J (aN G n c J)) es H=some (l,O)->O.cnt<=ba->∀{g:Gh}{s:Shared}{Q:List Value->Shared->Prop},g.ta=ta->Cfg prog w H g s.heap->FrR prog w H g s.heap env J ai->
  CN prog w H g s ai O l Q->wpAny (model prog w) A (spliced (backTo pos (starEach es env))) Q E s
 |[],H,l,O,h,_,g,s,Q,T,C,F,ak=>by
  revert ak
  exact pI h (P:=λl O=>CN prog w H g s ai O l Q->_) λak=>args_nil (ak g s.heap s.toks [] (.refl _ _) (.refl _) C .nil)
 |e::es,H,l,O,h,ag,g,s,Q,T,C,F,ak=>by
  obtain⟨v,aD,aa,h⟩:=b1 h
  obtain⟨vs,bS,ah,h⟩:=b1 h
  revert ag ak
  refine pI h (P:=λl O=>O.cnt<=ba->CN prog w H g s ai O l Q->_) λag ak=>?_
  have cC:=pl aa C.ok.bld
  have cA:=CK ah cC.2
  refine args_cons (my S aa (aT cA.1.cnt ag) R T N C F λaV aB bh u aR k₁ aZ bT=>?_) (KH aa es env)
  have dA:=F.ext k₁ aR aZ.bn
  refine Xg S R N ah ag (aR.ta.trans T) aZ dA λcD a8 b8 aU cn dn b3 dr=>?_
  exact ak cD a8 b8 _ (aR.trans cn) (k₁.trans dn) b3 (.cons (bT.ext dn cn dA.sep b3.bn) dr)
end
theorem ji(h:Heap):h.get? h.objs.size=none:=by
 rcases e:h.get? h.objs.size with _|o
 .rfl
 .exact absurd (gs e) (qY _)
theorem ane{o b9:Obj}(e:(h.push o).get? a=some b9):a=h.objs.size\/a<h.objs.size:=by
 have:=gs e
 rw[kl] at this
 exact(Nat.lt_or_eq_of_le (Nat.le_of_lt_succ this)).elim .inr .inl
section
theorem TOK.keep(K:TOK prog w H g h)(a1:au.ta=g.ta)(aQ:au.dd=g.dd)(fk:∀a o,g.im a=some o->au.im a=some o)(rB:∀a∈g.bW,au.im a=none)(wZ:∀a∈g.bW,∀o,h.get? a=some o->h'.get? a=some o):TOK prog w H au h':=by
 have em:au.bW=g.bW:=by unfold Gh.bW;rw[a1,aQ]
 have cC:∀{a},a∈([g.ta.rows,g.ta.idx,g.ta.decls,g.ta.du,g.ta.dfl,g.ta.ew]:List Addr)->∀o,h.get? a=some o->h'.get? a=some o:=λaw o e=>wZ _ (jD _ aw) o e
 rcases au with ⟨ta,im,dd⟩
 change ta=g.ta at a1;change dd=g.dd at aQ
 rw[a1,aQ] at*
 refine⟨fk _ _ K.tab,?_,λq=>fk _ _ (K.host q),?_,?_,?_,K.k2,?_,?_,?_,?_,?_,em▸K.nd,em▸rB⟩
 .obtain⟨es,n,a,hg,gV,hj,jT,mC,lr,hk⟩:=K.cU;exact⟨es,n,fk _ _ a,hg,gV,hj,jT,mC,lr,hk⟩
 .intro q;obtain⟨es,n,a,b,c⟩:=K.hv q;exact⟨es,n,fk _ _ a,b,c⟩
 .obtain⟨vs,n,ds,a,b,c⟩:=K.rows;exact⟨vs,n,ds,cC (.head _) _ a,b.mono fk,c⟩
 .obtain⟨o,es,ca,a4,a,b,c,d,e,f,i,j⟩:=K.idx;exact⟨o,es,ca,a4,cC (.tail _ (.head _)) _ a,b,c,d,e,λx hx=>⟨(f x hx).1.mono fk,(f x hx).2⟩,i,j⟩
 .obtain⟨vs,n,a,b,c⟩:=K.decls;exact⟨vs,n,cC (.tail _ (.tail _ (.head _))) _ a,b,c⟩
 .intro k p aS
  obtain⟨a,es,n,b,c,v,d,e,fH,gC,f3,jU,lu,CO⟩:=K.decl k p aS
  exact⟨fk _ _ a,es,n,wZ p.2 (zI _ (tm (oK aS))) _ b,c,v,d,e.mono fk,fH,gC,f3,jU,lu,CO⟩
 .obtain⟨vs,n,a,b,c⟩:=K.du;exact⟨vs,n,cC (.tail _ (.tail _ (.tail _ (.head _)))) _ a,b,c⟩
 .obtain⟨vs,n,a,b⟩:=K.dfl;exact⟨vs,n,cC (.tail _ (.tail _ (.tail _ (.tail _ (.head _))))) _ a,b⟩
 .obtain⟨vs,n,a,b⟩:=K.ew;exact⟨vs,n,cC (.tail _ (.tail _ (.tail _ (.tail _ (.tail _ (.head _)))))) _ a,b⟩
theorem Cfg.keep(C:Cfg prog w H g h)(a1:au.ta=g.ta)(aQ:au.dd=g.dd)(fk:∀a o,g.im a=some o->au.im a=some o)(rB:∀a∈g.bW,au.im a=none)(wZ:∀a∈g.bW,∀o,h.get? a=some o->h'.get? a=some o)(bn:∀a o,au.im a=some o->h'.get? a=some o):Cfg prog w H au h':=
 ⟨bn,λa o e=>fk _ _ (C.base a o (a1▸e)),C.ok,C.tok.keep a1 aQ fk rB wZ,C.line,a1▸C.mods⟩
theorem Cfg.grow(C:Cfg prog w H g h)(aj:∀b o,h.get? b=some o->h'.get? b=some o):Cfg prog w H g h':=
 C.keep rfl rfl (λ_ _ e=>e) C.tok.out (λa _ o e=>aj a o e) λa o e=>aj a o (C.bn a o e)
theorem Ext.grow(g:Gh)(aj:∀b o,h.get? b=some o->h'.get? b=some o):Ext g h g h':=
 ⟨rfl,λ_ _ e=>e,λ_ _ _=>rfl,λa o e _=>aj a o e,.refl _ _,λa o e=>⟨o,aj a o e⟩⟩
noncomputable def Gh.add(g:Gh)(a:Addr)(o:Obj):Gh:={g with im:=λb=>if b=a then some o else g.im b}
theorem Gh.g7{o:Obj}{b:Addr}(h:b≠a):(g.add a o).im b=g.im b:=if_neg h
theorem Gh.hu{o:Obj}(h:g.im a=none)(b:Addr)(q:Obj)(e:g.im b=some q):(g.add a o).im b=some q:=
 (Gh.g7 λx=>aI (h.symm.trans (x▸e))).trans e
theorem Gh.jA(g:Gh)(a:Addr)(o:Obj):(g.add a o).im a=some o:=if_pos rfl
theorem Gh.oH{o:Obj}{b:Addr}{q:Obj}(e:(g.add a o).im b=some q):(b=a/\o=q)\/g.im b=some q:=by
 rcases eR (b=a) with h|h
 .exact .inl ⟨h,Option.some.inj ((if_pos h).symm.trans e)⟩
 .exact .inr ((Gh.g7 h).symm.trans e)
theorem Cfg.g8(C:Cfg prog w H g h)(aw:h.get? a=none):g.im a=none:=by
 rcases e:g.im a with _|o
 .rfl
 .exact aI (aw.symm.trans (C.bn a o e))
theorem KJ{α:Type}{x a b c d e f:α}(h:x∈[a,b,c,d,e,f]):x=a\/x=b\/x=c\/x=d\/x=e\/x=f:=by simpa only [qZ,kj,or_false] using h
theorem Cfg.vX(C:Cfg prog w H g h)(aw:a∈g.bW):∃o,h.get? a=some o:=by
 have K:=C.tok
 rcases List.mem_append.mp aw with aw|aw
 .rcases KJ aw with e|e|e|e|e|e<;>rw[e]
  .obtain⟨vs,n,ds,a,_⟩:=K.rows;exact⟨_,a⟩
  .obtain⟨o,es,ca,a4,a,_⟩:=K.idx;exact⟨_,a⟩
  .obtain⟨vs,n,a,_⟩:=K.decls;exact⟨_,a⟩
  .obtain⟨vs,n,a,_⟩:=K.du;exact⟨_,a⟩
  .obtain⟨vs,n,a,_⟩:=K.dfl;exact⟨_,a⟩
  .obtain⟨vs,n,a,_⟩:=K.ew;exact⟨_,a⟩
 .obtain⟨p,aS,e⟩:=List.mem_map.mp aw
  obtain⟨i,hi⟩:=List.mem_iff_getElem?.mp aS
  obtain⟨_,es,n,b,_⟩:=K.decl i p hi
  exact⟨_,e▸b⟩
theorem Cfg.add(C:Cfg prog w H g h){o:Obj}(aw:h.get? a=none)(e:h'.get? a=some o)(aj:∀b o,h.get? b=some o->h'.get? b=some o):
  Ext g h (g.add a o) h'/\Cfg prog w H (g.add a o) h':=by
 have aX:=C.g8 aw
 have ne:∀b q,h.get? b=some q->b≠a:=λb q eq x=>aI (aw.symm.trans (x▸eq))
 refine⟨⟨rfl,Gh.hu aX,λb q ao=>Gh.g7 (ne b q ao),λb q e _=>aj b q e,⟨[],(eh _).symm,nofun⟩,λb q e=>⟨q,aj b q e⟩⟩,C.keep rfl rfl (Gh.hu aX) (λb ao=>?_) (λb _ q e=>aj b q e) λb q bq=>?_⟩
 .exact(C.vX ao).elim λq e=>(Gh.g7 (ne b q e)).trans (C.tok.out b ao)
 .rcases Gh.oH bq with ⟨x,y⟩|bq
  .rw[x,<-y];exact e
  .exact aj _ _ (C.bn _ _ bq)
theorem Cfg.push(C:Cfg prog w H g h)(o:Obj)(aS:(h.push o).get? h.objs.size=some o):Ext g h (g.add h.objs.size o) (h.push o)/\Cfg prog w H (g.add h.objs.size o) (h.push o):=
 C.add (ji h) aS (λb q e=>ey o e)
theorem gd{α:Type}{l:List α}(h:cz l=true):l.length<=4096:=fi h
theorem rE(h:n<=4096):(n:Int)<2^63:=by lia
theorem pm(h:n<=4096):n<=sizeLine:=aT h (by decide)
theorem RdL.size{im:bA}{vs:Array Value}{ds:List PyData}(h:RdL im vs.toList ds):vs.size=ds.length:=tn▸h.length
theorem rF:∀{l:List V}{ds:List PyData},bX H l=some ds->ds.length=l.length
 |[],_,h=>da h rfl
 |u::aU,_,h=>by obtain ⟨d,m,e,_,av⟩:=fa h;rw[e];exact congrArg Nat.succ (rF av)
theorem f4{im:bA}{vs:Array Value}{ds:List PyData}{l:List V}(h:RdL im vs.toList ds)(c:bX H l=some ds):vs.size=l.length:=h.size.trans (rF c)
theorem Val.int_inv{look:bA}{v:Value}{i:Int}(h:Val prog w H g look v (.int i)):∃t,v= .int i t:=by
 obtain⟨d,aa,ah⟩:=h;rw[<-Option.some.inj aa] at ah;exact ah.dat
theorem Val.bool_inv{look:bA}{v:Value}{b:Bool}(h:Val prog w H g look v (.bool b)):v= .bool b:=by
 obtain⟨d,aa,ah⟩:=h;rw[<-Option.some.inj aa] at ah;exact ah.dat
theorem Val.none_inv{look:bA}{v:Value}(h:Val prog w H g look v .none):v= .none:=by
 obtain⟨d,aa,ah⟩:=h;rw[<-Option.some.inj aa] at ah;exact ah.dat
theorem Val.str_inv{look:bA}{v:Value}(h:Val prog w H g look v (.str x)):PyData.strOk x=true/\∃t,v= .str x t:=by
 obtain⟨d,aa,ah⟩:=h;rw[(gB aa).1] at ah;exact⟨(gB aa).2,ah.dat⟩
theorem Val.int{look:bA}(i:Int)(t:Tok):Val prog w H g look (.int i t) (.int i):=⟨_,rfl,.int i t⟩
theorem Val.bool{look:bA}(b:Bool):Val prog w H g look (.bool b) (.bool b):=⟨_,rfl,.bool b⟩
theorem Val.none{look:bA}:Val prog w H g look .none .none:=⟨_,rfl,.none⟩
theorem Val.kh{look:bA}{v:Value}{l:List V}(h:Val prog w H g look v (.list l)):VLis H g.im look v l:=h
inductive VTup (H:T) (im:bA) (v:Value) (l:List V):Prop
 |mk (a:Addr) (o:Obj) (vs:Array Value) (n:Nat) (ds:List PyData) (e:v= .ref a) (h:im a=some o) (c:o.cls= .type "tuple") (d:o.data= .seq vs n) (r:RdL im vs.toList ds) (k:bX H l=some ds)
theorem Val.gN{look:bA}{v:Value}{l:List V}(h:Val prog w H g look v (.tup l)):VTup H g.im v l:=by
 obtain⟨d,aa,ah⟩:=h
 obtain⟨ds,aC,e⟩:=gS aa
 rw[e] at ah
 obtain⟨a,o,vs,n,e,bx,ap,aQ,aq⟩:=ah.gN
 exact⟨a,o,vs,n,ds,e,bx,ap,aQ,aq,aC⟩
theorem CP{vs:Array Value}{l:List V}(e:vs.size=l.length):vs.isEmpty=l.isEmpty:=by
 unfold Array.isEmpty
 rw[e]
 rcases l with _|⟨x,l⟩<;>rfl
theorem CQ{v:Value}{b:Bool}{Q:Bool->Shared->Prop}(a1:u.truth=some b)(al:Val prog w H g s.heap.get? v u)(fk:∀a o,g.im a=some o->s.heap.get? a=some o)(ak:∀aF,Q b {s with toks:=aF}):wpAny (model prog w) A (truthy v) Q E s:=by
 rcases u
 case none=>revert ak;exact da a1 λak=>by rw [al.none_inv];exact truthy_none (ak s.toks)
 case bool=>revert ak;exact da a1 λak=>by rw [al.bool_inv];exact wpAny_truthy_bool (ak s.toks)
 case int i=>
  obtain⟨t,e⟩:=al.int_inv
  rw[e]
  refine P.truthy_int ?_
  have:(i !=0)=b:=(congrArg (!·) (Kd i 0).symm).trans (Option.some.inj a1)
  rw[this];exact ak s.toks
 case tup=>
  obtain⟨ag,a1⟩:=br a1
  obtain⟨a,o,vs,n,ds,e,bx,ap,aQ,aq,aC⟩:=al.gN
  have e1:=f4 aq aC
  rw[e]
  refine truthy_tuple ⟨o,fk _ _ bx,ap,n,aQ⟩ (rE (e1▸gd ag)) ?_
  rw[CP e1,Option.some.inj a1];exact ak _
 case list=>
  obtain⟨ag,a1⟩:=br a1
  obtain⟨a,vs,n,ds,e,bx,aq,aC⟩:=al.kh
  have e1:=f4 aq aC
  rw[e]
  refine wpAny_truthy_list ⟨_,bx,rfl,n,rfl⟩ (rE (e1▸gd ag)) ?_
  rw[CP e1,Option.some.inj a1];exact ak _
 all_goals exact aI a1
end
section
abbrev Got (prog:Program) (w:World) (H:T) (g:Gh) (s:Shared) (Q:cI) (r:V):Prop:=
 ∀au h' aF u,Ext g s.heap au h'->Cfg prog w H au h'->Val prog w H au au.im u r->Q u {s with heap:=h',toks:=aF}
theorem Got.here{r:V}(G:Got prog w H g s Q r)(C:Cfg prog w H g s.heap){u:Value}(bG:Val prog w H g g.im u r)(aF:Nat):Q u {s with toks:=aF}:=
 G g s.heap aF u (.refl _ _) C bG
theorem Got.push{r:V}(G:Got prog w H g s Q r)(C:Cfg prog w H g s.heap){o:Obj}(aS:(s.heap.push o).get? s.heap.objs.size=some o)(bG:Val prog w H (g.add s.heap.objs.size o) (g.add s.heap.objs.size o).im (.ref s.heap.objs.size) r)(aF:Nat):Q (.ref s.heap.objs.size) {s with heap:=s.heap.push o,toks:=aF}:=
 G _ _ aF _ (C.push o aS).1 (C.push o aS).2 bG
theorem RdL.add{o:Obj}(h:g.im a=none){vs:List Value}{ds:List PyData}(r:RdL g.im vs ds):RdL (g.add a o).im vs ds:=r.mono (Gh.hu h)
theorem Got.list{l:List V}(G:Got prog w H g s Q (.list l))(C:Cfg prog w H g s.heap){vs:Array Value}{ds:List PyData}(aq:RdL g.im vs.toList ds)(ap:bX H l=some ds)(aF:Nat):
  Q (.ref s.heap.objs.size) {s with heap:=s.heap.push (listOf vs n),toks:=aF}:=
 G.push C (ez _ rfl) ⟨_,vs,n,ds,rfl,Gh.jA _ _ _,aq.add (C.g8 (ji _)),ap⟩ aF
theorem uf{l:List V}{ds:List PyData}(h:bX H l=some ds):bI H (.tup l)=some (.tuple ds):=by
 show od (bX H l) _=_
 rw[h];rfl
theorem Got.tup{l:List V}(G:Got prog w H g s Q (.tup l))(C:Cfg prog w H g s.heap){vs:Array Value}{ds:List PyData}(aq:RdL g.im vs.toList ds)(ap:bX H l=some ds)(aF:Nat):
  Q (.ref s.heap.objs.size) {s with heap:=s.heap.push {cls:=.type "tuple",data:=.seq vs n},toks:=aF}:=
 G.push C (ez _ rfl) (.g9 (d:=.tuple ds) (uf ap) (.tup (Gh.jA _ _ _) rfl rfl (aq.add (C.g8 (ji _))))) aF
theorem CR:∀{l m:List V}{ds es:List PyData},bX H l=some ds->bX H m=some es->bX H (l++m)=some (ds++es)
 |[],m,_,es,h,k=>by rw [<-Option.some.inj h];exact k
 |u::aU,m,_,es,h,k=>by obtain ⟨d,ds,e,aQ,av⟩:=fa h;rw[e];exact h9 aQ (CR av k)
theorem CS:∀{l:List V}{ds:List PyData}(n:Nat),bX H l=some ds->bX H (l.take n)=some (ds.take n)
 |_,_,0,_=>rfl
 |[],_,_+1,h=>by rw [<-Option.some.inj h];rfl
 |u::aU,_,n+1,h=>by obtain ⟨d,ds,e,aQ,av⟩:=fa h;rw[e];exact h9 aQ (CS n av)
theorem KL:∀{l:List V}{ds:List PyData}(n:Nat),bX H l=some ds->bX H (l.drop n)=some (ds.drop n)
 |_,_,0,h=>h
 |[],_,_+1,h=>by rw [<-Option.some.inj h];rfl
 |u::aU,_,n+1,h=>by obtain ⟨d,ds,e,aQ,av⟩:=fa h;rw[e];exact KL n av
theorem w0{H:T}:∀{l:List V}{ds:List PyData}{n:Nat}{u:V},bX H l=some ds->l[n]? =some u->∃d,ds[n]? =some d/\bI H u=some d
 |[],_,_,_,h,k=>nomatch k
 |u::aU,_,0,_,h,k=>by obtain ⟨d,ds,e,aQ,av⟩:=fa h;rw[e,<-Option.some.inj k];exact⟨d,rfl,aQ⟩
 |u::aU,_,n+1,_,h,k=>by obtain ⟨d,ds,e,aQ,av⟩:=fa h;rw[e];exact w0 (n:=n) av k
section
variable {a b r:V}{eK cQ:Value}
theorem KN{vs:Array Value}{l:List V}(e:vs.size=l.length)(h:vs.isEmpty=true):l=[]:=List.isEmpty_iff.mp ((CP e).symm.trans h)
theorem Xh{l m:List V}(ag:cz (l++m)=true)(C:Cfg prog w H g s.heap)(aw:Val prog w H g s.heap.get? eK (.tup l))(ao:Val prog w H g s.heap.get? cQ (.tup m))(G:Got prog w H g s Q (.tup (l++m))):wpAny (model prog w) A (binaryOp .Add eK cQ) Q E s:=by
 obtain⟨x,o,vs,n,ds,e,bx,ap,aQ,aq,aC⟩:=aw.gN
 obtain⟨y,p,eI,k,es,bq,CT,hG,iJ,lv,nM⟩:=ao.gN
 rcases o with ⟨eT,CU,Xi,CV⟩
 rcases p with ⟨cP,CW,Xj,CX⟩
 change eT=_ at ap;change Xi=_ at aQ;change cP=_ at hG;change Xj=_ at iJ
 rw[ap,aQ] at bx
 rw[hG,iJ] at CT
 rw[e,bq]
 have hH:=C.bn _ _ bx
 have iK:=C.bn _ _ CT
 have e1:=f4 aq aC
 have e2:=f4 lv nM
 rcases al:vs.isEmpty with _|_
 .rcases cs:eI.isEmpty with _|_
  .have fl:vs.size+eI.size<=sizeLine:=by rw [e1,e2,<-d5];exact pm (gd ag)
   exact concat_meets ⟨_,hH,rfl⟩ ⟨_,iK,rfl⟩ noFill_tuple_add seq_tuple_add zG zD (zC _ _) (tuple_addW2 x y vs eI n k CU CW CV CX (Bool.eq_false_iff.mp al) (Bool.eq_false_iff.mp cs) fl)
    ⟨hH,iK,G.tup C (by rw [zM];exact aq.append lv) (CR aC nM) _⟩
  .rw[KN e2 cs,eh] at G
   exact concat_meets ⟨_,hH,rfl⟩ ⟨_,iK,rfl⟩ noFill_tuple_add seq_tuple_add zG zD (zC _ _) (tuple_addW1 x y vs eI n k CU CW CV CX (Bool.eq_false_iff.mp al) cs)
    ⟨hH,iK,G.here C (.g9 (uf aC) (.tup bx rfl rfl aq)) _⟩
 .rw[KN e1 al] at G
  exact concat_meets ⟨_,hH,rfl⟩ ⟨_,iK,rfl⟩ noFill_tuple_add seq_tuple_add zG zD (zC _ _) (tuple_addW0 x y vs eI n k CU CW CV CX al)
   ⟨hH,iK,G.here C (.g9 (uf nM) (.tup CT rfl rfl lv)) _⟩
theorem Xl{l m:List V}(ag:cz (l++m)=true)(C:Cfg prog w H g s.heap)(aw:Val prog w H g s.heap.get? eK (.list l))(ao:Val prog w H g s.heap.get? cQ (.list m))(G:Got prog w H g s Q (.list (l++m))):wpAny (model prog w) A (binaryOp .Add eK cQ) Q E s:=by
 obtain⟨x,vs,n,ds,e,hH,aq,aC⟩:=aw.kh
 obtain⟨y,eI,k,es,bq,iK,lv,nM⟩:=ao.kh
 rw[e,bq]
 have fl:vs.size+eI.size<=sizeLine:=by rw [f4 aq aC,f4 lv nM,<-d5];exact pm (gd ag)
 exact concat_meets ⟨_,hH,rfl⟩ ⟨_,iK,rfl⟩ noFill_list_add seq_list_add PySem.F.slot_list_add PySem.F.entry_list_add (PySem.F.args_list_add_2 _ _) (list_addW x y vs eI n k none none #[] #[] fl)
  ⟨hH,iK,G.list C (by rw [zM];exact aq.append lv) (CR aC nM) _⟩
theorem Xm{i:Int}(h:h4 i 1000000=true)(h0:h4 0 i=true):Builtin.Int.intBits i<=20:=by
 have h:=iLe_iff.mp h
 have h0:=iLe_iff.mp h0
 unfold Builtin.Int.intBits
 split
 .lia
 .rename_i bi
  have h0:i.natAbs≠0:=by
   intro q;apply bi;simpa using q
  have:i.natAbs<2^20:=by lia
  have:=(Nat.log2_lt h0).mpr this
  lia
theorem KO{i:Int}(h:e0 0 i=true):i≠0:=λe=>by rw [e] at h;exact nomatch h
inductive II {α:Type} (eK cQ:Value) (f:Int->Int->Option α) (r:α):Prop
 |mk (i j:Int) (t u:Tok) (e1:eK= .int i t) (e2:cQ= .int j u) (h:f i j=some r)
theorem mD{α:Type}{look:bA}{f:Int->Int->Option α}{r:α}(h:lb a b f=some r)(aw:Val prog w H g look eK a)(ao:Val prog w H g look cQ b):II eK cQ f r:=by
 obtain⟨i,aa,h⟩:=bD h
 obtain⟨j,ah,h⟩:=bD h
 rw[lp aa] at aw
 rw[lp ah] at ao
 obtain⟨t,e1⟩:=aw.int_inv
 obtain⟨u,e2⟩:=ao.int_inv
 exact⟨i,j,t,u,e1,e2,h⟩
theorem Xn(h:JK a b=some r)(C:Cfg prog w H g s.heap)(aw:Val prog w H g s.heap.get? eK a)(ao:Val prog w H g s.heap.get? cQ b)(G:Got prog w H g s Q r):wpAny (model prog w) A (binaryOp .Add eK cQ) Q E s:=by
 rcases a
 case int i=>
  obtain⟨j,ah,h⟩:=bD h
  rw[lp ah] at ao
  obtain⟨t,e1⟩:=aw.int_inv
  obtain⟨u,e2⟩:=ao.int_inv
  rw[e1,e2]
  exact P.add_int (G.here C (gb h (P:=Val prog w H g g.im _) (.int _ _)) _)
 case tup l=>
  obtain⟨j,ah,h⟩:=bD h
  obtain⟨ag,h⟩:=br h
  rw[ry ah] at ao
  rw[<-Option.some.inj h] at G
  exact Xh ag C aw ao G
 case list l=>
  obtain⟨j,ah,h⟩:=bD h
  obtain⟨ag,h⟩:=br h
  rw[t6 ah] at ao
  rw[<-Option.some.inj h] at G
  exact Xl ag C aw ao G
 all_goals exact aI h
theorem Xo{op:Operator}(h:kr op a b=some r)(C:Cfg prog w H g s.heap)(aw:Val prog w H g s.heap.get? eK a)(ao:Val prog w H g s.heap.get? cQ b)(G:Got prog w H g s Q r):wpAny (model prog w) A (binaryOp op eK cQ) Q E s:=by
 have I:∀{i:Int}{t:Tok},some (V.int i)=some r->Val prog w H g g.im (.int i t) r:=λh=>gb h (P:=Val prog w H g g.im _) (.int _ _)
 rcases op
 case Add=>exact Xn h C aw ao G
 case Sub=>
  obtain⟨i,j,t,u,e1,e2,h⟩:=mD h aw ao
  rw[e1,e2]
  exact P.sub_int (G.here C (I h) _)
 case Mult=>
  obtain⟨i,j,t,u,e1,e2,h⟩:=mD h aw ao
  obtain⟨ag,h⟩:=br h
  rw[e1,e2]
  exact P.mul_int (G.here C (I h) _) (.of_left (aT (Xm (aK ag).2 (aK ag).1) (by decide)))
 case FloorDiv=>
  obtain⟨i,j,t,u,e1,e2,h⟩:=mD h aw ao
  obtain⟨ag,h⟩:=br h
  rw[e1,e2]
  refine floordiv_int (KO (aK ag).1) (G.here C (I h) _) (.inl (PyProof.noPylong_small ?_))
  have aa:=iLt_iff.mp (aK ag).1
  have ah:=iLe_iff.mp (aK ag).2
  lia
 case Mod=>
  obtain⟨i,j,t,u,e1,e2,h⟩:=mD h aw ao
  obtain⟨ag,h⟩:=br h
  rw[e1,e2]
  exact mod_int' (KO ag) (G.here C (I h) _)
 case BitAnd=>
  obtain⟨i,aa,h⟩:=bD h
  obtain⟨j,ah,h⟩:=bD h
  rw[nJ aa] at aw
  rw[nJ ah] at ao
  obtain⟨t,e1⟩:=aw.int_inv
  obtain⟨u,e2⟩:=ao.int_inv
  rw[e1,e2]
  exact and_int (G.here C (I h) _)
 all_goals exact aI h
end
end
section
theorem Xp{v:V}{l:List V}(h:hd v=some l):v= .tup l\/v= .list l:=by
 rcases v
 case tup=>exact .inl (congrArg _ (Option.some.inj h))
 case list=>exact .inr (congrArg _ (Option.some.inj h))
 all_goals exact aI h
theorem ug{P:PyData->Prop}:∀{l:List V}{m:List PyData},bX H l=some m->(∀x∈l,∀d,bI H x=some d->P d)->∀y∈m,P y
 |[],_,h,_,y,q=>by rw [<-Option.some.inj h] at q;exact nomatch q
 |x::l,_,h,k,y,q=>by
  obtain⟨d,m,e,aQ,av⟩:=fa h
  rw[e] at q
  exact(List.mem_cons.mp q).elim (λe=>e▸k x (.head _) d aQ) λq=>ug av (λz bi=>k z (.tail _ bi)) y q
theorem KP{v:V}(h:bI H v=some d)(aJ:hd v=none):d.depth=0:=by
 rcases v
 case none=>exact da h rfl
 case bool=>exact da h rfl
 case int=>exact da h rfl
 case str=>rw[(gB h).1];rfl
 case ty=>obtain⟨_,_,_,e⟩:=hB h;rw[e];rfl
 case tup=>exact nomatch aJ
 case list=>exact nomatch aJ
 all_goals exact aI h
theorem Xq{v:V}{l:List V}(h:bI H v=some d)(aJ:hd v=some l)(k:∀x∈l,∀d,bI H x=some d->d.depth<=n):d.depth<=n+1:=by
 rcases Xp aJ with e|e<;>rw[e] at h
 .obtain⟨m,av,e⟩:=gS h
  rw[e]
  exact gr (wU (ug av k))
 .obtain⟨m,av,e⟩:=ua h
  rw[e]
  exact gr (wU (ug av k))
theorem Xr{n d:Nat}(R:Room A n)(h:d<=20):A.units+d<cLine:=hZ (wb (eZ _ (20*n)) (aT h (by decide:20<=400))) R.units
theorem KQ{n d:Nat}(R:Room A n)(h:d<=20):A.units+1+d<cLine:=by rw [jE];exact hZ (wb (eZ _ (20*n)) (aT (dh h 1) (by decide:21<=400))) R.units
theorem CY:∀{n:Nat}{v:V}{d:PyData},V.jB n v=true->bI H v=some d->d.depth<=n
 |0,v,d,k,h=>by
  rcases e:hd v with _|l
  .exact dW (KP h e)
  .have k:nE true (λ_=>false) (od (hd v) λl=>some (v::l))=true:=k
   rw[e] at k;exact nomatch k
 |n+1,v,d,k,h=>by
  have k:nE true (V.jB n) (hd v)=true:=k
  rcases e:hd v with _|l<;>rw[e] at k
  .exact aT (dW (KP h e)) (iB _)
  .exact Xq h e λx hx d aQ=>CY (List.all_eq_true.mp k x hx) aQ
theorem Xs{a:Int}{b:V}{t:Bool}(h:H.Ia a b=some t):b.flat=true:=by rcases b<;>first|rfl|exact aI h
theorem Xu{a:Str}{b:V}{t:Bool}(h:T.H4 a b=some t):b.flat=true:=by rcases b<;>first|rfl|exact aI h
theorem Xv{a b:V}{t:Bool}(h:H.eqT a b=some t):b.flat=true:=by rcases b<;>first|rfl|exact aI h
theorem Xw{a b:V}{t:Bool}(h:H.eq a b=some t):a.flat=true/\b.flat=true:=by
 rcases a
 case none=>rw[pg (br h).1];exact⟨rfl,rfl⟩
 case bool=>obtain⟨_,e,_⟩:=bD h;rw[wL e];exact⟨rfl,rfl⟩
 case tup=>obtain⟨_,e,_⟩:=bD h;rw[ry e];exact⟨rfl,rfl⟩
 case int=>exact⟨rfl,Xs h⟩
 case str=>exact⟨rfl,Xu h⟩
 case ty=>exact⟨rfl,Xv h⟩
 all_goals exact aI h
theorem KR{a b:V}{t:Bool}(h:H.l7 a b=some t):H.eq a b=some t:=(br h).2
theorem KS{x:V}(h:jb x=true)(ap:bI H x=some d):(∃i,d= .int i/\isStr x=false)\/∃s,x= .str s/\d= .str s:=by
 rcases x
 case int=>exact .inl (da ap ⟨_,rfl,rfl⟩)
 case str=>exact .inr ⟨_,rfl,(gB ap).1⟩
 case ty=>obtain⟨_,_,_,e⟩:=hB ap;exact .inl ⟨_,e,rfl⟩
 all_goals exact nomatch h
theorem ObjDict.mapOf{K:Type}[DecidableEq K]{knd:KeyKind prog w K}{o:Obj}{aW:List (K×Value)}(h:ObjDict prog w knd o aW){aS:Heap}(e:aS.get? a=some o):aS.DictOf knd a aW:=by
 obtain⟨es,ca,aa,ah,aC,bC,ee⟩:=h
 exact⟨o,es,ca,e,aa,ah,aC,bC,ee⟩
theorem KU{K:Type}[DecidableEq K](knd:KeyKind prog w K):KeysOf knd #[]:=λ_ cL=>absurd cL (Array.not_mem_empty _)
theorem ObjDict.empty{K KV:Type}[DecidableEq K][DecidableEq KV]{knd:KeyKind prog w K}{KW:KeyKind prog w KV}{o:Obj}(h:ObjDict prog w knd o []):ObjDict prog w KW o []:=by
 obtain⟨es,ca,aa,ah,aC,bC,ee⟩:=h
 have:es= #[]:=Array.toList_inj.mp (List.length_eq_zero_iff.mp bC.length)
 rw[this] at ah
 exact⟨#[],ca,aa,ah,KU KW,.nil,.nil⟩
inductive KvC {K:Type} (c7:K->PyData) (H:T) (im:bA) (p:V×V) (l:List (V×V)) (aW:List (K×Value)):Prop
 |mk (i:K) (v:Value) (d:PyData) (r:List (K×Value)) (e:aW=(i,v)::r) (aa:bI H p.1=some (c7 i)) (ah:bI H p.2=some d) (aC:Rd im v d) (bC:Kvs c7 H im l r)
def KX{K:Type}(c7:K->PyData)(H:T)(im:bA)(aW:List (K×Value)):List (V×V)->Prop
 |[]=>aW=[]
 |p::l=>KvC c7 H im p l aW
theorem Kvs.dat{K:Type}{c7:K->PyData}{im:bA}{l:List (V×V)}{aW:List (K×Value)}(h:Kvs c7 H im l aW):KX c7 H im aW l:=
 Kvs.casesOn (motive:=λl aW _=>KX c7 H im aW l) h rfl λa b c d=>⟨_,_,_,_,rfl,a,b,c,d⟩
inductive KGet (H:T) (im:bA) (r:Option V) (x:Option Value):Prop
 |no (e1:r=none) (e2:x=none)
 |yes (u:V) (v:Value) (d:PyData) (e1:r=some u) (e2:x=some v) (c:bI H u=some d) (q:Rd im v d)
theorem KGet.same{im:bA}{r:Option V}{x:Option Value}(h:KGet H im r x):x.isSome=r.isSome:=by
 rcases h with ⟨e1,e2⟩|⟨u,v,d,e1,e2,_,_⟩<;>rw[e1,e2]<;>rfl
theorem Xx{K:Type}[DecidableEq K]{i:K}{v:Value}{aW:List (K×Value)}:valueAt ((i,v)::aW) i=some v:=by simp [valueAt]
theorem Xy{K:Type}[DecidableEq K]{i j:K}{v:Value}{aW:List (K×Value)}(h:j≠i):valueAt ((j,v)::aW) i=valueAt aW i:=by simp [valueAt,tx,h]
theorem CZ{K:Type}[DecidableEq K]{c7:K->PyData}(uh:∀a b,(c7 a).eqv (c7 b)=decide (a=b))(aL:H.Ok){im:bA}{x:V}{i:K}(hx:bI H x=some (c7 i)):
  ∀{l:List (V×V)}{aW:List (K×Value)}{r:Option V},H.get x l=some r->Kvs c7 H im l aW->KGet H im r (valueAt aW i)
 |[],_,_,h,k=>by rw [k.dat];exact .no (Option.some.inj h).symm rfl
 |p::l,_,r,h,q=>by
  obtain⟨j,v,d,aW,e,aa,ah,aC,bC⟩:=q.dat
  obtain⟨t,g,h⟩:=bD h
  have bq:decide (j=i)=t:=(uh _ _).symm.trans (ub aL (KR g) aa hx)
  rw[e]
  rcases t with _|_
  .rw[Xy (of_decide_eq_false bq)]
   exact CZ uh aL hx (l:=l) h bC
  .rw[of_decide_eq_true bq,Xx]
   exact .yes _ v d (Option.some.inj h).symm rfl ah aC
theorem w1(a b:Int):(PyData.int a).eqv (.int b)=decide (a=b):=v2 a b
theorem C0(a b:Str):(PyData.str a).eqv (.str b)=decide (a=b):=v2 a b
theorem KY{K:Type}{c7:K->PyData}{b:Bool}{im:bA}{x:V}{r:Option V}(ao:∀k i,bI H k=some (c7 i)->isStr k=b)(hx:(b==isStr x)=false):∀{l:List (V×V)}{aW:List (K×Value)},H.get x l=some r->Kvs c7 H im l aW->aW=[]/\r=none
 |[],_,h,k=>⟨k.dat,(Option.some.inj h).symm⟩
 |p::l,_,h,q=>by
  obtain⟨j,v,d,aW,e,aa,ah,aC,bC⟩:=q.dat
  obtain⟨t,g,h⟩:=bD h
  have g:=(br g).1
  rw[ao _ _ aa,hx] at g
  exact nomatch g
theorem KZ(k:V)(i:Int)(h:bI H k=some (.int i)):isStr k=false:=by
 rcases k
 case str=>have:=(gB h).1;exact nomatch this
 all_goals rfl
theorem C1(k:V)(s:Str)(h:bI H k=some (.str s)):isStr k=true:=by
 rcases k
 case str=>rfl
 case tup=>obtain⟨_,_,e⟩:=gS h;exact nomatch e
 case list=>obtain⟨_,_,e⟩:=ua h;exact nomatch e
 case ty=>obtain⟨_,_,_,e⟩:=hB h;exact nomatch e
 all_goals exact nomatch h
inductive DGet (prog:Program) (w:World) (H:T) (im:bA) (o:Obj) (ep:Value) (r:Option V):Prop
 |mk (K:Type) (dec:DecidableEq K) (knd:KeyKind prog w K) (k:K) (aW:List (K×Value)) (aa:ObjDict prog w knd o aW) (ah:knd.is k ep=true) (aC:KGet H im r (valueAt aW k))
theorem ui(i:Int)(t:Tok):(intKind prog w).is i (.int i t)=true:=by simp [intKind,Value.isInt]
theorem w2(i:Str)(t:Tok):(strKind prog w).is i (.str i t)=true:=by simp [PySem.strKind,Value.isStrOf]
theorem Val.key{look:bA}{x:V}{ep:Value}(aj:jb x=true)(hx:Val prog w H g look ep x):VDat H g.im ep x:=by
 rcases x
 case int=>exact hx
 case str=>exact hx
 case ty=>exact hx
 all_goals exact nomatch aj
theorem C2(aL:H.Ok){look:bA}{o:Obj}{l:List (V×V)}{x:V}{ep:Value}{r:Option V}(D:DictO prog w H g.im o l)(aj:jb x=true)(bx:H.get x l=some r)(hx:Val prog w H g look ep x):DGet prog w H g.im o ep r:=by
 obtain⟨d,ap,aq⟩:=hx.key aj
 rcases KS aj ap with ⟨i,e,aJ⟩|⟨s,e7,e⟩
 .rw[e] at aq ap
  obtain⟨t,e1⟩:=aq.dat
  rw[e1]
  rcases D with ⟨aW,aa,ah⟩|⟨aW,aa,ah⟩
  .exact⟨Int,_,intKind prog w,i,aW,aa,ui i t,CZ w1 aL ap bx ah⟩
  .obtain⟨e2,e3⟩:=KY C1 (by rw [aJ];rfl) bx ah
   rw[e2] at aa
   exact⟨Int,_,intKind prog w,i,[],aa.empty,ui i t,.no e3 rfl⟩
 .rw[e] at aq ap
  obtain⟨t,e1⟩:=aq.dat
  rw[e1]
  rcases D with ⟨aW,aa,ah⟩|⟨aW,aa,ah⟩
  .obtain⟨e2,e3⟩:=KY KZ (by rw [e7];rfl) bx ah
   rw[e2] at aa
   exact⟨Str,_,strKind prog w,s,[],aa.empty,w2 s t,.no e3 rfl⟩
  .exact⟨Str,_,strKind prog w,s,aW,aa,w2 s t,CZ C0 aL ap bx ah⟩
section
variable {a b:V}{t:Bool}{eK cQ:Value}
inductive Rd2 (h:Heap) (A:Around) (eK cQ:Value) (t:Bool):Prop
 |mk (eM mE:PyData) (as bs:List Addr) (bU:Reads h eK eM as) (bZ:Reads h cQ mE bs) (cg:eM.canLay0=true) (ch:mE.canLay0=true) (u:A.units+min eM.depth mE.depth<cLine) (e:eM.eqv mE=t)
theorem K1(R:Room A n)(C:Cfg prog w H g s.heap)(aw:Val prog w H g s.heap.get? eK a)(ao:Val prog w H g s.heap.get? cQ b)(aJ:V.jB 20 a=true)(cL:H.eq a b=some t):Rd2 s.heap A eK cQ t:=by
 obtain⟨fH,gC⟩:=Xw cL
 obtain⟨eM,eT,ge⟩:=aw.flat C.bn fH
 obtain⟨mE,cP,gf⟩:=ao.flat C.bn gC
 obtain⟨as,bU⟩:=ge.reads (h:=s.heap) λ_ _ e=>e
 obtain⟨bs,bZ⟩:=gf.reads (h:=s.heap) λ_ _ e=>e
 exact⟨eM,mE,as,bs,bU,bZ,wN eT,wN cP,Xr R (aT (zT _ _) (CY aJ eT)),ub C.ok cL eT cP⟩
inductive Mem2 (h:Heap) (A:Around) (eK cQ:Value) (f:List PyData->PyData) (t:Bool):Prop
 |mk (eM:PyData) (as:List Addr) (a4:List PyData) (bs:List Addr) (bU:Reads h eK eM as) (bZ:Reads h cQ (f a4) bs) (cg:PyData.canLayAll0 a4=true) (ch:eM.canLay0=true) (u:A.units+1+min (PyData.depthAll a4) eM.depth<cLine) (e:(a4.any λy=>y.eqv eM)=t)
theorem K2(R:Room A n)(C:Cfg prog w H g s.heap)(aw:Val prog w H g s.heap.get? eK a)(ao:Val prog w H g s.heap.get? cQ b)(f:List PyData->PyData)(Xz:b.flat=true){l:List V}(a6:∀d,bI H b=some d->∃m,bX H l=some m/\d=f m)(aJ:(V.jB 20 a&&a.flat)=true)(av:H.mem a l=some t):Mem2 s.heap A eK cQ f t:=by
 obtain⟨eM,eT,ge⟩:=aw.flat C.bn (aK aJ).2
 obtain⟨as,bU⟩:=ge.reads (h:=s.heap) λ_ _ e=>e
 obtain⟨mE,cP,gf⟩:=ao.flat C.bn Xz
 obtain⟨bs,bZ⟩:=gf.reads (h:=s.heap) λ_ _ e=>e
 obtain⟨a4,jj,e⟩:=a6 _ cP
 rw[e] at bZ
 exact⟨eM,as,a4,bs,bU,bZ,wO jj,wN eT,KQ R (aT (Nat.min_le_right _ _) (CY (aK aJ).1 eT)),Km C.ok eT av jj⟩
theorem K3{x:Option Bool}{t:Bool}(h:wv x=some t):∃u,x=some u/\(!u)=t:=by
 obtain⟨u,e,k⟩:=bD h
 exact⟨u,e,Option.some.inj k⟩
theorem K4{f:Bool->Bool}{op:CmpOp}(a1:∀{v uj a4 bs eM as},Reads s.heap uj (.tuple a4) bs->Reads s.heap v eM as->PyData.canLayAll0 a4=true->eM.canLay0=true->A.units+1+min (PyData.depthAll a4) eM.depth<cLine->Q (.bool (f (a4.any λy=>y.eqv eM))) s->wpAny (model prog w) A (compareOp op v uj) Q E s)(ag:∀{v uj a4 bs eM as},Reads s.heap uj (.list a4) bs->Reads s.heap v eM as->PyData.canLayAll0 a4=true->eM.canLay0=true->A.units+1+min (PyData.depthAll a4) eM.depth<cLine->Q (.bool (f (a4.any λy=>y.eqv eM))) s->wpAny (model prog w) A (compareOp op v uj) Q E s)(aQ:∀{K:Type} [DecidableEq K] {knd:KeyKind prog w K} {k:K} {v:Value} {a:Addr} {aW:List (K×Value)},knd.is k v=true->(a==sysModules)=false->s.heap.DictOf knd a aW->(∀aF,Q (.bool (f (valueAt aW k).isSome)) {s with toks:=aF})->wpAny (model prog w) A (compareOp op v (.ref a)) Q E s)(h:Ce H a b=some t)(C:Cfg prog w H g s.heap)(R:Room A n)(aw:Val prog w H g s.heap.get? eK a)(ao:Val prog w H g s.heap.get? cQ b)(ak:∀aF,Q (.bool (f t)) {s with toks:=aF}):wpAny (model prog w) A (compareOp op eK cQ) Q E s:=by
 rcases b
 case tup=>
  obtain⟨aJ,h⟩:=br h
  obtain⟨eM,as,a4,bs,bU,bZ,cg,ch,u,e⟩:=K2 R C aw ao .tuple rfl (λ_=>gS) aJ h
  exact a1 bZ bU cg ch u (e▸ak s.toks)
 case list=>
  obtain⟨aJ,h⟩:=br h
  obtain⟨eM,as,a4,bs,bU,bZ,cg,ch,u,e⟩:=K2 R C aw ao .list rfl (λ_=>ua) aJ h
  exact ag bZ bU cg ch u (e▸ak s.toks)
 case dict=>
  obtain⟨aj,h⟩:=br h
  obtain⟨r,bx,h⟩:=bD h
  obtain⟨ad,o,e,aG,av,D⟩:=ao
  obtain⟨K,_,knd,k,aW,aa,ah,aC⟩:=C2 C.ok D aj bx aw
  rw[e]
  exact aQ ah av (aa.mapOf aG) (aC.same▸Option.some.inj h▸ak)
 all_goals exact aI h
theorem XA(h:JL a b=some t)(aw:Val prog w H g s.heap.get? eK a)(ao:Val prog w H g s.heap.get? cQ b)(ak:∀aF,Q (.bool t) {s with toks:=aF}):wpAny (model prog w) A (compareOp .Is eK cQ) Q E s:=by
 obtain⟨aX,h⟩:=br h
 rw[pg aX] at ao
 rw[ao.none_inv]
 have q:∀u,some u=some t->Q (.bool u) s:=λu e=>Option.some.inj e▸ak s.toks
 rcases a
 case none=>rw[aw.none_inv];exact is_none (q _ h)
 case tup=>obtain⟨a,o,vs,n,ds,e,_⟩:=aw.gN;rw[e];exact is_none (q _ h)
 case list=>obtain⟨a,vs,n,ds,e,_⟩:=aw.kh;rw[e];exact is_none (q _ h)
 all_goals exact aI h
theorem K5(i j:Int):decide (i<j)=e0 i j:=by rw [i5,iLt_iff,decide_eq_true_iff]
theorem C3(i j:Int):decide (i<=j)=h4 i j:=by rw [i5,iLe_iff,decide_eq_true_iff]
theorem K6{op:CmpOp}(h:cX H op a b=some t)(C:Cfg prog w H g s.heap)(R:Room A n)(aw:Val prog w H g s.heap.get? eK a)(ao:Val prog w H g s.heap.get? cQ b)(ak:∀aF,Q (.bool t) {s with toks:=aF}):wpAny (model prog w) A (compareOp op eK cQ) Q E s:=by
 rcases op
 case Eq=>
  obtain⟨aJ,h⟩:=br h
  obtain⟨eM,mE,as,bs,bU,bZ,cg,ch,u,e⟩:=K1 R C aw ao aJ h
  exact SeqAt.compareEq_reads bU bZ cg ch u (e▸ak s.toks)
 case NotEq=>
  obtain⟨aJ,h⟩:=br h
  obtain⟨v,h,bq⟩:=K3 h
  obtain⟨eM,mE,as,bs,bU,bZ,cg,ch,u,e⟩:=K1 R C aw ao aJ h
  exact SeqAt.compareNe_reads bU bZ cg ch u (e▸bq▸ak s.toks)
 case Lt=>
  obtain⟨i,j,t,u,e1,e2,h⟩:=mD h aw ao
  rw[e1,e2]
  exact P.lt_int (K5 i j▸Option.some.inj h▸ak s.toks)
 case LtE=>
  obtain⟨i,j,t,u,e1,e2,h⟩:=mD h aw ao
  rw[e1,e2]
  exact P.le_int (C3 i j▸Option.some.inj h▸ak s.toks)
 case Gt=>
  obtain⟨i,j,t,u,e1,e2,h⟩:=mD h aw ao
  rw[e1,e2]
  exact P.gt_int (K5 j i▸Option.some.inj h▸ak s.toks)
 case GtE=>
  obtain⟨i,j,t,u,e1,e2,h⟩:=mD h aw ao
  rw[e1,e2]
  exact P.ge_int (C3 j i▸Option.some.inj h▸ak s.toks)
 case Is=>exact XA h aw ao ak
 case In=>exact K4 (f:=id) (λa b c d e q=>SeqAt.in_tuple_reads a b c d e q) (λa b c d e q=>SeqAt.in_list_reads a b c d e q) (λa b c q=>wpAny_in_of a b c.mapOf (q _)) h C R aw ao ak
 case NotIn=>
  obtain⟨v,h,bq⟩:=K3 h
  exact K4 (f:=not) (λa b c d e q=>SeqAt.notIn_tuple_reads a b c d e q) (λa b c d e q=>SeqAt.notIn_list_reads a b c d e q) (λa b c q=>wpAny_notIn_of a b c.mapOf (q _)) h C R aw ao (bq▸ak)
 all_goals exact aI h
end
end
section
theorem XB(n:Nat):Builtin.Slice.sliceAdjust none (some (-1:Int)) 1 ((n+1:Nat):Int)=(0,(n:Int)):=by
 unfold Builtin.Slice.sliceAdjust
 have aa:¬((1:Int)<0):=by lia
 have ah:((-1:Int)<0):=by lia
 simp only[aa,ah,if_false,if_true]
 congr 1
 lia
theorem XC(n:Nat):Builtin.Slice.slicePlaces 0 (n:Int) 1=n:=by
 unfold Builtin.Slice.slicePlaces
 have aa:(1:Int)>0:=by lia
 simp only[aa,if_true,Int.ediv_one]
 split<;>lia
theorem XD{sl:Addr}{u:Tok}{Q:Int×Int×Nat->Shared->Prop}(aJ:s.heap.IsSliceOf sl .none (.int (-1) u) .none)(h:Q ((0:Int),1,n) s):
  wpAny (model prog w) A (Builtin.Slice.sliceApplied (.ref sl) (pure ((n+1:Nat):Int))) Q E s:=by
 obtain⟨os,uk,pn,po⟩:=id aJ
 unfold Builtin.Slice.sliceApplied Builtin.Slice.sliceFields
 refine wpAny_bind (wpAny_bind (wpAny_field uk po (x:=.none) rfl (wpAny_bind (wpAny_field uk po (x:=.int (-1) u) rfl (wpAny_bind (wpAny_field uk po (x:=.none) rfl (wpAny_pure ?_)))))))
 refine wpAny_bind (slicePart_none ?_)
 show wpAny _ _ (if ((1:Int)==0)=true then _ else _) _ _ s
 rw[if_neg (by decide)]
 refine wpAny_bind (slicePart_none (wpAny_bind (slicePart_int (wpAny_bind (wpAny_pure ?_)))))
 show wpAny _ _ (match Builtin.Slice.sliceAdjust none (some (-1:Int)) 1 ((n+1:Nat):Int) with|(lo,hi)=>pure (lo,(1:Int),Builtin.Slice.slicePlaces lo hi 1)) _ _ s
 rw[XB n]
 show wpAny _ _ (pure ((0:Int),(1:Int),Builtin.Slice.slicePlaces (0:Int) (n:Int) 1)) _ _ s
 rw[XC n]
 exact wpAny_pure h
theorem XE(a4:Array Value)(n:Nat):((List.range n).filterMap λ(k:Nat)=>a4[((0:Int)+(k:Int)*1).toNat]?).toArray=(a4.toList.take n).toArray:=by
 have e:(λ(k:Nat)=>a4[((0:Int)+(k:Int)*1).toNat]?)=λk=>a4[0+k]? :=by
  funext k
  have:((0:Int)+(k:Int)*1).toNat=0+k:=by lia
  rw[this]
 rw[e]
 have:=pick_run a4 0 n
 rw[List.filterMap_map] at this
 have e2:((λx=>a4[x]?) ∘ λx=>0+x)=λk=>a4[0+k]? :=rfl
 rw[e2] at this
 rw[this,List.drop_zero]
theorem XF{t sl:Addr}{jV:Array Value}{u:Tok}(a1:IsTup s.heap t jV)(aX:jV.size=n+1)(aJ:s.heap.IsSliceOf sl .none (.int (-1) u) .none)(h:Q (.ref s.heap.objs.size) {s with heap:=s.heap.push {cls:=.type "tuple",data:=.seq (jV.toList.take n).toArray}})(fl:jV.size<=sizeLine):wpAny (model prog w) A (getItem (.ref t) (.ref sl)) Q E s:=by
 have w3:sizeOk (.seq (jV.toList.take n).toArray):=by
  show (jV.toList.take n).toArray.size<=sizeLine
  rw[qQ,zP,tn]
  lia
 obtain⟨os,uk,pn,po⟩:=id aJ
 have XG:s.TypeIs (.ref sl) "slice":=⟨os,uk,pn⟩
 unfold getItem
 try with_reducible refine wpAny_holding ?_
 first|refine wpAny_bind (wpAny_pure ?_)|skip
 refine wpAny_bind (wpAny_sequenceKey a1.typeIs (by decide) ?_)
 refine wpAny_bind (wpAny_callSpecial?_slot (name:=Str.ofString "__getitem__") a1.typeIs slot_tuple_getitem
  (wpAny_call_entry slot_tuple_getitem a1.typeIs entry_tuple_getitem ?_ (args_tuple_getitem _ _)))
 show wpAny _ _ (Builtin.Tuple.tupleItemsOf (.ref t)>>=_) _ _ s
 refine wpAny_bind (tupleItemsOf_ a1 ?_)
 refine wpAny_bind (wpAny_typeOf XG ?_)
 rw[if_pos (by decide)]
 rw[aX]
 refine wpAny_bind (XD aJ ?_)
 have XH:¬(((0:Int)==0&&(1:Int)==1&&n==n+1)=true):=by simp
 show wpAny _ _ (if ((0:Int)==0&&(1:Int)==1&&n==n+1)=true then _ else _) _ _ s
 rw[if_neg XH,XE jV n]
 first
  |exact wpAny_bind (m:=Builtin.Tuple.tupleExact _) (wpAny_newObj_type (wpAny_pure ⟨_,rfl,wpAny_pure h⟩) w3)
  |exact wpAny_bind (m:=Builtin.Tuple.tupleExact _) (wpAny_newObj_type (wpAny_bind (wpAny_pure (wpAny_pure ⟨_,rfl,wpAny_pure h⟩))) w3)
  |exact wpAny_bind (wpAny_bind (m:=Builtin.Tuple.tupleExact _) (wpAny_newObj_type (wpAny_pure (wpAny_pure ⟨_,rfl,wpAny_pure h⟩)) w3))
  |exact wpAny_bind (wpAny_bind (m:=Builtin.Tuple.tupleExact _) (wpAny_newObj_type (wpAny_pure ⟨_,rfl,wpAny_pure h⟩) w3))
theorem XI(h:k<n):seqIndex? (k:Int) n=some k:=by
 have aa:¬((k:Int)<0):=by lia
 have ah:0<=(k:Int)/\(k:Int)<n:=by lia
 simp only[seqIndex?,aa,if_false,ah,decide_true,Bool.and_self,if_true]
 simp
theorem K7:(-((k:Int)+1)+n).toNat=n - (k+1):=by
 rw[Int.add_comm,<-Int.sub_eq_add_neg]
 exact Int.toNat_sub n (k+1)
theorem XJ(h:k+1<=n):seqIndex? (-((k:Int)+1)) n=some (n - (k+1)):=by
 have aa:(-((k:Int)+1))<0:=by lia
 have ah:0<= -((k:Int)+1)+n/\ -((k:Int)+1)+n<n:=by lia
 simp only[seqIndex?,aa,if_true,ah,decide_true,Bool.and_self]
 exact congrArg some K7
inductive IdxAt (l:List V) (i:Int) (r:V):Prop
 |pos (n:Nat) (e:i=n) (h:n<l.length) (k:l[n]? =some r)
 |neg (n:Nat) (e:i= -((n:Int)+1)) (h:n+1<=l.length) (k:l[l.length - (n+1)]? =some r)
theorem K8{l:List V}{i:Int}{r:V}(h:tS l i=some r):IdxAt l i r:=by
 rcases i with n|n
 .exact .pos n rfl (List.getElem?_eq_some_iff.mp h).1 h
 .obtain⟨aa,ah⟩:=br h
  exact .neg n (wa n) (fi aa) ah
theorem RdL.at{g:bA}{vs:Array Value}{ds:List PyData}{l:List V}{r:V}(aq:RdL g vs.toList ds)(aC:bX H l=some ds)(hx:l[n]? =some r):∃v,vs[n]? =some v/\VDat H g v r:=by
 obtain⟨d,XK,XM⟩:=w0 aC hx
 obtain⟨v,al,kC⟩:=aq.get XK
 exact⟨v,Array.getElem?_toList.symm.trans al,d,XM,kC⟩
theorem VDat.val{v:Value}{r:V}(h:VDat H g.im v r):Val prog w H g g.im v r:=by
 obtain⟨d,aa,ah⟩:=h
 exact .g9 aa ah
section
variable {b i l u r:V}{cQ el gg gh:Value}
theorem anf(h:n<=4096): -((m:Int)+1)+(n:Int)<2^63:=by lia
theorem XN{l:List V}{i:Int}{t:Tok}(ag:cz l=true)(h:tS l i=some r)(C:Cfg prog w H g s.heap)(ao:Val prog w H g s.heap.get? cQ (.tup l))(G:Got prog w H g s Q r):wpAny (model prog w) A (getItem cQ (.int i t)) Q E s:=by
 obtain⟨a,o,vs,n,ds,e,bx,ap,aQ,aq,aC⟩:=ao.gN
 have e1:=f4 aq aC
 have e3:=gd ag
 have T:IsTup s.heap a vs:=⟨o,C.bn _ _ bx,ap,n,aQ⟩
 rw[e]
 rcases K8 h with ⟨k,e,aj,hx⟩|⟨k,e,aj,hx⟩<;>rw[e]
 .obtain⟨v,al,kC⟩:=aq.at aC hx
  exact Ig T (by lia) (by lia) (j:=k) (by rw [e1];exact XI aj) al (G.here C kC.val _)
 .obtain⟨v,al,kC⟩:=aq.at aC hx
  exact Ig T (by lia) (by lia) (j:=l.length - (k+1)) (by rw [e1];exact XJ aj) al (G.here C kC.val _)
theorem XO{l:List V}{i:Int}{t:Tok}(ag:cz l=true)(h:tS l i=some r)(C:Cfg prog w H g s.heap)(ao:Val prog w H g s.heap.get? cQ (.list l))(G:Got prog w H g s Q r):wpAny (model prog w) A (getItem cQ (.int i t)) Q E s:=by
 obtain⟨a,vs,n,ds,e,bx,aq,aC⟩:=ao.kh
 have e1:=f4 aq aC
 have e3:=gd ag
 have T:s.heap.IsList a vs:=⟨_,bx,rfl,n,rfl⟩
 rw[e]
 rcases K8 h with ⟨k,e,aj,hx⟩|⟨k,e,aj,hx⟩<;>rw[e]
 .obtain⟨v,al,kC⟩:=aq.at aC hx
  exact wpAny_getItem_list T (by lia) (by lia) (x:=v) al (G.here C kC.val _)
 .obtain⟨v,al,kC⟩:=aq.at aC hx
  refine wpAny_getItem_list_neg T (by lia) (by lia) (by lia) (x:=v) ?_ (G.here C kC.val _)
  rw[K7,e1]
  exact al
theorem XQ(h:fE H b i=some r)(C:Cfg prog w H g s.heap)(ao:Val prog w H g s.heap.get? cQ b)(hi:Val prog w H g s.heap.get? el i)(G:Got prog w H g s Q r):wpAny (model prog w) A (getItem cQ el) Q E s:=by
 rcases b
 case tup=>
  obtain⟨j,aa,h⟩:=bD h
  rw[lp aa] at hi
  obtain⟨t,e⟩:=hi.int_inv
  rw[e]
  exact XN (br h).1 (br h).2 C ao G
 case list=>
  obtain⟨j,aa,h⟩:=bD h
  rw[lp aa] at hi
  obtain⟨t,e⟩:=hi.int_inv
  rw[e]
  exact XO (br h).1 (br h).2 C ao G
 case dict=>
  obtain⟨aj,h⟩:=br h
  obtain⟨q,bx,h⟩:=bD h
  obtain⟨ad,o,e,aG,av,D⟩:=ao
  obtain⟨K,_,knd,k,aW,aa,ah,aC⟩:=C2 C.ok D aj bx hi
  rw[e]
  rcases aC with ⟨e,_⟩|⟨u,v,d,e,al,ap,aq⟩
  .exact aI (e.symm.trans h)
  .have e:u=r:=Option.some.inj (e.symm.trans h)
   exact wpAny_getItem_of ah (aa.mapOf aG).mapOf al (G.here C (.g9 (e▸ap) aq) _)
 all_goals exact aI h
noncomputable def jk(gg gh:Value):Obj:={cls:=.type "slice",data:=.fields #[gg,gh,.none]}
theorem XR{a4:List V}(h:JN a4 l u=some r)(C:Cfg prog w H g s.heap)(ao:Val prog w H g s.heap.get? cQ (.list a4))(ag:Val prog w H g s.heap.get? gg l)(bG:Val prog w H g s.heap.get? gh u)(keep:∀a o,s.heap.get? a=some o->(s.heap.push (jk gg gh)).get? a=some o)(ct:Cfg prog w H g (s.heap.push (jk gg gh)))(G:Got prog w H g {s with heap:=s.heap.push (jk gg gh)} Q r):
  wpAny (model prog w) A (getItem cQ (.ref s.heap.objs.size)) Q E {s with heap:=s.heap.push (jk gg gh)}:=by
 obtain⟨aG,h⟩:=br h
 obtain⟨x,vs,n,ds,e,bx,aq,aC⟩:=ao.kh
 have e1:=f4 aq aC
 have e3:=gd aG
 have eN:vs.size<=sizeLine:=pm (e1▸e3)
 rw[e]
 rcases eA h with ⟨aX,h⟩|⟨_,h⟩
 .obtain⟨a,aw,h⟩:=bD h
  rw[nJ aw] at ag
  rw[pg aX] at bG
  obtain⟨t,e⟩:=ag.int_inv
  have bq:=bG.none_inv
  rw[<-Option.some.inj h] at G
  subst e bq
  refine wpAny_getItem_list_slice (lo:=some (a:Int)) (hi:=none) (st:=none) ⟨_,keep _ _ bx,rfl,n,rfl⟩ (v6 ..) (.int _ _) .none .none (by simp) ?_ eN
  rw[slicePick_from']
  exact G.list ct (by simpa using aq.drop a) (KL a aC) _
 .obtain⟨aX,h⟩:=br h
  obtain⟨a,aw,h⟩:=bD h
  rw[nJ aw] at bG
  rw[pg aX] at ag
  obtain⟨t,e⟩:=bG.int_inv
  have bq:=ag.none_inv
  rw[<-Option.some.inj h] at G
  subst e bq
  refine wpAny_getItem_list_slice (lo:=none) (hi:=some (a:Int)) (st:=none) ⟨_,keep _ _ bx,rfl,n,rfl⟩ (v6 ..) .none (.int _ _) .none (by simp) ?_ eN
  rw[slicePick_upto']
  exact G.list ct (by simpa using aq.take a) (CS a aC) _
theorem XS{a4:List V}(h:wi l u a4=some r)(C:Cfg prog w H g s.heap)(ao:Val prog w H g s.heap.get? cQ (.tup a4))(ag:Val prog w H g s.heap.get? gg l)(bG:Val prog w H g s.heap.get? gh u)(keep:∀a o,s.heap.get? a=some o->(s.heap.push (jk gg gh)).get? a=some o)(ct:Cfg prog w H g (s.heap.push (jk gg gh)))(G:Got prog w H g {s with heap:=s.heap.push (jk gg gh)} Q r):
  wpAny (model prog w) A (getItem cQ (.ref s.heap.objs.size)) Q E {s with heap:=s.heap.push (jk gg gh)}:=by
 rcases a4 with _|⟨y,a4⟩
 .exact aI h
 obtain⟨aG,h⟩:=br h
 obtain⟨x,o,vs,n,ds,e,bx,ap,aQ,aq,aC⟩:=ao.gN
 have e1:=f4 aq aC
 have e3:=gd (aK aG).2
 rw[pg (aK (aK aG).1).1] at ag
 rw[Ki (aK (aK aG).1).2] at bG
 obtain⟨t,bq⟩:=bG.int_inv
 have XT:=ag.none_inv
 rw[<-Option.some.inj h] at G
 subst bq XT
 rw[e]
 refine XF (n:=a4.length) ⟨o,keep _ _ (C.bn _ _ bx),ap,n,aQ⟩ e1 (v6 ..) ?_ (aT (dW e1) (aT (gr e3) (by decide:4097<=sizeLine)))
 exact G.tup ct (by simpa using aq.take a4.length) (CS a4.length aC) _
theorem XU(h:o7 b l u=some r)(C:Cfg prog w H g s.heap)(ao:Val prog w H g s.heap.get? cQ b)(ag:Val prog w H g s.heap.get? gg l)(bG:Val prog w H g s.heap.get? gh u)(G:Got prog w H g s Q r):
  wpAny (model prog w) A (getItem cQ (.ref s.heap.objs.size)) Q E {s with heap:=s.heap.push (jk gg gh)}:=by
 have keep:∀a o,s.heap.get? a=some o->(s.heap.push (jk gg gh)).get? a=some o:=λa o e=>ey _ e
 have X:=Ext.grow g keep
 have ul:Got prog w H g {s with heap:=s.heap.push (jk gg gh)} Q r:=λau h' aF u a b c=>G au h' aF u (X.trans a) b c
 rcases b
 case list=>exact XR h C ao ag bG keep (C.grow keep) ul
 case tup=>exact XS h C ao ag bG keep (C.grow keep) ul
 all_goals exact aI h
theorem K9(h:o7 b l u=some r)(C:Cfg prog w H g s.heap)(ao:Val prog w H g s.heap.get? cQ b):(gw b=true/\s.TypeIs cQ "tuple")\/(gw b=false/\s.TypeIs cQ "list"):=by
 rcases b
 case list=>obtain⟨x,vs,n,ds,e,bx,aq,aC⟩:=ao.kh;rw[e];exact .inr ⟨rfl,_,bx,rfl⟩
 case tup=>obtain⟨x,o,vs,n,ds,e,bx,ap,aQ,aq,aC⟩:=ao.gN;rw[e];exact .inl ⟨rfl,_,C.bn _ _ bx,ap⟩
 all_goals exact aI h
end
end
theorem XV:typeLookup (.type "dict") "__len__"=pure (some (.builtin "dict.__len__")):=F.slot_dict_len.lookup
section
theorem XW{d:Addr}{aW:List (Int×Value)}{ca:Nat}{Q:List Value->Shared->Prop}(hh:A.handled=none)(aQ:(d==sysModules)=false)(av:s.heap.DictAt (intKind prog w) d aW ca)(aX:aW.length<=4096)(ak:∀h' aF acc,(∀b o,s.heap.get? b=some o->h'.get? b=some o)->s.heap.objs.size<=h'.objs.size->ItemsOf (λi v=>∃k x,aW[i]? =some (k,x)/\(intKind prog w).is k v=true) acc aW.length->Q acc.toList {s with heap:=h',toks:=aF}):
  wpAny (model prog w) A (collect (.ref d)) Q E s:=by
 have fJ:d<s.heap.objs.size:=by obtain ⟨o,es,aG,_⟩:=av;exact gs aG
 have C4:s.heap.objs.size≠d:=λe=>qY _ (e▸fJ)
 unfold collect
 refine wpAny_bind (wpAny_runValue (codeAny_builtin F.entry_proto_collect ?_))
 rw[Around.under_plainId F.plain_proto_collect _]
 show wpAny _ A.in1 (newList []>>=λl=>again (.builtin "list.__iadd__" ⟨[l,.ref d],[]⟩)) _ _ s
 refine wpAny_bind (wpAny_newObj_type ?_)
 refine wpAny_pure ⟨plainId_quiet F.plain_list_iadd _,codeAny_builtin F.entry_list_iadd ?_⟩
 rw[Around.under_plainId F.plain_list_iadd _]
 have C5:(s.heap.push {cls:=.type "list",data:=.seq ([]:List Value).toArray}).DictAt (intKind prog w) d aW ca:=av.at' λo e=>ey _ e
 have lq:({s with heap:=s.heap.push {cls:=.type "list",data:=.seq ([]:List Value).toArray}}:Shared).TypeIs (.ref d) "dict":=C5.dictOf.typeIs
 have aa:Builtin.List.listSameRef (.ref s.heap.objs.size) (.ref d)=false:=by simp [Builtin.List.listSameRef,C4]
 show wpAny _ A.in1 (Builtin.List.listExtendWith (.ref s.heap.objs.size) (.ref d) (.ref s.heap.objs.size)) _ _ _
 unfold Builtin.List.listExtendWith
 refine wpAny_bind (wpAny_typeOf lq ?_)
 rw[if_neg (by rw [aa];decide)]
 refine wpAny_bind (wpAny_pyIter_dict aQ C5 ?_)
 refine wpAny_bind (wpAny_holding ?_)
 have C6:((s.heap.push {cls:=.type "list",data:=.seq ([]:List Value).toArray}).push {cls:=.type "dict_keyiterator",data:=.fields #[.ref d,.int 0 0,.int aW.length 0,.int ca 0]}).DictAt (intKind prog w) d aW ca:=C5.push _
 have w4:({s with heap:=(s.heap.push {cls:=.type "list",data:=.seq ([]:List Value).toArray}).push {cls:=.type "dict_keyiterator",data:=.fields #[.ref d,.int 0 0,.int aW.length 0,.int ca 0]}}:Shared).TypeIs (.ref d) "dict":=C6.dictOf.typeIs
 unfold Builtin.List.listLengthHint
 refine wpAny_bind (wpAny_specialOf w4 XV ?_)
 (generalize C7:("dict.__len__":String)=La;(fail_if_success (clear C7 La));wp_delta;rw[show splitId La=some ("dict","__len__") from by subst C7;decide+kernel];subst C7)
 refine wpAny_bind (wpAny_isInstance (b:=true) w4 (by rw [isSubtype_type];rfl') ?_)
 rw[if_neg (by decide)]
 dsimp only
 rw[if_pos (by decide+kernel)]
 refine wpAny_bind (wpAny_typeOf w4 ?_)
 dsimp only
 refine wpAny_pure ?_
 rw[if_pos (by decide+kernel)]
 show wpAny _ A.in1 (rule "list.extend.makes-room">>=λ_=>Builtin.List.listTouch (.ref s.heap.objs.size)>>=λ_=>
  again (.builtin "list.extend.loop" ⟨[.ref s.heap.objs.size,.ref (s.heap.push {cls:=.type "list",data:=.seq ([]:List Value).toArray}).objs.size,.ref s.heap.objs.size],[]⟩)) _ _ _
 refine wpAny_bind (wpAny_rule ?_)
 have um:(s.heap.push {cls:=.type "list",data:=.seq ([]:List Value).toArray}).objs.size=s.heap.objs.size+1:=kl ..
 generalize w5:(s.heap.push {cls:=.type "list",data:=.seq ([]:List Value).toArray}).push {cls:=.type "dict_keyiterator",data:=.fields #[.ref d,.int 0 0,.int aW.length 0,.int ca 0]}=H1 at C6 w4
 have XX:H1.get? (s.heap.objs.size+1)=some {cls:=.type "dict_keyiterator",data:=.fields #[.ref d,.int 0 0,.int aW.length 0,.int ca 0]}:=by
  rw[<-w5,<-um];exact ez _ rfl
 have Lb:H1.get? s.heap.objs.size=some {cls:=.type "list",data:=.seq ([]:List Value).toArray}:=by
  rw[<-w5];exact ey _ (ez _ rfl)
 have hold:∀b o,s.heap.get? b=some o->H1.get? b=some o:=λb o e=>by rw [<-w5];exact ey _ (ey _ e)
 have ang:H1.objs.size=s.heap.objs.size+2:=by rw [<-w5,kl,um]
 refine wpAny_bind ?_
 show wpAny _ A.in1 (updateSeq s.heap.objs.size (·.push .none)>>=λ_=>updateSeq s.heap.objs.size (·.pop)) _ _ _
 refine wpAny_bind (wpAny_updateSeq Lb rfl ?_)
 have Lc:=v3 (Obj.mapSeq (·.push Value.none)) Lb rfl
 refine wpAny_updateSeq Lc rfl ?_
 have XY:=v3 (Obj.mapSeq (·.pop)) Lc rfl
 have eo:∀b o,b≠s.heap.objs.size->H1.get? b=some o->((H1.update s.heap.objs.size (Obj.mapSeq (·.push Value.none))).update s.heap.objs.size (Obj.mapSeq (·.pop))).get? b=some o:=
  λb o ao e=>(Heap.get?_update_other _ _ (Ne.symm ao)).trans ((Heap.get?_update_other _ _ (Ne.symm ao)).trans e)
 have XZ:d≠s.heap.objs.size+1:=gP (qR fJ)
 have gD:s.heap.objs.size+1≠s.heap.objs.size:=qT _
 have dS:aW.length<=sizeLine:=aT aX (by decide)
 have X0:s.heap.objs.size∉[s.heap.objs.size+1,d]:=by simp [C4]
 have X1:∀i:Nat,i=0->(((H1.update s.heap.objs.size (Obj.mapSeq (·.push Value.none))).update s.heap.objs.size (Obj.mapSeq (·.pop))).IsKeyIter (s.heap.objs.size+1) d i aW.length ca/\
   ((H1.update s.heap.objs.size (Obj.mapSeq (·.push Value.none))).update s.heap.objs.size (Obj.mapSeq (·.pop))).DictAt (intKind prog w) d aW ca):=by
  rintro i rfl
  exact⟨⟨_,eo _ _ gD XX,rfl,rfl⟩,C6.at' λo e=>eo _ _ (Ne.symm C4) e⟩
 rw[um]
 refine wpAny_pure ⟨plainId_quiet F.plain_extend_loop _,codeAny_extend_loopS (Walks.dictKeys (A:=A.in1) (knd:=intKind prog w) hh (s.heap.objs.size+1) d XZ aW ca).toS dS _ X0 _ aW.length 0 _ _ _ rfl (iB _)
  (X1 0 rfl) XY (ItemsOf.nil _) λbQ X2 aP av C8 rG=>?_⟩
 show wpAny _ A (load s.heap.objs.size>>=_) _ _ bQ
 refine wpAny_bind (wpAny_load C8 ?_)
 obtain⟨cC,cA,iL,lw,un⟩:=av
 obtain⟨X3,au,mv,jW,b9⟩:=bQ
 dsimp only at cC cA iL lw un C8 rG
 subst cA iL lw
 refine wpAny_pure (ak X3 jW X2 (λb o e=>?_) ?_ rG)
 .have ao:b<s.heap.objs.size:=gs e
  have kD:b≠s.heap.objs.size:=gP ao
  have X4:b≠s.heap.objs.size+1:=gP (qR ao)
  exact cC b o (by simp [kD,X4]) (eo b o kD (hold b o e))
 .exact jH (gs C8)
theorem X5{k:Int}{v:Value}(h:(intKind prog w).is k v=true):∃t,v= .int k t:=Value.isInt_shape h
theorem ints_of{aW:List (Int×Value)}{l:List Value}(ag:l.length=aW.length)(h:∀(j:Nat) v,l[j]? =some v->∃k x,aW[j]? =some (k,x)/\(intKind prog w).is k v=true):IntsAre l (aW.map (·.1)):=by
 induction aW generalizing l with
 |nil=>cases l with
  |nil=>exact .nil
  |cons=>simp at ag
 |cons p aW bb=>
  rcases l with _|⟨v,l⟩
  .simp at ag
  .obtain⟨k,x,aa,ah⟩:=h 0 v rfl
   obtain⟨t,rfl⟩:=X5 ah
   simp only[List.getElem?_cons_zero,Option.some.injEq] at aa
   subst aa
   exact .cons k t (bb (by simpa using ag) λj v bt=>by simpa using h (j+1) v (by simpa using bt))
theorem X6{d:Addr}{aW:List (Int×Value)}(hh:A.handled=none)(aQ:(d==sysModules)=false)(av:s.heap.DictOf (intKind prog w) d aW)(X7:aW.length<64)(h:∀h' aF a (out:Array Value) (pq:List Int) e,(∀b o,s.heap.get? b=some o->h'.get? b=some o)->s.heap.objs.size<=a->s.heap.objs.size<=h'.objs.size->h'.get? a=some (seqObj "list" out e)->
   IntsAre out.toList pq->pq.Perm (aW.map (·.1))->pq.Pairwise (· <= ·)->Q (.ref a) {s with heap:=h',toks:=aF}):
  wpAny (model prog w) A (call (.builtin "sorted") [.ref d]) Q E s:=by
 obtain⟨ca,av⟩:=av.dictAt
 refine Calls.call_function_entry kind_sorted plain_sorted entry_sorted (args_sorted1 _) ?_
 unfold Builtin.«sorted»
 refine wpAny_bind (m:=checkCount "sorted" 1 1 _) (wpAny_pure ?_)
 refine wpAny_bind (XW hh aQ av (by lia) λU aF acc aj aJ rG=>?_)
 have hI:IntsAre acc.toList (aW.map (·.1)):=ints_of (prog:=prog) (w:=w) (by simpa using rG.1) λj v bt=>rG.2 j v (by simpa using bt)
 have eB:acc.toList.length<64:=by have:=rG.1;simpa [this] using X7
 have anh:acc.toList.toArray.size<=sizeLine:=by have:(64:Nat)<=sizeLine:=(by decide);simp only[qQ];lia
 refine wpAny_bind (wpAny_newList ?_ (by have:(64:Nat)<=sizeLine:=(by decide);lia))
 have pr:(U.push (seqObj "list" acc.toList.toArray 0)).get? U.objs.size=some (seqObj "list" acc.toList.toArray 0):=ez _ rfl
 show wpAny _ _ _ _ _ {s with heap:=U.push (seqObj "list" acc.toList.toArray 0),toks:=aF}
 refine wpAny_bind (wpAny_holding (wpAny_call_entry slot_list_sort ⟨_,pr,rfl⟩ entry_list_sort (list_sort_tree pr hI eB λout pq en er e4=>⟨_,rfl,?_⟩) (args_list_sort _)))
 obtain⟨e,cL⟩:=sortedHeap_at (vs:=acc.toList) (out:=out) pr
 refine wpAny_pure ⟨_,rfl,h _ aF U.objs.size out pq e (λb o d8=>?_) aJ ?_ cL en er e4⟩
 .have ao:=gs (aj b o d8)
  rw[sortedHeap_old (gP ao) (by rw [size_push'];exact qR ao)]
  exact ey _ (aj b o d8)
 .exact aT aJ (jH (gs cL))
end
theorem X8{a b:List Int}(p:a.Perm b)(h:a.Pairwise (· <= ·))(k:b.Pairwise (· <= ·)):a=b:=
 List.Perm.eq_of_pairwise (λ_ _ _ _ a b=>Int.le_antisymm a b) h k p
section
def pu(H:T)(l:List V)(ns:List Int):Prop:=bX H l=some (ns.map PyData.int)
inductive CI (H:T) (u:V) (aU:List V) (ns:List Int):Prop
 |mk (i:Int) (ms:List Int) (e:ns=i::ms) (h:bI H u=some (.int i)) (k:pu H aU ms)
theorem Ld{aU:List V}{ns:List Int}(h:pu H (u::aU) ns):CI H u aU ns:=by
 obtain⟨d,m,e,aQ,av⟩:=fa h
 rcases ns with _|⟨i,ms⟩
 .exact nomatch e
 .injection e with e1 e2
  exact⟨i,ms,rfl,e1▸aQ,av.trans (congrArg some e2.symm)⟩
theorem Le{ns:List Int}(h:pu H [] ns):ns=[]:=by
 rcases ns with _|⟨i,ms⟩
 .rfl
 .exact nomatch Option.some.inj h
theorem C9{r:V}{i:Int}(h:bI H (.ty r)=some (.int i)):∃k:Nat,dL r H.dyn 0=some k/\i=((H.base.length+k:Nat):Int):=by
 obtain⟨k,_,f,e⟩:=hB h
 exact⟨k,f,PyData.int.inj e⟩
theorem uo{x i:Int}(h:bI H (.int x)=some (.int i)):x=i:=PyData.int.inj (Option.some.inj h)
theorem Db{x:Int}(h:x<n):x<((n+k:Nat):Int):=by lia
theorem X9{a b:V}{t:Bool}{i j:Int}(h:H.le a b=some t)(aw:bI H a=some (.int i))(ao:bI H b=some (.int j)):t=decide (i<=j):=by
 rcases a
 case int=>
  rw[<-uo aw]
  rcases b
  case int=>rw[<-uo ao,C3];exact(Option.some.inj h).symm
  case ty=>
   obtain⟨k,_,e⟩:=C9 ao
   rw[e,<-Option.some.inj (br h).2]
   exact(decide_eq_true (Int.le_of_lt (Db (iLt_iff.mp (br h).1)))).symm
  all_goals exact aI h
 case ty=>
  obtain⟨k,fH,e⟩:=C9 aw
  rw[e]
  rcases b
  case int=>
   rw[<-uo ao,<-Option.some.inj (br h).2]
   exact(decide_eq_false (Int.not_le.mpr (Db (iLt_iff.mp (br h).1)))).symm
  case ty=>
   obtain⟨l,gC,e⟩:=C9 ao
   rw[e,<-Option.some.inj (br h).2]
   unfold T.pos
   rw[fH,gC]
   show Nat.ble k l=_
   rw[i5,Nat.ble_eq,decide_eq_true_iff,Int.ofNat_le]
   exact⟨λh=>dh h _,Nat.le_of_add_le_add_left⟩
  all_goals exact aI h
 all_goals exact aI h
inductive Srt (H:T) (m:List V) (ns:List Int):Prop
 |mk (ms:List Int) (h:pu H m ms) (p:ms.Perm ns) (s:ms.Pairwise (· <= ·))
theorem Lf{x:V}{i:Int}(hx:bI H x=some (.int i)):∀{l m:List V}{ns:List Int},H.ins x l=some m->pu H l ns->ns.Pairwise (· <= ·)->Srt H m (i::ns)
 |[],m,ns,h,ag,_=>by
  rw[Le ag,<-Option.some.inj h]
  exact⟨[i],h9 hx rfl,.refl _,List.pairwise_singleton _ _⟩
 |y::r,m,ns,h,ag,aJ=>by
  obtain⟨j,ms,e,bt,av⟩:=Ld ag
  obtain⟨t,g,h⟩:=bD h
  have this:=X9 g hx bt
  rw[e] at aJ |-
  have aS:=List.pairwise_cons.mp aJ
  rcases t with _|_
  .have lx:j<=i:=Int.le_of_lt (Int.not_le.mp (of_decide_eq_false this.symm))
   obtain⟨jl,h',e⟩:=bD h
   obtain⟨ks,en,er,e4⟩:=Lf hx h' av aS.2
   rw[<-Option.some.inj e]
   exact⟨j::ks,h9 bt en,(List.Perm.cons j er).trans (List.Perm.swap i j ms),List.pairwise_cons.mpr ⟨λz bi=>(List.mem_cons.mp (er.mem_iff.mp bi)).elim (λe=>e▸lx) (aS.1 z),e4⟩⟩
  .have lx:i<=j:=of_decide_eq_true this.symm
   rw[<-Option.some.inj h]
   exact⟨i::j::ms,h9 hx (h9 bt av),.refl _,List.pairwise_cons.mpr ⟨λz bi=>(List.mem_cons.mp bi).elim (λe=>e▸lx) λbi=>Int.le_trans lx (aS.1 z bi),aJ⟩⟩
theorem Lg:∀{l m:List V}{ns:List Int},H.sort l=some m->pu H l ns->Srt H m ns
 |[],m,ns,h,ag=>by rw [Le ag,<-Option.some.inj h];exact⟨[],rfl,.refl _,.nil⟩
 |x::r,m,ns,h,ag=>by
  obtain⟨i,pq,e,hi,aq⟩:=Ld ag
  obtain⟨d7,aa,ah⟩:=bD h
  obtain⟨ks,en,er,e4⟩:=Lg aa aq
  obtain⟨ms,hg,gV,hj⟩:=Lf hi ah en e4
  rw[e]
  exact⟨ms,hg,gV.trans (List.Perm.cons i er),hj⟩
theorem Yb{im:bA}{vs:List Value}{ns:List Int}(h:IntsAre vs ns):RdL im vs (ns.map .int):=by
 induction h with
 |nil=>exact .nil
 |cons n t r bb=>exact .cons (.int n t) bb
end
def pv (x:Str):Value:=cond (a9 x tV) (.type "tuple") (cond (a9 x dy) (.builtin "len") (cond (a9 x ww) (.builtin "all") (cond (a9 x tT) (.builtin "any") (cond (a9 x tU) (.builtin "sorted") (cond (a9 x Cf) (.builtin "min") (.builtin "max"))))))
section
inductive ValsH (prog:Program) (w:World) (H:T) (g:Gh) (h:Heap):List Value->List V->Prop
 |nil:ValsH prog w H g h [] []
 |cons {v:Value} {x:V} {vs:List Value} {a4:List V}:Val prog w H g h.get? v x->ValsH prog w H g h vs a4->ValsH prog w H g h (v::vs) (x::a4)
inductive ValHC (prog:Program) (w:World) (H:T) (g:Gh) (h:Heap) (vs:List Value) (x:V) (a4:List V):Prop
 |mk (v:Value) (aU:List Value) (e:vs=v::aU) (a:Val prog w H g h.get? v x) (r:ValsH prog w H g h aU a4)
noncomputable def Lh(prog:Program)(w:World)(H:T)(g:Gh)(h:Heap)(vs:List Value):List V->Prop
 |[]=>vs=[]
 |x::a4=>ValHC prog w H g h vs x a4
theorem ValsH.dat{vs:List Value}{a4:List V}(q:ValsH prog w H g h vs a4):Lh prog w H g h vs a4:=
 ValsH.casesOn (motive:=λvs a4 _=>Lh prog w H g h vs a4) q rfl λa r=>⟨_,_,rfl,a,r⟩
theorem ValsH.one{vs:List Value}{x:V}(q:ValsH prog w H g h vs [x]):∃v,vs=[v]/\Val prog w H g h.get? v x:=by
 obtain⟨v,aU,e,a,r⟩:=q.dat
 rw[e,r.dat];exact⟨_,rfl,a⟩
theorem ValsH.two{vs:List Value}{x y:V}(q:ValsH prog w H g h vs [x,y]):∃v u,vs=[v,u]/\Val prog w H g h.get? v x/\Val prog w H g h.get? u y:=by
 obtain⟨v,aU,e,a,r⟩:=q.dat
 obtain⟨u,eI,bq,b,r⟩:=r.dat
 rw[e,bq,r.dat];exact⟨_,_,rfl,a,b⟩
theorem Yc{im:bA}{l:List (V×V)}{aW:List (Int×Value)}(h:Kvs .int H im l aW):pu H (l.map (·.1)) (aW.map (·.1)):=by
 induction h with
 |nil=>rfl
 |cons a b c d bb=>exact h9 a bb
theorem px{K:Type}{c7:K->PyData}{im:bA}{l:List (V×V)}{aW:List (K×Value)}(h:Kvs c7 H im l aW):l.length=aW.length:=by
 induction h with
 |nil=>rfl
 |cons a b c d bb=>exact congrArg Nat.succ bb
theorem Yd{v:V}(h:mj v=true):isStr v=false:=by
 rcases v
 case str=>exact nomatch h
 all_goals rfl
theorem Ye{im:bA}:∀{l:List (V×V)}{aW:List (Str×Value)},Kvs .str H im l aW->(l.all λp=>mj p.1)=true->l=[]/\aW=[]
 |[],_,k,_=>⟨rfl,k.dat⟩
 |p::l,_,q,h=>by
  obtain⟨j,v,d,aW,e,aa,ah,aC,bC⟩:=q.dat
  have:=(Yd (aK h).1).symm.trans (C1 _ _ aa)
  exact nomatch this
theorem Li{im:bA}:∀{l:List V}{bs:List Bool}{vs:List Value}{ds:List PyData},rm l=some bs->bX H l=some ds->RdL im vs ds->vs=bs.map Value.bool
 |[],_,_,_,h,k,r=>by rw [<-Option.some.inj k] at r;rw[r.dat,<-Option.some.inj h];rfl
 |u::aU,bs,vs,ds,h,k,r=>by
  obtain⟨b,aa,h⟩:=bD h
  obtain⟨ani,ah,h⟩:=bD h
  obtain⟨d,m,e,aQ,av⟩:=fa k
  rw[wL aa] at aQ
  rw[e,<-Option.some.inj aQ] at r
  obtain⟨v,aU,e,a,b⟩:=r.dat
  rw[e,a.dat,Li ah av b,<-Option.some.inj h];rfl
theorem Yg{vs:Array Value}{bs:List Bool}(hh:A.handled=none)(ag:s.heap.IsList a vs)(ao:vs.toList=bs.map Value.bool)(h:∀h' aF,(∀b o,s.heap.get? b=some o->h'.get? b=some o)->Q (.bool (bs.all id)) {s with heap:=h',toks:=aF}):wpAny (model prog w) A (call (.builtin "all") [.ref a]) Q E s:=by
 have fJ:a<s.heap.objs.size:=by obtain ⟨o,aG,_⟩:=ag;exact gs aG
 refine call_all_walk (wpAny_pyIter_list ag ⟨_,_,_,_,_,_,λi=>bs.getD i false,rfl,wh (A:=A.in1) hh s.heap.objs.size a (gP fJ) vs,⟨⟨_,ez _ rfl,rfl,rfl⟩,ag.push _⟩,?_,λh' aF aj=>?_⟩)
 .intro i v c1 Yh Yi hi ak
  have al:(bs.map Value.bool)[i]? =some v:=by rw [<-ao];simpa using hi
  rw[ni] at al
  obtain⟨b,kD,rfl⟩:=nk al
  refine wpAny_truthy_bool ?_
  simpa [List.getD,kD] using ak
 .have aJ:vs.size=bs.length:=by have:=congrArg List.length ao;simpa using this
  have:(List.range vs.size).all (λi=>bs.getD i false)=bs.all id:=by
   rw[aJ]
   rw[i5,List.all_eq_true,List.all_eq_true]
   constructor
   .intro h x hx
    obtain⟨i,hi,rfl⟩:=List.mem_iff_getElem.mp hx
    have:=h i (List.mem_range.mpr hi)
    simpa [List.getD,hi] using this
   .intro h i hi
    have iM:=List.mem_range.mp hi
    have:=h bs[i] (zQ iM)
    simpa [List.getD,iM] using this
  rw[this]
  refine h h' aF λb o e=>aj b o ?_ (ey _ e)
  have:=gs e
  simp only[zN]
  exact gP this
theorem Yj{vs:Array Value}{bs:List Bool}(hh:A.handled=none)(ag:s.heap.IsList a vs)(ao:vs.toList=bs.map Value.bool)(h:∀h' aF,(∀b o,s.heap.get? b=some o->h'.get? b=some o)->Q (.bool (bs.any id)) {s with heap:=h',toks:=aF}):wpAny (model prog w) A (call (.builtin "any") [.ref a]) Q E s:=by
 have fJ:a<s.heap.objs.size:=by obtain ⟨o,aG,_⟩:=ag;exact gs aG
 refine call_any_walk (wpAny_pyIter_list ag ⟨_,_,_,_,_,_,λi=>bs.getD i false,rfl,wh (A:=A.in1) hh s.heap.objs.size a (gP fJ) vs,⟨⟨_,ez _ rfl,rfl,rfl⟩,ag.push _⟩,?_,λh' aF aj=>?_⟩)
 .intro i v c1 Yh Yi hi ak
  have al:(bs.map Value.bool)[i]? =some v:=by rw [<-ao];simpa using hi
  rw[ni] at al
  obtain⟨b,kD,rfl⟩:=nk al
  refine wpAny_truthy_bool ?_
  simpa [List.getD,kD] using ak
 .have aJ:vs.size=bs.length:=by have:=congrArg List.length ao;simpa using this
  have:(List.range vs.size).any (λi=>bs.getD i false)=bs.any id:=by
   rw[aJ]
   rw[i5,tv,tv]
   constructor
   .rintro⟨i,hi,h⟩
    have iM:=List.mem_range.mp hi
    exact⟨bs[i],zQ iM,by simpa [List.getD,iM] using h⟩
   .rintro⟨x,hx,h⟩
    obtain⟨i,hi,rfl⟩:=List.mem_iff_getElem.mp hx
    exact⟨i,List.mem_range.mpr hi,by simpa [List.getD,hi] using h⟩
  rw[this]
  refine h h' aF λb o e=>aj b o ?_ (ey _ e)
  have:=gs e
  simp only[zN]
  exact gP this
end
section
theorem Got.grow{r:V}(G:Got prog w H g s Q r)(C:Cfg prog w H g s.heap)(aj:∀b o,s.heap.get? b=some o->h'.get? b=some o){u:Value}(bG:Val prog w H g g.im u r)(aF:Nat):Q u {s with heap:=h',toks:=aF}:=
 G g h' aF u (Ext.grow g aj) (C.grow aj) bG
theorem Got.fresh{r:V}(G:Got prog w H g s Q r)(C:Cfg prog w H g s.heap)(aj:∀b o,s.heap.get? b=some o->h'.get? b=some o){o:Obj}(aw:s.heap.get? a=none)(e:h'.get? a=some o)(bG:Val prog w H (g.add a o) (g.add a o).im (.ref a) r)(aF:Nat):Q (.ref a) {s with heap:=h',toks:=aF}:=
 G _ _ aF _ (C.add aw e aj).1 (C.add aw e aj).2 bG
section
variable {as:List V}{r:V}{vs:List Value}
theorem nN{α:Type}{l:List α}{a:α}(h:fD l=some a):l=[a]:=by
 rcases l with _|⟨b,_|⟨c,l⟩⟩
 .exact aI h
 .exact congrArg (λx=>[x]) (Option.some.inj h)
 .exact aI h
theorem rH{α:Type}{l:List α}{q:α×α}(h:mn l=some q):l=[q.1,q.2]:=by
 rcases l with _|⟨b,l⟩
 .exact aI h
 .obtain⟨c,e,h⟩:=bD h
  rw[nN e,<-Option.some.inj h]
inductive One1 (prog:Program) (w:World) (H:T) (g:Gh) (h:Heap) (vs:List Value) (f:V->Option V) (r:V):Prop
 |mk (u:V) (v:Value) (e:vs=[v]) (h:Val prog w H g h.get? v u) (k:f u=some r)
theorem ValsH.v1{f:V->Option V}(q:ValsH prog w H g h vs as)(k:od (fD as) f=some r):One1 prog w H g h vs f r:=by
 obtain⟨u,e,k⟩:=bD k
 rw[nN e] at q
 obtain⟨v,e,al⟩:=q.one
 exact⟨u,v,e,al,k⟩
theorem Got.int(G:Got prog w H g s Q r)(C:Cfg prog w H g s.heap){i:Int}(h:some (V.int i)=some r)(t:Tok)(aF:Nat):Q (.int i t) {s with toks:=aF}:=G.here C (gb h (P:=Val prog w H g g.im _) (.int i t)) aF
theorem Yk(h:od (fD as) Ci=some r)(C:Cfg prog w H g s.heap)(gE:ValsH prog w H g s.heap vs as)(G:Got prog w H g s Q r):wpAny (model prog w) A (call (.builtin "len") vs) Q E s:=by
 obtain⟨u,v,e,al,h⟩:=gE.v1 h
 rw[e]
 rcases u
 case tup=>
  obtain⟨ag,h⟩:=br h
  obtain⟨a,o,vs,n,ds,e,bx,ap,aQ,aq,aC⟩:=al.gN
  have e1:=f4 aq aC
  rw[e]
  exact len_tuple ⟨o,C.bn _ _ bx,ap,n,aQ⟩ (rE (e1▸gd ag)) (G.int C (e1▸h) _ _)
 case list=>
  obtain⟨ag,h⟩:=br h
  obtain⟨a,vs,n,ds,e,bx,aq,aC⟩:=al.kh
  have e1:=f4 aq aC
  rw[e]
  exact len_list ⟨_,bx,rfl,n,rfl⟩ (rE (e1▸gd ag)) (G.int C (e1▸h) _ _)
 case dict=>
  obtain⟨ag,h⟩:=br h
  obtain⟨ad,o,e,aG,av,D⟩:=al
  rw[e]
  rcases D with ⟨aW,aa,ah⟩|⟨aW,aa,ah⟩
  .exact call_len_dict av (aa.mapOf aG) (rE (px ah▸gd ag)) (G.int C (px ah▸h) _ _)
  .exact call_len_dict av (aa.mapOf aG) (rE (px ah▸gd ag)) (G.int C (px ah▸h) _ _)
 all_goals exact aI h
inductive BoolL (h:Heap) (f:List Bool->Bool) (v:Value) (r:V):Prop
 |mk (a:Addr) (vs:Array Value) (bs:List Bool) (e:v= .ref a) (l:h.IsList a vs) (b:vs.toList=bs.map Value.bool) (k:r= .bool (f bs))
theorem Lj{v:Value}{f:List Bool->Bool}(al:Val prog w H g h.get? v u)(k:rp f u=some r):BoolL h f v r:=by
 obtain⟨l,e,k⟩:=bD k
 obtain⟨_,k⟩:=br k
 obtain⟨bs,ao,k⟩:=bD k
 rw[t6 e] at al
 obtain⟨a,vs,n,ds,e,bx,aq,aC⟩:=al.kh
 exact⟨a,vs,bs,e,⟨_,bx,rfl,n,rfl⟩,Li ao aC aq,(Option.some.inj k).symm⟩
theorem Yl(h:od (fD as) (Cj H)=some r)(C:Cfg prog w H g s.heap)(R:Room A n)(gE:ValsH prog w H g s.heap vs as)(G:Got prog w H g s Q r):wpAny (model prog w) A (call (.builtin "sorted") vs) Q E s:=by
 obtain⟨u,v,e,al,h⟩:=gE.v1 h
 rw[e]
 obtain⟨l,e,h⟩:=bD h
 obtain⟨ag,h⟩:=br h
 obtain⟨m,ly,h⟩:=bD h
 rw[<-Option.some.inj h] at G
 rw[CA e] at al
 obtain⟨ad,o,e,aG,av,D⟩:=al
 rw[e]
 have key:∃aW,ObjDict prog w (intKind prog w) o aW/\Kvs .int H g.im l aW:=by
  rcases D with ⟨aW,aa,ah⟩|⟨aW,aa,ah⟩
  .exact⟨aW,aa,ah⟩
  .obtain⟨e1,e2⟩:=Ye ah (aK ag).2
   rw[e2] at aa
   rw[e1]
   exact⟨[],aa.empty,.nil⟩
 obtain⟨aW,aa,ah⟩:=key
 obtain⟨ms,en,er,e4⟩:=Lg ly (Yc ah)
 refine X6 R.handled av (aa.mapOf aG) (Nat.lt_succ_of_le (px ah▸fi (aK ag).1)) λh' aF a out pq e aj aw aJ cL hH iK Dc=>?_
 have aX:s.heap.get? a=none:=by
  rcases q:s.heap.get? a with _|o
  .rfl
  .exact absurd (gs q) (Nat.not_lt.mpr aw)
 rw[<-X8 (iK.trans er.symm) Dc e4] at en
 exact G.fresh C aj aX cL ⟨_,out,e,_,rfl,Gh.jA _ _ _,(Yb hH).add (C.g8 aX),en⟩ _
theorem Ym(h:od (fD as) Ck=some r)(C:Cfg prog w H g s.heap)(gE:ValsH prog w H g s.heap vs as)(G:Got prog w H g s Q r):wpAny (model prog w) A (call (.type "tuple") vs) Q E s:=by
 obtain⟨u,v,e,al,h⟩:=gE.v1 h
 rw[e]
 rcases u
 case list=>
  obtain⟨ag,h⟩:=br h
  rw[<-Option.some.inj h] at G
  obtain⟨a,vs,n,ds,e,bx,aq,aC⟩:=al.kh
  rw[e]
  refine call_tuple_list ⟨_,bx,rfl,n,rfl⟩ (λh' aj=>?_) (pm (f4 aq aC▸gd ag))
  have aX:s.heap.get? h'.objs.size=none:=gU (λa o e=>⟨o,aj a o e⟩) (ji h')
  exact G.fresh C (λb o e=>ey _ (aj b o e)) aX (ez _ rfl) (.g9 (uf aC) (.tup (Gh.jA _ _ _) rfl rfl (aq.add (C.g8 aX)))) _
 case tup=>
  rw[<-Option.some.inj h] at G
  obtain⟨a,o,vs,n,ds,e,bx,ap,aQ,aq,aC⟩:=al.gN
  rw[e]
  exact call_tuple_tup ⟨o,C.bn _ _ bx,ap,n,aQ⟩ (G.here C (.g9 (uf aC) (.tup bx ap aQ aq)) _)
 all_goals exact aI h
inductive Two2 (vs:List Value) (f:Int->Int->Int) (r:V):Prop
 |mk (i j:Int) (t u:Tok) (e:vs=[.int i t,.int j u]) (k:r= .int (f i j))
theorem Lk{f:Int->Int->Int}(q:ValsH prog w H g h vs as)(k:od (mn as) (Cm f)=some r):Two2 vs f r:=by
 obtain⟨⟨a,b⟩,e,k⟩:=bD k
 rw[rH e] at q
 obtain⟨v,u,e,aa,ah⟩:=q.two
 obtain⟨i,j,t,u,e1,e2,k⟩:=mD k aa ah
 exact⟨i,j,t,u,by rw [e,e1,e2],(Option.some.inj k).symm⟩
theorem Ll(i j a b:Int):cond (e0 i j) a b=if i<j then a else b:=by
 rcases e:e0 i j with _|_
 .exact(if_neg λq=>by rw [iLt_iff.mpr q] at e;exact nomatch e).symm
 .exact(if_pos (iLt_iff.mp e)).symm
theorem Yn(h:f1 H x as=some r)(C:Cfg prog w H g s.heap)(R:Room A n)(gE:ValsH prog w H g s.heap vs as)(G:Got prog w H g s Q r):wpAny (model prog w) A (call (pv x) vs) Q E s:=by
 have hh:=R.handled
 have up:∀{y:Str},a9 x y=true->pv x=pv y:=λh=>congrArg pv (sEq_iff.mp h)
 rcases eA h with ⟨hx,h⟩|⟨_,h⟩
 .rw[up hx];exact Yk h C gE G
 rcases eA h with ⟨hx,h⟩|⟨_,h⟩
 .obtain⟨u,v,e,al,h⟩:=gE.v1 h
  obtain⟨a,eI,bs,bq,l,b,k⟩:=Lj al h
  rw[up hx,e,bq]
  exact Yg hh l b λh' aF aj=>G.grow C aj (k▸ .bool _) _
 rcases eA h with ⟨hx,h⟩|⟨_,h⟩
 .obtain⟨u,v,e,al,h⟩:=gE.v1 h
  obtain⟨a,eI,bs,bq,l,b,k⟩:=Lj al h
  rw[up hx,e,bq]
  exact Yj hh l b λh' aF aj=>G.grow C aj (k▸ .bool _) _
 rcases eA h with ⟨hx,h⟩|⟨_,h⟩
 .rw[up hx];exact Yl h C R gE G
 rcases eA h with ⟨hx,h⟩|⟨_,h⟩
 .rw[up hx];exact Ym h C gE G
 rcases eA h with ⟨hx,h⟩|⟨_,h⟩
 .obtain⟨i,j,t,u,e,k⟩:=Lk gE h
  rw[up hx,e]
  have k:r= .int (if j<i then j else i):=k.trans (congrArg _ (Ll ..))
  refine min_two_ints hh λh' aF aj=>?_
  rcases eR (j<i) with c|c
  .rw[if_pos c] at k |-;exact G.grow C aj (k▸ .int _ _) _
  .rw[if_neg c] at k |-;exact G.grow C aj (k▸ .int _ _) _
 .obtain⟨hx,h⟩:=br h
  obtain⟨i,j,t,u,e,k⟩:=Lk gE h
  rw[up hx,e]
  have k:r= .int (if i<j then j else i):=k.trans (congrArg _ (Ll ..))
  refine max_two_ints hh λh' aF aj=>?_
  rcases eR (i<j) with c|c
  .rw[if_pos c] at k
   rw[if_pos (show j>i from c)];exact G.grow C aj (k▸ .int _ _) _
  .rw[if_neg c] at k
   rw[if_neg (show ¬j>i from c)];exact G.grow C aj (k▸ .int _ _) _
end
end
noncomputable def iN(K:Frag)(C:Addr)(name:Str):Bool:=plainGet K C name&&hasDictIn K C&&findIn K (.ref C) name==some none
noncomputable def lz(K:Frag)(C f:Addr)(name:Str):Bool:=plainGet K C name&&findIn K (.ref C) name==some (some (.ref f))&&isFn K (.ref f)&&keepIn K (.ref f)
section
theorem uq{x C a5:Addr}{es:List DictEntry}{name:Str}{v:Value}{b:Bool}(X:K.In s.heap)(aa:s.heap.get? x=some (instObj C a5))(ah:s.heap.get? a5=some (dictOf es n))(aw:iN K C name=true)(ag:getL name es=some (some v))(al:handedIn v=true)(ak:Q v {s with toks:=s.toks+1}):wpAny (model prog w) A (getAttr (.ref x) name b) Q E s:=by
 exact get_value X (od:=some (dictOf es n)) ⟨aa,rfl,rfl,ah⟩ (plainGet_of (aK (aK aw).1).1).1 (findObj_own (aK (aK aw).1).2 (eq_of_beq (aK aw).2) rfl ag) al ak
theorem Dd{x C a5 f:Addr}{es:List DictEntry}{name:Str}{di:Sem Bool}{Q:Value×List Value->Shared->Prop}(X:K.In s.heap)(aa:s.heap.get? x=some (instObj C a5))(ah:s.heap.get? a5=some (dictOf es n))(aw:lz K C f name=true)(ag:getL name es=some none)(ak:Q (.ref f,[.ref x]) s):wpAny (model prog w) A (getMethod (.ref x) name di) Q E s:=by
 simp only[lz,c6,beq_iff_eq] at aw
 exact method_fn X (od:=some (dictOf es n)) ⟨aa,rfl,rfl,ah⟩ (plainGet_of aw.1.1.1).1 (plainGet_of aw.1.1.1).2 aw.1.1.2 (beq_iff_eq.mp aw.1.2) (by show (lookIn name (dictOf es n)).map _=_;rw[lookIn_dict,ag];rfl) ak
end
structure Tp (ta:Ta) (K:Frag):Prop where
 gq:K.In ta.h0
 rows:iN K ta.gO h6=true
 index:iN K ta.gO jc=true
 decls:iN K ta.gO kt=true
 bounds:iN K ta.gO ku=true
 defaults:iN K ta.gO "defaults"=true
 names:iN K ta.gO "names"=true
 tab:iN K ta.qN cF=true
 body:iN K ta.fg fT=true
 bases:iN K ta.fg lc=true
section
theorem Cfg.gq(C:Cfg prog w H g s.heap)(P:Tp g.ta K):K.In s.heap:=P.gq.keeps λa o e=>C.bn a o (C.base a o e)
theorem w6(C:Cfg prog w H g s.heap)(P:Tp g.ta K){name:Str}{v:Value}{b:Bool}(aw:iN K g.ta.gO name=true)(al:handedIn v=true)(ag:∀es n,g.im g.ta.cU=some (dictOf es n)->getL name es=some (some v))(ak:Q v {s with toks:=s.toks+1}):wpAny (model prog w) A (getAttr (.ref g.ta.tab) name b) Q E s:=by
 obtain⟨es,n,aa,ah⟩:=C.tok.cU
 exact uq (C.gq P) (C.bn _ _ C.tok.tab) (C.bn _ _ aa) aw (ag es n aa) al ak
theorem lA{es dN:List DictEntry}{n db:Nat}(h:some (dictOf es n)=some (dictOf dN db)):es=dN:=by
 have h:=Option.some.inj h
 injection h with _ _ h _
 injection h with h _
 simpa using congrArg Array.toList h
theorem Yo(C:Cfg prog w H g s.heap)(P:Tp g.ta K){b:Bool}(ak:Q (.ref g.ta.rows) {s with toks:=s.toks+1}):wpAny (model prog w) A (getAttr (.ref g.ta.tab) h6 b) Q E s:=
 w6 C P P.rows rfl (λes n e=>by obtain ⟨dN,db,aa,ah,_⟩:=C.tok.cU;rw[lA (e.symm.trans aa)];exact ah) ak
theorem Yp(C:Cfg prog w H g s.heap)(P:Tp g.ta K){b:Bool}(ak:Q (.ref g.ta.idx) {s with toks:=s.toks+1}):wpAny (model prog w) A (getAttr (.ref g.ta.tab) jc b) Q E s:=
 w6 C P P.index rfl (λes n e=>by obtain ⟨dN,db,aa,_,ah,_⟩:=C.tok.cU;rw[lA (e.symm.trans aa)];exact ah) ak
theorem Yq(C:Cfg prog w H g s.heap)(P:Tp g.ta K){b:Bool}(ak:Q (.ref g.ta.decls) {s with toks:=s.toks+1}):wpAny (model prog w) A (getAttr (.ref g.ta.tab) kt b) Q E s:=
 w6 C P P.decls rfl (λes n e=>by obtain ⟨dN,db,aa,_,_,ah,_⟩:=C.tok.cU;rw[lA (e.symm.trans aa)];exact ah) ak
theorem Yr(C:Cfg prog w H g s.heap)(P:Tp g.ta K){b:Bool}(ak:Q (.ref g.ta.du) {s with toks:=s.toks+1}):wpAny (model prog w) A (getAttr (.ref g.ta.tab) ku b) Q E s:=
 w6 C P P.bounds rfl (λes n e=>by obtain ⟨dN,db,aa,_,_,_,ah,_⟩:=C.tok.cU;rw[lA (e.symm.trans aa)];exact ah) ak
theorem Ys(C:Cfg prog w H g s.heap)(P:Tp g.ta K)(hh:g.ta.hh=true){b:Bool}(ak:Q (.ref g.ta.tab) {s with toks:=s.toks+1}):wpAny (model prog w) A (getAttr (.ref g.ta.host) cF b) Q E s:=by
 obtain⟨es,n,aa,ah,_⟩:=C.tok.hv hh
 exact uq (C.gq P) (C.bn _ _ (C.tok.host hh)) (C.bn _ _ aa) P.tab ah rfl ak
theorem Yt{im:bA}{v:Value}(h:Rd im v d):handedIn v=true:=Rd.casesOn (motive_1:=λv _ _=>handedIn v=true) h rfl (λ_=>rfl) (λ_ _=>rfl) (λ_ _=>rfl) (λ_ _ _ _=>rfl) λ_ _=>rfl
theorem Yu(C:Cfg prog w H g s.heap)(P:Tp g.ta K){p:Addr×Addr}(aS:g.dd[k]? =some p)(bG:H.decls[k+1]? =some u){b:Bool}(ak:∀v,Val prog w H g g.im v u->Q v {s with toks:=s.toks+1}):wpAny (model prog w) A (getAttr (.ref p.1) fT b) Q E s:=by
 obtain⟨aa,es,n,ah,_,_,_,_,i,t,x,aC,bC,ee⟩:=C.tok.decl k p aS
 rw[<-Option.some.inj (bG.symm.trans bC)] at ee
 exact uq (C.gq P) (C.bn _ _ aa) ah P.body aC rfl (ak _ (.g9 ee (.int i t)))
theorem Yv(C:Cfg prog w H g s.heap)(P:Tp g.ta K){p:Addr×Addr}(aS:g.dd[k]? =some p){b:Bool}(ak:∀v,Val prog w H g g.im v (.tup [])->Q v {s with toks:=s.toks+1}):wpAny (model prog w) A (getAttr (.ref p.1) lc b) Q E s:=by
 obtain⟨aa,es,n,ah,_,v,aC,bC,_,_,_,_,_,_⟩:=C.tok.decl k p aS
 exact uq (C.gq P) (C.bn _ _ aa) ah P.bases aC (Yt bC) (ak v (.g9 (d:=.tuple []) rfl bC))
theorem Lm(C:Cfg prog w H g s.heap)(ap:H.cnt<=ba){t:Tok}{r:V}(aj:(H.base++H.dyn)[k]? =some r)(G:Got prog w H g s Q r):wpAny (model prog w) A (getItem (.ref g.ta.rows) (.int (k:Int) t)) Q E s:=by
 obtain⟨vs,n,ds,aa,ah,aC⟩:=C.tok.rows
 have bi:=C.ok.size
 have len:=f4 ah aC
 obtain⟨v,al,kC⟩:=ah.at aC aj
 have:k<(H.base++H.dyn).length:=(List.getElem?_eq_some_iff.mp aj).1
 rw[d5] at this len
 exact wpAny_getItem_list ⟨_,aa,rfl,n,rfl⟩ (by lia) (by simp only [ba] at ap;lia) (x:=v) al (G.here C kC.val _)
theorem Yw(C:Cfg prog w H g s.heap)(ap:H.cnt<=ba){i:V}{el:Value}{r:V}(h:H.rowOf i=some r)(hi:Val prog w H g s.heap.get? el i)(G:Got prog w H g s Q r):
  wpAny (model prog w) A (getItem (.ref g.ta.rows) el) Q E s:=by
 have h:(match tQ i with|some r=>some r|none=>od (kq i) λi=>H.base[i]?)=some r:=h
 rcases e:tQ i with _|q<;>rw[e] at h
 .obtain⟨k,e,h⟩:=bD h
  rw[nJ e] at hi
  obtain⟨t,e⟩:=hi.int_inv
  rw[e]
  exact Lm C ap (by rw [mc (List.getElem?_eq_some_iff.mp h).1];exact h) G
 .rw[Kf e,Option.some.inj h] at hi
  obtain⟨d,aQ,aq⟩:=hi
  obtain⟨k,bC,_,e⟩:=hB aQ
  rw[e] at aq
  obtain⟨t,e⟩:=aq.dat
  rw[e]
  exact Lm C ap (by rw [nh (eZ _ _),tl];exact bC) G
theorem Yx(C:Cfg prog w H g s.heap)(ap:H.cnt<=ba)(aa:1<=k)(ah:k<H.decls.length){el:Value}(hi:Val prog w H g s.heap.get? el (.int (k:Int)))(G:Got prog w H g s Q (.decl k)):
  wpAny (model prog w) A (getItem (.ref g.ta.decls) el) Q E s:=by
 obtain⟨t,e⟩:=hi.int_inv
 rw[e]
 obtain⟨vs,n,a,b,c⟩:=C.tok.decls
 have bi:=C.line.1
 rcases k with _|j
 .exact nomatch aa
 have bt:j<g.dd.length:=oJ (Nat.lt_of_lt_of_eq ah c)
 have aS:=oI bt
 have len:vs.size=H.decls.length:=by rw [<-tn,b,kk,eQ,c]
 refine wpAny_getItem_list ⟨_,a,rfl,n,rfl⟩ (zO _) (by simp only [ba] at ap;lia) (x:=.ref (g.dd[j]).1) ?_ (G.here C ⟨_,aa,aS,rfl⟩ _)
 refine Array.getElem?_toList.symm.trans ?_
 rw[b]
 show (g.dd.map _)[j]? =_
 rw[ni,aS];rfl
theorem Yy(C:Cfg prog w H g s.heap)(ap:H.cnt<=ba){z:Int}(h:H.bounds[k]? =some z){el:Value}(hi:Val prog w H g s.heap.get? el (.int (k:Int)))(G:Got prog w H g s Q (.int z)):
  wpAny (model prog w) A (getItem (.ref g.ta.du) el) Q E s:=by
 obtain⟨t,e⟩:=hi.int_inv
 rw[e]
 obtain⟨vs,n,a,b,c⟩:=C.tok.du
 have bi:=C.line.2
 have:=(List.getElem?_eq_some_iff.mp h).1
 rw[tn] at b
 obtain⟨jW,a1⟩:=c k z h
 exact wpAny_getItem_list ⟨_,a,rfl,n,rfl⟩ (zO _) (by simp only [ba] at ap;lia) (x:=.int z jW) (Array.getElem?_toList.symm.trans a1) (G.here C (.int _ _) _)
end
inductive VK (n d:Nat):V->Prop
 |int (i:Int) (h:e0 i n=true):VK n d (.int i)
 |str (s:Str):VK n d (.str s)
 |ty (r:V):VK n d (.ty r)
 |tup (e:Nat) (l:List V) (q:d=e+1) (h:∀x∈l,V.key n e x=true):VK n d (.tup l)
theorem jm{n d:Nat}{v:V}(h:V.key n d v=true):VK n d v:=by
 rcases d with _|d
 .rcases v
  case int=>exact .int _ h
  case str=>exact .str _
  case ty=>exact .ty _
  all_goals exact nomatch h
 .rcases v
  case int=>exact .int _ h
  case str=>exact .str _
  case ty=>exact .ty _
  case tup l=>exact .tup d l rfl (List.all_eq_true.mp h)
  all_goals exact nomatch h
theorem rJ{r:V}{x:PyData}(h:bI H (.ty r)=some x):∃i,x= .int i:=by
 obtain⟨_,_,_,e⟩:=hB h
 exact⟨_,e⟩
theorem De:∀{d e:Nat}{v:V}{x:PyData},V.key n d v=true->d<=e->bI H v=some x->fG e x=true:=by
 intro d
 induction d with
 |zero=>
  intro e v x h aQ ap
  rcases jm h with ⟨i,h⟩|s|r|⟨bq,l,q,h⟩
  .rw[<-Option.some.inj ap];rcases e with _|_<;>rfl
  .obtain⟨q,k⟩:=gB ap
   rw[q];rcases e with _|_<;>exact k
  .obtain⟨i,q⟩:=rJ ap
   rw[q];rcases e with _|_<;>rfl
  .exact nomatch q
 |succ d bb=>
  intro e v x h aQ ap
  rcases e with _|e
  .exact absurd aQ (zK _)
  rcases jm h with ⟨i,h⟩|s|r|⟨bq,l,q,k⟩
  .rw[<-Option.some.inj ap];rfl
  .obtain⟨q,k⟩:=gB ap
   rw[q];exact k
  .obtain⟨i,q⟩:=rJ ap
   rw[q];rfl
  .injection q with q
   obtain⟨m,av,jg⟩:=gS ap
   rw[jg]
   exact List.all_eq_true.mpr (ug av λx hx d iJ=>bb (q▸k x hx) (zF aQ) iJ)
theorem Ln:∀{l:List V}{m:List PyData},bX H l=some m->∀x∈l,∃d,bI H x=some d
 |x::l,_,h,y,q=>by
  obtain⟨d,m,e,aQ,av⟩:=fa h
  exact(List.mem_cons.mp q).elim (λe=>⟨d,e▸aQ⟩) (Ln av y)
theorem Lo:∀{l:List V},(∀x∈l,V.plain x=true)->V.zx l=true
 |[],_=>rfl
 |x::l,h=>(c6 _ _).mpr ⟨h x (.head _),Lo λy m=>h y (.tail _ m)⟩
theorem Lp(aL:H.Ok):∀{d:Nat}{v:V}{x:PyData},V.key n d v=true->bI H v=some x->V.plain v=true:=by
 intro d
 induction d with
 |zero=>
  intro v x h ap
  rcases jm h with ⟨i,h⟩|s|r|⟨bq,l,q,h⟩
  .rfl
  .rfl
  .exact CB (r:=r) aL ap
  .exact nomatch q
 |succ d bb=>
  intro v x h ap
  rcases jm h with ⟨i,h⟩|s|r|⟨bq,l,q,k⟩
  .rfl
  .rfl
  .exact CB (r:=r) aL ap
  .injection q with q
   obtain⟨m,av,_⟩:=gS ap
   exact Lo λy aY=>(Ln av y aY).elim λd aQ=>bb (q▸k y aY) aQ
theorem Yz(B:H.bld=true->H.dyn=[]){r:V}(h:H.dyn[j]? =some r):H.kb=H.base.length:=by
 unfold T.kb
 rcases e:H.bld with _|_
 .rfl
 .rw[B e] at h;exact nomatch h
theorem Lq{P:V->Prop}:∀{l cK:List V}{m:List PyData},(∀x∈l,∀y,P y->∀d,bI H x=some d->bI H y=some d->x=y)->(∀y∈cK,P y)->bX H l=some m->bX H cK=some m->l=cK
 |[],[],_,_,_,_,_=>rfl
 |[],_::_,_,_,_,h,k=>by obtain ⟨_,_,e,_⟩:=fa k;rw[e] at h;exact nomatch Option.some.inj h
 |_::_,[],_,_,_,h,k=>by obtain ⟨_,_,e,_⟩:=fa h;rw[e] at k;exact nomatch Option.some.inj k
 |x::l,y::cK,_,aS,aO,h,k=>by
  obtain⟨d,m,e,aQ,av⟩:=fa h
  obtain⟨mv,jl,bq,iJ,ly⟩:=fa k
  injection e.symm.trans bq with e1 e2
  rw[aS x (.head _) y (aO y (.head _)) d aQ (e1▸iJ),Lq (λz bi=>aS z (.tail _ bi)) (λz bi=>aO z (.tail _ bi)) av (e2▸ly)]
theorem Lr(B:H.bld=true->H.dyn=[]){i:Int}{r:V}(hi:e0 i H.kb=true)(h:bI H (.ty r)=some (.int i)):False:=by
 obtain⟨k,aj,_,e⟩:=hB h
 rw[Yz B aj] at hi
 have:=Db (k:=k) (iLt_iff.mp hi)
 rw[<-PyData.int.inj e] at this
 exact Int.lt_irrefl _ this
theorem YA{r d7:V}{x:PyData}(h:bI H (.ty r)=some x)(k:bI H (.ty d7)=some x):r=d7:=by
 obtain⟨i,hi,_,e⟩:=hB h
 obtain⟨j,bt,_,bq⟩:=hB k
 have:i=j:=Ir (Int.ofNat.inj (PyData.int.inj (e.symm.trans bq)))
 rw[this] at hi
 exact Option.some.inj (hi.symm.trans bt)
theorem Ls(B:H.bld=true->H.dyn=[]){i:Int}{b:V}{e:Nat}(aw:e0 i H.kb=true)(ao:VK H.kb e b)(k:bI H b=some (.int i)): .int i=b:=by
 rcases ao with ⟨j,h⟩|s|r|⟨bq,l,q,h⟩
 .exact congrArg V.int (uo k).symm
 .exact nomatch (gB k).1
 .exact(Lr B aw k).elim
 .obtain⟨_,_,e⟩:=gS k;exact nomatch e
theorem Lu{s:Str}{b:V}{n e:Nat}(ao:VK n e b)(k:bI H b=some (.str s)): .str s=b:=by
 rcases ao with ⟨j,h⟩|s|r|⟨bq,l,q,h⟩
 .exact nomatch Option.some.inj k
 .exact congrArg V.str (PyData.str.inj (gB k).1)
 .obtain⟨_,e⟩:=rJ k;exact nomatch e
 .obtain⟨_,_,e⟩:=gS k;exact nomatch e
theorem Lv(B:H.bld=true->H.dyn=[]){r b:V}{x:PyData}{e:Nat}(ao:VK H.kb e b)(h:bI H (.ty r)=some x)(k:bI H b=some x): .ty r=b:=by
 obtain⟨i,q⟩:=rJ h
 rw[q] at h k
 rcases ao with ⟨j,bt⟩|s|d7|⟨bq,l,q,ag⟩
 .rw[uo k] at bt;exact(Lr B bt h).elim
 .exact nomatch (gB k).1
 .exact congrArg V.ty (YA h k)
 .obtain⟨_,_,e⟩:=gS k;exact nomatch e
theorem YB{n e:Nat}{b:V}{m:List PyData}(ao:VK n e b)(k:bI H b=some (.tuple m)):∃bq l,b= .tup l/\(∀x∈l,V.key n bq x=true)/\bX H l=some m:=by
 rcases ao with ⟨j,h⟩|s|r|⟨bq,l,q,h⟩
 .exact nomatch Option.some.inj k
 .exact nomatch (gB k).1
 .obtain⟨_,e⟩:=rJ k;exact nomatch e
 .obtain⟨jl,av,e⟩:=gS k
  exact⟨bq,l,rfl,h,PyData.tuple.inj e▸av⟩
theorem YC(B:H.bld=true->H.dyn=[]):∀{d:Nat}(a b:V){e:Nat}{x:PyData},V.key H.kb d a=true->V.key H.kb e b=true->bI H a=some x->bI H b=some x->a=b:=by
 intro d
 induction d with
 |zero=>
  intro a b e x aw ao h k
  rcases jm aw with ⟨i,hi⟩|s|r|⟨bq,l,q,ag⟩
  .exact Ls B hi (jm ao) (k.trans h.symm)
  .exact Lu (jm ao) ((gB h).1▸k)
  .exact Lv B (jm ao) h k
  .exact nomatch q
 |succ d bb=>
  intro a b e x aw ao h k
  rcases jm aw with ⟨i,hi⟩|s|r|⟨bq,l,q,ag⟩
  .exact Ls B hi (jm ao) (k.trans h.symm)
  .exact Lu (jm ao) ((gB h).1▸k)
  .exact Lv B (jm ao) h k
  .injection q with q
   obtain⟨m,av,jg⟩:=gS h
   rw[jg] at k
   obtain⟨f,cK,e1,aa,ah⟩:=YB (jm ao) k
   rw[e1,Lq (λx hx y aY d aQ iJ=>bb x y (q▸ag x hx) aY aQ iJ) aa av ah]
section
theorem Lw{v:V}(h:gw v=true):∃l,v= .tup l:=by
 rcases v
 case tup=>exact⟨_,rfl⟩
 all_goals exact nomatch h
inductive RowVal (im:bA) (h:Heap) (v:Value) (d:PyData):Prop
 |mk (a:Addr) (e:v= .ref a) (r:Rd im (.ref a) d) (k:fG 6 d=true) (q:Rd h.get? (.ref a) d)
theorem YD{im:bA}{row:V}{v:Value}(hi:∀a o,im a=some o->h.get? a=some o)(a1:gw row=true)(aj:V.key H.kb 4 row=true)(ap:bI H row=some d)(aq:Rd im v d):RowVal im h v d:=by
 have kd:=De aj (by decide:4<=6) ap
 obtain⟨l,e⟩:=Lw a1
 rw[e] at ap
 obtain⟨m,av,e⟩:=gS ap
 rw[e] at aq kd |-
 obtain⟨a,o,vs,n,e,q⟩:=aq.gN
 rw[e] at aq
 exact⟨a,e,aq,kd,aq.mono hi⟩
open Classical in
inductive IdxDict (prog:Program) (w:World) (H:T) (g:Gh) (h:Heap) (row:V) (d:PyData):Prop
 |mk (a4:List (PyData×Addr×Value)) (D:h.DictOfH (kB prog w) g.ta.idx a4) (c:bX H (H.base++H.dyn)=some (a4.map (·.1))) (i:∀(i:Nat)(x:PyData×Addr×Value),a4[i]? =some x->∃t,x.2.2= .int i t)
   (r:∀x∈a4,Rd g.im (.ref x.2.1) x.1/\fG 6 x.1=true)
   (y:∀(i:Nat),(H.base++H.dyn)[i]? =some row->∃p t,atKey a4 d=some p/\p.2= .int i t) (no:row∉H.base++H.dyn->atKey a4 d=none)
open Classical in
theorem Df(C:Cfg prog w H g s.heap){row:V}(a1:gw row=true)(aj:V.key H.kb 4 row=true)(ap:bI H row=some d):IdxDict prog w H g s.heap row d:=by
 obtain⟨o,es,ca,a4,aa,ah,aC,bC,ee,mF,lB,jX⟩:=C.tok.idx
 refine⟨a4,⟨o,es,ca,aa,ah,aC,bC,λx hx=>⟨(mF x hx).1.mono C.bn,(mF x hx).2⟩,ee⟩,lB,jX,mF,λi hi=>?_,λaX=>?_⟩
 .obtain⟨e,cL,w7⟩:=w0 lB hi
  rw[ni] at cL
  obtain⟨x,hx,q⟩:=nk cL
  obtain⟨t,a1⟩:=jX i x hx
  have q:x.1=d:=q.trans (Option.some.inj (w7.symm.trans ap))
  exact⟨x.2,t,atKey_of_get ee (by rw [hx,<-q]),a1⟩
 .refine atKey_none_of_get λj p bt=>aX ?_
  have ag:j<(a4.map (·.1)).length:=by rw [eQ];exact(List.getElem?_eq_some_iff.mp bt).1
  rw[rF lB] at ag
  obtain⟨e,cL,w7⟩:=w0 lB (oI ag)
  rw[ni,bt] at cL
  rw[<-Option.some.inj cL] at w7
  have av:=zQ ag
  rw[YC C.ok.bld _ _ aj (C.ok.key _ av).2 ap w7]
  exact av
theorem YE(aL:H.Ok){row:V}(aj:V.key H.kb 4 row=true)(ap:bI H row=some d)(h:dL row H.base 0=none):row∉H.base:=t8 (Lp aL aj ap) h
open Classical in
theorem YF(C:Cfg prog w H g s.heap)(R:Room A n){row r:V}{v:Value}{dv:Value}(h:H.find row=some r)(al:Val prog w H g g.im v row)(aQ:Val prog w H g g.im dv (.int (-1)))(G:Got prog w H g s Q r):
  wpAny (model prog w) A (call (.builtin "dict.get") [.ref g.ta.idx,v,dv]) Q E s:=by
 obtain⟨ap,h⟩:=br h
 obtain⟨ap,ao⟩:=aK ap
 obtain⟨ap,av⟩:=aK ap
 obtain⟨a1,aj⟩:=aK ap
 have av:rl row=false:=by rcases e:rl row with _|_;rfl;rw[e] at av;exact nomatch av
 obtain⟨d,lC,aq⟩:=al.flat (λ_ _ e=>e) (by obtain ⟨l,e⟩:=Lw a1;rw[e];rfl)
 obtain⟨a,e,ge,kd,gf⟩:=YD C.bn a1 aj lC aq
 obtain⟨a4,D,eT,cP,jj,mG,kE⟩:=Df C a1 aj lC
 rw[e]
 refine call_meetsIn zJ D.typeIs Im (Ik _ _ _) (meetsH_dict_get_default (kB prog w) g.ta.idx a C.tok.k2 dv) ⟨KQ R (by decide:8<=20),d,a4,⟨gf,kd⟩,D,?_⟩
 rw[<-Option.some.inj h] at G
 rcases a6:dL row H.base 0 with _|i<;>rw[a6] at G
 .have aX:row∉H.base++H.dyn:=λq=>(List.mem_append.mp q).elim (YE C.ok aj lC a6) λq=>by rw [C.ok.met _ q] at av;exact nomatch av
  rw[kE aX];exact G.here C aQ _
 .obtain⟨k,e,hx⟩:=t7 a6
  rw[mf] at e
  obtain⟨p,t,aa,ah⟩:=mG k (by rw [mc (List.getElem?_eq_some_iff.mp hx).1];exact hx)
  rw[aa]
  show Q p.2 _
  rw[ah,<-e];exact G.here C (.int _ _) _
end
theorem Lx{α:Type}:∀{ps:List Str}{vs:List α},x∉ps->(ps.zip vs).lookup x=none
 |[],_,_=>rfl
 |_::_,[],_=>rfl
 |p::ps,v::vs,h=>by
  rw[tr,ha,show (x==p)=false from beq_eq_false_iff_ne.mpr λe=>h (e▸ .head _)]
  exact Lx λm=>h (.tail _ m)
theorem w8{α:Type}:∀{ps:List Str}{vs:List α},x∈ps->ps.length<=vs.length->∃v,(ps.zip vs).lookup x=some v
 |_::_,[],_,h=>absurd h (zK _)
 |p::ps,v::vs,h,k=>by
  rw[tr,ha]
  rcases e:x==p with _|_
  .exact w8 ((List.mem_cons.mp h).resolve_left (ne_of_beq_false e)) (zF k)
  .exact⟨v,rfl⟩
theorem Ly{α:Type}:∀{ps:List Str}{vs:List α},ps.Nodup->ps.length=vs.length->∀(f:Str->Option α),(∀x∈ps,f x=(ps.zip vs).lookup x)->(ps.filterMap λn=>(f n).map (n,·))=ps.zip vs
 |[],[],_,_,_,_=>rfl
 |p::ps,v::vs,aX,ag,f,a6=>by
  have aX:=List.nodup_cons.mp aX
  have aa:f p=some v:=by rw [a6 p (.head _),tr,ha,beq_self_eq_true]
  rw[List.filterMap_cons,aa]
  refine congrArg (List.cons _) (Ly aX.2 (Nat.succ.inj ag) f λx hx=>?_)
  rw[a6 x (.tail _ hx),tr,ha,show (x==p)=false from beq_eq_false_iff_ne.mpr λe=>aX.1 (e▸hx)]
theorem ur{α:Type}:∀(a b:List (Str×α)),(a++b).lookup x=(a.lookup x).or (b.lookup x)
 |[],b=>rfl
 |(k,v)::a,b=>by
  rw[tu,ha,ha]
  rcases x==k with _|_
  .exact ur a b
  .rfl
noncomputable def mH{α:Type}(b:List (Str×α))(p:Str×α):List (Str×α):=if (b.lookup p.1).isNone=true then b++[(p.1,p.2)] else b
theorem YG{α:Type}(b:List (Str×α))(p:Str×α):(mH b p).lookup x=(b.lookup x).or ([p].lookup x):=by
 unfold mH
 rcases e:(b.lookup p.1).isNone with _|_
 .rw[if_neg nofun]
  rcases h:b.lookup x with _|v
  .show none=[p].lookup x
   rw[ha,beq_eq_false_iff_ne.mpr λq=>by rw [<-q,h] at e;exact nomatch e];rfl
  .rfl
 .rw[if_pos rfl];exact ur _ _
theorem Lz{α:Type}:∀(l b:List (Str×α)),(l.foldl mH b).lookup x=(b.lookup x).or (l.lookup x)
 |[],b=>(Option.or_none).symm
 |p::l,b=>by
  rw[v9,Lz l,YG,Option.or_assoc]
  exact congrArg _ (ur [p] l).symm
def lD(ps:List Str)(b2 dv:List Value):List (Str×Value):=ps.zip (b2++dv.drop (dv.length - (ps.length - b2.length)))
inductive Cut3 (ps:List Str) (b2 dv:List Value):Prop
 |mk (a b c:List Str) (d e:List Value) (aa:ps=a++b++c) (ah:dv=d++e) (e1:(a++b).length=b2.length) (e2:b.length=d.length) (e3:c.length=e.length)
theorem YH{ps:List Str}{b2 dv:List Value}(al:b2.length<=ps.length)(cs:ps.length - b2.length<=dv.length)(bi:dv.length<=ps.length):Cut3 ps b2 dv:=by
 obtain⟨p,aS⟩:=zE al
 rw[aS,tl] at cs
 obtain⟨k,aj⟩:=zE cs
 rw[aS,aj,jG p k] at bi
 obtain⟨a,aw⟩:=zE (Nat.le_of_add_le_add_right bi)
 have cg:(ps.take a).length=a:=zH (by rw [aS,aw,qP];exact tz _ _)
 have ch:(ps.drop a).length=k+p:=by rw [v8,aS,aw,qP,ts]
 have nO:((ps.drop a).take k).length=k:=zH (ch▸eZ _ _)
 refine⟨ps.take a,(ps.drop a).take k,(ps.drop a).drop k,dv.take k,dv.drop k,?_,(v4 _ _).symm,?_,?_,?_⟩
 .rw[iA,v4,v4]
 .rw[d5,cg,nO,aw,jG]
 .rw[nO,zH (by rw [aj];exact tz _ _)]
 .rw[v8,ch,tl,v8,aj,ts]
section
variable {a b c:List Str}{b2 d e:List Value}
theorem LA(e1:(a++b).length=b2.length):(a++b++c).zip b2=(a++b).zip b2:=by
 have:=zU (l₁:=a++b) (r₁:=c) (l₂:=b2) (r₂:=[]) e1
 rwa [eh,List.zip_nil_right,eh] at this
theorem YI(aX:(a++b++c).Nodup)(e1:(a++b).length=b2.length)(e3:c.length=e.length):
  ((a++b++c).filterMap λn=>(List.lookup n ((b.zip d++c.zip e).foldl mH ((a++b).zip b2))).map (n,·))=(a++b++c).zip (b2++e):=by
 refine Ly aX (by rw [d5,e1,d5,e3]) (λn=>List.lookup n _) λx hx=>?_
 rw[Lz,zU e1,ur,ur]
 rcases h0:((a++b).zip b2).lookup x with _|v
 .have YJ:x∉b:=λq=>by
   obtain⟨v,fK⟩:=w8 (vs:=b2) (zI a q) (dW e1)
   exact nomatch h0.symm.trans fK
  rw[Lx YJ];rfl
 .rfl
theorem YK(e1:(a++b).length=b2.length):((a++b++c).take a.length).filter (λn=>(List.lookup n ((a++b).zip b2)).isNone)=[]:=by
 rw[List.filter_eq_nil_iff,iA,List.take_left]
 intro x hx
 obtain⟨v,fK⟩:=w8 (vs:=b2) (jD b hx) (dW e1)
 rw[fK];exact nofun
theorem YL(e1:(a++b).length=b2.length)(e3:c.length=e.length):lD (a++b++c) b2 (d++e)=(a++b++c).zip (b2++e):=by
 unfold lD
 have:(d++e).length - ((a++b++c).length - b2.length)=d.length:=by rw [d5 (as:=a++b),e1,tl,e3,d5,ts]
 rw[this,zX]
end
section
variable {M:Model}
theorem LB{f:Str×Value->List (Str×Value)->Sem (ForInStep (List (Str×Value)))}(a6:∀p r,f p r=pure (.yield (mH r p))){Q:List (Str×Value)->Shared->Prop}:∀(l b:List (Str×Value)),Q (l.foldl mH b) s->wpAny M A (forIn l b f) Q E s
 |[],_,h=>wpAny_pure h
 |p::l,b,h=>by
  rw[oN,a6]
  exact wpAny_bind (wpAny_pure (LB a6 l _ h))
theorem Dg{α:Type}{c:Prop}[Decidable c]{t e:Sem α}{Q:α->Shared->Prop}(h:¬c)(k:wpAny M A e Q E s):wpAny M A (if c then t else e) Q E s:=by rw [if_neg h];exact k
structure BindF (ps:List Str) (b2 dv Dh:List Value):Prop where
 f3:¬(decide (b2.length>ps.length)&&none.isNone (α:=Arg))=true
 ms:¬(!((ps.take (ps.length - Dh.length)).filter λn=>(List.lookup n (ps.zip b2)).isNone).isEmpty)=true
 res:(((ps++[]).filterMap λn=>(List.lookup n (((ps.drop (ps.length - Dh.length)).zip Dh).foldl mH (ps.zip b2))).map (n,·)))=lD ps b2 dv
theorem YM{ps:List Str}{b2 dv:List Value}(aX:ps.Nodup)(al:b2.length<=ps.length)(cs:ps.length - b2.length<=dv.length)(bi:dv.length<=ps.length):BindF ps b2 dv (dv.drop (dv.length - ps.length)):=by
 rw[Nat.sub_eq_zero_of_le bi,List.drop_zero]
 obtain⟨a,b,c,d,e,bU,bZ,e1,e2,e3⟩:=YH al cs bi
 rw[bU,bZ]
 rw[bU] at aX
 have YN:(a++b++c).length=b2.length+e.length:=by rw [d5,e1,e3]
 have fH:(a++b++c).length - (d++e).length=a.length:=by rw [iA,d5,d5 (as:=b),e2,e3,d5,ts]
 have us:((a++b++c).drop a.length).zip (d++e)=b.zip d++c.zip e:=by
  rw[iA,zX]
  exact zU e2
 refine⟨by rw [YN,decide_eq_false (Nat.not_lt.mpr (eZ _ _))];exact nofun,?_,?_⟩
 .rw[fH,LA e1,YK e1];exact nofun
 .rw[eh,fH,LA e1,us,YI aX e1 e3,<-YL (d:=d) e1 e3]
theorem YO(p:Str×Value)(r:List (Str×Value)):(if (List.lookup p.1 r).isNone=true then (pure (.yield (r++[(p.1,p.2)])):Sem (ForInStep (List (Str×Value)))) else pure (.yield r))=pure (.yield (mH r p)):=by
 unfold mH
 split<;>rfl
theorem YQ{b4:FuncData}{b2 dv:List Value}(aa:b4.params.posonlyargs=[])(ah:b4.params.kwonlyargs=[])(aC:b4.params.vararg=none)(bC:b4.params.kwarg=none)(aX:(b4.params.args.map (·.arg)).Nodup)(aQ:∀(Q:Option (Array Value)->Shared->Prop),(∀r,(r.getD #[]).toList=dv->Q r s)->wpAny M A (seqItems? b4.defaults) Q E s)(al:b2.length<=b4.params.args.length)(cs:b4.params.args.length - b2.length<=dv.length)(bi:dv.length<=b4.params.args.length){Q:List (Str×Value)->Shared->Prop}(ak:Q (lD (b4.params.args.map (·.arg)) b2 dv) s):wpAny M A (bindArgs b4 ⟨b2,[]⟩) Q E s:=by
 have eB:(b4.params.args.map (·.arg)).length=b4.params.args.length:=eQ ..
 rw[<-eB] at al cs bi
 have F:=YM aX al cs bi
 obtain⟨nm,anj,p⟩:=b4
 obtain⟨nn,pz,eK,z8,kd,ut,uu⟩:=p
 change nn=[] at aa
 change z8=[] at ah
 change eK=none at aC
 change ut=none at bC
 subst aa ah aC bC
 refine wpAny_bind (wpAny_pure ?_)
 refine wpAny_bind (aQ _ λr aq=>?_)
 subst aq
 refine Dg F.f3 (Dg F.ms ?_)
 refine wpAny_bind (LB YO _ _ ?_)
 refine wpAny_bind (wpAny_pure ?_)
 refine Dg nofun (wpAny_pure ?_)
 exact F.res▸ak
end
theorem LC(x y:Str):(x==y)=a9 y x:=(Cz x y).symm.trans (by rw [i5,sEq_iff,sEq_iff];exact⟨Eq.symm,Eq.symm⟩)
theorem rK:∀(l:List (Str×NameKind))(x:Str),lk l x=l.lookup x
 |[],_=>rfl
 |(y,k)::r,x=>by
  rw[ha,LC]
  show cond (a9 y x) (some k) (lk r x)=_
  rcases a9 y x with _|_
  .exact rK r x
  .rfl
structure ScopeOk (sc:Scope):Prop where
 kind:sc.kind= .function
 co:sc.isCoroutine=false
 gen:sc.isGenerator=false
 nd:((cellsFrom 0 sc.names []).map (·.1)).Nodup
 cell:∀x,lk sc.names x=some .cell->x∈(cellsFrom 0 sc.names []).map (·.1)
 good:∀x k,lk sc.names x=some k->(k= .local\/k= .cell\/k= .globalImplicit)/\x≠"__debug__"/\x≠"__classdict__"/\x≠dM
theorem LD{α:Type}:∀{l:List (Str×α)},x∈l.map (·.1)->∃a,l.lookup x=some a
 |(k,v)::r,h=>by
  rw[ha]
  rcases e:x==k with _|_
  .exact LD ((List.mem_cons.mp h).resolve_left (ne_of_beq_false e))
  .exact⟨v,rfl⟩
theorem Di(S:ScopeOk sc)(n:Nat)(h:lk sc.names x=some .cell):∃a,(cellsFrom n sc.names []).lookup x=some a:=by
 refine LD ?_
 rw[cellsFrom_names sc.names n 0 [] [] rfl]
 exact S.cell x h
theorem LF(S:ScopeOk sc)(n:Nat):((cellsFrom n sc.names []).map (·.1)).Nodup:=by
 rw[cellsFrom_names sc.names n 0 [] [] rfl];exact S.nd
theorem LG{α:Type}{r:List (Str×α)}(h:x∉r.map (·.1)):r.lookup x=none:=by
 rcases q:r.lookup x with _|u
 .rfl
 .exact absurd (List.mem_map.mpr ⟨_,mem_of_lookup q,rfl⟩) h
theorem rL{k:Str->Option NameKind}(hx:k x=some .local):∀{bs:List (Str×Value)}(m:Str->Option Value),(bs.map (·.1)).Nodup->bindL k bs m x=(bs.lookup x).or (m x)
 |[],m,_=>rfl
 |(n,v)::r,m,h=>by
  have h:=List.nodup_cons.mp h
  rw[bindL,rL hx _ h.2,ha]
  rcases e:x==n with _|_
  .refine congrArg _ ?_
   split
   .exact if_neg (ne_of_beq_false e)
   .rfl
  .have:=eq_of_beq e
   subst this
   rw[LG h.1,if_pos hx];exact if_pos rfl
theorem uv{k:Str->Option NameKind}(hx:k x≠some .local):∀{bs:List (Str×Value)}(m:Str->Option Value),(bs.map (·.1)).Nodup->bindC k bs m x=(bs.lookup x).or (m x)
 |[],m,_=>rfl
 |(n,v)::r,m,h=>by
  have h:=List.nodup_cons.mp h
  rw[bindC,uv hx _ h.2,ha]
  rcases e:x==n with _|_
  .refine congrArg _ ?_
   split
   .rfl
   .exact if_neg (ne_of_beq_false e)
  .have:=eq_of_beq e
   subst this
   rw[LG h.1,if_neg hx];exact if_pos rfl
def w9(ps:List Str)(aU:List V):am:=(ps.zip aU).map λq=>(q.1,q.2,false)
section
theorem LH{o:Bool}:∀{ps:List Str}{aU:List V}{vs:List Value},Vals prog w H g vs aU->a2 (w9 ps aU) x=some (u,o)->
  o=false/\∃v,(ps.zip vs).lookup x=some v/\Val prog w H g g.im v u
 |[],_,_,_,h=>aI h
 |_::_,[],_,_,h=>aI h
 |p::ps,y::aU,_,q,h=>by
  obtain⟨v,vs,e,a,b⟩:=q.dat
  rw[e,tr,ha,LC]
  rcases eA h with ⟨e,h⟩|⟨e,h⟩<;>rw[e]
  .exact pI (Option.some.inj h▸rfl:some (y,false)=some (u,o)) (P:=λu o=>o=false/\∃f2,some v=some f2/\Val prog w H g g.im f2 u) ⟨rfl,v,rfl,a⟩
  .exact LH b h
theorem LI:∀{ps:List Str}{aU:List V},x∉ps->a2 (w9 ps aU) x=none
 |[],_,_=>rfl
 |_::_,[],_=>rfl
 |p::ps,y::aU,h=>by
  show cond (a9 p x) _ (a2 (w9 ps aU) x)=none
  rcases e:a9 p x with _|_
  .exact LI λm=>h (.tail _ m)
  .exact absurd (sEq_iff.mp e▸ .head _) h
end
noncomputable def dw(L:Addr)(cells:List (Str×Addr))(a:Addr):Option Ro:=
 if a=L then some .loc else (cells.find? λp=>p.2==a).map λp=> .cell p.1
theorem LJ{L:Addr}{cells:List (Str×Addr)}(aS:cells.Pairwise λx y=>x.2≠y.2)(eJ:∀p∈cells,p.2≠L)(h:cells.lookup x=some a):dw L cells a=some (.cell x):=by
 have av:=mem_of_lookup h
 unfold dw
 rw[if_neg (eJ _ av)]
 rcases e:cells.find? λp=>p.2==a with _|p
 .exact absurd (beq_self_eq_true a) (List.find?_eq_none.mp e _ av)
 .have ah:p.2=a:=eq_of_beq (a:=p.2) (List.find?_some (p:=λp:Str×Addr=>p.2==a) e)
  rw[e]
  exact congrArg (λx=>some (Ro.cell x)) (name_of_addr aS (c:=a) (by rw [<-ah];exact Ih e) av)
theorem xa{L:Addr}{cells:List (Str×Addr)}{r:Ro}(h:dw L cells a=some r):a=L\/∃x,(x,a)∈cells:=by
 unfold dw at h
 split at h
 .exact .inl (by assumption)
 .obtain⟨p,aS,_⟩:=nk h
  have ah:p.2=a:=eq_of_beq (a:=p.2) (List.find?_some (p:=λp:Str×Addr=>p.2==a) aS)
  exact .inr ⟨p.1,by rw [<-ah];exact Ih aS⟩
section
theorem YR(S:ScopeOk sc)(aa:env.scope=sc)(ah:env.globals=mainGlobals)(aC:env.builtins=builtinsNs)(bC:env.cells=cellsFrom n sc.names []):EnvR sc env:=by
 have aj:∀x,env.kindOf x=lk sc.names x:=λx=>by rw [rK];unfold Env.kindOf;rw[aa]
 refine⟨by rw [aa];exact S.kind,ah,aC,λx h=>by rw [aj,h],λx h=>⟨by rw [aj,h],?_⟩,λx h=>?_,λx h=>by rw [aj,h],λx k h=>⟨(S.good x k h).2.1,(S.good x k h).2.2.1⟩⟩
 .rw[bC];exact Di S n h
 .obtain⟨h',_⟩:=S.good x _ h
  rcases h' with h'|h'|h'<;>exact nomatch h'
inductive NewFr (prog:Program) (w:World) (H:T) (g:Gh) (h h':Heap) (env:Env) (J:am) (ai:Addr->Option Ro):Prop
 |mk (F:FrR prog w H g h' env J ai) (C:Cfg prog w H g h') (X:Ext g h g h') (n:∀a r,ai a=some r->h.get? a=none)
theorem LK{s c1:Shared}(C:Cfg prog w H g s.heap)(S:ScopeOk sc)(_h1:env.scope=sc)(bC:env.cells=cellsFrom n sc.names []){bs:List (Str×Value)}(ao:(bs.map (·.1)).Nodup)(x:InCallC s env.locals (bindL env.kindOf bs λ_=>none) env.cells (bindC env.kindOf bs λ_=>none) c1)(iO:∀y u o,a2 J y=some (u,o)->o=false/\∃v,bs.lookup y=some v/\Val prog w H g g.im v u)(xc:a2 J dM=none):
  NewFr prog w H g s.heap c1.heap env J (dw env.locals env.cells):=by
 have eJ:∀p∈env.cells,p.2≠env.locals:=λp aS e=>qY _ (e▸x.above p.1 p.2 aS)
 have uw:∀a,env.locals<=a->s.heap.get? a=none:=λa aw=>by
  rcases e:s.heap.get? a with _|o
  .rfl
  .exact absurd (gs e) (Nat.not_lt.mpr (aT x.toInCall.fresh aw))
 have aq:∀a r,dw env.locals env.cells a=some r->s.heap.get? a=none:=λa r h=>
  (xa h).elim (λe=>uw _ (dW e.symm)) λ⟨y,aY⟩=>uw _ (jH (x.above y a aY))
 have nd:(env.cells.map (·.1)).Nodup:=by rw [bC];exact LF S n
 have al:∀{y u o},a2 J y=some (u,o)->∃v,(bs.lookup y).or none=some v/\Hold prog w H g c1.heap (dw env.locals env.cells) y v u o:=λ{y u o} aY=>by
  obtain⟨e,v,ee,mF⟩:=iO y u o aY
  rw[e,ee];exact⟨v,rfl,mF⟩
 refine⟨⟨⟨_,x.toInCall.ns,λy u o aj aY=>?_⟩,λy a aY=>⟨_,x.cell y a aY,LJ x.apart eJ aY,λu o aj bG=>?_⟩,if_pos rfl,λa r h=>?_,xc⟩,C.grow x.toInCall.keep,Ext.grow g x.toInCall.keep,aq⟩
 .rw[rL aj _ ao];exact al aY
 .rw[uv (by rcases aj with aj|aj<;>rw[aj]<;>exact nofun) _ ao];exact al bG
 .have aX:=aq a r h
  refine⟨C.g8 aX,λq=>(C.vX q).elim λo aG=>aI (aX.symm.trans aG),?_⟩
  rcases xa h with e|⟨y,aY⟩
  .obtain⟨o,_,_,aG,_⟩:=x.toInCall.ns;exact⟨o,e▸aG⟩
  .obtain⟨o,aG,_⟩:=x.cell y a (lookup_of_mem_nodup nd aY)
   exact⟨o,aG⟩
end
structure ExtS (ai:Addr->Option Ro) (g:Gh) (h:Heap) (au:Gh) (h':Heap):Prop where
 ta:au.ta=g.ta
 im:∀a o,g.im a=some o->au.im a=some o
 new:∀a o,h.get? a=some o->au.im a=g.im a
 old:∀a o,h.get? a=some o->a∉g.bW->ai a=none->h'.get? a=some o
 dd:DdTo g au h
 live:∀a o,h.get? a=some o->∃b9,h'.get? a=some b9
theorem Ext.toS(x:Ext g h au h')(ai:Addr->Option Ro):ExtS ai g h au h':=⟨x.ta,x.im,x.new,λa o e m _=>x.old a o e m,x.dd,x.live⟩
theorem ExtS.bW(x:ExtS ai g h au h'){o:Obj}(aw:h.get? a=some o):a∈au.bW↔a∈g.bW:=x.dd.mem x.ta aw
theorem ExtS.le(x:ExtS ai g h au h'):g.le au:=⟨x.ta,x.im,x.dd.le⟩
def Grow(ai:Addr->Option Ro)(h:Heap)(et:Addr->Option Ro):Prop:=∀a r,et a=some r->(∃d7,ai a=some d7)\/h.get? a=none
theorem Grow.refl(ai:Addr->Option Ro)(h:Heap):Grow ai h ai:=λ_ r e=> .inl ⟨r,e⟩
theorem Grow.no{ai et:Addr->Option Ro}(k:Grow ai h et){o:Obj}(aw:h.get? a=some o)(a6:ai a=none):et a=none:=by
 rcases e:et a with _|r
 .rfl
 .exact(k a r e).elim (λq=>q.elim λd7 q=>aI (a6.symm.trans q)) λq=>aI (q.symm.trans aw)
theorem ExtS.trans{ai et:Addr->Option Ro}{g au hF:Gh}{h h' jP:Heap}(x:ExtS ai g h au h')(y:ExtS et au h' hF jP)(e8:Grow ai h et):ExtS ai g h hF jP:=
 ⟨y.ta.trans x.ta,λa o e=>y.im a o (x.im a o e),λa o aw=>(x.live a o aw).elim λb9 gc=>(y.new a b9 gc).trans (x.new a o aw),
  λa o aw aX a6=>y.old a o (x.old a o aw aX a6) (λq=>aX ((x.bW aw).mp q)) (e8.no aw a6),x.dd.trans y.dd x.live,λa o e=>(x.live a o e).elim λb9 gc=>y.live a b9 gc⟩
theorem Grow.trans{ai et LL:Addr->Option Ro}(a:Grow ai h et)(x:ExtS ai g h au h')(b:Grow et h' LL):Grow ai h LL:=λc r e=>
 (b c r e).elim (λq=>q.elim λd7 q=>a c d7 q) λq=> .inr (gU x.live q)
section
variable (prog:Program)(w:World)
def ic(g:Gh)(h:Heap)(ai:Addr->Option Ro):Prop:=∀a r,ai a=some r->Sep1 g h a
def Dj(O:T)(g:Gh)(h:Heap)(env:Env)(ai:Addr->Option Ro)(J:am):Fl->Flow->Prop
 | .next,f=>f= .next/\FrR prog w O g h env J ai
 | .ret v,f=>∃u,f= .ret u/\Seen prog w O g h ai u v
inductive OwnAt (env:Env) (h:Heap) (x:Str) (a:Addr):Prop
 |loc (k:env.kindOf x=some .local) (m:Str->Option Value) (n:h.Ns env.locals m) (e:m x=some (.ref a))
 |cell (k:env.kindOf x=some .cell) (c:Addr) (l:env.cells.lookup x=some c) (o:h.IsCell c (some (.ref a)))
def YS(env:Env)(cB:List Stmt)(h h':Heap):Prop:=∀y a,kv y cB=false->OwnAt env h y a->OwnAt env h' y a
inductive FnDfl (h0:Heap) (v:Value) (dfl:List V):Prop
 |no (e1:v= .none) (e2:dfl=[])
 |yes (t:Addr) (Dk:Obj) (jV:Array Value) (n:Nat) (ds:List PyData) (e:v= .ref t) (h:h0.get? t=some Dk) (d:Dk.data= .seq jV n) (r:RdL h0.get? jV.toList ds) (c:∀H,bX H dfl=some ds)
inductive FnEx (h0:Heap) (K:Frag) (fn:Fn) (f:Value):Prop
 |mk (a:Addr) (o:Obj) (b4:FuncData) (e:f= .ref a) (k:keepIn K (.ref a)=true) (h:h0.get? a=some o) (d:o.data= .func b4) (b:b4.body= .stmts fn.bd) (sc:b4.scope=fn.sc) (xe:b4.globals=mainGlobals) (cl:b4.closure=[]) (LM:b4.builtins=builtinsNs)
   (co:h0.CodeRec b4.code b4.qualname) (fm:b4.params.posonlyargs=[]) (gF:b4.params.kwonlyargs=[]) (lE:b4.params.vararg=none) (lF:b4.params.kwarg=none) (ps:b4.params.args.map (·.arg)=fn.ps) (df:FnDfl h0 b4.defaults fn.dfl)
structure FnOk (h0:Heap) (K:Frag) (fn:Fn) (f:Value):Prop where
 ex:FnEx h0 K fn f
 sc:ScopeOk fn.sc
 nd:fn.ps.Nodup
 par:∀x∈fn.ps,lk fn.sc.names x=some .local\/lk fn.sc.names x=some .cell
 hY:fn.dfl.length<=fn.ps.length
def lG(ai:Addr->Option Ro)(H:T)(g:Gh)(s:Shared)(env:Env)(cB:List Stmt)(bg:am)(O:T)(bw:Fl)(Q:Flow->Shared->Prop):Prop:=
 ∀au h' aF et f,ExtS ai g s.heap au h'->H.bP O->Cfg prog w O au h'->Grow ai s.heap et->ic au h' et->Dj prog w O au h' env et bg bw f->YS env cB s.heap h'->Q f {s with heap:=h',toks:=aF}
end
section
variable (prog:Program)(w:World)(G:Gl)(ta:Ta)
def fb(n:Nat):Prop:=∀(c:Cx)(J:am)(cB:List Stmt)(H:T)(bw:Fl)(bg:am)(O:T),bv G n c J cB H=some (bw,bg,O)->O.cnt<=ba->
 ∀(A:Around)(env:Env)(ai:Addr->Option Ro)(g:Gh)(s:Shared)(Q:Flow->Shared->Prop)(E:cI),
  Room A n->g.ta=ta->EnvR c.sc env->Cfg prog w H g s.heap->FrR prog w H g s.heap env J ai->lG prog w ai H g s env cB bg O bw Q->wpAny (model prog w) A (execs cB env) Q E s
def nP(K:Frag)(n:Nat):Prop:=∀(fn:Fn)(as:List V)(H:T)(v:V)(O:T),bK G n fn as H=some (v,O)->O.cnt<=ba->∀(f:Value),FnOk ta.h0 K fn f->
 ∀(A:Around)(g:Gh)(s:Shared)(b2:List Value)(Q:cI)(E:cI),Room A n->g.ta=ta->Cfg prog w H g s.heap->Vals prog w H g b2 as->ToV prog w H g s O v Q->wpAny (model prog w) A (call f b2) Q E s
end
section
theorem DdTo.add(d:DdTo g au h){o:Obj}:DdTo g (au.add a o) h:=by
 obtain⟨m,e,n⟩:=d
 exact⟨m,e,n⟩
theorem xf(ap:hE u=true)(aX:g.im a=none)(al:Val prog w H g h.get? (.ref a) u):∃o,h.get? a=some o/\Val prog w H (g.add a o) (g.add a o).im (.ref a) u:=by
 have key:∀o,h.get? a=some o->Val prog w H (g.add a o) (g.add a o).im (.ref a) u:=λo e=>al.seen (.refl H) (Gh.hu aX) (λq bq=>Option.some.inj (e.symm.trans bq)▸Gh.jA g a o) ap
 rcases u
 case list=>
  obtain⟨b,vs,n,ds,e,ah,aC,bC⟩:=al
  injection e with e
  exact⟨_,e▸ah,key _ (e▸ah)⟩
 case dict=>
  obtain⟨b,o,e,ah,aC,bC⟩:=al
  injection e with e
  exact⟨o,e▸ah,key _ (e▸ah)⟩
 all_goals exact nomatch ap
theorem Cfg.freeze(C:Cfg prog w H g h){o:Obj}(aX:g.im a=none)(av:a∉g.bW)(aG:h.get? a=some o):Cfg prog w H (g.add a o) h:=
 C.keep rfl rfl (Gh.hu aX) (λb ao=>(Gh.g7 λe:b=a=>av (e▸ao)).trans (C.tok.out b ao)) (λ_ _ _ e=>e) λb q e=>
  (Gh.oH e).elim (λx=>x.1▸x.2▸aG) (C.bn b q)
theorem ank(C:Cfg prog w H g h)(N:g.ta.h0.NoLimit):h.NoLimit:=N.keeps λa o e=>C.bn a o (C.base a o e)
theorem Vals.drop:∀(k:Nat){vs:List Value}{aU:List V},Vals prog w H g vs aU->Vals prog w H g (vs.drop k) (aU.drop k)
 |0,_,_,h=>h
 |k+1,_,[],h=>by rw [h.dat];exact .nil
 |k+1,_,_::_,h=>by obtain ⟨v,vs,e,a,r⟩:=h.dat;rw[e];exact Vals.drop k r
theorem Vals.append{eI:List Value}{cy:List V}(k:Vals prog w H g eI cy){vs:List Value}{aU:List V}(h:Vals prog w H g vs aU):Vals prog w H g (vs++eI) (aU++cy):=by
 induction h with
 |nil=>exact k
 |cons a b bb=>exact .cons a bb
theorem LN{α:Type}{ps:List Str}{l:List α}(h:ps.length<=l.length):(ps.zip l).map (·.1)=ps:=List.map_fst_zip h
inductive DflV (prog:Program) (w:World) (h0:Heap) (v:Value) (dfl:List V):Prop
 |mk (dv:List Value) (len:dv.length=dfl.length) (h:∀(H:T)(g:Gh),(∀a o,h0.get? a=some o->g.im a=some o)->Vals prog w H g dv dfl)
   (k:∀(s:Shared),(∀a o,h0.get? a=some o->s.heap.get? a=some o)->∀(A:Around)(E:cI)(Q:Option (Array Value)->Shared->Prop),(∀r,(r.getD #[]).toList=dv->Q r s)->wpAny (model prog w) A (seqItems? v) Q E s)
theorem YT{h0:Heap}{v:Value}{dfl:List V}(h:FnDfl h0 v dfl):DflV prog w h0 v dfl:=by
 rcases h with ⟨e1,e2⟩|⟨t,Dk,jV,m,ds,e1,e2,e3,eN,kF⟩
 .rw[e1,e2]
  exact⟨[],rfl,λ_ _ _=> .nil,λs _ A E Q aO=>wpAny_pure (aO none rfl)⟩
 .rw[e1]
  exact⟨jV.toList,eN.length.trans (rF (kF ⟨[],[],false,[],[],0,none⟩)),λH g b=>Vals.Ie (kF H) (eN.mono b),λs up A E Q aO=>wpAny_seqItems (up _ _ e2) e3 (aO _ rfl)⟩
theorem Room.deeper(R:Room A (n+1))(env:Env):Room (A.deeper env) n:=
 ⟨R.handled,by have:=R.depth;rwa [jG n 1,<-jE] at this,hZ (jC (by
  show A.units+3+20*n<=_
  rw[jE,z2,jG 3]
  exact dh (dh (by decide) _) _) 400) R.units⟩
theorem YU{aF:Nat}{et:Addr->Option Ro}{v:Value}(X:Ext g s.heap au h')(k:H.bP O)(C:Cfg prog w O au h')(iP:ic au h' et)(S:Seen prog w O au h' et v u)(new:∀a r,et a=some r->s.heap.get? a=none)(ak:ToV prog w H g s O u Q):Q v {s with heap:=h',toks:=aF}:=by
 obtain⟨y,b,U⟩:=S
 rcases b with _|_
 .exact ak au h' aF v X k C U
 .obtain⟨ap,b,e,e8,fK⟩:=U
  rw[e] at fK |-
  obtain⟨dB,d9,_⟩:=iP b _ e8
  obtain⟨q,aO,YV⟩:=xf ap dB fK
  exact ak (au.add b q) h' aF _ ⟨X.ta,λc r e=>Gh.hu dB c r (X.im c r e),λc r e=>(Gh.g7 λbq=>aI ((new b _ e8).symm.trans (bq▸e))).trans (X.new c r e),X.old,X.dd.add,X.live⟩ k (C.freeze dB d9 aO) YV
theorem ExtS.back{h aB h':Heap}(X:ExtS ai g aB au h')(k:∀a o,h.get? a=some o->aB.get? a=some o)(n:∀a r,ai a=some r->h.get? a=none):Ext g h au h':=by
 refine⟨X.ta,X.im,λb q e=>X.new b q (k b q e),λb q e m=>X.old b q (k b q e) m ?_,?_,λb q e=>X.live b q (k b q e)⟩
 .rcases bq:ai b with _|r
  .rfl
  .exact aI ((n b r bq).symm.trans e)
 .obtain⟨m,cC,cA⟩:=X.dd
  exact⟨m,cC,λp aS=>gU (λa o e=>⟨o,k a o e⟩) (cA p aS)⟩
noncomputable def nQ:Flow->Value
 | .ret v=>v
 |_=> .none
structure Opened (prog:Program) (w:World) (h0:Heap) (s:Shared) (fn:Fn) (b2 dv:List Value) (env:Env) (c1:Shared):Prop where
 len:dv.length=fn.dfl.length
 V:∀(H:T)(g:Gh),(∀a o,h0.get? a=some o->g.im a=some o)->Vals prog w H g dv fn.dfl
 x:InCallC s env.locals (bindL env.kindOf (lD fn.ps b2 dv) λ_=>none) env.cells (bindC env.kindOf (lD fn.ps b2 dv) λ_=>none) c1
 sc:env.scope=fn.sc
 N:EnvR fn.sc env
 cl:∃n,env.cells=cellsFrom n fn.sc.names []
theorem Dl{h0:Heap}(NL:h0.NoLimit){fn:Fn}{f:Value}(aL:FnOk h0 K fn f){b2:List Value}{R:Result->Shared->Prop}(ux:A.depth<recursionLimit)(up:∀b q,h0.get? b=some q->s.heap.get? b=some q)(cg:b2.length<=fn.ps.length)(ch:fn.ps.length - b2.length<=fn.dfl.length)(k:∀dv env c1 E,Opened prog w h0 s fn b2 dv env c1->wpAny (model prog w) (A.deeper env) (execs fn.bd env) (λf bQ=>R (.ok (.ret (nQ f))) bQ) E c1):codeAny (model prog w) A (.call f ⟨b2,[]⟩) R s:=by
 obtain⟨a,o,b4,ef,aj,aG,aQ,xg,lH,uy,Dm,xh,YW,fm,gF,lE,lF,iQ,uz⟩:=aL.ex
 obtain⟨dv,ld,YX,YY⟩:=YT (prog:=prog) (w:=w) uz
 have uA:b4.params.args.length=fn.ps.length:=by rw [<-iQ,eQ]
 have hY:=aL.hY
 rw[<-ld] at ch hY
 rw[ef]
 refine codeAny_call_function ux (up _ _ aG) aQ (by rw [lH];exact aL.sc.co) (by rw [lH];exact aL.sc.gen) xg (YW.keeps up) ?_
 refine YQ (dv:=dv) fm gF lE lF (by rw [iQ];exact aL.nd) (λQ aO=>YY s up _ _ Q aO) (uA▸cg) (uA▸ch) (uA▸hY) ?_
 rw[iQ,Dm]
 refine wpAny_newFunctionEnv_cells (by rw [lH];exact aL.sc.kind) (λy aY=>?_) λenv cL c1 x=>?_
 .have YZ:y.1∈fn.ps:=(List.of_mem_zip (a:=y.1) (b:=y.2) aY).1
  rw[lH]
  rcases aL.par _ YZ with e|e
  .exact .inl (by rw [<-rK];exact e)
  .obtain⟨b,ao⟩:=Di aL.sc (s.heap.objs.size+1) e
   exact .inr ⟨by rw [<-rK];exact e,by rw [ao];rfl⟩
 have LO:env.scope=fn.sc:=by rw [cL];exact lH
 have Y0:env.globals=mainGlobals:=by rw [cL];exact uy
 have Y1:env.builtins=builtinsNs:=by rw [cL];exact xh
 have nR:env.cells=cellsFrom (s.heap.objs.size+1) fn.sc.names []:=by rw [cL,<-lH];rfl
 exact⟨NL.keeps λb q e=>x.toInCall.keep b q (up b q e),codeAny_func (wpAny_mono (k dv env c1 _ ⟨ld,YX,x,LO,YR aL.sc LO Y0 Y1 nR,⟨_,nR⟩⟩) (λf _ h=>by rcases f<;>exact h) λ_ _ h=>h)⟩
theorem LP(NL:ta.h0.NoLimit){fn:Fn}{f:Value}(aL:FnOk ta.h0 K fn f){b2:List Value}(ux:A.depth<recursionLimit)(eU:g.ta=ta)(C:Cfg prog w H g s.heap)(cg:b2.length<=fn.ps.length)(ch:fn.ps.length - b2.length<=fn.dfl.length)(k:∀dv env c1 E,Opened prog w ta.h0 s fn b2 dv env c1->wpAny (model prog w) (A.deeper env) (execs fn.bd env) (λf bQ=>Q (nQ f) bQ) E c1):wpAny (model prog w) A (call f b2) Q E s:=
 wpAny_call (Dl NL aL ux (λb q e=>C.bn b q (C.base b q (eU▸e))) cg ch k)
theorem Room.call(R:Room A n):A.depth<recursionLimit:=hZ (eZ _ _) (me R.depth (by decide))
structure Called (prog:Program) (w:World) (H:T) (g:Gh) (h:Heap) (fn:Fn) (J:am) (env:Env) (aB:Heap):Prop where
 N:EnvR fn.sc env
 C:Cfg prog w H g aB
 F:FrR prog w H g aB env J (dw env.locals env.cells)
 X:Ext g h g aB
 new:∀a r,dw env.locals env.cells a=some r->h.get? a=none
 keep:∀a o,h.get? a=some o->aB.get? a=some o
theorem xi(N:ta.h0.NoLimit){fn:Fn}{as:List V}(iO:o9 fn.ps as fn.dfl=some J){f:Value}(aL:FnOk ta.h0 K fn f){b2:List Value}(ux:A.depth<recursionLimit)(eU:g.ta=ta)(C:Cfg prog w H g s.heap)(al:Vals prog w H g b2 as)(U:∀env aB bh E,Called prog w H g s.heap fn J env aB->wpAny (model prog w) (A.deeper env) (execs fn.bd env) (λf bQ=>Q (nQ f) bQ) E {s with heap:=aB,toks:=bh}):wpAny (model prog w) A (call f b2) Q E s:=by
 obtain⟨eB,iO⟩:=br iO
 have cg:=fi (aK eB).1
 have ch:=fi (aK eB).2
 have LQ:=al.length
 rw[<-LQ] at cg ch
 have Y2:dM∉fn.ps:=λq=>(aL.par _ q).elim (λe=>(aL.sc.good _ _ e).2.2.2 rfl) λe=>(aL.sc.good _ _ e).2.2.2 rfl
 refine LP N aL ux eU C cg ch λdv env c1 ie Z=>?_
 have ld:=Z.len
 have V:=Z.V H g λa o e=>C.base a o (eU▸e)
 have Y3:Vals prog w H g (b2++dv.drop (dv.length - (fn.ps.length - b2.length))) (as++fn.dfl.drop (fn.dfl.length - (fn.ps.length - as.length))):=by
  rw[<-LQ,<-ld]
  exact .append (V.drop _) al
 rw[<-ld] at ch
 have Y4:(lD fn.ps b2 dv).map (·.1)=fn.ps:=LN (by rw [d5,v8,Nat.sub_sub_self ch,Nat.add_sub_cancel' cg];exact cq _)
 obtain⟨m,nR⟩:=Z.cl
 obtain⟨F,aZ,aR,fresh⟩:=LK C aL.sc Z.sc nR (by rw [Y4];exact aL.nd) Z.x (J:=w9 fn.ps (as++fn.dfl.drop (fn.dfl.length - (fn.ps.length - as.length)))) (λy u o aY=>LH Y3 aY) (LI Y2)
 obtain⟨aB,Dn,iR,rM⟩:=Z.x.done
 rw[iR] at F aZ aR |-
 exact U env aB Dn ie ⟨Z.N,aZ,Option.some.inj iO▸F,aR,fresh,rM⟩
theorem Y5(N:ta.h0.NoLimit)(S:fb prog w G ta n):nP prog w G ta K (n+1):=by
 intro fn as H v O h ag f aL A g s b2 Q E R eU C al ak
 obtain⟨_,h⟩:=br h
 obtain⟨J,iO,h⟩:=bD h
 obtain⟨bw,bg,cE,aJ,h⟩:=rq h
 revert ag ak
 refine pI h (P:=λv O=>O.cnt<=ba->ToV prog w H g s O v Q->_) λag ak=>?_
 refine xi N iO aL R.call eU C al λenv aB bh ie Z=>?_
 refine S ⟨fn.sc,fn.bd⟩ J fn.bd H bw bg cE aJ ag (A.deeper env) env _ g {s with heap:=aB,toks:=bh} _ _ (R.deeper env) eU Z.N Z.C Z.F λau h' aF et f X k ct Gw iP Fl _=>?_
 have LR:Ext g s.heap au h':=X.back Z.keep Z.new
 rcases bw with _|u
 .obtain⟨e,_⟩:=Fl
  rw[e]
  exact ak au h' aF .none LR k ct Val.none
 .obtain⟨z,e,U⟩:=Fl
  rw[e]
  exact YU (s:=s) LR k ct iP U (λb r e=>(Gw b r e).elim (λq=>q.elim λd7 q=>Z.new b d7 q) λq=>gU (λa o e=>⟨o,Z.keep a o e⟩) q) ak
end
section
variable (prog:Program)(w:World)(G:Gl)(ta:Ta)
def ToB(H:T)(g:Gh)(s:Shared)(O:T)(b:Bool)(Q:Bool->Shared->Prop):Prop:=∀au h' aF,Ext g s.heap au h'->H.bP O->Cfg prog w O au h'->Q b {s with heap:=h',toks:=aF}
def iS(n:Nat):Prop:=
 ∀(c:Cx)(J:am)(e:Expr)(H:T)(b:Bool)(O:T),dR G n c J e H=some (b,O)->O.cnt<=ba->
  ∀(A:Around)(env:Env)(ai:Addr->Option Ro)(g:Gh)(s:Shared)(Q:Bool->Shared->Prop)(E:cI),
   Room A n->g.ta=ta->EnvR c.sc env->Cfg prog w H g s.heap->FrR prog w H g s.heap env J ai->ToB prog w H g s O b Q->wpAny (model prog w) A (isTrue e env (eval e env)) Q E s
def uB(n:Nat):Prop:=
 ∀(c:Cx)(J:am)(e:Option Expr)(H:T)(v:V)(O:T),ln G n c J e H=some (v,O)->O.cnt<=ba->
  ∀(A:Around)(env:Env)(ai:Addr->Option Ro)(g:Gh)(s:Shared)(Q:cI)(E:cI),
   Room A n->g.ta=ta->EnvR c.sc env->Cfg prog w H g s.heap->FrR prog w H g s.heap env J ai->ToV prog w H g s O v Q->wpAny (model prog w) A (evalPart e env) Q E s
end
section
theorem rN{b:Bool}(h:dR G n c J e H=some (b,O))(aL:H.fA):H.bP O/\O.fA:=(gT G n n (cq _)).t c J e H _ _ h aL
theorem LS{e:Option Expr}{v:V}(h:ln G n c J e H=some (v,O))(aL:H.fA):H.bP O/\O.fA:=(gT G n n (cq _)).o c J e H _ _ h aL
theorem Do{op:BoolOp}{e:List Expr}{b:Bool}(h:gz (dR G n c J) op e H=some (b,O))(aL:H.fA):H.bP O/\O.fA:=ud ((gT G n n (cq _)).t c J) _ _ h aL
theorem LU{v:V}(h:b7 c J (aN G n c J) e H=some (v,O))(op:CmpOp):behindInMarks op e=false:=by
 have h:=wX h
 rcases e
 case Set=>exact nomatch h
 all_goals rfl
theorem ToB.trans{g aV:Gh}{aB:Heap}{bh:Nat}{b:Bool}{Q:Bool->Shared->Prop}(ak:ToB prog w H g s O b Q)(X:Ext g s.heap aV aB)(k:H.bP aD):ToB prog w aD aV {s with heap:=aB,toks:=bh} O b Q:=
 λcD a8 b8 cn dn b3=>ak cD a8 b8 (X.trans cn) (k.trans dn) b3
theorem LV(S:iS prog w G ta n)(R:Room A n)(N:EnvR c.sc env){op:BoolOp}:
  ∀{es:List Expr}{H:T}{b:Bool}{O:T},gz (dR G n c J) op es H=some (b,O)->O.cnt<=ba->∀{g:Gh}{s:Shared}{Q:Bool->Shared->Prop},g.ta=ta->Cfg prog w H g s.heap->FrR prog w H g s.heap env J ai->
  ToB prog w H g s O b Q->wpAny (model prog w) A (allTrue op es env) Q E s
 |[],H,b,O,h,_,g,s,Q,T,C,F,ak=>by
  have k:Q b s:=by
   revert ak
   exact pI h (P:=λb O=>ToB prog w H g s O b Q->Q b s) λak=>ak g s.heap s.toks (.refl _ _) (.refl _) C
  rw[<-(Prod.mk.inj (Option.some.inj h)).1] at k
  rcases op
  .exact wpAny_allTrue_And_nil k
  .exact wpAny_allTrue_Or_nil k
 |e::es,H,b,O,h,ag,g,s,Q,T,C,F,ak=>by
  obtain⟨t,aD,aa,h⟩:=b1 h
  have cC:=rN aa C.ok.bld
  have lI:some (t,aD)=some (b,O)->∀{K:Bool->Shared->Prop},(∀bQ,Q t bQ->K t bQ)->wpAny (model prog w) A (isTrue e env (eval e env)) K E s:=λh K k=>by
   revert ag ak
   exact pI h (P:=λb O=>O.cnt<=ba->ToB prog w H g s O b Q->_) λag ak=>S c J e H _ _ aa ag A env ai g s _ E R T N C F λaV aB bh aR k₁ aZ=>k _ (ak aV aB bh aR k₁ aZ)
  have LW:gz (dR G n c J) op es aD=some (b,O)->∀{K:Bool->Shared->Prop},(∀bQ,wpAny (model prog w) A (allTrue op es env) Q E bQ->K t bQ)->wpAny (model prog w) A (isTrue e env (eval e env)) K E s:=λh K k=>by
   have cA:=Do h cC.2
   exact S c J e H _ _ aa (aT cA.1.cnt ag) A env ai g s _ E R T N C F λaV aB bh aR k₁ aZ=>k _ (LV S R N h ag (aR.ta.trans T) aZ (F.ext k₁ aR aZ.bn) (ak.trans aR k₁))
  rcases op<;>rcases t with _|_
  .exact wpAny_allTrue_And_cons (lI h λ_ q=>q)
  .exact wpAny_allTrue_And_cons (LW h λ_ q=>q)
  .exact wpAny_allTrue_Or_cons (LW h λ_ q=>q)
  .exact wpAny_allTrue_Or_cons (lI h λ_ q=>q)
theorem Dp(S:cx prog w G ta n){l r:Expr}{a b:V}(aa:b7 c J (aN G n c J) l H=some (a,aD))(ah:b7 c J (aN G n c J) r aD=some (b,O))(ag:O.cnt<=ba){Q:Value->cI}(R:Room A n)(T:g.ta=ta)(N:EnvR c.sc env)(C:Cfg prog w H g s.heap)(F:FrR prog w H g s.heap env J ai)(ak:∀au h' aF u v,Ext g s.heap au h'->H.bP O->Cfg prog w O au h'->Val prog w O au h'.get? u a->Val prog w O au h'.get? v b->Q u v {s with heap:=h',toks:=aF}):
  wpAny (model prog w) A (eval l env) (λu c1=>wpAny (model prog w) A (eval r env) (λv xj=>Q u v xj) E c1) E s:=by
 have cC:=pl aa C.ok.bld
 have cA:=pl ah cC.2
 refine my S aa (aT cA.1.cnt ag) R T N C F λaV aB bh u aR k₁ aZ bT=>?_
 have dA:=F.ext k₁ aR aZ.bn
 refine my S ah ag R (aR.ta.trans T) N aZ dA λcD a8 b8 v cn dn b3 dr=>?_
 exact ak cD a8 b8 u v (aR.trans cn) (k₁.trans dn) b3 ((bT.ext dn cn dA.sep b3.bn).val b3.bn) (dr.val b3.bn)
inductive CmpI {α:Type} (c:Cx) (J:am) (f:Expr->T->Option (V×T)) (l:Expr) (ops:List CmpOp) (a3:List Expr) (H:T) (k:Bool->T->Option α) (z:α):Prop
 |mk (o:CmpOp) (r:Expr) (x y:V) (aD bS:T) (t:Bool) (e1:ops=[o]) (e2:a3=[r]) (aa:b7 c J f l H=some (x,aD)) (ah:b7 c J f r aD=some (y,bS)) (aC:cX bS o x y=some t) (bC:k t bS=some z)
theorem LX{α:Type}{f:Expr->T->Option (V×T)}{l:Expr}{ops:List CmpOp}{a3:List Expr}{k:Bool->T->Option α}{z:α}(h:wE c J f l ops a3 H k=some z):CmpI c J f l ops a3 H k z:=by
 obtain⟨o,e1,h⟩:=bD h
 obtain⟨r,e2,h⟩:=bD h
 obtain⟨x,aD,aa,h⟩:=b1 h
 obtain⟨y,bS,ah,h⟩:=b1 h
 obtain⟨t,aC,h⟩:=bD h
 exact⟨o,r,x,y,aD,bS,t,nN e1,nN e2,aa,ah,aC,h⟩
inductive TkI (e:Expr):Tk->Prop
 |not (x:Expr) (p:Pos) (h:e= .UnaryOp .Not x p):TkI e (.not x)
 |bool (op:BoolOp) (vs:List Expr) (p:Pos) (h:e= .BoolOp op vs p):TkI e (.bool op vs)
 |ite (t b o:Expr) (p:Pos) (h:e= .IfExp t b o p):TkI e (.ite t b o)
 |cmp (l:Expr) (ops:List CmpOp) (a3:List Expr) (p:Pos) (h:e= .Compare l ops a3 p):TkI e (.cmp l ops a3)
 |eo (h:∀env LY,isTrue e env LY=(do let v <-LY;standAt e.pos;holding [v] (truthy v))):TkI e .eo
theorem Y6(e:Expr):TkI e (wB e):=by
 rcases e
 case UnaryOp op x p=>
  rcases op
  case Not=>exact .not x p rfl
  all_goals exact .eo λ_ _=>rfl
 case BoolOp op vs p=>exact .bool op vs p rfl
 case IfExp t b o p=>exact .ite t b o p rfl
 case Compare l ops a3 p=>exact .cmp l ops a3 p rfl
 all_goals exact .eo λ_ _=>rfl
theorem Y7(S:cx prog w G ta n)(a7:iS prog w G ta n):iS prog w G ta (n+1):=by
 intro c J e H b O h ag A env ai g s Q E R T N C F ak
 have bz:=R.less (cG n)
 have h:Cu c J (aN G n c J) (dR G n c J) e H (wB e)=some (b,O):=h
 have k:=Y6 e
 generalize wB e=q at h k
 rcases k with ⟨x,p,e1⟩|⟨op,vs,p,e1⟩|⟨x,y,z,p,e1⟩|⟨l,ops,a3,p,e1⟩|e1
 .obtain⟨t,aD,aa,h⟩:=b1 h
  rw[e1]
  revert ag ak
  exact pI h (P:=λb O=>O.cnt<=ba->ToB prog w H g s O b Q->_) λag ak=>wpAny_isTrue_Not (a7 c J _ H t _ aa ag A env ai g s _ E bz T N C F ak)
 .rw[e1]
  exact wpAny_isTrue_BoolOp (LV a7 bz N h ag T C F ak)
 .obtain⟨t,aD,aa,h⟩:=b1 h
  have cC:=rN aa C.ok.bld
  have cA:=rN h cC.2
  rw[e1]
  refine isTrue_IfExp (a7 c J _ H _ _ aa (aT cA.1.cnt ag) A env ai g s _ E bz T N C F λaV aB bh aR k₁ aZ=>?_)
  have pA:wpAny (model prog w) A (isTrue (cond t y z) env (eval (cond t y z) env)) Q E {s with heap:=aB,toks:=bh}:=a7 c J _ aD _ _ h ag A env ai aV _ Q E bz (aR.ta.trans T) N aZ (F.ext k₁ aR aZ.bn) (ak.trans aR k₁)
  rcases t with _|_<;>exact pA
 .obtain⟨o,r,x,y,aD,bS,t,e2,e3,aa,ah,aC,h⟩:=LX h
  rw[e1,e2,e3]
  revert ag ak
  refine pI h (P:=λb O=>O.cnt<=ba->ToB prog w H g s O b Q->_) λag ak=>?_
  refine wpAny_isTrue_Compare1 (Dp S aa ah ag bz T N C F λaV aB bh u v aR k₁ aZ bT dr=>?_) (LU ah _)
  exact K6 (s:={s with heap:=aB,toks:=bh}) aC aZ bz bT dr λaF=>wpAny_truthy_bool (ak aV aB aF aR k₁ aZ)
 .obtain⟨v,aD,aa,h⟩:=b1 h
  refine isTrue_plain ?_ (e1 env _)
  revert ag ak
  exact h8 h (P:=λb O=>O.cnt<=ba->ToB prog w H g s O b Q->_) λt aC ag ak=>my S aa ag bz T N C F λaV aB bh u aR k₁ aZ bT=>
   CQ (s:={s with heap:=aB,toks:=bh}) aC (bT.val aZ.bn) aZ.bn λaF=>ak aV aB aF aR k₁ aZ
theorem Y8(S:cx prog w G ta n):uB prog w G ta (n+1):=by
 intro c J e H v O h ag A env ai g s Q E R T N C F ak
 rcases e with _|e
 .rw[evalPart_none]
  revert ak
  exact pI (show some (V.none,H)=some (v,O) from h) (P:=λv O=>ToV prog w H g s O v Q->_) λak=>wpAny_pure (ak g s.heap s.toks .none (.refl _ _) (.refl _) C Val.none)
 .rw[evalPart_some]
  exact S c J e H v O h ag A env ai g s Q E (R.less (cG n)) T N C F ak
end
def nS (x:Str):Value:=cond (a9 x mm) (.builtin "isinstance") (cond (a9 x tW) (.type "str") (cond (a9 x h5) (.type "range") (pv x)))
structure Bk (prog:Program) (w:World) (G:Gl) (ta:Ta) (K:Frag) (bp mb:Str->Option Value):Prop where
 tp:Tp ta K
 g:ta.h0.Ns mainGlobals bp
 b:ta.h0.Ns builtinsNs mb
 tj:ta.h0.NoLimit
 val:∀x u,G.val x=some u->∃v,bp x=some v/\∀H g,g.ta=ta->(∀a o,ta.h0.get? a=some o->g.im a=some o)->Val prog w H g g.im v u
 fn:∀x f,G.fn x=some f->∃v,bp x=some v/\FnOk ta.h0 K f v
 i3:∀m f,G.i3 m=some f->(m="force"\/m="bound"\/m="shape"\/m="list_prop")/\∃a,lz K ta.qN a m=true/\FnOk ta.h0 K f (.ref a)
 free:∀x,G.free x=true->bp x=none/\mb x=some (nS x)
section
theorem Bk.up(B:Bk prog w G ta K bp mb)(C:Cfg prog w H g s.heap)(T:g.ta=ta):∀b q,ta.h0.get? b=some q->s.heap.get? b=some q:=λb q e=>C.bn b q (C.base b q (T▸e))
theorem pB(B:Bk prog w G ta K bp mb)(C:Cfg prog w H g s.heap)(T:g.ta=ta)(N:EnvR sc env){v:Value}(aj:lk sc.names x=some .globalImplicit)(al:bp x=some v)(ak:Q v s):
  wpAny (model prog w) A (eval (.Name x p) env) Q E s:=
 Name_function_global N.kind (N.impl x aj) (loadGlobal_global (by rw [N.glob];exact B.g.keeps (B.up C T)) al ak) (ia N aj)
theorem rO(B:Bk prog w G ta K bp mb)(C:Cfg prog w H g s.heap)(T:g.ta=ta)(N:EnvR sc env)(aj:lk sc.names x=some .globalImplicit)(a6:G.free x=true)(ak:Q (nS x) s):
  wpAny (model prog w) A (eval (.Name x p) env) Q E s:=
 Name_function_global N.kind (N.impl x aj) (loadGlobal_builtin (by rw [N.glob];exact B.g.keeps (B.up C T)) (B.free x a6).1 (by rw [N.blt];exact B.b.keeps (B.up C T)) (B.free x a6).2 ak) (ia N aj)
theorem LZ:∀{l:List Nat},oZ l=true->l.all (λc=>decide (c<1114112))=true
 |[],_=>rfl
 |_::_,h=>(c6 _ _).mpr ⟨decide_eq_true (fi (aK h).1),LZ (aK h).2⟩
theorem Dq(h:oZ x.cps.toList=true):PyData.strOk x=true:=by
 unfold PyData.strOk
 rw[<-Array.all_toList]
 exact LZ h
theorem Dr(h:PyData.strOk x=true):bI H (.str x)=some (.str x):=by
 show ow (PyData.strOk x) _=_
 rw[h];rfl
theorem Y9(C:Cfg prog w H g s.heap){k:Const}{fW:Nat}{v:V}(h:JJ k=some v)(Gt:Got prog w H g s Q v):wpAny (model prog w) A (eval (.Constant k fW p) env) Q E s:=by
 rcases k
 case none=>exact wpAny_Constant_none (Gt.here C (gb h (P:=Val prog w H g g.im _) Val.none) s.toks)
 case bool=>exact wpAny_Constant_bool (Gt.here C (gb h (P:=Val prog w H g g.im _) (.bool _)) s.toks)
 case int=>exact wpAny_Constant_int (Gt.here C (gb h (P:=Val prog w H g g.im _) (.int _ _)) _)
 case str x=>
  obtain⟨aj,h⟩:=br h
  exact wpAny_Constant_str (Gt.here C (gb h (P:=Val prog w H g g.im _) (.g9 (Dr (Dq aj)) (.str x _))) _)
 all_goals exact aI h
theorem Za{o:Expr}(h:hA o=true)(a:Str)(p:Pos)(env:Env):eval (.Attribute o a p) env=(do
   let v <-eval o env
   standAt p.atName
   let r <-holding [v] (getAttr v a true)
   letTemporaryGo o v r
   pure r):=by
 rcases o
 case Call=>exact nomatch h
 all_goals rfl
theorem L1{r:V×T}(h:aN G n c J e H=some r)(o i:Value):subscripted e false o i=operate [o,i] (getItem o i):=by
 have h:=mA h
 rcases e
 case Slice=>exact nomatch h
 all_goals rfl
theorem Zb{b i r:V}(h:fE H b i=some r)(C:Cfg prog w H g s.heap){cQ:Value}(ao:Val prog w H g s.heap.get? cQ b):∃T id,s.TypeIs cQ T/\typeLookup (.type T) "__getitem__"=pure (some (.builtin id)):=by
 rcases b
 case tup=>
  obtain⟨a,o,vs,n,ds,e,bx,ap,aQ,aq,aC⟩:=ao.gN
  rw[e];exact⟨"tuple",_,⟨o,C.bn _ _ bx,ap⟩,slot_tuple_getitem.lookup⟩
 case list=>
  obtain⟨a,vs,n,ds,e,bx,aq,aC⟩:=ao.kh
  rw[e];exact⟨"list",_,⟨_,bx,rfl⟩,slot_list_getitem.lookup⟩
 case dict=>
  obtain⟨ad,o,e,aG,av,D⟩:=ao
  rw[e]
  rcases D with ⟨aW,aa,_⟩|⟨aW,aa,_⟩<;>exact⟨"dict",_,(aa.mapOf aG).typeIs,slot_dict_getitem.lookup⟩
 all_goals exact aI h
end
mutual
noncomputable def pE:PyData->Bool
 | .list _=>false
 | .tuple l=>nT l
 | .dict _=>false
 |_=>true
noncomputable def nT:List PyData->Bool
 |[]=>true
 |d::r=>pE d&&nT r
end
theorem Ds:∀{l:List PyData},(∀x∈l,pE x=true)->nT l=true
 |[],_=>rfl
 |x::l,h=>(c6 _ _).mpr ⟨h x (.head _),Ds λy m=>h y (.tail _ m)⟩
theorem Zc:∀{l:List PyData},nT l=true->∀x∈l,pE x=true
 |x::l,h,y,m=>(List.mem_cons.mp m).elim (λe=>e▸(aK h).1) (Zc (aK h).2 y)
mutual
theorem L2:∀{v:V}{d:PyData},V.k5 v=true->bI H v=some d->pE d=true
 | .none,_,_,h=>da h rfl
 | .bool _,_,_,h=>da h rfl
 | .int _,_,_,h=>da h rfl
 | .str _,_,_,h=>by rw [(gB h).1];rfl
 | .ty _,_,_,h=>by obtain ⟨_,e⟩:=rJ h;rw[e];rfl
 | .tup l,_,k,h=>by
  obtain⟨m,av,e⟩:=gS h
  rw[e];exact L4 k av
theorem L4:∀{v:List V}{d:List PyData},V.H9 v=true->bX H v=some d->nT d=true
 |[],_,_,h=>da h rfl
 |u::aU,_,k,h=>by
  obtain⟨d,m,e,aQ,av⟩:=fa h
  rw[e]
  exact(c6 _ _).mpr ⟨L2 (aK k).1 aQ,L4 (aK k).2 av⟩
end
theorem L5:fG n d=true->pE d=true:=wT (λ_=>rfl) (λ_ _=>rfl) (λ_ h=>Ds h) n
open Classical in
noncomputable def Gh.cut (g:Gh) (F:Addr->Prop):Gh:={g with im:=λa=>if F a then none else g.im a}
theorem Gh.zv{F:Addr->Prop}(aX:¬F a):(g.cut F).im a=g.im a:=if_neg aX
theorem Gh.k6{F:Addr->Prop}{o:Obj}(h:g.im a=some o)(aX:¬F a):(g.cut F).im a=some o:=(Gh.zv aX).trans h
theorem Gh.H5{F:Addr->Prop}(h:F a):(g.cut F).im a=none:=if_pos h
theorem Gh.amX{F:Addr->Prop}{o:Obj}(h:(g.cut F).im a=some o):g.im a=some o/\¬F a:=by
 rcases tC (F a) with q|q
 .exact aI ((Gh.H5 q).symm.trans h)
 .exact⟨(Gh.zv q).symm.trans h,q⟩
def rP(g:Gh)(F:Addr->Prop):Prop:=∀a o,F a->g.im a=some o->o.cls= .type "list"\/o.cls= .type "dict"
theorem L6{o:Obj}(ap:o.cls= .type "tuple")(h:o.cls= .type "list"\/o.cls= .type "dict"):False:=by rcases h with e|e<;>rw[ap] at e<;>simp at e
theorem Rd.cut{F:Addr->Prop}(dY:rP g F){v:Value}(h:pE d=true)(r:Rd g.im v d):Rd (g.cut F).im v d:=
 Rd.rec (motive_1:=λv d _=>pE d=true->Rd (g.cut F).im v d) (motive_2:=λvs l _=>nT l=true->RdL (g.cut F).im vs l) (λ_=> .none) (λb _=> .bool b) (λi t _=> .int i t) (λx t _=> .str x t)
  (λbx ap aQ _ bb h=> .tup (Gh.k6 bx λq=>L6 ap (dY _ _ q bx)) ap aQ (bb h)) (λ_ _ _ h=>nomatch h) (λ_=> .nil) (λ_ _ p q h=> .cons (p (aK h).1) (q (aK h).2)) r h
theorem RdL.cut{F:Addr->Prop}(dY:rP g F):∀{d:List PyData}{v:List Value},nT d=true->RdL g.im v d->RdL (g.cut F).im v d
 |[],_,_,r=>by rw [r.dat];exact .nil
 |d::l,_,h,r=>by
  obtain⟨v,vs,e,a,b⟩:=r.dat
  rw[e];exact .cons (a.cut dY (aK h).1) (RdL.cut dY (aK h).2 b)
def Dt(g:Gh)(F:Addr->Prop):Prop:=∀a o,F a->g.im a=some o->o.cls= .type "dict"
theorem Zd{vs:Array Value}(h:(listOf vs n).cls= .type "dict"):False:=by simp at h
theorem Rd.cutD{F:Addr->Prop}(dY:Dt g F){v:Value}(r:Rd g.im v d):Rd (g.cut F).im v d:=
 Rd.rec (motive_1:=λv d _=>Rd (g.cut F).im v d) (motive_2:=λvs l _=>RdL (g.cut F).im vs l) .none .bool .int .str
  (λbx ap aQ _ bb=> .tup (Gh.k6 bx λq=>L6 ap (.inr (dY _ _ q bx))) ap aQ bb) (λbx _ bb=> .list (Gh.k6 bx λq=>Zd (dY _ _ q bx)) bb) .nil (λ_ _ p q=> .cons p q) r
section
theorem Ze(aL:O.Ok){ds:List PyData}(h:bX O (O.base++O.dyn)=some ds):nT ds=true:=
 Ds (ug h λx hx _ aQ=>L5 (De (aL.key x hx).2 (cq 4) aQ))
theorem Cfg.cut{jo g:Gh}(C:Cfg prog w O g h){F:Addr->Prop}(dY:rP g F)(_hta:g.ta=jo.ta)(_him:∀a o,jo.im a=some o->(g.cut F).im a=some o)(ao:∀a o,g.ta.h0.get? a=some o->¬F a)(a1:¬F g.ta.tab/\¬F g.ta.cU/\(g.ta.hh=true->¬F g.ta.host/\¬F g.ta.hv)):Cfg prog w O (g.cut F) h:=by
 have K:=C.tok
 obtain⟨t1,t2,L7⟩:=a1
 have inst:∀{c d},¬((instObj c d).cls= .type "list"\/(instObj c d).cls= .type "dict"):=λh=>by rcases h with e|e<;>simp at e
 refine⟨λa o e=>C.bn a o (Gh.amX e).1,λa o e=>Gh.k6 (C.base a o e) (ao a o e),C.ok,?_,C.line,C.mods⟩
 refine⟨Gh.k6 K.tab t1,?_,λq=>Gh.k6 (K.host q) (L7 q).1,?_,?_,?_,K.k2,?_,?_,?_,K.dfl,K.ew,K.nd,?_⟩
 .obtain⟨es,n,a,hg,gV,hj,jT,mC,lr,hk⟩:=K.cU;exact⟨es,n,Gh.k6 a t2,hg,gV,hj,jT,mC,lr,hk⟩
 .intro q;obtain⟨es,n,a,b,c⟩:=K.hv q;exact⟨es,n,Gh.k6 a (L7 q).2,b,c⟩
 .obtain⟨vs,n,ds,a,b,c⟩:=K.rows;exact⟨vs,n,ds,a,b.cut dY (Ze C.ok c),c⟩
 .obtain⟨o,es,ca,a4,a,b,c,d,e,f,i,j⟩:=K.idx
  exact⟨o,es,ca,a4,a,b,c,d,e,λx hx=>⟨(f x hx).1.cut dY (L5 (f x hx).2),(f x hx).2⟩,i,j⟩
 .obtain⟨vs,n,a,b,c⟩:=K.decls;exact⟨vs,n,a,b,c⟩
 .intro k p aS
  obtain⟨a,es,n,b,c,v,d,e,fH,gC,f3,jU,lu,CO⟩:=K.decl k p aS
  exact⟨Gh.k6 a λq=>inst (dY _ _ q a),es,n,b,c,v,d,e.cut dY rfl,fH,gC,f3,jU,lu,CO⟩
 .obtain⟨vs,n,a,b,c⟩:=K.du;exact⟨vs,n,a,b,c⟩
 .intro a aw
  rcases tC (F a) with q|q
  .exact Gh.H5 q
  .exact(Gh.zv q).trans (K.out a aw)
theorem ObjDict.cls{K:Type}[DecidableEq K]{knd:KeyKind prog w K}{o:Obj}{aW:List (K×Value)}(h:ObjDict prog w knd o aW):o.cls= .type "dict":=by
 obtain⟨es,ca,q,_⟩:=h
 exact q.1
theorem DictO.cls{im:bA}{o:Obj}{l:List (V×V)}(h:DictO prog w H im o l):o.cls= .type "dict":=by rcases h with ⟨aW,q,_⟩|⟨aW,q,_⟩<;>exact q.cls
theorem Kvs.re{K:Type}{c7:K->PyData}{im hf:bA}(all:∀{w:Value}{d:PyData},Rd im w d->Rd hf w d){l:List (V×V)}{aW:List (K×Value)}(h:Kvs c7 H im l aW):Kvs c7 H hf l aW:=by
 induction h with
 |nil=>exact .nil
 |cons a b c _ bb=>exact .cons a b (all c) bb
theorem VDat.cut{F:Addr->Prop}(dY:rP g F){v:Value}(al:VDat O g.im v u)(aX:V.k5 u=true):Val prog w O (g.cut F) (g.cut F).im v u:=by
 obtain⟨d,aa,ah⟩:=al
 exact .g9 aa (ah.cut dY (L2 aX aa))
theorem VDat.cutD{F:Addr->Prop}(dY:Dt g F){v:Value}(al:VDat O g.im v u):Val prog w O (g.cut F) (g.cut F).im v u:=by
 obtain⟨d,aa,ah⟩:=al
 exact .g9 aa (ah.cutD dY)
theorem Val.cut{F:Addr->Prop}(dY:rP g F){v:Value}(al:Val prog w O g g.im v u)(eJ:(∃a o,F a/\g.im a=some o/\o.cls= .type "list")->V.k5 u=true)(hD:(∃a o,F a/\g.im a=some o/\o.cls= .type "dict")->V.l8 u=true):
  Val prog w O (g.cut F) (g.cut F).im v u:=by
 rcases tC (∃a o,F a/\g.im a=some o/\o.cls= .type "list") with ag|ag
 .have aX:=eJ ag
  rcases u
  case tab=>exact al
  case host=>exact al
  case decl=>obtain⟨p,a,b,c⟩:=al;exact⟨p,a,b,c⟩
  case list=>exact nomatch aX
  case dict=>exact nomatch aX
  all_goals exact VDat.cut dY al aX
 .have aQ:Dt g F:=λa o q e=>(dY a o q e).resolve_left λr=>ag ⟨a,o,q,e,r⟩
  rcases u
  case tab=>exact al
  case host=>exact al
  case decl=>obtain⟨p,a,b,c⟩:=al;exact⟨p,a,b,c⟩
  case dict l=>
   obtain⟨a,o,e,aa,ah,aC⟩:=al
   have Zf:∀b b9,g.im b=some b9->¬F b:=λb b9 e q=>nomatch hD ⟨b,b9,q,e,aQ b b9 q e⟩
   refine⟨a,o,e,Gh.k6 aa (Zf a o aa),ah,?_⟩
   rcases aC with ⟨aW,a,b⟩|⟨aW,a,b⟩
   .exact .int aW a (b.re λr=>r.cutD aQ)
   .exact .str aW a (b.re λr=>r.cutD aQ)
  case list l=>
   obtain⟨d,aa,ah⟩:=al.flat (λ_ _ e=>e) rfl
   exact .g9 aa (ah.cutD aQ)
  all_goals exact VDat.cutD aQ al
inductive SeenAs (prog:Program) (w:World) (H:T) (g:Gh) (h:Heap) (ai:Addr->Option Ro) (J:am):List Expr->List Value->List V->Prop
 |nil:SeenAs prog w H g h ai J [] [] []
 |val {e:Expr} {v:Value} {u:V} {es:List Expr} {vs:List Value} {aU:List V}:Val prog w H g g.im v u->SeenAs prog w H g h ai J es vs aU->SeenAs prog w H g h ai J (e::es) (v::vs) (u::aU)
 |own {x:Str} {p:Pos} {a:Addr} {u:V} {es:List Expr} {vs:List Value} {aU:List V}:a2 J x=some (u,true)->hE u=true->ai a=some (.own x)->Val prog w H g h.get? (.ref a) u->SeenAs prog w H g h ai J es vs aU->
   SeenAs prog w H g h ai J (.Name x p::es) (.ref a::vs) (u::aU)
inductive OwnArg (prog:Program) (w:World) (H:T) (g:Gh) (h:Heap) (ai:Addr->Option Ro) (J:am) (es:List Expr) (a:Addr):Prop
 |mk (x:Str) (p:Pos) (u:V) (m:Expr.Name x p∈es) (r:a2 J x=some (u,true)) (c:hE u=true) (f:ai a=some (.own x)) (v:Val prog w H g h.get? (.ref a) u)
open Classical in
noncomputable def Gh.lend (g:Gh) (h:Heap) (F:Addr->Prop):Gh:={g with im:=λa=>if F a then h.get? a else g.im a}
theorem Gh.H7{F:Addr->Prop}(q:F a):(g.lend h F).im a=h.get? a:=if_pos q
theorem Gh.zz{F:Addr->Prop}(q:¬F a):(g.lend h F).im a=g.im a:=if_neg q
inductive ContO (look:bA) (a:Addr) (u:V):Prop
 |list (o:Obj) (h:look a=some o) (c:o.cls= .type "list") (l:List V) (e:u= .list l)
 |dict (o:Obj) (h:look a=some o) (c:o.cls= .type "dict") (l:List (V×V)) (e:u= .dict l)
theorem L9{look:bA}(ap:hE u=true)(al:Val prog w H g look (.ref a) u):ContO look a u:=by
 rcases u
 case list=>
  obtain⟨b,vs,n,ds,e,ah,aC,bC⟩:=al
  injection e with e
  rw[<-e] at ah
  exact .list _ ah rfl _ rfl
 case dict=>
  obtain⟨b,o,e,ah,aC,bC⟩:=al
  injection e with e
  rw[<-e] at ah
  exact .dict o ah bC.cls _ rfl
 all_goals exact nomatch ap
theorem Ma{r:V}:∀{es:List Expr},gx J r es=true->∀{x:Str}{p:Pos}{u:V},Expr.Name x p∈es->a2 J x=some (u,true)->lh r (u,true)=true
 |e::es,aG,x,p,u,av,aq=>by
  rcases List.mem_cons.mp av with q|q
  .have h:=(aK aG).1
   rw[<-q] at h
   have h:(match a2 J x with|some s=>lh r s|none=>true)=true:=h
   rw[aq] at h
   exact h
  .exact Ma (aK aG).2 q aq
theorem Zg{es:List Expr}(nU:∀a o,g.im a=some o->(g.lend h (OwnArg prog w H g h ai J es)).im a=some o){dN:List Expr}{vs:List Value}{aU:List V}(q:SeenAs prog w H g h ai J dN vs aU)(Du:∀e∈dN,e∈es):
  Vals prog w H (g.lend h (OwnArg prog w H g h ai J es)) vs aU:=by
 have Zh:g.le (g.lend h (OwnArg prog w H g h ai J es)):=⟨rfl,nU,[],(eh _).symm⟩
 induction q with
 |nil=>exact .nil
 |val a _ bb=>exact .cons (a.mono (.refl H) Zh nU) (bb λe cL=>Du e (.tail _ cL))
 | @own x p a u es vs aU aa ah aC bC _ bb=>
  exact .cons (bC.seen (.refl H) nU (λo e=>(Gh.H7 ⟨x,p,u,Du _ (.head _),aa,ah,aC,bC⟩).trans e) ah) (bb λe cL=>Du e (.tail _ cL))
inductive OwnO (g:Gh) (h:Heap) (a:Addr):Prop
 |mk (i:g.im a=none) (m:a∉g.bW) (o:Obj) (e:h.get? a=some o) (c:o.cls= .type "list"\/o.cls= .type "dict")
theorem Zi{es:List Expr}(sep:ic g h ai)(q:OwnArg prog w H g h ai J es a):OwnO g h a:=by
 obtain⟨x,p,u,aa,ah,aC,bC,ee⟩:=q
 obtain⟨bU,bZ,_⟩:=sep a _ bC
 rcases L9 aC ee with ⟨o,aG,ap,_,_⟩|⟨o,aG,ap,_,_⟩
 .exact⟨bU,bZ,o,aG,.inl ap⟩
 .exact⟨bU,bZ,o,aG,.inr ap⟩
theorem Zj(S:nP prog w G ta K n){fn:Fn}{as:List V}{v:V}(h:bK G n fn as H=some (v,O))(ag:O.cnt<=ba){f:Value}(aL:FnOk ta.h0 K fn f){es:List Expr}(gW:gx J v es=true){b2:List Value}(R:Room A n)(T:g.ta=ta)(C:Cfg prog w H g s.heap)(sep:ic g s.heap ai)(al:SeenAs prog w H g s.heap ai J es b2 as)(ak:ToV prog w H g s O v Q):wpAny (model prog w) A (call f b2) Q E s:=by
 obtain⟨F,Dv⟩:∃F,F=OwnArg prog w H g s.heap ai J es:=⟨_,rfl⟩
 have dY:∀a,F a->OwnO g s.heap a:=λa q=>Zi sep (by rw [Dv] at q;exact q)
 have pF:∀a o,g.im a=some o->¬F a:=λa o e q=>by obtain ⟨i,_⟩:=dY a q;exact aI (i.symm.trans e)
 have nU:∀a o,g.im a=some o->(g.lend s.heap F).im a=some o:=λa o e=>(Gh.zz (pF a o e)).trans e
 have Zk:Cfg prog w H (g.lend s.heap F) s.heap:=C.keep rfl rfl nU (λa aw=>(Gh.zz λq=>by obtain ⟨_,m,_⟩:=dY a q;exact m aw).trans (C.tok.out a aw)) (λ_ _ _ e=>e) λa o e=>by
  rcases tC (F a) with q|q
  .exact(Gh.H7 q).symm.trans e
  .exact C.bn a o ((Gh.zz q).symm.trans e)
 have Zl:Vals prog w H (g.lend s.heap F) b2 as:=by
  rw[Dv] at nU |-
  exact Zg nU al λ_ h=>h
 refine S fn as H v O h ag f aL A (g.lend s.heap F) s b2 Q E R T Zk Zl λau h' aF u X k ct iT=>?_
 have Mb:∀a,F a->au.im a=s.heap.get? a:=λa q=>by
  obtain⟨_,_,o,aG,_⟩:=dY a q
  exact(X.new a o aG).trans (Gh.H7 q)
 have jY:rP au F:=λa o q e=>by
  obtain⟨_,_,b9,aG,ap⟩:=dY a q
  rw[<-Option.some.inj (aG.symm.trans ((Mb a q).symm.trans e))];exact ap
 have Mc:∀a o,g.im a=some o->(au.cut F).im a=some o:=λa o e=>Gh.k6 (X.im a o (nU a o e)) (pF a o e)
 have K:=C.tok
 have Dw:au.ta=g.ta:=X.ta
 have Zm:Cfg prog w O (au.cut F) h':=ct.cut jY Dw Mc (λa o e=>pF a o (C.base a o (Dw▸e))) (by
  rw[Dw]
  obtain⟨_,_,Zn,_⟩:=K.cU
  exact⟨pF _ _ K.tab,pF _ _ Zn,λq=>⟨pF _ _ (K.host q),by obtain ⟨_,_,hD,_⟩:=K.hv q;exact pF _ _ hD⟩⟩)
 have own:∀a o,F a->au.im a=some o->(o.cls= .type "list"/\V.k5 v=true)\/(o.cls= .type "dict"/\V.l8 v=true):=λa o q e=>by
  have e:=(Mb a q).symm.trans e
  rw[Dv] at q
  obtain⟨x,p,y,aa,ah,aC,bC,ee⟩:=q
  have aj:=Ma gW aa ah
  rcases L9 aC ee with ⟨b9,gc,hG,l,rQ⟩|⟨b9,gc,hG,l,rQ⟩<;>rw[rQ] at aj<;>rw[<-Option.some.inj (gc.symm.trans e)]
  .exact .inl ⟨hG,aj⟩
  .exact .inr ⟨hG,aj⟩
 have ld:∀{o:Obj},o.cls= .type "list"->o.cls= .type "dict"->False:=λa b=>by rw [a] at b;simp at b
 refine ak (au.cut F) h' aF u ⟨X.ta,Mc,λa o e=>?_,λa o e m=>X.old a o e m,by obtain ⟨m,e,n⟩:=X.dd;exact⟨m,e,n⟩,X.live⟩ k Zm (iT.cut jY (λ⟨a,o,q,e,ap⟩=>?_) λ⟨a,o,q,e,ap⟩=>?_)
 .rcases tC (F a) with q|q
  .obtain⟨i,_⟩:=dY a q
   exact(Gh.H5 q).trans i.symm
  .exact(Gh.zv q).trans ((X.new a o e).trans (Gh.zz q))
 .exact(own a o q e).elim (·.2) λh=>(ld ap h.1).elim
 .exact(own a o q e).elim (λh=>(ld h.1 ap).elim) (·.2)
end
section
theorem Dx{f:Expr->T->Option (V×T)}(a6:∀e H r,f e H=some r->mz e=true)(env:Env):∀{es:List Expr}{H:T}{r:List V×T},dz f es H=some r->starEach es env=es.map λe=>(false,eval e env)
 |[],_,_,_=>rfl
 |e::es,H,r,h=>by
  obtain⟨v,aD,aa,h⟩:=b1 h
  obtain⟨vs,bS,ah,h⟩:=b1 h
  rw[wY (a6 _ _ _ aa) es env,Dx a6 env ah];rfl
theorem Md(env:Env){es:List Expr}{r:List V×T}(h:dz (b7 c J (aN G n c J)) es H=some r):starEach es env=es.map λe=>(false,eval e env):=Dx (λ_ _ _ h=>wX h) env h
theorem nV(env:Env){es:List Expr}{r:List V×T}(h:dz (aN G n c J) es H=some r):starEach es env=es.map λe=>(false,eval e env):=Dx (λ_ _ _ h=>mA h) env h
theorem Me(pos:Pos)(env:Env)(es:List Expr):backTo pos (es.map λe=>(false,eval e env))=es.map λe=>(false,eval e env):=by
 unfold backTo
 rw[we]
 apply List.map_congr_left
 intro e _
 rfl
theorem gi{M:Model}{P:Heap->Prop}{pos:Pos}{f:Value}{first:List Value}{es:List Expr}(aJ:starEach es env=es.map λe=>(false,eval e env))(aj:∀h,P h->∃k,(k=Keeper.frame\/k=Keeper.machine\/k=Keeper.boundFrame)/\Looks M h (keeperOf f) k)(h:wpAny M A (spliced (backTo pos (starEach es env))) (λvs c1=>P c1.heap/\wpAny M A (call f (first++vs)) Q E c1) E s):wpAny M A (callWith pos f first (backTo pos (starEach es env)) []) Q E s:=by
 rw[aJ,Me] at h |-
 refine callWith_of ?_ aj ?_
 .rw[List.any_map]
  simp
 .cases es with
  |nil=>
   have:wpAny M A (spliced []) (λvs c1=>P c1.heap/\wpAny M A (call f (first++vs)) Q E c1) E s:=h
   unfold evalArgs
   show wpAny M A (spliced []>>=_) _ E s
   refine wpAny_bind (wpAny_mono this (λvs bQ h'=>?_) λ_ _ x=>x)
   first
    |exact wpAny_bind (wpAny_pure (wpAny_bind (wpAny_pure (wpAny_pure h'))))
    |exact wpAny_holding (wpAny_bind (wpAny_pure (wpAny_bind (wpAny_pure (wpAny_pure h')))))
    |exact wpAny_bind (wpAny_pure (wpAny_holding (wpAny_bind (wpAny_pure (wpAny_bind (wpAny_pure (wpAny_pure h')))))))
  |cons e es=>exact evalArgs_plain h
def Mf(prog:Program)(w:World)(H:T)(g:Gh)(s:Shared)(ai:Addr->Option Ro)(J:am)(e:Expr)(O:T)(v:V)(Q:cI):Prop:=
 ∀au h' aF u,Ext g s.heap au h'->H.bP O->Cfg prog w O au h'->(∀es vs aU,SeenAs prog w O au h' ai J es vs aU->SeenAs prog w O au h' ai J (e::es) (u::vs) (v::aU))->Q u {s with heap:=h',toks:=aF}
theorem Zo(S:cx prog w G ta n){v:V}(h:b7 c J (aN G n c J) e H=some (v,O))(ag:O.cnt<=ba)(R:Room A n)(T:g.ta=ta)(N:EnvR c.sc env)(C:Cfg prog w H g s.heap)(F:FrR prog w H g s.heap env J ai)(ak:Mf prog w H g s ai J e O v Q):wpAny (model prog w) A (eval e env) Q E s:=by
 rcases CM h with ⟨x,p,u,o,e1,aj,aq,q⟩|h
 .rw[e1] at ak |-
  refine pI q (P:=λv O=>Mf prog w H g s ai J (.Name x p) O v Q->_) (λak=>?_) ak
  refine jh N F aj aq λv al=>ak g s.heap s.toks v (.refl _ _) (.refl _) C λes vs aU q=>?_
  rcases o with _|_
  .exact .val al q
  .obtain⟨aa,a,e,ah,aC⟩:=al
   rw[e] at aC |-
   exact .own aq aa ah aC q
 .exact S c J e H v O h ag A env ai g s Q E R T N C F λau h' aF u a b c d=>ak au h' aF u a b c (λ_ _ _ q=> .val d q)
theorem SeenAs.ext(k:H.bP O)(X:Ext g h au h')(aJ:ic g h ai){es:List Expr}{vs:List Value}{aU:List V}(q:SeenAs prog w H g h ai J es vs aU):SeenAs prog w O au h' ai J es vs aU:=by
 induction q with
 |nil=>exact .nil
 |val a _ bb=>exact .val (a.ext k X) bb
 |own aa ah aC bC _ bb=>exact .own aa ah aC (bC.seen k X.im (λo e=>X.old _ o e (aJ _ _ aC).mu) ah) bb
def Dy(prog:Program)(w:World)(H:T)(g:Gh)(s:Shared)(ai:Addr->Option Ro)(J:am)(es:List Expr)(O:T)(l:List V)(Q:List Value->Shared->Prop):Prop:=
 ∀au h' aF vs,Ext g s.heap au h'->H.bP O->Cfg prog w O au h'->SeenAs prog w O au h' ai J es vs l->Q vs {s with heap:=h',toks:=aF}
theorem SeenAs.more{u:Value}{v:V}(q:SeenAs prog w H g h ai J [e] [u] [v]){es:List Expr}{vs:List Value}{aU:List V}(k:SeenAs prog w H g h ai J es vs aU):SeenAs prog w H g h ai J (e::es) (u::vs) (v::aU):=by
 cases q with
 |val a _=>exact .val a k
 |own a b c d _=>exact .own a b c d k
theorem Dz(S:cx prog w G ta n){pos:Pos}(R:Room A n)(N:EnvR c.sc env):
  ∀{es:List Expr}{H:T}{l:List V}{O:T},dz (b7 c J (aN G n c J)) es H=some (l,O)->O.cnt<=ba->∀{g:Gh}{s:Shared}{Q:List Value->Shared->Prop},g.ta=ta->Cfg prog w H g s.heap->FrR prog w H g s.heap env J ai->
  Dy prog w H g s ai J es O l Q->wpAny (model prog w) A (spliced (backTo pos (starEach es env))) Q E s
 |[],H,l,O,h,_,g,s,Q,T,C,F,ak=>pI (show some ([],H)=some (l,O) from h) (P:=λl O=>Dy prog w H g s ai J [] O l Q->_) (λak=>args_nil (ak g s.heap s.toks [] (.refl _ _) (.refl _) C .nil)) ak
 |e::es,H,l,O,h,ag,g,s,Q,T,C,F,ak=>by
  obtain⟨v,aD,aa,h⟩:=b1 h
  obtain⟨vs,bS,ah,h⟩:=b1 h
  refine pI h (P:=λl O=>O.cnt<=ba->Dy prog w H g s ai J (e::es) O l Q->_) (λag ak=>?_) ag ak
  have cC:=pl aa C.ok.bld
  have cA:=CK ah cC.2
  refine args_cons (Zo S aa (aT cA.1.cnt ag) R T N C F λaV aB bh u aR k₁ aZ bT=>?_) (KH aa es env)
  have dA:=F.ext k₁ aR aZ.bn
  refine Dz S R N ah ag (aR.ta.trans T) aZ dA λcD a8 b8 aU cn dn b3 dr=>?_
  exact ak cD a8 b8 _ (aR.trans cn) (k₁.trans dn) b3 (((bT [] [] [] .nil).ext dn cn dA.sep).more dr)
theorem SeenAs.amN(im:∀a o,g.im a=some o->h.get? a=some o){es:List Expr}{vs:List Value}{aU:List V}(q:SeenAs prog w H g h ai J es vs aU):ValsH prog w H g h vs aU:=by
 induction q with
 |nil=>exact .nil
 |val a _ bb=>exact .cons (a.mono (.refl H) ⟨rfl,λ_ _ e=>e,[],(eh _).symm⟩ im) bb
 |own _ _ _ d _ bb=>exact .cons d bb
theorem ToV.trans{g aV:Gh}{aB:Heap}{bh:Nat}{v:V}(ak:ToV prog w H g s O v Q)(X:Ext g s.heap aV aB)(k:H.bP aD):ToV prog w aD aV {s with heap:=aB,toks:=bh} O v Q:=
 λcD a8 b8 u cn dn b3 dr=>ak cD a8 b8 u (X.trans cn) (k.trans dn) b3 dr
theorem Val.up{look:bA}{v:Value}(h:Val prog w H g g.im v u)(im:∀a o,g.im a=some o->look a=some o):Val prog w H g look v u:=h.mono (.refl H) ⟨rfl,λ_ _ e=>e,[],(eh _).symm⟩ im
theorem Mg(S:cx prog w G ta n)(R:Room A n)(N:EnvR c.sc env){op:BoolOp}{pos:Pos}:
  ∀{es:List Expr}{H:T}{v:V}{O:T},kw (aN G n c J) op es H=some (v,O)->O.cnt<=ba->∀{g:Gh}{s:Shared}{Q:cI},g.ta=ta->Cfg prog w H g s.heap->FrR prog w H g s.heap env J ai->
  ToV prog w H g s O v Q->wpAny (model prog w) A (boolOp pos op (evalEach es env)) Q E s
 |[],H,v,O,h,_,g,s,Q,T,C,F,ak=>aI h
 |[e],H,v,O,h,ag,g,s,Q,T,C,F,ak=>S c J e H v O h ag A env ai g s Q E R T N C F ak
 |e::bq::es,H,v,O,h,ag,g,s,Q,T,C,F,ak=>by
  obtain⟨u,aD,aa,h⟩:=b1 h
  obtain⟨t,a1,h⟩:=bD h
  have cC:=mw aa C.ok.bld
  have ap:aD.cnt<=ba:=by
   rcases eA h with ⟨_,h⟩|⟨_,h⟩
   .exact pI h (P:=λ_ O=>O.cnt<=ba->_) id ag
   .exact aT (CD ((gT G n n (cq _)).e c J) _ _ h cC.2).1.cnt ag
  show wpAny (model prog w) A (do
   let v <-eval e env
   standAt pos
   let t <-holding [v] (truthy v)
   match op,t with
   | .And,false| .Or,true=>pure v
   |_,_=>boolOp pos op (evalEach (bq::es) env)) Q E s
  refine wpAny_bind (S c J e H u aD aa ap A env ai g s _ E R T N C F λaV aB bh z aR k₁ aZ bT=>?_)
  refine wpAny_bind (wpAny_standAt (wpAny_bind (wpAny_holding ?_)))
  refine CQ (s:={s with heap:=aB,toks:=bh}) a1 (bT.up aZ.bn) aZ.bn λaF=>?_
  have lI:cond (wy op t) (some (u,aD)) (kw (aN G n c J) op (bq::es) aD)=some (v,O)->wpAny (model prog w) A (cond (wy op t) (pure z) (boolOp pos op (evalEach (bq::es) env))) Q E {s with heap:=aB,toks:=aF}:=λh=>by
   rcases eA h with ⟨e,h⟩|⟨e,h⟩<;>rw[e]
   rotate_left
   .exact Mg S R N (es:=bq::es) h ag (aR.ta.trans T) aZ (F.ext k₁ aR aZ.bn) (ak.trans aR k₁)
   .exact pI h (P:=λv O=>ToV prog w H g s O v Q->_) (λak=>wpAny_pure (ak aV aB aF z aR k₁ aZ bT)) ak
  rcases op<;>rcases t with _|_<;>exact lI h
end
section
variable (prog:Program)(w:World)(G:Gl)(ta:Ta)(K:Frag)(bp:Str->Option Value)
def c4(n:Nat)(c:Cx)(J:am)(e:Expr)(H:T)(v:V)(O:T):Prop:=
  ∀(A:Around)(env:Env)(ai:Addr->Option Ro)(g:Gh)(s:Shared)(Q:cI)(E:cI),
   Room A n->g.ta=ta->EnvR c.sc env->Cfg prog w H g s.heap->FrR prog w H g s.heap env J ai->
   ToV prog w H g s O v Q->
   wpAny (model prog w) A (eval e env) Q E s
def Mh(n:Nat):Prop:=∀(c:Cx)(J:am)(elt:Expr)(nH:List Comprehension)(sc:Scope)(pos:Pos)(H:T)(v:V)(O:T),
 aN G (n+1) c J (.ListComp elt nH sc pos) H=some (v,O)->O.cnt<=ba->c4 prog w ta (n+1) c J (.ListComp elt nH sc pos) H v O
def anl(f:Value)(b2:List Value)(H:T)(v:V)(O:T):Prop:=∀(A:Around)(n:Nat)(g:Gh)(s:Shared)(Q:cI)(E:cI),Room A n->3<=n->g.ta=ta->Cfg prog w H g s.heap->
 ∀aU,Vals prog w H g b2 aU->ToV prog w H g s O v Q->wpAny (model prog w) A (call f b2) Q E s
inductive PrmPut:Prop
 |mk (a:Addr) (m:lz K ta.gO a h7=true) (k:∀H row v O,H.put row=some (v,O)->O.cnt<=ba->∀(A:Around)(n:Nat)(g:Gh)(s:Shared)(nW:Value)(Q:cI)(E:cI),Room A n->g.ta=ta->Cfg prog w H g s.heap->
  Val prog w H g g.im nW row->ToV prog w H g s O v Q->wpAny (model prog w) A (call (.ref a) [.ref ta.tab,nW]) Q E s)
noncomputable def uC(H:T):T:={H with decls:=H.decls++[.int (-1)]}
inductive PrmDecl:Prop
 |mk (f:Value) (m:bp tX=some f) (k:keepIn K f=true) (q:∀(H:T)(i:Int)(x:Str),(H.bld&&Nat.blt H.decls.length 60)=true->∀(A:Around)(n:Nat)(g:Gh)(s:Shared)(el ep:Value)(Q:cI)(E:cI),Room A n->g.ta=ta->Cfg prog w H g s.heap->
  Val prog w H g g.im el (.int i)->Val prog w H g g.im ep (.str x)->(∀au h' aF u,Ext g s.heap au h'->Cfg prog w (uC H) au h'->Val prog w (uC H) au au.im u (.decl H.decls.length)->Q u {s with heap:=h',toks:=aF})->
  wpAny (model prog w) A (call f [.ref ta.tab,el,ep]) Q E s)
inductive PrmPar:Prop
 |mk (f:Value) (m:bp tY=some f) (k:keepIn K f=true) (q:∀(H:T)(x:Str)(v:V)(O:T),(H.bld&&Nat.blt H.bounds.length 60)=true->({H with bounds:=H.bounds++[-1]}:T).put (.tup [.int 10,.int H.bounds.length])=some (v,O)->O.cnt<=ba->
  ∀(A:Around)(n:Nat)(g:Gh)(s:Shared)(ep:Value)(Q:cI)(E:cI),Room A n->g.ta=ta->Cfg prog w H g s.heap->Val prog w H g g.im ep (.str x)->
  ToV prog w H g s O v Q->wpAny (model prog w) A (call f [.ref ta.tab,ep]) Q E s)
structure Prm:Prop where
 put:PrmPut prog w ta K
 amQ:PrmDecl prog w ta K bp
 amY:PrmPar prog w ta K bp
end
section
theorem xk{o:Expr}(h:hA o=true){a:Str}(k:wpAny (model prog w) A (eval o env) (λv c1=>wpAny (model prog w) A (getAttr v a true) Q E c1) E s):wpAny (model prog w) A (eval (.Attribute o a p) env) Q E s:=Attribute_any_ k (Za h a p env)
theorem Bool.ti{b:Bool}(h:(!b)=true):b=false:=by rcases b with _|_;rfl;exact nomatch h
theorem Mi(h:t4 J x=some u):a2 J x=some (u,false):=by
 obtain⟨⟨a,b⟩,e,h⟩:=bD h
 have q:b=false:=Bool.ti (br h).1
 rw[e,<-Option.some.inj (br h).2,q]
theorem Mj(h:nG J x=some u):a2 J x=some (u,true):=by
 obtain⟨⟨a,b⟩,e,h⟩:=bD h
 have q:b=true:=(br h).1
 rw[e,<-Option.some.inj (br h).2,q]
theorem Zp{u:List V}(h:pc J x=some u):a2 J x=some (.list u,true):=by
 obtain⟨⟨a,b⟩,e,h⟩:=bD h
 have q:b=true:=(br h).1
 rw[e,q,show a= .list u from t6 (br h).2]
theorem Zq{u:List (V×V)}(h:wC J x=some u):a2 J x=some (.dict u,true):=by
 obtain⟨⟨a,b⟩,e,h⟩:=bD h
 have q:b=true:=(br h).1
 rw[e,q,show a= .dict u from CA (br h).2]
theorem Zr(B:Bk prog w G ta K bp mb){v:V}(h:JV G c J x H=some (v,O)):c4 prog w ta (n+1) c J (.Name x p) H v O:=by
 intro A env ai g s Q E R T N C F ak
 rcases eA h with ⟨aj,h⟩|⟨_,h⟩
 .refine h8 h (P:=λv O=>ToV prog w H g s O v Q->_) (λu bG ak=>?_) ak
  obtain⟨z,bi,al⟩:=B.val x u bG
  exact pB B C T N (rA aj) bi (ak g s.heap s.toks z (.refl _ _) (.refl _) C (al H g T λa o e=>C.base a o (T▸e)))
 .exact h8 (br h).2 (P:=λv O=>ToV prog w H g s O v Q->_) (λu bG ak=>jh N F (CL (br h).1) (Mi bG) λz bi=>ak g s.heap s.toks z (.refl _ _) (.refl _) C bi) ak
theorem Got.of{aF:Nat}{v:V}(ak:ToV prog w H g s O v Q)(X:Ext g s.heap au h')(k:H.bP O):Got prog w O au {s with heap:=h',toks:=aF} Q v:=λhF jP dC u a b c=>ak hF jP dC u (X.trans a) k b c
theorem Zs(S:cx prog w G ta n){es:List Expr}{v:V}(h:ob (dz (aN G n c J) es H) (λl H=>ow (jM l) (some (V.tup l,H)))=some (v,O))(ag:O.cnt<=ba):c4 prog w ta (n+1) c J (.Tuple es k p) H v O:=by
 obtain⟨l,aD,h,ah⟩:=b1 h
 obtain⟨a6,ah⟩:=br ah
 revert ag
 refine pI ah (P:=λv O=>O.cnt<=ba->c4 prog w ta (n+1) c J (.Tuple es k p) H v O) λag A env ai g s Q E R T N C F ak=>?_
 refine wpAny_Tuple_spliced (mB S (R.less (cG n)) N h ag T C F λau h' aF vs X k ct V=>?_)
 obtain⟨ds,aa,ah⟩:=V.flat (aK a6).1
 exact⟨pm (V.length▸gd (aK a6).2),(Got.of ak X k).tup (s:={s with heap:=h',toks:=aF}) ct (vs:=vs.toArray) (n:=0) ah aa aF⟩
theorem Zt(S:cx prog w G ta n){es:List Expr}{v:V}(h:ob (dz (aN G n c J) es H) (λl H=>ow (jM l) (some (V.list l,H)))=some (v,O))(ag:O.cnt<=ba):c4 prog w ta (n+1) c J (.List es p) H v O:=by
 obtain⟨l,aD,h,ah⟩:=b1 h
 obtain⟨a6,ah⟩:=br ah
 revert ag
 refine pI ah (P:=λv O=>O.cnt<=ba->c4 prog w ta (n+1) c J (.List es p) H v O) λag A env ai g s Q E R T N C F ak=>?_
 refine wpAny_List_spliced (mB S (R.less (cG n)) N h ag T C F λau h' aF vs X k ct V=>?_)
 obtain⟨ds,aa,ah⟩:=V.flat (aK a6).1
 exact⟨pm (V.length▸gd (aK a6).2),(Got.of ak X k).list (s:={s with heap:=h',toks:=aF}) ct (vs:=vs.toArray) (n:=0) ah aa aF⟩
theorem tab_run(S:cx prog w G ta n){o sl:Expr}{a:Str}{rR p:Pos}{i v:V}(aX:hA o=true)(aa:aN G n c J o H=some (.tab,aD))(ah:aN G n c J sl aD=some (i,O))(ag:O.cnt<=ba)(DA:Ta->Value){k9 id:String}(lq:∀au (bQ:Shared),Cfg prog w O au bQ.heap->bQ.TypeIs (DA au.ta) k9)(iU:typeLookup (.type k9) "__getitem__"=pure (some (.builtin id)))(Zu:∀{A:Around}{E:cI}(au:Gh)(bQ:Shared)(kG:cI),au.ta=ta->Cfg prog w aD au bQ.heap->kG (DA au.ta) {bQ with toks:=bQ.toks+1}->wpAny (model prog w) A (getAttr (.ref au.ta.tab) a true) kG E bQ)(Zv:∀{A:Around}{E:cI}(au:Gh)(bQ:Shared)(el:Value)(kG:cI),Cfg prog w O au bQ.heap->Val prog w O au bQ.heap.get? el i->Got prog w O au bQ kG v->wpAny (model prog w) A (getItem (DA au.ta) el) kG E bQ):
  c4 prog w ta (n+1) c J (.Subscript (.Attribute o a rR) sl p) H v O:=by
 intro A env ai g s Q E R T N C F ak
 have bz:=R.less (cG n)
 have cC:=jR aa C.ok
 have cA:=mw ah cC.2
 refine Subscript_ (xk aX (S c J o H .tab aD aa (aT cA.1.cnt ag) A env ai g s _ E bz T N C F λaV aB bh u aR k₁ aZ bT=>?_))
 rw[show u= .ref aV.ta.tab from bT]
 refine Zu aV {s with heap:=aB,toks:=bh} _ (aR.ta.trans T) aZ ?_
 refine S c J sl aD i O ah ag A env ai aV {s with heap:=aB,toks:=bh+1} _ E bz (aR.ta.trans T) N aZ (F.ext k₁ aR aZ.bn) λcD a8 b8 el cn dn b3 dr=>?_
 rw[<-cn.ta]
 refine tail_any (lq cD {s with heap:=a8,toks:=b8} b3) iU ?_ (L1 ah _ _)
 exact Zv cD {s with heap:=a8,toks:=b8} el _ b3 (dr.up b3.bn) (Got.of ak (aR.trans cn) (k₁.trans dn))
theorem Zw(S:cx prog w G ta n)(B:Bk prog w G ta K bp mb){o sl:Expr}{a:Str}{rR p:Pos}{v:V}(h:JW (aN G n c J) o sl a H=some (v,O))(ag:O.cnt<=ba):
  c4 prog w ta (n+1) c J (.Subscript (.Attribute o a rR) sl p) H v O:=by
 obtain⟨aX,h⟩:=br h
 obtain⟨b,aD,aa,h⟩:=b1 h
 obtain⟨ao,h⟩:=br h
 obtain⟨i,bS,ah,h⟩:=b1 h
 rw[wM ao] at aa
 revert ag
 refine h8 h (P:=λv O=>O.cnt<=ba->c4 prog w ta (n+1) c J (.Subscript (.Attribute o a rR) sl p) H v O) λv aC ag=>?_
 rcases eA aC with ⟨aw,aC⟩|⟨_,aC⟩
 .rw[sEq_iff.mp aw]
  exact tab_run S aX aa ah ag (λt=> .ref t.rows) (λau bQ ct=>by obtain ⟨vs,m,ds,q,_⟩:=ct.tok.rows;exact⟨_,q,rfl⟩) slot_list_getitem.lookup
   (λau bQ kG kH ct q=>Yo ct (by rw [kH];exact B.tp) q) (λau bQ el kG ct iT Gt=>Yw ct ag aC iT Gt)
 rcases eA aC with ⟨aw,aC⟩|⟨_,aC⟩
 .obtain⟨k,e,aC⟩:=bD aC
  obtain⟨ap,aC⟩:=br aC
  rw[sEq_iff.mp aw,<-Option.some.inj aC]
  exact tab_run S aX aa ah ag (λt=> .ref t.decls) (λau bQ ct=>by obtain ⟨vs,m,q,_⟩:=ct.tok.decls;exact⟨_,q,rfl⟩) slot_list_getitem.lookup
   (λau bQ kG kH ct q=>Yq ct (by rw [kH];exact B.tp) q) (λau bQ el kG ct iT Gt=>Yx ct ag (fi (aK ap).1) (fi (aK ap).2) (nJ e▸iT) Gt)
 .obtain⟨aw,aC⟩:=br aC
  obtain⟨k,e,aC⟩:=bD aC
  obtain⟨z,bi,aC⟩:=bD aC
  rw[sEq_iff.mp aw,<-Option.some.inj aC]
  exact tab_run S aX aa ah ag (λt=> .ref t.du) (λau bQ ct=>by obtain ⟨vs,m,q,_⟩:=ct.tok.du;exact⟨_,q,rfl⟩) slot_list_getitem.lookup
   (λau bQ kG kH ct q=>Yr ct (by rw [kH];exact B.tp) q) (λau bQ el kG ct iT Gt=>Yy ct ag bi (nJ e▸iT) Gt)
end
section
theorem Zx(S:cx prog w G ta n){b sl:Expr}{cQ el v:V}(aa:b7 c J (aN G n c J) b H=some (cQ,aD))(ah:aN G n c J sl aD=some (el,O))(aC:fE O cQ el=some v)(ag:O.cnt<=ba):
  c4 prog w ta (n+1) c J (.Subscript b sl p) H v O:=by
 intro A env ai g s Q E R T N C F ak
 have bz:=R.less (cG n)
 have cC:=pl aa C.ok.bld
 have cA:=mw ah cC.2
 refine Subscript_ (my S aa (aT cA.1.cnt ag) bz T N C F λaV aB bh u aR k₁ aZ bT=>?_)
 have dA:=F.ext k₁ aR aZ.bn
 refine S c J sl aD el O ah ag A env ai aV {s with heap:=aB,toks:=bh} _ E bz (aR.ta.trans T) N aZ dA λcD a8 b8 i cn dn b3 dr=>?_
 have a7:=(bT.ext dn cn dA.sep b3.bn).val b3.bn
 obtain⟨k9,id,lq,iU⟩:=Zb (s:={s with heap:=a8,toks:=b8}) aC b3 a7
 refine tail_any lq iU ?_ (L1 ah _ _)
 exact XQ (s:={s with heap:=a8,toks:=b8}) aC b3 a7 (dr.up b3.bn) (Got.of ak (aR.trans cn) (k₁.trans dn))
inductive CutT (prog:Program) (w:World) (O:T) (cQ:V):Prop
 |mk (k9 id:String) (k:typeLookup (.type k9) "__getitem__"=pure (some (.builtin id))) (t:∀au (bQ:Shared) xm,Cfg prog w O au bQ.heap->Val prog w O au bQ.heap.get? xm cQ->bQ.TypeIs xm k9)
theorem Zy{b l u r:V}(h:o7 b l u=some r):CutT prog w O b:=by
 rcases a1:gw b with _|_
 .exact⟨"list",_,slot_list_getitem.lookup,λau bQ xm ct iT=>(K9 h ct iT).elim (λq=>nomatch a1.symm.trans q.1) (·.2)⟩
 .exact⟨"tuple",_,slot_tuple_getitem.lookup,λau bQ xm ct iT=>(K9 h ct iT).elim (·.2) λq=>nomatch a1.symm.trans q.1⟩
theorem Zz(S:cx prog w G ta n)(a7:uB prog w G ta n){b:Expr}{lo up:Option Expr}{ps p:Pos}{H aD bS O:T}{cQ gg gh v:V}(aa:b7 c J (aN G n c J) b H=some (cQ,aD))(ah:ln G n c J lo aD=some (gg,bS))(aC:ln G n c J up bS=some (gh,O))(bC:o7 cQ gg gh=some v)(ag:O.cnt<=ba):c4 prog w ta (n+1) c J (.Subscript b (.Slice lo up none ps) p) H v O:=by
 intro A env ai g s Q E R T N C F ak
 have bz:=R.less (cG n)
 have cC:=pl aa C.ok.bld
 have cA:=LS ah cC.2
 have iL:=LS aC cA.2
 obtain⟨k9,id,iU,lq⟩:=Zy (prog:=prog) (w:=w) (O:=O) bC
 rw[eval_Subscript]
 refine wpAny_bind (my S aa (aT (aT cA.1.cnt iL.1.cnt) ag) bz T N C F λaV aB bh u aR k₁ aZ bT=>?_)
 have dA:=F.ext k₁ aR aZ.bn
 refine wpAny_bind (wpAny_holding (wpAny_Slice (a7 c J lo aD gg bS ah (aT iL.1.cnt ag) A env ai aV {s with heap:=aB,toks:=bh} _ E bz (aR.ta.trans T) N aZ dA λcD a8 b8 l cn dn b3 dr=>?_)))
 have gj:=dA.ext dn cn b3.bn
 refine a7 c J up bS gh O aC ag A env ai cD {s with heap:=a8,toks:=b8} _ E bz ((aR.trans cn).ta.trans T) N b3 gj λDB bN gX r hJ rS fo DC=>?_
 rw[evalPart_none]
 refine wpAny_pure (wpAny_bind (wpAny_standAt ?_))
 have Mk:=((bT.ext dn cn dA.sep b3.bn).ext rS hJ gj.sep fo.bn).val fo.bn
 have keep:∀a o,bN.get? a=some o->(bN.push (jk l r)).get? a=some o:=λa o e=>ey _ e
 have ZA:({s with heap:=bN.push (jk l r),toks:=gX}:Shared).TypeIs u k9:=lq DB _ u (fo.grow keep) (Mk.mono (.refl O) ⟨rfl,λ_ _ e=>e,[],(eh _).symm⟩ keep)
 show wpAny _ A (subscriptTail b (.Slice lo up none ps) u (.ref bN.objs.size)) Q E _
 refine tail_any (ops:=[.ref bN.objs.size,u]) ZA iU ?_ rfl
 exact XU (s:={s with heap:=bN,toks:=gX}) bC fo Mk ((dr.ext rS hJ).up fo.bn) (DC.up fo.bn) (Got.of ak ((aR.trans cn).trans hJ) ((k₁.trans dn).trans rS))
theorem ZB(S:cx prog w G ta n)(B:Bk prog w G ta K bp mb){o:Expr}{a:Str}{v:V}(h:JX (aN G n c J) o a H=some (v,O))(ag:O.cnt<=ba):
  c4 prog w ta (n+1) c J (.Attribute o a p) H v O:=by
 obtain⟨aX,h⟩:=br h
 obtain⟨b,aD,aa,h⟩:=b1 h
 revert ag
 refine h8 h (P:=λv O=>O.cnt<=ba->c4 prog w ta (n+1) c J (.Attribute o a p) H v O) λv ah ag A env ai g s Q E R T N C F ak=>?_
 refine xk aX (S c J o H b aD aa ag A env ai g s _ E (R.less (cG n)) T N C F λaV aB bh u aR k₁ aZ bT=>?_)
 have tp:Tp aV.ta K:=by rw [aR.ta,T];exact B.tp
 rcases b
 case host=>
  obtain⟨e,hh⟩:=bT
  rw[sEq_iff.mp (br ah).1,e]
  exact Ys (s:={s with heap:=aB,toks:=bh}) aZ tp hh (ak aV aB _ _ aR k₁ aZ (gb (br ah).2 (P:=Val prog w aD aV aV.im _) rfl))
 case decl k=>
  obtain⟨q,bU,bZ,e⟩:=bT
  rw[e]
  rcases eA ah with ⟨aw,aC⟩|⟨_,aC⟩
  .rw[sEq_iff.mp aw]
   rcases k with _|j
   .exact nomatch bU
   .exact Yu (s:={s with heap:=aB,toks:=bh}) aZ tp bZ aC λz bi=>ak aV aB _ _ aR k₁ aZ bi
  .rw[sEq_iff.mp (br aC).1]
   exact Yv (s:={s with heap:=aB,toks:=bh}) aZ tp bZ λz bi=>ak aV aB _ _ aR k₁ aZ (gb (br aC).2 (P:=Val prog w aD aV aV.im _) bi)
 all_goals exact aI ah
end
section
theorem lJ{M:Model}{f:Value}(a6:∀a,f≠ .ref a):∃k,(k=Keeper.frame\/k=Keeper.machine\/k=Keeper.boundFrame)/\Looks M h (keeperOf f) k:=
 ⟨.machine,.inr (.inl rfl),Looks.of_pure (by rcases f<;>first|rfl|exact absurd rfl (a6 _))⟩
theorem Ml{α:Type}{P:α->Prop}{a b:α}(aw:P a)(ao:P b):∀c,P (cond c a b)
 |true=>aw
 |false=>ao
theorem DD(x:Str)(a:Addr):pv x≠ .ref a:=by
 have k:∀{c:Bool}{u v:Value},u≠ .ref a->v≠ .ref a->cond c u v≠ .ref a:=λ{c u v} bG al=>Ml (P:=λv=>v≠Value.ref a) bG al c
 exact k nofun (k nofun (k nofun (k nofun (k nofun (k nofun nofun)))))
theorem ZC(H:T)(vs:List V):f1 H mm vs=none:=by rfl'
theorem ZD(H:T)(vs:List V):f1 H tW vs=none:=by rfl'
theorem ZE(H:T)(vs:List V):f1 H h5 vs=none:=by rfl'
theorem ZF{f:Str}{vs:List V}{v:V}(h:f1 O f vs=some v):nS f=pv f:=by
 have no:∀{y:Str},f1 O y vs=none->a9 f y=false:=λ{y} k=>by
  rcases e:a9 f y with _|_
  .rfl
  .rw[sEq_iff.mp e,k] at h;exact aI h
 unfold nS
 rw[no (ZC O vs),no (ZD O vs),no (ZE O vs)];rfl
theorem ZG(S:cx prog w G ta n)(lK:nP prog w G ta K n)(B:Bk prog w G ta K bp mb){f:Str}{cR p:Pos}{fn:Fn}{vs:List V}{v:V}(aj:lk c.sc.names f=some .globalImplicit)(a6:G.fn f=some fn)(aa:dz (b7 c J (aN G n c J)) as H=some (vs,aD))(ah:bK G n fn vs aD=some (v,O))(gW:gx J v as=true)(ag:O.cnt<=ba):
  c4 prog w ta (n+1) c J (.Call (.Name f cR) as [] p) H v O:=by
 intro A env ai g s Q E R T N C F ak
 have bz:=R.less (cG n)
 have cC:=CK aa C.ok.bld
 have cA:=(gT G n n (cq _)).c fn vs aD _ _ ah cC.2
 obtain⟨nQ,uD,aL⟩:=B.fn f fn a6
 obtain⟨a,o,b4,e,DE,_⟩:=aL.ex
 rw[e] at aL uD
 refine Call_Name rfl (pB B C T N aj uD ?_)
 refine gi (P:=λh=>K.In h) (Md env aa) (λh X=>keeps_K DE h X) (Dz S bz N aa (aT cA.1.cnt ag) T C F λaV aB bh aU aR k₁ aZ bT=>?_)
 have dA:=F.ext k₁ aR aZ.bn
 refine⟨Cfg.gq (s:={s with heap:=aB,toks:=bh}) aZ (by rw [aR.ta,T];exact B.tp),?_⟩
 rw[tA]
 exact Zj (s:={s with heap:=aB,toks:=bh}) lK ah ag aL gW bz (aR.ta.trans T) aZ dA.sep bT (ak.trans aR k₁)
theorem ZH(S:cx prog w G ta n)(B:Bk prog w G ta K bp mb){f:Str}{cR p:Pos}{vs:List V}{v:V}(aj:lk c.sc.names f=some .globalImplicit)(a6:G.free f=true)(aa:dz (b7 c J (aN G n c J)) as H=some (vs,O))(ah:f1 O f vs=some v)(ag:O.cnt<=ba):
  c4 prog w ta (n+1) c J (.Call (.Name f cR) as [] p) H v O:=by
 intro A env ai g s Q E R T N C F ak
 have bz:=R.less (cG n)
 refine Call_Name rfl (rO B C T N aj a6 ?_)
 rw[ZF ah]
 refine gi (P:=λ_=>True) (Md env aa) (λh _=>lJ (DD f)) (Dz S bz N aa ag T C F λaV aB bh aU aR k₁ aZ bT=>⟨trivial,?_⟩)
 rw[tA]
 exact Yn (s:={s with heap:=aB,toks:=bh}) ah aZ bz (bT.amN aZ.bn) (Got.of ak aR k₁)
end
section
theorem ZI{u v:V}{z:Value}(h:Cq u=some v)(V:Val prog w H g g.im z u)(ak:∀(b:Bool) aF,v= .bool b->Q (.bool b) {s with toks:=aF}):wpAny (model prog w) A (call (.builtin "isinstance") [z,.type "str"]) Q E s:=by
 rcases u
 case str=>obtain⟨_,t,e⟩:=V.str_inv;rw[e];exact PySem.IsiPair.str_str (ak true _ (Option.some.inj h).symm)
 case int=>obtain⟨t,e⟩:=V.int_inv;rw[e];exact PySem.IsiPair.int_str (ak false _ (Option.some.inj h).symm)
 all_goals exact aI h
theorem ZJ(S:cx prog w G ta n)(B:Bk prog w G ta K bp mb){f t:Str}{cR tp p:Pos}{u v:V}(aj:lk c.sc.names f=some .globalImplicit)(a6:G.free f=true)(ZK:f=mm)(a1:t=tW)(DF:lk c.sc.names t=some .globalImplicit)(ZL:G.free t=true)(aa:aN G n c J e H=some (u,O))(ao:Cq u=some v)(ag:O.cnt<=ba):
  c4 prog w ta (n+1) c J (.Call (.Name f cR) [e,.Name t tp] [] p) H v O:=by
 intro A env ai g s Q E R T N C F ak
 have bz:=R.less (cG n)
 have e1:nS f= .builtin "isinstance":=by rw [ZK];rfl
 have e2:nS t= .type "str":=by rw [a1];rfl
 have aJ:starEach [e,.Name t tp] env=[e,.Name t tp].map λe=>(false,eval e env):=by rw [nK aa];rfl
 refine Call_Name rfl (rO B C T N aj a6 ?_)
 rw[e1]
 refine gi (P:=λ_=>True) aJ (λh _=>lJ (λa q=>nomatch q)) ?_
 refine args_cons (S c J e H u O aa ag A env ai g s _ E bz T N C F λaV aB bh z aR k₁ aZ bT=>?_) (nK aa _ env)
 refine args_cons (rO (s:={s with heap:=aB,toks:=bh}) B aZ (aR.ta.trans T) N DF ZL ?_) rfl
 refine args_nil ⟨trivial,?_⟩
 rw[e2]
 exact ZI (s:={s with heap:=aB,toks:=bh}) ao bT λb aF e=>ak aV aB aF _ aR k₁ aZ (e▸ .bool b)
theorem ZM(S:cx prog w G ta n)(B:Bk prog w G ta K bp mb)(P:Prm prog w ta K bp){f:Str}{cR p:Pos}{vs:List V}{v:V}(aj:lk c.sc.names f=some .globalImplicit)(a6:f=tX)(aa:dz (aN G n c J) as H=some (vs,aD))(ah:Cr aD vs=some (v,O))(ag:O.cnt<=ba):c4 prog w ta (n+1) c J (.Call (.Name f cR) as [] p) H v O:=by
 rcases vs with _|⟨t,r⟩
 .exact aI ah
 obtain⟨⟨el,ep⟩,e,ah⟩:=bD ah
 obtain⟨ap,ah⟩:=br ah
 obtain⟨ap,ao⟩:=aK ap
 obtain⟨ap,hx⟩:=aK ap
 obtain⟨a1,hi⟩:=aK ap
 obtain⟨i,ig⟩:=Kg hi
 obtain⟨x,ex⟩:=Kh hx
 have ig:el= .int i:=ig
 have ex:ep= .str x:=ex
 rw[wM a1,rH e,ig,ex] at aa
 revert ag
 refine pI ah (P:=λv O=>O.cnt<=ba->c4 prog w ta (n+1) c J (.Call (.Name f cR) as [] p) H v O) λag A env ai g s Q E R T N C F ak=>?_
 have bz:=R.less (cG n)
 have xn:aD.bP (uC aD):=((Gr.dec aD (by rw [d5];exact eZ _ _)) (rz aa C.ok.bld).2).1
 obtain⟨nQ,bU,bZ,dJ⟩:=P.amQ
 refine Call_Name rfl (pB B C T N aj (a6▸bU) ?_)
 refine gi (P:=λh=>K.In h) (nV env aa) (λh X=>keeps_K bZ h X) (mB S bz N aa ag T C F λaV aB bh aU aR k₁ aZ bT=>?_)
 refine⟨Cfg.gq (s:={s with heap:=aB,toks:=bh}) aZ (by rw [aR.ta,T];exact B.tp),?_⟩
 obtain⟨pG,aU,e1,en,bT⟩:=bT.dat
 obtain⟨DG,aU,e2,er,bT⟩:=bT.dat
 obtain⟨Mm,aU,e3,e4,bT⟩:=bT.dat
 rw[e1,e2,e3,bT.dat,show pG= .ref aV.ta.tab from en,aR.ta,T]
 exact dJ aD i x ao A n aV {s with heap:=aB,toks:=bh} _ _ Q E bz (aR.ta.trans T) aZ er e4 λcD a8 b8 u cn b3 dr=>ak cD a8 b8 u (aR.trans cn) (k₁.trans xn) b3 dr
theorem ZN(S:cx prog w G ta n)(B:Bk prog w G ta K bp mb)(P:Prm prog w ta K bp){f:Str}{cR p:Pos}{vs:List V}{v:V}(aj:lk c.sc.names f=some .globalImplicit)(a6:f=tY)(aa:dz (aN G n c J) as H=some (vs,aD))(ah:Cs aD vs=some (v,O))(ag:O.cnt<=ba):c4 prog w ta (n+1) c J (.Call (.Name f cR) as [] p) H v O:=by
 intro A env ai g s Q E R T N C F ak
 have rT:aD.cnt<=ba:=aT ((Kr _ _ ah) (rz aa C.ok.bld).2).1.cnt ag
 obtain⟨⟨t,ep⟩,e,ah⟩:=bD ah
 obtain⟨ap,ah⟩:=br ah
 obtain⟨ap,ao⟩:=aK ap
 obtain⟨a1,hx⟩:=aK ap
 obtain⟨x,ex⟩:=Kh hx
 have ex:ep= .str x:=ex
 have a1:t= .tab:=wM a1
 rw[rH e] at aa
 change dz _ _ _=some ([t,ep],aD) at aa
 rw[a1,ex] at aa
 have bz:=R.less (cG n)
 obtain⟨nQ,bU,bZ,dJ⟩:=P.amY
 refine Call_Name rfl (pB B C T N aj (a6▸bU) ?_)
 refine gi (P:=λh=>K.In h) (nV env aa) (λh X=>keeps_K bZ h X) (mB S bz N aa rT T C F λaV aB bh aU aR k₁ aZ bT=>?_)
 refine⟨Cfg.gq (s:={s with heap:=aB,toks:=bh}) aZ (by rw [aR.ta,T];exact B.tp),?_⟩
 obtain⟨pG,aU,e1,en,bT⟩:=bT.dat
 obtain⟨DG,aU,e2,er,bT⟩:=bT.dat
 rw[e1,e2,bT.dat,show pG= .ref aV.ta.tab from en,aR.ta,T]
 exact dJ aD x v O ao ah ag A n aV {s with heap:=aB,toks:=bh} _ Q E bz (aR.ta.trans T) aZ er (ak.trans aR k₁)
theorem ZO{o:Expr}(h:hA o=true)(a:Str)(env:Env):attributeBase o a env (eval o env)=eval o env:=by
 rcases o
 case Call=>exact nomatch h
 all_goals rfl
theorem pH{o:Expr}(h:hA o=true){m:Str}{cj p:Pos}(dS:(cj.endLine==p.line)=true)(pJ:as.length<25)(aJ:starEach as env=as.map λe=>(false,eval e env))(k:∀di,wpAny (model prog w) A (eval o env) (λMn c1=>wpAny (model prog w) A (getMethod Mn m di) (λDH xj=>wpAny (model prog w) A (callWith p DH.1 DH.2 (backTo p (starEach as env)) []) Q E xj) E c1) E s):
  wpAny (model prog w) A (eval (.Call (.Attribute o m cj) as [] p) env) Q E s:=by
 rw[arm_eval_Call,ZO h]
 have ZP:methodCallForm (as.length+([]:List Keyword).length) (backTo p (starEach as env)) (backToKw p (keywordEach [] env))=true:=by
  rw[aJ,Me]
  unfold methodCallForm
  rw[i6]
  exact(c6 _ _).mpr ⟨(c6 _ _).mpr ⟨List.all_eq_true.mpr λ_ _=>rfl,rfl⟩,decide_eq_true (z3 pJ (by decide))⟩
 have ZQ:methodCallPos true o env cj p=pure p:=by unfold methodCallPos;rw[dS];rfl
 refine wpAny_bind (wpAny_mono (k (do return (<-importBound o env).getD true)) (λMn c1 aB=>wpAny_bind (wpAny_standAt ?_)) λ_ _ e=>e)
 unfold methodCall
 rw[ZP]
 exact wpAny_bind (wpAny_holding (wpAny_mono aB (λDH xj a8=>wpAny_bind (wpAny_of_eq ZQ a8)) λ_ _ e=>e))
theorem ZR(S:cx prog w G ta n)(B:Bk prog w G ta K bp mb)(P:Prm prog w ta K bp){o:Expr}{cj p:Pos}{H aD bS O:T}{row v:V}(aX:hA o=true)(dS:(cj.endLine==p.line)=true)(pJ:as.length<25)(aa:aN G n c J o H=some (.tab,aD))(ah:dz (aN G n c J) as aD=some ([row],bS))(aC:bS.put row=some (v,O))(ag:O.cnt<=ba):
  c4 prog w ta (n+1) c J (.Call (.Attribute o h7 cj) as [] p) H v O:=by
 intro A env ai g s Q E R T N C F ak
 have bz:=R.less (cG n)
 have cC:=jR aa C.ok
 have cA:=rz ah cC.2
 have iL:=wQ _ _ aC cA.2
 have cP:=aT iL.1.cnt ag
 obtain⟨a,bU,bZ⟩:=P.put
 refine pH aX dS pJ (nV env ah) λdi=>S c J o H .tab aD aa (aT cA.1.cnt cP) A env ai g s _ E bz T N C F λaV aB bh u aR k₁ aZ bT=>?_
 rw[show u= .ref aV.ta.tab from bT]
 have hl:=aR.ta.trans T
 obtain⟨es,m,t1,_,_,_,_,_,_,t2⟩:=aZ.tok.cU
 have keep:keepIn K (.ref a)=true:=(aK bU).2
 refine Dd (s:={s with heap:=aB,toks:=bh}) (Cfg.gq (s:={s with heap:=aB,toks:=bh}) aZ (by rw [hl];exact B.tp)) (aZ.bn _ _ aZ.tok.tab) (aZ.bn _ _ t1) (by rw [hl];exact bU) t2 ?_
 refine gi (P:=λh=>K.In h) (nV env ah) (λh X=>keeps_K keep h X) (mB S bz N ah cP hl aZ (F.ext k₁ aR aZ.bn) λcD a8 b8 aU cn dn b3 dr=>?_)
 have uE:=cn.ta.trans hl
 refine⟨Cfg.gq (s:={s with heap:=a8,toks:=b8}) b3 (by rw [uE];exact B.tp),?_⟩
 obtain⟨pG,aU,e1,en,dr⟩:=dr.dat
 rw[hl,e1,dr.dat]
 exact bZ bS row v O aC ag A n cD {s with heap:=a8,toks:=b8} _ Q E bz uE b3 en (ak.trans (aR.trans cn) (k₁.trans dn))
theorem ZS(S:cx prog w G ta n)(lK:nP prog w G ta K n)(B:Bk prog w G ta K bp mb){o:Expr}{m:Str}{cj p:Pos}{H aD bS O:T}{vs:List V}{v:V}{fn:Fn}(aX:hA o=true)(dS:(cj.endLine==p.line)=true)(pJ:as.length<25)(aa:aN G n c J o H=some (.host,aD))(av:G.i3 m=some fn)(ah:dz (aN G n c J) as aD=some (vs,bS))(aC:bK G n fn (.host::vs) bS=some (v,O))(ag:O.cnt<=ba):
  c4 prog w ta (n+1) c J (.Call (.Attribute o m cj) as [] p) H v O:=by
 intro A env ai g s Q E R T N C F ak
 have bz:=R.less (cG n)
 have cC:=jR aa C.ok
 have cA:=rz ah cC.2
 have iL:=(gT G n n (cq _)).c fn _ bS _ _ aC cA.2
 have cP:=aT iL.1.cnt ag
 obtain⟨ZT,a,bU,aL⟩:=B.i3 m fn av
 refine pH aX dS pJ (nV env ah) λdi=>S c J o H .host aD aa (aT cA.1.cnt cP) A env ai g s _ E bz T N C F λaV aB bh u aR k₁ aZ bT=>?_
 obtain⟨e,hh⟩:=bT
 rw[e]
 have hl:=aR.ta.trans T
 obtain⟨es,k,t1,_,t2⟩:=aZ.tok.hv hh
 have keep:keepIn K (.ref a)=true:=(aK bU).2
 refine Dd (s:={s with heap:=aB,toks:=bh}) (Cfg.gq (s:={s with heap:=aB,toks:=bh}) aZ (by rw [hl];exact B.tp)) (aZ.bn _ _ (aZ.tok.host hh)) (aZ.bn _ _ t1) (by rw [hl];exact bU) (t2 m ZT) ?_
 refine gi (P:=λh=>K.In h) (nV env ah) (λh X=>keeps_K keep h X) (mB S bz N ah cP hl aZ (F.ext k₁ aR aZ.bn) λcD a8 b8 aU cn dn b3 dr=>?_)
 have uE:=cn.ta.trans hl
 refine⟨Cfg.gq (s:={s with heap:=a8,toks:=b8}) b3 (by rw [uE];exact B.tp),?_⟩
 have ZU:Val prog w bS cD cD.im (.ref aV.ta.host) .host:=by show _/\_;rw[cn.ta];exact⟨rfl,hh⟩
 exact lK fn _ bS v O aC ag (.ref a) aL A cD {s with heap:=a8,toks:=b8} _ Q E bz uE b3 (.cons ZU dr) (ak.trans (aR.trans cn) (k₁.trans dn))
end
section
theorem Mp{o:Obj}{di:Sem Bool}{Q:Value×List Value->Shared->Prop}(aG:s.heap.get? a=some o)(hx:o.ExactDict)(ak:Q (.builtin "dict.get",[.ref a]) s):
  wpAny (model prog w) A (getMethod (.ref a) o6 di) Q E s:=
 getMethod_builtin (T:="dict") ⟨o,aG,hx.1⟩ PySem.F.plainAttrs_dict zJ PySem.F.type_dict_get (λb e=>⟨o,by injection e with e;exact e▸aG,hx.2.1⟩) ak
theorem ZV(S:cx prog w G ta n)(B:Bk prog w G ta K bp mb){o k d:Expr}{i:Str}{ZW cj p:Pos}{H aD bS O:T}{row v:V}(aX:hA o=true)(dS:(cj.endLine==p.line)=true)(hi:i=jc)(aa:aN G n c J o H=some (.tab,aD))(ah:aN G n c J k aD=some (row,bS))(aC:aN G n c J d bS=some (.int (-1),O))(bC:O.find row=some v)(ag:O.cnt<=ba):
  c4 prog w ta (n+1) c J (.Call (.Attribute (.Attribute o i ZW) o6 cj) [k,d] [] p) H v O:=by
 intro A env ai g s Q E R T N C F ak
 rw[hi]
 have bz:=R.less (cG n)
 have cC:=jR aa C.ok
 have cA:=mw ah cC.2
 have iL:=mw aC cA.2
 have cP:=aT iL.1.cnt ag
 have eT:=aT cA.1.cnt cP
 have aJ:starEach [k,d] env=[k,d].map λe=>(false,eval e env):=by rw [nK ah,nK aC];rfl
 refine pH rfl dS (by simp) aJ λdi=>xk aX (S c J o H .tab aD aa eT A env ai g s _ E bz T N C F λaV aB bh u aR k₁ aZ bT=>?_)
 rw[show u= .ref aV.ta.tab from bT]
 have hl:=aR.ta.trans T
 have dA:=F.ext k₁ aR aZ.bn
 refine Yp (s:={s with heap:=aB,toks:=bh}) aZ (by rw [hl];exact B.tp) ?_
 obtain⟨anm,es,ca,a4,hH,iK,_⟩:=aZ.tok.idx
 refine Mp (s:={s with heap:=aB,toks:=bh+1}) hH iK ?_
 refine gi (P:=λ_=>True) aJ (λh _=>lJ (λa q=>nomatch q)) ?_
 refine args_cons (S c J k aD row bS ah cP A env ai aV {s with heap:=aB,toks:=bh+1} _ E bz hl N aZ dA λcD a8 b8 nW cn dn b3 dr=>?_) (nK ah _ env)
 have gj:=dA.ext dn cn b3.bn
 refine args_cons (S c J d bS _ O aC ag A env ai cD {s with heap:=a8,toks:=b8} _ E bz (cn.ta.trans hl) N b3 gj λDB bN gX pK hJ rS fo DC=>?_) (nK aC _ env)
 refine args_nil ⟨trivial,?_⟩
 show wpAny _ _ (call (.builtin "dict.get") [.ref aV.ta.idx,nW,pK]) _ _ _
 rw[show aV.ta.idx=DB.ta.idx by rw [hJ.ta,cn.ta]]
 exact YF (s:={s with heap:=bN,toks:=gX}) fo bz bC (dr.ext rS hJ) DC (Got.of ak ((aR.trans cn).trans hJ) ((k₁.trans dn).trans rS))
theorem DictO.exact{im:bA}{o:Obj}{l:List (V×V)}(h:DictO prog w H im o l):o.ExactDict:=by rcases h with ⟨aW,⟨es,ca,q,_⟩,_⟩|⟨aW,⟨es,ca,q,_⟩,_⟩<;>exact q
theorem ZX(S:cx prog w G ta n){o:Expr}{cj p:Pos}{l:List (V×V)}{k d:V}{r:Option V}(aX:hA o=true)(dS:(cj.endLine==p.line)=true)(pJ:as.length<25)(aa:aN G n c J o H=some (.dict l,aD))(ah:dz (aN G n c J) as aD=some ([k,d],O))(aj:jb k=true)(bx:O.get k l=some r)(ag:O.cnt<=ba):
  c4 prog w ta (n+1) c J (.Call (.Attribute o o6 cj) as [] p) H (r.getD d) O:=by
 intro A env ai g s Q E R T N C F ak
 have bz:=R.less (cG n)
 have cC:=jR aa C.ok
 have cA:=rz ah cC.2
 refine pH aX dS pJ (nV env ah) λdi=>S c J o H (.dict l) aD aa (aT cA.1.cnt ag) A env ai g s _ E bz T N C F λaV aB bh u aR k₁ aZ bT=>?_
 have ZY:=bT
 obtain⟨a,ob,e,bU,bZ,dJ⟩:=ZY
 rw[e] at bT |-
 refine Mp (s:={s with heap:=aB,toks:=bh}) (aZ.bn _ _ bU) dJ.exact ?_
 refine gi (P:=λ_=>True) (nV env ah) (λh _=>lJ (λa q=>nomatch q)) (mB S bz N ah ag (aR.ta.trans T) aZ (F.ext k₁ aR aZ.bn) λcD a8 b8 aU cn dn b3 dr=>⟨trivial,?_⟩)
 obtain⟨Mq,aU,e1,en,dr⟩:=dr.dat
 obtain⟨pK,aU,e2,er,dr⟩:=dr.dat
 obtain⟨nY,b9,e,mI,nZ,pM⟩:=bT.ext dn cn
 injection e with e
 rw[<-e] at mI nZ
 obtain⟨ZZ,_,knd,fW,aW,d1,d2,d3⟩:=C2 b3.ok pM aj bx en
 have aQ:=(d1.mapOf (b3.bn _ _ mI)).mapOf
 rw[e1,e2,dr.dat]
 show wpAny _ _ (call (.builtin "dict.get") [.ref a,Mq,pK]) _ _ _
 refine call_meetsIn zJ (s:={s with heap:=a8,toks:=b8}) aQ.typeIs Im (Ik _ _ _) (meets_dict_get_default knd a d2 nZ pK) ⟨_,aQ,?_⟩
 refine ak cD a8 _ _ (aR.trans cn) (k₁.trans dn) b3 ?_
 rcases d3 with ⟨e1,e⟩|⟨y,z,dd,e1,e,ap,aq⟩<;>rw[e,e1]
 .exact er
 .exact .g9 ap aq
end
section
theorem DI(C:Cfg prog w H g h)(aw:h.get? a=none):(a==sysModules)=false:=by
 obtain⟨o,aG⟩:=C.mods
 exact beq_eq_false_iff_ne.mpr λe=>aI (aw.symm.trans (e▸C.bn _ _ (C.base _ _ aG)))
theorem DJ{K:Type}[DecidableEq K](knd:KeyKind prog w K):ObjDict prog w knd emptyDict []:=⟨#[],0,⟨rfl,rfl,rfl⟩,rfl,KU knd,.nil,.nil⟩
theorem ano:c4 prog w ta (n+1) c J (.Dict [] [] p) H (.dict []) H:=by
 intro A env ai g s Q E R T N C F ak
 refine wpAny_Dict_empty ?_
 have Gt:Got prog w H g s Q (.dict []):=λau h' aF u a b d=>ak au h' aF u a (.refl _) b d
 exact Gt.push C (ez _ rfl) ⟨_,_,rfl,Gh.jA _ _ _,DI C (ji _),.int [] (DJ _) .nil⟩ s.toks
theorem Z0(S:cx prog w G ta n){x:Expr}{v:V}{b:Bool}(aa:b7 c J (aN G n c J) x H=some (v,O))(ah:v.truth=some b)(ag:O.cnt<=ba):
  c4 prog w ta (n+1) c J (.UnaryOp .Not x p) H (.bool (!b)) O:=by
 intro A env ai g s Q E R T N C F ak
 refine wpAny_UnaryOp (my S aa ag (R.less (cG n)) T N C F λaV aB bh u aR k₁ aZ bT=>?_)
 exact not_value (CQ (s:={s with heap:=aB,toks:=bh}) ah (bT.val aZ.bn) aZ.bn λaF=>ak aV aB aF _ aR k₁ aZ (.bool _))
theorem Z1{i:Int}{fW:Nat}{fL p:Pos}:c4 prog w ta (n+1) c J (.UnaryOp .USub (.Constant (.int i) fW fL) p) H (.int (-i)) H:=by
 intro A env ai g s Q E R T N C F ak
 exact wpAny_UnaryOp (wpAny_Constant_int (P.neg_int (ak g s.heap _ _ (.refl _ _) (.refl _) C (.int _ _))))
theorem Z2(S:cx prog w G ta n){l r:Expr}{op:Operator}{a b v:V}(aa:b7 c J (aN G n c J) l H=some (a,aD))(ah:b7 c J (aN G n c J) r aD=some (b,O))(aC:kr op a b=some v)(ag:O.cnt<=ba):
  c4 prog w ta (n+1) c J (.BinOp l op r p) H v O:=by
 intro A env ai g s Q E R T N C F ak
 refine wpAny_BinOp (Dp S aa ah ag (R.less (cG n)) T N C F λaV aB bh u z aR k₁ aZ bT dr=>?_)
 exact Xo (s:={s with heap:=aB,toks:=bh}) aC aZ bT dr (Got.of ak aR k₁)
theorem Z3(S:cx prog w G ta n){l r:Expr}{op:CmpOp}{a b:V}{t:Bool}(aa:b7 c J (aN G n c J) l H=some (a,aD))(ah:b7 c J (aN G n c J) r aD=some (b,O))(aC:cX O op a b=some t)(ag:O.cnt<=ba):
  c4 prog w ta (n+1) c J (.Compare l [op] [r] p) H (.bool t) O:=by
 intro A env ai g s Q E R T N C F ak
 have bz:=R.less (cG n)
 refine wpAny_Compare1 (Dp S aa ah ag bz T N C F λaV aB bh u z aR k₁ aZ bT dr=>?_) (LU ah _)
 exact K6 (s:={s with heap:=aB,toks:=bh}) aC aZ bz bT dr λaF=>ak aV aB aF _ aR k₁ aZ (.bool _)
theorem Z4(S:cx prog w G ta n)(a7:iS prog w G ta n){t b o:Expr}{x:Bool}{v:V}(aa:dR G n c J t H=some (x,aD))(ah:aN G n c J (cond x b o) aD=some (v,O))(ag:O.cnt<=ba):
  c4 prog w ta (n+1) c J (.IfExp t b o p) H v O:=by
 intro A env ai g s Q E R T N C F ak
 have bz:=R.less (cG n)
 have cC:=rN aa C.ok.bld
 have cA:=mw ah cC.2
 refine wpAny_IfExp (a7 c J t H _ _ aa (aT cA.1.cnt ag) A env ai g s _ E bz T N C F λaV aB bh aR k₁ aZ=>?_)
 have pA:wpAny (model prog w) A (eval (cond x b o) env) Q E {s with heap:=aB,toks:=bh}:=S c J _ aD v O ah ag A env ai aV {s with heap:=aB,toks:=bh} Q E bz (aR.ta.trans T) N aZ (F.ext k₁ aR aZ.bn) (ak.trans aR k₁)
 rcases x with _|_<;>exact pA
end
section
theorem Cfg.l9(C:Cfg prog w H g h)(aw:h.get? a=none):a∉g.bW:=λq=>(C.vX q).elim λo e=>aI (aw.symm.trans e)
theorem Ext.own{jo g:Gh}{cu h h':Heap}(X:Ext jo cu g h){b:Addr}(ao:cu.get? b=none)(aJ:∀a o,a≠b->h.get? a=some o->h'.get? a=some o):Ext jo cu g h':=by
 have ne:∀a o,cu.get? a=some o->a≠b:=λa o e q=>aI (ao.symm.trans (q▸e))
 exact⟨X.ta,X.im,X.new,λa o e m=>aJ a o (ne a o e) (X.old a o e m),X.dd,λa o e=>(X.live a o e).elim λb9 gc=>⟨b9,aJ a b9 (ne a o e) gc⟩⟩
theorem Cfg.own(C:Cfg prog w H g h){b:Addr}(dB:g.im b=none)(d9:b∉g.bW)(aJ:∀a o,a≠b->h.get? a=some o->h'.get? a=some o):Cfg prog w H g h':=
 C.keep rfl rfl (λ_ _ e=>e) C.tok.out (λa aw o e=>aJ a o (λq=>d9 (q▸aw)) e) λa o e=>aJ a o (λq=>aI (dB.symm.trans (q▸e))) (C.bn a o e)
theorem SameBut.ext'{b:Addr}(aJ:Heap.SameBut b h h'):∀a o,a≠b->h.get? a=some o->h'.get? a=some o:=λa o ne e=>(aJ.2 a ne).trans e
structure NewD (prog:Program) (w:World) (O:T) (cu:Heap) (g:Gh) (h:Heap) (D:Addr) (v:V):Prop where
 new:cu.get? D=none
 im:g.im D=none
 mu:D∉g.bW
 live:∃o,h.get? D=some o
 co:hE v=true
 val:Val prog w O g h.get? (.ref D) v
def lL(prog:Program)(w:World)(H:T)(g:Gh)(s:Shared)(O:T)(v:V)(Q:cI):Prop:=
 ∀au h' aF D,Ext g s.heap au h'->H.bP O->Cfg prog w O au h'->NewD prog w O s.heap au h' D v->Q (.ref D) {s with heap:=h',toks:=aF}
theorem Ext.freeze{jo g:Gh}{cu h:Heap}(X:Ext jo cu g h){D:Addr}{o:Obj}(h0:cu.get? D=none)(dB:g.im D=none):Ext jo cu (g.add D o) h:=
 ⟨X.ta,λc r e=>Gh.hu dB c r (X.im c r e),λc r e=>(Gh.g7 λbq=>aI (h0.symm.trans (bq▸e))).trans (X.new c r e),X.old,X.dd.add,X.live⟩
theorem ToV.own{v:V}(ak:ToV prog w H g s O v Q):lL prog w H g s O v Q:=λau h' aF D X k C N=>by
 obtain⟨o,aG,fK⟩:=xf N.co N.im N.val
 exact ak _ h' aF _ (X.freeze N.new N.im) k (C.freeze N.im N.mu aG) fK
inductive DictI (f:Expr->T->Option (V×T)) (ks:List (Option Expr)) (vs:List Expr) (H:T) (v:V) (O:T):Prop
 |nil (e1:ks=[]) (e2:vs=[]) (h:some (V.dict [],H)=some (v,O))
 |one (k x:Expr) (aD bS:T) (i:Int) (u:V) (e1:ks=[some k]) (e2:vs=[x]) (aa:f k H=some (.int i,aD)) (ah:f x aD=some (u,bS)) (a6:u.flat=true) (h:some (V.dict [(.int i,u)],bS)=some (v,O))
theorem Z5{f:Expr->T->Option (V×T)}{ks:List (Option Expr)}{vs:List Expr}(h:pa f ks vs H=some ([],O)):ks=[]/\vs=[]/\H=O:=by
 rcases ks with _|⟨_|k,ks⟩
 .rcases vs with _|⟨v,vs⟩
  .exact⟨rfl,rfl,(Prod.mk.inj (Option.some.inj h)).2⟩
  .exact aI h
 .exact aI h
 .rcases vs with _|⟨v,vs⟩
  .exact aI h
  .obtain⟨_,_,_,h⟩:=b1 h
   obtain⟨_,_,_,h⟩:=b1 h
   obtain⟨_,_,_,h⟩:=b1 h
   exact nomatch (Prod.mk.inj (Option.some.inj h)).1
theorem Z6{f:Expr->T->Option (V×T)}{ks:List (Option Expr)}{vs:List Expr}{v:V}(h:ob (pa f ks vs H) (λl H=>ru H l)=some (v,O)):DictI f ks vs H v O:=by
 rcases ks with _|⟨_|k,ks⟩
 .rcases vs with _|⟨x,vs⟩
  .exact .nil rfl rfl h
  .exact aI h
 .exact aI h
 .rcases vs with _|⟨x,vs⟩
  .exact aI h
  .obtain⟨l,cE,e,h⟩:=b1 h
   obtain⟨a,aD,aa,e⟩:=b1 e
   obtain⟨b,bS,ah,e⟩:=b1 e
   obtain⟨r,DK,aC,e⟩:=b1 e
   revert h
   refine pI e (P:=λl cE=>ru cE l=some (v,O)->_) λh=>?_
   rcases r with _|⟨p,r⟩
   .obtain⟨ap,h⟩:=br h
    obtain⟨i,ig⟩:=Kg (aK ap).1
    have ig:a= .int i:=ig
    obtain⟨bU,bZ,dJ⟩:=Z5 aC
    rw[ig] at aa h
    rw[bU,bZ]
    rw[dJ] at ah
    exact .one k x aD DK i b rfl rfl aa ah (aK ap).2 h
   .exact aI h
theorem Z7(S:cx prog w G ta n){k x:Expr}{i:Int}{v:V}(aa:aN G n c J k H=some (.int i,aD))(ah:aN G n c J x aD=some (v,O))(a6:v.flat=true)(ag:O.cnt<=ba)(bz:Room A n)(T:g.ta=ta)(N:EnvR c.sc env)(C:Cfg prog w H g s.heap)(F:FrR prog w H g s.heap env J ai)(ak:lL prog w H g s O (.dict [(.int i,v)]) Q):wpAny (model prog w) A (eval (.Dict [some k] [x] p) env) Q E s:=by
 have cC:=jR aa C.ok
 have cA:=mw ah cC.2
 have keep:∀a o,s.heap.get? a=some o->(s.heap.push emptyDict).get? a=some o:=λa o e=>ey _ e
 have Mr:=C.grow keep
 have Ms:=Ext.grow g keep
 have F0:=F.ext (.refl H) Ms Mr.bn
 have rU:(s.heap.push emptyDict).get? s.heap.objs.size=some emptyDict:=ez _ rfl
 have fresh:=ji s.heap
 refine wpAny_Dict_any rfl rfl (by simp) (by simp) ?_
 show wpAny _ _ (evalPairs [(eval k env,do let y <-eval x env;standAt p;pure y)]) _ _ _
 unfold evalPairs
 refine wpAny_bind (S c J k H _ aD aa (aT cA.1.cnt ag) A env ai g {s with heap:=s.heap.push emptyDict} _ E bz T N Mr F0 λaV aB bh Mq aR k₁ aZ bT=>?_)
 have dA:=F0.ext k₁ aR aZ.bn
 refine wpAny_bind (wpAny_holding (wpAny_bind (S c J x aD v O ah ag A env ai aV {s with heap:=aB,toks:=bh} _ E bz (aR.ta.trans T) N aZ dA λcD a8 b8 eg cn dn b3 dr=>?_)))
 refine wpAny_bind (wpAny_standAt (wpAny_pure ?_))
 refine wpAny_bind (wpAny_holding ?_)
 unfold evalPairs
 refine wpAny_pure (wpAny_pure ?_)
 obtain⟨t,e⟩:=bT.int_inv
 rw[e]
 have xq:=aR.trans cn
 have nm:s.heap.objs.size∉g.bW:=C.l9 fresh
 have Z8:a8.get? s.heap.objs.size=some emptyDict:=xq.old _ _ rU nm
 have Mt:cD.im s.heap.objs.size=none:=(xq.new _ _ rU).trans (C.g8 fresh)
 have rV:s.heap.objs.size∉cD.bW:=λq=>nm ((xq.bW rU).mp q)
 obtain⟨d,lC,hm⟩:=dr.flat (λ_ _ e=>e) a6
 unfold storeAll
 rw[oN]
 refine wpAny_bind (wpAny_bind (wpAny_dictSet_pairs (knd:=intKind prog w) (s:={s with heap:=a8,toks:=b8}) (k:=i) (ui i t) ((DJ _).mapOf Z8) (λbN aQ aJ=>?_) (by simp)))
 refine wpAny_pure ?_
 dsimp only
 rw[zY]
 refine wpAny_pure ?_
 obtain⟨o3,DL,DM,bU,bZ,dJ,gY,uF,lM⟩:=aQ
 have Mu:=SameBut.ext' aJ
 refine ak cD bN _ s.heap.objs.size ((Ms.trans xq).own fresh Mu) (k₁.trans dn) (b3.own Mt rV Mu) ⟨fresh,Mt,rV,⟨o3,bU⟩,rfl,⟨_,o3,rfl,bU,DI C fresh,.int _ ⟨DL,DM,bZ,dJ,gY,uF,lM⟩ ?_⟩⟩
 have:stored ([]:List (Int×Value)) i eg=[(i,eg)]:=by simp [stored]
 rw[this]
 exact .cons rfl lC hm .nil
theorem Z9(C:Cfg prog w H g s.heap)(ak:lL prog w H g s H (.dict []) Q):wpAny (model prog w) A (eval (.Dict [] [] p) env) Q E s:=by
 refine wpAny_Dict_empty ?_
 have keep:∀a o,s.heap.get? a=some o->(s.heap.push emptyDict).get? a=some o:=λa o e=>ey _ e
 have fresh:=ji s.heap
 exact ak g _ s.toks s.heap.objs.size (Ext.grow g keep) (.refl _) (C.grow keep) ⟨fresh,C.g8 fresh,C.l9 fresh,⟨_,ez _ rfl⟩,rfl,⟨_,_,rfl,ez _ rfl,DI C fresh,.int [] (DJ _) .nil⟩⟩
theorem Mv(S:cx prog w G ta n){ks:List (Option Expr)}{vs:List Expr}{v:V}(h:ob (pa (aN G n c J) ks vs H) (λl H=>ru H l)=some (v,O))(ag:O.cnt<=ba)(bz:Room A n)(T:g.ta=ta)(N:EnvR c.sc env)(C:Cfg prog w H g s.heap)(F:FrR prog w H g s.heap env J ai)(ak:lL prog w H g s O v Q):wpAny (model prog w) A (eval (.Dict ks vs p) env) Q E s:=by
 revert ag ak
 rcases Z6 h with ⟨e1,e2,h⟩|⟨k,x,aD,bS,i,u,e1,e2,aa,ah,a6,h⟩<;>rw[e1,e2]
 .exact pI h (P:=λv O=>O.cnt<=ba->lL prog w H g s O v Q->_) λ_ ak=>Z9 C ak
 .exact pI h (P:=λv O=>O.cnt<=ba->lL prog w H g s O v Q->_) λag ak=>Z7 S aa ah a6 ag bz T N C F ak
theorem aa0(S:cx prog w G ta n){ks:List (Option Expr)}{vs:List Expr}{v:V}(h:ob (pa (aN G n c J) ks vs H) (λl H=>ru H l)=some (v,O))(ag:O.cnt<=ba):c4 prog w ta (n+1) c J (.Dict ks vs p) H v O:=
 λ_ _ _ _ _ _ _ R T N C F ak=>Mv S h ag (R.less (cG n)) T N C F ak.own
theorem aa1(S:cx prog w G ta n)(lK:nP prog w G ta K n)(B:Bk prog w G ta K bp mb)(P:Prm prog w ta K bp){xp p:Pos}{v:V}(h:J0 G c J (aN G n c J) (bK G n) x as H=some (v,O))(ag:O.cnt<=ba):
  c4 prog w ta (n+1) c J (.Call (.Name x xp) as [] p) H v O:=by
 obtain⟨aj,h⟩:=br h
 have aj:=rA aj
 rcases a6:G.fn x with _|fn<;>rw[a6] at h
 .rcases eA h with ⟨Mw,h⟩|⟨_,h⟩
  .rcases eA h with ⟨hi,h⟩|⟨_,h⟩
   .obtain⟨q,e,h⟩:=bD h
    obtain⟨s,e2,h⟩:=bD h
    obtain⟨ap,h⟩:=br h
    obtain⟨u,aD,aa,h⟩:=b1 h
    obtain⟨pp,e3⟩:=jS e2
    rw[rH e,e3]
    revert ag
    exact h8 h (P:=λv O=>O.cnt<=ba->c4 prog w ta (n+1) c J (.Call (.Name x xp) [q.1,.Name s pp] [] p) H v O) λv ah ag=>ZJ S B aj Mw (sEq_iff.mp hi) (sEq_iff.mp (aK (aK ap).1).1) (rA (aK ap).2) (aK (aK ap).1).2 aa ah ag
   .obtain⟨l,aD,aa,h⟩:=b1 h
    revert ag
    exact h8 h (P:=λv O=>O.cnt<=ba->c4 prog w ta (n+1) c J (.Call (.Name x xp) as [] p) H v O) λv ah ag=>ZH S B aj Mw aa ah ag
  .rcases eA h with ⟨aX,h⟩|⟨_,h⟩
   .obtain⟨l,aD,aa,h⟩:=b1 h
    exact ZM S B P aj (sEq_iff.mp aX) aa h ag
   .obtain⟨aX,h⟩:=br h
    obtain⟨l,aD,aa,h⟩:=b1 h
    exact ZN S B P aj (sEq_iff.mp aX) aa h ag
 .obtain⟨l,aD,aa,h⟩:=b1 h
  obtain⟨u,bS,ah,h⟩:=b1 h
  obtain⟨aG,h⟩:=br h
  revert ag
  refine pI h (P:=λv O=>O.cnt<=ba->c4 prog w ta (n+1) c J (.Call (.Name x xp) as [] p) H v O) λag=>ZG S lK B aj a6 aa ah aG ag
theorem Mx{q:Att}(h:lg e=some q):e= .Attribute q.o q.a q.p:=by
 rcases e
 case Attribute=>exact gb h (P:=λq:Att=>_=Expr.Attribute q.o q.a q.p) rfl
 all_goals exact aI h
theorem aa2(S:cx prog w G ta n)(B:Bk prog w G ta K bp mb){q:Att}{m:Str}{cj p:Pos}{kd:Expr×Expr}{v:V}(h:J1 (aN G n c J) q m (cj.endLine==p.line) kd H=some (v,O))(ag:O.cnt<=ba):
  c4 prog w ta (n+1) c J (.Call (.Attribute (.Attribute q.o q.a q.p) m cj) [kd.1,kd.2] [] p) H v O:=by
 obtain⟨ap,h⟩:=br h
 obtain⟨ap,av⟩:=aK ap
 obtain⟨ap,hi⟩:=aK ap
 obtain⟨b,aD,aa,h⟩:=b1 h
 obtain⟨ao,h⟩:=br h
 obtain⟨r,bS,ah,h⟩:=b1 h
 obtain⟨z,DK,aC,h⟩:=b1 h
 obtain⟨bi,h⟩:=br h
 rw[wM ao] at aa
 rw[Ki bi] at aC
 rw[sEq_iff.mp av]
 revert ag
 exact h8 h (P:=λv O=>O.cnt<=ba->c4 prog w ta (n+1) c J (.Call (.Attribute (.Attribute q.o q.a q.p) o6 cj) [kd.1,kd.2] [] p) H v O) λv bC ag=>ZV S B (aK ap).1 (aK ap).2 (sEq_iff.mp hi) aa ah aC bC ag
theorem aa3(S:cx prog w G ta n)(lK:nP prog w G ta K n)(B:Bk prog w G ta K bp mb)(P:Prm prog w ta K bp){o:Expr}{m:Str}{cj p:Pos}{v:V}(h:t5 G (aN G n c J) (bK G n) o m (cj.endLine==p.line) as H none=some (v,O))(ag:O.cnt<=ba):
  c4 prog w ta (n+1) c J (.Call (.Attribute o m cj) as [] p) H v O:=by
 obtain⟨ap,h⟩:=br h
 obtain⟨ap,cs⟩:=aK ap
 obtain⟨aX,dS⟩:=aK ap
 have cs:as.length<25:=fi cs
 obtain⟨b,aD,aa,h⟩:=b1 h
 rcases b
 case tab=>
  obtain⟨av,h⟩:=br h
  obtain⟨l,bS,ah,h⟩:=b1 h
  obtain⟨row,e,h⟩:=bD h
  rw[nN e] at ah
  rw[sEq_iff.mp av]
  exact ZR S B P aX dS cs aa ah h ag
 case host=>
  obtain⟨fn,av,h⟩:=bD h
  obtain⟨l,bS,ah,h⟩:=b1 h
  exact ZS S lK B aX dS cs aa av ah h ag
 case dict d=>
  obtain⟨av,h⟩:=br h
  obtain⟨l,bS,ah,h⟩:=b1 h
  rw[sEq_iff.mp av]
  revert ag
  refine h8 h (P:=λv O=>O.cnt<=ba->c4 prog w ta (n+1) c J (.Call (.Attribute o o6 cj) as [] p) H v O) λv aC ag=>?_
  obtain⟨q,e,aC⟩:=bD aC
  obtain⟨aj,aC⟩:=br aC
  obtain⟨r,bx,aC⟩:=bD aC
  rw[rH e] at ah
  rw[<-Option.some.inj aC]
  exact ZX S aX dS cs aa ah aj bx ag
 all_goals exact aI h
theorem aa4{q:Cut}(h:rs e=some q):∃p,e= .Slice q.lo q.up none p:=by
 rcases e
 case Slice lo up st p=>
  rcases st with _|st
  .exact gb h (P:=λq:Cut=>∃hK,Expr.Slice lo up none p= .Slice q.lo q.up none hK) ⟨p,rfl⟩
  .exact aI h
 all_goals exact aI h
theorem aa5(S:cx prog w G ta n)(aL:uB prog w G ta n)(B:Bk prog w G ta K bp mb){b s:Expr}{v:V}(h:wG c J (aN G n c J) (ln G n c J) b s H (lg b)=some (v,O))(ag:O.cnt<=ba):c4 prog w ta (n+1) c J (.Subscript b s p) H v O:=by
 rcases e:lg b with _|q<;>rw[e] at h
 .have h:wF c J (aN G n c J) (ln G n c J) b s H (rs s)=some (v,O):=h
  rcases e:rs s with _|q<;>rw[e] at h
  .obtain⟨x,aD,aa,h⟩:=b1 h
   obtain⟨i,bS,ah,h⟩:=b1 h
   revert ag
   exact h8 h (P:=λv O=>O.cnt<=ba->c4 prog w ta (n+1) c J (.Subscript b s p) H v O) λv aC ag=>Zx S aa ah aC ag
  .obtain⟨x,aD,aa,h⟩:=b1 h
   obtain⟨l,bS,ah,h⟩:=b1 h
   obtain⟨u,DK,aC,h⟩:=b1 h
   obtain⟨ps,e⟩:=aa4 e
   rw[e]
   revert ag
   exact h8 h (P:=λv O=>O.cnt<=ba->c4 prog w ta (n+1) c J (.Subscript b (.Slice q.lo q.up none ps) p) H v O) λv bC ag=>Zz S aL aa ah aC bC ag
 .rw[Mx e];exact Zw S B h ag
theorem My{i:Int}(h:Co e=some i):∃a p,e= .Constant (.int i) a p:=by
 rcases e
 case Constant k a p=>
  rcases k
  case int j=>exact gb h (P:=λi=>∃nY hK,Expr.Constant (.int j) a p= .Constant (.int i) nY hK) ⟨a,p,rfl⟩
  all_goals exact aI h
 all_goals exact aI h
theorem aa6(S:cx prog w G ta n){x:Expr}{o:UnaryOp}{v:V}(h:Ct c J (aN G n c J) x H o=some (v,O))(ag:O.cnt<=ba):c4 prog w ta (n+1) c J (.UnaryOp o x p) H v O:=by
 rcases o
 case Not=>
  obtain⟨u,aD,aa,h⟩:=b1 h
  obtain⟨b,ah,h⟩:=bD h
  revert ag
  exact pI h (P:=λv O=>O.cnt<=ba->c4 prog w ta (n+1) c J (.UnaryOp .Not x p) H v O) λag=>Z0 S aa ah ag
 case USub=>
  obtain⟨i,e,h⟩:=bD h
  obtain⟨a,pp,e⟩:=My e
  rw[e]
  exact pI h (P:=λv O=>c4 prog w ta (n+1) c J (.UnaryOp .USub (.Constant (.int i) a pp) p) H v O) Z1
 all_goals exact aI h
theorem aa7(S:cx prog w G ta n)(a7:iS prog w G ta n)(aL:uB prog w G ta n)(lK:nP prog w G ta K n)(L:Mh prog w G ta n)(B:Bk prog w G ta K bp mb)(P:Prm prog w ta K bp):cx prog w G ta (n+1):=by
 intro c J e H v O h ag
 show c4 prog w ta (n+1) c J e H v O
 rcases e
 case Constant k a p=>exact h8 h (P:=λv O=>c4 prog w ta (n+1) c J (.Constant k a p) H v O) λv al A env ai g s Q E R T N C F ak=>Y9 C al λau h' aF u a b d=>ak au h' aF u a (.refl _) b d
 case Name=>exact Zr B h
 case Tuple=>exact Zs S h ag
 case List=>exact Zt S h ag
 case Dict=>exact aa0 S h ag
 case UnaryOp=>exact aa6 S h ag
 case BinOp l op r p=>
  obtain⟨a,aD,aa,h⟩:=b1 h
  obtain⟨b,bS,ah,h⟩:=b1 h
  revert ag
  exact h8 h (P:=λv O=>O.cnt<=ba->c4 prog w ta (n+1) c J (.BinOp l op r p) H v O) λv aC ag=>Z2 S aa ah aC ag
 case BoolOp op vs p=>
  intro A env ai g s Q E R T N C F ak
  rw[arm_eval_BoolOp]
  exact Mg S (R.less (cG n)) N h ag T C F ak
 case Compare l ops a3 p=>
  obtain⟨o,r,x,y,aD,bS,t,e2,e3,aa,ah,aC,h⟩:=LX h
  rw[e2,e3]
  revert ag
  exact pI h (P:=λv O=>O.cnt<=ba->c4 prog w ta (n+1) c J (.Compare l [o] [r] p) H v O) λag=>Z3 S aa ah aC ag
 case IfExp=>
  obtain⟨x,aD,aa,h⟩:=b1 h
  exact Z4 S a7 aa h ag
 case ListComp=>exact L c J _ _ _ _ _ _ _ h ag
 case Subscript=>exact aa5 S aL B h ag
 case Attribute=>exact ZB S B h ag
 case Call f as ks p=>
  rcases ks with _|_
  .rcases f
   case Name=>exact aa1 S lK B P h ag
   case Attribute o m cj=>
    have h:t5 G (aN G n c J) (bK G n) o m (cj.endLine==p.line) as H (rv o as)=some (v,O):=h
    rcases e:rv o as with _|⟨q,kd⟩<;>rw[e] at h
    .exact aa3 S lK B P h ag
    .obtain⟨jg,e1,e⟩:=bD e
     obtain⟨anp,e2,e⟩:=bD e
     obtain⟨e3,eN⟩:=Prod.mk.inj (Option.some.inj e)
     rw[Mx e1,rH e2,e3,eN]
     exact aa2 S B h ag
   all_goals exact aI h
  .exact aI h
 all_goals exact aI h
end
noncomputable def ownIts:List String:=["enumerate","zip","dict_itemiterator","dict_reverseitemiterator","odict_iterator","itertools.zip_longest","itertools.pairwise"]
inductive itCls (o:Obj):Prop
 |mk (n:String) (vs:Array Value) (c:o.cls= .type n) (d:o.data= .fields vs) (k:ownIts.contains n=false)
theorem aa8:ownIts.contains "list_iterator"=false:=by decide
theorem aa9:ownIts.contains "tuple_iterator"=false:=by decide
theorem aaa:ownIts.contains "range_iterator"=false:=by decide
section
variable (prog:Program)(w:World)
inductive IterOk (A:Around) (O:T) (g:Gh) (h:Heap) (cu:Heap) (it:Value) (l:List V):Prop
 |mk (I:Addr) (cR:List Addr) (P:Nat->Value->Prop) (St:Nat->Heap->Prop) (e:it= .ref I) (n:cu.get? I=none) (o:∃o,h.get? I=some o) (im:g.im I=none) (mu:I∉g.bW) (W:Walks prog w A I cR [I] l.length P St) (rW:St 0 h)
   (fr:∀b∈cR,b=I\/∃o,g.im b=some o) (cl:∀i h,St i h->∃o,h.get? I=some o/\itCls o) (v:∀i v,i<l.length->P i v->∃u,l[i]? =some u/\Val prog w O g g.im v u)
end
section
theorem Mz{I a:Addr}{o:Obj}(aG:g.im a=some o)(b:Addr)(ao:b∈[I,a]):b=I\/∃o,g.im b=some o:=by
 rcases List.mem_cons.mp ao with e|ao
 .exact .inl e
 .exact .inr ⟨o,dG ao▸aG⟩
theorem aab{v:Value}{l:List V}(R:Room A n)(C:Cfg prog w O g s.heap)(al:Val prog w O g g.im v u)(aJ:hd u=some l)(ak:∀h' it,(∀b o,s.heap.get? b=some o->h'.get? b=some o)->Cfg prog w O g h'->IterOk prog w A O g h' s.heap it l->Q it {s with heap:=h'}):wpAny (model prog w) A (pyIter v) Q E s:=by
 obtain⟨a,o,vs,m,ds,e,aG,aQ,aac,aq,ap⟩:=al.seq aJ (λ_ _ e=>e)
 rw[e]
 have fJ:a<s.heap.objs.size:=gs (C.bn _ _ aG)
 have fl:vs.size=l.length:=f4 aq ap
 have item:∀(i:Nat)(z:Value),vs[i]? =some z->∃y,l[i]? =some y/\Val prog w O g g.im z y:=λi z bi=>by
  have aY:=oI (fl▸(Array.getElem?_eq_some_iff.mp bi).1)
  obtain⟨anq,rX,MA⟩:=aq.at ap aY
  rw[Option.some.inj (rX.symm.trans bi)] at MA
  exact⟨_,aY,MA.val⟩
 have fresh:=ji s.heap
 have gD:a≠s.heap.objs.size:=gP fJ
 rcases aac with ⟨_,aad⟩|⟨_,d8⟩
 .have a1:s.heap.IsTuple a vs:=⟨o,C.bn _ _ aG,aad,m,aQ⟩
  exact wpAny_pyIter_tuple a1 (ak _ _ (λb o e=>ey _ e) (C.grow λb o e=>ey _ e)
   ⟨s.heap.objs.size,_,_,_,rfl,fresh,⟨_,ez _ rfl⟩,C.g8 fresh,C.l9 fresh,fl▸Walks.tuple R.handled s.heap.objs.size a gD vs,⟨⟨_,ez _ rfl,rfl,rfl⟩,a1.push _⟩,Mz aG,λi h q=>q.1.elim λo e=>⟨o,e.1,_,_,e.2.1,e.2.2,aa9⟩,λi v _=>item i v⟩)
 .rw[d8] at aG
  have a1:s.heap.IsList a vs:=⟨_,C.bn _ _ aG,rfl,m,rfl⟩
  exact wpAny_pyIter_list a1 (ak _ _ (λb o e=>ey _ e) (C.grow λb o e=>ey _ e)
   ⟨s.heap.objs.size,_,_,_,rfl,fresh,⟨_,ez _ rfl⟩,C.g8 fresh,C.l9 fresh,fl▸wh R.handled s.heap.objs.size a gD vs,⟨⟨_,ez _ rfl,rfl,rfl⟩,a1.push _⟩,Mz aG,λi h q=>q.1.elim λo e=>⟨o,e.1,_,_,e.2.1,e.2.2,aa8⟩,λi v _=>item i v⟩)
end
section
variable (prog:Program)(w:World)(G:Gl)(ta:Ta)
def DN(A:Around)(H:T)(g:Gh)(s:Shared)(O:T)(l:List V)(Q:cI):Prop:=
 ∀au h' aF it,Ext g s.heap au h'->H.bP O->Cfg prog w O au h'->IterOk prog w A O au h' s.heap it l->Q it {s with heap:=h',toks:=aF}
def rY(n:Nat):Prop:=
 ∀(c:Cx)(J:am)(e:Expr)(H:T)(l:List V)(O:T),gA G n c J e H=some (l,O)->O.cnt<=ba->
  ∀(A:Around)(env:Env)(ai:Addr->Option Ro)(g:Gh)(s:Shared)(Q:cI)(E:cI),
   Room A n->g.ta=ta->EnvR c.sc env->Cfg prog w H g s.heap->FrR prog w H g s.heap env J ai->DN prog w A H g s O l Q->wpAny (model prog w) A (eval e env) (λv c1=>wpAny (model prog w) A (pyIter v) Q E c1) E s
end
section
theorem IterOk.back{g jo:Gh}{h aB cu:Heap}{it:Value}{l:List V}(X:Ext jo cu g aB)(q:IterOk prog w A O g h aB it l):IterOk prog w A O g h cu it l:=by
 obtain⟨I,cR,P,St,a,b,eT,cP,jj,mG,kE,pN,DO,aae⟩:=q
 exact⟨I,cR,P,St,a,gU X.live b,eT,cP,jj,mG,kE,pN,DO,aae⟩
theorem MB:∀(n i k:Nat),k<n->(rn i n)[k]? =some (.int ((i+k:Nat):Int))
 |n+1,i,0,_=>rfl
 |n+1,i,k+1,h=>(MB n (i+1) k (oJ h)).trans (by rw [qP];rfl)
theorem DP:∀(n i:Nat),(rn i n).length=n
 |0,_=>rfl
 |n+1,i=>congrArg Nat.succ (DP n (i+1))
theorem MC{e a:Expr}(h:nF e=some a):∃cR p,e= .Call (.Name h5 cR) [a] [] p:=by
 rcases e
 case Call f as ks p=>
  rcases ks with _|_
  .obtain⟨x,aa,h⟩:=bD h
   obtain⟨ah,h⟩:=br h
   obtain⟨cR,e⟩:=jS aa
   rw[e,sEq_iff.mp ah,nN h]
   exact⟨_,_,rfl⟩
  .exact aI h
 all_goals exact aI h
noncomputable def rZ(k:Nat)(a b c:Tok):Obj:={cls:=.type "range",data:=.fields #[.int 0 a,.int (k:Int) b,.int 1 c]}
theorem aaf{t:Tok}(R:Room A n)(C:Cfg prog w O g s.heap)(xn:k<=1000)(ak:∀h' aF it,(∀b o,s.heap.get? b=some o->h'.get? b=some o)->Cfg prog w O g h'->IterOk prog w A O g h' s.heap it (rn 0 k)->Q it {s with heap:=h',toks:=aF}):
  wpAny (model prog w) A (call (.type "range") [.int (k:Int) t]) (λv c1=>wpAny (model prog w) A (pyIter v) Q E c1) E s:=by
 refine call_range_1 ?_
 refine wpAny_pyIter_range (IsRange.new s.heap 0 (k:Int) 1 s.toks t (s.toks+1)) (small_one (by lia) (by lia) (by lia) (by lia)) ?_
 have xr:(s.heap.push (rZ k s.toks t (s.toks+1))).objs.size=s.heap.objs.size+1:=kl ..
 have e2:Builtin.Range.rangeSize 0 (k:Int) 1=(k:Int):=by rw [rangeSize_one];split<;>lia
 have keep:∀b o,s.heap.get? b=some o->((s.heap.push (rZ k s.toks t (s.toks+1))).push {cls:=.type "range_iterator",data:=.fields #[rawInt 0,rawInt (Builtin.Range.rangeSize 0 (k:Int) 1),rawInt 1]}).get? b=some o:=
  λb o e=>ey _ (ey _ e)
 have hI:s.heap.get? (s.heap.push (rZ k s.toks t (s.toks+1))).objs.size=none:=by
  rw[xr]
  rcases e:s.heap.get? (s.heap.objs.size+1) with _|o
  .rfl
  .exact absurd (gs e) (Nat.not_lt.mpr (cG _))
 have DQ:=ez (s.heap.push (rZ k s.toks t (s.toks+1))) (o:={cls:=.type "range_iterator",data:=.fields #[rawInt 0,rawInt (Builtin.Range.rangeSize 0 (k:Int) 1),rawInt 1]}) rfl
 show Q (.ref (s.heap.push (rZ k s.toks t (s.toks+1))).objs.size) _
 refine ak _ _ _ keep (C.grow keep) ⟨_,[_],_,_,rfl,hI,⟨_,DQ⟩,C.g8 hI,C.l9 hI,by rw [DP];exact Walks.range R.handled _ 0 1 k,?_,λb ao=> .inl (dG ao),λi h q=>⟨_,q,_,_,rfl,rfl,aaa⟩,?_⟩
 .show IsRangeIter _ _ (0+((0:Nat):Int)*1) ((k:Int) - ((0:Nat):Int)) 1
  rw[e2] at DQ |-
  simpa [IsRangeIter,rZ] using DQ
 .rintro i v hi ⟨jW,e⟩
  rw[DP] at hi
  have e3:(0:Int)+(i:Int)*1=((0+i:Nat):Int):=by lia
  exact⟨_,MB k 0 i hi,by rw [e,e3];exact .int _ _⟩
theorem aag(S:cx prog w G ta n)(B:Bk prog w G ta K bp mb):rY prog w G ta (n+1):=by
 intro c J e H l O h ag A env ai g s Q E R T N C F ak
 have bz:=R.less (cG n)
 have h:rx G c (aN G n c J) e H (nF e)=some (l,O):=h
 revert ag ak
 rcases e1:nF e with _|a<;>rw[e1] at h
 .obtain⟨v,aD,aa,h⟩:=b1 h
  exact h8 h (P:=λl O=>O.cnt<=ba->DN prog w A H g s O l Q->_) λl ah ag ak=>S c J e H v aD aa ag A env ai g s _ E bz T N C F λaV aB bh u aR k₁ aZ bT=>
   aab (s:={s with heap:=aB,toks:=bh}) bz aZ bT ah λa8 it aj b3 DR=>ak aV a8 bh it (aR.trans (Ext.grow aV aj)) k₁ b3 (DR.back aR)
 .obtain⟨aj,h⟩:=br h
  obtain⟨v,aD,aa,h⟩:=b1 h
  obtain⟨k,e2,h⟩:=bD h
  obtain⟨xn,h⟩:=br h
  obtain⟨cR,p,e⟩:=MC e1
  rw[e]
  refine pI h (P:=λl O=>O.cnt<=ba->DN prog w A H g s O l Q->_) λag ak=>?_
  rw[nJ e2] at aa
  refine Call_Name rfl (rO B C T N (rA (aK aj).1) (aK aj).2 ?_)
  have e1:nS h5= .type "range":=rfl
  rw[e1]
  have aJ:=nK aa [] env
  refine gi (P:=λ_=>True) (by rw [aJ];rfl) (λh _=>lJ (λa q=>nomatch q)) ?_
  refine args_cons (S c J _ H _ aD aa ag A env ai g s _ E bz T N C F λaV aB bh z aR k₁ aZ bT=>?_) aJ
  refine args_nil ⟨trivial,?_⟩
  obtain⟨t,e⟩:=bT.int_inv
  rw[e]
  exact aaf (s:={s with heap:=aB,toks:=bh}) bz aZ (fi xn) λa8 b8 it aj b3 DR=>ak aV a8 b8 it (aR.trans (Ext.grow aV aj)) k₁ b3 (DR.back aR)
end
theorem xs{L:Addr}{m jl:Str->Option Value}(a:h.Ns L m)(b:h.Ns L jl)(x:Str):m x=jl x:=by
 obtain⟨o,es,ca,aa,ah,_,aC⟩:=a
 obtain⟨b9,dN,aah,pO,lN,_,nM⟩:=b
 rw[<-Option.some.inj (aa.symm.trans pO),ah] at lN
 injection lN with e _
 rw[<-aC,<-nM,e]
theorem MD{c:Addr}{v f2:Option Value}(a:h.IsCell c v)(b:h.IsCell c f2):v=f2:=by
 obtain⟨o,aa,ah⟩:=a
 obtain⟨b9,pO,lN⟩:=b
 rw[<-Option.some.inj (aa.symm.trans pO),ah] at lN
 injection lN
theorem OwnAt.unique{a b:Addr}(p:OwnAt env h x a)(q:OwnAt env h x b):a=b:=by
 rcases p with ⟨k,m,aa,ah⟩|⟨k,c,aa,ah⟩<;>rcases q with ⟨gk,jl,pO,lN⟩|⟨gk,aP,pO,lN⟩
 .exact Value.ref.inj (Option.some.inj (ah.symm.trans ((xs aa pO x).trans lN)))
 .exact nomatch k.symm.trans gk
 .exact nomatch k.symm.trans gk
 .rw[<-Option.some.inj (aa.symm.trans pO)] at lN
  exact Value.ref.inj (Option.some.inj (MD ah lN))
theorem pP(h:x≠y):a9 x y=false:=by
 rcases e:a9 x y with _|_
 .rfl
 .exact absurd (sEq_iff.mp e) h
theorem rget_same{o:Bool}:∀{J:am},a2 (cb J x u o) x=some (u,o)
 |[]=>by
  show cond (a9 x x) _ _=_
  rw[pf];rfl
 |(z,s)::r=>by
  show a2 (cond (a9 z x) _ _) x=_
  rcases e:a9 z x with _|_
  .show cond (a9 z x) _ _=_
   rw[e];exact rget_same
  .show cond (a9 z x) _ _=_
   rw[e];rfl
theorem ih{o:Bool}(h:y≠x):∀{J:am},a2 (cb J x u o) y=a2 J y
 |[]=>by
  show cond (a9 x y) _ _=_
  rw[pP λe=>h e.symm];rfl
 |(z,s)::r=>by
  show a2 (cond (a9 z x) _ _) y=cond (a9 z y) _ _
  rcases e:a9 z x with _|_
  .show cond (a9 z y) _ (a2 (cb r x u o) y)=_
   rw[ih h]
  .show cond (a9 z y) _ _=_
   rw[sEq_iff.mp e,pP λe=>h e.symm];rfl
theorem aai{o:Bool}:a2 (cb J x u o) y=if y=x then some (u,o) else a2 J y:=by
 rcases eR (y=x) with h|h
 .rw[if_pos h,h];exact rget_same
 .rw[if_neg h];exact ih h
theorem pQ{u ea:V}{o b9:Bool}(h:a2 (cb J x u o) y=some (ea,b9)):(y=x/\u=ea/\o=b9)\/(y≠x/\a2 J y=some (ea,b9)):=by
 rcases eR (y=x) with e|e
 .rw[e,rget_same] at h
  exact .inl ⟨e,Prod.mk.inj (Option.some.inj h)⟩
 .exact .inr ⟨e,(ih e).symm.trans h⟩
section
variable {a b:Addr}{r d7:Ro}
theorem mJ(aw:ai a=some r)(ao:ai b=some d7)(aq:r≠d7):a≠b:=λe=>aq (Option.some.inj (aw.symm.trans (e▸ao)))
theorem Hold.to{v:Value}{o:Bool}(aJ:∀a,ai a=some (.own x)->∀o,h.get? a=some o->h'.get? a=some o)(q:Hold prog w H g h ai x v u o):Hold prog w H g h' ai x v u o:=by
 rcases o with _|_
 .exact q
 .obtain⟨ap,a,e,aw,al⟩:=q
  rw[e] at al
  exact⟨ap,a,e,aw,e▸al.seen (.refl H) (λ_ _ e=>e) (aJ a aw) ap⟩
structure Chg (ai:Addr->Option Ro) (b:Addr) (r:Ro) (h h':Heap):Prop where
 ro:ai b=some r
 zu:∀a o,a≠b->h.get? a=some o->h'.get? a=some o
 live:∃o,h'.get? b=some o
theorem Chg.at(k:Chg ai b r h h')(aw:ai a=some d7)(aq:d7≠r)(o:Obj)(e:h.get? a=some o):h'.get? a=some o:=k.zu a o (mJ aw k.ro aq) e
theorem Chg.all(k:Chg ai b r h h')(a:Addr)(o:Obj)(e:h.get? a=some o):∃b9,h'.get? a=some b9:=by
 rcases eR (a=b) with q|q
 .rw[q];exact k.live
 .exact⟨o,k.zu a o q e⟩
theorem xt(C:Cfg prog w H g h)(sep:ic g h ai)(k:Chg ai b r h h'):ExtS ai g h g h'/\Cfg prog w H g h'/\ic g h' ai:=by
 obtain⟨dB,d9,_⟩:=sep b r k.ro
 refine⟨⟨rfl,λ_ _ e=>e,λ_ _ _=>rfl,λa o e _ a6=>k.zu a o (λq=>aI (a6.symm.trans (q▸k.ro))) e,.refl _ _,k.all⟩,C.own dB d9 k.zu,λa d7 e=>?_⟩
 obtain⟨bU,bZ,o,dJ⟩:=sep a d7 e
 exact⟨bU,bZ,k.all a o dJ⟩
theorem FrNs.to(q:FrNs prog w H g h env J ai)(ag:∀o,h.get? env.locals=some o->h'.get? env.locals=some o)(aj:∀y u o,env.kindOf y=some .local->a2 bg y=some (u,o)->a2 J y=some (u,o)/\∀a,ai a=some (.own y)->∀o,h.get? a=some o->h'.get? a=some o):FrNs prog w H g h' env bg ai:=by
 obtain⟨m,⟨ob,es,ca,aG,r⟩,al⟩:=q
 refine⟨m,⟨ob,es,ca,ag _ aG,r⟩,λy u o k e=>?_⟩
 obtain⟨e,aJ⟩:=aj y u o k e
 exact(al y u o k e).elim λv p=>⟨v,p.1,p.2.to aJ⟩
theorem FrCl.to(q:FrCl prog w H g h env J ai x a)(aw:∀o,h.get? a=some o->h'.get? a=some o)(aj:∀u o,(env.kindOf x=some .cell\/env.kindOf x=some .free)->a2 bg x=some (u,o)->a2 J x=some (u,o)/\∀a,ai a=some (.own x)->∀o,h.get? a=some o->h'.get? a=some o):FrCl prog w H g h' env bg ai x a:=by
 obtain⟨v,⟨oc,r0,pR⟩,ah,aC⟩:=q
 refine⟨v,⟨oc,aw _ r0,pR⟩,ah,λu o k e=>?_⟩
 obtain⟨e,aJ⟩:=aj u o k e
 exact(aC u o k e).elim λv p=>⟨v,p.1,p.2.to aJ⟩
theorem OwnAt.to(p:OwnAt env h x a)(F:FrR prog w H g h env J ai)(ag:∀o,h.get? env.locals=some o->h'.get? env.locals=some o)(ap:∀c,ai c=some (.cell x)->∀o,h.get? c=some o->h'.get? c=some o):OwnAt env h' x a:=by
 rcases p with ⟨k,m,⟨o,es,ca,aa,r⟩,ah⟩|⟨k,c,aa,o,ah,aC⟩
 .exact .loc k m ⟨o,es,ca,ag _ aa,r⟩ ah
 .obtain⟨_,_,e8,_⟩:=F.cl x c aa
  exact .cell k c aa ⟨o,ap c e8 _ ah,aC⟩
structure Stored (prog:Program) (w:World) (H:T) (g:Gh) (env:Env) (J:am) (ai:Addr->Option Ro) (sc:Scope) (x:Str) (h h':Heap):Prop where
 X:ExtS ai g h g h'
 C:Cfg prog w H g h'
 F:FrR prog w H g h' env J ai
 b:∃b,(b=env.locals\/(lk sc.names x=some .cell/\env.cells.lookup x=some b))/\Heap.SameBut b h h'/\∃o,h'.get? b=some o
 st:∀y a,y≠x->OwnAt env h y a->OwnAt env h' y a
theorem DS(aa:env.kindOf x=some .local)(ah:env.kindOf y=some .cell\/env.kindOf y=some .free):y≠x:=λe=>by
 rw[e,aa] at ah
 rcases ah with q|q<;>exact nomatch q
theorem mK(N:EnvR sc env)(C:Cfg prog w H g s.heap)(F:FrR prog w H g s.heap env J ai)(aj:lk sc.names x=some .local\/lk sc.names x=some .cell)(hx:x≠dM){v:Value}{o:Bool}(al:Hold prog w H g s.heap ai x v u o){Q:Unit->Shared->Prop}(ak:∀h' aF,Stored prog w H g env (cb J x u o) ai sc x s.heap h'->Q () {s with heap:=h',toks:=aF}):wpAny (model prog w) A (storeName env x v) Q E s:=by
 have xc:a2 (cb J x u o) dM=none:=(ih λe=>hx e.symm).trans F.dot
 rcases aj with aj|aj
 .have gl:=N.loc x aj
  obtain⟨m,aX,av⟩:=F.ns
  refine wpAny_storeName_local gl aX (λh' pS jp=>?_) (by rw [N.kind];rfl)
  have live:∃o,h'.get? env.locals=some o:=by obtain ⟨ob,_,_,uG,_⟩:=pS;exact⟨ob,uG⟩
  have k:Chg ai env.locals .loc s.heap h':=⟨F.loc,SameBut.ext' jp,live⟩
  obtain⟨pT,ct,r1⟩:=xt C F.sep k
  have own:∀{y} a,ai a=some (.own y)->∀o,s.heap.get? a=some o->h'.get? a=some o:=λa e=>k.at e nofun
  refine ak h' _ ⟨pT,ct,⟨⟨_,pS,λy ea b9 gZ aY=>?_⟩,λy a aw=>?_,F.loc,r1,xc⟩,⟨_,.inl rfl,jp,live⟩,λy a uH gW=>?_⟩
  .rcases pQ aY with ⟨e,e1,e2⟩|⟨gD,aY⟩
   .rw[e,<-e1,<-e2];exact⟨v,if_pos rfl,al.to own⟩
   .exact(av y ea b9 gZ aY).elim λz p=>⟨z,(if_neg gD).trans p.1,p.2.to own⟩
  .have q:=F.cl y a aw
   have e8:ai a=some (.cell y):=by obtain ⟨_,_,ah,_⟩:=q;exact ah
   exact q.to (k.at e8 nofun) λea b9 gZ aY=>⟨(pQ aY).elim (λq=>absurd q.1 (DS gl gZ)) (·.2),own⟩
  .rcases gW with ⟨gk,jl,aa,ah⟩|⟨gk,d,aa,od,ah,aC⟩
   .exact .loc gk _ pS ((if_neg uH).trans ((xs aX aa y).trans ah))
   .obtain⟨_,_,e8,_⟩:=F.cl y d aa
    exact .cell gk d aa ⟨od,k.at e8 nofun _ ah,aC⟩
 .obtain⟨gl,c,ap⟩:=N.cell x aj
  obtain⟨xu,uI,e8,_⟩:=F.cl x c ap
  refine wpAny_storeName_cell N.kind gl ap uI λh' hG jp=>?_
  have live:∃o,h'.get? c=some o:=by obtain ⟨ob,uG,_⟩:=hG;exact⟨ob,uG⟩
  have k:Chg ai c (.cell x) s.heap h':=⟨e8,SameBut.ext' jp,live⟩
  obtain⟨pT,ct,r1⟩:=xt C F.sep k
  have own:∀{y} a,ai a=some (.own y)->∀o,s.heap.get? a=some o->h'.get? a=some o:=λa e=>k.at e nofun
  have lo:=k.at F.loc nofun
  refine ak h' _ ⟨pT,ct,⟨F.ns.to lo λy ea b9 gZ aY=>⟨(pQ aY).elim (λq=>by rw [q.1,gl] at gZ;exact nomatch gZ) (·.2),own⟩,λy a aw=>?_,F.loc,r1,xc⟩,⟨_,.inr ⟨aj,ap⟩,jp,live⟩,λy a uH gW=>gW.to F lo λd aQ=>k.at aQ λe=>uH (KC e)⟩
  rcases eR (y=x) with xv|xv
  .rw[xv] at aw |-
   rw[<-Option.some.inj (ap.symm.trans aw)]
   refine⟨some v,hG,e8,λea b9 _ aY=>?_⟩
   obtain⟨e1,e2⟩:=Prod.mk.inj (Option.some.inj (rget_same.symm.trans aY))
   rw[<-e1,<-e2];exact⟨v,rfl,al.to own⟩
  .have q:=F.cl y a aw
   have aaj:ai a=some (.cell y):=by obtain ⟨_,_,ah,_⟩:=q;exact ah
   exact q.to (k.at aaj λe=>xv (KC e)) λea b9 gZ aY=>⟨(pQ aY).elim (λq=>absurd q.1 xv) (·.2),own⟩
end
section
theorem OwnAt.ext(p:OwnAt env h x a)(F:FrR prog w H g h env J ai)(X:Ext g h au h'):OwnAt env h' x a:=p.to F (λ_ e=>F.same X F.loc e) λ_ aQ _ e=>F.same X aQ e
structure OwnPut (prog:Program) (w:World) (H:T) (g:Gh) (env:Env) (J:am) (ai:Addr->Option Ro) (x:Str) (u:V) (h h':Heap):Prop where
 X:ExtS ai g h g h'
 C:Cfg prog w H g h'
 F:FrR prog w H g h' env (cb J x u true) ai
inductive OwnSet (prog:Program) (w:World) (H:T) (g:Gh) (s:Shared) (env:Env) (J:am) (ai:Addr->Option Ro) (x:Str) (u:V):Prop
 |mk (a:Addr) (f:ai a=some (.own x)) (at_:OwnAt env s.heap x a) (c:hE u=true) (v:Val prog w H g s.heap.get? (.ref a) u)
   (rd:∀(A:Around)(p:Pos)(Q:cI)(E:cI),Q (.ref a) s->wpAny (model prog w) A (eval (.Name x p) env) Q E s)
   (put:∀h' ea,Heap.SameBut a s.heap h'->hE ea=true->Val prog w H g h'.get? (.ref a) ea->(∃o,h'.get? a=some o)->OwnPut prog w H g env J ai x ea s.heap h')
theorem Hold.move{v:Value}{o:Bool}(k:H.bP O)(le:g.le au)(aJ:∀b,ai b=some (.own y)->∀o,h.get? b=some o->h'.get? b=some o)(q:Hold prog w H g h ai y v u o):Hold prog w O au h' ai y v u o:=by
 rcases o with _|_
 .exact Val.mono k le le.im q
 .obtain⟨ap,b,e,aw,al⟩:=q
  rw[e] at al
  exact⟨ap,b,e,aw,e▸al.seen k le.im (aJ b aw) ap⟩
theorem FrR.put{ea:V}(F:FrR prog w H g h env J ai)(k:H.bP O)(le:g.le au)(gW:OwnAt env h x a)(aw:ai a=some (.own x))(N:x≠dM)(aJ:∀b r,ai b=some r->b≠a->∀o,h.get? b=some o->h'.get? b=some o)(sep:ic au h' ai)(ap:hE ea=true)(al:Val prog w O au h'.get? (.ref a) ea):FrR prog w O au h' env (cb J x ea true) ai:=by
 have at_:∀{b r},ai b=some r->r≠ .own x->∀o,h.get? b=some o->h'.get? b=some o:=λe aq=>aJ _ _ e (mJ e aw aq)
 have hold:∀{y v u o},y≠x->Hold prog w H g h ai y v u o->Hold prog w O au h' ai y v u o:=λaY q=>q.move k le λb e=>at_ e λe=>aY (KE e)
 refine⟨?_,λy c pU=>?_,F.loc,sep,(ih λe=>N e.symm).trans F.dot⟩
 .obtain⟨m,⟨ob,es,ca,aG,r⟩,av⟩:=F.ns
  refine⟨m,⟨ob,es,ca,at_ F.loc nofun _ aG,r⟩,λy z o gZ aY=>?_⟩
  rcases pQ aY with ⟨e,e1,e2⟩|⟨gD,aY⟩
  .rw[e] at gZ |-
   rw[<-e1,<-e2]
   rcases gW with ⟨_,jl,aa,ah⟩|⟨gk,_⟩
   .exact⟨_,(xs ⟨ob,es,ca,aG,r⟩ aa x).trans ah,ap,a,rfl,aw,al⟩
   .exact nomatch gZ.symm.trans gk
  .exact(av y z o gZ aY).elim λz p=>⟨z,p.1,hold gD p.2⟩
 .obtain⟨z,⟨oc,r0,pR⟩,ah,aC⟩:=F.cl y c pU
  refine⟨z,⟨oc,at_ ah nofun _ r0,pR⟩,ah,λt o gZ aY=>?_⟩
  rcases pQ aY with ⟨e,e1,e2⟩|⟨gD,aY⟩
  .rw[e] at gZ pU |-
   rw[<-e1,<-e2]
   rcases gW with ⟨gk,_⟩|⟨_,aP,aa,bC⟩
   .exact absurd rfl (DS gk gZ)
   .rw[<-Option.some.inj (pU.symm.trans aa)] at bC
    exact⟨.ref a,MD ⟨oc,r0,pR⟩ bC,ap,a,rfl,aw,al⟩
  .exact(aC t o gZ aY).elim λz p=>⟨z,p.1,hold gD p.2⟩
theorem Gh.le.refl(g:Gh):g.le g:=⟨rfl,λ_ _ e=>e,[],(eh _).symm⟩
theorem ME{ea:V}(N:x≠dM)(C:Cfg prog w H g h)(F:FrR prog w H g h env J ai)(aw:ai a=some (.own x))(gW:OwnAt env h x a)(aJ:Heap.SameBut a h h')(ap:hE ea=true)(al:Val prog w H g h'.get? (.ref a) ea)(ag:∃o,h'.get? a=some o):OwnPut prog w H g env J ai x ea h h':=by
 obtain⟨pT,ct,iP⟩:=xt C F.sep ⟨aw,SameBut.ext' aJ,ag⟩
 exact⟨pT,ct,F.put (.refl _) (.refl _) gW aw N (λb _ _ ne o=>SameBut.ext' aJ b o ne) iP ap al⟩
theorem xw(N:EnvR sc env)(C:Cfg prog w H g s.heap)(F:FrR prog w H g s.heap env J ai)(aj:lk sc.names x=some .local\/lk sc.names x=some .cell)(hx:x≠dM)(aq:a2 J x=some (u,true)):OwnSet prog w H g s env J ai x u:=by
 rcases aj with aj|aj
 .obtain⟨m,aX,av⟩:=F.ns
  have gl:=N.loc x aj
  obtain⟨v,aa,ap,a,e,aw,al⟩:=av x u true gl aq
  rw[e] at aa al
  have at_:OwnAt env s.heap x a:=.loc gl m aX aa
  exact⟨a,aw,at_,ap,al,λA p Q E ak=>wpAny_Name (wpAny_loadName_local N.kind gl aX aa ak) (ia N aj),λh' ea=>ME hx C F aw at_⟩
 .obtain⟨gl,MF,pU⟩:=N.cell x aj
  obtain⟨xu,uI,e8,bi⟩:=F.cl x MF pU
  obtain⟨v,jq,ap,a,e,aw,al⟩:=bi u true (.inl gl) aq
  rw[jq,e] at uI
  rw[e] at al
  have at_:OwnAt env s.heap x a:=.cell gl MF pU uI
  exact⟨a,aw,at_,ap,al,λA p Q E ak=>wpAny_Name (wpAny_loadName_cell N.kind gl pU uI ak) (ia N aj),λh' ea=>ME hx C F aw at_⟩
end
theorem c2{P:Prop}(h:false=true):P:=nomatch h
def MG(x y:Str)(out:List (Str×NameKind)):NameKind->Prop
 | .local=>y=x\/y=dM
 | .cell=>y=x
 | .free=>lk out y=some .cell\/lk out y=some .free
 | .globalImplicit=>True
 |_=>False
theorem aak{out:List (Str×NameKind)}(h:wz y y out .free=true):lk out y=some .cell\/lk out y=some .free:=by
 unfold wz at h
 rcases e:lk out y with _|q<;>rw[e] at h
 .exact nomatch h
 .rcases q
  case cell=>exact .inl rfl
  case free=>exact .inr rfl
  all_goals exact c2 h
theorem aal{out:List (Str×NameKind)}{k:NameKind}(h:wz x y out k=true):MG x y out k:=by
 rcases k
 case «local»=>exact((f9 _ _).mp h).imp sEq_iff.mp sEq_iff.mp
 case cell=>exact sEq_iff.mp h
 case free=>exact aak h
 case globalImplicit=>exact trivial
 all_goals exact c2 h
structure CmpN (x:Str) (out:List (Str×NameKind)) (y:Str) (k:NameKind):Prop where
 k:MG x y out k
 amT:y≠Cg
 cls:y≠Ch
structure CmpC (x:Str) (out:List (Str×NameKind)) (y:Str) (k:NameKind) (r:List (Str×NameKind)):Prop where
 n:CmpN x out y k
 no:lk r y=none
 r:he x out r=true
theorem n0{a b:Str}(h:(!a9 a b)=true):a≠b:=λe=>by rw [e,pf] at h;exact nomatch h
theorem aam{α:Type}{o:Option α}(h:(!o.isSome)=true):o=none:=by
 rcases o with _|_
 .rfl
 .exact nomatch h
theorem xx{k:NameKind}{out r:List (Str×NameKind)}(h:he x out ((y,k)::r)=true):CmpC x out y k r:=by
 obtain⟨h,ee⟩:=aK h
 obtain⟨h,bC⟩:=aK h
 obtain⟨h,aC⟩:=aK h
 exact⟨⟨aal (aK h).1,n0 (aK h).2,n0 aC⟩,aam bC,ee⟩
theorem DT{k:NameKind}{r:List (Str×NameKind)}:lk ((y,k)::r) y=some k:=by
 show cond (a9 y y) _ _=_
 rw[pf];rfl
theorem DU{y z:Str}{k:NameKind}{r:List (Str×NameKind)}(h:y≠z):lk ((y,k)::r) z=lk r z:=by
 show cond (a9 y z) _ _=_
 rw[pP h];rfl
theorem DV{y z:Str}{k q:NameKind}{r:List (Str×NameKind)}(h:lk ((y,k)::r) z=some q):(y=z/\k=q)\/lk r z=some q:=
 (eA (show cond (a9 y z) (some k) (lk r z)=some q from h)).imp (λp=>⟨sEq_iff.mp p.1,Option.some.inj p.2⟩) (·.2)
theorem n1{out:List (Str×NameKind)}:∀{names:List (Str×NameKind)}{y:Str}{k:NameKind},he x out names=true->lk names y=some k->CmpN x out y k
 |[],_,_,_,h=>aI h
 |(z,q)::r,y,k,h,aj=>by
  have c:=xx h
  rcases DV aj with ⟨e1,e2⟩|aj
  .rw[<-e1,<-e2];exact c.n
  .exact n1 c.r aj
theorem uJ{out:List (Str×NameKind)}:∀{names:List (Str×NameKind)}{y:Str}{k:NameKind},he x out names=true->(y,k)∈names->lk names y=some k
 |[],_,_,_,h=>nomatch h
 |(z,q)::r,y,k,h,av=>by
  have c:=xx h
  rcases List.mem_cons.mp av with e|av
  .obtain⟨e1,e2⟩:=Prod.mk.inj e;rw[e1,e2];exact DT
  .have:=uJ c.r av
   exact(DU λe=>aI (c.no.symm.trans (e▸this))).trans this
theorem DW{k:NameKind}:∀{names:List (Str×NameKind)},lk names y=some k->(y,k)∈names
 |[],h=>aI h
 |(z,q)::r,h=>(DV h).elim (λp=>p.1▸p.2▸dV) λh=> .tail _ (DW h)
theorem DX{names:List (Str×NameKind)}:(∀y∈names,y.2≠ .cell)->∀n acc h,cellsFrom n names acc=acc/\pushCells h names=h:=by
 induction names with
 |nil=>intro _ _ _ _;exact⟨rfl,rfl⟩
 |cons a r bb=>
  obtain⟨y,k⟩:=a
  intro aX n acc h
  have:(k==NameKind.cell)=false:=beq_eq_false_iff_ne.mpr (aX (y,k) dV)
  unfold cellsFrom pushCells
  rw[this]
  exact bb (λz bi=>aX z (.tail _ bi)) n acc h
theorem DY{out names:List (Str×NameKind)}(h:he x out names=true)(hx:lk names x≠some .cell):∀y∈names,y.2≠ .cell:=by
 rintro⟨y,k⟩ av e
 have e:k= .cell:=e
 rw[e] at av
 have aj:=uJ h av
 have q:y=x:=(n1 h aj).k
 exact hx (q▸aj)
theorem uK{out:List (Str×NameKind)}:∀{names:List (Str×NameKind)},he x out names=true->lk names x=some .cell->∀n acc h,cellsFrom n names acc=(x,n)::acc/\pushCells h names=h.push {cls:=.type "cell",data:=.cell none}
 |[],_,h,_,_,_=>aI h
 |(y,k)::r,ap,hx,n,acc,h=>by
  have c:=xx ap
  rcases eR (k= .cell) with aj|aj
  .rw[aj] at c |-
   have aY:y=x:=c.n.k
   rw[aY] at c |-
   exact DX (DY c.r λe=>aI (c.no.symm.trans e)) _ _ _
  .have hx:lk r x=some .cell:=(DV hx).elim (λp=>absurd p.2 aj) id
   have DF:(k==NameKind.cell)=false:=beq_eq_false_iff_ne.mpr aj
   unfold cellsFrom pushCells
   rw[DF]
   exact uK c.r hx n acc h
noncomputable def pV (cells:List (Str×Addr)) (y:Str) (k:NameKind) (acc:List (Str×Addr)):List (Str×Addr):=cond (k== .free) ((y,(cells.lookup y).getD 0)::acc) acc
def hL (cells:List (Str×Addr)):List (Str×NameKind)->List (Str×Addr)->List (Str×Addr)
 |[],acc=>acc
 |p::r,acc=>hL cells r (pV cells p.1 p.2 acc)
theorem MH(k:NameKind):k= .free\/(k==NameKind.free)=false:=(eR (k= .free)).imp id beq_eq_false_iff_ne.mpr
theorem MI{f:Str×NameKind->List (Str×Addr)->Sem (ForInStep (List (Str×Addr)))}(a6:∀n k gG,f (n,k) gG=if k==NameKind.free then (do let a <-cellOf env n;pure (.yield ((n,a)::gG))) else pure (.yield gG)):
  ∀(names:List (Str×NameKind))(acc:List (Str×Addr)),(∀y,(y,NameKind.free)∈names->∃a,env.cells.lookup y=some a)->forIn names acc f=pure (hL env.cells names acc)
 |[],acc,_=>zY
 |(y,k)::r,acc,aX=>by
  have bb:=λacc=>MI a6 r acc λz bi=>aX z (.tail _ bi)
  have e:f (y,k) acc=pure (.yield (pV env.cells y k acc)):=by
   rw[a6]
   rcases MH k with e|e
   .rw[e] at aX |-
    obtain⟨a,aw⟩:=aX y dV
    have q:pV env.cells y .free acc=(y,a)::acc:=by unfold pV;rw[aw];rfl
    have:cellOf env y=pure a:=by unfold cellOf;rw[aw]
    rw[q,this,pure_bind];rfl
   .have q:pV env.cells y k acc=acc:=by unfold pV;rw[e];rfl
    rw[q,e];rfl
  rw[oN,e,pure_bind]
  exact bb _
theorem aan{scope:Scope}(h:∀y,(y,NameKind.free)∈scope.names->∃a,env.cells.lookup y=some a):closureFor scope env=pure (hL env.cells scope.names []):=by
 unfold closureFor
 exact(congrArg (λm=>m>>=λr=>pure r) (MI (λn k gG=>by cases k<;>rfl) scope.names [] h)).trans rfl
theorem MJ{bR:Type}{z y:Str}{b a:bR}{acc:List (Str×bR)}(h:((z,b)::acc).lookup y=some a):(y=z/\b=a)\/acc.lookup y=some a:=by
 rw[ha] at h
 rcases e:y==z with _|_<;>rw[e] at h
 .exact .inr h
 .exact .inl ⟨eq_of_beq e,Option.some.inj h⟩
theorem n2{bR:Type}{b:bR}{acc:List (Str×bR)}:((y,b)::acc).lookup y=some b:=by
 rw[ha,beq_self_eq_true]
theorem MK{cells:List (Str×Addr)}:∀{names:List (Str×NameKind)}{acc:List (Str×Addr)}{y:Str}{a:Addr},(hL cells names acc).lookup y=some a->acc.lookup y=some a\/((y,NameKind.free)∈names/\(cells.lookup y).getD 0=a)
 |[],_,_,_,h=> .inl h
 |(z,k)::r,acc,y,a,h=>by
  rcases MK (names:=r) h with q|q
  .have q:(cond (k== .free) ((z,(cells.lookup z).getD 0)::acc) acc).lookup y=some a:=q
   rcases MH k with e|e<;>rw[e] at q
   .exact(MJ q).symm.imp id λp=>⟨by rw [p.1,e];exact dV,by rw [p.1];exact p.2⟩
   .exact .inl q
  .exact .inr ⟨.tail _ q.1,q.2⟩
theorem ML{cells:List (Str×Addr)}{y:Str}:∀{names:List (Str×NameKind)}{acc:List (Str×Addr)},(∃a,acc.lookup y=some a)->∃a,(hL cells names acc).lookup y=some a
 |[],_,h=>h
 |(z,k)::r,acc,⟨a,h⟩=>by
  refine ML (names:=r) ?_
  unfold pV
  rcases k== .free with _|_
  .exact⟨a,h⟩
  .show ∃a,List.lookup y (_::acc)=some a
   rw[ha]
   rcases y==z with _|_
   .exact⟨a,h⟩
   .exact⟨_,rfl⟩
theorem MM{cells:List (Str×Addr)}{y:Str}:∀{names:List (Str×NameKind)}{acc:List (Str×Addr)},(y,NameKind.free)∈names->∃a,(hL cells names acc).lookup y=some a
 |[],_,h=>nomatch h
 |(z,k)::r,acc,h=>by
  rcases List.mem_cons.mp h with e|h
  .obtain⟨e1,e2⟩:=Prod.mk.inj e
   rw[<-e1,<-e2]
   exact ML (names:=r) ⟨_,n2⟩
  .exact MM (names:=r) h
section
variable {M:Model}
theorem aao{scope:Scope}{globals:Addr}{cl:List (Str×Addr)}{qual:Str}{Q:Env->Shared->Prop}(h:Q (newEnv scope s.heap.objs.size globals (cellsFrom (s.heap.objs.size+1) scope.names cl) qual none .none (some env) builtinsNs) {s with heap:=pushCells (s.heap.push {cls:=.type "dict",data:=.dict #[]}) scope.names}):
  wpAny M A (newFunctionEnv scope globals cl [] qual none .none (some env)) Q E s:=by
 simp only[newFunctionEnv,Option.isSome_some,if_true]
 refine wpAny_bind (wpAny_alloc ?_)
 refine wpAny_bind (wpAny_layCells _ (λname kind cells=>by cases n3:kind==NameKind.cell<;>simp[n3]) _ _ _ _ ?_)
 rw[show ({s with heap:=s.heap.push {cls:=.type "dict",data:=.dict #[]}}:Shared).heap.objs.size=s.heap.objs.size+1 from kl ..]
 refine wpAny_bind ?_
 rw[zY]
 exact wpAny_pure (wpAny_pure h)
end
section
variable {b:Addr}
theorem FrR.congr(F:FrR prog w H g h env J ai)(e:∀y,a2 bg y=a2 J y):FrR prog w H g h env bg ai:=
 ⟨F.ns.to (λ_ e=>e) λy _ _ _ q=>⟨(e y).symm.trans q,λ_ _ _ e=>e⟩,λx a k=>(F.cl x a k).to (λ_ e=>e) λ_ _ _ q=>⟨(e x).symm.trans q,λ_ _ _ e=>e⟩,F.loc,F.sep,(e dM).trans F.dot⟩
theorem FrR.ng(F:FrR prog w H g h env J ai)(k:Chg ai b (.own dM) h h'):FrR prog w H g h' env J ai:=by
 have own:∀{y u o},a2 J y=some (u,o)->∀a,ai a=some (.own y)->∀o,h.get? a=some o->h'.get? a=some o:=λq a aw=>k.at aw λe=>aI (F.dot.symm.trans (KE e▸q))
 refine⟨F.ns.to (k.at F.loc nofun) λy u o _ q=>⟨q,own q⟩,λx a e=>?_,F.loc,λa r e=>?_,F.dot⟩
 .have q:=F.cl x a e
  have e8:ai a=some (.cell x):=by obtain ⟨_,_,f,_⟩:=q;exact f
  exact q.to (k.at e8 nofun) λu o _ q=>⟨q,own q⟩
 .obtain⟨bU,bZ,o,dJ⟩:=F.sep a r e
  exact⟨bU,bZ,k.all a o dJ⟩
end
def pW(sc:Scope)(L:Addr)(cl:List (Str×Addr))(env:Env):Env:={newEnv sc L env.globals (cellsFrom (L+1) sc.names cl) env.qual none .none (some env) builtinsNs with scope:=relabel sc env}
noncomputable def uL (b:Bool):NameKind->NameKind
 | .free=>cond b .cell .free
 |k=>k
theorem aap{b:Bool}{k:NameKind}(h:uL b k= .local):k= .local:=by
 rcases k
 case «local»=>rfl
 case free=>rcases b with _|_<;>exact nomatch h
 all_goals exact nomatch h
theorem aaq(b:Bool):uL b .free= .cell\/uL b .free= .free:=by
 rcases b with _|_
 .exact .inr rfl
 .exact .inl rfl
theorem lk_if{b:Bool}{i7 hb:NameKind}{r:List (Str×NameKind)}:List.lookup y ((if b=true then (y,i7) else (y,hb))::r)=some (cond b i7 hb):=by
 rcases b with _|_
 .rw[if_neg nofun];exact n2
 .rw[if_pos rfl];exact n2
theorem MN{y z:Str}{k:NameKind}{r:List (Str×NameKind)}(h:z≠y):List.lookup y ((z,k)::r)=List.lookup y r:=by
 rw[ha,beq_eq_false_iff_ne.mpr λe=>h e.symm]
theorem DZ(env:Env){out:List (Str×NameKind)}{k:NameKind}:∀{names:List (Str×NameKind)},he x out names=true->lk names y=some k->
  (names.map λ(n,k)=>if (k==NameKind.free&&env.scope.kind== .function&&env.kindOf n==some .cell) then (n,NameKind.cell) else (n,k)).lookup y=some (uL (env.scope.kind== .function&&env.kindOf y==some .cell) k)
 |[],_,h=>aI h
 |(z,q)::r,ap,h=>by
  have c:=xx ap
  rw[km]
  rcases eR (z=y) with e|e
  .rw[e,DT] at h
   rw[<-Option.some.inj h,e]
   refine lk_if.trans ?_
   rcases q<;>rfl
  .rw[DU e] at h
   refine mg ?_ (DZ env c.r h)
   dsimp only
   split<;>exact MN e
theorem MO(env:Env):∀{names:List (Str×NameKind)},lk names y=none->
  (names.map λ(n,k)=>if (k==NameKind.free&&env.scope.kind== .function&&env.kindOf n==some .cell) then (n,NameKind.cell) else (n,k)).lookup y=none
 |[],_=>rfl
 |(z,q)::r,h=>by
  rw[km]
  rcases eR (z=y) with e|e
  .rw[e,DT] at h
   exact nomatch h
  .rw[DU e] at h
   refine mg ?_ (MO env h)
   dsimp only
   split<;>exact MN e
theorem MP{out names:List (Str×NameKind)}{acc:List (Str×Addr)}(h:he x out names=true)(hx:lk names x=some .cell):(cellsFrom n names acc).lookup x=some n:=by
 rw[(uK h hx n acc default).1];exact n2
inductive CellI (names:List (Str×NameKind)) (x y:Str) (n:Nat) (acc:List (Str×Addr)) (a:Addr):Prop
 |own (h:lk names x=some .cell) (e:y=x) (q:a=n)
 |out (h:acc.lookup y=some a)
theorem aar{out names:List (Str×NameKind)}{acc:List (Str×Addr)}(h:he x out names=true)(e:(cellsFrom n names acc).lookup y=some a):CellI names x y n acc a:=by
 rcases eR (lk names x=some .cell) with hx|hx
 .rw[(uK h hx n acc default).1] at e
  exact(MJ e).elim (λp=> .own hx p.1 p.2.symm) .out
 .rw[(DX (DY h hx) n acc default).1] at e
  exact .out e
theorem aas{out names:List (Str×NameKind)}{acc:List (Str×Addr)}(h:he x out names=true)(e:∃a,acc.lookup y=some a):∃a,(cellsFrom n names acc).lookup y=some a:=by
 rcases eR (lk names x=some .cell) with hx|hx
 .rw[(uK h hx n acc default).1,ha]
  rcases y==x with _|_
  .exact e
  .exact⟨_,rfl⟩
 .rw[(DX (DY h hx) n acc default).1]
  exact e
theorem aat{c:Scope}{L:Addr}(N:EnvR c env)(aj:sc.kind= .function)(h:he x c.names sc.names=true):EnvR sc (pW sc L (hL env.cells sc.names []) env):=by
 have pX:∀{y k},lk sc.names y=some k->(pW sc L (hL env.cells sc.names []) env).kindOf y=some (uL (env.scope.kind== .function&&env.kindOf y==some .cell) k):=λq=>DZ env h q
 refine⟨aj,N.glob,N.blt,λy e=>pX e,λy e=>⟨pX e,?_⟩,λy e=>⟨?_,aas h (MM (DW e))⟩,λy e=>pX e,λy k e=>⟨(n1 h e).amT,(n1 h e).cls⟩⟩
 .have aY:y=x:=(n1 h e).k
  rw[aY] at e |-
  exact⟨_,MP h e⟩
 .rw[pX e]
  exact(aaq _).imp (congrArg some) (congrArg some)
def hM (ai:Addr->Option Ro) (D I L:Addr) (x:Str) (ap:Bool) (a:Addr):Option Ro:=
 cond (Nat.beq a L) (some .loc) (cond (Nat.beq a D||Nat.beq a I) (some (.own dM)) (cond (ap&&Nat.beq a (L+1)) (some (.cell x)) (ai a)))
theorem hn{a b:Nat}(h:a≠b):Nat.beq a b=false:=Bool.eq_false_iff.mpr λe=>h (ei e)
inductive RoI (ai:Addr->Option Ro) (D I L:Addr) (x:Str) (ap:Bool) (a:Addr) (r:Ro):Prop
 |loc (e:a=L)
 |own (e:a=D\/a=I)
 |cell (c:ap=true) (e:a=L+1)
 |old (e:ai a=some r)
theorem aau{D I L:Addr}{ap:Bool}{r:Ro}(h:hM ai D I L x ap a=some r):RoI ai D I L x ap a r:=by
 rcases eA h with ⟨e,_⟩|⟨_,h⟩
 .exact .loc (ei e)
 .rcases eA h with ⟨e,_⟩|⟨_,h⟩
  .exact .own (((f9 _ _).mp e).imp ei ei)
  .rcases eA h with ⟨e,_⟩|⟨_,h⟩
   .exact .cell (aK e).1 (ei (aK e).2)
   .exact .old h
structure CmpD4 (g:Gh) (h:Heap) (ai:Addr->Option Ro) (D I L:Addr) (ap:Bool):Prop where
 sD:Sep1 g h D
 sI:Sep1 g h I
 sL:Sep1 g h L
 sC:ap=true->Sep1 g h (L+1)
 pD:ai D=none
 pI:ai I=none
 pL:ai L=none
 pC:ai (L+1)=none
 d1:D≠L
 d2:I≠L
 d3:D≠L+1
 d4:I≠L+1
section
variable {D I L:Addr}{ap:Bool} (Z:CmpD4 g h ai D I L ap)
include Z
omit Z in
theorem aav:hM ai D I L x ap L=some .loc:=by unfold hM;rw[jF];rfl
theorem CmpD4.rD:hM ai D I L x ap D=some (.own dM):=by unfold hM;rw[hn Z.d1,jF];rfl
theorem CmpD4.rI:hM ai D I L x ap I=some (.own dM):=by unfold hM;rw[hn Z.d2,jF,Bool.or_true];rfl
theorem CmpD4.rC(e:ap=true):hM ai D I L x ap (L+1)=some (.cell x):=by unfold hM;rw[hn (qT L),hn Z.d3.symm,hn Z.d4.symm,jF,e];rfl
theorem CmpD4.up{r:Ro}(e:ai a=some r):hM ai D I L x ap a=some r:=by
 have ne:∀{b},ai b=none->a≠b:=λq bq=>aI (q.symm.trans (bq▸e))
 unfold hM
 rw[hn (ne Z.pL),hn (ne Z.pD),hn (ne Z.pI),hn (ne Z.pC),Bool.and_false]
 exact e
theorem CmpD4.sep(q:ic g h ai):ic g h (hM ai D I L x ap):=λa r e=>by
 rcases aau e with e|e|⟨c,e⟩|e
 .exact e▸Z.sL
 .exact e.elim (λe=>e▸Z.sD) λe=>e▸Z.sI
 .exact e▸Z.sC c
 .exact q a r e
theorem CmpD4.hold{v:Value}{o:Bool}(q:Hold prog w H g h ai y v u o):Hold prog w H g h (hM ai D I L x ap) y v u o:=by
 rcases o with _|_
 .exact q
 .obtain⟨aa,a,ah,aC,bC⟩:=q
  exact⟨aa,a,ah,Z.up aC,bC⟩
end
def pY (J:am) (x:Str):am:=J.filter λp=> !a9 p.1 x
theorem D0{x:Str}:∀{J:am},a2 (pY J x) x=none
 |[]=>rfl
 |(z,s)::r=>by
  show a2 (List.filter _ ((z,s)::r)) x=none
  rw[qU]
  rcases e:a9 z x with _|_
  .show cond (a9 z x) _ _=none
   rw[e];exact D0 (J:=r)
  .exact D0 (J:=r)
theorem xy(h:y≠x):∀{J:am},a2 (pY J x) y=a2 J y
 |[]=>rfl
 |(z,s)::r=>by
  have bb:=xy h (J:=r)
  show a2 (List.filter _ ((z,s)::r)) y=cond (a9 z y) _ _
  rw[qU]
  rcases e:a9 z x with _|_
  .show cond (a9 z y) _ (a2 (pY r x) y)=_
   rw[bb]
  .rw[pP λq:z=y=>h (q▸sEq_iff.mp e)]
   exact bb
theorem D1{s:V×Bool}(h:a2 (pY J x) y=some s):y≠x/\a2 J y=some s:=by
 rcases eR (y=x) with e|e
 .rw[e,D0] at h
  exact nomatch h
 .exact⟨e,(xy e).symm.trans h⟩
section
variable {sc c:Scope}{D I L:Addr}{ao:Bool}
theorem aaw(F:FrR prog w H g h env J ai)(N:EnvR c env)(pZ:he x c.names sc.names=true)(Z:CmpD4 g h ai D I L ao)(aw:(hL env.cells sc.names []).lookup y=some a):
  FrCl prog w H g h (pW sc L (hL env.cells sc.names []) env) (pY J x) (hM ai D I L x ao) y a:=by
 rcases MK aw with q|⟨q,e⟩
 .exact aI q
 .have rB:lk c.names y=some .cell\/lk c.names y=some .free:=(n1 pZ (uJ pZ q)).k
  obtain⟨b,uM⟩:∃b,env.cells.lookup y=some b:=rB.elim (λq=>(N.cell y q).2) λq=>(N.free y q).2
  have aax:env.kindOf y=some .cell\/env.kindOf y=some .free:=rB.elim (λq=> .inl (N.cell y q).1) λq=>(N.free y q).1
  rw[uM] at e
  rw[<-show b=a from e]
  obtain⟨v,aa,ah,aC⟩:=F.cl y b uM
  refine⟨v,aa,Z.up ah,λu o _ aY=>?_⟩
  obtain⟨z,bC,ee⟩:=aC u o aax (D1 aY).2
  exact⟨z,bC,Z.hold ee⟩
theorem aay(MQ:ao=true↔lk sc.names x=some .cell)(F:FrR prog w H g h env J ai)(N:EnvR c env)(pZ:he x c.names sc.names=true)(fc:x≠dM){m:Str->Option Value}(av:h.Ns L m)(aaz:ao=true->h.IsCell (L+1) none)(Z:CmpD4 g h ai D I L ao):
  FrR prog w H g h (pW sc L (hL env.cells sc.names []) env) (pY J x) (hM ai D I L x ao):=by
 refine⟨⟨m,av,λy u o aj aY=>?_⟩,λy a aw=>?_,aav,Z.sep F.sep,(xy λe=>fc e.symm).trans F.dot⟩
 .obtain⟨uH,aY⟩:=D1 aY
  have aj:((sc.names.map λ(n,k)=>if (k==NameKind.free&&env.scope.kind== .function&&env.kindOf n==some .cell) then (n,NameKind.cell) else (n,k)).lookup y)=some .local:=aj
  rcases e:lk sc.names y with _|k
  .rw[MO env e] at aj;exact nomatch aj
  .rw[DZ env pZ e] at aj
   rw[aap (Option.some.inj aj)] at e
   have q:y=x\/y=dM:=(n1 pZ e).k
   exact q.elim (λq=>absurd q uH) λq=>aI (F.dot.symm.trans (q▸aY))
 .rcases aar pZ (show (cellsFrom (L+1) sc.names (hL env.cells sc.names [])).lookup y=some a from aw) with ⟨hx,e,q⟩|q
  .rw[e,q]
   exact⟨none,aaz (MQ.mpr hx),Z.rC (MQ.mpr hx),λu o _ aY=>absurd rfl (D1 aY).1⟩
  .exact aaw F N pZ Z q
end
section
noncomputable def p0(ifs:List Expr)(b:Bool)(env:Env):Sem Bool:=forIn ifs b λc r=>if r=true then do let ok <-isTrue c env (eval c env);pure (ForInStep.yield ok) else pure (ForInStep.yield r)
theorem MR{Q:Bool->Shared->Prop}(h:Q false s):∀(ifs:List Expr),wpAny (model prog w) A (p0 ifs false env) Q E s
 |[]=>wpAny_pure h
 |c::r=>by
  unfold p0
  rw[oN]
  exact wpAny_bind (wpAny_pure (MR h r))
theorem aaA{Q:Bool->Shared->Prop}{c:Expr}{r:List Expr}(h:wpAny (model prog w) A (isTrue c env (eval c env)) (λb s=>wpAny (model prog w) A (p0 r b env) Q E s) E s):
  wpAny (model prog w) A (p0 (c::r) true env) Q E s:=by
 unfold p0
 rw[oN,if_pos rfl]
 exact wpAny_bind (wpAny_bind (wpAny_mono h (λ_ _ h=>wpAny_pure h) λ_ _ h=>h))
theorem D2(a7:iS prog w G ta n)(R:Room A n)(N:EnvR c.sc env):
  ∀{ifs:List Expr}{H:T}{b:Bool}{O:T},gz (dR G n c J) .And ifs H=some (b,O)->O.cnt<=ba->∀{g:Gh}{s:Shared}{Q:Bool->Shared->Prop},g.ta=ta->Cfg prog w H g s.heap->FrR prog w H g s.heap env J ai->
  ToB prog w H g s O b Q->wpAny (model prog w) A (p0 ifs true env) Q E s
 |[],H,b,O,h,_,g,s,Q,T,C,F,ak=>by
  refine wpAny_pure ?_
  have k:Q b s:=by
   revert ak
   exact pI h (P:=λb O=>ToB prog w H g s O b Q->Q b s) λak=>ak g s.heap s.toks (.refl _ _) (.refl _) C
  rw[<-(Prod.mk.inj (Option.some.inj h)).1] at k
  exact k
 |e::es,H,b,O,h,ag,g,s,Q,T,C,F,ak=>by
  obtain⟨t,aD,aa,h⟩:=b1 h
  have cC:=rN aa C.ok.bld
  refine aaA ?_
  rcases t with _|_
  .revert ag ak
   exact pI (show some (false,aD)=some (b,O) from h) (P:=λb O=>O.cnt<=ba->ToB prog w H g s O b Q->_) λag ak=>a7 c J e H _ _ aa ag A env ai g s _ E R T N C F λaV aB bh aR k₁ aZ=>MR (ak aV aB bh aR k₁ aZ) es
  .have h:gz (dR G n c J) .And es aD=some (b,O):=h
   have cA:=Do h cC.2
   exact a7 c J e H _ _ aa (aT cA.1.cnt ag) A env ai g s _ E R T N C F λaV aB bh aR k₁ aZ=>D2 a7 R N h ag (aR.ta.trans T) aZ (F.ext k₁ aR aZ.bn) (ak.trans aR k₁)
theorem aaB(h:mz e=true)(env:Env):∀x,foldedSetIterable e env x=pure x:=by
 rcases e
 case Set=>exact c2 h
 all_goals exact λ_=>rfl
theorem MS{r:List V×T}(h:gA G n c J e H=some r)(env:Env):∀x,foldedSetIterable e env x=pure x:=by
 rcases n with _|n
 .exact aI h
 .replace h:rx G c (aN G n c J) e H (nF e)=some r:=h
  rcases q:nF e with _|a<;>rw[q] at h
  .obtain⟨_,_,h,_⟩:=b1 h
   exact aaB (mA h) env
  .obtain⟨_,_,e⟩:=MC q
   rw[e];exact λ_=>rfl
theorem xz:∀{l:List V}{ds:List PyData}{u:V}{d:PyData},bX H l=some ds->bI H u=some d->bX H (l++[u])=some (ds++[d])
 |[],_,_,_,h,aQ=>by rw [<-Option.some.inj h];exact h9 aQ rfl
 |v::r,_,_,_,h,aQ=>by
  obtain⟨a,m,e,aw,av⟩:=fa h
  rw[e]
  exact h9 aw (xz av aQ)
theorem Gh.le.no(k:g.le au)(h:au.im a=none):g.im a=none:=by
 rcases e:g.im a with _|o
 .rfl
 .exact aI (h.symm.trans (k.im a o e))
theorem Gh.le.trans{g au hF:Gh}(a:g.le au)(b:au.le hF):g.le hF:=by
 refine⟨b.ta.trans a.ta,λc o e=>b.im c o (a.im c o e),?_⟩
 obtain⟨m,av⟩:=a.dd
 obtain⟨jl,ly⟩:=b.dd
 exact⟨m++jl,by rw [ly,av,iA]⟩
abbrev r2 (G:Gl) (n:Nat) (c:Cx) (sc:Scope) (J:am) (x:Str) (ifs:List Expr):V->T->Option (Bool×T):=λv H=>gz (dR G n {c with sc:=sc} ((x,v,false)::J)) .And ifs H
abbrev r3 (G:Gl) (n:Nat) (c:Cx) (sc:Scope) (J:am) (x:Str) (elt:Expr):V->T->Option (V×T):=λv H=>aN G n {c with sc:=sc} ((x,v,false)::J) elt H
theorem D3{ifs:List Expr}{elt:Expr}{l r:List V}(h:gR (r2 G n c sc J x ifs) (r3 G n c sc J x elt) l H=some (r,O))(aL:H.fA):H.bP O/\O.fA:=
 wR (λ_ _ _ _ h=>ud ((gT G n n (cq _)).t _ _) _ _ h) (λ_ _ _ _ h=>(gT G n n (cq _)).e _ _ _ _ _ _ h) _ _ h aL
end
structure NewL (cu:Heap) (g:Gh) (h:Heap) (D L:Addr):Prop where
 new:cu.get? L=none
 im:g.im L=none
 mu:L∉g.bW
 ne:L≠D
 ns:∃m,h.Ns L m
section
variable (prog:Program)(w:World)(G:Gl)(ta:Ta)
def xA(A:Around)(E:cI)(jZ:Option (Value->Sem Unit))(H:T)(g:Gh)(s:Shared)(O:T)(v:V)(Q:cI):Prop:=
 ∀au h' aF D L,Ext g s.heap au h'->H.bP O->Cfg prog w O au h'->NewD prog w O s.heap au h' D v->NewL s.heap au h' D L->compPost (model prog w) A E jZ Q (.ref D) L (.ok .next) {s with heap:=h',toks:=aF}
structure CmpF (A:Around) (n:Nat) (sc:Scope) (x:Str) (cv l:List V) (s:Shared) (g aV:Gh) (aD:T) (eC:Env) (ai:Addr->Option Ro) (D I:Addr) (cR:List Addr) (P:Nat->Value->Prop) (St:Nat->Heap->Prop):Prop where
 R:Room A n
 tq:g.ta=ta
 N:EnvR sc eC
 W:Walks prog w A I cR [I] cv.length P St
 zw:∀b∈cR,b=I\/∃o,aV.im b=some o
 at_:∀i v,i<cv.length->P i v->∃u,cv[i]? =some u/\Val prog w aD aV aV.im v u
 H6:∀i h,St i h->∃o,h.get? I=some o/\itCls o
 nI:s.heap.get? I=none
 nD:s.heap.get? D=none
 rI:ai I=some (.own dM)
 rD:ai D=some (.own dM)
 ne:D≠I
 xl:lk sc.names x=some .local\/lk sc.names x=some .cell
 xd:x≠dM
 nL:s.heap.get? eC.locals=none
 nX:∀b,lk sc.names x=some .cell->eC.cells.lookup x=some b->s.heap.get? b=none
 flat:jM l=true
inductive CmpIn (n:Nat) (c:Cx) (sc:Scope) (J:am) (x:Str) (ifs:List Expr) (elt:Expr) (cv l:List V) (O:T) (s:Shared) (g aV:Gh) (aD:T) (eC:Env) (ai:Addr->Option Ro) (D:Addr) (St:Nat->Heap->Prop) (k:Nat) (bQ:Shared):Prop
 |mk (h:Heap) (aF:Nat) (au:Gh) (cE:T) (cy:Array Value) (ds:List PyData) (done cK:List V) (bg:am) (i:Nat) (e:bQ={s with heap:=h,toks:=aF}) (gm:k=cv.length - i) (hi:i<=cv.length) (X:Ext g s.heap au h) (Gl:aV.le au) (ks:aD.bP cE) (C:Cfg prog w cE au h)
   (F:FrR prog w cE au h eC bg ai) (iO:∀y,y≠x->a2 bg y=a2 J y) (di:h.PlainList D cy) (r:RdL au.im cy.toList ds) (gG:bX cE done=some ds) (st:St i h) (ev:gR (r2 G n c sc J x ifs) (r3 G n c sc J x elt) (cv.drop i) cE=some (cK,O)) (ho:l=done++cK)
end
section
variable {ifs:List Expr}{elt:Expr}{cv l:List V}{g aV:Gh}{eC:Env}{D I:Addr}{cR:List Addr}{P:Nat->Value->Prop}{St:Nat->Heap->Prop}
theorem CmpF.keep(Z:CmpF prog w ta A n sc x cv l s g aV aD eC ai D I cR P St){cE:T}(Gl:aV.le au)(C:Cfg prog w cE au h){cD:Gh}{aB a8:Heap}(hI:I∉au.bW)(st:St i aB)(X:Ext au aB cD a8):St i a8:=
 Z.W.frame _ _ _ st λb ao o e=>X.old _ o e ((Z.zw b ao).elim (λq=>q▸hI) λq=>q.elim λb9 bq m=>aI ((C.tok.out _ m).symm.trans (Gl.im _ _ bq)))
theorem CmpF.ng(Z:CmpF prog w ta A n sc x cv l s g aV aD eC ai D I cR P St){b:Addr}{aB a8:Heap}(hI:I≠b)(h0:aV.im b=none)(st:St i aB)(k:∀a o,a≠b->aB.get? a=some o->a8.get? a=some o):St i a8:=
 Z.W.frame _ _ _ st λd aQ o e=>k d o ((Z.zw d aQ).elim (λq=>q▸hI) λq=>q.elim λ_ bq m=>aI (h0.symm.trans (m▸bq))) e
theorem CmpF.H3(Z:CmpF prog w ta A n sc x cv l s g aV aD eC ai D I cR P St){cE:T}(F:FrR prog w cE au h eC bg ai){b:Addr}(ao:b=eC.locals\/(lk sc.names x=some .cell/\eC.cells.lookup x=some b)):s.heap.get? b=none/\∃r,ai b=some r/\r≠ .own dM:=by
 rcases ao with e|⟨e1,e2⟩
 .rw[e];exact⟨Z.nL,_,F.loc,nofun⟩
 .obtain⟨_,_,q,_⟩:=F.cl x b e2
  exact⟨Z.nX b e1 e2,_,q,nofun⟩
theorem aaC(h:n<=4096)(e:n=m+k):m<=4096:=aT (e▸eZ m k) h
theorem mL(h:m<=4096):m<=sizeLine:=aT h (by decide)
theorem aaD{a r:List V}{y:V}(h:jM (a++y::r)=true):y.flat=true/\a.length<=4096:=by
 obtain⟨aa,ah⟩:=aK h
 rw[List.all_append] at aa
 exact⟨(aK (aK aa).2).1,aaC (gd ah) (d5 ..)⟩
theorem anr{l:List V}(h:jM l=true):l.all V.flat=true:=(aK h).1
theorem aaE(iO:∀y,y≠x->a2 bg y=a2 J y)(y:Str):a2 ((x,u,false)::J) y=a2 (cb bg x u false) y:=by
 rcases eR (y=x) with e|e
 .rw[e,rget_same]
  show cond (a9 x x) _ _=_
  rw[pf];rfl
 .rw[ih e,iO y e]
  show cond (a9 x y) _ _=_
  rw[pP λq=>e q.symm];rfl
theorem MT(e:y≠x):a2 ((x,u,false)::J) y=a2 J y:=by
 show cond (a9 x y) _ _=_
 rw[pP λq=>e q.symm];rfl
inductive CmpMid (prog:Program) (w:World) (n:Nat) (sc:Scope) (J:am) (x:Str) (cv:List V) (cE:T) (s:Shared) (g aV au:Gh) (eC:Env) (ai:Addr->Option Ro) (D:Addr) (St:Nat->Heap->Prop) (i:Nat) (u:V) (cy:Array Value) (bQ:Shared):Prop
 |mk (h:Heap) (aF:Nat) (e:bQ={s with heap:=h,toks:=aF}) (X:Ext g s.heap au h) (C:Cfg prog w cE au h) (F:FrR prog w cE au h eC ((x,u,false)::J) ai) (di:h.PlainList D cy) (st:St (i+1) h)
theorem aaF(Z:CmpF prog w ta A n sc x cv l s g aV aD eC ai D I cR P St){aF:Nat}{cE:T}{cy:Array Value}(hi:i<cv.length)(X:Ext g s.heap au h)(Gl:aV.le au)(ks:aD.bP cE)(C:Cfg prog w cE au h)(F:FrR prog w cE au h eC bg ai)(iO:∀y,y≠x->a2 bg y=a2 J y)(di:h.PlainList D cy)(st:St i h){hN:Pos}{Q:Option Value->Shared->Prop}{K:Unit->Shared->Prop}(ak:∀v bQ,wpAny (model prog w) A (assign (.Name x hN) eC v) K E bQ->Q (some v) bQ)(n4:∀bQ,CmpMid prog w n sc J x cv cE s g aV au eC ai D St i (cv[i]'hi) cy bQ->K () bQ):wpAny (model prog w) A (pyNext (.ref I)) Q E {s with heap:=h,toks:=aF}:=by
 obtain⟨aaG,aaH,uN⟩:=F.sep I _ Z.rI
 obtain⟨ans,ant,fY⟩:=F.sep D _ Z.rD
 refine Z.W.item i _ _ _ hi st λv a8 b8 D4 uO p1=>ak v _ ?_
 have xB:∀a o,a≠I->h.get? a=some o->a8.get? a=some o:=λa o ne e=>p1 a o (λq=>ne (dG q)) e
 obtain⟨u,bG,hV⟩:=Z.at_ i v hi D4
 rw[oI hi] at bG
 rw[<-Option.some.inj bG] at hV
 have cn:Ext g s.heap au a8:=X.own Z.nI xB
 have b3:Cfg prog w cE au a8:=C.own aaG aaH xB
 have D5:∃o,a8.get? I=some o:=by
  obtain⟨o,q,_⟩:=Z.H6 (i+1) a8 uO
  exact⟨o,q⟩
 have gj:=F.ng ⟨Z.rI,xB,D5⟩
 refine wpAny_assign_Name (mK (s:={s with heap:=a8,toks:=b8}) Z.N b3 gj Z.xl Z.xd (o:=false) (hV.mono ks Gl Gl.im) λbN gX Y=>n4 _ ?_)
 obtain⟨b,ao,jr,_⟩:=Y.b
 obtain⟨aaI,r,aq,ne⟩:=Z.H3 gj ao
 have ext:=SameBut.ext' jr
 exact⟨bN,gX,rfl,cn.own aaI ext,Y.C,Y.F.congr (aaE iO),(di.at λo e=>xB D o Z.ne e).at λo e=>ext D o (mJ Z.rD aq ne.symm) e,
  Z.ng (mJ Z.rI aq ne.symm) (Gl.no (gj.sep b r aq).im) uO ext⟩
theorem aaJ(S:cx prog w G ta n)(a7:iS prog w G ta n)(Z:CmpF prog w ta A n sc x cv l s g aV aD eC ai D I cR P St)(ag:O.cnt<=ba){cE:T}{cy:Array Value}{ds:List PyData}{done cK:List V}{kI:Shared}(hi:i<cv.length)(gm:k=cv.length - i)(Gl:aV.le au)(ks:aD.bP cE)(r:RdL au.im cy.toList ds)(gG:bX cE done=some ds)(ev:gR (r2 G n c sc J x ifs) (r3 G n c sc J x elt) (cv[i]'hi::cv.drop (i+1)) cE=some (cK,O))(ho:l=done++cK)(M:CmpMid prog w n sc J x cv cE s g aV au eC ai D St i (cv[i]'hi) cy kI):
  wpAny (model prog w) A (p0 ifs true eC) (λok kI=>if ok=true then wpAny (model prog w) A (eval elt eC) (λv aaK=>wpAny (model prog w) A (call (.builtin "list.append") [.ref D,v]) (λ_ aaL=>∃m,m<k/\CmpIn prog w G n c sc J x ifs elt cv l O s g aV aD eC ai D St m aaL) E aaK) E kI
   else ∃m,m<k/\CmpIn prog w G n c sc J x ifs elt cv l O s g aV aD eC ai D St m kI) E kI:=by
 obtain⟨bN,gX,uP,hJ,fo,gH,MU,MV⟩:=M
 have lt:cv.length - (i+1)<k:=gm▸Iq _ _ hi
 have kH:=hJ.ta.trans Z.tq
 have nI:=(gH.sep I _ Z.rI).mu
 have nD:=(gH.sep D _ Z.rD).mu
 rw[uP]
 obtain⟨b,n5,a1,ev⟩:=b1 ev
 have mt:=Do a1 fo.ok.bld
 rcases b with _|_
 .have ev:gR (r2 G n c sc J x ifs) (r3 G n c sc J x elt) (cv.drop (i+1)) n5=some (cK,O):=ev
  have aaM:=D3 ev mt.2
  exact D2 (s:={s with heap:=bN,toks:=gX}) a7 Z.R Z.N a1 (aT aaM.1.cnt ag) kH fo gH λr4 b5 g0 hO mM f5=>⟨_,lt,b5,g0,r4,n5,cy,ds,done,cK,_,i+1,rfl,rfl,hi,hJ.trans hO,Gl.trans hO.le,ks.trans mM,f5,gH.ext mM hO f5.bn,λy e=>MT e,
   MU.at λo e=>hO.old _ o e nD,r.mono hO.im,mq mM gG,Z.keep Gl fo nI MV hO,ev,ho⟩
 .obtain⟨y,MW,cL,ev⟩:=b1 ev
  obtain⟨a4,anu,aq,ev⟩:=b1 ev
  obtain⟨e1,e2⟩:=Prod.mk.inj (Option.some.inj ev)
  rw[e2] at aq
  rw[<-e1] at ho
  have MX:=mw cL mt.2
  have ce:=aT (D3 aq MX.2).1.cnt ag
  obtain⟨aaN,hY⟩:=aaD (ho▸Z.flat)
  refine D2 (s:={s with heap:=bN,toks:=gX}) a7 Z.R Z.N a1 (aT MX.1.cnt ce) kH fo gH λr4 b5 g0 hO mM f5=>?_
  have mN:=gH.ext mM hO f5.bn
  refine S _ _ elt n5 y MW cL ce A eC ai r4 {s with heap:=b5,toks:=g0} _ _ Z.R (hO.ta.trans kH) Z.N f5 mN λaaO mO r5 aaP xC MY xD aaQ=>?_
  have xE:=mN.ext MY xC xD.bn
  have uQ:=hO.trans xC
  have wj:=mM.trans MY
  obtain⟨d,aQ,hm⟩:=aaQ.flat (λ_ _ e=>e) aaN
  have sD:=xE.sep D _ Z.rD
  refine wpAny_list_append_plain (s:={s with heap:=mO,toks:=r5}) (MU.at λo e=>uQ.old _ o e nD) (λjs MZ D6=>?_) (mL (f4 r gG▸hY))
  have ext:=SameBut.ext' D6
  exact⟨_,lt,js,r5,aaO,MW,cy.push aaP,ds++[d],done++[y],a4,_,i+1,rfl,rfl,hi,(hJ.trans uQ).own Z.nD ext,Gl.trans uQ.le,ks.trans wj,xD.own sD.im sD.mu ext,xE.ng ⟨Z.rD,ext,let ⟨n,e⟩:=MZ;⟨_,e⟩⟩,λy e=>MT e,
   MZ,by rw [oM];exact(r.mono uQ.im).append (.cons hm .nil),xz (mq wj gG) aQ,Z.ng Z.ne.symm (Gl.no (gH.sep D _ Z.rD).im) (Z.keep Gl fo nI MV uQ) ext,aq,by rw [iA];exact ho⟩
theorem aaR(S:cx prog w G ta n)(a7:iS prog w G ta n)(Z:CmpF prog w ta A n sc x cv l s g aV aD eC ai D I cR P St)(ag:O.cnt<=ba){R:Result->Shared->Prop}{it:Expr}{hN pos:Pos}(j0:∀au h' aF,Ext g s.heap au h'->aD.bP O->Cfg prog w O au h'->NewD prog w O s.heap au h' D (.list l)->NewL s.heap au h' D eC.locals->R (.ok .next) {s with heap:=h',toks:=aF}){bQ:Shared}(hI:CmpIn prog w G n c sc J x ifs elt cv l O s g aV aD eC ai D St k bQ):
  codeAny (model prog w) A (.compLoop (.ListComp elt [⟨.Name x hN,it,ifs,0⟩] sc pos) 0 (.ref I) (.ref D) eC) R bQ:=by
 refine codeAny_compLoop_tests (CmpIn prog w G n c sc J x ifs elt cv l O s g aV aD eC ai D St) (λk bQ hI=>?_) k hI
 obtain⟨h,aF,au,cE,cy,ds,done,cK,bg,i,e,gm,hi,X,Gl,ks,C,F,iO,di,r,gG,st,ev,ho⟩:=hI
 rw[e]
 rcases oP i cv.length with fJ|D7
 .rw[Ii fJ] at ev
  exact aaF Z fJ X Gl ks C F iO di st (λv bQ h=>h) λkI M=>aaJ S a7 Z ag fJ gm Gl ks r gG ev ho M
 .have ig:=tw hi D7
  rw[ig,zR] at ev
  obtain⟨e1,e2⟩:=Prod.mk.inj (Option.some.inj ev)
  rw[<-e1,eh] at ho
  rw[e2] at ks C gG
  rw[ig] at st
  have sI:=F.sep I _ Z.rI
  have sD:=F.sep D _ Z.rD
  have sL:=F.sep _ _ F.loc
  refine Z.W.done _ _ _ st λa8 b8 p1=>?_
  have ext:∀a o,a≠I->h.get? a=some o->a8.get? a=some o:=λa o ne e=>p1 a o (λq=>ne (dG q)) e
  obtain⟨M0,hD⟩:=di
  have uR:=ext D _ Z.ne hD
  obtain⟨m,av⟩:=F.amM
  exact j0 au a8 b8 (X.own Z.nI ext) ks (C.own sI.im sI.mu ext) ⟨Z.nD,sD.im,sD.mu,⟨_,uR⟩,rfl,⟨D,cy,M0,ds,rfl,uR,r,ho▸gG⟩⟩ ⟨Z.nL,sL.im,sL.mu,mJ F.loc Z.rD nofun,⟨m,av.at' λo e=>ext _ o (mJ F.loc Z.rI nofun) e⟩⟩
structure NewC (aB h:Heap) (sc:Scope) (x:Str) (D L:Addr):Prop where
 keep:∀b o,aB.get? b=some o->h.get? b=some o
 no:∀b,D<=b->aB.get? b=none
 eL:L=D+1
 lt:D=aB.objs.size
 hD:h.PlainList D #[]
 ns:h.Ns L (λ_=>none)
 cell:lk sc.names x=some .cell->h.IsCell (L+1) none
noncomputable def n6:Obj:={cls:=.type "list",dict:=none,data:=.seq ([]:List Value).toArray}
noncomputable def xF:Obj:={cls:=.type "dict",data:=.dict #[]}
noncomputable def M1:Obj:={cls:=.type "cell",data:=.cell none}
theorem xG{b:Addr}(l:h.objs.size<=b):h.get? b=none:=by
 rcases e:h.get? b with _|o
 .rfl
 .exact absurd (gs e) (Nat.not_lt.mpr l)
theorem aaS{aB:Heap}{out:List (Str×NameKind)}(ap:he x out sc.names=true):NewC aB (pushCells ((aB.push n6).push xF) sc.names) sc x aB.objs.size (aB.push n6).objs.size:=by
 have k3:=λb o (e:(aB.push n6).get? b=some o)=>pushCells_keeps sc.names ((aB.push n6).push xF) b o (ey xF e)
 refine⟨λb o e=>k3 b o (ey n6 e),λb l=>xG l,kl ..,rfl,⟨0,k3 _ _ (ez aB rfl)⟩,(Heap.Ns.new (aB.push n6) (.type "dict")).keeps (pushCells_keeps _ _),λe=>?_⟩
 rw[(uK ap e 0 [] _).2]
 refine⟨M1,?_,rfl⟩
 have:=ez ((aB.push n6).push xF) (o:=M1) rfl
 rwa [kl (aB.push n6)] at this
end
section
variable {elt:Expr}{hN:Pos}{it:Expr}{ifs:List Expr}{pos p:Pos}{cv l:List V}{jZ:Option (Value->Sem Unit)}
structure CmpK (x:Str) (sc out:Scope):Prop where
 fn:sc.kind= .function
 nm:he x out.names sc.names=true
 xl:lk sc.names x=some .local\/lk sc.names x=some .cell
 d:x≠dM
theorem aaT(h:(match lk sc.names x with|some .local|some .cell=>true|_=>false)=true):lk sc.names x=some .local\/lk sc.names x=some .cell:=by
 rcases e:lk sc.names x with _|k<;>rw[e] at h
 .exact nomatch h
 .rcases k
  case «local»=>exact .inl rfl
  case cell=>exact .inr rfl
  all_goals exact c2 h
theorem aaU{k:ScopeKind}(h:(match k with| .function=>true|_=>false)=true):k= .function:=by
 rcases k
 case function=>rfl
 all_goals exact c2 h
theorem aaV{sc out:Scope}(h:lj x sc out=true):CmpK x sc out:=by
 obtain⟨h,bC⟩:=aK h
 obtain⟨h,aC⟩:=aK h
 exact⟨aaU (aK h).1,(aK h).2,aaT aC,n0 bC⟩
theorem aaW(S:cx prog w G ta n)(a7:iS prog w G ta n)(ok:CmpK x sc c.sc)(R:Room A n)(T:g.ta=ta)(N:EnvR c.sc env)(F:FrR prog w H g s.heap env J ai)(a6:jM l=true)(ag:O.cnt<=ba){aV:Gh}{aB U:Heap}{bh:Nat}{xH:Value}{D L:Addr}(X:Ext g s.heap aV aB)(k:H.bP aD)(C:Cfg prog w aD aV aB)(ii:NewC aB U sc x D L)(ah:gR (r2 G n c sc J x ifs) (r3 G n c sc J x elt) cv aD=some (l,O))(K:xA prog w A E jZ H g s O (.list l) Q)(q:IterOk prog w A aD aV aB s.heap xH cv):
  codeAny (model prog w) A (.compStart (.ListComp elt [⟨.Name x hN,it,ifs,0⟩] sc pos) 0 xH (.ref D) (pW sc L (hL env.cells sc.names []) env)) (compPost (model prog w) A E jZ Q (.ref D) L) {s with heap:=U,toks:=bh}:=by
 obtain⟨I,cR,P,St,e,nI,⟨uN,uS⟩,aaX,aaY,W,rW,fr,cl,vs⟩:=q
 have hJ:Ext g s.heap aV U:=X.trans (Ext.grow aV ii.keep)
 have fo:Cfg prog w aD aV U:=C.grow ii.keep
 have gH:=F.ext k hJ fo.bn
 have no:∀b,D<=b->s.heap.get? b=none:=λb l=>gU X.live (ii.no b l)
 have ph:∀{b},s.heap.get? b=none->ai b=none:=λ{b} l=>by
  rcases e:ai b with _|r
  .rfl
  .obtain⟨_,_,o,aG⟩:=F.sep b r e
   exact aI (l.symm.trans aG)
 have p2:∀{b},D<=b->(∃o,U.get? b=some o)->Sep1 aV U b:=λl o=>⟨C.g8 (ii.no _ l),C.l9 (ii.no _ l),o⟩
 have D8:I<D:=ii.lt▸gs uS
 have r6:D<L:=ii.eL▸qV D
 have az:D<L+1:=qR r6
 have aaZ:∃o,U.get? D=some o:=let ⟨_,e⟩:=ii.hD;⟨_,e⟩
 have ab0:∃o,U.get? L=some o:=let ⟨o,_,_,e,_⟩:=ii.ns;⟨o,e⟩
 have hP:decide (lk sc.names x=some .cell)=true↔lk sc.names x=some .cell:=decide_eq_true_iff
 have D9:CmpD4 aV U ai D I L (decide (lk sc.names x=some .cell)):=⟨p2 (cq _) aaZ,⟨aaX,aaY,⟨uN,ii.keep _ _ uS⟩⟩,p2 (jH r6) ab0,λe=>p2 (jH az) (let ⟨o,e,_⟩:=ii.cell (hP.mp e);⟨o,e⟩),
  ph (no D (cq _)),ph nI,ph (no L (jH r6)),ph (no _ (jH az)),gP r6,gP (z3 D8 r6),gP az,gP (z3 D8 az)⟩
 have ab1:=aay hP gH N ok.nm ok.d ii.ns (λe=>ii.cell (hP.mp e)) D9
 have Z:CmpF prog w ta A n sc x cv l s g aV aD (pW sc L (hL env.cells sc.names []) env) (hM ai D I L x (decide (lk sc.names x=some .cell))) D I cR P St:=
  ⟨R,T,aat N ok.fn ok.nm,W,fr,vs,cl,nI,no D (cq _),D9.rI,D9.rD,(gP D8).symm,ok.xl,ok.d,no L (jH r6),λb e q=>no b (by
   rw[show b=L+1 from (Option.some.inj ((MP (acc:=hL env.cells sc.names []) (n:=L+1) ok.nm e).symm.trans q)).symm]
   exact jH az),a6⟩
 have st:St 0 U:=W.frame _ _ _ rW λb _ o e=>ii.keep b o e
 have M2:codeAny (model prog w) A (.compLoop (.ListComp elt [⟨.Name x hN,it,ifs,0⟩] sc pos) 0 (.ref I) (.ref D) (pW sc L (hL env.cells sc.names []) env)) (compPost (model prog w) A E jZ Q (.ref D) L) {s with heap:=U,toks:=bh}:=
  aaR S a7 Z ag (λau h' aF p3 gk ct Ea NL=>K au h' aF D L p3 (k.trans gk) ct Ea NL) (k:=cv.length)
   ⟨U,bh,aV,aD,#[],[],[],l,pY J x,0,rfl,rfl,iB _,hJ,⟨rfl,λ_ _ e=>e,[],(eh _).symm⟩,.refl _,fo,ab1,λy aY=>xy aY,ii.hD,.nil,rfl,st,ah,rfl⟩
 rw[e]
 exact codeAny_compStart_list M2 (W.self 0 _ _ _ st M2)
theorem ab2(S:cx prog w G ta n)(a7:iS prog w G ta n)(p4:rY prog w G ta n)(mP:lj x sc c.sc=true)(aa:gA G n c J it H=some (cv,aD))(ah:gR (r2 G n c sc J x ifs) (r3 G n c sc J x elt) cv aD=some (l,O))(a6:jM l=true)(ag:O.cnt<=ba)(R:Room A n)(T:g.ta=ta)(N:EnvR c.sc env)(C:Cfg prog w H g s.heap)(F:FrR prog w H g s.heap env J ai)(K:xA prog w A E jZ H g s O (.list l) Q):
  wpAny (model prog w) A (comprehension (.ListComp elt [⟨.Name x hN,it,ifs,0⟩] sc pos) sc env p (newList []) false (eval it env) jZ) Q E s:=by
 have ok:=aaV mP
 have cC:=(gT G n n (cq _)).i c J it H _ _ aa C.ok.bld
 have cA:=D3 ah cC.2
 refine wpAny_comprehension_free rfl (MS aa env) (aan λy av=>?_) ok.fn (λy aY e=>?_) ?_
 .have q:lk c.sc.names y=some .cell\/lk c.sc.names y=some .free:=(n1 ok.nm (uJ ok.nm av)).k
  exact q.elim (λq=>(N.cell y q).2) λq=>(N.free y q).2
 .rw[<-rK,<-e];exact uJ ok.nm aY
 refine p4 c J it H cv aD aa (aT cA.1.cnt ag) A env ai g s _ E R T N C F λaV aB bh xH aR k₁ aZ Eb=>?_
 exact wpAny_newObj_type (aao (aaW S a7 ok R T N F a6 ag aR k₁ aZ (aaS ok.nm) ah K Eb))
end
section
variable (prog:Program)(w:World)(G:Gl)(ta:Ta)
def mQ(n:Nat):Prop:=∀(c:Cx)(J:am)(elt:Expr)(gens:List Comprehension)(sc:Scope)(pos p:Pos)(H:T)(v:V)(O:T),aN G n c J (.ListComp elt gens sc pos) H=some (v,O)->O.cnt<=ba->
 ∀(jZ:Option (Value->Sem Unit))(A:Around)(env:Env)(ai:Addr->Option Ro)(g:Gh)(s:Shared)(Q:cI)(E:cI),Room A n->g.ta=ta->EnvR c.sc env->Cfg prog w H g s.heap->FrR prog w H g s.heap env J ai->
  xA prog w A E jZ H g s O v Q->firstAsync gens=false/\wpAny (model prog w) A (comprehension (.ListComp elt gens sc pos) sc env p (newList []) false (firstIter gens env) jZ) Q E s
def r7(n:Nat):Prop:=∀(c:Cx)(J:am)(e:Expr)(H:T)(v:V)(O:T),ll e=true->aN G n c J e H=some (v,O)->O.cnt<=ba->
 ∀(A:Around)(env:Env)(ai:Addr->Option Ro)(g:Gh)(s:Shared)(Q:cI)(E:cI),Room A n->g.ta=ta->EnvR c.sc env->Cfg prog w H g s.heap->FrR prog w H g s.heap env J ai->
  lL prog w H g s O v Q->wpAny (model prog w) A (eval e env) Q E s
end
section
theorem ab3{nH:List Comprehension}{q:Gen}(h:JS nH=some q):∃hN,nH=[⟨.Name q.x hN,q.it,q.ifs,0⟩]:=by
 rcases nH with _|⟨⟨t,it,ifs,a⟩,_|_⟩
 .exact aI h
 .obtain⟨x,aa,h⟩:=bD h
  obtain⟨ah,h⟩:=br h
  obtain⟨hN,e⟩:=jS aa
  have e:t= .Name x hN:=e
  have ah:a=0:=iEq_iff.mp ah
  rw[e,ah]
  exact gb h (P:=λq:Gen=>∃ab4,[(⟨.Name x hN,it,ifs,0⟩:Comprehension)]=[⟨.Name q.x ab4,q.it,q.ifs,0⟩]) ⟨hN,rfl⟩
 .exact aI h
theorem ab5(S:cx prog w G ta n)(a7:iS prog w G ta n)(p4:rY prog w G ta n):mQ prog w G ta (n+1):=by
 intro c J elt gens sc pos p H v O h ag jZ A env ai g s Q E R T N C F K
 obtain⟨q,e,h⟩:=bD h
 obtain⟨mP,h⟩:=br h
 obtain⟨cv,aD,aa,h⟩:=b1 h
 obtain⟨l,bS,ah,h⟩:=b1 h
 obtain⟨a6,h⟩:=br h
 obtain⟨hN,e⟩:=ab3 e
 rw[e]
 revert ag K
 exact pI h (P:=λv O=>O.cnt<=ba->xA prog w A E jZ H g s O v Q->_) λag K=>⟨rfl,ab2 S a7 p4 mP aa ah a6 ag (R.less (cG n)) T N C F K⟩
theorem NewD.ng{cu h h':Heap}{D L:Addr}{v:V}(N:NewD prog w O cu g h D v)(ne:L≠D)(ext:∀a o,a≠L->h.get? a=some o->h'.get? a=some o):NewD prog w O cu g h' D v:=by
 obtain⟨n,i,m,⟨o,aG⟩,c,k⟩:=N
 exact⟨n,i,m,⟨o,ext D o ne.symm aG⟩,c,k.seen (.refl O) (λ_ _ e=>e) (λo e=>ext D o ne.symm e) c⟩
theorem M3(X:mQ prog w G ta n){elt:Expr}{gens:List Comprehension}{pos:Pos}{v:V}(h:aN G n c J (.ListComp elt gens sc pos) H=some (v,O))(ag:O.cnt<=ba)(A:Around)(env:Env)(ai:Addr->Option Ro)(g:Gh)(s:Shared)(Q:cI)(E:cI)(R:Room A n)(T:g.ta=ta)(N:EnvR c.sc env)(C:Cfg prog w H g s.heap)(F:FrR prog w H g s.heap env J ai)(ak:lL prog w H g s O v Q):wpAny (model prog w) A (eval (.ListComp elt gens sc pos) env) Q E s:=by
 obtain⟨fM,k⟩:=X c J elt gens sc pos (firstIterPos gens pos) H v O h ag none A env ai g s Q E R T N C F λau h' aF D L X k ct Ea NL=>by
  obtain⟨m,av⟩:=NL.ns
  exact⟨m,av,λjP aJ=>ak au jP aF D (X.own NL.new (SameBut.ext' aJ)) k (ct.own NL.im NL.mu (SameBut.ext' aJ)) (Ea.ng NL.ne (SameBut.ext' aJ))⟩
 rw[eval_ListComp,fM]
 exact k
theorem ab6(X:mQ prog w G ta (n+1)):Mh prog w G ta n:=λ_ _ _ _ _ _ _ _ _ h ag A env ai g s Q E R T N C F ak=>M3 X h ag A env ai g s Q E R T N C F ak.own
theorem ab7(S:cx prog w G ta n){es:List Expr}{l:List V}{v:V}(h:dz (aN G n c J) es H=some (l,aD))(a6:jM l=true)(e:some (V.list l,aD)=some (v,O))(ag:O.cnt<=ba)(bz:Room A n)(T:g.ta=ta)(N:EnvR c.sc env)(C:Cfg prog w H g s.heap)(F:FrR prog w H g s.heap env J ai)(ak:lL prog w H g s O v Q):
  wpAny (model prog w) A (eval (.List es p) env) Q E s:=by
 revert ag ak
 refine pI e (P:=λv O=>O.cnt<=ba->lL prog w H g s O v Q->_) λag ak=>?_
 refine wpAny_List_spliced (mB S bz N h ag T C F λau h' aF vs X k ct V=>?_)
 obtain⟨ds,bU,bZ⟩:=V.flat (aK a6).1
 have keep:∀a o,h'.get? a=some o->(h'.push (listOf vs.toArray 0)).get? a=some o:=λa o e=>ey _ e
 have hD:(h'.push (listOf vs.toArray 0)).get? h'.objs.size=some (listOf vs.toArray 0):=ez _ rfl
 have no:=ji h'
 exact⟨pm (V.length▸gd (aK a6).2),ak au _ aF _ (X.trans (Ext.grow au keep)) k (ct.grow keep) ⟨gU X.live no,ct.g8 no,ct.l9 no,⟨_,hD⟩,rfl,⟨_,vs.toArray,0,ds,rfl,hD,bZ,bU⟩⟩⟩
inductive DispI (e:Expr):Prop
 |comp (elt:Expr) (gens:List Comprehension) (sc:Scope) (pos:Pos) (h:e= .ListComp elt gens sc pos)
 |list (es:List Expr) (p:Pos) (h:e= .List es p)
 |dict (ks:List (Option Expr)) (vs:List Expr) (p:Pos) (h:e= .Dict ks vs p)
theorem ab8(h:ll e=true):DispI e:=by
 rcases e
 case ListComp=>exact .comp _ _ _ _ rfl
 case List=>exact .list _ _ rfl
 case Dict=>exact .dict _ _ _ rfl
 all_goals exact c2 h
theorem ab9(S:cx prog w G ta n)(X:mQ prog w G ta (n+1)):r7 prog w G ta (n+1):=by
 intro c J e H v O aQ h ag A env ai g s Q E R T N C F ak
 have bz:=R.less (cG n)
 rcases ab8 aQ with ⟨elt,gens,sc,pos,e⟩|⟨es,p,e⟩|⟨ks,vs,p,e⟩<;>rw[e] at h |-
 .exact M3 X h ag A env ai g s Q E R T N C F ak
 .obtain⟨l,aD,aa,h⟩:=b1 h
  exact ab7 S aa (br h).1 (br h).2 ag bz T N C F ak
 .exact Mv S h ag bz T N C F ak
end
theorem M4{t:Expr}{cO:List Expr}(h:JR t=some cO):∃k p,t= .Tuple cO k p:=by
 rcases t
 case Tuple es k p=>exact gb h (P:=λcO=>∃gk hK,Expr.Tuple es k p= .Tuple cO gk hK) ⟨k,p,rfl⟩
 all_goals exact aI h
theorem n7(h:d6 c x=true):(lk c.sc.names x=some .local\/lk c.sc.names x=some .cell)/\x≠dM:=by
 unfold d6 at h
 rcases e:lk c.sc.names x with _|k<;>rw[e] at h
 .exact nomatch h
 .rcases k
  case «local»=>exact⟨.inl rfl,n0 h⟩
  case cell=>exact⟨.inr rfl,n0 h⟩
  all_goals exact nomatch h
theorem OwnAt.keep(p:OwnAt env h x a)(k:∀b o,h.get? b=some o->h'.get? b=some o):OwnAt env h' x a:=by
 rcases p with ⟨q,m,⟨o,es,ca,aa,r⟩,ah⟩|⟨q,c,aa,o,ah,aC⟩
 .exact .loc q m ⟨o,es,ca,k _ _ aa,r⟩ ah
 .exact .cell q c aa ⟨o,k _ _ ah,aC⟩
section
theorem OwnAt.step{a b:Addr}(p:OwnAt env h x a)(F:FrR prog w H g h env J ai)(ao:∀r,ai b=some r->∃z,r= .own z)(aJ:∀a o,a≠b->h.get? a=some o->h'.get? a=some o):OwnAt env h' x a:=
 p.to F (λo=>aJ _ o λe=>(ao .loc (e▸F.loc)).elim λ_ q=>nomatch q) λ_ ap o=>aJ _ o λe=>(ao (.cell x) (e▸ap)).elim λ_ q=>nomatch q
theorem FrR.apart(F:FrR prog w H g h env J ai){b:Addr}(ao:ai b=none)(aJ:∀a o,a≠b->h.get? a=some o->h'.get? a=some o):FrR prog w H g h' env J ai:=by
 have at_:∀{a r},ai a=some r->∀o,h.get? a=some o->h'.get? a=some o:=λe o=>aJ _ o λq=>aI (ao.symm.trans (q▸e))
 refine⟨F.ns.to (at_ F.loc) λy u o _ q=>⟨q,λ_=>at_⟩,λx a e=>?_,F.loc,λa r e=>?_,F.dot⟩
 .have q:=F.cl x a e
  have e8:ai a=some (.cell x):=by obtain ⟨_,_,f,_⟩:=q;exact f
  exact q.to (at_ e8) λu o _ q=>⟨q,λ_=>at_⟩
 .obtain⟨dB,d9,o,Ec⟩:=F.sep a r e
  exact⟨dB,d9,o,at_ e o Ec⟩
theorem ExtS.own{jo g:Gh}{cu h h':Heap}(X:ExtS ai jo cu g h){b:Addr}(ao:cu.get? b=none)(aJ:∀a o,a≠b->h.get? a=some o->h'.get? a=some o):ExtS ai jo cu g h':=by
 have ne:∀a o,cu.get? a=some o->a≠b:=λa o e q=>aI (ao.symm.trans (q▸e))
 exact⟨X.ta,X.im,X.new,λa o e m f=>aJ a o (ne a o e) (X.old a o e m f),X.dd,λa o e=>(X.live a o e).elim λb9 gc=>⟨b9,aJ a b9 (ne a o e) gc⟩⟩
theorem ExtS.refl(ai:Addr->Option Ro)(g:Gh)(h:Heap):ExtS ai g h g h:=(Ext.refl g h).toS ai
theorem ExtS.trans'{g au hF:Gh}{h h' jP:Heap}(x:ExtS ai g h au h')(y:ExtS ai au h' hF jP):ExtS ai g h hF jP:=x.trans y (.refl ai h)
theorem M5{c:Cx}{env:Env}:∀{cO:List Expr}{aU:List V}{J bg:am},t3 c cO aU J=some bg->(assignEach cO env).length=aU.length/\(assignEach cO env).findIdx? (·.1)=none
 |[],aU,J,bg,ao=>by
  rcases aU with _|_
  .exact⟨rfl,rfl⟩
  .exact aI ao
 |t::cO,aU,J,bg,ao=>by
  obtain⟨x,e,ao⟩:=bD ao
  rcases aU with _|⟨u,aU⟩
  .exact aI ao
  .obtain⟨p,e⟩:=jS e
   obtain⟨aa,ah⟩:=M5 (env:=env) (br ao).2
   rw[e]
   refine⟨congrArg Nat.succ aa,?_⟩
   show ((false,assign (.Name x p) env)::assignEach cO env).findIdx? (·.1)=none
   rw[List.findIdx?_cons,ah];rfl
structure Took (prog:Program) (w:World) (H:T) (g:Gh) (env:Env) (bg:am) (ai:Addr->Option Ro) (aba:Str->Bool) (h h':Heap):Prop where
 X:ExtS ai g h g h'
 C:Cfg prog w H g h'
 F:FrR prog w H g h' env bg ai
 st:∀y a,aba y=false->OwnAt env h y a->OwnAt env h' y a
theorem gI{a b:Bool}(h:(a||b)=false):a=false/\b=false:=by
 rcases a with _|_
 .exact⟨rfl,h⟩
 .exact nomatch h
theorem n8(h:a9 y x=false):y≠x:=λe=>by rw [e,pf] at h;exact nomatch h
theorem M6{c:Cx}{A:Around}{E:cI}{env:Env}{H:T}{g:Gh}{ai:Addr->Option Ro}(N:EnvR c.sc env):∀{cO:List Expr}{aU:List V}{J bg:am}{vs:List Value}{s:Shared}{Q:Unit->Shared->Prop},t3 c cO aU J=some bg->
  Cfg prog w H g s.heap->FrR prog w H g s.heap env J ai->Vals prog w H g vs aU->(∀h' aF,Took prog w H g env bg ai (λy=>cO.any λe=>JO y (ek e)) s.heap h'->Q () {s with heap:=h',toks:=aF})->
  wpAny (model prog w) A (assignInOrder ((assignEach cO env).map (·.2)) vs) Q E s
 |[],aU,J,bg,vs,s,Q,ao,C,F,V,ak=>by
  rcases aU with _|_
  .rw[V.dat]
   exact wpAny_pure (ak s.heap s.toks ⟨.refl ..,C,Option.some.inj ao▸F,λ_ _ _ q=>q⟩)
  .exact aI ao
 |t::cO,aU,J,bg,vs,s,Q,ao,C,F,V,ak=>by
  obtain⟨x,e,ao⟩:=bD ao
  rcases aU with _|⟨u,aU⟩
  .exact aI ao
  .obtain⟨p,e⟩:=jS e
   obtain⟨ap,ao⟩:=br ao
   obtain⟨hx,fc⟩:=n7 (aK ap).1
   obtain⟨v,vs,bq,a,r⟩:=V.dat
   rw[bq]
   rw[e] at ak |-
   show wpAny _ A (do holding vs (assign (.Name x p) env v);assignInOrder ((assignEach cO env).map (·.2)) vs) Q E s
   refine wpAny_bind (wpAny_holding (wpAny_assign_Name (mK N C F hx fc (o:=false) a λaB bh Y=>?_)))
   exact M6 (s:={s with heap:=aB,toks:=bh}) N ao Y.C Y.F r λa8 b8 Z=>ak a8 b8 ⟨Y.X.trans' Z.X,Z.C,Z.F,λy a aY q=>Z.st y a (gI aY).2 (Y.st y a (n8 (gI aY).1) q)⟩
theorem abb(R:Room A n)(N:EnvR c.sc env){t:Expr}{v:Value}{Q:Unit->Shared->Prop}(ao:li c t u J=some bg)(C:Cfg prog w H g s.heap)(F:FrR prog w H g s.heap env J ai)(V:Val prog w H g g.im v u)(ak:∀h' aF,Took prog w H g env bg ai (λy=>o8 y t) s.heap h'->Q () {s with heap:=h',toks:=aF}):wpAny (model prog w) A (assign t env v) Q E s:=by
 unfold li at ao
 rcases e:ek t with _|x<;>rw[e] at ao
 .obtain⟨cO,e1,ao⟩:=bD ao
  obtain⟨aU,e2,ao⟩:=bD ao
  obtain⟨k,p,e1⟩:=M4 e1
  rw[ry e2] at V
  rw[e1] at ak |-
  obtain⟨a,o,vs,m,ds,e,aG,Dm,aQ,aq,ap⟩:=V.gN
  obtain⟨cg,ch⟩:=M5 (env:=env) ao
  rw[e]
  refine wpAny_assign_Tuple R.handled ⟨o,C.bn _ _ aG,Dm,m,aQ⟩ (cg.trans (f4 aq ap).symm) ch λaB aj=>?_
  have keep:∀b o,s.heap.get? b=some o->aB.get? b=some o:=λb o e=>aj b o (gP (gs e)) e
  have aZ:=C.grow keep
  exact M6 (s:={s with heap:=aB}) N ao aZ (F.ext (.refl _) (Ext.grow g keep) aZ.bn) (Vals.Ie ap aq) λa8 b8 Z=>ak a8 b8 ⟨((Ext.grow g keep).toS ai).trans' Z.X,Z.C,Z.F,λy a aY q=>Z.st y a aY (q.keep keep)⟩
 .obtain⟨p,e⟩:=jS e
  rw[e] at ao ak |-
  obtain⟨y,e,ao⟩:=bD ao
  obtain⟨ap,ao⟩:=br ao
  rw[<-Option.some.inj e] at ap ao
  obtain⟨hx,fc⟩:=n7 (aK ap).1
  exact wpAny_assign_Name (mK N C F hx fc (o:=false) V λaB bh Y=>ak aB bh ⟨Y.X,Y.C,Option.some.inj ao▸Y.F,λy a aY q=>Y.st y a (n8 aY) q⟩)
theorem abc{cO:List Expr}{I a:Addr}{Q:Unit->Shared->Prop}{o:Obj}(aG:s.heap.get? I=some o)(ap:itCls o)(ak:Q () s):wpAny (model prog w) A (letOwnedTupleGo (.Tuple cO k p) (.ref I) (.ref a)) Q E s:=by
 obtain⟨n,vs,c,d,e⟩:=ap
 refine wpAny_bind (wpAny_load aG ?_)
 rw[c,d]
 show wpAny _ A (if (ownIts.contains n&&vs[0]? ==some (rawInt a))=true then _ else _) Q E s
 rw[e,Bool.false_and,if_neg nofun]
 exact wpAny_pure ak
theorem abd{t:Expr}{I:Addr}{v:Value}{Q:Unit->Shared->Prop}{o:Obj}(ao:li c t u J=some bg)(V:Val prog w H g g.im v u)(aG:s.heap.get? I=some o)(ap:itCls o)(ak:Q () s):wpAny (model prog w) A (letOwnedTupleGo t (.ref I) v) Q E s:=by
 unfold li at ao
 rcases e:ek t with _|x<;>rw[e] at ao
 .obtain⟨cO,e1,ao⟩:=bD ao
  obtain⟨aU,e2,ao⟩:=bD ao
  obtain⟨k,p,e1⟩:=M4 e1
  rw[ry e2] at V
  obtain⟨a,o,vs,m,ds,e,_⟩:=V.gN
  rw[e1,e]
  exact abc aG ap ak
 .obtain⟨p,e⟩:=jS e
  rw[e]
  exact wpAny_pure ak
end
section
variable (prog:Program)(w:World)(G:Gl)(ta:Ta)
def hQ(n:Nat)(c:Cx)(J:am)(cB:List Stmt)(H:T)(bw:Fl)(bg:am)(O:T):Prop:=
 ∀(A:Around)(env:Env)(ai:Addr->Option Ro)(g:Gh)(s:Shared)(Q:Flow->Shared->Prop)(E:cI),
  Room A n->g.ta=ta->EnvR c.sc env->Cfg prog w H g s.heap->FrR prog w H g s.heap env J ai->lG prog w ai H g s env cB bg O bw Q->wpAny (model prog w) A (execs cB env) Q E s
structure After (ai:Addr->Option Ro) (H:T) (g:Gh) (env:Env) (st:Stmt) (h:Heap) (c8:am) (aD:T) (e5:Addr->Option Ro) (aV:Gh) (aB:Heap):Prop where
 X:ExtS ai g h aV aB
 k:H.bP aD
 C:Cfg prog w aD aV aB
 Gw:Grow ai h e5
 F:FrR prog w aD aV aB env c8 e5
 st:∀y a,fV y 12 st=false->OwnAt env h y a->OwnAt env aB y a
end
theorem Ed{f j1:Stmt->Bool}(k:∀{s},f s=false->j1 s=false):∀{l:List Stmt},l.any f=false->l.any j1=false
 |[],_=>rfl
 |_::_,h=>(qO).mpr ⟨k (gI h).1,Ed k (gI h).2⟩
theorem uT{a b:Bool}(h:a=false)(k:b=false):(a||b)=false:=by rw [h,k];rfl
theorem M7:∀(n:Nat){s:Stmt},fV y n s=false->fV y (n+1) s=false
 |0,s,h=>nomatch h
 |n+1,s,h=>by
  have up:∀{l:List Stmt},l.any (fV y n)=false->l.any (fV y (n+1))=false:=Ed (M7 n)
  rcases s
  case If=>exact uT (up (gI h).1) (up (gI h).2)
  case For=>exact uT (uT (gI (gI h).1).1 (up (gI (gI h).1).2)) (up (gI h).2)
  all_goals exact h
theorem Ee{l:List Stmt}(h:l.any (fV y 11)=false):kv y l=false:=Ed (M7 11) h
theorem Ef{st:Stmt}(h:kv y (st::bu)=false):fV y 12 st=false/\kv y bu=false:=gI h
section
theorem xI(N:EnvR sc env):interactive env=false:=by unfold interactive;rw[N.kind];rfl
theorem xJ(h:pb e=false)(line:Nat)(env:Env):swapsWith e none line env=pure false:=by
 rcases e
 case ListComp=>exact nomatch h
 case SetComp=>exact nomatch h
 case DictComp=>exact nomatch h
 all_goals rfl
theorem xK(h:mz e=true)(t:Expr)(a1:ek t=none)(line:Nat)(env:Env):swapsWith e (some t) line env=pure false:=by
 rcases e
 case SetComp=>exact nomatch h
 case DictComp=>exact nomatch h
 case ListComp=>
  rcases t
  case Name=>exact nomatch a1
  all_goals rfl
 all_goals rfl
theorem lO{cB:List Stmt}{bw:Fl}(h:bv G n c J cB H=some (bw,bg,O))(aL:H.fA):H.bP O/\O.fA:=(gT G n n (cq _)).s c J cB H _ _ _ h aL
theorem mR(cM:fb prog w G ta n){c8 bg:am}{st:Stmt}{bw:Fl}(h:bv G n c c8 bu aD=some (bw,bg,O))(ag:O.cnt<=ba){ai e5:Addr->Option Ro}{g aV:Gh}{aB:Heap}{bh:Nat}{Q:Flow->Shared->Prop}(R:Room A n)(T:g.ta=ta)(N:EnvR c.sc env)(Z:After prog w ai H g env st s.heap c8 aD e5 aV aB)(ak:lG prog w ai H g s env (st::bu) bg O bw Q):wpAny (model prog w) A (execs bu env) Q E {s with heap:=aB,toks:=bh}:=
 cM c c8 bu aD bw bg O h ag A env e5 aV {s with heap:=aB,toks:=bh} Q E R (Z.X.ta.trans T) N Z.C Z.F λau h' aF et f p3 gk ct uU iP Fl St=>
  ak au h' aF et f (Z.X.trans p3 Z.Gw) (Z.k.trans gk) ct (Z.Gw.trans Z.X uU) iP Fl λy a aY q=>St y a (Ef aY).2 (Z.st y a (Ef aY).1 q)
theorem M8{vs:Array Value}{di:Sem Bool}{Q:Value×List Value->Shared->Prop}(aG:s.heap.get? a=some (listOf vs n))(ak:Q (.builtin "list.append",[.ref a]) s):
  wpAny (model prog w) A (getMethod (.ref a) jd di) Q E s:=
 getMethod_builtin (T:="list") ⟨_,aG,rfl⟩ Il PySem.F.slot_list_append PySem.F.type_list_append (λb e=>Value.ref.inj e▸⟨_,aG,rfl⟩) ak
theorem abe{vs:Array Value}{di:Sem Bool}{Q:Value×List Value->Shared->Prop}(aG:s.heap.get? a=some (listOf vs n))(ak:Q (.builtin "list.extend",[.ref a]) s):
  wpAny (model prog w) A (getMethod (.ref a) wx di) Q E s:=
 getMethod_builtin (T:="list") ⟨_,aG,rfl⟩ Il Ij PySem.F.type_list_extend (λb e=>Value.ref.inj e▸⟨_,aG,rfl⟩) ak
structure OwnNow (prog:Program) (w:World) (H:T) (g:Gh) (h:Heap) (env:Env) (J:am) (ai:Addr->Option Ro) (x:Str) (u:V) (a:Addr):Prop where
 f:ai a=some (.own x)
 c:hE u=true
 v:Val prog w H g h.get? (.ref a) u
 put:∀h' ea,Heap.SameBut a h h'->hE ea=true->Val prog w H g h'.get? (.ref a) ea->(∃o,h'.get? a=some o)->OwnPut prog w H g env J ai x ea h h'
theorem Eg{s:Shared}(N:EnvR sc env)(C:Cfg prog w H g h)(F:FrR prog w H g h env J ai)(aj:lk sc.names x=some .local\/lk sc.names x=some .cell)(hx:x≠dM)(aq:a2 J x=some (u,true))(at_:OwnAt env h x a):OwnNow prog w H g h env J ai x u a:=by
 obtain⟨b,f,ao,c,v,_,put⟩:=xw (s:={s with heap:=h}) N C F aj hx aq
 exact ao.unique at_▸⟨f,c,v,put⟩
def Eh(prog:Program)(w:World)(A:Around)(E:cI)(id:String)(aU uV:List V)(H:T)(g:Gh)(s:Shared)(u:Value):Prop:=
 ∀a vs n ds,s.heap.get? a=some (listOf vs n)->RdL g.im vs.toList ds->bX H aU=some ds->∀Q:cI,(∀h' kA db xL,h'.get? a=some (listOf kA db)->Heap.SameBut a s.heap h'->RdL g.im kA.toList xL->bX H uV=some xL->Q .none {s with heap:=h'})->
  wpAny (model prog w) A (call (.builtin id) [.ref a,u]) Q E s
theorem M9(cM:fb prog w G ta n){x m:Str}{id:String}{p mp q pp:Pos}{a:Expr}{aU uV:List V}{bw:Fl}(aq:a2 J x=some (.list aU,true))(hx:d6 c x=true)(dS:(mp.endLine==q.line)=true)(ok:mz a=true)(j2:∀{A:Around}{E:cI}{s:Shared}{a:Addr}{vs:Array Value}{n:Nat}{di:Sem Bool}{Q:Value×List Value->Shared->Prop},s.heap.get? a=some (listOf vs n)->Q (.builtin id,[.ref a]) s->wpAny (model prog w) A (getMethod (.ref a) m di) Q E s)(ah:bv G n c (cb J x (.list uV) true) bu aD=some (bw,bg,O))(ag:O.cnt<=ba){Q:Flow->Shared->Prop}(bz:Room A n)(T:g.ta=ta)(N:EnvR c.sc env)(C:Cfg prog w H g s.heap)(F:FrR prog w H g s.heap env J ai)(abf:∀{Q:cI}{E:cI},(∀aV aB bh u,Ext g s.heap aV aB->H.bP aD->Cfg prog w aD aV aB->(∀{E},Eh prog w A E id aU uV aD aV {s with heap:=aB,toks:=bh} u)->Q u {s with heap:=aB,toks:=bh})->wpAny (model prog w) A (eval a env) Q E s)(ak:lG prog w ai H g s env (.Expr (.Call (.Attribute (.Name x p) m mp) [a] [] q) pp::bu) bg O bw Q):wpAny (model prog w) A (execs (.Expr (.Call (.Attribute (.Name x p) m mp) [a] [] q) pp::bu) env) Q E s:=by
 obtain⟨aj,fc⟩:=n7 hx
 have aJ:starEach [a] env=[a].map λe=>(false,eval e env):=wY ok [] env
 refine wpAny_execs_cons (wpAny_Expr_any ?_ (xI N) (xJ rfl _ _))
 obtain⟨ad,_,n9,_,al,uW,_⟩:=xw N C F aj fc aq
 refine pH rfl dS (show [a].length<25 from fi rfl) aJ λdi=>uW A p _ E ?_
 obtain⟨b,vs,M0,_,e,hD,_⟩:=al
 rw[<-Value.ref.inj e] at hD
 refine j2 hD ?_
 refine gi (P:=λ_=>True) aJ (λh _=>lJ (λa q=>nomatch q)) ?_
 refine args_cons (abf λaV aB bh u aR k₁ aZ abg=>?_) aJ
 refine args_nil ⟨trivial,?_⟩
 have dA:=F.ext k₁ aR aZ.bn
 have aL:=Eg (s:=s) N aZ dA aj fc aq (n9.ext F aR)
 obtain⟨b,kA,abh,xL,e,xM,hm,pn⟩:=aL.v
 rw[<-Value.ref.inj e] at xM
 refine abg ad kA abh xL xM hm pn _ λa8 eI abi abj uR oa xN abk=>?_
 have Y:=aL.put a8 (.list uV) oa rfl ⟨ad,eI,abi,abj,rfl,uR,xN,abk⟩ ⟨_,uR⟩
 exact mR (s:=s) cM ah ag bz T N ⟨(aR.toS ai).trans' Y.X,k₁,Y.C,.refl _ _,Y.F,λy a _ q=>(q.ext F aR).step dA (λr e=>⟨x,Option.some.inj (e.symm.trans aL.f)⟩) (SameBut.ext' oa)⟩ ak
theorem abl{u:Value}{v:V}{aU:List V}(al:Val prog w H g g.im u v)(a6:(v.flat&&cz aU)=true):Eh prog w A E "list.append" aU (aU++[v]) H g s u:=λa vs n ds hD aq ap Q ak=>by
 obtain⟨d,aQ,hm⟩:=al.flat (λ_ _ e=>e) (aK a6).1
 refine wpAny_list_append_plain ⟨n,hD⟩ (λa8 Ei oa=>?_) (mL (f4 aq ap▸gd (aK a6).2))
 obtain⟨d9,Ej⟩:=Ei
 exact ak a8 _ d9 (ds++[d]) Ej oa (by rw [oM];exact aq.append (.cons hm .nil)) (xz ap aQ)
theorem abm(S:cx prog w G ta n)(cM:fb prog w G ta n){p mp q pp:Pos}{a:Expr}{l:List V}{v:V}{bw:Fl}(aq:a2 J x=some (.list l,true))(hx:d6 c x=true)(dS:(mp.endLine==q.line)=true)(aa:aN G n c J a H=some (v,aD))(a6:(v.flat&&cz l)=true)(ah:bv G n c (cb J x (.list (l++[v])) true) bu aD=some (bw,bg,O))(ag:O.cnt<=ba):
  hQ prog w ta (n+1) c J (.Expr (.Call (.Attribute (.Name x p) jd mp) [a] [] q) pp::bu) H bw bg O:=λA env ai g s Q E R T N C F ak=>
 have bz:=R.less (cG n)
 M9 cM aq hx dS (mA aa) M8 ah ag bz T N C F (λak=>S c J a H v aD aa (aT (lO ah (jR aa C.ok).2).1.cnt ag) A env ai g s _ _ bz T N C F λaV aB bh u aR k₁ aZ bT=>ak aV aB bh u aR k₁ aZ (abl bT a6)) ak
theorem Na:∀{l m:List V}{ds es:List PyData},bX H l=some ds->bX H m=some es->bX H (l++m)=some (ds++es)
 |[],_,_,_,h,aQ=>by rw [<-Option.some.inj h];exact aQ
 |v::r,_,_,_,h,aQ=>by
  obtain⟨a,m,e,aw,av⟩:=fa h
  rw[e]
  exact h9 aw (Na av aQ)
theorem Nb(r8:Array Value)(n:Nat)(eI:Array Value):Obj.mapSeq (λx=>x++eI) (listOf r8 n)=listOf (r8++eI) (if (r8++eI).size==r8.size then n else n+1):=rfl
theorem abn{u:Value}{aU fW:List V}(al:Val prog w H g s.heap.get? u (.list fW))(a6:cz (aU++fW)=true):Eh prog w A E "list.extend" aU (aU++fW) H g s u:=λa vs n ds hD aq ap Q ak=>by
 obtain⟨ab,eI,hn,es,e,Ek,Nc,uM⟩:=al.kh
 have fl:vs.size+eI.size<=sizeLine:=mL (by rw [f4 aq ap,f4 Nc uM,<-d5];exact gd a6)
 rw[e]
 refine call_meets Ij ⟨_,hD,rfl⟩ PySem.F.entry_list_extend (PySem.F.args_list_extend_2 _ _) (AutoSeq1.list_extend_list_list_0 a vs n ab eI hn (extend_door fl) (aT (eZ _ _) fl)) ⟨hD,Ek,?_⟩
 have Ej:(s.heap.update a (Obj.mapSeq λx=>x++eI)).get? a=some (listOf (vs++eI) (if (vs++eI).size==vs.size then n else n+1)):=by
  rw[v3 _ hD (by rw [Nb];rfl),Nb]
 exact ak _ _ _ (ds++es) Ej (Heap.SameBut.update ..) (by rw [zM];exact aq.append Nc) (Na ap uM)
theorem abo(S:cx prog w G ta n)(cM:fb prog w G ta n){p mp q pp:Pos}{a:Expr}{l fW:List V}{bw:Fl}(aq:a2 J x=some (.list l,true))(hx:d6 c x=true)(dS:(mp.endLine==q.line)=true)(aa:b7 c J (aN G n c J) a H=some (.list fW,aD))(a6:cz (l++fW)=true)(ah:bv G n c (cb J x (.list (l++fW)) true) bu aD=some (bw,bg,O))(ag:O.cnt<=ba):
  hQ prog w ta (n+1) c J (.Expr (.Call (.Attribute (.Name x p) wx mp) [a] [] q) pp::bu) H bw bg O:=λA env ai g s Q E R T N C F ak=>
 have bz:=R.less (cG n)
 M9 cM aq hx dS (wX aa) abe ah ag bz T N C F (λak=>my S aa (aT (lO ah (pl aa C.ok.bld).2).1.cnt ag) bz T N C F λaV aB bh u aR k₁ aZ bT=>ak aV aB bh u aR k₁ aZ (abn (s:={s with heap:=aB,toks:=bh}) (bT.val aZ.bn) a6)) ak
theorem abp(S:cx prog w G ta n)(cM:fb prog w G ta n){v:V}{bw:Fl}(abq:pb e=false)(aa:aN G n c J e H=some (v,aD))(ah:bv G n c J bu aD=some (bw,bg,O))(ag:O.cnt<=ba):
  hQ prog w ta (n+1) c J (.Expr e pp::bu) H bw bg O:=λA env ai g s Q E R T N C F ak=>
 have bz:=R.less (cG n)
 wpAny_execs_cons (wpAny_Expr_any (S c J e H v aD aa (aT (lO ah (jR aa C.ok).2).1.cnt ag) A env ai g s _ E bz T N C F λaV aB bh u aR k₁ aZ bT=>
  mR (s:=s) cM ah ag bz T N ⟨aR.toS ai,k₁,aZ,.refl _ _,F.ext k₁ aR aZ.bn,λy a _ q=>q.ext F aR⟩ ak) (xI N) (xJ abq _ _))
def El (k:am->T->Option (Fl×am×T)) (f:Fl) (J:am) (H:T):Option (Fl×am×T):=match f with
 | .next=>k J H
 | .ret v=>some (.ret v,J,H)
inductive ThnI (x:Option (Fl×am×T)) (k:am->T->Option (Fl×am×T)) (bw:Fl) (bg:am) (O:T):Prop
 |mk (f:Fl) (c8:am) (aD:T) (e:x=some (f,c8,aD)) (h:El k f c8 aD=some (bw,bg,O))
theorem Em{x:Option (Fl×am×T)}{k:am->T->Option (Fl×am×T)}{bw:Fl}(h:thn x k=some (bw,bg,O)):ThnI x k bw bg O:=by
 obtain⟨f,c8,aD,e,h⟩:=rq h
 refine⟨f,c8,aD,e,?_⟩
 rcases f<;>exact h
theorem En{k:am->T->Option (Fl×am×T)}(aj:∀J H,dm H (k J H)){f bw:Fl}{c8 bg:am}(h:El k f c8 aD=some (bw,bg,O))(aL:aD.fA)(ag:O.cnt<=ba):aD.cnt<=ba:=by
 rcases f with _|v
 .exact aT (aj _ _ _ _ _ h aL).1.cnt ag
 .exact(Prod.mk.inj (Prod.mk.inj (Option.some.inj (show some (Fl.ret v,c8,aD)=some (bw,bg,O) from h))).2).2▸ag
theorem Eo{cB:List Stmt}(J:am)(H:T):dm H (bv G n c J cB H):=(gT G n n (cq _)).s c J cB H
theorem Nd(cM:fb prog w G ta n){c8 bg:am}{st:Stmt}{f bw:Fl}(h:El (λJ H=>bv G n c J bu H) f c8 aD=some (bw,bg,O))(ag:O.cnt<=ba){ai e5:Addr->Option Ro}{g aV:Gh}{aB:Heap}{bh:Nat}{j3:Flow}{Q:Flow->Shared->Prop}(R:Room A n)(T:g.ta=ta)(N:EnvR c.sc env)(X:ExtS ai g s.heap aV aB)(k:H.bP aD)(C:Cfg prog w aD aV aB)(Gw:Grow ai s.heap e5)(iP:ic aV aB e5)(xO:Dj prog w aD aV aB env e5 c8 f j3)(Nf:∀y a,fV y 12 st=false->OwnAt env s.heap y a->OwnAt env aB y a)(ak:lG prog w ai H g s env (st::bu) bg O bw Q){P:Flow->Prop}(fm:wpAny (model prog w) A (execs bu env) Q E {s with heap:=aB,toks:=bh}->P .next)(gF:∀u,Q (.ret u) {s with heap:=aB,toks:=bh}->P (.ret u)):P j3:=by
 rcases f with _|v
 .obtain⟨e,F⟩:=xO
  rw[e]
  exact fm (mR (s:=s) cM h ag R T N ⟨X,k,C,Gw,F,Nf⟩ ak)
 .obtain⟨u,e,_⟩:=id xO
  rw[e] at xO |-
  refine rr (show some (Fl.ret v,c8,aD)=some (bw,bg,O) from h) (P:=λbw bg O=>lG prog w ai H g s env (st::bu) bg O bw Q->_) (λak=>?_) ak
  exact gF u (ak aV aB bh e5 _ X k C Gw iP xO λy a aY q=>Nf y a (Ef aY).1 q)
set_option backward.match.sparseCases true in
theorem abr(a7:iS prog w G ta n)(cM:fb prog w G ta n){t:Expr}{b o:List Stmt}{x:Bool}{bw:Fl}(aa:dR G n c J t H=some (x,aD))(h:thn (bv G n c J (cond x b o) aD) (λJ H=>bv G n c J bu H)=some (bw,bg,O))(ag:O.cnt<=ba):
  hQ prog w ta (n+1) c J (.If t b o pp::bu) H bw bg O:=by
 intro A env ai g s Q E R T N C F ak
 have bz:=R.less (cG n)
 obtain⟨f,c8,bS,ah,aC⟩:=Em h
 have cA:=lO ah (rN aa C.ok.bld).2
 have cP:bS.cnt<=ba:=En Eo aC cA.2 ag
 refine wpAny_execs_cons (wpAny_If (a7 c J t H x aD aa (aT cA.1.cnt cP) A env ai g s _ E bz T N C F λaV aB bh aR k₁ aZ=>?_))
 have dA:=F.ext k₁ aR aZ.bn
 have r9:∀{y},fV y 12 (.If t b o pp)=false->kv y (cond x b o)=false:=λaY=>by
  rcases x with _|_
  .exact Ee (gI aY).2
  .exact Ee (gI aY).1
 have run:=cM c J _ aD f c8 bS ah cP A env ai aV {s with heap:=aB,toks:=bh} (λf bQ=>match f with| .next=>wpAny (model prog w) A (execs bu env) Q E bQ|f=>Q f bQ) E bz (aR.ta.trans T) N aZ dA λcD a8 b8 abt j3 cn dn b3 abu abv abw abx=>
  Nd (s:=s) (st:=.If t b o pp) cM aC ag bz T N ((aR.toS ai).trans' cn) (k₁.trans dn) b3 ((Grow.refl ai s.heap).trans (aR.toS ai) abu) abv abw (λy a aY q=>abx y a (r9 aY) (q.ext F aR)) ak (P:=λj3=>match j3 with| .next=>wpAny (model prog w) A (execs bu env) Q E {s with heap:=a8,toks:=b8}|f=>Q f {s with heap:=a8,toks:=b8}) id λ_=>id
 rcases x with _|_<;>exact run
theorem aby(S:cx prog w G ta n){e:Option Expr}{bw:Fl}(h:ob (wD (b7 c J (aN G n c J)) H e) (λv H=>some (Fl.ret v,J,H))=some (bw,bg,O))(ag:O.cnt<=ba):
  hQ prog w ta (n+1) c J (.Return e pp::bu) H bw bg O:=by
 intro A env ai g s Q E R T N C F ak
 have bz:=R.less (cG n)
 refine wpAny_execs_cons ?_
 obtain⟨v,aD,aa,h⟩:=b1 h
 revert ag ak
 refine rr h (P:=λbw bg O=>O.cnt<=ba->lG prog w ai H g s env (.Return e pp::bu) bg O bw Q->_) λag ak=>?_
 rcases e with _|e
 .obtain⟨e1,e2⟩:=Prod.mk.inj (Option.some.inj aa)
  rw[<-e1,<-e2] at ak
  exact wpAny_Return_none (ak g s.heap s.toks ai _ (.refl ..) (.refl _) C (.refl _ _) F.sep ⟨_,rfl,.of Val.none⟩ λy a _ q=>q)
 .exact wpAny_Return_some (my S aa ag bz T N C F λaV aB bh u aR k₁ aZ bT=>ak aV aB bh ai _ (aR.toS ai) k₁ aZ (.refl _ _) (F.ext k₁ aR aZ.bn).sep ⟨u,rfl,bT⟩ λy a _ q=>q.ext F aR)
end
section
theorem Ng{K:Type}[DecidableEq K]{i:K}{eg:Value}:∀{aW:List (K×Value)},i∉aW.map (·.1)->(aW.map λbE=>if bE.1=i then (bE.1,eg) else bE)=aW
 |[],_=>rfl
 |bE::r,h=>by
  rw[km,qZ,not_or] at h
  rw[km,Ng h.2,if_neg λe=>h.1 e.symm]
theorem abz{K:Type}[DecidableEq K]{i:K}{v eg:Value}{aW:List (K×Value)}(h:i∉aW.map (·.1)):stored ((i,v)::aW) i eg=(i,eg)::aW:=by
 unfold stored
 rw[h1,decide_eq_true rfl,z4,if_pos rfl,km,if_pos rfl,Ng h]
theorem abA{K:Type}[DecidableEq K]{i j:K}{v eg:Value}{aW:List (K×Value)}(h:j≠i):stored ((j,v)::aW) i eg=(j,v)::stored aW i eg:=by
 unfold stored
 rw[h1,decide_eq_false h,tB]
 split
 .rw[km,if_neg h]
 .rfl
theorem uX{K:Type}[DecidableEq K]{c7:K->PyData}(uh:∀a b,(c7 a).eqv (c7 b)=decide (a=b))(aL:H.Ok){im:bA}{x u:V}{i:K}{eg:Value}(hx:bI H x=some (c7 i))(bG:bI H u=some d)(aq:Rd im eg d):
  ∀{l cK:List (V×V)}{aW:List (K×Value)},H.k7 x u l=some cK->Kvs c7 H im l aW->(aW.map (·.1)).Nodup->Kvs c7 H im cK (stored aW i eg)
 |[],cK,aW,h,k,_=>by
  rw[k.dat,<-Option.some.inj h]
  exact .cons hx bG aq .nil
 |p::l,cK,_,h,q,aX=>by
  obtain⟨j,v,mv,aW,e,aa,ah,aC,bC⟩:=q.dat
  obtain⟨t,g,h⟩:=bD h
  have bq:decide (j=i)=t:=(uh _ _).symm.trans (ub aL (KR g) aa hx)
  rw[e] at aX |-
  rw[km,List.nodup_cons] at aX
  rcases t with _|_
  .obtain⟨r,lv,h⟩:=bD (show (od (H.k7 x u l) λl=>some (p::l))=some cK from h)
   rw[abA (of_decide_eq_false bq),<-Option.some.inj h]
   exact .cons aa ah aC (uX uh aL hx bG aq lv bC aX.2)
  .rw[of_decide_eq_true bq] at aa aX |-
   rw[abz aX.1,<-Option.some.inj h]
   exact .cons aa bG aq bC
theorem Nh{K:Type}{c7:K->PyData}{b:Bool}{im:bA}{x u:V}{cK:List (V×V)}(ao:∀k i,bI H k=some (c7 i)->isStr k=b)(hx:(b==isStr x)=false):∀{l:List (V×V)}{aW:List (K×Value)},H.k7 x u l=some cK->Kvs c7 H im l aW->l=[]/\aW=[]
 |[],_,_,k=>⟨rfl,k.dat⟩
 |p::l,_,h,q=>by
  obtain⟨j,v,d,aW,e,aa,ah,aC,bC⟩:=q.dat
  obtain⟨t,g,h⟩:=bD h
  have g:=(br g).1
  rw[ao _ _ aa,hx] at g
  exact nomatch g
inductive DSet (prog:Program) (w:World) (H:T) (im:bA) (o:Obj) (ep eg:Value) (l cK:List (V×V)):Prop
 |mk (K:Type) (dec:DecidableEq K) (knd:KeyKind prog w K) (k:K) (aW:List (K×Value)) (aa:ObjDict prog w knd o aW) (ah:knd.is k ep=true) (len:aW.length=l.length) (aC:∀b9,ObjDict prog w knd b9 (stored aW k eg)->DictO prog w H im b9 cK)
theorem ObjDict.nd{K:Type}[DecidableEq K]{knd:KeyKind prog w K}{o:Obj}{aW:List (K×Value)}(h:ObjDict prog w knd o aW):(aW.map (·.1)).Nodup:=by
 obtain⟨_,_,_,_,_,_,q⟩:=h
 exact q
theorem abB(aL:H.Ok){look:bA}{o:Obj}{l cK:List (V×V)}{x u:V}{ep eg:Value}(D:DictO prog w H g.im o l)(aj:jb x=true)(bx:H.k7 x u l=some cK)(hx:Val prog w H g look ep x)(bG:bI H u=some d)(aq:Rd g.im eg d):DSet prog w H g.im o ep eg l cK:=by
 obtain⟨e,ap,sa⟩:=hx.key aj
 rcases KS aj ap with ⟨i,e,aJ⟩|⟨s,e7,e⟩
 .rw[e] at sa ap
  obtain⟨t,e1⟩:=sa.dat
  rw[e1]
  rcases D with ⟨aW,aa,ah⟩|⟨aW,aa,ah⟩
  .exact⟨Int,_,intKind prog w,i,aW,aa,ui i t,(px ah).symm,λb9 h=> .int _ h (uX w1 aL ap bG aq bx ah aa.nd)⟩
  .obtain⟨e2,e3⟩:=Nh C1 (by rw [aJ];rfl) bx ah
   rw[e3] at aa
   rw[e2] at bx |-
   exact⟨Int,_,intKind prog w,i,[],aa.empty,ui i t,rfl,λb9 h=> .int _ h (uX w1 aL ap bG aq bx .nil .nil)⟩
 .rw[e] at sa ap
  obtain⟨t,e1⟩:=sa.dat
  rw[e1]
  rcases D with ⟨aW,aa,ah⟩|⟨aW,aa,ah⟩
  .obtain⟨e2,e3⟩:=Nh KZ (by rw [e7];rfl) bx ah
   rw[e3] at aa
   rw[e2] at bx |-
   exact⟨Str,_,strKind prog w,s,[],aa.empty,w2 s t,rfl,λb9 h=> .str _ h (uX C0 aL ap bG aq bx .nil .nil)⟩
  .exact⟨Str,_,strKind prog w,s,aW,aa,w2 s t,(px ah).symm,λb9 h=> .str _ h (uX C0 aL ap bG aq bx ah aa.nd)⟩
end
section
theorem abC(S:cx prog w G ta n)(cM:fb prog w G ta n){xp p2 pp:Pos}{k e:Expr}{H aD bS O:T}{l cK:List (V×V)}{v i:V}{bw:Fl}(aa:aN G n c J e H=some (v,aD))(aq:a2 J x=some (.dict l,true))(hx:d6 c x=true)(ah:aN G n c J k aD=some (i,bS))(a6:(jb i&&v.flat&&cz l)=true)(aC:bS.k7 i v l=some cK)(bC:bv G n c (cb J x (.dict cK) true) bu bS=some (bw,bg,O))(ag:O.cnt<=ba):
  hQ prog w ta (n+1) c J (.Assign [.Subscript (.Name x xp) k p2] e pp::bu) H bw bg O:=by
 intro A env ai g s Q E R T N C F ak
 have bz:=R.less (cG n)
 obtain⟨aj,fc⟩:=n7 hx
 obtain⟨a6,eB⟩:=aK a6
 obtain⟨abD,abE⟩:=aK a6
 have cA:=mw ah (jR aa C.ok).2
 have cP:=aT (lO bC cA.2).1.cnt ag
 refine wpAny_execs_cons (wpAny_Assign_Subscript ?_ (xK (mA aa) _ rfl _ _))
 refine S c J e H v aD aa (aT cA.1.cnt cP) A env ai g s _ E bz T N C F λaV aB bh u aR k₁ aZ bT=>?_
 have dA:=F.ext k₁ aR aZ.bn
 obtain⟨ad,_,n9,_,_,uW,_⟩:=xw (s:={s with heap:=aB,toks:=bh}) N aZ dA aj fc aq
 refine uW A xp _ E ?_
 refine S c J k aD i bS ah cP A env ai aV {s with heap:=aB,toks:=bh} _ E bz (aR.ta.trans T) N aZ dA λcD a8 b8 z cn dn b3 dr=>?_
 have gj:=dA.ext dn cn b3.bn
 have aL:=Eg (s:=s) N b3 gj aj fc aq (n9.ext dA cn)
 obtain⟨b,o,bq,hD,xP,abF⟩:=aL.v
 rw[<-Value.ref.inj bq] at hD xP
 obtain⟨d,aQ,hm⟩:=(bT.ext dn cn).flat (λ_ _ e=>e) abE
 obtain⟨ZZ,_,knd,fW,aW,bU,bZ,dJ,gY⟩:=abB b3.ok abF abD aC dr aQ hm
 refine wpAny_setItem_pairs (s:={s with heap:=a8,toks:=b8}) bZ (bU.mapOf hD) (λbN abG oe=>?_) (mL (dJ▸gd eB))
 obtain⟨o3,DL,DM,mI,nZ,pM,abH,abI,abJ⟩:=abG
 have Y:=aL.put bN (.dict cK) oe rfl ⟨ad,o3,rfl,mI,xP,gY o3 ⟨DL,DM,nZ,pM,abH,abI,abJ⟩⟩ ⟨_,mI⟩
 exact mR (s:=s) cM bC ag bz T N ⟨((aR.trans cn).toS ai).trans' Y.X,k₁.trans dn,Y.C,.refl _ _,Y.F,λy a _ q=>((q.ext F aR).ext dA cn).step gj (λr e=>⟨x,Option.some.inj (e.symm.trans aL.f)⟩) (SameBut.ext' oe)⟩ ak
end
noncomputable def more (ai:Addr->Option Ro) (D:Addr) (x:Str) (a:Addr):Option Ro:=cond (Nat.beq a D) (some (.own x)) (ai a)
theorem Ni{D:Addr}:more ai D x D=some (.own x):=by unfold more;rw[jF];rfl
theorem Ep{D a:Addr}(h:a≠D):more ai D x a=ai a:=by unfold more;rw[hn h];rfl
theorem abK{D a:Addr}{r:Ro}(h:ai D=none)(e:ai a=some r):more ai D x a=some r:=(Ep λq=>aI (h.symm.trans (q▸e))).trans e
theorem Nj{D a:Addr}{r:Ro}(h:more ai D x a=some r):a=D\/ai a=some r:=(eA h).imp (λp=>ei p.1) (·.2)
section
theorem Hold.ro{ai et:Addr->Option Ro}{v:Value}{o:Bool}(up:∀{a r},ai a=some r->et a=some r)(q:Hold prog w H g h ai y v u o):Hold prog w H g h et y v u o:=by
 rcases o with _|_
 .exact q
 .obtain⟨bU,a,bZ,dJ,gY⟩:=q
  exact⟨bU,a,bZ,up dJ,gY⟩
theorem FrR.more(F:FrR prog w H g h env J ai){D:Addr}(h0:ai D=none)(S:Sep1 g h D):FrR prog w H g h env J (more ai D x):=by
 have up:∀{a r},ai a=some r->Mine.more ai D x a=some r:=abK h0
 refine⟨?_,λy a e=>?_,up F.loc,λa r e=>(Nj e).elim (λq=>q▸S) (F.sep a r),F.dot⟩
 .obtain⟨m,aX,al⟩:=F.ns
  exact⟨m,aX,λy u o k q=>(al y u o k q).elim λv p=>⟨v,p.1,p.2.ro up⟩⟩
 .obtain⟨v,bU,bZ,dJ⟩:=F.cl y a e
  exact⟨v,bU,up bZ,λu o k q=>(dJ u o k q).elim λv p=>⟨v,p.1,p.2.ro up⟩⟩
theorem FrR.no(F:FrR prog w H g h env J ai){L:Addr}(e:h.get? L=none):ai L=none:=by
 rcases q:ai L with _|r
 .rfl
 .obtain⟨_,_,o,aG⟩:=F.sep L r q
  exact aI (e.symm.trans aG)
theorem FrR.H3(F:FrR prog w H g h env J ai){b:Addr}(ao:b=env.locals\/(lk sc.names x=some .cell/\env.cells.lookup x=some b)):∃r,ai b=some r:=by
 rcases ao with e|⟨_,q⟩
 .exact⟨_,e▸F.loc⟩
 .obtain⟨_,_,q,_⟩:=F.cl x b q
  exact⟨_,q⟩
structure Aside (cD:Gh) (e5:Addr->Option Ro) (aB a8:Heap) (L:Addr):Prop where
 im:cD.im L=none
 mu:L∉cD.bW
 no:e5 L=none
 at_:∀o,aB.get? L=some o->a8.get? L=some o
structure StoredN (prog:Program) (w:World) (aD:T) (env:Env) (ai:Addr->Option Ro) (g aV:Gh) (h aB:Heap) (J:am) (x:Str) (D:Addr) (v:V) (own:Bool) (cD:Gh) (e5:Addr->Option Ro) (a8:Heap):Prop where
 X:ExtS ai g h cD a8
 C:Cfg prog w aD cD a8
 Gw:Grow ai h e5
 F:FrR prog w aD cD a8 env (cb J x v own) e5
 st:∀y a,y≠x->OwnAt env h y a->OwnAt env a8 y a
 an0:∀L,h.get? L=none->L≠D->aV.im L=none->L∉aV.bW->Aside cD e5 aB a8 L
theorem Nk{g aV:Gh}{aB:Heap}{bh:Nat}{D:Addr}{v:V}(N:EnvR sc env)(aj:lk sc.names x=some .local\/lk sc.names x=some .cell)(fc:x≠dM)(F:FrR prog w H g s.heap env J ai)(aR:Ext g s.heap aV aB)(k:H.bP aD)(aZ:Cfg prog w aD aV aB)(Z:NewD prog w aD s.heap aV aB D v)(own:Bool){Q:Unit->Shared->Prop}(ak:∀cD e5 a8 b8,StoredN prog w aD env ai g aV s.heap aB J x D v own cD e5 a8->Q () {s with heap:=a8,toks:=b8}):wpAny (model prog w) A (storeName env x (.ref D)) Q E {s with heap:=aB,toks:=bh}:=by
 have sb:∀{L b a8},s.heap.get? L=none->(b=env.locals\/(lk sc.names x=some .cell/\env.cells.lookup x=some b))->Heap.SameBut b aB a8->∀o,aB.get? L=some o->a8.get? L=some o:=λl ao jr o e=>SameBut.ext' jr _ o (λq=>(F.H3 ao).elim λr aq=>aI ((F.no l).symm.trans (q▸aq))) e
 rcases own with _|_
 .obtain⟨o,aG,fK⟩:=xf Z.co Z.im Z.val
  have cn:=aR.freeze (o:=o) Z.new Z.im
  have b3:=aZ.freeze Z.im Z.mu aG
  refine mK (s:={s with heap:=aB,toks:=bh}) N b3 (F.ext k cn b3.bn) aj fc (o:=false) fK λa8 b8 Y=>?_
  obtain⟨b,ao,jr,_⟩:=Y.b
  exact ak _ ai a8 b8 ⟨(cn.toS ai).trans' Y.X,Y.C,.refl _ _,Y.F,λy a aY q=>Y.st y a aY (q.ext F aR),λL p5 ne cg ch=>⟨(Gh.g7 ne).trans cg,ch,F.no p5,sb p5 ao jr⟩⟩
 .have dA:=F.ext k aR aZ.bn
  refine mK (s:={s with heap:=aB,toks:=bh}) N aZ (dA.more (x:=x) (F.no Z.new) ⟨Z.im,Z.mu,Z.live⟩) aj fc (o:=true) ⟨Z.co,D,rfl,Ni,Z.val⟩ λa8 b8 Y=>?_
  obtain⟨b,ao,jr,_⟩:=Y.b
  have Gw:Grow ai s.heap (more ai D x):=λa r e=>(Nj e).elim (λq=> .inr (q▸Z.new)) λq=> .inl ⟨r,q⟩
  exact ak aV _ a8 b8 ⟨(aR.toS ai).trans Y.X Gw,Y.C,Gw,Y.F,λy a aY q=>Y.st y a aY (q.ext F aR),λL p5 ne cg ch=>⟨cg,ch,(Ep ne).trans (F.no p5),sb p5 ao jr⟩⟩
theorem sd(h:pb e=false)(x:Str)(p:Pos)(line:Nat)(env:Env):swapsWith e (some (.Name x p)) line env=pure false:=by
 rcases e
 case ListComp=>exact nomatch h
 case SetComp=>exact nomatch h
 case DictComp=>exact nomatch h
 all_goals rfl
inductive CompI (e:Expr):Prop
 |mk (elt:Expr) (gens:List Comprehension) (sc:Scope) (pos:Pos) (h:e= .ListComp elt gens sc pos)
theorem abL(h:pb e=true)(k:mz e=true):CompI e:=by
 rcases e
 case ListComp=>exact⟨_,_,_,_,rfl⟩
 case SetComp=>exact c2 k
 case DictComp=>exact c2 k
 all_goals exact c2 h
theorem abM(elt:Expr)(gens:List Comprehension)(sc:Scope)(pos p:Pos)(x:Str)(line:Nat)(env:Env):∃b,swapsWith (.ListComp elt gens sc pos) (some (.Name x p)) line env=pure b:=⟨_,rfl⟩
theorem Nl{xp pp:Pos}(h:fV y 12 (.Assign [.Name x xp] e pp)=false):y≠x:=n8 (gI (show ([Expr.Name x xp].any (o8 y))=false from h)).1
theorem abN{own d:Bool}(h:(!own||d)=true)(e:own=true):d=true:=by
 rw[e] at h
 exact h
theorem StoredN.after{ai e5:Addr->Option Ro}{g aV cD:Gh}{h aB a8:Heap}{D:Addr}{v:V}{own:Bool}{xp pp:Pos}(Y:StoredN prog w aD env ai g aV h aB J x D v own cD e5 a8)(k:H.bP aD):After prog w ai H g env (.Assign [.Name x xp] e pp) h (cb J x v own) aD e5 cD a8:=
 ⟨Y.X,k,Y.C,Y.Gw,Y.F,λy a aY q=>Y.st y a (Nl aY) q⟩
theorem After.own{ai e5:Addr->Option Ro}{g cD:Gh}{h aB a8 bN:Heap}{st:Stmt}{L:Addr}(Y:After prog w ai H g env st h J aD e5 cD a8)(p5:h.get? L=none)(a:Aside cD e5 aB a8 L)(ext:∀a o,a≠L->a8.get? a=some o->bN.get? a=some o):After prog w ai H g env st h J aD e5 cD bN:=
 ⟨Y.X.own p5 ext,Y.k,Y.C.own a.im a.mu ext,Y.Gw,Y.F.apart a.no ext,λy b aY q=>(Y.st y b aY q).step Y.F (λr e=>aI (a.no.symm.trans e)) ext⟩
section
variable {xp pp:Pos}{v:V}{bw:Fl}{own:Bool}{Q:Flow->Shared->Prop}
theorem abO(S:cx prog w G ta n)(p6:r7 prog w G ta n)(cM:fb prog w G ta n)(hx:d6 c x=true)(aa:aN G n c J e H=some (v,aD))(gW:(!own||ll e)=true)(ah:bv G n c (cb J x v own) bu aD=some (bw,bg,O))(ag:O.cnt<=ba)(cP:aD.cnt<=ba)(bz:Room A n)(T:g.ta=ta)(N:EnvR c.sc env)(C:Cfg prog w H g s.heap)(F:FrR prog w H g s.heap env J ai)(ak:lG prog w ai H g s env (.Assign [.Name x xp] e pp::bu) bg O bw Q)(aJ:swapsWith e (some (.Name x xp)) pp.line env=pure false):
  wpAny (model prog w) A (execs (.Assign [.Name x xp] e pp::bu) env) Q E s:=by
 obtain⟨aj,fc⟩:=n7 hx
 refine wpAny_execs_cons (wpAny_Assign_Name ?_ aJ)
 rcases own with _|_
 .refine S c J e H v aD aa cP A env ai g s _ E bz T N C F λaV aB bh u aR k₁ aZ bT=>?_
  refine mK (s:={s with heap:=aB,toks:=bh}) N aZ (F.ext k₁ aR aZ.bn) aj fc (o:=false) bT λa8 b8 Y=>?_
  exact mR (s:=s) cM ah ag bz T N ⟨(aR.toS ai).trans' Y.X,k₁,Y.C,.refl _ _,Y.F,λy a aY q=>Y.st y a (Nl aY) (q.ext F aR)⟩ ak
 .refine p6 c J e H v aD (abN gW rfl) aa cP A env ai g s _ E bz T N C F λaV aB bh D aR k₁ aZ Z=>?_
  exact Nk N aj fc F aR k₁ aZ Z true λcD e5 a8 b8 Y=>mR (s:=s) cM ah ag bz T N (Y.after k₁) ak
theorem abP{elt:Expr}{gens:List Comprehension}{pos:Pos}(p7:mQ prog w G ta n)(cM:fb prog w G ta n)(hx:d6 c x=true)(aa:aN G n c J (.ListComp elt gens sc pos) H=some (v,aD))(ah:bv G n c (cb J x v own) bu aD=some (bw,bg,O))(ag:O.cnt<=ba)(cP:aD.cnt<=ba)(bz:Room A n)(T:g.ta=ta)(N:EnvR c.sc env)(C:Cfg prog w H g s.heap)(F:FrR prog w H g s.heap env J ai)(ak:lG prog w ai H g s env (.Assign [.Name x xp] (.ListComp elt gens sc pos) pp::bu) bg O bw Q)(aJ:swapsWith (.ListComp elt gens sc pos) (some (.Name x xp)) pp.line env=pure true):
  wpAny (model prog w) A (execs (.Assign [.Name x xp] (.ListComp elt gens sc pos) pp::bu) env) Q E s:=by
 obtain⟨aj,fc⟩:=n7 hx
 refine wpAny_execs_cons ?_
 rw[exec_Assign_Name_used _ _ _ _ aJ]
 refine wpAny_bind (wpAny_standAt (wpAny_bind ?_))
 obtain⟨fM,fW⟩:=p7 c J elt gens sc pos (firstIterPos gens pos) H v aD aa cP (some (assign (.Name x xp) env)) A env ai g s (λ_ bQ=>wpAny (model prog w) A (execs bu env) Q E bQ) E bz T N C F λaV aB bh D L aR k₁ aZ Z se=>
  wpAny_assign_Name (Nk N aj fc F aR k₁ aZ Z own λcD e5 a8 b8 Y=>by
   have a:=Y.an0 L se.new se.ne se.im se.mu
   obtain⟨m,av⟩:=se.ns
   exact⟨m,av.at' a.at_,λbN oe=>mR (s:=s) cM ah ag bz T N ((Y.after k₁).own se.new a (SameBut.ext' oe)) ak⟩)
 show wpAny _ A (do let _ <-comprehension (.ListComp elt gens sc pos) sc env (firstIterPos gens pos) (newList []) (firstAsync gens) (firstIter gens env) (some (assign (.Name x xp) env))) _ E s
 rw[fM]
 exact wpAny_bind (wpAny_mono fW (λ_ bQ aO=>wpAny_pure (wpAny_pure aO)) λ_ _ q=>q)
end
theorem abQ(S:cx prog w G ta n)(p6:r7 prog w G ta n)(p7:mQ prog w G ta n)(cM:fb prog w G ta n){xp pp:Pos}{v:V}{bw:Fl}{own:Bool}(hx:d6 c x=true)(aa:aN G n c J e H=some (v,aD))(gW:(!own||ll e)=true)(ah:bv G n c (cb J x v own) bu aD=some (bw,bg,O))(ag:O.cnt<=ba):hQ prog w ta (n+1) c J (.Assign [.Name x xp] e pp::bu) H bw bg O:=by
 intro A env ai g s Q E R T N C F ak
 have bz:=R.less (cG n)
 have cP:=aT (lO ah (jR aa C.ok).2).1.cnt ag
 have plain:=abO (xp:=xp) (pp:=pp) (E:=E) S p6 cM hx aa gW ah ag cP bz T N C F ak
 rcases cL:pb e with _|_
 .exact plain (sd cL x xp _ env)
 .obtain⟨elt,gens,sc,pos,e1⟩:=abL cL (mA aa)
  rw[e1] at aa ak plain |-
  obtain⟨b,ao⟩:=abM elt gens sc pos xp x pp.line env
  rcases b with _|_
  .exact plain ao
  .exact abP p7 cM hx aa ah ag cP bz T N C F ak ao
end
noncomputable def hp(K:Frag)(C:Addr)(name:Str):Bool:=findIn K (.ref C) "__setattr__"==some (some (.builtin "object.__setattr__"))&&plainOver K C&&takerIn K C name==some none&&hasDictIn K C
def xe:Option DictEntry->Bool->Option (Option Value)
 |some e,_=>some (some e.val)
 |none,b=>cond b none (some none)
theorem p8(name:Str)(es:List DictEntry):getL name es=xe (es.find? (·.key.isStr name)) (es.any (·.refKey)):=by
 unfold getL
 generalize List.find? (λx:DictEntry=>x.key.isStr name) es=x
 rcases x with _|_
 .generalize List.any es (λx:DictEntry=>x.refKey)=b
  rcases b with _|_<;>rfl
 .rfl
theorem Nm{x:Option DictEntry}{b hC:Bool}{v:Value}(h:xe x b=some (some v)):xe x hC=some (some v):=by
 rcases x with _|_
 .rcases b with _|_
  .exact nomatch (Option.some.inj (show some none=some (some v) from h))
  .exact aI h
 .exact h
inductive LkL (name:Str):Option Value->List DictEntry->Prop
 |nil:LkL name none []
 |here {e:DictEntry} {r:List DictEntry} (q:e.key.isStr name=true):LkL name (some e.val) (e::r)
 |next {o:Option Value} {e:DictEntry} {r:List DictEntry} (q:e.key.isStr name=false) (n:o=none->e.refKey=false) (t:LkL name o r):LkL name o (e::r)
theorem LkL.get{name:Str}{o:Option Value}{es:List DictEntry}(h:LkL name o es):getL name es=some o:=by
 induction h with
 |nil=>rfl
 |here q=>rw[p8,tx,q];rfl
 | @next o e r q n t bb=>
  rw[p8] at bb
  rw[p8,tx,q,h1]
  rcases o with _|v
  .rw[n rfl,tB];exact bb
  .exact Nm bb
theorem mS{name:Str}:∀{es:List DictEntry}{o:Option Value},getL name es=some o->LkL name o es
 |[],o,h=>by rw [<-Option.some.inj (show some none=some o from h)];exact .nil
 |e::r,o,h=>by
  rw[p8,tx] at h
  rcases q:e.key.isStr name with _|_<;>rw[q] at h
  .rw[h1] at h
   rcases o with _|v
   .rcases k:e.refKey with _|_<;>rw[k] at h
    .rw[tB] at h
     exact .next q (λ_=>k) (mS ((p8 name r).trans h))
    .rw[z4] at h
     rcases hb:r.find? (·.key.isStr name) with _|bq<;>rw[hb] at h
     .exact aI h
     .exact nomatch (Option.some.inj (show some (some bq.val)=some none from h))
   .exact .next q nofun (mS ((p8 name r).trans (Nm h)))
  .rw[<-Option.some.inj (show some (some e.val)=some o from h)]
   exact .here q
theorem uY{name:Str}{dT:Int}{key v:Value}{e:DictEntry}{r:List DictEntry}(q:e.key.isStr name=true):putL name dT key v (e::r)=⟨e.hash,e.key,v⟩::r:=by
 unfold putL
 rw[if_pos q]
theorem sf{name:Str}{dT:Int}{key v:Value}{e:DictEntry}{r:List DictEntry}(q:e.key.isStr name=false):putL name dT key v (e::r)=e::putL name dT key v r:=by
 conv=>lhs;unfold putL
 rw[if_neg (Bool.eq_false_iff.mp q)]
theorem LkL.put{name:Str}{dT:Int}{key v:Value}(aj:key.isStr name=true){o:Option Value}{es:List DictEntry}(h:LkL name o es):LkL name (some v) (putL name dT key v es):=by
 induction h with
 |nil=>exact .here (e:=⟨dT,key,v⟩) aj
 |here q=>rw[uY q];exact .here (e:=⟨_,_,v⟩) q
 |next q n t bb=>rw[sf q];exact .next q nofun bb
theorem Nn{k:Value}{a b:Str}(h:k.isStr a=true)(gD:a≠b):k.isStr b=false:=by
 rcases k
 case str x t=>exact beq_eq_false_iff_ne.mpr λe=>gD ((eq_of_beq h).symm.trans e)
 all_goals exact c2 h
theorem LkL.SM{name other:Str}{dT:Int}{key v:Value}(aj:key.isStr name=true)(aq:∀h u,(⟨h,key,u⟩:DictEntry).refKey=false)(gD:name≠other){o:Option Value}{es:List DictEntry}(h:LkL other o es):LkL other o (putL name dT key v es):=by
 induction h with
 |nil=>exact .next (e:=⟨dT,key,v⟩) (Nn aj gD) (λ_=>aq _ _) .nil
 | @here e r q=>rw[sf (Nn q gD.symm)];exact .here q
 | @next o e r q n t bb=>
  rcases k:e.key.isStr name with _|_
  .rw[sf k];exact .next q n bb
  .rw[uY k];exact .next (e:=⟨e.hash,e.key,v⟩) q n t
theorem xQ{name:Str}{dT:Int}{key v:Value}:∀{es:List DictEntry},(putL name dT key v es).length<=es.length+1
 |[]=>cq _
 |e::r=>by
  rcases q:e.key.isStr name with _|_
  .rw[sf q];exact gr (xQ (es:=r))
  .rw[uY q];exact cG _
theorem LkL.len{name:Str}{dT:Int}{key v u:Value}{es:List DictEntry}(h:LkL name (some u) es):(putL name dT key v es).length=es.length:=by
 generalize e:some u=o at h
 induction h with
 |nil=>exact nomatch e
 |here q=>rw[uY q];rfl
 |next q n t bb=>rw[sf q];exact congrArg Nat.succ (bb e)
theorem LkL.found{name:Str}{u:Value}{es:List DictEntry}(h:LkL name (some u) es):∃x∈es,x.key.isStr name=true:=by
 generalize e:some u=o at h
 induction h with
 |nil=>exact nomatch e
 |here q=>exact⟨_,dV,q⟩
 |next q n t bb=>exact(bb e).elim λx p=>⟨x,.tail _ p.1,p.2⟩
theorem LkL.safe{name:Str}{o:Option Value}{es:List DictEntry}(h:LkL name o es):(!es.any (·.key.isStr name)&&es.any (·.refKey))=false:=by
 induction h with
 |nil=>rfl
 |here q=>rw[h1,q];rfl
 | @next o e r q n t bb=>
  rw[h1,h1,q,tB]
  rcases k:r.any (·.key.isStr name) with _|_
  .rw[k] at bb
   rcases o with _|u
   .rw[n rfl];exact bb
   .exact absurd t (λt=>by
     obtain⟨x,hx,aO⟩:=t.found
     rw[List.any_eq_false] at k
     exact k x hx aO)
  .rfl
section
theorem abR{x C a5:Addr}{es:List DictEntry}{name:Str}{aF:Tok}{v:Value}{o:Option Value}{R:Result->Shared->Prop}(X:K.In s.heap)(aa:s.heap.get? x=some (instObj C a5))(ah:s.heap.get? a5=some (dictOf es n))(er:plainOver K C=true)(e4:takerIn K C name=some none)(ij:hasDictIn K C=true)(ag:LkL name o es)(bi:es.length<=900)(ak:∀h' dT t db,h'.get? a5=some (dictOf (putL name dT (.str name t) v es) db)->Heap.SameBut a5 s.heap h'->∀aF,R (.ok (.ret .none)) {s with heap:=h',toks:=aF}):
  codeAny (model prog w) A (.call (.builtin "object.__setattr__") ⟨[.ref x,.str name aF,v],[]⟩) R s:=by
 have I:InstAt s.heap x (instObj C a5) C (some (dictOf es n)):=⟨aa,rfl,rfl,ah⟩
 refine osa_open X I er e4 λb=>?_
 obtain⟨cd,ap,iJ⟩:=any_some ij
 refine wpAny_bind (wpAny_pure (wpAny_bind (wpAny_bind (wpAny_loadPart aa (wpAny_bind ((looks_clsIn X ap).here ?_))))))
 rw[iJ]
 refine wpAny_pure (a:=some a5) (wpAny_bind (wpAny_pure (wpAny_bind ?_)))
 unfold nsSet
 refine wpAny_bind (wpAny_bind (wpAny_askSetting (wpAny_pure (wpAny_bind (wpAny_mkText (wpAny_bind (wpAny_loadPart ah ?_)))))))
 have c:(!es.toArray.any (·.key.isStr name)&&es.toArray.any (·.refKey))=false:=by
  rw[List.any_toArray,List.any_toArray]
  exact ag.safe
 dsimp only
 rw[aRefKeyMayBeTheName_at,c]
 refine wpAny_updatePart ah ?_
 have a0:∀dT t,(s.heap.update a5 (Obj.putName name dT (.str name t) v)).get? a5=some (dictOf (putL name dT (.str name t) v es) (putN name es n)):=λdT t=>by
  rw[v3 _ ah (by rw [putName_dict];rfl),putName_dict]
 refine wpAny_bind (wpAny_lookBehind (a0 _ _) (pastItsLine_dict (aT (aT (dW qQ) xQ) (aT (gr bi) (by decide)))) ?_)
 exact wpAny_pure (ak _ _ _ _ (a0 _ _) (Heap.SameBut.update ..) _)
theorem No{x C a5:Addr}{es:List DictEntry}{name:Str}{v:Value}{o:Option Value}{Q:Unit->Shared->Prop}(X:K.In s.heap)(aa:s.heap.get? x=some (instObj C a5))(ah:s.heap.get? a5=some (dictOf es n))(aw:hp K C name=true)(ag:LkL name o es)(bi:es.length<=900)(ak:∀h' dT t db,h'.get? a5=some (dictOf (putL name dT (.str name t) v es) db)->Heap.SameBut a5 s.heap h'->∀aF,Q () {s with heap:=h',toks:=aF}):wpAny (model prog w) A (setAttr (.ref x) name v) Q E s:=by
 obtain⟨aw,ij⟩:=aK aw
 obtain⟨aw,e4⟩:=aK aw
 exact set_plain (od:=some (dictOf es n)) X ⟨aa,rfl,rfl,ah⟩ (beq_iff_eq.mp (aK aw).1) (abR (s:={s with toks:=s.toks+1}) X aa ah (aK aw).2 (beq_iff_eq.mp e4) ij ag bi λh' dT t db bU bZ aF=>ak h' dT t db bU bZ aF)
end
section
variable {α:Type}{a b c d e f:α}
theorem in1:a∈[a,b,c,d,e,f]:=.head _
theorem uZ:b∈[a,b,c,d,e,f]:=.tail _ (.head _)
theorem xR:c∈[a,b,c,d,e,f]:=.tail _ (.tail _ (.head _))
theorem Er:d∈[a,b,c,d,e,f]:=.tail _ (.tail _ (.tail _ (.head _)))
theorem Es:e∈[a,b,c,d,e,f]:=.tail _ (.tail _ (.tail _ (.tail _ (.head _))))
theorem Et:f∈[a,b,c,d,e,f]:=.tail _ (.tail _ (.tail _ (.tail _ (.tail _ (.head _)))))
end
section
variable {H cE:T}
theorem TkRows.to(q:TkRows H g h)(a1:au.ta=g.ta)(fk:∀a o,g.im a=some o->au.im a=some o)(le:H.bP cE)(gn:cE.base++cE.dyn=H.base++H.dyn)(k:∀o,h.get? g.ta.rows=some o->h'.get? g.ta.rows=some o):TkRows cE au h':=by
 obtain⟨vs,n,ds,e,r,c⟩:=q
 exact⟨vs,n,ds,a1▸k _ e,r.mono fk,gn▸mq le c⟩
theorem TkIdx.to(q:TkIdx prog w H g h)(a1:au.ta=g.ta)(fk:∀a o,g.im a=some o->au.im a=some o)(le:H.bP cE)(gn:cE.base++cE.dyn=H.base++H.dyn)(k:∀o,h.get? g.ta.idx=some o->h'.get? g.ta.idx=some o):TkIdx prog w cE au h':=by
 obtain⟨o,es,ca,a4,e,x,d,l,nd,r,c,i⟩:=q
 exact⟨o,es,ca,a4,a1▸k _ e,x,d,l,nd,λx hx=>⟨(r x hx).1.mono fk,(r x hx).2⟩,gn▸mq le c,i⟩
theorem TkDecls.to(q:TkDecls H g h)(a1:au.ta=g.ta)(aQ:au.dd=g.dd)(ho:cE.decls.length=H.decls.length)(k:∀o,h.get? g.ta.decls=some o->h'.get? g.ta.decls=some o):TkDecls cE au h':=by
 obtain⟨vs,n,e,l,m⟩:=q
 exact⟨vs,n,a1▸k _ e,aQ▸l,aQ▸ho.trans m⟩
theorem TkDecl.to{p:Addr×Addr}(q:TkDecl H g h j p)(a1:au.ta=g.ta)(fk:∀a o,g.im a=some o->au.im a=some o)(le:H.bP cE)(xS:cE.decls[j+1]? =H.decls[j+1]?)(k:∀o,h.get? p.2=some o->h'.get? p.2=some o):TkDecl cE au h' j p:=by
 obtain⟨a,es,n,e,l,v,b,r,i,t,x,y,a5,c⟩:=q
 exact⟨a1▸fk _ _ a,es,n,k _ e,l,v,b,r.mono fk,i,t,x,y,xS.trans a5,pi le c⟩
theorem TkBnds.to(q:TkBnds H g h)(a1:au.ta=g.ta)(gn:cE.bounds=H.bounds)(k:∀o,h.get? g.ta.du=some o->h'.get? g.ta.du=some o):TkBnds cE au h':=by
 obtain⟨vs,n,e,l,i⟩:=q
 exact⟨vs,n,a1▸k _ e,gn▸l,gn▸i⟩
theorem TkLst.to(q:TkLst H h a)(le:H.bounds.length<=cE.bounds.length)(k:∀o,h.get? a=some o->h'.get? a=some o):TkLst cE h' a:=by
 obtain⟨vs,n,e,l⟩:=q
 exact⟨vs,n,k _ e,aT l le⟩
theorem TkTab.to(q:TkTab g)(a1:au.ta=g.ta)(fk:∀a o,g.im a=some o->au.im a=some o):TkTab au:=by
 obtain⟨es,n,e,a,b,c,d,f,i,j⟩:=q
 exact⟨es,n,a1▸fk _ _ e,a1▸a,a1▸b,a1▸c,a1▸d,a1▸f,a1▸i,j⟩
theorem TkHost.to(q:TkHost g)(a1:au.ta=g.ta)(fk:∀a o,g.im a=some o->au.im a=some o):TkHost au:=by
 obtain⟨es,n,e,a,b⟩:=q
 exact⟨es,n,a1▸fk _ _ e,a1▸a,b⟩
end
section
theorem Eu(H:T)(l:List V)(h:H.decls.length<=l.length):H.bP {H with decls:=l}:=⟨.inl rfl,⟨[],(eh _).symm⟩,cq _,h,rfl⟩
theorem Np(aL:H.Ok)(l:List V):({H with decls:=l}:T).Ok:=⟨aL.plain,aL.met,aL.key,aL.bld,aL.size,aL.once,aL.small⟩
structure Apart (g:Gh):Prop where
 nd:(g.dd.map (·.2)).Nodup
 ne:∀a∈[g.ta.rows,g.ta.idx,g.ta.decls,g.ta.du,g.ta.dfl,g.ta.ew],∀b∈g.dd.map (·.2),a≠b
theorem TOK.apart(D:TOK prog w H g h):Apart g:=by
 have nd:=D.nd
 unfold Gh.bW at nd
 rw[List.nodup_append] at nd
 exact⟨nd.2.1,nd.2.2⟩
theorem Apart.inj(D:Apart g){p q:Addr×Addr}(aO:g.dd[j]? =some q)(aS:g.dd[k]? =some p)(e:q.2=p.2):j=k:=by
 have e1:(g.dd.map (·.2))[j]? =some q.2:=by rw [ni,aO];rfl
 have e2:(g.dd.map (·.2))[k]? =some p.2:=by rw [ni,aS];rfl
 exact(List.getElem?_inj (List.getElem?_eq_some_iff.mp e1).1 D.nd).mp (e1.trans (e▸e2.symm))
theorem xT(a:Str)(t:Tok):(Value.str a t).isStr a=true:=beq_self_eq_true a
theorem TkDecl.set{p:Addr×Addr}{es:List DictEntry}{dT:Int}{jW:Tok}{db:Nat}{v:V}{i:Int}{t:Tok}(q:TkDecl H g h k p)(bx:h.get? p.2=some (dictOf es n))(fJ:k+1<H.decls.length)(bU:h'.get? p.2=some (dictOf (putL fT dT (.str fT jW) (.int i t) es) db))(le:H.bP {H with decls:=H.decls.set (k+1) v})(al:bI H v=some (.int i)):TkDecl {H with decls:=H.decls.set (k+1) v} g h' k p:=by
 obtain⟨a,dN,anv,e,l,x,b,r,Ev,anw,x0,y,a5,c⟩:=q
 have bq:dN=es:=by
  have:=(e.symm.trans bx)
  injection this with this
  injection this with _ _ this _
  injection this with this _
  exact Array.toList_inj.mpr this|>λq=>by simpa using q
 rw[bq] at b y l
 have ne:fT≠lc:=by decide
 exact⟨a,_,db,bU,(mS y).len.symm▸l,x,((mS b).SM (xT ..) (λ_ _=>rfl) ne).get,r,i,t,v,((mS y).put (xT ..)).get,List.getElem?_set_self fJ,pi le al⟩
theorem abS(C:Cfg prog w H g s.heap)(P:Tp g.ta K)(lP:hp K g.ta.fg fT=true){p:Addr×Addr}{v:V}{i:Int}{t:Tok}(aS:g.dd[k]? =some p)(al:bI H v=some (.int i)){Q:Unit->Shared->Prop}(ak:∀h' aF,Ext g s.heap g h'->Cfg prog w {H with decls:=H.decls.set (k+1) v} g h'->Q () {s with heap:=h',toks:=aF}):wpAny (model prog w) A (setAttr (.ref p.1) fT (.int i t)) Q E s:=by
 have D:=C.tok
 have K:=D.decl k p aS
 obtain⟨aa,es,n,ah,aC,_,_,_,_,_,_,y,_⟩:=id K
 refine No (C.gq P) (C.bn _ _ aa) ah lP (mS y) (aT aC (by decide)) λh' dT jW db bU bZ aF=>?_
 have cj:=D.apart
 have Nq:p.2∈g.dd.map (·.2):=tm (oK aS)
 have Nr:p.2∈g.bW:=zI _ Nq
 have ext:=SameBut.ext' bZ
 have sg:∀{a},a∈[g.ta.rows,g.ta.idx,g.ta.decls,g.ta.du,g.ta.dfl,g.ta.ew]->∀o,s.heap.get? a=some o->h'.get? a=some o:=λaw o=>ext _ o (cj.ne _ aw _ Nq)
 have len:(H.decls.set (k+1) v).length=H.decls.length:=List.length_set
 have le:=Eu H (H.decls.set (k+1) v) (dW len.symm)
 have bn:∀a o,g.im a=some o->h'.get? a=some o:=λa o e=>ext a o (λq=>aI ((D.out _ Nr).symm.trans (q▸e))) (C.bn a o e)
 have fJ:k+1<H.decls.length:=by
  obtain⟨_,_,_,_,q⟩:=D.decls
  exact q▸Nat.succ_lt_succ (List.getElem?_eq_some_iff.mp aS).1
 have xU:∀a o,g.im a=some o->g.im a=some o:=λ_ _ e=>e
 refine ak h' aF ⟨rfl,xU,λ_ _ _=>rfl,λa o e m=>ext a o (λq=>m (q▸Nr)) e,.refl _ _,λa o e=>?_⟩ ⟨bn,C.base,Np C.ok _,?_,⟨aT (dW len) C.line.1,C.line.2⟩,C.mods⟩
 .exact(eR (a=p.2)).elim (λq=>q▸⟨_,bU⟩) λq=>⟨o,ext a o q e⟩
 .refine⟨D.tab,D.cU,D.host,D.hv,D.rows.to rfl xU le rfl (sg in1),D.idx.to rfl xU le rfl (sg uZ),D.k2,D.decls.to rfl rfl len (sg xR),λj q aO=>?_,D.du.to rfl rfl (sg Er),D.dfl.to (cq _) (sg Es),D.ew.to (cq _) (sg Et),D.nd,D.out⟩
  rcases eR (j=k) with e|e
  .rw[e] at aO |-
   rw[<-Option.some.inj (aS.symm.trans aO)]
   exact K.set ah fJ bU le al
  .exact(D.decl j q aO).to rfl xU le (List.getElem?_set_ne λq=>e (Nat.succ.inj q).symm) λo=>ext _ o λbq=>e (cj.inj aO aS bq)
end
section
inductive NumI (H:T) (v:V) (u:Value):Prop
 |mk (i:Int) (t:Tok) (e:u= .int i t) (c:bI H v=some (.int i))
theorem abT{v:V}{u:Value}(h:mj v=true)(al:Val prog w H g g.im u v):NumI H v u:=by
 rcases v
 case int=>obtain⟨t,e⟩:=al.int_inv;exact⟨_,t,e,rfl⟩
 case ty=>
  obtain⟨d,aa,ah⟩:=al
  obtain⟨i,_,_,e⟩:=hB aa
  rw[e] at aa ah
  obtain⟨t,e⟩:=ah.dat
  exact⟨_,t,e,aa⟩
 all_goals exact c2 h
theorem abU(S:cx prog w G ta n)(cM:fb prog w G ta n)(B:Bk prog w G ta K bp mb)(lP:hp K ta.fg fT=true){xp cj pp:Pos}{v:V}{bw:Fl}(aa:aN G n c J e H=some (v,aD))(aq:a2 J x=some (.decl k,false))(hx:d6 c x=true)(aX:mj v=true)(bC:bv G n c J bu {aD with decls:=aD.decls.set k v}=some (bw,bg,O))(ag:O.cnt<=ba):
  hQ prog w ta (n+1) c J (.Assign [.Attribute (.Name x xp) fT cj] e pp::bu) H bw bg O:=by
 intro A env ai g s Q E R T N C F ak
 have bz:=R.less (cG n)
 obtain⟨gl,fc⟩:=n7 hx
 have cA:=lO bC (jR aa C.ok).2
 have cP:aD.cnt<=ba:=aT cA.1.cnt ag
 refine wpAny_execs_cons (plainObj_wpAny_Assign_Attribute ?_ (xK (mA aa) _ rfl _ _))
 refine S c J e H v aD aa cP A env ai g s _ E bz T N C F λaV aB bh u aR k₁ aZ bT=>?_
 have dA:=F.ext k₁ aR aZ.bn
 refine jh (s:={s with heap:=aB,toks:=bh}) N dA (gl.imp id .inl) aq λz bi=>?_
 obtain⟨i,t,e1,ap⟩:=abT aX bT
 obtain⟨p,bU,bZ,e2⟩:=bi
 obtain⟨j,e3⟩:=c0 bU
 rw[e1,e2]
 rw[e3] at bZ bC
 have hl:=aR.ta.trans T
 refine abS (s:={s with heap:=aB,toks:=bh}) aZ (hl▸B.tp) (hl▸lP) bZ ap λa8 b8 cn b3=>?_
 have le:=Eu aD (aD.decls.set (j+1) v) (dW List.length_set.symm)
 exact mR (s:=s) cM bC ag bz T N ⟨(aR.trans cn).toS ai,k₁.trans le,b3,.refl _ _,dA.ext le cn b3.bn,λy a _ q=>(q.ext F aR).ext dA cn⟩ ak
end
section
inductive FrOwn (prog:Program) (w:World) (H:T) (g:Gh) (h h':Heap) (env:Env) (y:Str) (a:Addr) (v:V):Prop
 |mk (F:FrR prog w H g h' env [(y,v,true)] (more (dw env.locals env.cells) a y)) (at_:OwnAt env h' y a) (C:Cfg prog w H g h') (X:Ext g h g h') (n:∀b r,dw env.locals env.cells b=some r->h.get? b=none)
theorem p9{y z:Str}{v u:V}{b o:Bool}(h:a2 [(y,v,b)] z=some (u,o)):z=y/\v=u/\b=o:=by
 rcases eA (show cond (a9 y z) (some (v,b)) none=some (u,o) from h) with ⟨e,h⟩|⟨_,h⟩
 .exact⟨(sEq_iff.mp e).symm,Prod.mk.inj (Option.some.inj h)⟩
 .exact aI h
theorem abV{s c1:Shared}(C:Cfg prog w H g s.heap)(S:ScopeOk sc)(aa:env.scope=sc)(bC:env.cells=cellsFrom n sc.names []){v:V}(aY:lk sc.names y=some .local\/lk sc.names y=some .cell)(xV:y≠dM)(x:InCallC s env.locals (bindL env.kindOf [(y,.ref a)] λ_=>none) env.cells (bindC env.kindOf [(y,.ref a)] λ_=>none) c1)(dB:g.im a=none)(d9:a∉g.bW)(ap:hE v=true)(al:Val prog w H g s.heap.get? (.ref a) v):
  FrOwn prog w H g s.heap c1.heap env y a v:=by
 have nd:([(y,Value.ref a)].map (·.1)).Nodup:=List.nodup_cons.mpr ⟨nofun,.nil⟩
 have b4:(List.lookup y [(y,Value.ref a)]).or none=some (.ref a):=by rw [n2];rfl
 obtain⟨F,aZ,aR,fresh⟩:=LK C S aa bC (bs:=[(y,.ref a)]) nd x (J:=[]) (λ_ _ _ h=>aI h) rfl
 obtain⟨o,aG,_⟩:=xf ap dB al
 have keep:=x.toInCall.keep
 have pk:dw env.locals env.cells a=none:=by
  rcases e:dw env.locals env.cells a with _|r
  .rfl
  .exact aI ((fresh a r e).symm.trans aG)
 have j4:=F.more (x:=y) pk ⟨dB,d9,o,keep _ _ aG⟩
 have Nt:Hold prog w H g c1.heap (more (dw env.locals env.cells) a y) y (.ref a) v true:=⟨ap,a,rfl,Ni,al.seen (.refl H) (λ_ _ e=>e) (λo e=>keep _ _ e) ap⟩
 have pX:∀z,env.kindOf z=lk sc.names z:=λz=>by rw [rK];unfold Env.kindOf;rw[aa]
 refine⟨⟨⟨_,x.toInCall.ns,λz u b9 aj bi=>?_⟩,λz c Nu=>?_,j4.loc,j4.sep,?_⟩,?_,aZ,aR,fresh⟩
 .obtain⟨e1,e2,e3⟩:=p9 bi
  rw[e1] at aj |-
  rw[<-e2,<-e3]
  exact⟨.ref a,(rL aj _ nd).trans b4,Nt⟩
 .obtain⟨_,_,ah,_⟩:=j4.cl z c Nu
  refine⟨_,x.cell z c Nu,ah,λu b9 aj bi=>?_⟩
  obtain⟨e1,e2,e3⟩:=p9 bi
  rw[e1] at aj |-
  rw[<-e2,<-e3]
  exact⟨.ref a,(uv (λe=>DS e aj rfl) _ nd).trans b4,Nt⟩
 .show cond (a9 y dM) _ _=none
  rw[pP xV];rfl
 .rcases aY with aY|aY
  .have aj:env.kindOf y=some .local:=(pX y).trans aY
   exact .loc aj _ x.toInCall.ns ((rL aj _ nd).trans b4)
  .obtain⟨c,hP⟩:=Di S n aY
   rw[<-bC] at hP
   have aj:env.kindOf y=some .cell:=(pX y).trans aY
   refine .cell aj c hP ?_
   have q:=x.cell y c hP
   rw[(uv (λe=>nomatch e.symm.trans aj) _ nd).trans b4] at q
   exact q
noncomputable def only (a b:Addr):Option Ro:=cond (Nat.beq b a) (some .loc) none
theorem Nv{a b:Addr}(h:b≠a):only a b=none:=by unfold only;rw[hn h];rfl
theorem abW{a b:Addr}(h:only a b=none):b≠a:=λe=>by
 unfold only at h
 rw[e,jF] at h
 exact nomatch h
structure Lent (prog:Program) (w:World) (H:T) (g:Gh) (h:Heap) (a:Addr) (f2:V) (O:T) (au:Gh) (h':Heap):Prop where
 X:ExtS (only a) g h au h'
 k:H.bP O
 C:Cfg prog w O au h'
 c:hE f2=true
 v:Val prog w O au h'.get? (.ref a) f2
theorem abX(NL:ta.h0.NoLimit)(S:fb prog w G ta n){fn:Fn}{v f2:V}{c8:am}(iQ:fn.ps=[y])(aJ:bv G n ⟨fn.sc,fn.bd⟩ [(y,v,true)] fn.bd H=some (.next,c8,O))(aq:a2 c8 y=some (f2,true))(Ew:kv y fn.bd=false)(ag:O.cnt<=ba){f:Value}(aL:FnOk ta.h0 K fn f)(R:Room A (n+1))(eU:g.ta=ta)(C:Cfg prog w H g s.heap)(dB:g.im a=none)(d9:a∉g.bW)(ap:hE v=true)(al:Val prog w H g s.heap.get? (.ref a) v)(ak:∀au h' aF,Lent prog w H g s.heap a f2 O au h'->Q .none {s with heap:=h',toks:=aF}):wpAny (model prog w) A (call f [.ref a]) Q E s:=by
 have Ex:=aL.par y (by rw [iQ];exact dV)
 have xV:y≠dM:=λq=>Ex.elim (λe=>(aL.sc.good _ _ e).2.2.2 q) λe=>(aL.sc.good _ _ e).2.2.2 q
 refine LP NL aL R.call eU C (by rw [iQ];exact cq _) (by rw [iQ];exact iB _) λdv env c1 ie Z=>?_
 obtain⟨m,nR⟩:=Z.cl
 have x:=Z.x
 rw[iQ] at x
 obtain⟨F,n9,aZ,aR,fresh⟩:=abV C aL.sc Z.sc nR Ex xV x dB d9 ap al
 obtain⟨aB,Dn,iR,rM⟩:=Z.x.done
 rw[iR] at F n9 aZ |-
 refine S ⟨fn.sc,fn.bd⟩ _ fn.bd H .next c8 O aJ ag (A.deeper env) env _ g _ _ _ (R.deeper env) eU Z.N aZ F λau h' aF et f X k ct Gw iP Fl St=>?_
 obtain⟨e,abY⟩:=Fl
 rw[e]
 have Y:=Eg (s:=s) Z.N ct abY Ex xV aq (St y a Ew n9)
 refine ak au h' aF ⟨⟨X.ta,X.im,λb q e=>X.new b q (rM b q e),λb q e m ao=>X.old b q (rM b q e) m ?_,?_,λb q e=>X.live b q (rM b q e)⟩,k,ct,Y.c,Y.v⟩
 .refine(Ep (abW ao)).trans ?_
  rcases bq:dw env.locals env.cells b with _|r
  .rfl
  .exact aI ((fresh b r bq).symm.trans e)
 .obtain⟨m,cC,cA⟩:=X.dd
  exact⟨m,cC,λp aS=>gU (λa o e=>⟨o,rM a o e⟩) (cA p aS)⟩
end
section
theorem abZ(cM:fb prog w G ta n)(B:Bk prog w G ta K bp mb){J c8 bg:am}{f x y:Str}{cR p q pp:Pos}{fn:Fn}{v f2:V}{bw:Fl}(aq:a2 J x=some (v,true))(hx:d6 c x=true)(aj:lk c.sc.names f=some .globalImplicit)(a6:G.fn f=some fn)(iQ:fn.ps=[y])(Ew:kv y fn.bd=false)(aa:bv G n ⟨fn.sc,fn.bd⟩ [(y,v,true)] fn.bd H=some (.next,c8,aD))(Ey:a2 c8 y=some (f2,true))(ah:bv G n c (cb J x f2 true) bu aD=some (bw,bg,O))(ag:O.cnt<=ba):
  hQ prog w ta (n+1) c J (.Expr (.Call (.Name f cR) [.Name x p] [] q) pp::bu) H bw bg O:=by
 intro A env ai g s Q E R T N C F ak
 have bz:=R.less (cG n)
 obtain⟨gl,fc⟩:=n7 hx
 have cP:=aT (lO ah (lO aa C.ok.bld).2).1.cnt ag
 obtain⟨nQ,uD,aL⟩:=B.fn f fn a6
 obtain⟨af,_,_,ef,DE⟩:=aL.ex
 rw[ef] at uD aL
 obtain⟨ad,e8,n9,ap,al,uW,_⟩:=xw N C F gl fc aq
 have Nw:=F.sep ad _ e8
 refine wpAny_execs_cons (wpAny_Expr_any ?_ (xI N) (xJ rfl _ _))
 refine Call_Name rfl (pB B C T N aj uD ?_)
 refine gi (P:=λh=>K.In h) rfl (λh X=>keeps_K DE h X) ?_
 refine args_cons (uW A p _ E ?_) rfl
 refine args_nil ⟨Cfg.gq (s:=s) C (T▸B.tp),?_⟩
 refine abX B.tj cM iQ aa Ey Ew cP aL R T C Nw.im Nw.mu ap al λaV aB bh Y=>?_
 have aR:=Y.X
 have at_:∀{b r},ai b=some r->b≠ad->∀o,s.heap.get? b=some o->aB.get? b=some o:=λe ne o aG=>aR.old _ o aG (F.sep _ _ e).mu (Nv ne)
 have ac0:ic aV aB ai:=λb r e=>by
  obtain⟨bU,bZ,o,dJ⟩:=F.sep b r e
  exact⟨(aR.new b o dJ).trans bU,λq=>bZ ((aR.bW dJ).mp q),aR.live b o dJ⟩
 exact mR (s:=s) cM ah ag bz T N ⟨⟨aR.ta,aR.im,aR.new,λb o e m ao=>aR.old b o e m (Nv λq=>aI (ao.symm.trans (q▸e8))),aR.dd,aR.live⟩,Y.k,Y.C,.refl _ _,F.put Y.k aR.le n9 e8 fc (λ_ _=>at_) ac0 Y.c Y.v,
  λz b _ gW=>gW.to F (at_ F.loc (mJ F.loc e8 nofun)) λc ap=>at_ ap (mJ ap e8 nofun)⟩ ak
abbrev Ez (G:Gl) (n:Nat) (c:Cx) (t:Expr) (b:List Stmt):V->am->T->Option (Fl×am×T):=λv J H=>od (li c t v J) λJ=>bv G n c J b H
theorem Nx{t:Expr}{b:List Stmt}(v:V)(J:am)(H:T):dm H (Ez G n c t b v J H):=λa bg O h=>by
 obtain⟨c8,_,h⟩:=bD h
 exact Eo c8 H _ _ _ h
structure ForF (prog:Program) (w:World) (ta:Ta) (A:Around) (n:Nat) (c:Cx) (cv:List V) (s:Shared) (g aV:Gh) (aD:T) (env:Env) (I:Addr) (cR:List Addr) (P:Nat->Value->Prop) (St:Nat->Heap->Prop):Prop where
 R:Room A n
 tq:g.ta=ta
 N:EnvR c.sc env
 W:Walks prog w A I cR [I] cv.length P St
 zw:∀b∈cR,b=I\/∃o,aV.im b=some o
 at_:∀i v,i<cv.length->P i v->∃u,cv[i]? =some u/\Val prog w aD aV aV.im v u
 H6:∀i h,St i h->∃o,h.get? I=some o/\itCls o
 nI:s.heap.get? I=none
structure ForAt (prog:Program) (w:World) (cv:List V) (s:Shared) (g aV:Gh) (aD:T) (env:Env) (ai:Addr->Option Ro) (I:Addr) (St:Nat->Heap->Prop) (st:Stmt) (h:Heap) (au:Gh) (cE:T) (oh:am) (lQ:Addr->Option Ro) (i:Nat):Prop where
 hi:i<=cv.length
 X:ExtS ai g s.heap au h
 Gl:aV.le au
 ks:aD.bP cE
 C:Cfg prog w cE au h
 Gw:Grow ai s.heap lQ
 F:FrR prog w cE au h env oh lQ
 ph:lQ I=none
 im:au.im I=none
 mu:I∉au.bW
 sat:St i h
 ow:∀y a,fV y 12 st=false->OwnAt env s.heap y a->OwnAt env h y a
inductive ForIn (prog:Program) (w:World) (G:Gl) (n:Nat) (c:Cx) (t:Expr) (b:List Stmt) (cv:List V) (s:Shared) (g aV:Gh) (aD:T) (env:Env) (ai:Addr->Option Ro) (I:Addr) (St:Nat->Heap->Prop) (st:Stmt) (f:Fl) (c8:am) (bS:T) (k:Nat) (bQ:Shared):Prop
 |mk (h:Heap) (aF:Nat) (au:Gh) (cE:T) (oh:am) (lQ:Addr->Option Ro) (i:Nat) (e:bQ={s with heap:=h,toks:=aF}) (gm:k=cv.length - i) (Z:ForAt prog w cv s g aV aD env ai I St st h au cE oh lQ i) (ev:je (Ez G n c t b) (cv.drop i) oh cE=some (f,c8,bS))
section
variable {t:Expr}{b:List Stmt}{cv:List V}{g aV:Gh}{aD bS:T}{I:Addr}{cR:List Addr}{P:Nat->Value->Prop}{St:Nat->Heap->Prop}{st:Stmt}{f:Fl}{c8:am}
def EA(prog:Program)(w:World)(s:Shared)(g:Gh)(aD bS:T)(env:Env)(ai:Addr->Option Ro)(st:Stmt)(f:Fl)(c8:am)(R:Result->Shared->Prop):Prop:=
 ∀h aF au et j3,ExtS ai g s.heap au h->aD.bP bS->Cfg prog w bS au h->Grow ai s.heap et->ic au h et->Dj prog w bS au h env et c8 f j3->(∀y a,fV y 12 st=false->OwnAt env s.heap y a->OwnAt env h y a)->R (.ok j3) {s with heap:=h,toks:=aF}
theorem Ny(Z:ForF prog w ta A n c cv s g aV aD env I cR P St){h au cE oh lQ i}(K:ForAt prog w cv s g aV aD env ai I St st h au cE oh lQ i){xW:Addr->Option Ro}{aB a8:Heap}{cD:Gh}(X:ExtS xW au aB cD a8)(hI:xW I=none)(p2:ic au aB xW)(st:St j aB):St j a8:=
 Z.W.frame _ _ _ st λd aQ o e=>(Z.zw d aQ).elim (λq=>q▸X.old I o (q▸e) K.mu hI) λq=>q.elim λb9 bq=>by
  have e2:=K.Gl.im _ _ bq
  refine X.old _ o e (λq=>aI ((K.C.tok.out _ q).symm.trans e2)) ?_
  rcases q:xW d with _|r
  .rfl
  .exact aI ((p2 d r q).im.symm.trans e2)
theorem ac1(cM:fb prog w G ta n)(Z:ForF prog w ta A n c cv s g aV aD env I cR P St)(cP:bS.cnt<=ba){R:Result->Shared->Prop}(r9:∀{y},fV y 12 st=false->o8 y t=false/\kv y b=false)(j0:EA prog w s g aD bS env ai st f c8 R){bQ:Shared}(hI:ForIn prog w G n c t b cv s g aV aD env ai I St st f c8 bS k bQ):codeAny (model prog w) A (.forLoop t (.ref I) b [] env) R bQ:=by
 refine codeAny_forLoop_any (ForIn prog w G n c t b cv s g aV aD env ai I St st f c8 bS) (λk bQ hI=>?_) k hI
 obtain⟨h,aF,au,cE,oh,lQ,i,e,gm,K,ev⟩:=hI
 have kH:au.ta=ta:=K.X.ta.trans Z.tq
 rw[e]
 rcases oP i cv.length with fJ|D7
 .rw[Ii fJ] at ev
  obtain⟨j1,EB,n5,a1,EC⟩:=Em ev
  obtain⟨ac2,ao,xg⟩:=bD a1
  refine Z.W.item i _ _ _ fJ K.sat λv a8 b8 D4 uO p1=>?_
  have ext:∀a o,a≠I->h.get? a=some o->a8.get? a=some o:=λa o ne e=>p1 a o (λq=>ne (dG q)) e
  obtain⟨u,bG,hV⟩:=Z.at_ i v fJ D4
  rw[oI fJ] at bG
  rw[<-Option.some.inj bG] at hV
  obtain⟨uN,uS,ac3⟩:=Z.H6 _ _ uO
  have cn:=K.X.own Z.nI ext
  have b3:=K.C.own K.im K.mu ext
  have gj:=K.F.apart K.ph ext
  have iT:=hV.mono K.ks K.Gl K.Gl.im
  refine abd (s:={s with heap:=a8,toks:=b8}) ao iT uS ac3 ?_
  refine abb (s:={s with heap:=a8,toks:=b8}) Z.R Z.N ao b3 gj iT λbN gX Y=>?_
  have Nz:=cn.trans Y.X K.Gw
  have ED:bN.get? I=some uN:=Y.X.old _ _ uS K.mu K.ph
  have ac4:St (i+1) bN:=Ny Z K Y.X K.ph gj.sep uO
  have mb:=lO xg K.C.ok.bld
  have ac5:n5.cnt<=ba:=En (λJ H=>wS Nx) EC mb.2 cP
  refine cM c ac2 b cE j1 EB n5 xg ac5 A env lQ au {s with heap:=bN,toks:=gX} _ _ Z.R kH Z.N Y.C Y.F λr4 b5 g0 NA j3 hO mM f5 NB ac6 xX ac7=>?_
  have NC:=Nz.trans hO K.Gw
  have uU:=K.Gw.trans Nz NB
  have own:∀y a,fV y 12 st=false->OwnAt env s.heap y a->OwnAt env b5 y a:=λy a aY q=>ac7 y a (r9 aY).2 (Y.st y a (r9 aY).1 ((K.ow y a aY q).step K.F (λr e=>aI (K.ph.symm.trans e)) ext))
  rcases j1 with _|v
  .obtain⟨e,mN⟩:=xX
   rw[e]
   exact⟨_,gm▸Iq _ _ fJ,b5,g0,r4,n5,EB,NA,i+1,rfl,rfl,⟨fJ,NC,K.Gl.trans hO.le,K.ks.trans mM,f5,uU,mN,NB.no ED K.ph,(hO.new I uN ED).trans K.im,λq=>K.mu ((hO.bW ED).mp q),Ny Z K hO K.ph Y.F.sep ac4,own⟩,EC⟩
  .obtain⟨z,e,_⟩:=id xX
   rw[e] at xX |-
   revert cP j0
   exact rr (show some (Fl.ret v,EB,n5)=some (f,c8,bS) from EC) (P:=λf c8 bS=>bS.cnt<=ba->EA prog w s g aD bS env ai st f c8 R->_) λ_ j0=>j0 b5 g0 r4 NA _ NC (K.ks.trans mM) f5 uU ac6 xX own
 .have ig:=tw K.hi D7
  rw[ig,zR] at ev
  refine Z.W.done _ _ _ (ig▸K.sat) λa8 b8 p1=>wpAny_execs_nil ?_
  have ext:∀a o,a≠I->h.get? a=some o->a8.get? a=some o:=λa o ne e=>p1 a o (λq=>ne (dG q)) e
  have gj:=K.F.apart K.ph ext
  revert cP j0
  exact rr (show some (Fl.next,oh,cE)=some (f,c8,bS) from ev) (P:=λf c8 bS=>bS.cnt<=ba->EA prog w s g aD bS env ai st f c8 R->_) λ_ j0=>j0 a8 b8 au lQ .next (K.X.own Z.nI ext) K.ks (K.C.own K.im K.mu ext) K.Gw gj.sep ⟨rfl,gj⟩ λy a aY q=>(K.ow y a aY q).step K.F (λr e=>aI (K.ph.symm.trans e)) ext
end
set_option backward.match.sparseCases true in
theorem ac8(p4:rY prog w G ta n)(cM:fb prog w G ta n){t it:Expr}{b:List Stmt}{cv:List V}{bw:Fl}(aa:gA G n c J it H=some (cv,aD))(h:thn (je (Ez G n c t b) cv J aD) (λJ H=>bv G n c J bu H)=some (bw,bg,O))(ag:O.cnt<=ba):
  hQ prog w ta (n+1) c J (.For t it b [] pp::bu) H bw bg O:=by
 intro A env ai g s Q E R T N C F ak
 have bz:=R.less (cG n)
 obtain⟨f,c8,bS,ah,aC⟩:=Em h
 have cC:=(gT G n n (cq _)).i c J it H _ _ aa C.ok.bld
 have cA:=wS Nx _ _ _ ah cC.2
 have cP:bS.cnt<=ba:=En Eo aC cA.2 ag
 have r9:∀{y},fV y 12 (.For t it b [] pp)=false->o8 y t=false/\kv y b=false:=λ{y} aY=>by
  have q:=gI (show (o8 y t||b.any (fV y 11)||([]:List Stmt).any (fV y 11))=false from aY)
  exact⟨(gI q.1).1,Ee (gI q.1).2⟩
 refine wpAny_execs_cons (wpAny_For ?_ (MS aa env))
 refine p4 c J it H cv aD aa (aT cA.1.cnt cP) A env ai g s _ E bz T N C F λaV aB bh xH aR k₁ aZ Eb=>?_
 obtain⟨I,cR,P,St,e,hH,iK,Dc,ac9,W,aca,acb,acd,ace⟩:=Eb
 rw[e]
 refine ac1 cM (st:=.For t it b [] pp) (ai:=ai) (f:=f) (c8:=c8) (bS:=bS) (s:=s) ⟨bz,T,N,W,acb,ace,acd,hH⟩ cP r9 (λa8 b8 cD abt j3 X k ct Gw iP Fl own=>?_) (k:=cv.length)
  ⟨aB,bh,aV,aD,J,ai,0,rfl,rfl,⟨iB _,aR.toS ai,.refl _,.refl _,aZ,.refl _ _,F.ext k₁ aR aZ.bn,F.no hH,Dc,ac9,aca,λy a _ q=>q.ext F aR⟩,ah⟩
 exact Nd (s:=s) (st:=.For t it b [] pp) cM aC ag bz T N X (k₁.trans k) ct Gw iP Fl own ak (P:=λj3=>match j3 with| .next=>wpAny (model prog w) A (execs bu env) Q E {s with heap:=a8,toks:=b8}|f=>Q f {s with heap:=a8,toks:=b8}) id λ_=>id
end
inductive XkI (e:Expr):Xk->Prop
 |i3 (x m:Str) (a:Expr) (p mp q:Pos) (h:e= .Call (.Attribute (.Name x p) m mp) [a] [] q):XkI e (.i3 x m a (mp.endLine==q.line))
 |fn (f x:Str) (cR p q:Pos) (h:e= .Call (.Name f cR) [.Name x p] [] q):XkI e (.fn f x)
 |eo:XkI e .eo
theorem acf(a:Expr)(q:Pos)(f:Expr):XkI (.Call f [a] [] q) (Cp a q f):=by
 rcases f
 case Attribute o m mp=>
  show XkI _ (match ek o with|some x=> .i3 x m a (mp.endLine==q.line)|none=> .eo)
  rcases e:ek o with _|x
  .exact .eo
  .obtain⟨p,e⟩:=jS e
   rw[e];exact .i3 x m a p mp q rfl
 case Name f cR=>
  show XkI _ (match ek a with|some x=> .fn f x|none=> .eo)
  rcases e:ek a with _|x
  .exact .eo
  .obtain⟨p,e⟩:=jS e
   rw[e];exact .fn f x cR p q rfl
 all_goals exact .eo
theorem acg(e:Expr):XkI e (wA e):=by
 rcases e
 case Call f as ks q=>
  rcases ks with _|_
  .show XkI _ (match fD as with|some a=>Cp a q f|none=> .eo)
   rcases e:fD as with _|a
   .exact .eo
   .rw[nN e];exact acf a q f
  .exact .eo
 all_goals exact .eo
inductive AkI (cO:List Expr):Ak->Prop
 |nm (x:Str) (p:Pos) (h:cO=[.Name x p]):AkI cO (.nm x)
 |sub (x:Str) (k:Expr) (xp p:Pos) (h:cO=[.Subscript (.Name x xp) k p]):AkI cO (.sub x k)
 |att (x a:Str) (xp p:Pos) (h:cO=[.Attribute (.Name x xp) a p]):AkI cO (.att x a)
 |bad:AkI cO .bad
theorem ach(t:Expr):AkI [t] (JT t):=by
 rcases t
 case Name x p=>exact .nm x p rfl
 case Subscript b k p=>
  show AkI _ (match ek b with|some x=> .sub x k|none=> .bad)
  rcases e:ek b with _|x
  .exact .bad
  .obtain⟨q,e⟩:=jS e
   rw[e];exact .sub x k q p rfl
 case Attribute b a p=>
  show AkI _ (match ek b with|some x=> .att x a|none=> .bad)
  rcases e:ek b with _|x
  .exact .bad
  .obtain⟨q,e⟩:=jS e
   rw[e];exact .att x a q p rfl
 all_goals exact .bad
theorem ND:∀cO:List Expr,AkI cO (rt cO)
 |[]=> .bad
 |[t]=>ach t
 |_::_::_=> .bad
section
variable {bw:Fl}
theorem EE(S:cx prog w G ta n)(cM:fb prog w G ta n)(ap:pb e=false)(h:ob (aN G n c J e H) (λ_ H=>bv G n c J bu H)=some (bw,bg,O))(ag:O.cnt<=ba):hQ prog w ta (n+1) c J (.Expr e pp::bu) H bw bg O:=by
 obtain⟨v,aD,aa,ah⟩:=b1 h
 exact abp S cM ap aa ah ag
theorem aci(S:cx prog w G ta n)(cM:fb prog w G ta n){x m:Str}{a:Expr}{p mp q:Pos}{l:List V}(aq:a2 J x=some (.list l,true))(h:Cv c J (aN G n c J) (λJ H=>bv G n c J bu H) x m a (mp.endLine==q.line) l H=some (bw,bg,O))(ag:O.cnt<=ba):
  hQ prog w ta (n+1) c J (.Expr (.Call (.Attribute (.Name x p) m mp) [a] [] q) pp::bu) H bw bg O:=by
 obtain⟨hx,h⟩:=br h
 obtain⟨hx,dS⟩:=aK hx
 rcases eA h with ⟨av,h⟩|⟨_,h⟩
 .obtain⟨v,aD,aa,h⟩:=b1 h
  obtain⟨a6,h⟩:=br h
  rw[sEq_iff.mp av]
  exact abm S cM aq hx dS aa a6 h ag
 .obtain⟨av,h⟩:=br h
  obtain⟨v,aD,aa,h⟩:=b1 h
  obtain⟨k,e,h⟩:=bD h
  obtain⟨a6,h⟩:=br h
  rw[t6 e] at aa
  rw[sEq_iff.mp av]
  exact abo S cM aq hx dS aa a6 h ag
theorem acj(cM:fb prog w G ta n)(B:Bk prog w G ta K bp mb){f x:Str}{cR p q:Pos}{fn:Fn}{v:V}(aq:a2 J x=some (v,true))(hx:(d6 c x&&gy c f)=true)(a6:G.fn f=some fn)(h:J6 J (λJ H=>bv G n c J bu H) (λfn J H=>bv G n ⟨fn.sc,fn.bd⟩ J fn.bd H) x v H fn=some (bw,bg,O))(ag:O.cnt<=ba):hQ prog w ta (n+1) c J (.Expr (.Call (.Name f cR) [.Name x p] [] q) pp::bu) H bw bg O:=by
 obtain⟨y,iQ,h⟩:=bD h
 obtain⟨av,h⟩:=br h
 obtain⟨j1,c8,aD,aa,h⟩:=rq h
 rcases j1 with _|_
 .obtain⟨f2,Ey,h⟩:=bD h
  exact abZ cM B aq (aK hx).1 (rA (aK hx).2) a6 (nN iQ) (Bool.ti (aK av).2) aa (Mj Ey) h ag
 .exact aI h
theorem ack(S:cx prog w G ta n)(cM:fb prog w G ta n)(B:Bk prog w G ta K bp mb)(h:Cy G c J (aN G n c J) (λJ H=>bv G n c J bu H) (λfn J H=>bv G n ⟨fn.sc,fn.bd⟩ J fn.bd H) e H (wA e)=some (bw,bg,O))(ag:O.cnt<=ba):hQ prog w ta (n+1) c J (.Expr e pp::bu) H bw bg O:=by
 have k:=acg e
 generalize wA e=q at h k
 rcases k with ⟨x,m,a,p,mp,q,e1⟩|⟨f,x,cR,p,q,e1⟩|_
 .have h:wH c J (aN G n c J) (λJ H=>bv G n c J bu H) x m a e (mp.endLine==q.line) H (pc J x)=some (bw,bg,O):=h
  rcases e2:pc J x with _|l<;>rw[e2] at h
  .exact EE S cM (e1▸rfl) h ag
  .rw[e1];exact aci S cM (Zp e2) h ag
 .have h:wI c J (aN G n c J) (λJ H=>bv G n c J bu H) G (λfn J H=>bv G n ⟨fn.sc,fn.bd⟩ J fn.bd H) f x e H (nG J x)=some (bw,bg,O):=h
  rcases e2:nG J x with _|v<;>rw[e2] at h
  .exact EE S cM (e1▸rfl) h ag
  .obtain⟨hx,h⟩:=br h
   obtain⟨fn,a6,h⟩:=bD h
   rw[e1];exact acj cM B (Mj e2) hx a6 h ag
 .obtain⟨ap,h⟩:=br h
  exact EE S cM (Bool.ti ap) h ag
theorem acl(S:cx prog w G ta n)(p6:r7 prog w G ta n)(p7:mQ prog w G ta n)(cM:fb prog w G ta n)(B:Bk prog w G ta K bp mb)(lP:hp K ta.fg fT=true){cO:List Expr}(h:Cw c J (aN G n c J) (λJ H=>bv G n c J bu H) e H (rt cO)=some (bw,bg,O))(ag:O.cnt<=ba):
  hQ prog w ta (n+1) c J (.Assign cO e pp::bu) H bw bg O:=by
 have k:=ND cO
 generalize rt cO=q at h k
 rcases k with ⟨x,p,e1⟩|⟨x,k,xp,p,e1⟩|⟨x,a,xp,p,e1⟩|_
 .obtain⟨hx,h⟩:=br h
  obtain⟨v,aD,aa,h⟩:=b1 h
  obtain⟨aG,h⟩:=br h
  rw[e1];exact abQ S p6 p7 cM hx aa aG h ag
 .obtain⟨v,aD,aa,h⟩:=b1 h
  obtain⟨l,aq,h⟩:=bD h
  obtain⟨hx,h⟩:=br h
  obtain⟨i,bS,ah,h⟩:=b1 h
  obtain⟨a6,h⟩:=br h
  obtain⟨cK,aC,h⟩:=bD h
  rw[e1];exact abC S cM aa (Zq aq) hx ah a6 aC h ag
 .obtain⟨v,aD,aa,h⟩:=b1 h
  obtain⟨d,aq,h⟩:=bD h
  obtain⟨k,e2,h⟩:=bD h
  obtain⟨ap,h⟩:=br h
  obtain⟨ap,aX⟩:=aK ap
  obtain⟨ap,_⟩:=aK ap
  obtain⟨ap,_⟩:=aK ap
  have aq:=Mi aq
  rw[Wz e2] at aq
  rw[e1,sEq_iff.mp (aK ap).2];exact abU S cM B lP aa aq (aK ap).1 aX h ag
 .exact aI h
theorem acm(S:cx prog w G ta n)(a7:iS prog w G ta n)(p4:rY prog w G ta n)(p6:r7 prog w G ta n)(p7:mQ prog w G ta n)(cM:fb prog w G ta n)(B:Bk prog w G ta K bp mb)(lP:hp K ta.fg fT=true):fb prog w G ta (n+1):=by
 intro c J cB H bw bg O h ag
 show hQ prog w ta (n+1) c J cB H bw bg O
 rcases cB with _|⟨st,bu⟩
 .intro A env ai g s Q E R T N C F ak
  revert ak
  exact rr (show some (Fl.next,J,H)=some (bw,bg,O) from h) (P:=λbw bg O=>lG prog w ai H g s env [] bg O bw Q->_) λak=>wpAny_execs_nil (ak g s.heap s.toks ai .next (.refl ..) (.refl _) C (.refl _ _) F.sep ⟨rfl,F⟩ λy a _ q=>q)
 .rcases st
  case Expr=>exact ack S cM B h ag
  case Assign=>exact acl S p6 p7 cM B lP h ag
  case If=>
   obtain⟨x,aD,aa,h⟩:=b1 h
   exact abr a7 cM aa h ag
  case For t it b o p=>
   obtain⟨aG,h⟩:=br h
   obtain⟨l,aD,aa,h⟩:=b1 h
   rw[List.isEmpty_iff.mp aG]
   exact ac8 p4 cM aa h ag
  case Return=>exact aby S h ag
  all_goals exact aI h
end
section
structure SAll (prog:Program) (w:World) (G:Gl) (ta:Ta) (K:Frag) (n:Nat):Prop where
 e:cx prog w G ta n
 t:iS prog w G ta n
 o:uB prog w G ta n
 i:rY prog w G ta n
 c:nP prog w G ta K n
 s:fb prog w G ta n
 u:mQ prog w G ta n
 d:r7 prog w G ta n
theorem EF(B:Bk prog w G ta K bp mb)(P:Prm prog w ta K bp)(lP:hp K ta.fg fT=true):∀n,SAll prog w G ta K n
 |0=>⟨λ_ _ _ _ _ _ h=>aI h,λ_ _ _ _ _ _ h=>aI h,λ_ _ _ _ _ _ h=>aI h,λ_ _ _ _ _ _ h=>aI h,λ_ _ _ _ _ h=>aI h,λ_ _ _ _ _ _ _ h=>aI h,λ_ _ _ _ _ _ _ _ _ _ h=>aI h,λ_ _ _ _ _ _ _ h=>aI h⟩
 |n+1=>by
  have U:=EF B P lP n
  have u:=ab5 U.e U.t U.i
  exact⟨aa7 U.e U.t U.o U.c (ab6 u) B P,Y7 U.e U.t,Y8 U.e,aag U.e B,Y5 B.tj U.s,acm U.e U.t U.i U.d U.u U.s B lP,u,ab9 U.e u⟩
end
theorem NE(h:n<=m){v:V}(k:rk n v=true):rk m v=true:=by
 rcases v
 case int=>exact iLt_iff.mpr (Int.lt_of_lt_of_le (iLt_iff.mp k) (Int.ofNat_le.mpr h))
 all_goals exact k
theorem acn(h:n<=m):∀{d:Nat}{v:V},V.key n d v=true->V.key m d v=true
 |0,_,k=>NE h k
 |d+1,v,k=>by
  have k:nE (rk n v) (V.key n d) (kp v)=true:=k
  show nE (rk m v) (V.key m d) (kp v)=true
  rcases e:kp v with _|l<;>rw[e] at k
  .exact NE h k
  .exact List.all_eq_true.mpr λx hx=>acn h (List.all_eq_true.mp k x hx)
theorem NF{x:V}(aS:V.plain x=true):∀{l:List V}{n:Nat},dL x l n=none->dL x (l++[x]) n=some (n+l.length)
 |[],n,_=>by
  show dL x (x::[]) n=_
  rw[mo,V.same_self aS];rfl
 |y::r,n,h=>by
  show dL x (y::(r++[x])) n=_
  rw[mo] at h |-
  rcases e:V.same y x with _|_<;>rw[e] at h
  .exact(NF aS (l:=r) h).trans (by rw [kk,jE,jG 1])
  .exact nomatch h
theorem sh{α:Type}{a b:α}{l:List α}(h:a∈l++[b]):a∈l\/a=b:=(List.mem_append.mp h).imp id dG
structure NewR (H:T) (row:V) (O:T):Prop where
 e1:O.base++O.dyn=(H.base++H.dyn)++[row]
 le:H.bP O
 ok:O.Ok
 cnt:O.cnt=H.cnt+1
 e2:O.decls=H.decls
 e3:O.bounds=H.bounds
theorem um{a b c:Nat}(h:a+b<=64+c):a+1+b<=64+(c+1):=by lia
theorem qa{a b c:Nat}(h:a+b<=64+c):a+(b+1)<=64+(c+1):=by lia
theorem aco{a c:Nat}(h:a<=64+c):a+1<=64+(c+1):=gr h
theorem NG(h:H.bld=true):H.kb=64:=by unfold T.kb;rw[h]
theorem acp(aL:H.Ok){row:V}(ao:H.bld=true)(aj:gw row=true/\V.key H.kb 4 row=true)(le:H.bP {H with base:=H.base++[row],cnt:=H.cnt+1}):NewR H row {H with base:=H.base++[row],cnt:=H.cnt+1}:=by
 have aQ:=aL.bld ao
 have e1:(H.base++[row])++H.dyn=(H.base++H.dyn)++[row]:=by rw [aQ,eh,eh]
 refine⟨e1,le,⟨aL.plain,aL.met,λr aq=>?_,λ_=>aQ,?_,aL.once,?_⟩,rfl,rfl,rfl⟩
 .rw[NG (H:={H with base:=H.base++[row],cnt:=H.cnt+1}) ao,<-NG ao]
  exact(sh (e1▸aq)).elim (aL.key r) λq=>q▸aj
 .show (H.base++[row]).length+H.dyn.length<=64+(H.cnt+1)
  rw[d5];exact um aL.size
 .show (H.base++[row]).length<=64+(H.cnt+1)
  rw[d5];exact aco aL.small
theorem acq(aL:H.Ok){row:V}(ao:H.bld=false)(aj:gw row=true/\V.key H.kb 4 row=true)(di:V.plain row=true)(av:rl row=true)(nd:row∉H.dyn)(le:H.bP {H with dyn:=H.dyn++[row],cnt:=H.cnt+1}):NewR H row {H with dyn:=H.dyn++[row],cnt:=H.cnt+1}:=by
 have e1:H.base++(H.dyn++[row])=(H.base++H.dyn)++[row]:=(iA ..).symm
 refine⟨e1,le,⟨λr aq=>(sh aq).elim (aL.plain r) λq=>q▸di,λr aq=>(sh aq).elim (aL.met r) λq=>q▸av,λr aq=>(sh (e1▸aq)).elim (aL.key r) λq=>q▸aj,(λb=>nomatch (ao.symm.trans b)),?_,?_,tt aL.small⟩,rfl,rfl,rfl⟩
 .show H.base.length+(H.dyn++[row]).length<=64+(H.cnt+1)
  rw[d5];exact qa aL.size
 .exact List.nodup_append.mpr ⟨aL.once,List.nodup_cons.mpr ⟨kj,.nil⟩,λa aw b ao e=>nd ((e.trans (dG ao))▸aw)⟩
inductive PutR (H:T) (row v:V) (O:T):Prop
 |old (i:Nat) (h:(H.base++H.dyn)[i]? =some row) (c:bI O v=some (.int (i:Int))) (e:O=H\/O={H with cnt:=H.cnt+1})
 |new (n:row∉H.base++H.dyn) (c:bI O v=some (.int ((H.base++H.dyn).length:Nat))) (N:NewR H row O)
structure PutI (H:T) (row v:V) (O:T):Prop where
 tup:gw row=true
 key:V.key H.kb 4 row=true
 r:PutR H row v O
theorem NH{r:V}(h:dL r H.dyn 0=some i):bI H (.ty r)=some (.int ((H.base.length+i:Nat):Int)):=by
 show od (dL r H.dyn 0) _=_
 rw[h];rfl
theorem acr(aL:H.Ok){row v:V}(ap:bI H row=some d)(h:H.put row=some (v,O)):PutI H row v O:=by
 have si:=(wQ _ _ h aL.bld).1
 obtain⟨aj,h⟩:=br h
 have aj:=aK aj
 have di:=Lp aL aj.2 ap
 refine⟨aj.1,aj.2,?_⟩
 revert si
 rcases a6:dL row H.base 0 with _|i<;>rw[a6] at h
 .have hn:=t8 di a6
  rcases eA h with ⟨ao,h⟩|⟨ao,h⟩
  .refine pI h (P:=λv O=>H.bP O->PutR H row v O) λsi=>?_
   have e:H.base++H.dyn=H.base:=by rw [aL.bld ao,eh]
   exact .new (e.symm▸hn) (by rw [e];rfl) (acp aL ao aj si)
  .obtain⟨av,h⟩:=br h
   rcases sj:dL row H.dyn 0 with _|j<;>rw[sj] at h
   .have nd:=t8 di sj
    refine pI h (P:=λv O=>H.bP O->PutR H row v O) λsi=>?_
    refine .new (λq=>(List.mem_append.mp q).elim hn nd) ?_ (acq aL ao aj di av nd si)
    rw[NH (NF di sj),d5,mf]
   .obtain⟨k,e,hx⟩:=t7 sj
    refine pI h (P:=λv O=>H.bP O->PutR H row v O) λsi=>?_
    rw[e,mf] at sj
    exact .old (H.base.length+k) (by rw [nh (eZ _ _),tl];exact hx) (NH (H:={H with cnt:=H.cnt+1}) sj) (.inr rfl)
 .obtain⟨k,e,hx⟩:=t7 a6
  refine pI h (P:=λv O=>H.bP O->PutR H row v O) λ_=>?_
  rw[e,mf]
  exact .old k (by rw [mc (List.getElem?_eq_some_iff.mp hx).1];exact hx) rfl (.inl rfl)
theorem acs(aL:H.Ok):({H with cnt:=H.cnt+1}:T).Ok:=⟨aL.plain,aL.met,aL.key,aL.bld,tt aL.size,aL.once,tt aL.small⟩
theorem NI(H:T):H.bP {H with cnt:=H.cnt+1}:=⟨.inl rfl,⟨[],(eh _).symm⟩,cG _,cq _,rfl⟩
structure N6 (a b c d e f:Addr):Prop where
 ab:a≠b
 ac:a≠c
 ad:a≠d
 ae:a≠e
 af:a≠f
 bc:b≠c
 bd:b≠d
 be:b≠e
 bf:b≠f
 cd:c≠d
 ce:c≠e
 cf:c≠f
 de:d≠e
 df:d≠f
 ef:e≠f
theorem act{a b c d e f:Addr}(h:[a,b,c,d,e,f].Nodup):N6 a b c d e f:=by
 rcases h with _|⟨aa,_|⟨ah,_|⟨aC,_|⟨bC,_|⟨ee,_⟩⟩⟩⟩⟩
 exact⟨aa _ (.head _),aa _ (.tail _ (.head _)),aa _ (.tail _ (.tail _ (.head _))),aa _ (.tail _ (.tail _ (.tail _ (.head _)))),aa _ (.tail _ (.tail _ (.tail _ (.tail _ (.head _))))),ah _ (.head _),ah _ (.tail _ (.head _)),ah _ (.tail _ (.tail _ (.head _))),ah _ (.tail _ (.tail _ (.tail _ (.head _)))),
  aC _ (.head _),aC _ (.tail _ (.head _)),aC _ (.tail _ (.tail _ (.head _))),bC _ (.head _),bC _ (.tail _ (.head _)),ee _ (.head _)⟩
section
theorem TOK.six(D:TOK prog w H g h):N6 g.ta.rows g.ta.idx g.ta.decls g.ta.du g.ta.dfl g.ta.ew:=by
 have nd:=D.nd
 unfold Gh.bW at nd
 exact act (List.nodup_append.mp nd).1
theorem xY{a c aP:Nat}(h:a<=64+c)(k:c<=aP):a<=64+aP:=aT h (dh k 64)
theorem Cfg.state(C:Cfg prog w H g h)(le:H.bP O)(aL:O.Ok)(e1:O.base++O.dyn=H.base++H.dyn)(e2:O.decls=H.decls)(e3:O.bounds=H.bounds):Cfg prog w O g h:=by
 have D:=C.tok
 have i:∀{a:Addr}(o:Obj),h.get? a=some o->h.get? a=some o:=λ_ e=>e
 have j:∀a o,g.im a=some o->g.im a=some o:=λ_ _ e=>e
 exact⟨C.bn,C.base,aL,⟨D.tab,D.cU,D.host,D.hv,D.rows.to rfl j le e1 i,D.idx.to rfl j le e1 i,D.k2,D.decls.to rfl rfl (congrArg _ e2) i,λk p aS=>(D.decl k p aS).to rfl j le (by rw [e2]) i,D.du.to rfl e3 i,D.dfl.to (dW (congrArg _ e3.symm)) i,D.ew.to (dW (congrArg _ e3.symm)) i,D.nd,D.out⟩,
  ⟨e2▸xY C.line.1 le.cnt,e3▸xY C.line.2 le.cnt⟩,C.mods⟩
open Classical in
theorem Cfg.row(C:Cfg prog w H g h){row:V}{pz NJ:Addr}{t:Tok}{vs:Array Value}{db:Nat}{a4:List (PyData×Addr×Value)}(N:NewR H row O)(ap:bI H row=some d)(aq:Rd g.im (.ref pz) d)(acu:Rd g.im (.ref NJ) d)(acv:fG 6 d=true)(hm:RdL g.im vs.toList (a4.map (·.1)))(acw:h'.get? g.ta.rows=some (listOf (vs.push (.ref NJ)) db))(NK:bX H (H.base++H.dyn)=some (a4.map (·.1)))(acx:∀(i:Nat)(x:PyData×Addr×Value),a4[i]? =some x->∃t,x.2.2= .int i t)(acy:∀x∈a4,Rd g.im (.ref x.2.1) x.1/\fG 6 x.1=true)(acz:h'.DictOfH (kB prog w) g.ta.idx (a4++[(d,pz,Value.int ((H.base++H.dyn).length:Nat) t)]))(aj:∀a o,a≠g.ta.rows->a≠g.ta.idx->h.get? a=some o->h'.get? a=some o):Cfg prog w O g h':=by
 have D:=C.tok
 have le:=N.le
 have S:=D.six
 have cj:=D.apart
 have cons:bX O (O.base++O.dyn)=some (a4.map (·.1)++[d]):=by rw [N.e1];exact xz (mq le NK) (pi le ap)
 have j:∀a o,g.im a=some o->g.im a=some o:=λ_ _ e=>e
 have len:a4.length=(H.base++H.dyn).length:=(eQ ..).symm.trans (rF NK)
 have gn:H.bounds.length<=O.bounds.length:=dW (congrArg _ N.e3.symm)
 refine⟨λa o e=>aj a o (λq=>aI ((D.out _ (jD _ in1)).symm.trans (q▸e))) (λq=>aI ((D.out _ (jD _ uZ)).symm.trans (q▸e))) (C.bn a o e),C.base,N.ok,⟨D.tab,D.cU,D.host,D.hv,?_,?_,D.k2,D.decls.to rfl rfl (congrArg _ N.e2) λo=>aj _ o S.ac.symm S.bc.symm,λk p aS=>?_,
  D.du.to rfl N.e3 λo=>aj _ o S.ad.symm S.bd.symm,D.dfl.to gn λo=>aj _ o S.ae.symm S.be.symm,D.ew.to gn λo=>aj _ o S.af.symm S.bf.symm,D.nd,D.out⟩,⟨N.e2▸xY C.line.1 le.cnt,N.e3▸xY C.line.2 le.cnt⟩,C.mods⟩
 .exact⟨_,db,_,acw,by rw [oM];exact hm.append (.cons acu .nil),cons⟩
 .obtain⟨o,es,ca,a,b,c,d1,_,e⟩:=acz
  refine⟨o,es,ca,_,a,b,c,d1,e,λx hx=>(sh hx).elim (acy x) λq=>q▸⟨aq,acv⟩,by rw [cons,nj];rfl,λi x hx=>?_⟩
  rcases oP i a4.length with q|q
  .exact acx i x (by rwa [mc q] at hx)
  .rw[nh q] at hx
   have z:i - a4.length=0:=Nat.lt_one_iff.mp (List.getElem?_eq_some_iff.mp hx).1
   rw[z] at hx
   rw[<-Option.some.inj (show some (d,pz,Value.int ((H.base++H.dyn).length:Nat) t)=some x from hx),<-len,tw (Io z) q]
   exact⟨t,rfl⟩
 .have mi:p.2∈g.dd.map (·.2):=tm (oK aS)
  exact(D.decl k p aS).to rfl j le (by rw [N.e2]) λo=>aj _ o (cj.ne _ in1 _ mi).symm (cj.ne _ uZ _ mi).symm
end
noncomputable def fnPut:Fn:=⟨c5 54 2,[]⟩
def eV:=an "self"
def j5:=an "row"
def kJ:=an "t"
def mT(row:V):am:=[(eV,.tab,false),(j5,row,false)]
theorem acA(row:V):o9 fnPut.ps [.tab,row] fnPut.dfl=some (mT row):=by rfl'
theorem u0:lk fnPut.sc.names eV=some .local:=by rfl'
theorem NM:lk fnPut.sc.names j5=some .local:=by rfl'
theorem lk_t:lk fnPut.sc.names kJ=some .local:=by rfl'
theorem acB:lk fnPut.sc.names dy=some .globalImplicit:=by rfl'
theorem EG(row:V):a2 (mT row) eV=some (.tab,false):=by rfl'
theorem NN(row:V):a2 (mT row) j5=some (row,false):=by rfl'
theorem Ext.mut{cu h h':Heap}(X:Ext g cu g h){b:Addr}(ao:b∈g.bW)(aJ:∀a o,a≠b->h.get? a=some o->h'.get? a=some o)(ag:∃o,h'.get? b=some o):Ext g cu g h':=
 ⟨X.ta,X.im,X.new,λa o e m=>aJ a o (λq=>m (q▸ao)) (X.old a o e m),X.dd,λa o e=>(eR (a=b)).elim (λq=>q▸ag) λq=>(X.live a o e).elim λb9 gc=>⟨b9,aJ a b9 q gc⟩⟩
theorem EH(h:n<=sizeLine):(n:Int)<2^63:=Int.lt_of_le_of_lt (Int.ofNat_le.mpr h) (by decide)
theorem NO{c:Prop}[Decidable c]{P Q:Prop}(h:c)(p:P):if c then P else Q:=by rw [if_pos h];exact p
theorem NP{c:Prop}[Decidable c]{P Q:Prop}(h:¬c)(q:Q):if c then P else Q:=by rw [if_neg h];exact q
inductive NameAt (env:Env) (h:Heap) (y:Str) (v:Value):Prop
 |mk (k:env.kindOf y=some .local) (m:Str->Option Value) (n:h.Ns env.locals m) (e:m y=some v)
theorem NameAt.keep{v:Value}(p:NameAt env h y v)(k:∀o,h.get? env.locals=some o->h'.get? env.locals=some o):NameAt env h' y v:=by
 obtain⟨a,m,⟨o,es,ca,e,r⟩,c⟩:=p
 exact⟨a,m,⟨o,es,ca,k o e,r⟩,c⟩
section
variable {v:Value}
theorem acC(N:EnvR sc env)(F:FrR prog w H g h env J ai)(aj:lk sc.names x=some .local)(aq:a2 J x=some (u,false)):∃z,Val prog w H g g.im z u/\NameAt env h x z:=by
 obtain⟨m,aX,al⟩:=F.ns
 obtain⟨z,aa,ah⟩:=al x u false (N.loc x aj) aq
 exact⟨z,ah,N.loc x aj,m,aX,aa⟩
theorem NameAt.ld(P:NameAt env s.heap x v)(N:EnvR sc env)(aj:lk sc.names x=some .local)(ak:Q v s):wpAny (model prog w) A (eval (.Name x p) env) Q E s:=by
 obtain⟨k,m,aX,e⟩:=P
 exact wpAny_Name (wpAny_loadName_local N.kind k aX e ak) (ia N aj)
structure Kept (prog:Program) (w:World) (H:T) (g:Gh) (env:Env) (J:am) (ai:Addr->Option Ro) (x:Str) (v:Value) (h h':Heap):Prop where
 X:ExtS ai g h g h'
 C:Cfg prog w H g h'
 F:FrR prog w H g h' env J ai
 at_:NameAt env h' x v
 ext:∀a o,a≠env.locals->h.get? a=some o->h'.get? a=some o
theorem acD{Q:Unit->Shared->Prop}(N:EnvR sc env)(C:Cfg prog w H g s.heap)(F:FrR prog w H g s.heap env J ai)(aj:lk sc.names x=some .local)(hx:a2 J x=none)(ak:∀h' aF,Kept prog w H g env J ai x v s.heap h'->Q () {s with heap:=h',toks:=aF}):
  wpAny (model prog w) A (storeName env x v) Q E s:=by
 have gl:=N.loc x aj
 obtain⟨m,aX,av⟩:=F.ns
 refine wpAny_storeName_local gl aX (λh' pS jp=>?_) (by rw [N.kind];rfl)
 have live:∃o,h'.get? env.locals=some o:=by obtain ⟨ob,_,_,uG,_⟩:=pS;exact⟨ob,uG⟩
 have k:Chg ai env.locals .loc s.heap h':=⟨F.loc,SameBut.ext' jp,live⟩
 obtain⟨pT,ct,r1⟩:=xt C F.sep k
 have own:∀{y} a,ai a=some (.own y)->∀o,s.heap.get? a=some o->h'.get? a=some o:=λa e=>k.at e nofun
 refine ak h' _ ⟨pT,ct,⟨⟨_,pS,λy u o gZ aY=>?_⟩,λy a aw=>?_,F.loc,r1,F.dot⟩,⟨gl,_,pS,if_pos rfl⟩,SameBut.ext' jp⟩
 .exact(av y u o gZ aY).elim λz p=>⟨z,(if_neg λe=>aI (hx.symm.trans (e▸aY))).trans p.1,p.2.to own⟩
 .have q:=F.cl y a aw
  have e8:ai a=some (.cell y):=by obtain ⟨_,_,ah,_⟩:=q;exact ah
  exact q.to (k.at e8 nofun) λea b9 gZ aY=>⟨aY,own⟩
end
section
structure TabS (K:Frag) (g:Gh) (h:Heap):Prop where
 bn:∀a o,g.im a=some o->h.get? a=some o
 tab:g.im g.ta.tab=some (instObj g.ta.gO g.ta.cU)
 cU:TkTab g
 P:Tp g.ta K
 base:∀a o,g.ta.h0.get? a=some o->g.im a=some o
theorem Cfg.tabS(C:Cfg prog w H g h)(P:Tp g.ta K):TabS K g h:=⟨C.bn,C.tok.tab,C.tok.cU,P,C.base⟩
theorem TabS.ng{b:Addr}(S:TabS K g h)(ao:g.im b=none)(ext:∀a o,a≠b->h.get? a=some o->h'.get? a=some o):TabS K g h':=⟨λa o e=>ext a o (λq=>aI (ao.symm.trans (q▸e))) (S.bn a o e),S.tab,S.cU,S.P,S.base⟩
structure TabL (K:Frag) (g:Gh) (nL:Str) (hR:Addr):Prop where
 at_:iN K g.ta.gO nL=true
 get:∀es n,g.im g.ta.cU=some (dictOf es n)->getL nL es=some (some (.ref hR))
section
variable (D:TkTab g)(P:Tp g.ta K)
include D P
theorem NQ:TabL K g h6 g.ta.rows:=⟨P.rows,λes n e=>by obtain ⟨dN,db,aa,ah⟩:=D;rw[lA (e.symm.trans aa)];exact ah⟩
theorem EI:TabL K g jc g.ta.idx:=⟨P.index,λes n e=>by obtain ⟨dN,db,aa,_,ah⟩:=D;rw[lA (e.symm.trans aa)];exact ah⟩
theorem NR:TabL K g ku g.ta.du:=⟨P.bounds,λes n e=>by obtain ⟨dN,db,aa,_,_,_,ah⟩:=D;rw[lA (e.symm.trans aa)];exact ah⟩
theorem NS:TabL K g kt g.ta.decls:=⟨P.decls,λes n e=>by obtain ⟨dN,db,aa,_,_,ah⟩:=D;rw[lA (e.symm.trans aa)];exact ah⟩
theorem acE:TabL K g "defaults" g.ta.dfl:=⟨P.defaults,λes n e=>by obtain ⟨dN,db,aa,_,_,_,_,ah⟩:=D;rw[lA (e.symm.trans aa)];exact ah⟩
theorem acF:TabL K g "names" g.ta.ew:=⟨P.names,λes n e=>by obtain ⟨dN,db,aa,_,_,_,_,_,ah⟩:=D;rw[lA (e.symm.trans aa)];exact ah⟩
end
section
variable {nL x y:Str}{hR:Addr}{vs:Array Value}
theorem sk{mU p:Pos}(N:EnvR sc env)(F:FrR prog w H g s.heap env J ai)(S:TabS K g s.heap)(aY:lk sc.names y=some .local)(aq:a2 J y=some (.tab,false))(L:TabL K g nL hR)(ak:Q (.ref hR) {s with toks:=s.toks+1}):
  wpAny (model prog w) A (eval (.Attribute (.Name y mU) nL p) env) Q E s:=by
 refine xk rfl (jh N F (.inl aY) aq λz bi=>?_)
 rw[show z= .ref g.ta.tab from bi]
 obtain⟨es,m,aa,_⟩:=S.cU
 exact uq (S.P.gq.keeps λa o e=>S.bn a o (S.base a o e)) (S.bn _ _ S.tab) (S.bn _ _ aa) L.at_ (L.get es m aa) rfl ak
theorem NT{xp uA mU cj u3 pp:Pos}{aF:Nat}{Q:Flow->Shared->Prop}(B:Bk prog w G ta K bp mb)(g3:G.free dy=true)(T:g.ta=ta)(N:EnvR sc env)(C:Cfg prog w H g h)(F:FrR prog w H g h env J ai)(aY:lk sc.names y=some .local)(aq:a2 J y=some (.tab,false))(hx:lk sc.names x=some .local)(fc:x≠dM)(ag:lk sc.names dy=some .globalImplicit)(L:TabL K g nL hR)(eJ:h.get? hR=some (listOf vs n))(fl:vs.size<=sizeLine)(ak:∀h' dC,Stored prog w H g env (cb J x (.int (vs.size:Int)) false) ai sc x h h'->wpAny (model prog w) A (execs bu env) Q E {s with heap:=h',toks:=dC}):
  wpAny (model prog w) A (execs (.Assign [.Name x xp] (.Call (.Name dy uA) [.Attribute (.Name y mU) nL cj] [] u3) pp::bu) env) Q E {s with heap:=h,toks:=aF}:=by
 refine wpAny_execs_cons (wpAny_Assign_Name (Call_Name rfl (rO (s:={s with heap:=h,toks:=aF}) B C T N ag g3 ?_)) (sd rfl x xp _ env))
 refine gi (P:=λ_=>True) rfl (λh _=>lJ (DD dy)) ?_
 refine args_cons (sk N F (C.tabS (T▸B.tp)) aY aq L ?_) rfl
 refine args_nil ⟨trivial,?_⟩
 show wpAny _ A (call (.builtin "len") [.ref hR]) _ _ _
 refine len_list ⟨_,eJ,rfl,n,rfl⟩ (EH fl) ?_
 exact mK (s:={s with heap:=h,toks:=_}) N C F (.inl hx) fc (o:=false) (u:=.int (vs.size:Int)) (show Val prog w H g g.im _ (.int (vs.size:Int)) from .int _ _) ak
theorem NU{mU cj mp q pp xp:Pos}{z:Value}{aF:Nat}{Q:Flow->Shared->Prop}(N:EnvR sc env)(F:FrR prog w H g h env J ai)(S:TabS K g h)(aY:lk sc.names y=some .local)(aq:a2 J y=some (.tab,false))(hx:lk sc.names x=some .local)(bi:NameAt env h x z)(L:TabL K g nL hR)(eJ:h.get? hR=some (listOf vs n))(fl:vs.size<=sizeLine)(dS:(mp.endLine==q.line)=true)(ak:∀h' dC db,h'.get? hR=some (listOf (vs.push z) db)->Heap.SameBut hR h h'->wpAny (model prog w) A (execs bu env) Q E {s with heap:=h',toks:=dC}):
  wpAny (model prog w) A (execs (.Expr (.Call (.Attribute (.Attribute (.Name y mU) nL cj) jd mp) [.Name x xp] [] q) pp::bu) env) Q E {s with heap:=h,toks:=aF}:=by
 refine wpAny_execs_cons (wpAny_Expr_any (pH rfl dS (show 1<25 from fi rfl) rfl λdi=>sk (s:={s with heap:=h,toks:=aF}) N F S aY aq L ?_) (xI N) (xJ rfl _ _))
 refine M8 (s:={s with heap:=h,toks:=_}) eJ ?_
 refine gi (P:=λ_=>True) rfl (λh _=>lJ (λa q=>nomatch q)) ?_
 refine args_cons (NameAt.ld (s:={s with heap:=h,toks:=_}) bi N hx ?_) rfl
 refine args_nil ⟨trivial,?_⟩
 show wpAny _ A (call (.builtin "list.append") [.ref hR,z]) _ _ _
 refine wpAny_list_append_plain (s:={s with heap:=h,toks:=_}) ⟨n,eJ⟩ (λh' Ei aJ=>?_) fl
 obtain⟨db,e⟩:=Ei
 exact ak h' _ db e aJ
theorem xZ{mU cj mp q pp xp:Pos}{aF:Nat}{Q:Flow->Shared->Prop}(N:EnvR sc env)(F:FrR prog w H g h env J ai)(S:TabS K g h)(aY:lk sc.names y=some .local)(aq:a2 J y=some (.tab,false))(hx:lk sc.names x=some .local)(sa:a2 J x=some (u,false))(L:TabL K g nL hR)(eJ:h.get? hR=some (listOf vs n))(fl:vs.size<=sizeLine)(dS:(mp.endLine==q.line)=true)(ak:∀h' dC z db,Val prog w H g g.im z u->h'.get? hR=some (listOf (vs.push z) db)->Heap.SameBut hR h h'->wpAny (model prog w) A (execs bu env) Q E {s with heap:=h',toks:=dC}):
  wpAny (model prog w) A (execs (.Expr (.Call (.Attribute (.Attribute (.Name y mU) nL cj) jd mp) [.Name x xp] [] q) pp::bu) env) Q E {s with heap:=h,toks:=aF}:=by
 obtain⟨z,bi,p⟩:=acC N F hx sa
 exact NU N F S aY aq hx p L eJ fl dS λh' dC db=>ak h' dC z db bi
end
theorem NV{z:Value}{row:V}(a1:gw row=true)(ap:bI H row=some d)(bi:Val prog w H g g.im z row):Rd g.im z d/\∃a,z= .ref a:=by
 rcases row
 case tup l=>
  obtain⟨mv,eT,cP⟩:=bi
  rw[<-Option.some.inj (ap.symm.trans eT)] at cP
  obtain⟨ds,_,e⟩:=gS ap
  rw[e] at cP |-
  obtain⟨a,_,_,_,e,_⟩:=cP.dat
  exact⟨cP,a,e⟩
 all_goals exact c2 a1
theorem acG{a b c k:Nat}(h:a+b<=64+c)(ah:c<=ba)(e:k=a+b):k<=sizeLine:=aT (e▸aT h (dh ah 64)) (by decide)
open Classical in
structure PutW (prog:Program) (w:World) (H:T) (g:Gh) (h:Heap) (env:Env) (ai:Addr->Option Ro) (J:am) (row:V) (d:PyData) (A:Around):Prop where
 N:EnvR fnPut.sc env
 F:FrR prog w H g h env J ai
 self:a2 J eV=some (.tab,false)
 rw:a2 J j5=some (row,false)
 tup:gw row=true
 cd:bI H row=some d
 kd:fG 6 d=true
 room:(kB prog w).room A.in1
section
variable {row v:V}{aF:Nat}
theorem PutW.rd(Z:PutW prog w H g h env ai J row d A)(ak:∀a,Rd g.im (.ref a) d->Q (.ref a) {s with heap:=h,toks:=aF}):wpAny (model prog w) A (eval (.Name j5 p) env) Q E {s with heap:=h,toks:=aF}:=
 jh (s:={s with heap:=h,toks:=aF}) Z.N Z.F (.inl NM) Z.rw λz bi=>by
  obtain⟨q,a,e⟩:=NV Z.tup Z.cd bi
  rw[e] at q |-
  exact ak a q
open Classical in
theorem acH{fm gF lE lF u4:Pos}{a4:List (PyData×Addr×Value)}{p:Addr×Value}{Q:Flow->Shared->Prop}(Z:PutW prog w H g h env ai J row d A)(S:TabS K g h)(D:h.DictOfH (kB prog w) g.ta.idx a4)(aS:atKey a4 d=some p)(ak:∀aF,Q (.ret p.2) {s with heap:=h,toks:=aF}):
  wpAny (model prog w) A (execs (.Return (some (.Subscript (.Attribute (.Name eV fm) jc gF) (.Name j5 lE) lF)) u4::bu) env) Q E {s with heap:=h,toks:=aF}:=by
 refine wpAny_execs_cons (wpAny_Return_some (Subscript_ (sk (s:={s with heap:=h,toks:=aF}) Z.N Z.F S u0 Z.self (EI S.cU S.P) ?_)))
 refine Z.rd λpz aq=>?_
 refine tail_any (ops:=[.ref g.ta.idx,.ref pz]) (T:="dict") (s:={s with heap:=h,toks:=_}) D.typeIs slot_dict_getitem.lookup ?_ rfl
 exact wpAny_getItem_heap (knd:=kB prog w) (s:={s with heap:=h,toks:=_}) Z.room ⟨aq.mono S.bn,Z.kd⟩ D aS (ak _)
open Classical in
theorem acI{pj kz x3 x4 EJ EK EL mV sm u5 EM gJ EN EO us x1 x2 mI nZ pM:Pos}{Q:Flow->Shared->Prop}(B:Bk prog w G ta K bp mb)(g3:G.free dy=true)(T:g.ta=ta)(Z:PutW prog w H g h env ai (mT row) row d A)(C:Cfg prog w H g h)(aj:V.key H.kb 4 row=true)(nm:∀b∈g.bW,ai b=none)(ag:O.cnt<=ba)(N:NewR H row O)(aX:row∉H.base++H.dyn)(dS:(u5.endLine==gJ.line)=true){cu:Heap}(X:Ext g cu g h)(nL:cu.get? env.locals=none)(ak:∀h' aF t,Ext g cu g h'->Cfg prog w O g h'->Q (.ret (.int ((H.base++H.dyn).length:Nat) t)) {s with heap:=h',toks:=aF}):
  wpAny (model prog w) A (execs (.Assign [.Name kJ pj] (.Call (.Name dy kz) [.Attribute (.Name eV x3) h6 x4] [] EJ) EK:: .Expr (.Call (.Attribute (.Attribute (.Name eV mV) h6 sm) jd u5) [.Name j5 EM] [] gJ) EL::
   .Assign [.Subscript (.Attribute (.Name eV EN) jc EO) (.Name j5 us) x1] (.Name kJ x2) mI:: .Return (some (.Name kJ nZ)) pM::bu) env) Q E {s with heap:=h,toks:=aF}:=by
 have P:Tp g.ta K:=T▸B.tp
 obtain⟨vs,nr,ds,xN,hm,pn⟩:=C.tok.rows
 have x5:vs.size=(H.base++H.dyn).length:=f4 hm pn
 have fl:vs.size<=sizeLine:=acG C.ok.size (aT N.le.cnt ag) (x5.trans d5)
 have six:=C.tok.six
 have x6:g.ta.rows∈g.bW:=jD _ in1
 have NW:g.ta.idx∈g.bW:=jD _ uZ
 have S:=C.tabS P
 refine NT B g3 T Z.N C Z.F u0 (EG row) lk_t (by decide) acB (NQ S.cU P) xN fl λa8 b8 Y=>?_
 obtain⟨b,ao,jr,_⟩:=Y.b
 rw[ao.elim id λq=>nomatch (lk_t.symm.trans q.1)] at jr
 have j6:=SameBut.ext' jr
 have gf:a2 (cb (mT row) kJ (.int (vs.size:Int)) false) eV=some (.tab,false):=(ih (by decide)).trans (EG row)
 have qb:a2 (cb (mT row) kJ (.int (vs.size:Int)) false) j5=some (row,false):=(ih (by decide)).trans (NN row)
 have u6:a2 (cb (mT row) kJ (.int (vs.size:Int)) false) kJ=some (.int (vs.size:Int),false):=rget_same
 have acJ:=j6 _ _ (λq=>aI ((nm _ x6).symm.trans (q▸Z.F.loc))) xN
 refine xZ Z.N Y.F (Y.C.tabS P) u0 gf NM qb (NQ S.cU P) acJ fl dS λbN gX z anx bi EP oe=>?_
 obtain⟨NX,er,jq⟩:=NV Z.tup Z.cd bi
 rw[jq] at NX EP
 have jt:=SameBut.ext' oe
 have gH:=Y.F.apart (nm _ x6) jt
 have EQ:=(Y.C.tabS P).ng (C.tok.out _ x6) jt
 have acK:PutW prog w H g bN env ai _ row d A:=⟨Z.N,gH,gf,qb,Z.tup,Z.cd,Z.kd,Z.room⟩
 obtain⟨a4,eO,eT,ER,ES,_,kK⟩:=Df (s:={s with heap:=a8,toks:=0}) Y.C Z.tup aj Z.cd
 have ET:bN.DictOfH (kB prog w) g.ta.idx a4:=by
  obtain⟨o,es,ca,bU,bZ,dJ,gY,_,lM⟩:=eO
  exact⟨o,es,ca,jt _ _ six.ab.symm bU,bZ,dJ,gY,λx hx=>⟨(ES x hx).1.mono EQ.bn,(ES x hx).2⟩,lM⟩
 have acL:a4.length<=sizeLine:=by rw [<-eQ (f:=(·.1)),rF eT,<-x5];exact fl
 refine wpAny_execs_cons (wpAny_Assign_Subscript ?_ (xK rfl _ rfl _ _))
 refine jh (s:={s with heap:=bN,toks:=_}) Z.N gH (.inl lk_t) u6 λz bi=>?_
 obtain⟨Dn,iR⟩:=Val.int_inv (show Val prog w H g g.im z _ from bi)
 rw[iR]
 refine sk (s:={s with heap:=bN,toks:=_}) Z.N gH EQ u0 gf (EI S.cU P) ?_
 refine acK.rd λanz NY=>?_
 refine wpAny_setItem_heap (knd:=kB prog w) (s:={s with heap:=bN,toks:=_}) Z.room ⟨NY.mono EQ.bn,Z.kd⟩ ET (λb5 EU EV=>?_) acL
 rw[storedH_new (kK aX),x5] at EU
 have kL:=SameBut.ext' EV
 have f5:Cfg prog w O g b5:=Y.C.row N Z.cd NY NX Z.kd (Option.some.inj (pn.symm.trans eT)▸hm) (kL _ _ six.ab EP) eT ER ES EU λa o dB d9 e=>kL a o d9 (jt a o dB e)
 have D5:∃o,b5.get? g.ta.idx=some o:=by
  obtain⟨o,_,_,e,_⟩:=EU
  exact⟨o,e⟩
 refine wpAny_execs_cons (wpAny_Return_some (jh (s:={s with heap:=b5,toks:=_}) Z.N (gH.apart (nm _ NW) kL) (.inl lk_t) u6 λz bi=>?_))
 obtain⟨acM,qc⟩:=Val.int_inv (show Val prog w H g g.im z _ from bi)
 rw[qc,x5]
 exact ak b5 _ acM (((X.own nL j6).mut x6 jt ⟨_,EP⟩).mut NW kL D5) f5
open Classical in
theorem acN{pj kz x3 x4 EJ EK EL mV sm u5 EM gJ EN EO us x1 x2 mI nZ pM:Pos}{Q:Flow->Shared->Prop}{a b c e f:Str}(B:Bk prog w G ta K bp mb)(g3:G.free dy=true)(T:g.ta=ta)(Z:PutW prog w H g h env ai (mT row) row d A)(C:Cfg prog w H g h)(aj:V.key H.kb 4 row=true)(nm:∀b∈g.bW,ai b=none)(ag:O.cnt<=ba)(N:NewR H row O)(aX:row∉H.base++H.dyn)(dS:(u5.endLine==gJ.line)=true){cu:Heap}(X:Ext g cu g h)(nL:cu.get? env.locals=none)(ak:∀h' aF t,Ext g cu g h'->Cfg prog w O g h'->Q (.ret (.int ((H.base++H.dyn).length:Nat) t)) {s with heap:=h',toks:=aF})(fM:a=dy)(gn:b=h6)(bo:c=h6)(acO:e=jd)(ef:f=jc):
  wpAny (model prog w) A (execs (.Assign [.Name kJ pj] (.Call (.Name a kz) [.Attribute (.Name eV x3) b x4] [] EJ) EK:: .Expr (.Call (.Attribute (.Attribute (.Name eV mV) c sm) e u5) [.Name j5 EM] [] gJ) EL::
   .Assign [.Subscript (.Attribute (.Name eV EN) f EO) (.Name j5 us) x1] (.Name kJ x2) mI:: .Return (some (.Name kJ nZ)) pM::bu) env) Q E {s with heap:=h,toks:=aF}:=by
 subst fM gn bo acO ef
 exact acI B g3 T Z C aj nm ag N aX dS X nL ak
theorem acP{row:V}(h:gw row=true):row.flat=true:=by
 rcases row
 case tup=>rfl
 all_goals exact c2 h
theorem acQ{row v:V}(h:H.put row=some (v,O)):gw row=true:=(aK (br h).1).1
theorem EW(C:Cfg prog w H g h)(new:∀a r,dw env.locals env.cells a=some r->h.get? a=none):∀b∈g.bW,dw env.locals env.cells b=none:=λb ao=>by
 rcases e:dw env.locals env.cells b with _|r
 .rfl
 .obtain⟨o,aG⟩:=C.vX ao
  exact aI ((new b r e).symm.trans aG)
open Classical in
theorem NZ(B:Bk prog w G ta K bp mb)(g3:G.free dy=true)(aL:FnOk ta.h0 K fnPut (.ref a)){row v:V}(h:H.put row=some (v,O))(ag:O.cnt<=ba){nW:Value}(fX:A.depth<recursionLimit)(bG:A.units+100<cLine)(T:g.ta=ta)(C:Cfg prog w H g s.heap)(al:Val prog w H g g.im nW row)(ak:ToV prog w H g s O v Q):wpAny (model prog w) A (call (.ref a) [.ref ta.tab,nW]) Q E s:=by
 have u7:Val prog w H g g.im (.ref ta.tab) .tab:=congrArg (λt:Ta=>Value.ref t.tab) T.symm
 obtain⟨d,lC,_⟩:=al.flat (λ_ _ e=>e) (acP (acQ h))
 obtain⟨a1,aj,R⟩:=acr C.ok lC h
 refine xi B.tj (acA row) aL fX T C (.cons u7 (.cons al .nil)) λenv aB bh ie Z=>?_
 have room:(kB prog w).room (A.deeper env).in1:=by
  show (A.deeper env).in1.units+8<cLine
  rw[Around.in1_units]
  show A.units+3+_+8<cLine
  exact hZ (by lia) bG
 have W:PutW prog w H g aB env (dw env.locals env.cells) (mT row) row d (A.deeper env):=⟨Z.N,Z.F,EG row,NN row,a1,lC,De aj (by decide) lC,room⟩
 have P:Tp g.ta K:=T▸B.tp
 have S:=Z.C.tabS P
 obtain⟨a4,D,eT,_,_,acR,kK⟩:=Df (s:={s with heap:=aB,toks:=bh}) Z.C a1 aj lC
 refine wpAny_execs_cons (wpAny_If (wpAny_isTrue_Compare1 ?_ (by with_unfolding_all rfl)))
 refine W.rd λpz aq=>?_
 refine sk (s:={s with heap:=aB,toks:=bh}) W.N W.F S u0 W.self (EI S.cU P) ?_
 refine wpAny_in_heap (knd:=kB prog w) (s:={s with heap:=aB,toks:=_}) room ⟨aq.mono S.bn,W.kd⟩ Z.C.tok.k2 D ?_
 refine wpAny_truthy_bool ?_
 rcases R with ⟨i,hi,qd,EX⟩|⟨aX,qd,N⟩
 .obtain⟨p,t,aS,acS⟩:=acR i hi
  refine NO (by rw [aS];rfl) (acH W S D aS λaF=>?_)
  have V:Val prog w O g g.im p.2 v:=.g9 qd (acS▸ .int _ _)
  rcases EX with e|e
  .rw[e] at ak V;exact ak g aB aF p.2 Z.X (.refl _) Z.C V
  .rw[e] at ak V;exact ak g aB aF p.2 Z.X (NI H) (Z.C.state (NI H) (acs C.ok) rfl rfl rfl) V
 .refine NP (by rw [kK aX];exact nofun) (wpAny_execs_nil ?_)
  exact acN B g3 T W Z.C aj (EW C Z.new) ag N aX (by rfl') Z.X (Z.new _ .loc Z.F.loc) (λh' aF t p3 ct=>ak g h' aF _ p3 N.le ct (.g9 qd (.int _ _))) (by rfl') (by rfl') (by rfl') (by rfl') (by rfl')
end
end
noncomputable def fnNP:Fn:=⟨aA 59,[.int (-1),.int (-1)]⟩
def ju:=an "name"
def sn:=an "bound"
def sp:=an "default"
def gK:=an "pid"
def oi:=an "Y_PARAM"
def acT:=an "defaults"
def acU:=an "names"
def j7 (x:Str):am:=[(cF,.tab,false),(ju,.str x,false),(sn,.int (-1),false),(sp,.int (-1),false)]
theorem acV(x:Str):o9 fnNP.ps [.tab,.str x] fnNP.dfl=some (j7 x):=by rfl'
theorem u8:lk fnNP.sc.names cF=some .local:=by rfl'
theorem acW:lk fnNP.sc.names ju=some .local:=by rfl'
theorem acX:lk fnNP.sc.names sn=some .local:=by rfl'
theorem acY:lk fnNP.sc.names sp=some .local:=by rfl'
theorem np_pid:lk fnNP.sc.names gK=some .local:=by rfl'
theorem acZ:lk fnNP.sc.names dy=some .globalImplicit:=by rfl'
theorem ad0:lk fnNP.sc.names oi=some .globalImplicit:=by rfl'
theorem N0(x:Str):a2 (j7 x) cF=some (.tab,false):=by rfl'
theorem ad1(x:Str):a2 (j7 x) ju=some (.str x,false):=by rfl'
theorem ad2(x:Str):a2 (j7 x) sn=some (.int (-1),false):=by rfl'
theorem ad3(x:Str):a2 (j7 x) sp=some (.int (-1),false):=by rfl'
theorem anA(h:a9 x gK=false):x≠gK:=n8 h
theorem ad4:a9 cF gK=false:=by rfl'
theorem ad5:a9 ju gK=false:=by rfl'
theorem ad6:a9 sn gK=false:=by rfl'
theorem ad7:a9 sp gK=false:=by rfl'
theorem ad8:(!a9 gK dM)=true:=by rfl'
section
theorem ad9(aL:H.Ok)(l:List Int):({H with bounds:=l}:T).Ok:=⟨aL.plain,aL.met,aL.key,aL.bld,aL.size,aL.once,aL.small⟩
theorem EY(H:T)(l:List Int):H.bP {H with bounds:=l}:=⟨.inl rfl,⟨[],(eh _).symm⟩,cq _,cq _,rfl⟩
noncomputable def lR(H:T)(l:List Int):T:={H with bounds:=l}
theorem Cfg.lists(C:Cfg prog w H g h){b:Addr}(ao:b∈[g.ta.rows,g.ta.idx,g.ta.decls,g.ta.du,g.ta.dfl,g.ta.ew])(dB:g.ta.rows≠b)(d9:g.ta.idx≠b)(Ec:g.ta.decls≠b)(ext:∀a o,a≠b->h.get? a=some o->h'.get? a=some o)(bs:List Int)(dS:bs.length<=64+H.cnt)(aa:TkBnds (lR H bs) g h')(ah:TkLst (lR H bs) h' g.ta.dfl)(aC:TkLst (lR H bs) h' g.ta.ew):Cfg prog w (lR H bs) g h':=by
 have D:=C.tok
 have x7:b∈g.bW:=jD _ ao
 have le:=EY H bs
 have j:∀a o,g.im a=some o->g.im a=some o:=λ_ _ e=>e
 exact⟨λa o e=>ext a o (λq=>aI ((D.out _ x7).symm.trans (q▸e))) (C.bn a o e),C.base,ad9 C.ok _,⟨D.tab,D.cU,D.host,D.hv,D.rows.to rfl j le rfl λo=>ext _ o dB,D.idx.to rfl j le rfl λo=>ext _ o d9,D.k2,D.decls.to rfl rfl rfl λo=>ext _ o Ec,
  λk p aS=>(D.decl k p aS).to rfl j le rfl λo=>ext _ o (D.apart.ne _ ao _ (tm (oK aS))).symm,aa,ah,aC,D.nd,D.out⟩,⟨C.line.1,dS⟩,C.mods⟩
theorem ada{vs:Array Value}{db:Nat}{z:Int}{t:Tok}(ag:vs.toList.length=H.bounds.length)(hi:∀(i:Nat)(z:Int),H.bounds[i]? =some z->∃t,vs.toList[i]? =some (Value.int z t))(e:h'.get? g.ta.du=some (listOf (vs.push (.int z t)) db)):TkBnds (lR H (H.bounds++[z])) g h':=by
 refine⟨_,db,e,?_,λi y aY=>?_⟩
 .rw[oM,d5,ag];show H.bounds.length+1=(H.bounds++[z]).length;rw[d5];rfl
 .have aY:(H.bounds++[z])[i]? =some y:=aY
  rw[oM]
  rcases oP i H.bounds.length with q|q
  .rw[mc q] at aY
   rw[mc (ag▸q)]
   exact hi i y aY
  .rw[nh q] at aY
   have xu:i - H.bounds.length=0:=Nat.lt_one_iff.mp (List.getElem?_eq_some_iff.mp aY).1
   rw[xu] at aY
   rw[nh (ag▸q),ag,xu,<-Option.some.inj (show some z=some y from aY)]
   exact⟨t,rfl⟩
theorem N1{vs:Array Value}{db:Nat}{u:Value}{bs:List Int}(ag:vs.size+1<=bs.length)(e:h'.get? a=some (listOf (vs.push u) db)):TkLst (lR H bs) h' a:=⟨_,db,e,by rw [Array.size_push];exact ag⟩
end
section
section
variable {v:V}{aF:Nat}
theorem adb{bU bZ dJ gY uF lM EZ:Pos}{fW:Nat}{k:Int}{Q:Flow->Shared->Prop}(B:Bk prog w G ta K bp mb)(g3:G.free dy=true)(u9:G.val oi=some (.int 10)){cj:Addr}(sq:lz K ta.gO cj h7=true)(va:FnOk ta.h0 K fnPut (.ref cj))(aS:H.put (.tup [.int 10,.int k])=some (v,O))(ag:O.cnt<=ba)(fX:A.depth<recursionLimit)(bG:A.units+100<cLine)(T:g.ta=ta)(N:EnvR fnNP.sc env)(C:Cfg prog w H g h)(F:FrR prog w H g h env J ai)(ge:a2 J cF=some (.tab,false))(x8:a2 J gK=some (.int k,false))(dS:(bZ.endLine==lM.line)=true)(ak:ToV prog w H g {s with heap:=h,toks:=aF} O v λu s=>Q (.ret u) s):wpAny (model prog w) A (execs (.Return (some (.Call (.Attribute (.Name cF bU) h7 bZ) [.Tuple [.Name oi dJ,.Name gK gY] fW uF] [] lM)) EZ::bu) env) Q E {s with heap:=h,toks:=aF}:=by
 have P:Tp g.ta K:=T▸B.tp
 refine wpAny_execs_cons (wpAny_Return_some (pH rfl dS (show 1<25 from fi rfl) rfl λdi=>jh (s:={s with heap:=h,toks:=aF}) N F (.inl u8) ge λz bi=>?_))
 rw[show z= .ref g.ta.tab from bi]
 obtain⟨es,m,t1,_,_,_,_,_,_,t2⟩:=C.tok.cU
 refine Dd (s:={s with heap:=h,toks:=aF}) (C.gq (s:={s with heap:=h,toks:=aF}) P) (C.bn _ _ C.tok.tab) (C.bn _ _ t1) (T▸sq) t2 ?_
 refine gi (P:=λh=>K.In h) rfl (λh X=>keeps_K (aK sq).2 h X) ?_
 obtain⟨anB,adc,ade⟩:=B.val oi _ u9
 refine args_cons (wpAny_Tuple_spliced (args_cons (pB (s:={s with heap:=h,toks:=aF}) B C T N ad0 adc ?_) rfl)) rfl
 refine args_cons (jh (s:={s with heap:=h,toks:=aF}) N F (.inl np_pid) x8 λadf adg=>?_) rfl
 refine args_nil ⟨(by decide:(2:Nat)<=sizeLine),?_⟩
 obtain⟨adh,E0⟩:=(ade H g T λa o e=>C.base a o (T▸e)).int_inv
 obtain⟨tp,ca⟩:=Val.int_inv (show Val prog w H g g.im adf _ from adg)
 rw[E0,ca]
 refine Got.tup (Q:=λu bQ=>wpAny (model prog w) A (spliced (backTo lM (starEach [] env))) (λvs c1=>K.In c1.heap/\wpAny (model prog w) A (call (.ref cj) ([.ref g.ta.tab]++(u::vs))) (λv bQ=>Q (.ret v) bQ) E c1) E bQ) (l:=[.int 10,.int k]) (s:={s with heap:=h,toks:=aF}) (λanC js sr u qe ss adi=>?_) C (vs:= #[.int 10 adh,.int k tp]) (n:=0) (ds:=[.int 10,.int k]) (.cons (.int _ _) (.cons (.int _ _) .nil)) rfl _
 refine args_nil ⟨ss.gq (s:={s with heap:=js,toks:=0}) (qe.ta▸P),?_⟩
 show wpAny _ A (call (.ref cj) [.ref g.ta.tab,u]) _ _ _
 rw[T]
 exact NZ (s:={s with heap:=js,toks:=sr}) B g3 va aS ag fX bG (qe.ta.trans T) ss adi λvb vc vd adj E1 E2 ve E3=>ak vb vc vd adj (qe.trans E1) E2 ve E3
theorem adk{en er e4 ij vf E4 hg gV hj jT mC lr eT cP jj mG kE pN d1 d2 d3 d4 adl N2 bU bZ dJ gY uF lM EZ:Pos}{fW:Nat}{Q:Flow->Shared->Prop}{cg ch nO N3 N4 cC cA iL lw:Str}(B:Bk prog w G ta K bp mb)(g3:G.free dy=true)(u9:G.val oi=some (.int 10)){cj:Addr}(sq:lz K ta.gO cj h7=true)(va:FnOk ta.h0 K fnPut (.ref cj))(ao:H.bounds.length<60)(aS:(lR H (H.bounds++[-1])).put (.tup [.int 10,.int H.bounds.length])=some (v,O))(ag:O.cnt<=ba)(fX:A.depth<recursionLimit)(bG:A.units+100<cLine)(T:g.ta=ta)(N:EnvR fnNP.sc env)(C:Cfg prog w H g h)(F:FrR prog w H g h env (j7 x) ai)(nm:∀b∈g.bW,ai b=none){cu:Heap}(X:Ext g cu g h)(nL:cu.get? env.locals=none)(E5:(jT.endLine==lr.line)=true)(adm:(mG.endLine==pN.line)=true)(ld:(d4.endLine==N2.line)=true)(adn:(bZ.endLine==lM.line)=true)(ak:ToV prog w H g {s with heap:=cu} O v λu s=>Q (.ret u) s)(e1:cg=dy)(e2:ch=ku)(e3:nO=ku)(eN:N3=acT)(kF:N4=acU)(fH:cC=jd)(gC:cA=jd)(f3:iL=jd)(jU:lw=h7):
  wpAny (model prog w) A (execs (.Assign [.Name gK en] (.Call (.Name cg er) [.Attribute (.Name cF e4) ch ij] [] vf) E4:: .Expr (.Call (.Attribute (.Attribute (.Name cF gV) nO hj) cC jT) [.Name sn mC] [] lr) hg::
   .Expr (.Call (.Attribute (.Attribute (.Name cF cP) N3 jj) cA mG) [.Name sp kE] [] pN) eT:: .Expr (.Call (.Attribute (.Attribute (.Name cF d2) N4 d3) iL d4) [.Name ju adl] [] N2) d1::
   .Return (some (.Call (.Attribute (.Name cF bU) lw bZ) [.Tuple [.Name oi dJ,.Name gK gY] fW uF] [] lM)) EZ::bu) env) Q E {s with heap:=h,toks:=aF}:=by
 subst e1 e2 e3 eN kF fH gC f3 jU
 have P:Tp g.ta K:=T▸B.tp
 have S:=C.tabS P
 have six:=C.tok.six
 have lw:g.ta.du∈g.bW:=jD _ Er
 have un:g.ta.dfl∈g.bW:=jD _ Es
 have N5:g.ta.ew∈g.bW:=jD _ Et
 obtain⟨vs,hn,N7,xh,ado⟩:=C.tok.du
 have gE:vs.size=H.bounds.length:=xh
 have hY:∀{k:Nat},k<=H.bounds.length->k<=sizeLine:=λh=>mL (aT h (aT (jH ao) (by decide)))
 refine NT B g3 T N C F u8 (N0 x) np_pid (n0 ad8) acZ (NR S.cU P) N7 (hY (dW gE)) λa8 b8 Y=>?_
 obtain⟨b,adp,jr,_⟩:=Y.b
 rw[adp.elim id λq=>nomatch (np_pid.symm.trans q.1)] at jr
 have j6:=SameBut.ext' jr
 have ge:a2 (cb (j7 x) gK (.int (vs.size:Int)) false) cF=some (.tab,false):=(ih (n8 ad4)).trans (N0 x)
 have gf:a2 (cb (j7 x) gK (.int (vs.size:Int)) false) ju=some (.str x,false):=(ih (n8 ad5)).trans (ad1 x)
 have qb:a2 (cb (j7 x) gK (.int (vs.size:Int)) false) sn=some (.int (-1),false):=(ih (n8 ad6)).trans (ad2 x)
 have u6:a2 (cb (j7 x) gK (.int (vs.size:Int)) false) sp=some (.int (-1),false):=(ih (n8 ad7)).trans (ad3 x)
 have x8:a2 (cb (j7 x) gK (.int (vs.size:Int)) false) gK=some (.int (vs.size:Int),false):=rget_same
 generalize cb (j7 x) gK (.int (vs.size:Int)) false=J at Y ge gf qb u6 x8
 obtain⟨_,b3,gj,_,_⟩:=Y
 have adq:=j6 _ _ (λq=>aI ((nm _ lw).symm.trans (q▸F.loc))) N7
 refine xZ N gj (b3.tabS P) u8 ge acX qb (NR S.cU P) adq (hY (dW gE)) E5 λbN gX z anD bi E6 oe=>?_
 obtain⟨t,jq⟩:=bi.int_inv
 rw[jq] at E6
 have jt:=SameBut.ext' oe
 obtain⟨pK,nd,uz,po⟩:=b3.tok.dfl
 obtain⟨vn,adr,N8,x9⟩:=b3.tok.ew
 have len:(H.bounds++[-1]).length=H.bounds.length+1:=d5
 have N9:pK.size+1<=(H.bounds++[-1]).length:=len▸gr po
 have Oa:vn.size+1<=(H.bounds++[-1]).length:=len▸gr x9
 have fo:Cfg prog w (lR H (H.bounds++[-1])) g bN:=b3.lists Er six.ad six.bd six.cd jt _ (len▸aT ao (by lia)) (ada xh ado E6) ⟨pK,nd,jt _ _ six.de.symm uz,Nat.le_of_succ_le N9⟩ ⟨vn,adr,jt _ _ six.df.symm N8,Nat.le_of_succ_le Oa⟩
 have gH:=(gj.apart (nm _ lw) jt).ext (EY H (H.bounds++[-1])) (Ext.refl g bN) fo.bn
 have hJ:=(X.own nL j6).mut lw jt ⟨_,E6⟩
 refine xZ N gH (fo.tabS P) u8 ge acY u6 (acE S.cU P) (jt _ _ six.de.symm uz) (hY po) adm λb5 g0 x1 anE _ Ob EV=>?_
 have kL:=SameBut.ext' EV
 have f5:Cfg prog w (lR H (H.bounds++[-1])) g b5:=fo.lists Es six.ae six.be six.ce kL _ fo.line.2 (fo.tok.du.to rfl rfl λo=>kL _ o six.de) (N1 N9 Ob) (fo.tok.ew.to (cq _) λo=>kL _ o six.ef.symm)
 have mN:=gH.apart (nm _ un) kL
 refine xZ N mN (f5.tabS P) u8 ge acW gf (acF S.cU P) (kL _ _ six.ef.symm (jt _ _ six.df.symm N8)) (hY x9) ld λmO r5 x2 anF _ Oc E7=>?_
 have vg:=SameBut.ext' E7
 have xD:Cfg prog w (lR H (H.bounds++[-1])) g mO:=f5.lists Et six.af six.bf six.cf vg _ f5.line.2 (f5.tok.du.to rfl rfl λo=>vg _ o six.df) (f5.tok.dfl.to (cq _) λo=>vg _ o six.ef) (N1 Oa Oc)
 have xC:=(hJ.mut un kL ⟨_,Ob⟩).mut N5 vg ⟨_,Oc⟩
 rw[<-gE] at aS
 exact adb B g3 u9 sq va aS ag fX bG T N xD (mN.apart (nm _ N5) vg) ge x8 adn λvb vc vd u E1 E2 ve E3=>ak vb vc vd u (xC.trans E1) ((EY H _).trans E2) ve E3
end
theorem ads(B:Bk prog w G ta K bp mb)(g3:G.free dy=true)(u9:G.val oi=some (.int 10)){cj a:Addr}(sq:lz K ta.gO cj h7=true)(va:FnOk ta.h0 K fnPut (.ref cj))(aL:FnOk ta.h0 K fnNP (.ref a)){v:V}(ao:(H.bld&&Nat.blt H.bounds.length 60)=true)(h:({H with bounds:=H.bounds++[-1]}:T).put (.tup [.int 10,.int H.bounds.length])=some (v,O))(ag:O.cnt<=ba){ep:Value}(fX:A.depth+1<recursionLimit)(bG:A.units+200<cLine)(T:g.ta=ta)(C:Cfg prog w H g s.heap)(al:Val prog w H g g.im ep (.str x))(ak:ToV prog w H g s O v Q):wpAny (model prog w) A (call (.ref a) [.ref ta.tab,ep]) Q E s:=by
 have u7:Val prog w H g g.im (.ref ta.tab) .tab:=congrArg (λt:Ta=>Value.ref t.tab) T.symm
 refine xi B.tj (acV x) aL (qS fX) T C (.cons u7 (.cons al .nil)) λenv aB bh ie Z=>?_
 exact adk B g3 u9 sq va (fi (aK ao).2) h ag fX (show A.units+3+100<cLine from hZ (by lia) bG) T Z.N Z.C Z.F (EW C Z.new) Z.X (Z.new _ .loc Z.F.loc) (by rfl') (by rfl') (by rfl') (by rfl') ak
  (by rfl') (by rfl') (by rfl') (by rfl') (by rfl') (by rfl') (by rfl') (by rfl') (by rfl')
end
inductive Iv where
 |int (i:Int)|str (x:Str)|bool (b:Bool)|none|tup0|list0|listN|dict0|arg (y:Str)|glob (y:Str)
noncomputable def Iv.new:Iv->Bool
 | .tup0=>true
 | .list0=>true
 | .listN=>true
 | .dict0=>true
 |_=>false
noncomputable def adt:Const->Option Iv
 | .int i=>some (.int i)
 | .str x=>some (.str x)
 | .bool b=>some (.bool b)
 | .none=>some .none
 |_=>Option.none
def adu (x:Expr):UnaryOp->Option Iv
 | .USub=>od (Co x) λi=>some (.int (-i))
 |_=>none
noncomputable def adv:Const->Bool
 | .none=>true
 |_=>false
def Od:Expr->Bool
 | .Constant k _ _=>adv k
 |_=>false
def adw:List Expr->Option Iv
 |[]=>some .list0
 |e::r=>ow (Od e&&r.isEmpty) (some .listN)
noncomputable def E8:Option NameKind->Bool
 |some .local=>true
 |_=>false
def adx (sc:Scope) (y:Str):Option Iv:=cond (E8 (lk sc.names y)) (some (.arg y)) (ow (gy ⟨sc,[]⟩ y) (some (.glob y)))
def ya (sc:Scope):Expr->Option Iv
 | .Constant k _ _=>adt k
 | .UnaryOp op x _=>adu x op
 | .Tuple es _ _=>ow es.isEmpty (some .tup0)
 | .List es _=>adw es
 | .Dict ks vs _=>ow (ks.isEmpty&&vs.isEmpty) (some .dict0)
 | .Name y _=>adx sc y
 |_=>none
noncomputable def E9:Ak->Option (Str×Str)
 | .att x a=>some (x,a)
 |_=>none
def Oe:Stmt->Option (Str×Expr)
 | .Assign cO e _=>od (E9 (rt cO)) λp=>ow (a9 p.1 eV) (some (p.2,e))
 |_=>none
def ivs (sc:Scope):List Stmt->Option (List (Str×Iv))
 |[]=>some []
 |st::r=>od (Oe st) λp=>od (ya sc p.2) λcp=>od (ivs sc r) λl=>some ((p.1,cp)::l)
inductive IvI (sc:Scope) (e:Expr) (cp:Iv):Prop
 |int (i:Int) (k:Nat) (p:Pos) (h:e= .Constant (.int i) k p) (q:cp= .int i)
 |str (x:Str) (k:Nat) (p:Pos) (h:e= .Constant (.str x) k p) (q:cp= .str x)
 |bool (b:Bool) (k:Nat) (p:Pos) (h:e= .Constant (.bool b) k p) (q:cp= .bool b)
 |none (k:Nat) (p:Pos) (h:e= .Constant .none k p) (q:cp= .none)
 |neg (i:Int) (k:Nat) (p hK:Pos) (h:e= .UnaryOp .USub (.Constant (.int i) k p) hK) (q:cp= .int (-i))
 |tup (k:Nat) (p:Pos) (h:e= .Tuple [] k p) (q:cp= .tup0)
 |list (p:Pos) (h:e= .List [] p) (q:cp= .list0)
 |listN (k:Nat) (p hK:Pos) (h:e= .List [.Constant .none k p] hK) (q:cp= .listN)
 |dict (p:Pos) (h:e= .Dict [] [] p) (q:cp= .dict0)
 |arg (y:Str) (p:Pos) (h:e= .Name y p) (k:lk sc.names y=some .local) (q:cp= .arg y)
 |glob (y:Str) (p:Pos) (h:e= .Name y p) (k:lk sc.names y=some .globalImplicit) (q:cp= .glob y)
theorem ady(h:Od e=true):∃k p,e= .Constant .none k p:=by
 rcases e
 case Constant c k p=>
  rcases c
  case none=>exact⟨k,p,rfl⟩
  all_goals exact c2 h
 all_goals exact c2 h
theorem Of{o:Option NameKind}(h:E8 o=true):o=some .local:=by
 rcases o with _|k
 .exact c2 h
 .rcases k
  case «local»=>rfl
  all_goals exact c2 h
theorem Og{cp:Iv}(h:ya sc e=some cp):IvI sc e cp:=by
 rcases e
 case Constant c k p=>
  rcases c
  case int i=>exact .int i k p rfl (Option.some.inj h).symm
  case str i=>exact .str i k p rfl (Option.some.inj h).symm
  case bool i=>exact .bool i k p rfl (Option.some.inj h).symm
  case none=>exact .none k p rfl (Option.some.inj h).symm
  all_goals exact aI h
 case UnaryOp op x p=>
  rcases op
  case USub=>
   obtain⟨i,e,h⟩:=bD h
   obtain⟨k,hK,e⟩:=My e
   rw[e]
   exact .neg i k hK p rfl (Option.some.inj h).symm
  all_goals exact aI h
 case Tuple es k p=>rw[List.isEmpty_iff.mp (br h).1];exact .tup k p rfl (Option.some.inj (br h).2).symm
 case List es p=>
  rcases es with _|⟨e,r⟩
  .exact .list p rfl (Option.some.inj h).symm
  .obtain⟨ap,h⟩:=br h
   obtain⟨k,hK,e⟩:=ady (aK ap).1
   rw[List.isEmpty_iff.mp (aK ap).2,e]
   exact .listN k hK p rfl (Option.some.inj h).symm
 case Dict ks vs p=>
  obtain⟨ap,h⟩:=br h
  rw[List.isEmpty_iff.mp (aK ap).1,List.isEmpty_iff.mp (aK ap).2]
  exact .dict p rfl (Option.some.inj h).symm
 case Name y p=>
  rcases eA h with ⟨k,h⟩|⟨_,h⟩
  .exact .arg y p rfl (Of k) (Option.some.inj h).symm
  .exact .glob y p rfl (rA (br h).1) (Option.some.inj (br h).2).symm
 all_goals exact aI h
theorem adz{cp:Iv}(h:ya sc e=some cp):mz e=true:=by
 rcases Og h with ⟨_,_,_,h,_⟩|⟨_,_,_,h,_⟩|⟨_,_,_,h,_⟩|⟨_,_,h,_⟩|⟨_,_,_,_,h,_⟩|⟨_,_,h,_⟩|⟨_,h,_⟩|⟨_,_,_,h,_⟩|⟨_,h,_⟩|⟨_,_,h,_⟩|⟨_,_,h,_⟩<;>rw[h]<;>rfl
theorem adA{k:Ak}{p:Str×Str}(h:E9 k=some p):k= .att p.1 p.2:=by
 rcases k
 case att x a=>exact gb h (P:=λp:Str×Str=>Ak.att x a= .att p.1 p.2) rfl
 all_goals exact aI h
theorem adB{cO:List Expr}{p:Str×Str}(h:E9 (rt cO)=some p)(hx:a9 p.1 eV=true):∃q cj,cO=[.Attribute (.Name eV q) p.2 cj]:=by
 have k:=ND cO
 rw[adA h] at k
 rcases k with _|_|⟨_,_,xp,q,e⟩|_
 exact⟨xp,q,sEq_iff.mp hx▸e⟩
theorem adC{st:Stmt}{q:Str×Expr}(h:Oe st=some q):∃p cj pp,st= .Assign [.Attribute (.Name eV p) q.1 cj] q.2 pp:=by
 rcases st
 case Assign cO e pp=>
  obtain⟨p,e1,h⟩:=bD h
  obtain⟨hx,h⟩:=br h
  obtain⟨xp,cj,e2⟩:=adB e1 hx
  rw[e2,<-Option.some.inj h]
  exact⟨xp,cj,pp,rfl⟩
 all_goals exact aI h
noncomputable def oj:Obj:={cls:=.type "tuple",data:=.seq #[] 0}
inductive RefAt (h:Heap) (o:Obj) (u:Value):Prop
 |mk (a:Addr) (e:u= .ref a) (h:h.get? a=some o)
def IvR(env:Env)(bp:Str->Option Value)(h:Heap)(cp:Iv)(u:Value):Prop:=match cp with
 | .int i=>∃t,u= .int i t
 | .str x=>∃t,u= .str x t
 | .bool b=>u= .bool b
 | .none=>u= .none
 | .tup0=>RefAt h oj u
 | .list0=>RefAt h (listOf #[] 0) u
 | .listN=>RefAt h (listOf #[.none] 0) u
 | .dict0=>RefAt h emptyDict u
 | .arg y=>NameAt env h y u
 | .glob y=>bp y=some u
def noRef(es:List DictEntry):Prop:=es.any (·.refKey)=false
theorem noRef.get{es:List DictEntry}(h:noRef es)(name:Str):∃o,getL name es=some o:=by
 rw[p8,show es.any (·.refKey)=false from h]
 generalize List.find? (λx:DictEntry=>x.key.isStr name) es=x
 rcases x with _|e
 .exact⟨none,rfl⟩
 .exact⟨some e.val,rfl⟩
theorem noRef.put{name:Str}{dT:Int}{t:Tok}{v:Value}:∀{es:List DictEntry},noRef es->noRef (putL name dT (.str name t) v es)
 |[],_=>rfl
 |e::r,h=>by
  obtain⟨aa,ah⟩:=gI h
  rcases q:e.key.isStr name with _|_
  .rw[sf q];exact uT aa (noRef.put (es:=r) ah)
  .rw[uY q];exact uT aa ah
def yb(cp:Iv)(h:Heap)(u:Value):Prop:=cp.new=true->∃a,u= .ref a/\h.get? a=none
section
theorem adD(N:EnvR sc env){aF:Nat}(bx:h.Ns mainGlobals bp){cp:Iv}(kM:ya sc e=some cp)(adE:∀y,cp= .arg y->∃v,NameAt env h y v)(adF:∀y,cp= .glob y->∃v,bp y=some v)(ak:∀h' dC u,(∀b o,h.get? b=some o->h'.get? b=some o)->IvR env bp h' cp u->yb cp h u->Q u {s with heap:=h',toks:=dC}):wpAny (model prog w) A (eval e env) Q E {s with heap:=h,toks:=aF}:=by
 have same:∀{u dC},IvR env bp h cp u->cp.new=false->Q u {s with heap:=h,toks:=dC}:=λ{u dC} r n=>ak h dC u (λ_ _ e=>e) r λq=>nomatch (n.symm.trans q)
 have push:∀{o:Obj}{dC},IvR env bp (h.push o) cp (.ref h.objs.size)->Q (.ref h.objs.size) {s with heap:=h.push o,toks:=dC}:=λ{o dC} r=>ak (h.push o) dC _ (λb q e=>ey _ e) r λ_=>⟨_,rfl,ji h⟩
 rcases Og kM with ⟨_,_,_,h,q⟩|⟨_,_,_,h,q⟩|⟨_,_,_,h,q⟩|⟨_,_,h,q⟩|⟨_,_,_,_,h,q⟩|⟨_,_,h,q⟩|⟨_,h,q⟩|⟨_,_,_,h,q⟩|⟨_,h,q⟩|⟨_,_,h,k,q⟩|⟨_,_,h,k,q⟩<;>rw[h]
 .exact wpAny_Constant_int (same (by rw [q];exact⟨_,rfl⟩) (by rw [q];rfl))
 .exact wpAny_Constant_str (same (by rw [q];exact⟨_,rfl⟩) (by rw [q];rfl))
 .exact wpAny_Constant_bool (same (by rw [q];exact rfl) (by rw [q];rfl))
 .exact wpAny_Constant_none (same (by rw [q];exact rfl) (by rw [q];rfl))
 .exact wpAny_UnaryOp (wpAny_Constant_int (P.neg_int (same (by rw [q];exact⟨_,rfl⟩) (by rw [q];rfl))))
 .exact wpAny_Tuple_spliced (args_nil ⟨(by decide:(0:Nat)<=sizeLine),push (o:=oj) (by rw [q];exact⟨_,rfl,ez _ rfl⟩)⟩)
 .exact wpAny_List_spliced (args_nil ⟨(by decide:(0:Nat)<=sizeLine),push (o:=listOf #[] 0) (by rw [q];exact⟨_,rfl,ez _ rfl⟩)⟩)
 .exact wpAny_List_spliced (args_cons (wpAny_Constant_none (args_nil ⟨(by decide:(1:Nat)<=sizeLine),push (o:=listOf #[.none] 0) (by rw [q];exact⟨_,rfl,ez _ rfl⟩)⟩)) rfl)
 .exact wpAny_Dict_empty (push (o:=emptyDict) (by rw [q];exact⟨_,rfl,ez _ rfl⟩))
 .obtain⟨v,al⟩:=adE _ q
  obtain⟨gk,m,aX,av⟩:=id al
  exact wpAny_Name (wpAny_loadName_local N.kind gk aX av (same (by rw [q];exact al) (by rw [q];rfl))) (ia N k)
 .obtain⟨v,al⟩:=adF _ q
  exact Name_function_global N.kind (N.impl _ k) (loadGlobal_global (by rw [N.glob];exact bx) al (same (by rw [q];exact al) (by rw [q];rfl))) (ia N k)
theorem RefAt.mono{o:Obj}{u:Value}{a5:Addr}(r:RefAt h o u)(k:∀b o,b≠a5->h.get? b=some o->h'.get? b=some o)(aQ:u≠ .ref a5):RefAt h' o u:=by
 obtain⟨a,e,q⟩:=r
 exact⟨a,e,k a _ (λq=>aQ (e.trans (congrArg _ q))) q⟩
theorem IvR.mono{cp:Iv}{u:Value}{a5:Addr}(eJ:env.locals≠a5)(k:∀b o,b≠a5->h.get? b=some o->h'.get? b=some o)(aQ:cp.new=true->u≠ .ref a5)(r:IvR env bp h cp u):IvR env bp h' cp u:=by
 rcases cp
 case tup0=>exact RefAt.mono r k (aQ rfl)
 case list0=>exact RefAt.mono r k (aQ rfl)
 case listN=>exact RefAt.mono r k (aQ rfl)
 case dict0=>exact RefAt.mono r k (aQ rfl)
 case arg=>exact NameAt.keep r λo e=>k _ o eJ e
 all_goals exact r
theorem IvR.live{cp:Iv}(n:cp.new=true)(r:IvR env bp h cp (.ref a)):∃o,h.get? a=some o:=by
 have key:∀{o},RefAt h o (.ref a)->∃o,h.get? a=some o:=λq=>by
  obtain⟨b,e,q⟩:=q
  exact⟨_,Value.ref.inj e▸q⟩
 rcases cp
 case tup0=>exact key r
 case list0=>exact key r
 case listN=>exact key r
 case dict0=>exact key r
 all_goals exact c2 n
structure IniOk (env:Env) (bp:Str->Option Value) (a5:Addr) (h h':Heap) (es dN:List DictEntry) (L:List (Str×Iv)) (aU:List Value):Prop where
 keep:∀b o,b≠a5->h.get? b=some o->h'.get? b=some o
 dict:∃n,h'.get? a5=some (dictOf dN n)
 amS:noRef dN
 len:dN.length<=es.length+L.length
 all:aU.length=L.length
 other:∀name,name∉L.map (·.1)->getL name dN=getL name es
 at_:∀(k:Nat) a cp u,L[k]? =some (a,cp)->aU[k]? =some u->getL a dN=some (some u)/\IvR env bp h' cp u/\yb cp h u
 apart:∀(i j:Nat) a cp nY ol u,i<j->L[i]? =some (a,cp)->L[j]? =some (nY,ol)->cp.new=true->ol.new=true->aU[i]? =some u->aU[j]? ≠some u
section
variable {a5:Addr}{h aB a8 h':Heap}{es dN:List DictEntry}{L:List (Str×Iv)}{aU:List Value}{a:Str}{cp:Iv}{u:Value}{dT:Int}{t:Tok}
theorem adG{name:Str}(yc:noRef es)(gD:a≠name):getL name (putL a dT (.str a t) u es)=getL name es:=by
 obtain⟨o,aG⟩:=yc.get name
 exact((mS aG).SM (xT a t) (λ_ _=>rfl) gD).get.trans aG.symm
theorem IniOk.cons(eJ:env.locals≠a5){od:Obj}(aQ:h.get? a5=some od)(yc:noRef es)(k₁:∀b o,h.get? b=some o->aB.get? b=some o)(r₁:IvR env bp aB cp u)(yd:yb cp h u)(j6:∀b o,b≠a5->aB.get? b=some o->a8.get? b=some o){adH:Obj}(ye:a8.get? a5=some adH)(adI:a∉L.map (·.1))(I:IniOk env bp a5 a8 h' (putL a dT (.str a t) u es) dN L aU):IniOk env bp a5 h h' es dN ((a,cp)::L) (u::aU):=by
 have step:∀b o,b≠a5->h.get? b=some o->a8.get? b=some o:=λb o ne e=>j6 b o ne (k₁ b o e)
 have Fa:cp.new=true->u≠ .ref a5:=λq e=>by
  obtain⟨b,bq,ao⟩:=yd q
  rw[Value.ref.inj (bq.symm.trans e)] at ao
  exact aI (ao.symm.trans aQ)
 have back:∀{c},a8.get? c=none->h.get? c=none:=λ{c} ap=>by
  rcases e:h.get? c with _|o
  .rfl
  .exact aI (ap.symm.trans (step c o (λq=>aI (ap.symm.trans (q▸ye))) e))
 refine⟨λb o ne e=>I.keep b o ne (step b o ne e),I.dict,I.amS,?_,congrArg Nat.succ I.all,λname aX=>?_,λk b ol ea aj bG=>?_,λi j b Oh hC Oi ea lx hi bt dB d9 Oj=>?_⟩
 .refine aT I.len (aT (jC xQ _) (dW ?_))
  rw[kk,jE,jG 1]
 .rw[km,qZ,not_or] at aX
  exact(I.other name aX.2).trans (adG yc λq=>aX.1 q.symm)
 .rcases k with _|k
  .have bG:u=ea:=Option.some.inj bG
   obtain⟨o,aG⟩:=yc.get a
   rw[<-bG]
   exact pI aj (P:=λb ol=>getL b dN=some (some u)/\IvR env bp h' ol u/\yb ol h u) ⟨(I.other a adI).trans ((mS aG).put (xT a t)).get,(r₁.mono eJ j6 Fa).mono eJ I.keep Fa,yd⟩
  .obtain⟨bU,bZ,dJ⟩:=I.at_ k b ol ea aj bG
   exact⟨bU,bZ,λq=>(dJ q).imp λ_ p=>⟨p.1,back p.2⟩⟩
 .rcases i with _|i
  .rcases j with _|j
   .exact absurd lx (qY _)
   .have bG:u=ea:=Option.some.inj Oj
    have e2:cp=Oh:=(Prod.mk.inj (Option.some.inj hi)).2
    rw[<-e2] at dB
    rw[<-bG]
    intro bG
    obtain⟨_,_,dJ⟩:=I.at_ j hC Oi u bt bG
    obtain⟨c,e,ap⟩:=dJ d9
    have Ol:=Fa dB
    rw[e] at r₁ Ol
    obtain⟨o,aG⟩:=r₁.live dB
    exact aI (ap.symm.trans (j6 c o (λq=>Ol (congrArg _ q)) aG))
  .rcases j with _|j
   .exact absurd lx (zV _)
   .exact I.apart i j b Oh hC Oi ea (oJ lx) hi bt dB d9 Oj
end
structure IniF (K:Frag) (C x a5:Addr) (sc:Scope) (env:Env) (h0:Heap):Prop where
 N:EnvR sc env
 KI:K.In h0
 self:lk sc.names eV=some .local
 L:env.locals≠a5
 x:x≠a5
 G:mainGlobals≠a5
 d:h0.get? a5=none
structure IniAt (K:Frag) (C x a5:Addr) (env:Env) (bp:Str->Option Value) (h0 h:Heap) (es:List DictEntry) (n:Nat) (L:List (Str×Iv)):Prop where
 nd:(L.map (·.1)).Nodup
 set:∀a∈L.map (·.1),hp K C a=true
 up:∀b o,h0.get? b=some o->h.get? b=some o
 g:h.Ns mainGlobals bp
 xo:h.get? x=some (instObj C a5)
 d:h.get? a5=some (dictOf es n)
 nr:noRef es
 len:es.length+L.length<=800
 self:NameAt env h eV (.ref x)
 arg:∀y a,(a,Iv.arg y)∈L->∃v,NameAt env h y v
 glob:∀y a,(a,Iv.glob y)∈L->∃v,bp y=some v
theorem Om{C x a5:Addr}{h0:Heap}(F:IniF K C x a5 sc env h0){Q:Flow->Shared->Prop}:
  ∀{cB:List Stmt}{L:List (Str×Iv)}{h:Heap}{aF n:Nat}{es:List DictEntry},ivs sc cB=some L->IniAt K C x a5 env bp h0 h es n L->
  (∀h' dC dN aU,IniOk env bp a5 h h' es dN L aU->wpAny (model prog w) A (execs bu env) Q E {s with heap:=h',toks:=dC})->wpAny (model prog w) A (execs (cB++bu) env) Q E {s with heap:=h,toks:=aF}
 |[],L,h,aF,n,es,kM,Z,ak=>by
  refine ak h aF es [] ?_
  rw[<-Option.some.inj kM]
  exact⟨λ_ _ _ e=>e,⟨n,Z.d⟩,Z.nr,cq _,rfl,λ_ _=>rfl,λk a cp u e=>aI e,λi j a cp nY ol u _ e=>aI e⟩
 |st::cB,L,h,aF,n,es,kM,Z,ak=>by
  obtain⟨⟨a,e⟩,e1,kM⟩:=bD kM
  obtain⟨cp,On,kM⟩:=bD kM
  obtain⟨adJ,adK,kM⟩:=bD kM
  obtain⟨fm,cj,pp,e1⟩:=adC e1
  rw[<-Option.some.inj kM] at Z ak
  have nd:=List.nodup_cons.mp Z.nd
  rw[tu,e1]
  refine wpAny_execs_cons (plainObj_wpAny_Assign_Attribute ?_ (xK (adz On) _ rfl _ _))
  refine adD F.N Z.g On (λy q=>Z.arg y a (q▸ .head _)) (λy q=>Z.glob y a (q▸ .head _)) λaB bh u k₁ r₁ yd=>?_
  obtain⟨ks,m,aX,av⟩:=Z.self.keep (h':=aB) λo e=>k₁ _ o e
  refine wpAny_Name (wpAny_loadName_local F.N.kind ks aX av ?_) (ia F.N F.self)
  obtain⟨o,aG⟩:=Z.nr.get a
  have len:es.length+1+adJ.length<=800:=aT (dW (by rw [jE,jG 1];rfl)) Z.len
  refine No (s:={s with heap:=aB,toks:=_}) (F.KI.keeps λb o e=>k₁ b o (Z.up b o e)) (k₁ _ _ Z.xo) (k₁ _ _ Z.d) (Z.set a (.head _)) (mS aG) (aT (aT (eZ _ _) Z.len) (by decide)) λa8 dT t db ye oa b8=>?_
  have j6:=SameBut.ext' oa
  have step:∀b o,b≠a5->h.get? b=some o->a8.get? b=some o:=λb o ne e=>j6 b o ne (k₁ b o e)
  have yf:a8.Ns mainGlobals bp:=Z.g.at' λo e=>step _ o F.G e
  exact Om F adK ⟨nd.2,λb ao=>Z.set b (.tail _ ao),λb o e=>step b o (λq=>aI (F.d.symm.trans (q▸e))) (Z.up b o e),yf,step _ _ F.x Z.xo,ye,Z.nr.put,aT (jC xQ _) len,Z.self.keep λo e=>step _ o F.L e,
   λy b ao=>(Z.arg y b (.tail _ ao)).imp λv al=>al.keep λo e=>step _ o F.L e,λy b ao=>Z.glob y b (.tail _ ao)⟩ λbN gX adL aU I=>ak bN gX adL (u::aU) (I.cons F.L Z.d Z.nr k₁ r₁ yd j6 ye nd.1)
end
section
theorem adM{C fI:Addr}{R:Result->Shared->Prop}{bu:List Value}(X:K.In s.heap)(av:makesIn K C=true)(hi:findIn K (.ref C) "__init__"=some (some (.ref fI)))(a6:isFn K (.ref fI)=true)(h:codeAny (model prog w) (A.under (.builtin "type.__call__" ⟨.ref C::bu,[]⟩)) (.call (.ref fI) ⟨.ref (s.heap.objs.size+1)::bu,[]⟩) (InitBack (s.heap.objs.size+1) R) {s with heap:=(s.heap.push emptyDict).push (instObj C s.heap.objs.size)}):
  codeAny (model prog w) A (.call (.ref C) ⟨bu,[]⟩) R s:=by
 obtain⟨hh,g,d,t,os⟩:=s
 exact make_core (makes_of X av) (looks_findIn X hi) (λself=>bind_fn X self (beq_iff_eq.mp a6)) (.inl rfl) h
theorem Oo(C:Addr)(bu:List Value):(Code.builtin "type.__call__" ⟨.ref C::bu,[]⟩).weight=1:=by rfl'
theorem adN(C:Addr)(bu:List Value):(Code.builtin "type.__call__" ⟨.ref C::bu,[]⟩).cUnits=1:=by rfl'
structure Inst (K:Frag) (bp:Str->Option Value) (h0:Heap) (C:Addr) (fn:Fn) (ps:List Str) (yg yh:List Stmt) (L:List (Str×Iv)):Prop where
 NL:h0.NoLimit
 KI:K.In h0
 g:h0.Ns mainGlobals bp
 make:makesIn K C=true
 init:∃fI,findIn K (.ref C) "__init__"=some (some (.ref fI))/\isFn K (.ref fI)=true/\FnOk h0 K fn (.ref fI)
 bd:fn.bd=yg++yh
 ivs:ivs fn.sc yg=some L
 nd:(L.map (·.1)).Nodup
 len:L.length<=800
 set:∀a∈L.map (·.1),hp K C a=true
 ps:fn.ps=eV::ps
 loc:∀y∈fn.ps,lk fn.sc.names y=some .local
 arg:∀y a,(a,Iv.arg y)∈L->y∈fn.ps
 glob:∀y a,(a,Iv.glob y)∈L->∃v,bp y=some v
structure Made (bp:Str->Option Value) (C:Addr) (fn:Fn) (L:List (Str×Iv)) (bu:List Value) (h:Heap) (a5:Addr) (env:Env) (bN b5:Heap) (es:List DictEntry) (aU:List Value):Prop where
 N:EnvR fn.sc env
 cl:∃n,env.cells=cellsFrom n fn.sc.names []
 d0:h.get? a5=none
 x0:h.get? (a5+1)=none
 L0:h.get? env.locals=none
 nd:env.locals≠a5
 nx:env.locals≠a5+1
 L3:∃o,bN.get? env.locals=some o
 k3:∀b o,h.get? b=some o->bN.get? b=some o
 k4:∀b o,h.get? b=some o->b5.get? b=some o
 x3:bN.get? (a5+1)=some (instObj C a5)
 x4:b5.get? (a5+1)=some (instObj C a5)
 d3:bN.get? a5=some emptyDict
 I:IniOk env bp a5 bN b5 [] es L aU
 nm:∀y v,y∈fn.ps->(fn.ps.zip (.ref (a5+1)::bu)).lookup y=some v->NameAt env b5 y v
theorem Fb{h0:Heap}{C:Addr}{fn:Fn}{ps:List Str}{yg yh:List Stmt}{L:List (Str×Iv)}(Z:Inst K bp h0 C fn ps yg yh L){bu:List Value}(fX:A.depth+1<recursionLimit)(up:∀b o,h0.get? b=some o->s.heap.get? b=some o)(ag:bu.length=ps.length)(k:∀a5 env bN b5 g0 es aU ie,Made bp C fn L bu s.heap a5 env bN b5 es aU->wpAny (model prog w) ((A.under (.builtin "type.__call__" ⟨.ref C::bu,[]⟩)).deeper env) (execs yh env) (λf bQ=>nQ f= .none/\Q (.ref (a5+1)) bQ) ie {s with heap:=b5,toks:=g0}):wpAny (model prog w) A (call (.ref C) bu) Q E s:=by
 obtain⟨fI,hi,a6,su⟩:=Z.init
 refine wpAny_call (adM (K:=K) (Z.KI.keeps up) Z.make hi a6 ?_)
 have d0:=ji s.heap
 have x0:s.heap.get? (s.heap.objs.size+1)=none:=xG (cG _)
 have hb:∀b o,s.heap.get? b=some o->((s.heap.push emptyDict).push (instObj C s.heap.objs.size)).get? b=some o:=λb o e=>ey _ (ey _ e)
 have xr:(s.heap.push emptyDict).objs.size=s.heap.objs.size+1:=kl ..
 have kz:((s.heap.push emptyDict).push (instObj C s.heap.objs.size)).get? (s.heap.objs.size+1)=some (instObj C s.heap.objs.size):=xr▸ez (s.heap.push emptyDict) (o:=instObj C s.heap.objs.size) rfl
 have d2:((s.heap.push emptyDict).push (instObj C s.heap.objs.size)).get? s.heap.objs.size=some emptyDict:=ey _ (ez _ rfl)
 have qa:((s.heap.push emptyDict).push (instObj C s.heap.objs.size)).objs.size=s.heap.objs.size+2:=(kl ..).trans (congrArg Nat.succ xr)
 have len:(Value.ref (s.heap.objs.size+1)::bu).length=fn.ps.length:=by rw [Z.ps];exact congrArg Nat.succ ag
 refine Dl (s:={s with heap:=(s.heap.push emptyDict).push (instObj C s.heap.objs.size)}) Z.NL su (show A.depth+(Code.builtin "type.__call__" _).weight<recursionLimit from (Oo C bu).symm▸fX) (λb o e=>hb b o (up b o e)) (dW len) (by rw [len,wg];exact iB _) λdv env c1 ie aL=>?_
 have x:=aL.x
 have ao:lD fn.ps (Value.ref (s.heap.objs.size+1)::bu) dv=fn.ps.zip (Value.ref (s.heap.objs.size+1)::bu):=by
  unfold lD
  rw[len,wg,Nat.sub_zero,zR,eh]
 rw[ao] at x
 have yi:((fn.ps.zip (Value.ref (s.heap.objs.size+1)::bu)).map (·.1)).Nodup:=by
  rw[LN (dW len.symm)];exact su.nd
 have fr:s.heap.objs.size+2<=env.locals:=qa▸x.toInCall.fresh
 have ns:=x.toInCall.ns
 obtain⟨bN,gX,uP,k3⟩:=x.done
 rw[uP] at ns |-
 have q3:∀b o,s.heap.get? b=some o->bN.get? b=some o:=λb o e=>k3 b o (hb b o e)
 have nd:env.locals≠s.heap.objs.size:=(gP (me (qR (qV _)) fr)).symm
 have nx:env.locals≠s.heap.objs.size+1:=(gP (me (qV _) fr)).symm
 have L0:s.heap.get? env.locals=none:=xG (aT (eZ _ 2) fr)
 have L3:∃o,bN.get? env.locals=some o:=by
  obtain⟨o,_,_,e,_⟩:=ns
  exact⟨o,e⟩
 have back:∀{b},s.heap.get? b=none->h0.get? b=none:=gU λb o e=>⟨o,up b o e⟩
 have nm:∀y v,y∈fn.ps->(fn.ps.zip (Value.ref (s.heap.objs.size+1)::bu)).lookup y=some v->NameAt env bN y v:=λy v aY e=>⟨aL.N.loc y (Z.loc y aY),_,ns,(rL (aL.N.loc y (Z.loc y aY)) _ yi).trans (by rw [e];rfl)⟩
 have aJ:eV∈fn.ps:=Z.ps▸ .head _
 rw[Z.bd]
 refine Om (n:=0) (es:=[]) ⟨aL.N,Z.KI,Z.loc _ aJ,nd,qT _,λq=>?_,back d0⟩ Z.ivs ⟨Z.nd,Z.set,λb o e=>q3 b o (up b o e),Z.g.at' λo e=>q3 _ o (up _ o e),k3 _ _ kz,k3 _ _ d2,rfl,aT (dW (mf _)) Z.len,nm _ _ aJ (by rw [Z.ps];exact n2),
  λy b ao=>(w8 (Z.arg y b ao) (dW len.symm)).imp λv e=>nm y v (Z.arg y b ao) e,Z.glob⟩ λb5 g0 es aU I=>?_
 .obtain⟨o,_,_,aG,_⟩:=Z.g
  exact aI ((back d0).symm.trans (q▸aG))
 .have Ab:∀b o,s.heap.get? b=some o->b5.get? b=some o:=λb o e=>I.keep b o (λq=>aI (d0.symm.trans (q▸e))) (q3 b o e)
  exact wpAny_mono (k s.heap.objs.size env bN b5 g0 es aU ie ⟨aL.N,aL.cl,d0,x0,L0,nd,nx,L3,q3,Ab,k3 _ _ kz,I.keep _ _ (qT _) (k3 _ _ kz),k3 _ _ d2,I,λy v aY e=>(nm y v aY e).keep λo e=>I.keep _ o nd e⟩) (λ_ _ h=>h) λ_ _ h=>h
def qf(g:Gh)(x a5 dZ:Addr):Gh:={(g.add dZ oj).add x (instObj g.ta.fg a5) with dd:=g.dd++[(x,a5)]}
structure DeclN (g:Gh) (h:Heap) (x a5 dZ:Addr) (es:List DictEntry) (n:Nat) (t:Tok):Prop where
 hx:h.get? x=some (instObj g.ta.fg a5)
 v0:h.get? a5=some (dictOf es n)
 vY:h.get? dZ=some oj
 len:es.length<=100
 bases:getL lc es=some (some (.ref dZ))
 body:getL fT es=some (some (.int (-1) t))
 ix:g.im x=none
 mx:x∉g.bW
 idx:g.im a5=none
 SQ:a5∉g.bW
 ib:g.im dZ=none
 mb:dZ∉g.bW
section
variable {x a5 dZ:Addr}{es:List DictEntry}{t:Tok} (Z:DeclN g h x a5 dZ es n t)
include Z
theorem DeclN.xd:x≠a5:=λe=>by
 have:=congrArg Obj.dict (Option.some.inj (Z.hx.symm.trans (e▸Z.v0)))
 exact nomatch this
theorem DeclN.xb:x≠dZ:=λe=>by
 have:=congrArg Obj.dict (Option.some.inj (Z.hx.symm.trans (e▸Z.vY)))
 exact nomatch this
theorem DeclN.bd:dZ≠a5:=λe=>by
 have:=congrArg Obj.data (Option.some.inj (Z.vY.symm.trans (e▸Z.v0)))
 exact nomatch this
theorem DeclN.SK:(g.add dZ oj).im x=none:=(Gh.g7 Z.xb).trans Z.ix
theorem DeclN.im(a:Addr)(o:Obj)(e:g.im a=some o):(qf g x a5 dZ).im a=some o:=Gh.hu Z.SK a o (Gh.hu Z.ib a o e)
theorem DeclN.amR:(qf g x a5 dZ).im dZ=some oj:=Gh.hu Z.SK dZ _ (Gh.jA _ _ _)
theorem DeclN.an2:(qf g x a5 dZ).im x=some (instObj g.ta.fg a5):=Gh.jA _ _ _
end
theorem Fc{x a5 dZ b:Addr}(aa:b≠x)(ah:b≠dZ):(qf g x a5 dZ).im b=g.im b:=(Gh.g7 (g:=g.add dZ oj) aa).trans (Gh.g7 ah)
theorem Op(g:Gh)(x a5 dZ:Addr):(qf g x a5 dZ).bW=g.bW++[a5]:=by
 unfold Gh.bW
 show _++(g.dd++[(x,a5)]).map (·.2)=_
 rw[nj,<-iA];rfl
theorem adO{a b:Array Value}(h:some (listOf a n)=some (listOf b m)):a=b:=by
 have h:=congrArg Obj.data (Option.some.inj h)
 injection h
def vh(H:T):T:={H with decls:=H.decls++[.int (-1)]}
theorem Cfg.decl(C:Cfg prog w H g h){x a5 dZ:Addr}{es:List DictEntry}{n nd adP:Nat}{vs:Array Value}{t:Tok}(eB:H.decls.length<60)(Z:DeclN g h x a5 dZ es n t)(aQ:h.get? g.ta.decls=some (listOf vs adP))(iJ:h'.get? g.ta.decls=some (listOf (vs.push (.ref x)) nd))(aJ:∀a o,a≠g.ta.decls->h.get? a=some o->h'.get? a=some o):Cfg prog w (vh H) (qf g x a5 dZ) h':=by
 have D:=C.tok
 have S:=D.six
 have cj:=D.apart
 have Oq:g.ta.decls∈g.bW:=jD _ xR
 have len:(vh H).decls.length=H.decls.length+1:=d5
 have le:H.bP (vh H):=Eu H _ (len.symm▸cG _)
 have sb:∀{a},a∉g.bW->∀o,h.get? a=some o->h'.get? a=some o:=λm o=>aJ _ o λq=>m (q▸Oq)
 obtain⟨kA,m,e,b,c⟩:=D.decls
 rw[adO (e.symm.trans aQ)] at b
 refine⟨λa o e=>?_,λa o e=>Z.im a o (C.base a o e),Np C.ok _,⟨Z.im _ _ D.tab,D.cU.to rfl Z.im,λq=>Z.im _ _ (D.host q),λq=>(D.hv q).to rfl Z.im,D.rows.to rfl Z.im le rfl λo=>aJ _ o S.ac,D.idx.to rfl Z.im le rfl λo=>aJ _ o S.bc,D.k2,
  ⟨_,nd,iJ,by rw [oM,b];show _=_::List.map _ (g.dd++[(x,a5)]);rw[nj];rfl,by rw [len,c];exact congrArg Nat.succ (d5 (as:=g.dd) (bs:=[(x,a5)])).symm⟩,λk p aS=>?_,
  D.du.to rfl rfl λo=>aJ _ o S.cd.symm,D.dfl.to (cq _) λo=>aJ _ o S.ce.symm,D.ew.to (cq _) λo=>aJ _ o S.cf.symm,?_,λa aw=>?_⟩,⟨len▸aT eB (aT (by decide) (eZ 64 H.cnt)),C.line.2⟩,C.mods⟩
 .rcases Gh.oH e with ⟨e1,e2⟩|e
  .rw[e1,<-e2];exact sb Z.mx _ Z.hx
  .rcases Gh.oH e with ⟨e1,e2⟩|e
   .rw[e1,<-e2];exact sb Z.mb _ Z.vY
   .exact aJ a o (λq=>aI ((D.out _ Oq).symm.trans (q▸e))) (C.bn a o e)
 .have aS:(g.dd++[(x,a5)])[k]? =some p:=aS
  rcases oP k g.dd.length with q|q
  .rw[mc q] at aS
   exact(D.decl k p aS).to rfl Z.im le (mc (c▸Nat.succ_lt_succ q)) λo=>aJ _ o (cj.ne _ xR _ (tm (oK aS))).symm
  .rw[nh q] at aS
   have z:k - g.dd.length=0:=Nat.lt_one_iff.mp (List.getElem?_eq_some_iff.mp aS).1
   rw[z] at aS
   rw[<-Option.some.inj (show some (x,a5)=some p from aS),tw (Io z) q]
   exact⟨Z.an2,es,n,sb Z.SQ _ Z.v0,Z.len,_,Z.bases,.tup Z.amR rfl rfl .nil,-1,t,.int (-1),Z.body,by rw [<-c];show (H.decls++[.int (-1)])[H.decls.length]? =_;rw[nh (cq _),wg];rfl,rfl⟩
 .rw[Op]
  exact List.nodup_append.mpr ⟨D.nd,List.nodup_cons.mpr ⟨kj,.nil⟩,λa aw b ao q=>Z.SQ ((q.trans (dG ao))▸aw)⟩
 .rw[Op] at aw
  rcases sh aw with q|q
  .exact(Fc (λe:a=x=>Z.mx (e▸q)) λe:a=dZ=>Z.mb (e▸q)).trans (D.out a q)
  .rw[q];exact(Fc Z.xd.symm Z.bd.symm).trans Z.idx
end
noncomputable def fnND:Fn:=⟨aA 60,[]⟩
noncomputable def fnDI:Fn:=⟨c5 55 0,[]⟩
def qg:=an "kind"
def qh:=an "decl"
def sv:=an "Decl"
def sw (i:Int) (x:Str):am:=[(cF,.tab,false),(qg,.int i,false),(ju,.str x,false)]
theorem adQ(i:Int)(x:Str):o9 fnND.ps [.tab,.int i,.str x] fnND.dfl=some (sw i x):=by rfl'
theorem Ot:lk fnND.sc.names cF=some .local:=by rfl'
theorem adR:lk fnND.sc.names qg=some .local:=by rfl'
theorem adS:lk fnND.sc.names ju=some .local:=by rfl'
theorem Fd:lk fnND.sc.names qh=some .local:=by rfl'
theorem adT:lk fnND.sc.names sv=some .globalImplicit:=by rfl'
theorem adU:lk fnND.sc.names dy=some .globalImplicit:=by rfl'
theorem Ou(i:Int)(x:Str):a2 (sw i x) cF=some (.tab,false):=by rfl'
theorem adV(i:Int)(x:Str):a2 (sw i x) qg=some (.int i,false):=by rfl'
theorem adW(i:Int)(x:Str):a2 (sw i x) ju=some (.str x,false):=by rfl'
def Fe:=an "did"
def anG:=an "params"
def declL:List (Str×Iv):=(ivs fnDI.sc fnDI.bd).getD []
theorem adX:ivs fnDI.sc fnDI.bd=some declL:=by rfl'
def vi (x:Str) (l:List Str):Bool:=l.any (a9 x)
def Ov:List Str->Bool
 |[]=>true
 |x::r=> !vi x r&&Ov r
theorem sx{l:List Str}(h:vi x l=false):x∉l:=λq=>nomatch (h.symm.trans (List.any_eq_true.mpr ⟨x,q,pf x⟩))
theorem Ow{l:List Str}(h:vi x l=true):x∈l:=by
 obtain⟨y,aY,e⟩:=List.any_eq_true.mp h
 exact sEq_iff.mp e▸aY
theorem yj:∀{l:List Str},Ov l=true->l.Nodup
 |[],_=> .nil
 |_::_,h=>List.nodup_cons.mpr ⟨sx (Bool.ti (aK h).1),yj (aK h).2⟩
theorem adY:(declL.map (·.1)).Nodup:=yj (by rfl')
theorem Ox:declL.length=15:=by rfl'
theorem adZ:∃k:Nat,declL[k]? =some (fT,Iv.int (-1)):=⟨4,by rfl'⟩
theorem ae0:∃k:Nat,declL[k]? =some (lc,Iv.tup0):=⟨5,by rfl'⟩
def ae1 (ps:List Str):Iv->Bool
 | .arg y=>vi y ps
 |_=>true
def ae2 (ps:List Str):Iv->Bool
 | .glob y=>vi y ps
 |_=>true
theorem Ff{L:List (Str×Iv)}{ps:List Str}(h:(L.all λp=>ae1 ps p.2)=true)(y a:Str)(m:(a,Iv.arg y)∈L):y∈ps:=Ow (List.all_eq_true.mp h _ m)
theorem Fg{L:List (Str×Iv)}{ps:List Str}(h:(L.all λp=>ae2 ps p.2)=true)(y a:Str)(m:(a,Iv.glob y)∈L):y∈ps:=Ow (List.all_eq_true.mp h _ m)
theorem Fh{ps:List Str}(h:(ps.all λy=>E8 (lk sc.names y))=true)(y:Str)(m:y∈ps):lk sc.names y=some .local:=Of (List.all_eq_true.mp h _ m)
theorem ae3:fnDI.ps=[eV,Fe,qg,ju]:=by rfl'
section
theorem ae4(i:Int)(x:Str):a2 (sw i x) qh=none:=by rfl'
theorem ae5(B:Bk prog w G ta K bp mb)(av:makesIn K ta.fg=true){fI:Addr}(hi:findIn K (.ref ta.fg) "__init__"=some (some (.ref fI)))(Fi:isFn K (.ref fI)=true)(su:FnOk ta.h0 K fnDI (.ref fI))(Fj:∀a∈declL.map (·.1),hp K ta.fg a=true):
  Inst K bp ta.h0 ta.fg fnDI [Fe,qg,ju] fnDI.bd [] declL:=
 ⟨B.tj,B.tp.gq,B.g,av,⟨fI,hi,Fi,su⟩,(eh _).symm,adX,adY,by rw [Ox];decide,Fj,ae3,Fh (by rfl'),Ff (by rfl'),λy a m=>nomatch Fg (ps:=[]) (by rfl') y a m⟩
theorem yk{aU:List Value}(h:aU.length=n)(aj:k<n):∃u,aU[k]? =some u:=⟨_,oI (h▸aj)⟩
theorem Oy{α:Type}{l:List α}{p:α}(h:l[k]? =some p):k<l.length:=(List.getElem?_eq_some_iff.mp h).1
section
variable {aF:Nat}
inductive DeclI (aB bN b5:Heap) (es:List DictEntry):Prop
 |mk (dZ:Addr) (t:Tok) (n:aB.get? dZ=none) (o:b5.get? dZ=some oj) (vj:getL fT es=some (some (.int (-1) t))) (vk:getL lc es=some (some (.ref dZ)))
theorem ae6{Oz:Env}{C:Addr}{bu:List Value}{aB bN b5:Heap}{a5:Addr}{es:List DictEntry}{aU:List Value}(M:Made bp C fnDI declL bu aB a5 Oz bN b5 es aU):DeclI aB bN b5 es:=by
 obtain⟨kb,OA⟩:=adZ
 obtain⟨OE,OF⟩:=ae0
 obtain⟨anH,ae7⟩:=yk M.I.all (Oy OA)
 obtain⟨anI,ae8⟩:=yk M.I.all (Oy OF)
 obtain⟨vj,⟨vl,gn⟩,_⟩:=M.I.at_ kb _ _ _ OA ae7
 obtain⟨vk,⟨dZ,fM,vY⟩,ae9⟩:=M.I.at_ OE _ _ _ OF ae8
 obtain⟨anJ,e,yl⟩:=ae9 rfl
 rw[gn] at vj
 rw[fM] at vk e
 rw[<-Value.ref.inj e] at yl
 exact⟨dZ,vl,gU (λa o e=>⟨o,M.k3 a o e⟩) yl,vY,vj,vk⟩
theorem aea{en er e4 ij vf E4 iV aeb aec aed hg gV hj jT mC lr eT cP:Pos}{i:Int}{a4:Str}{cg ch nO cC:Str}{Q:Flow->Shared->Prop}(B:Bk prog w G ta K bp mb)(g3:G.free dy=true)(aee:Inst K bp ta.h0 ta.fg fnDI [Fe,qg,ju] fnDI.bd [] declL)(jY:bp sv=some (.ref ta.fg))(Fk:keepIn K (.ref ta.fg)=true)(ao:H.decls.length<60)(fX:A.depth+1<recursionLimit)(T:g.ta=ta)(N:EnvR fnND.sc env)(C:Cfg prog w H g h)(F:FrR prog w H g h env (sw i a4) ai)(nm:∀b∈g.bW,ai b=none){cu:Heap}(X:Ext g cu g h)(nL:cu.get? env.locals=none)(E5:(jT.endLine==lr.line)=true)(ak:∀au h' aF u,Ext g cu au h'->Cfg prog w (vh H) au h'->Val prog w (vh H) au au.im u (.decl H.decls.length)->Q (.ret u) {s with heap:=h',toks:=aF})(e1:cg=dy)(e2:ch=kt)(e3:nO=kt)(fH:cC=jd):
  wpAny (model prog w) A (execs (.Assign [.Name qh en] (.Call (.Name sv er) [.Call (.Name cg e4) [.Attribute (.Name cF ij) ch vf] [] E4,.Name qg iV,.Name ju aeb] [] aec) aed:: .Expr (.Call (.Attribute (.Attribute (.Name cF gV) nO hj) cC jT) [.Name qh mC] [] lr) hg:: .Return (some (.Name qh eT)) cP::bu) env) Q E {s with heap:=h,toks:=aF}:=by
 subst e1 e2 e3 fH
 have P:Tp g.ta K:=T▸B.tp
 have S:=C.tabS P
 have up:∀b o,ta.h0.get? b=some o->h.get? b=some o:=λb o e=>C.bn b o (C.base b o (T▸e))
 obtain⟨vs,aef,pR,Fm,aeg⟩:=C.tok.decls
 have gE:vs.size=H.decls.length:=by rw [aeg,<-tn,Fm,kk,eQ]
 have hY:vs.size<=sizeLine:=mL (gE▸aT (jH ao) (by decide))
 refine wpAny_execs_cons (wpAny_Assign_Name (Call_Name rfl (pB (s:={s with heap:=h,toks:=aF}) B C T N adT jY ?_)) (sd rfl qh en _ env))
 refine gi (P:=λh=>K.In h) rfl (λh X=>keeps_K Fk h X) ?_
 refine args_cons (Call_Name rfl (rO (s:={s with heap:=h,toks:=aF}) B C T N adU g3 ?_)) rfl
 refine gi (P:=λ_=>True) rfl (λh _=>lJ (DD dy)) ?_
 refine args_cons (sk (s:={s with heap:=h,toks:=aF}) N F S Ot (Ou i a4) (NS S.cU P) ?_) rfl
 refine args_nil ⟨trivial,?_⟩
 show wpAny _ A (call (.builtin "len") [.ref g.ta.decls]) _ _ _
 refine len_list ⟨_,pR,rfl,aef,rfl⟩ (EH hY) ?_
 refine args_cons (jh (s:={s with heap:=h,toks:=_}) N F (.inl adR) (adV i a4) λanK _=>?_) rfl
 refine args_cons (jh (s:={s with heap:=h,toks:=_}) N F (.inl adS) (adW i a4) λanL _=>?_) rfl
 refine args_nil ⟨C.gq (s:={s with heap:=h,toks:=0}) P,?_⟩
 rw[tA]
 refine Fb (s:={s with heap:=h,toks:=_}) aee fX up rfl λa5 Oz bN b5 g0 es aU ie M=>wpAny_execs_nil ⟨rfl,?_⟩
 obtain⟨dZ,vl,kD,Fo,vj,vk⟩:=ae6 M
 have f5:=C.grow M.k4
 have mN:=F.ext (.refl H) (Ext.grow g M.k4) f5.bn
 refine acD (s:={s with heap:=b5,toks:=g0}) N f5 mN Fd (ae4 i a4) λmO r5 Y=>?_
 obtain⟨OG,pr⟩:=(F.sep _ _ F.loc).live
 have Fp:∀{b},h.get? b=none->b≠env.locals:=λe q=>aI (e.symm.trans (q▸pr))
 have rV:g.ta.decls∈g.bW:=jD _ xR
 have OH:=Y.ext _ _ (λq=>aI ((nm _ rV).symm.trans (q▸F.loc))) (M.k4 _ _ pR)
 obtain⟨aeh,Fq⟩:=M.I.dict
 have OI:DeclN g mO (a5+1) a5 dZ es aeh vl:=⟨T▸Y.ext _ _ (Fp M.x0) M.x4,Y.ext _ _ (Fp M.d0) Fq,Y.ext _ _ (Fp kD) Fo,aT M.I.len (by rw [Ox];decide),vk,vj,C.g8 M.x0,C.l9 M.x0,C.g8 M.d0,C.l9 M.d0,C.g8 kD,C.l9 kD⟩
 refine NU N Y.F (Y.C.tabS P) Ot (Ou i a4) Fd Y.at_ (NS S.cU P) OH hY E5 λjs sr anM OJ D6=>?_
 have Fs:=SameBut.ext' D6
 have ss:=Y.C.decl ao OI OH OJ Fs
 have qe:Ext g cu g js:=((X.trans (Ext.grow g M.k4)).own nL Y.ext).mut rV Fs ⟨_,OJ⟩
 have rW:∀{b},h.get? b=none->cu.get? b=none:=gU X.live
 have aei:NameAt env js qh (.ref (a5+1)):=Y.at_.keep λo=>Fs _ o λq=>aI ((nm _ rV).symm.trans (q▸F.loc))
 refine wpAny_execs_cons (wpAny_Return_some (NameAt.ld (s:={s with heap:=js,toks:=_}) aei N Fd ?_))
 refine ak (qf g (a5+1) a5 dZ) js _ _ ⟨qe.ta,OI.im,λb o e=>Fc (λq=>aI ((rW M.x0).symm.trans (q▸e))) λq=>aI ((rW kD).symm.trans (q▸e)),qe.old,⟨[(a5+1,a5)],rfl,λp aS=>dG aS▸rW M.d0⟩,qe.live⟩ ss ?_
 obtain⟨_,_,_,_,OK⟩:=C.tok.decls
 refine⟨(a5+1,a5),OK▸gr (iB _),?_,rfl⟩
 show (g.dd++[(a5+1,a5)])[H.decls.length - 1]? =_
 rw[OK,ts,nh (cq _),wg];rfl
end
theorem aej(B:Bk prog w G ta K bp mb)(g3:G.free dy=true)(jY:bp sv=some (.ref ta.fg))(Fk:keepIn K (.ref ta.fg)=true)(av:makesIn K ta.fg=true){fI:Addr}(hi:findIn K (.ref ta.fg) "__init__"=some (some (.ref fI)))(Fi:isFn K (.ref fI)=true)(su:FnOk ta.h0 K fnDI (.ref fI))(Fj:∀a∈declL.map (·.1),hp K ta.fg a=true)(aL:FnOk ta.h0 K fnND (.ref a)){i:Int}{a4:Str}(ao:(H.bld&&Nat.blt H.decls.length 60)=true){el ep:Value}(fX:A.depth+2<recursionLimit)(T:g.ta=ta)(C:Cfg prog w H g s.heap)(qd:Val prog w H g g.im el (.int i))(Ft:Val prog w H g g.im ep (.str a4))(ak:∀au h' aF u,Ext g s.heap au h'->Cfg prog w (uC H) au h'->Val prog w (uC H) au au.im u (.decl H.decls.length)->Q u {s with heap:=h',toks:=aF}):wpAny (model prog w) A (call (.ref a) [.ref ta.tab,el,ep]) Q E s:=by
 have u7:Val prog w H g g.im (.ref ta.tab) .tab:=congrArg (λt:Ta=>Value.ref t.tab) T.symm
 refine xi B.tj (adQ i a4) aL (qS (qS fX)) T C (.cons u7 (.cons qd (.cons Ft .nil))) λenv aB bh ie Z=>?_
 exact aea B g3 (ae5 B av hi Fi su Fj) jY Fk (fi (aK ao).2) fX T Z.N Z.C Z.F (EW C Z.new) Z.X (Z.new _ .loc Z.F.loc) (by rfl') ak (by rfl') (by rfl') (by rfl') (by rfl')
end
set_option backward.match.sparseCases true in
theorem OL(env:Env)(b:List Stmt):∀a:List Stmt,execs (a++b) env=(execs a env>>=λf=>match f with| .next=>execs b env|f=>pure f)
 |[]=>by rw [tA,execs_nil,pure_bind]
 |st::a=>by
  rw[tu,execs_cons,execs_cons,bind_assoc]
  congr 1
  funext f
  cases f
  .exact OL env b a
  all_goals rw [pure_bind]
set_option backward.match.sparseCases true in
theorem OM{M:Model}{a b:List Stmt}{Q:Flow->Shared->Prop}(h:wpAny M A (execs a env) (λf bQ=>match f with| .next=>wpAny M A (execs b env) Q E bQ|f=>Q f bQ) E s):wpAny M A (execs (a++b) env) Q E s:=by
 rw[OL]
 refine wpAny_bind (wpAny_mono h (λf bQ h'=>?_) λ_ _ q=>q)
 cases f
 .exact h'
 all_goals exact wpAny_pure h'
noncomputable def lawFn:Fn:=⟨aA 165,[]⟩
def lS:=an "script"
def hq:=an "nums"
def kN:=an "tab"
def qi:=an "host"
theorem Fu:lawFn.ps=[lS]:=by rfl'
theorem Fv:lk lawFn.sc.names lS=some .local:=by rfl'
theorem ON:lk lawFn.sc.names hq=some .cell:=by rfl'
theorem lk_ltab:lk lawFn.sc.names kN=some .local:=by rfl'
theorem lk_lhost:lk lawFn.sc.names qi=some .local:=by rfl'
theorem OO:lk lawFn.sc.names dy=some .globalImplicit:=by rfl'
def IntsOf(vs:List Value)(ns:List Int):Prop:=∀im,RdL im vs (ns.map PyData.int)
theorem IntsOf.cons{n:Int}{t:Tok}{vs:List Value}{ns:List Int}(h:IntsOf vs ns):IntsOf (.int n t::vs) (n::ns):=λim=> .cons (.int n t) (h im)
theorem IntsOf.nil:IntsOf [] []:=λ_=> .nil
inductive IntAt (v:Value) (ns:List Int) (j:Nat):Prop
 |mk (k:Int) (t:Tok) (e:v= .int k t) (h:ns[j]? =some k)
theorem aek{vs:List Value}{ns:List Int}(h:IntsAre vs ns):∀{j:Nat}{v:Value},vs[j]? =some v->IntAt v ns j:=by
 induction h with
 |nil=>exact λh=>aI h
 |cons n t r bb=>
  intro j v h
  rcases j with _|j
  .exact⟨n,t,(Option.some.inj h).symm,rfl⟩
  .obtain⟨k,t,e,q⟩:=bb (j:=j) h
   exact⟨k,t,e,q⟩
theorem ael{vs:List Value}{ns:List Int}(h:IntsAre vs ns):∀n:Nat,IntsAre (vs.take n) (ns.take n):=by
 induction h with
 |nil=>intro n;rw[wd,wd];exact .nil
 |cons k t r bb=>
  intro n
  rcases n with _|n
  .exact .nil
  .exact .cons k t (bb n)
theorem aem{vs:List Value}{ns:List Int}(h:IntsAre vs ns):vs.length=ns.length:=by
 induction h with
 |nil=>rfl
 |cons _ _ _ bb=>exact congrArg Nat.succ bb
def ModOf(v y:Value):Prop:=∃k t jW,v=Value.int k t/\y=Value.int (k.fmod 999983) jW
theorem ModOf.int{n:Int}{t:Tok}{y:Value}(h:ModOf (.int n t) y):∃jW,y= .int (n.fmod 999983) jW:=by
 obtain⟨k,t1,t2,e1,e2⟩:=h
 injection e1 with e1
 exact⟨t2,e1▸e2⟩
inductive PairC (v:Value) (l cy:List Value):Prop
 |mk (y:Value) (r:List Value) (e:cy=y::r) (h:ModOf v y) (p:Paired ModOf l r)
noncomputable def OP(cy:List Value):List Value->Prop
 |[]=>cy=[]
 |v::l=>PairC v l cy
theorem OQ{l cy:List Value}(h:Paired ModOf l cy):OP cy l:=Paired.casesOn (motive:=λl cy _=>OP cy l) h rfl λa r=>⟨_,_,rfl,a,r⟩
theorem aen{l:List Value}{ns:List Int}(h:IntsAre l ns):∀{cy:List Value},Paired ModOf l cy->IntsOf cy (ns.map λk=>k.fmod 999983):=by
 induction h with
 |nil=>intro cy p;rw[show cy=[] from OQ p];exact .nil
 |cons n t r bb=>
  intro cy p
  obtain⟨y,q,e,h,p⟩:=OQ p
  obtain⟨jW,bq⟩:=h.int
  rw[e,bq]
  exact(bb p).cons
theorem aeo{α:Type}{a b:List α}(ag:a.length=b.length)(h:∀(j:Nat)(v:α),a[j]? =some v->b[j]? =some v):a=b:=List.ext_getElem? λi=>by
 rcases e:a[i]? with _|v
 .exact(List.getElem?_eq_none (ag▸List.getElem?_eq_none_iff.mp e)).symm
 .exact(h i v e).symm
noncomputable def ym:List Int->List Int
 |[]=>[11]
 |n::r=>n::r
def mW (aep:List Int):List Int:=ym ((aep.take 16).map λk=>k.fmod 999983)
theorem aeq{l:List Int}(h:l.length=0):ym l=[11]:=by rw [List.length_eq_zero_iff.mp h];rfl
theorem aer{l:List Int}(h:l.length≠0):ym l=l:=by
 rcases l with _|_
 .exact absurd rfl h
 .rfl
def lawRest:List Stmt:=lawFn.bd.drop 2
def ri (n:Nat):Stmt:=(lawFn.bd[n]?).getD (.Pass default)
theorem aes:lawFn.bd=ri 0::ri 1::lawRest:=by rfl'
section
structure NumsAt (h h':Heap) (c D:Addr) (cy:Array Value) (n:Nat) (l:List Int):Prop where
 keep:∀b o,b≠c->h.get? b=some o->h'.get? b=some o
 cell:h'.IsCell c (some (.ref D))
 new:h.get? D=none
 at_:h'.get? D=some (listOf cy n)
 rd:IntsOf cy.toList l
theorem aet{fm gF lE lF u4 Fw bU bZ dJ gY:Pos}{i7 hb:Nat}(N:EnvR lawFn.sc env){cu h:Heap}{aF:Nat}{c D:Addr}{cy:Array Value}{l:List Int}{cg:Str}(bx:h.Ns mainGlobals bp)(ao:h.Ns builtinsNs mb)(Fx:bp dy=none)(Fy:mb dy=some (.builtin "len"))(n3:env.kindOf hq=some .cell)(hP:env.cells.lookup hq=some c)(Z:NumsAt cu h c D cy n l)(hY:l.length<=16)(bG:A.units+100<cLine){Q:Flow->Shared->Prop}(ak:∀h' dC D cy n,NumsAt cu h' c D cy n (ym l)->wpAny (model prog w) A (execs bu env) Q E {s with heap:=h',toks:=dC})(e1:cg=dy):
  wpAny (model prog w) A (execs (.If (.Compare (.Call (.Name cg fm) [.Name hq gF] [] lE) [.Eq] [.Constant (.int 0) i7 lF] u4) [.Assign [.Name hq bU] (.List [.Constant (.int 11) hb bZ] dJ) gY] [] Fw::bu) env) Q E {s with heap:=h,toks:=aF}:=by
 subst e1
 have fl:cy.size=l.length:=(Z.rd λ_=>none).length.trans (eQ ..)
 refine wpAny_execs_cons (wpAny_If (wpAny_isTrue_Compare1 ?_ rfl))
 refine Call_Name rfl (Name_function_global N.kind (N.impl _ OO) (loadGlobal_builtin (by rw [N.glob];exact bx) Fx (by rw [N.blt];exact ao) Fy ?_) (ia N OO))
 refine gi (P:=λ_=>True) rfl (λh _=>lJ (λa q=>nomatch q)) ?_
 refine args_cons (wpAny_Name (wpAny_loadName_cell N.kind n3 hP Z.cell ?_) (ia N ON)) rfl
 refine args_nil ⟨trivial,?_⟩
 show wpAny _ A (call (.builtin "len") [.ref D]) _ _ _
 refine len_list ⟨_,Z.at_,rfl,n,rfl⟩ (EH (mL (fl▸aT hY (by decide)))) ?_
 refine wpAny_Constant_int ?_
 refine SeqAt.compareEq_reads (.int _ _) (.int _ _) rfl rfl (hZ (dh (aT (zT _ _) (fi rfl)) _) bG) (wpAny_truthy_bool ?_)
 have e7:(PyData.int cy.size).eqv (.int 0)=decide ((l.length:Int)=0):=by rw [fl];exact w1 _ _
 rcases eR (l.length=0) with cL|cL
 .refine NO (by rw [e7,cL];rfl) ?_
  refine wpAny_execs_cons (wpAny_Assign_Name (wpAny_List_spliced (args_cons (wpAny_Constant_int (args_nil ⟨(by decide:(1:Nat)<=sizeLine),?_⟩)) rfl)) (sd rfl hq bU _ env))
  obtain⟨o2,OR,hd2⟩:=Z.cell
  have fL:∀t b o,h.get? b=some o->(h.push (listOf #[.int 11 t] 0)).get? b=some o:=λt b o e=>ey _ e
  refine wpAny_storeName_cell N.kind n3 hP ⟨o2,fL _ _ _ OR,hd2⟩ λmO aeu E7=>?_
  have ext:=SameBut.ext' E7
  have OS:h.objs.size≠c:=λq=>aI ((ji h).symm.trans (q▸OR))
  refine wpAny_execs_nil (ak mO _ h.objs.size _ 0 ⟨λb o ne e=>ext b o ne (fL _ b o (Z.keep b o ne e)),aeu,?_,ext _ _ OS (ez _ rfl),by rw [aeq cL];exact IntsOf.nil.cons⟩)
  rcases e:cu.get? h.objs.size with _|o
  .rfl
  .exact aI ((ji h).symm.trans (Z.keep _ _ OS e))
 .refine NP (λq=>cL (Int.ofNat.inj (of_decide_eq_true (e7.symm.trans q)))) (wpAny_execs_nil (ak h _ D cy n ?_))
  rw[aer cL]
  exact Z
theorem NumsAt.of{h h' a8:Heap}{c D:Addr}{cy:Array Value}{l:List Int}{Fz:Option Value}(ap:h.IsCell c Fz)(yn:∀b o,h.get? b=some o->h'.get? b=some o)(hr:a8.IsCell c (some (.ref D)))(aJ:Heap.SameBut c h' a8)(OT:h.get? D=none)(hD:h'.get? D=some (listOf cy n))(FA:IntsOf cy.toList l):NumsAt h a8 c D cy n l:=by
 have ext:=SameBut.ext' aJ
 obtain⟨oc,r0,_⟩:=ap
 exact⟨λb o ne e=>ext b o ne (yn b o e),hr,OT,ext _ _ (λq=>aI (OT.symm.trans (q▸r0))) hD,FA⟩
noncomputable def vm(aF:Nat):Obj:={cls:=.type "slice",data:=.fields #[.none,.int 16 aF,.none]}
noncomputable def lT(r8:List Value):Obj:={cls:=.type "list",data:=.seq r8.toArray}
noncomputable def vo(a:Addr):Obj:={cls:=.type "list_iterator",data:=.fields #[.ref a,.int 0 0]}
theorem aev{fm gF lE lF:Pos}{fW:Nat}(N:EnvR lawFn.sc env){aF:Nat}{l:Addr}{vs:List Value}(lH:NameAt env h lS (.ref l))(eJ:h.IsList l vs.toArray)(al:vs.length<=63)(ak:∀(H1:Heap) dC,(∀b o,h.get? b=some o->H1.get? b=some o)->Q (.ref ((H1.push (lT (vs.take 16))).objs.size)) {s with heap:=(H1.push (lT (vs.take 16))).push (vo H1.objs.size),toks:=dC}):
  wpAny (model prog w) A (eval (.Subscript (.Name lS fm) (.Slice none (some (.Constant (.int 16) fW gF)) none lE) lF) env) (λv c1=>wpAny (model prog w) A (pyIter v) Q E c1) E {s with heap:=h,toks:=aF}:=by
 rw[eval_Subscript]
 refine wpAny_bind (NameAt.ld (s:={s with heap:=h,toks:=aF}) lH N Fv ?_)
 refine wpAny_bind (wpAny_holding (wpAny_Slice ?_))
 rw[evalPart_none]
 refine wpAny_pure ?_
 show wpAny _ A (eval (.Constant (.int 16) fW gF) env) _ _ _
 refine wpAny_Constant_int ?_
 refine wpAny_pure (wpAny_bind (wpAny_standAt ?_))
 have fL:∀b o,h.get? b=some o->(h.push (vm aF)).get? b=some o:=λb o e=>ey _ e
 have yo:(h.push (vm aF)).IsList l vs.toArray:=by
  obtain⟨o,e,q⟩:=eJ
  exact⟨o,fL _ _ e,q⟩
 refine tail_any (ops:=[.ref h.objs.size,.ref l]) (T:="list") (s:={s with heap:=h.push (vm aF),toks:=_}) (by obtain ⟨o,e,q,_⟩:=yo;exact⟨o,e,q⟩) slot_list_getitem.lookup ?_ rfl
 refine wpAny_getItem_list_slice (lo:=none) (hi:=some ((16:Nat):Int)) (st:=none) (s:={s with heap:=h.push (vm aF),toks:=_}) yo (v6 ..) .none (.int _ _) .none (by simp) ?_ (by rw [qQ];exact mL (aT al (by decide)))
 rw[slicePick_upto',List.toList_toArray]
 exact wpAny_pyIter_list ⟨_,ez _ rfl,rfl,_,rfl⟩ (ak (h.push (vm aF)) _ fL)
theorem aew(N:EnvR lawFn.sc env)(hh:A.handled=none)(bG:A.units+100<cLine){aF:Nat}{l c:Addr}{vs:List Value}{ns:List Int}{Fz:Option Value}(bx:h.Ns mainGlobals bp)(ao:h.Ns builtinsNs mb)(Fx:bp dy=none)(Fy:mb dy=some (.builtin "len"))(lH:NameAt env h lS (.ref l))(n3:env.kindOf hq=some .cell)(hP:env.cells.lookup hq=some c)(ap:h.IsCell c Fz)(eJ:h.IsList l vs.toArray)(hI:IntsAre vs ns)(aX:ns.length<=63)(OU:mainGlobals≠c/\builtinsNs≠c){Q:Flow->Shared->Prop}(ak:∀h' dC D cy n,NumsAt h h' c D cy n (mW ns)->wpAny (model prog w) A (execs lawRest env) Q E {s with heap:=h',toks:=dC}):
  wpAny (model prog w) A (execs lawFn.bd env) Q E {s with heap:=h,toks:=aF}:=by
 have Fm:vs.length<=63:=by rw [aem hI];exact aX
 rw[aes]
 refine wpAny_execs_cons (wpAny_Assign_Name (wpAny_ListComp_walk (λ_=>true) ModOf (by decide) (by decide) rfl (by decide) (by rfl') ?_ (by intro _;with_unfolding_all rfl)) ?_)
 .refine aev N lH eJ Fm λH1 anN fL=>?_
  have OV:=ael hI 16
  have aex:(vs.take 16).length<=16:=It 16 vs
  have aey:((ns.take 16).map λk=>k.fmod 999983).length<=16:=by rw [eQ];exact It 16 ns
  have OW:∀b o,H1.get? b=some o->(H1.push (lT (vs.take 16))).get? b=some o:=λb o e=>ey _ e
  have aez:(H1.push (lT (vs.take 16))).IsList H1.objs.size (vs.take 16).toArray:=⟨_,ez _ rfl,rfl,_,rfl⟩
  have qa:(H1.push (lT (vs.take 16))).objs.size=H1.objs.size+1:=kl ..
  have OX:∀b o,h.get? b=some o->((H1.push (lT (vs.take 16))).push (vo H1.objs.size)).get? b=some o:=λb o e=>ey _ (OW b o (fL b o e))
  have e1:((H1.push (lT (vs.take 16))).push (vo H1.objs.size)).objs.size=H1.objs.size+2:=(kl ..).trans (congrArg Nat.succ qa)
  refine⟨(H1.push (lT (vs.take 16))).objs.size,_,_,_,_,_,rfl,wh hh (H1.push (lT (vs.take 16))).objs.size H1.objs.size (by rw [qa];exact gP (qV _)) (vs.take 16).toArray,?_,⟨⟨vo H1.objs.size,ez _ rfl,rfl,rfl⟩,aez.push _⟩,λb ao=>?_,⟨λC i v kI aeA ie _ _ _ _ _=>wpAny_tests_nil ⟨rfl,kI.heap,kI.toks,rfl,λ_ _ e=>e⟩,λC i v kI aeA ie qj _ aeB OY _ _=>?_⟩,λD h' dC cy kA hD anO aeC eB qj dY aj=>?_⟩
  .rw[qQ];exact mL (aT aex (by decide))
  .show b<((H1.push (lT (vs.take 16))).push (vo H1.objs.size)).objs.size
   rw[e1]
   rcases List.mem_cons.mp ao with q|q
   .rw[q,qa];exact qV _
   .rw[dG q];exact qR (qV _)
  .obtain⟨k,t,ev,aj⟩:=aek OV (show (vs.take 16)[i]? =some v by rwa [Ip] at qj)
   rw[ev] at OY |-
   refine wpAny_BinOp (wpAny_Name (wpAny_loadName_local rfl (by rfl') aeB OY ?_) (by decide))
   refine wpAny_Constant_int ?_
   exact mod_int' (by decide) ⟨⟨k,t,_,rfl,rfl⟩,kI.heap,_,rfl,λ_ _ e=>e⟩
  .have fK:kA=vs.take 16:=aeo (by rw [eB,qQ]) λj v e=>by have q:=qj j v e;rwa [Ip] at q
   rw[fK] at dY
   have yn:∀b o,h.get? b=some o->h'.get? b=some o:=λb o e=>aj b o (λq=>by
    have:=gs (OW _ _ (fL _ _ e))
    rw[dG q] at this
    exact qY _ this) (OX b o e)
   have FA:IntsOf cy.toList ((ns.take 16).map λk=>k.fmod 999983):=aen OV (by rwa [List.filter_eq_self.mpr λ_ _=>rfl] at dY)
   obtain⟨nD,xM⟩:=aeC
   refine wpAny_storeName_cell N.kind n3 hP (ap.keeps yn) λa8 hr oa=>?_
   have Z:=NumsAt.of ap yn hr oa (by
    rcases e:h.get? D with _|o
    .rfl
    .exact aI (hD.symm.trans (OX _ _ e))) xM FA
   exact aet N (bx.at' λo=>Z.keep _ o OU.1) (ao.at' λo=>Z.keep _ o OU.2) Fx Fy n3 hP Z aey bG ak (by rfl')
 .have e:∀(a b c d:Bool),b=false->(a&&b&&c&&d)=false:=by intro a b c d h;subst h;cases a<;>rfl
  exact congrArg pure (e _ _ _ _ (by show (env.kindOf hq==some .local)=false;rw[n3];rfl))
end
noncomputable def fnTI:Fn:=⟨c5 54 0,[]⟩
def tabL:List (Str×Iv):=(ivs fnTI.sc (fnTI.bd.take 9)).getD []
theorem aeD:ivs fnTI.sc (fnTI.bd.take 9)=some tabL:=by rfl'
theorem aeE:(tabL.map (·.1)).Nodup:=yj (by rfl')
theorem OZ:tabL.length=9:=by rfl'
theorem aeF:tabL[0]? =some (h6,Iv.list0):=by rfl'
theorem aeG:tabL[1]? =some (jc,Iv.dict0):=by rfl'
theorem aeH:tabL[2]? =some (kt,Iv.listN):=by rfl'
theorem aeI:tabL[3]? =some (ku,Iv.list0):=by rfl'
theorem aeJ:tabL[4]? =some (("defaults":Str),Iv.list0):=by rfl'
theorem aeK:tabL[5]? =some (("names":Str),Iv.list0):=by rfl'
theorem aeL:h7∉tabL.map (·.1):=sx (by rfl')
theorem FC:fnTI.ps=[eV]:=by rfl'
theorem anP:lk fnTI.sc.names eV=some .local:=by rfl'
theorem aeM(n:Nat):cellsFrom n fnTI.sc.names []=[]:=by rfl'
def aeN:List V:=(od (G0.val "FIRST_ROWS") kp).getD []
noncomputable def sigE:T:={base:=[],dyn:=[],bld:=true,decls:=[.none],bounds:=[],cnt:=0}
def jv:T:={base:=aeN,dyn:=[],bld:=true,decls:=[.none],bounds:=[],cnt:=16}
theorem aeO:bv G0 60 ⟨fnTI.sc,fnTI.bd⟩ [(eV,.tab,false)] (fnTI.bd.drop 9) sigE=some (.next,[(eV,.tab,false),(j5,.tup [.int 2,.int 1,.int 1],false)],jv):=by rfl'
theorem aeP:sigE.Ok:=⟨λ_ h=>(nomatch h),λ_ h=>(nomatch h),λ_ h=>(nomatch h),λ_=>rfl,(by decide),.nil,(by decide)⟩
structure TaOf (h0:Heap) (dx dO fd:Addr) (ta:Ta):Prop where
 h0:ta.h0=h0
 t:ta.gO=dx
 h:ta.qN=dO
 d:ta.fg=fd
structure Tops (prog:Program) (w:World) (h0:Heap) (K:Frag) (bp mb:Str->Option Value) (dx dO fd:Addr):Prop where
 bk:∀ta:Ta,TaOf h0 dx dO fd ta->Bk prog w G0 ta K bp mb
 SJ:∀ta:Ta,TaOf h0 dx dO fd ta->Prm prog w ta K bp
 body:hp K fd fT=true
 mods:∃o,h0.get? sysModules=some o
 amP:keepIn K (.ref dx)=true
 an1:bp "TypeTable"=some (.ref dx)
 tI:Inst K bp h0 dx fnTI [] (fnTI.bd.take 9) (fnTI.bd.drop 9) tabL
theorem aeQ{h0:Heap}{dx:Addr}(NL:h0.NoLimit)(KI:K.In h0)(g:h0.Ns mainGlobals bp)(make:makesIn K dx=true)(init:∃fI,findIn K (.ref dx) "__init__"=some (some (.ref fI))/\isFn K (.ref fI)=true/\FnOk h0 K fnTI (.ref fI))(set:∀a∈tabL.map (·.1),hp K dx a=true):
  Inst K bp h0 dx fnTI [] (fnTI.bd.take 9) (fnTI.bd.drop 9) tabL:=
 ⟨NL,KI,g,make,init,(v4 9 fnTI.bd).symm,aeD,aeE,by rw [OZ];decide,set,FC,Fh (by rfl'),Ff (by rfl'),λy a m=>nomatch Fg (ps:=[]) (by rfl') y a m⟩
theorem aeR{a b c d e f:Addr}(S:N6 a b c d e f):[a,b,c,d,e,f].Nodup:=by simp [S.ab,S.ac,S.ad,S.ae,S.af,S.bc,S.bd,S.be,S.bf,S.cd,S.ce,S.cf,S.de,S.df,S.ef]
theorem aeS{α:Type}{P:α->Prop}{a b c d e f:α}(h0:P a)(aa:P b)(ah:P c)(aC:P d)(bC:P e)(ee:P f):∀x∈[a,b,c,d,e,f],P x:=λx hx=>by
 rcases KJ hx with q|q|q|q|q|q<;>rw[q]<;>assumption
noncomputable def yp(ta:Ta):Gh:={ta:=ta,im:=ta.h0.get?,dd:=[]}
def mX(ta:Ta)(es:List DictEntry)(n:Nat):Gh:=((yp ta).add ta.cU (dictOf es n)).add ta.tab (instObj ta.gO ta.cU)
structure TabI (ta:Ta) (h bN b5:Heap) (es:List DictEntry) (n:Nat):Prop where
 rows:getL h6 es=some (some (.ref ta.rows))
 idx:getL jc es=some (some (.ref ta.idx))
 decls:getL kt es=some (some (.ref ta.decls))
 du:getL ku es=some (some (.ref ta.du))
 dfl:getL "defaults" es=some (some (.ref ta.dfl))
 ew:getL "names" es=some (some (.ref ta.ew))
 put:getL h7 es=some none
 o0:b5.get? ta.rows=some (listOf #[] 0)
 o1:b5.get? ta.idx=some emptyDict
 o2:b5.get? ta.decls=some (listOf #[.none] 0)
 o3:b5.get? ta.du=some (listOf #[] 0)
 o4:b5.get? ta.dfl=some (listOf #[] 0)
 o5:b5.get? ta.ew=some (listOf #[] 0)
 new:∀a∈[ta.rows,ta.idx,ta.decls,ta.du,ta.dfl,ta.ew],bN.get? a=none
 six:N6 ta.rows ta.idx ta.decls ta.du ta.dfl ta.ew
 hh:ta.hh=false
 up:∀b o,ta.h0.get? b=some o->h.get? b=some o
 k3:∀b o,h.get? b=some o->bN.get? b=some o
 k4:∀b o,h.get? b=some o->b5.get? b=some o
 d0:h.get? ta.cU=none
 x0:h.get? ta.tab=none
 ne:ta.tab≠ta.cU
 x3:∃o,bN.get? ta.tab=some o
 d3:∃o,bN.get? ta.cU=some o
 x4:b5.get? ta.tab=some (instObj ta.gO ta.cU)
 d4:b5.get? ta.cU=some (dictOf es n)
section
variable {h bN b5:Heap}{es:List DictEntry} (Z:TabI ta h bN b5 es n)
include Z
theorem TabI.back{b:Addr}(e:h.get? b=none):ta.h0.get? b=none:=gU (λa o e=>⟨o,Z.up a o e⟩) e
theorem TabI.ix:((yp ta).add ta.cU (dictOf es n)).im ta.tab=none:=(Gh.g7 Z.ne).trans (Z.back Z.x0)
theorem TabI.im{o:Obj}(e:ta.h0.get? a=some o):(mX ta es n).im a=some o:=Gh.hu Z.ix a o (Gh.hu (g:=yp ta) (Z.back Z.d0) a o e)
theorem TabI.inv{o:Obj}(e:(mX ta es n).im a=some o):ta.h0.get? a=some o\/(h.get? a=none/\b5.get? a=some o):=by
 rcases Gh.oH e with ⟨e1,e2⟩|e
 .rw[e1,<-e2];exact .inr ⟨Z.x0,Z.x4⟩
 .rcases Gh.oH e with ⟨e1,e2⟩|e
  .rw[e1,<-e2];exact .inr ⟨Z.d0,Z.d4⟩
  .exact .inl e
theorem TabI.no(e:h.get? a=none)(dB:a≠ta.tab)(d9:a≠ta.cU):(mX ta es n).im a=none:=(Gh.g7 (g:=(yp ta).add ta.cU (dictOf es n)) dB).trans ((Gh.g7 d9).trans (Z.back e))
theorem TabI.H8(m:a∈(mX ta es n).bW):bN.get? a=none:=Z.new a m
theorem TabI.H2(m:a∈(mX ta es n).bW):h.get? a=none:=gU (λa o e=>⟨o,Z.k3 a o e⟩) (Z.H8 m)
theorem TabI.cfg(mods:∃o,ta.h0.get? sysModules=some o):Cfg prog w sigE (mX ta es n) b5:=by
 have no:¬ta.hh=true:=λe=>nomatch (Z.hh.symm.trans e)
 refine⟨λa o e=>(Z.inv e).elim (λq=>Z.k4 _ _ (Z.up _ _ q)) (·.2),λa o e=>Z.im e,aeP,⟨Gh.jA _ _ _,⟨es,n,Gh.hu Z.ix _ _ (Gh.jA _ _ _),Z.rows,Z.idx,Z.decls,Z.du,Z.dfl,Z.ew,Z.put⟩,λq=>absurd q no,λq=>absurd q no,⟨#[],0,[],Z.o0,.nil,rfl⟩,
  ⟨emptyDict,#[],0,[],Z.o1,⟨rfl,rfl,rfl⟩,rfl,rfl,.nil,(λx hx=>nomatch hx),rfl,λi x hx=>aI hx⟩,?_,⟨#[.none],0,Z.o2,rfl,rfl⟩,λk p aS=>aI aS,⟨#[],0,Z.o3,rfl,λi z bi=>aI bi⟩,⟨#[],0,Z.o4,cq _⟩,⟨#[],0,Z.o5,cq _⟩,?_,λa aw=>?_⟩,⟨by decide,by decide⟩,mods⟩
 .obtain⟨o,aG⟩:=mods
  exact beq_eq_false_iff_ne.mpr λq=>aI ((Z.new _ uZ).symm.trans (q▸Z.k3 _ _ (Z.up _ _ aG)))
 .exact aeR Z.six
 .have e:=Z.H8 aw
  exact Z.no (Z.H2 aw) (λq=>Z.x3.elim λo aG=>aI (e.symm.trans (q▸aG))) λq=>Z.d3.elim λo aG=>aI (e.symm.trans (q▸aG))
end
inductive Fld (aU:List Value) (bN:Heap) (i:Nat) (a:Addr):Prop
 |mk (x:Str) (cp:Iv) (h:tabL[i]? =some (x,cp)) (n:cp.new=true) (u:aU[i]? =some (.ref a)) (z:bN.get? a=none)
inductive Fld0 (bp:Str->Option Value) (aU:List Value) (bN b5:Heap) (es:List DictEntry) (i:Nat) (x:Str) (o:Obj):Prop
 |mk (a:Addr) (f:Fld aU bN i a) (g:getL x es=some (some (.ref a))) (o:b5.get? a=some o)
section
variable {dx a5:Addr}{h bN b5:Heap}{es:List DictEntry}{aU:List Value}
theorem sy(I:IniOk env bp a5 bN b5 [] es tabL aU){cp:Iv}{o:Obj}(hi:i<9)(e:tabL[i]? =some (x,cp))(n:cp.new=true)(r:∀u,IvR env bp b5 cp u->RefAt b5 o u):Fld0 bp aU bN b5 es i x o:=by
 obtain⟨u,bG⟩:=yk (I.all.trans OZ) hi
 obtain⟨g,q,z⟩:=I.at_ i _ _ _ e bG
 obtain⟨a,fM,aG⟩:=r u q
 obtain⟨b,gn,bi⟩:=z n
 rw[fM] at bG g gn
 rw[<-Value.ref.inj gn] at bi
 exact⟨a,⟨x,cp,e,n,bG,bi⟩,g,aG⟩
theorem ik(I:IniOk env bp a5 bN b5 [] es tabL aU){a b:Addr}(p:Fld aU bN i a)(q:Fld aU bN j b)(lx:i<j):a≠b:=λe=>by
 obtain⟨_,_,hi,dB,bG,_⟩:=p
 obtain⟨_,_,bt,d9,al,_⟩:=q
 exact I.apart i j _ _ _ _ _ lx hi bt dB d9 bG (e▸al)
theorem Fld.new(p:Fld aU bN i a):bN.get? a=none:=by
 obtain⟨_,_,_,_,_,z⟩:=p
 exact z
theorem aeT{h0:Heap}(dO fd:Addr)(up:∀b o,h0.get? b=some o->h.get? b=some o)(M:Made bp dx fnTI tabL [] h a5 env bN b5 es aU):∃ta n,TaOf h0 dx dO fd ta/\ta.tab=a5+1/\ta.cU=a5/\TabI ta h bN b5 es n:=by
 have I:=M.I
 obtain⟨kO,iW,rh,o0⟩:=sy I (by decide) aeF rfl λ_ q=>q
 obtain⟨en,fH,g1,o1⟩:=sy I (by decide) aeG rfl λ_ q=>q
 obtain⟨er,gC,g2,o2⟩:=sy I (by decide) aeH rfl λ_ q=>q
 obtain⟨e4,f3,B6,o3⟩:=sy I (by decide) aeI rfl λ_ q=>q
 obtain⟨ij,jU,B7,o4⟩:=sy I (by decide) aeJ rfl λ_ q=>q
 obtain⟨vf,lu,B8,o5⟩:=sy I (by decide) aeK rfl λ_ q=>q
 obtain⟨n,aQ⟩:=I.dict
 exact⟨{tab:=a5+1,cU:=a5,rows:=kO,idx:=en,decls:=er,du:=e4,dfl:=ij,ew:=vf,host:=0,hv:=0,hh:=false,gO:=dx,qN:=dO,fg:=fd,h0:=h0},n,⟨rfl,rfl,rfl,rfl⟩,rfl,rfl,
  ⟨rh,g1,g2,B6,B7,B8,(I.other h7 aeL).trans rfl,o0,o1,o2,o3,o4,o5,aeS iW.new fH.new gC.new f3.new jU.new lu.new,
   ⟨ik I iW fH (by decide),ik I iW gC (by decide),ik I iW f3 (by decide),ik I iW jU (by decide),ik I iW lu (by decide),ik I fH gC (by decide),ik I fH f3 (by decide),ik I fH jU (by decide),ik I fH lu (by decide),ik I gC f3 (by decide),ik I gC jU (by decide),ik I gC lu (by decide),ik I f3 jU (by decide),ik I f3 lu (by decide),ik I jU lu (by decide)⟩,
   rfl,up,M.k3,M.k4,M.d0,M.x0,qT _,⟨_,M.x3⟩,⟨_,M.d3⟩,M.x4,aQ⟩⟩
end
structure TabN (prog:Program) (w:World) (h0:Heap) (dx dO fd:Addr) (h h':Heap) (g:Gh):Prop where
 ta:TaOf h0 dx dO fd g.ta
 hh:g.ta.hh=false
 C:Cfg prog w jv g h'
 keep:∀b o,h.get? b=some o->h'.get? b=some o
 inv:∀a o,g.im a=some o->h0.get? a=some o\/h.get? a=none
 mu:∀a∈g.bW,h.get? a=none
section
variable {h0:Heap}{dx dO fd:Addr}
theorem O0{L a:Addr}{r:Ro}(h:dw L [] a=some r):a=L:=by
 unfold dw at h
 rcases eR (a=L) with e|e
 .exact e
 .rw[if_neg e] at h;exact aI h
theorem aeU{a5:Addr}{h bN b5:Heap}{es:List DictEntry}{aU:List Value}(M:Made bp dx fnTI tabL [] h a5 env bN b5 es aU)(ap:env.cells=[])(e1:ta.tab=a5+1)(e2:ta.cU=a5)(Z:TabI ta h bN b5 es n):
  FrR prog w sigE (mX ta es n) b5 env [(eV,.tab,false)] (dw env.locals env.cells):=by
 obtain⟨k,m,aX,av⟩:=M.nm eV _ (FC▸ .head _) (by rw [FC];exact n2)
 obtain⟨OG,_,_,pr,_⟩:=id aX
 refine⟨⟨m,aX,λy u o aj aY=>?_⟩,λy a aY=>?_,if_pos rfl,λa r e=>?_,by rfl'⟩
 .obtain⟨e3,eN,kF⟩:=p9 aY
  rw[e3,<-eN,<-kF]
  exact⟨_,av,congrArg _ e1.symm⟩
 .rw[ap] at aY;exact aI aY
 .rw[ap] at e
  rw[O0 e]
  exact⟨Z.no M.L0 (e1.symm▸M.nx) (e2.symm▸M.nd),λq=>M.L3.elim λo aG=>aI ((Z.H8 q).symm.trans aG),OG,pr⟩
theorem aeV(P:Tops prog w h0 K bp mb dx dO fd)(hh:A.handled=none)(fX:A.depth+70<990)(bG:A.units+2000<cLine){aF:Nat}(up:∀b o,h0.get? b=some o->h.get? b=some o)(ak:∀h' dC (g:Gh),TabN prog w h0 dx dO fd h h' g->Q (.ref g.ta.tab) {s with heap:=h',toks:=dC}):wpAny (model prog w) A (call (.ref dx) []) Q E {s with heap:=h,toks:=aF}:=by
 refine Fb (s:={s with heap:=h,toks:=aF}) P.tI (me (show A.depth+1<990 by lia) (by decide)) up rfl λa5 env bN b5 g0 es aU ie M=>?_
 obtain⟨m,ap⟩:=M.cl
 have ap:env.cells=[]:=ap.trans (aeM m)
 obtain⟨ta,n,eU,e1,e2,Z⟩:=aeT dO fd up M
 have F:=aeU (prog:=prog) (w:=w) M ap e1 e2 Z
 have C:Cfg prog w sigE (mX ta es n) b5:=Z.cfg (eU.h0.symm▸P.mods)
 have S:=(EF (P.bk ta eU) (P.SJ ta eU) (eU.d.symm▸P.body) 60).s
 have aeW:Room ((A.under (.builtin "type.__call__" ⟨[.ref dx],[]⟩)).deeper env) 60:=by
  refine⟨hh,?_,?_⟩
  .show A.depth+(Code.builtin "type.__call__" ⟨.ref dx::[],[]⟩).weight+1+60<990
   rw[Oo];exact hZ (by lia) fX
  .show A.units+(Code.builtin "type.__call__" ⟨.ref dx::[],[]⟩).cUnits+3+20*60+400<cLine
   rw[adN];exact hZ (by lia) bG
 refine S ⟨fnTI.sc,fnTI.bd⟩ _ (fnTI.bd.drop 9) sigE .next _ jv aeO (by decide) _ env (dw env.locals env.cells) (mX ta es n) {s with heap:=b5,toks:=g0} _ _ aeW rfl M.N C F λau h' dC et f X k ct Gw iP Fl St=>?_
 obtain⟨e,_⟩:=Fl
 rw[e,<-e1]
 have FD:au.ta=ta:=X.ta
 refine⟨rfl,?_⟩
 have aeX:∀{b o},h.get? b=some o->dw env.locals env.cells b=none:=λ{b o} e=>by
  rcases q:dw env.locals env.cells b with _|r
  .rfl
  .rw[ap] at q
   exact aI (M.L0.symm.trans (O0 q▸e))
 have key:=ak h' dC au ⟨FD▸eU,FD▸Z.hh,ct,λb o e=>X.old b o (M.k4 _ _ e) (λq=>aI ((Z.H2 q).symm.trans e)) (aeX e),λa o e=>?_,λa aw=>?_⟩
 .rw[FD] at key;exact key
 .rcases bq:h.get? a with _|b9
  .exact .inr rfl
  .rw[X.new a b9 (M.k4 _ _ bq)] at e
   exact(Z.inv e).imp (λq=>eU.h0▸q) λq=>aI (q.1.symm.trans bq)
 .rcases e:h.get? a with _|o
  .rfl
  .exact aI ((Z.H2 ((X.bW (M.k4 _ _ e)).mp aw)).symm.trans e)
end
noncomputable def fnHI:Fn:=⟨c5 115 0,[]⟩
def hostL:List (Str×Iv):=(ivs fnHI.sc fnHI.bd).getD []
theorem aeY:ivs fnHI.sc fnHI.bd=some hostL:=by rfl'
theorem aeZ:(hostL.map (·.1)).Nodup:=yj (by rfl')
theorem O1:hostL.length=3:=by rfl'
theorem af0:hostL[0]? =some (cF,Iv.arg cF):=by rfl'
theorem af1(m:Str)(h:m="force"\/m="bound"\/m="shape"\/m="list_prop"):m∉hostL.map (·.1):=by
 rcases h with e|e|e|e<;>rw[e]
 .exact sx (by rfl')
 .exact sx (by rfl')
 .exact sx (by rfl')
 .exact sx (by rfl')
theorem FE:fnHI.ps=[eV,cF]:=by rfl'
def FF:=an "MOST_ROUNDS"
theorem anQ:lk fnHI.sc.names cF=some .local:=by rfl'
structure HostOk (h0:Heap) (K:Frag) (bp:Str->Option Value) (dO:Addr):Prop where
 keep:keepIn K (.ref dO)=true
 name:bp "RefHost"=some (.ref dO)
 hI:Inst K bp h0 dO fnHI [cF] fnHI.bd [] hostL
theorem af2{h0:Heap}{dO:Addr}(NL:h0.NoLimit)(KI:K.In h0)(g:h0.Ns mainGlobals bp)(make:makesIn K dO=true)(init:∃fI,findIn K (.ref dO) "__init__"=some (some (.ref fI))/\isFn K (.ref fI)=true/\FnOk h0 K fnHI (.ref fI))(set:∀a∈hostL.map (·.1),hp K dO a=true)(af3:∃v,bp FF=some v):
  Inst K bp h0 dO fnHI [cF] fnHI.bd [] hostL:=
 ⟨NL,KI,g,make,init,(eh _).symm,aeY,aeZ,by rw [O1];decide,set,FE,Fh (by rfl'),Ff (by rfl'),λy a m=>by rw [dG (Fg (ps:=[FF]) (by rfl') y a m)];exact af3⟩
section
noncomputable def lU(g:Gh)(x a5:Addr)(o:Obj):Gh:={((g.add a5 o).add x (instObj g.ta.qN a5)) with ta:={g.ta with host:=x,hv:=a5,hh:=true}}
theorem FG{x a5 b:Addr}{o:Obj}(aa:b≠x)(ah:b≠a5):(lU g x a5 o).im b=g.im b:=(Gh.g7 (g:=g.add a5 o) aa).trans (Gh.g7 ah)
theorem Cfg.host(C:Cfg prog w H g h){x a5:Addr}{es:List DictEntry}(aj:∀b o,h.get? b=some o->h'.get? b=some o)(O2:h.get? x=none)(O3:h.get? a5=none)(gD:x≠a5)(hx:h'.get? x=some (instObj g.ta.qN a5))(v0:h'.get? a5=some (dictOf es n))(aa:getL cF es=some (some (.ref g.ta.tab)))(ah:∀m:Str,m="force"\/m="bound"\/m="shape"\/m="list_prop"->getL m es=some none):Cfg prog w H (lU g x a5 (dictOf es n)) h':=by
 have D:=C.tok
 have O4:(g.add a5 (dictOf es n)).im x=none:=(Gh.g7 gD).trans (C.g8 O2)
 have j:∀a o,g.im a=some o->(lU g x a5 (dictOf es n)).im a=some o:=λa o e=>Gh.hu O4 a o (Gh.hu (C.g8 O3) a o e)
 have i:∀{a:Addr}(o:Obj),h.get? a=some o->h'.get? a=some o:=λ{a} o=>aj a o
 have cU:TkTab (lU g x a5 (dictOf es n)):=by
  obtain⟨dN,m,e,a,b,c,d,f,r,q⟩:=D.cU
  exact⟨dN,m,j _ _ e,a,b,c,d,f,r,q⟩
 have rows:TkRows H (lU g x a5 (dictOf es n)) h':=by
  obtain⟨vs,m,ds,e,r,c⟩:=D.rows
  exact⟨vs,m,ds,i _ e,r.mono j,c⟩
 have idx:TkIdx prog w H (lU g x a5 (dictOf es n)) h':=by
  obtain⟨o,dN,ca,a4,e,af4,d,l,nd,r,c,y⟩:=D.idx
  exact⟨o,dN,ca,a4,i _ e,af4,d,l,nd,λz bi=>⟨(r z bi).1.mono j,(r z bi).2⟩,c,y⟩
 have decls:TkDecls H (lU g x a5 (dictOf es n)) h':=by
  obtain⟨vs,m,e,l,q⟩:=D.decls
  exact⟨vs,m,i _ e,l,q⟩
 have decl:∀(k:Nat)(p:Addr×Addr),g.dd[k]? =some p->TkDecl H (lU g x a5 (dictOf es n)) h' k p:=λk p aS=>by
  obtain⟨a,dN,m,e,l,v,b,r,y,t,z,q,af5,c⟩:=D.decl k p aS
  exact⟨j _ _ a,dN,m,i _ e,l,v,b,r.mono j,y,t,z,q,af5,c⟩
 have du:TkBnds H (lU g x a5 (dictOf es n)) h':=by
  obtain⟨vs,m,e,l,q⟩:=D.du
  exact⟨vs,m,i _ e,l,q⟩
 refine⟨λa o e=>?_,λa o e=>j a o (C.base a o e),C.ok,⟨j _ _ D.tab,cU,λ_=>Gh.jA _ _ _,λ_=>⟨es,n,Gh.hu O4 a5 _ (Gh.jA _ _ _),aa,ah⟩,rows,idx,D.k2,decls,decl,du,D.dfl.to (cq _) i,D.ew.to (cq _) i,D.nd,λa aw=>?_⟩,C.line,C.mods⟩
 .rcases Gh.oH e with ⟨e1,e2⟩|e
  .rw[e1,<-e2];exact hx
  .rcases Gh.oH e with ⟨e1,e2⟩|e
   .rw[e1,<-e2];exact v0
   .exact aj _ _ (C.bn _ _ e)
 .have aw:a∈g.bW:=aw
  obtain⟨o,aG⟩:=C.vX aw
  exact(FG (λq:a=x=>aI (O2.symm.trans (q▸aG))) λq:a=a5=>aI (O3.symm.trans (q▸aG))).trans (D.out a aw)
variable {h0:Heap}{dx dO fd:Addr}
structure HostN (prog:Program) (w:World) (H:T) (h0:Heap) (dx dO fd:Addr) (g:Gh) (h h':Heap) (au:Gh):Prop where
 ta:TaOf h0 dx dO fd au.ta
 hh:au.ta.hh=true
 tab:au.ta.tab=g.ta.tab
 C:Cfg prog w H au h'
 keep:∀b o,h.get? b=some o->h'.get? b=some o
 im:∀a o,g.im a=some o->au.im a=some o
 new:∀a o,h.get? a=some o->au.im a=g.im a
 mu:au.bW=g.bW
theorem af6(PH:HostOk h0 K bp dO)(fX:A.depth+70<990){aF:Nat}(C:Cfg prog w H g h)(eU:TaOf h0 dx dO fd g.ta)(ak:∀h' dC (au:Gh),HostN prog w H h0 dx dO fd g h h' au->Q (.ref au.ta.host) {s with heap:=h',toks:=dC}):wpAny (model prog w) A (call (.ref dO) [.ref g.ta.tab]) Q E {s with heap:=h,toks:=aF}:=by
 refine Fb (s:={s with heap:=h,toks:=aF}) PH.hI (me (show A.depth+1<990 by lia) (by decide)) (λb o e=>C.bn b o (C.base b o (eU.h0.symm▸e))) rfl λa5 env bN b5 g0 es aU ie M=>wpAny_execs_nil ⟨rfl,?_⟩
 obtain⟨af7,af8⟩:=yk (k:=0) (M.I.all.trans O1) (by decide)
 obtain⟨rh,FH,_⟩:=M.I.at_ 0 _ _ _ af0 af8
 obtain⟨n,Fq⟩:=M.I.dict
 have af9:NameAt env b5 cF (.ref g.ta.tab):=M.nm cF _ (FE▸ .tail _ (.head _)) (by rw [FE];rfl)
 obtain⟨_,lw,afa,afb⟩:=af9
 obtain⟨_,un,afc,afd⟩:=show NameAt env b5 cF af7 from FH
 rw[<-Option.some.inj (afb.symm.trans ((xs afa afc cF).trans afd))] at rh
 have f5:=C.host M.k4 M.x0 M.d0 (qT _) (eU.h.symm▸M.x4) Fq rh λm av=>(M.I.other m (af1 m av)).trans rfl
 refine ak b5 g0 (lU g (a5+1) a5 (dictOf es n)) ⟨⟨eU.h0,eU.t,eU.h,eU.d⟩,rfl,rfl,f5,M.k4,λa o e=>?_,λa o e=>FG (λq=>aI (M.x0.symm.trans (q▸e))) λq=>aI (M.d0.symm.trans (q▸e)),rfl⟩
 have aw:=C.bn a o e
 exact(FG (λq:a=a5+1=>aI (M.x0.symm.trans (q▸aw))) λq:a=a5=>aI (M.d0.symm.trans (q▸aw))).trans e
end
noncomputable def T.done(H:T):T:={H with bld:=false}
mutual
theorem vp:∀v:V,bI H.done v=bI H v
 | .none=>rfl
 | .bool _=>rfl
 | .int _=>rfl
 | .str _=>rfl
 | .tab=>rfl
 | .host=>rfl
 | .decl _=>rfl
 | .dict _=>rfl
 | .ty _=>rfl
 | .tup l=>congrArg (λx=>od x λm=>some (PyData.tuple m)) (sz l)
 | .list l=>congrArg (λx=>od x λm=>some (PyData.list m)) (sz l)
theorem sz:∀v:List V,bX H.done v=bX H v
 |[]=>rfl
 |x::r=>by
  show od (bI H.done x) (λd=>od (bX H.done r) λl=>some (d::l))=od (bI H x) λd=>od (bX H r) λl=>some (d::l)
  rw[vp x,sz r]
end
theorem O5(H:T):∀l:List Int,bX H (l.map V.int)=some (l.map PyData.int)
 |[]=>rfl
 |_::r=>h9 rfl (O5 H r)
section
theorem Kvs.bld{K:Type}{c7:K->PyData}{im:bA}{l:List (V×V)}{aW:List (K×Value)}(h:Kvs c7 H im l aW):Kvs c7 H.done im l aW:=by
 induction h with
 |nil=>exact .nil
 |cons a c d _ bb=>exact .cons ((vp _).trans a) ((vp _).trans c) d bb
theorem DictO.bld{im:bA}{o:Obj}{l:List (V×V)}(h:DictO prog w H im o l):DictO prog w H.done im o l:=by
 rcases h with ⟨aW,a,b⟩|⟨aW,a,b⟩
 .exact .int aW a b.bld
 .exact .str aW a b.bld
theorem VDic.bld{im look:bA}{v:Value}{l:List (V×V)}(h:VDic prog w H im look v l):VDic prog w H.done im look v l:=by
 obtain⟨a,o,aa,ah,aC,bC⟩:=h
 exact⟨a,o,aa,ah,aC,bC.bld⟩
theorem VLis.bld{im look:bA}{v:Value}{l:List V}(h:VLis H im look v l):VLis H.done im look v l:=by
 obtain⟨a,vs,n,ds,aa,ah,aC,bC⟩:=h
 exact⟨a,vs,n,ds,aa,ah,aC,(sz _).trans bC⟩
theorem VDat.bld{im:bA}{v:Value}(h:VDat H im v u):VDat H.done im v u:=by
 obtain⟨d,aa,ah⟩:=h
 exact⟨d,(vp _).trans aa,ah⟩
theorem Val.bld{look:bA}{v:Value}(h:Val prog w H g look v u):Val prog w H.done g look v u:=by
 rcases u
 case tab=>exact h
 case host=>exact h
 case decl=>exact h
 case dict=>exact VDic.bld h
 case list=>exact VLis.bld h
 all_goals exact VDat.bld h
theorem Hold.bld{v:Value}{o:Bool}(q:Hold prog w H g h ai x v u o):Hold prog w H.done g h ai x v u o:=by
 rcases o with _|_
 .exact Val.bld q
 .obtain⟨aa,a,ah,aC,bC⟩:=q
  exact⟨aa,a,ah,aC,bC.bld⟩
theorem FrR.turn(F:FrR prog w H g h env J ai)(k:∀b o,h.get? b=some o->h'.get? b=some o)(sep:ic au h' ai)(hold:∀y v u o,a2 J y=some (u,o)->Hold prog w H g h ai y v u o->Hold prog w O au h' ai y v u o):FrR prog w O au h' env J ai:=by
 refine⟨?_,λy a e=>?_,F.loc,sep,F.dot⟩
 .obtain⟨m,aX,av⟩:=F.ns
  exact⟨m,aX.at' λo=>k _ o,λy u o aj aq=>(av y u o aj aq).elim λv p=>⟨v,p.1,hold y v u o aq p.2⟩⟩
 .obtain⟨v,⟨oc,aG,aQ⟩,ah,aC⟩:=F.cl y a e
  exact⟨v,⟨oc,k _ _ aG,aQ⟩,ah,λu o aj aq=>(aC u o aj aq).elim λz p=>⟨z,p.1,hold y z u o aq p.2⟩⟩
theorem FrR.bld(F:FrR prog w H g h env J ai):FrR prog w H.done g h env J ai:=F.turn (λ_ _ e=>e) F.sep λ_ _ _ _ _ q=>q.bld
theorem Cfg.amU(C:Cfg prog w H g h)(ao:H.bld=true)(aj:∀r∈H.base,gw r=true/\V.key H.base.length 4 r=true):Cfg prog w H.done g h:=by
 have aL:=C.ok
 have D:=C.tok
 refine⟨C.bn,C.base,⟨aL.plain,aL.met,λr aq=>?_,(λq=>nomatch q),aL.size,aL.once,aL.small⟩,⟨D.tab,D.cU,D.host,D.hv,?_,?_,D.k2,?_,λk p aS=>?_,?_,D.dfl.to (cq _) λ_ e=>e,D.ew.to (cq _) λ_ e=>e,D.nd,D.out⟩,C.line,C.mods⟩
 .have aq:r∈H.base++H.dyn:=aq
  rw[aL.bld ao,eh] at aq
  exact aj r aq
 .obtain⟨vs,n,ds,a,b,c⟩:=D.rows
  exact⟨vs,n,ds,a,b,(sz _).trans c⟩
 .obtain⟨o,es,ca,a4,a,b,c,d,e,f,i,j⟩:=D.idx
  exact⟨o,es,ca,a4,a,b,c,d,e,f,(sz _).trans i,j⟩
 .obtain⟨vs,n,a,b,c⟩:=D.decls
  exact⟨vs,n,a,b,c⟩
 .obtain⟨a,es,n,e,l,v,b,r,i,t,x,y,a5,c⟩:=D.decl k p aS
  exact⟨a,es,n,e,l,v,b,r,i,t,x,y,a5,(vp _).trans c⟩
 .obtain⟨vs,n,a,b,c⟩:=D.du
  exact⟨vs,n,a,b,c⟩
end
def yq:=an "TypeTable"
def yr:=an "RefHost"
theorem O6:lk lawFn.sc.names yq=some .globalImplicit:=by rfl'
theorem O7:lk lawFn.sc.names yr=some .globalImplicit:=by rfl'
theorem afe:("TypeTable":Str)=yq:=by rfl'
theorem aff:("RefHost":Str)=yr:=by rfl'
theorem anR:kN≠lS/\qi≠kN:=by decide
def hs:Cx:=⟨lawFn.sc,lawFn.bd⟩
def vq (L:List V):am:=[(hq,.list L,false),(kN,.tab,false),(qi,.host,false)]
theorem afg:lawRest=lawRest.take 2++((lawFn.bd.drop 4).take 3++lawFn.bd.drop 7):=by rfl'
theorem afh:lawRest.take 2=[ri 2,ri 3]:=by rfl'
def FI (L:List V):am:=[(hq,.list L,false)]
def sA (L:List V):am:=cb (FI L) kN .tab false
theorem afi(L:List V):cb (sA L) qi .host false=vq L:=by rfl'
theorem anS(L:List V):sA L=[(hq,.list L,false),(kN,.tab,false)]:=by rfl'
theorem afj(L:List V):a2 (FI L) dM=none:=by rfl'
theorem afk(L:List V):a2 (sA L) kN=some (.tab,false):=by rfl'
theorem afl:(!a9 kN dM)=true:=by rfl'
theorem afm:(!a9 qi dM)=true:=by rfl'
theorem afn{L:List V}{o:Bool}(h:a2 (sA L) y=some (u,o)):false=o/\(u= .list L\/u= .tab):=by
 rcases pQ h with ⟨_,e1,e2⟩|⟨_,h⟩
 .exact⟨e2,.inr e1.symm⟩
 .obtain⟨_,e1,e2⟩:=p9 h
  exact⟨e2,.inl e1.symm⟩
inductive LawEv (ns:List Int):Prop
 |mk (sB:am) (mY:T) (lV:am) (O:T) (e1:bv G0 300 hs (vq ((mW ns).map .int)) ((lawFn.bd.drop 4).take 3) jv=some (.next,sB,mY)) (b:mY.bld=true) (k:∀r∈mY.base,gw r=true/\V.key mY.base.length 4 r=true) (eT:mY.cnt<=ba)
   (e2:bv G0 300 hs sB (lawFn.bd.drop 7) mY.done=some (.ret (.bool true),lV,O)) (cP:O.cnt<=ba)
section
variable {h0:Heap}{dx dO fd:Addr}
structure LawF (cu aB:Heap) (env:Env) (l c:Addr):Prop where
 N:EnvR lawFn.sc env
 sc:NameAt env aB lS (.ref l)
 kn:env.kindOf hq=some .cell
 cc:env.cells.lookup hq=some c
 cell:aB.IsCell c none
 ns:∃m,aB.Ns env.locals m
 cl:∀y a,env.cells.lookup y=some a->dw env.locals env.cells a=some (.cell y)/\∃v,aB.IsCell a v
 new:∀a r,dw env.locals env.cells a=some r->cu.get? a=none
 live:∀a r,dw env.locals env.cells a=some r->∃o,aB.get? a=some o
 keep:∀b o,cu.get? b=some o->aB.get? b=some o
theorem afo{s c1:Shared}{l:Addr}{dv:List Value}(ys:ScopeOk lawFn.sc)(aL:Opened prog w h0 s lawFn [.ref l] dv env c1)(aQ:dv=[]):∃aB bh c,c1={s with heap:=aB,toks:=bh}/\LawF s.heap aB env l c:=by
 have x:=aL.x
 rw[Fu,aQ,show lD [lS] [Value.ref l] []=[(lS,.ref l)] from rfl] at x
 have N:=aL.N
 obtain⟨O8,c,hP⟩:=N.cell hq ON
 have ns:=x.toInCall.ns
 have yt:=x.cell
 have afp:∀p∈env.cells,p.2≠env.locals:=λp aS e=>qY _ (e▸x.above p.1 p.2 aS)
 have uw:∀a,env.locals<=a->s.heap.get? a=none:=λa aw=>xG (aT x.toInCall.fresh aw)
 obtain⟨m,nR⟩:=aL.cl
 have nd:(env.cells.map (·.1)).Nodup:=by rw [nR];exact LF ys m
 have yi:([(lS,Value.ref l)].map (·.1)).Nodup:=List.nodup_cons.mpr ⟨kj,.nil⟩
 have apart:=x.apart
 have above:=x.above
 obtain⟨aB,bh,iR,i7⟩:=x.done
 rw[iR] at ns yt
 refine⟨aB,bh,c,iR,⟨N,⟨N.loc _ Fv,_,ns,(rL (N.loc _ Fv) _ yi).trans ?_⟩,O8,hP,?_,⟨_,ns⟩,λy a aY=>⟨LJ apart afp aY,_,yt y a aY⟩,λa r h=>(xa h).elim (λe=>uw _ (dW e.symm)) λ⟨y,aY⟩=>uw _ (jH (above y a aY)),λa r h=>?_,i7⟩⟩
 .rw[n2];rfl
 .have q:=yt hq c hP
  rw[uv (λe=>nomatch O8.symm.trans e) _ yi] at q
  exact q
 .rcases xa h with e|⟨y,aY⟩
  .obtain⟨o,_,_,aG,_⟩:=ns;exact⟨o,e▸aG⟩
  .obtain⟨o,aG,_⟩:=yt y a (lookup_of_mem_nodup nd aY);exact⟨o,aG⟩
section
variable {cu aB a8 bN:Heap}{l c D:Addr}{cy:Array Value}{ns:List Int}
theorem LawF.rc(Z:LawF cu aB env l c):dw env.locals env.cells c=some (.cell hq):=(Z.cl _ _ Z.cc).1
theorem afq(Z:LawF cu aB env l c)(up:∀b o,h0.get? b=some o->cu.get? b=some o)(M:NumsAt aB a8 c D cy n (mW ns))(T:TabN prog w h0 dx dO fd a8 bN g):
  Cfg prog w jv (g.add D (listOf cy n)) bN/\FrR prog w jv (g.add D (listOf cy n)) bN env (FI ((mW ns).map .int)) (dw env.locals env.cells):=by
 have yu:dw env.locals env.cells env.locals=some .loc:=if_pos rfl
 have afr:∀a r,dw env.locals env.cells a=some r->∃o,a8.get? a=some o:=λa r h=>by
  rcases eR (a=c) with q|q
  .rw[q]
   obtain⟨o,aG,_⟩:=M.cell
   exact⟨o,aG⟩
  .exact(Z.live a r h).imp λo aG=>M.keep a o q aG
 have iW:∀{b},cu.get? b=none->h0.get? b=none:=gU λb o e=>⟨o,up b o e⟩
 have FJ:∀{a o},a8.get? a=some o->h0.get? a=none->g.im a=none:=λ{a o} aw afs=>by
  rcases e:g.im a with _|q
  .rfl
  .exact(T.inv a q e).elim (λq=>aI (afs.symm.trans q)) λq=>aI (q.symm.trans aw)
 have O9:∀{a o},a8.get? a=some o->a∉g.bW:=λaw q=>aI ((T.mu _ q).symm.trans aw)
 have rU:h0.get? D=none:=iW (gU (λa o e=>⟨o,Z.keep a o e⟩) M.new)
 have rD:∀a r,dw env.locals env.cells a=some r->a≠D:=λa r h q=>(Z.live a r h).elim λo aG=>aI (M.new.symm.trans (q▸aG))
 have im:=Gh.hu (g:=g) (o:=listOf cy n) (FJ M.at_ rU)
 refine⟨T.C.freeze (FJ M.at_ rU) (O9 M.at_) (T.keep _ _ M.at_),⟨?_,λy a aY=>?_,yu,λa r h=>?_,afj _⟩⟩
 .obtain⟨m,aX⟩:=Z.ns
  have aft:env.locals≠c:=mJ yu Z.rc nofun
  refine⟨m,aX.at' λo e=>T.keep _ o (M.keep _ o aft e),λy u o aj aq=>?_⟩
  obtain⟨e,_,_⟩:=p9 aq
  exact nomatch (e▸aj).symm.trans Z.kn
 .obtain⟨pk,v,oc,lB,jX⟩:=Z.cl y a aY
  rcases eR (a=c) with q|q
  .rw[q] at pk |-
   obtain⟨oc,lB,jX⟩:=M.cell
   refine⟨_,⟨oc,T.keep _ _ lB,jX⟩,pk,λu o aj aq=>⟨_,rfl,?_⟩⟩
   obtain⟨_,e1,e2⟩:=p9 aq
   rw[<-e1,<-e2]
   exact⟨D,cy,n,_,rfl,Gh.jA _ _ _,M.rd _,O5 _ _⟩
  .refine⟨v,⟨oc,T.keep _ _ (M.keep _ _ q lB),jX⟩,pk,λu o aj aq=>?_⟩
   obtain⟨e,_,_⟩:=p9 aq
   rw[e] at aY
   exact absurd (Option.some.inj (aY.symm.trans Z.cc)) q
 .obtain⟨o,aG⟩:=afr a r h
  exact⟨(Gh.g7 (rD a r h)).trans (FJ aG (iW (Z.new a r h))),O9 aG,o,T.keep _ _ aG⟩
end
theorem afu{L:List V}(F:FrR prog w jv g h env (sA L) (dw env.locals env.cells))(U:HostN prog w jv h0 dx dO fd g h h' au):FrR prog w jv au h' env (sA L) (dw env.locals env.cells):=by
 refine F.turn U.keep (λa r h=>?_) λy v u o aq q=>?_
 .obtain⟨bU,bZ,o,dJ⟩:=F.sep a r h
  exact⟨(U.new a o dJ).trans bU,U.mu.symm▸bZ,o,U.keep _ _ dJ⟩
 .obtain⟨e,e1⟩:=afn aq
  rw[<-e] at q |-
  rcases e1 with e1|e1<;>rw[e1] at q |-
  .exact VLis.mono (.refl _) U.im (λa o _=>U.im a o) q
  .exact mg (show v= .ref g.ta.tab from q) (congrArg _ U.tab.symm)
theorem afv{z:Value}(h:Seen prog w H g h ai z (.bool true)):z= .bool true:=by
 obtain⟨y,b,bi⟩:=h
 rcases b with _|_
 .exact Val.bool_inv (show Val prog w H g g.im z (.bool true) from bi)
 .obtain⟨c,_⟩:=bi
  exact nomatch c
theorem afw{en er e4 ij hg gV hj jT mC:Pos}{cu aB a8:Heap}{l c D:Addr}{cy:Array Value}{ns:List Int}{aF:Nat}{Q:Flow->Shared->Prop}(P:Tops prog w h0 K bp mb dx dO fd)(PH:HostOk h0 K bp dO)(hh:A.handled=none)(fX:A.depth+70<990)(bG:A.units+2000<cLine)(Z:LawF cu aB env l c)(up:∀b o,h0.get? b=some o->cu.get? b=some o)(M:NumsAt aB a8 c D cy n (mW ns))(ak:∀g h' dC,TaOf h0 dx dO fd g.ta->Cfg prog w jv g h'->FrR prog w jv g h' env (vq ((mW ns).map .int)) (dw env.locals env.cells)->(∀b o,b≠env.locals->a8.get? b=some o->h'.get? b=some o/\b∉g.bW)->wpAny (model prog w) A (execs bu env) Q E {s with heap:=h',toks:=dC}):
  wpAny (model prog w) A (execs (.Assign [.Name kN en] (.Call (.Name yq er) [] [] e4) ij:: .Assign [.Name qi hg] (.Call (.Name yr gV) [.Name kN hj] [] jT) mC::bu) env) Q E {s with heap:=a8,toks:=aF}:=by
 have yf:h0.Ns mainGlobals bp:=P.tI.g
 have yu:dw env.locals env.cells env.locals=some .loc:=if_pos rfl
 have iW:∀{b},cu.get? b=none->h0.get? b=none:=gU λb o e=>⟨o,up b o e⟩
 have yv:∀b o,h0.get? b=some o->a8.get? b=some o:=λb o e=>M.keep b o (λq=>aI ((iW (Z.new _ _ Z.rc)).symm.trans (q▸e))) (Z.keep _ _ (up b o e))
 refine wpAny_execs_cons (wpAny_Assign_Name (Call_Name rfl (Name_function_global Z.N.kind (Z.N.impl yq O6) (loadGlobal_global (s:={s with heap:=a8,toks:=_}) (by rw [Z.N.glob];exact yf.keeps yv) (afe▸P.an1) ?_) (ia Z.N O6))) (sd rfl kN en _ env))
 refine gi (P:=λh=>K.In h) rfl (λh X=>keeps_K P.amP h X) ?_
 refine args_nil ⟨P.tI.KI.keeps yv,?_⟩
 refine aeV P hh fX bG yv λbN gX g T=>?_
 obtain⟨afx,gH⟩:=afq Z up M T
 refine mK (s:={s with heap:=bN,toks:=gX}) Z.N afx gH (.inl lk_ltab) (n0 afl) (o:=false) (u:=.tab) (show Value.ref g.ta.tab=_ from rfl) λb5 g0 Y=>?_
 obtain⟨jT,Fo,FK,_⟩:=Y.b
 rw[Fo.elim id λq=>nomatch (lk_ltab.symm.trans q.1)] at FK
 have afy:h0.get? env.locals=none:=iW (Z.new _ _ yu)
 have Pa:∀b o,h0.get? b=some o->b5.get? b=some o:=λb o e=>SameBut.ext' FK b o (λq=>aI (afy.symm.trans (q▸e))) (T.keep _ _ (yv _ _ e))
 refine wpAny_execs_cons (wpAny_Assign_Name (Call_Name rfl (Name_function_global Z.N.kind (Z.N.impl yr O7) (loadGlobal_global (s:={s with heap:=b5,toks:=_}) (by rw [Z.N.glob];exact yf.keeps Pa) (aff▸PH.name) ?_) (ia Z.N O7))) (sd rfl qi hg _ env))
 refine gi (P:=λh=>K.In h) rfl (λh X=>keeps_K PH.keep h X) ?_
 refine args_cons (jh (s:={s with heap:=b5,toks:=_}) Z.N Y.F (.inl lk_ltab) (afk _) λz bi=>?_) rfl
 refine args_nil ⟨P.tI.KI.keeps Pa,?_⟩
 rw[show z= .ref g.ta.tab from bi]
 refine af6 (g:=g.add D (listOf cy n)) PH fX Y.C T.ta λmO r5 au U=>?_
 have xE:=afu Y.F U
 refine mK (s:={s with heap:=mO,toks:=r5}) Z.N U.C xE (.inl lk_lhost) (n0 afm) (o:=false) (u:=.host) (show Value.ref au.ta.host=_/\_ from ⟨rfl,U.hh⟩) λjs sr FM=>?_
 obtain⟨lr,afz,Pb,_⟩:=FM.b
 rw[afz.elim id λq=>nomatch (lk_lhost.symm.trans q.1)] at Pb
 refine ak au js sr U.ta FM.C (afi _▸FM.F) λb o q e=>⟨SameBut.ext' Pb b o q (U.keep _ _ (SameBut.ext' FK b o q (T.keep _ _ e))),λm=>?_⟩
 rw[U.mu] at m
 exact aI ((T.mu b m).symm.trans e)
set_option maxHeartbeats 4000000 in
theorem afA(P:Tops prog w h0 K bp mb dx dO fd)(PH:HostOk h0 K bp dO){Pc:Addr}(ys:FnOk h0 K lawFn (.ref Pc))(ao:h0.Ns builtinsNs mb)(cg:bp dy=none)(ch:mb dy=some (.builtin "len"))(hh:A.handled=none)(fX:A.depth+400<990)(bG:A.units+9000<cLine)(up:∀b o,h0.get? b=some o->s.heap.get? b=some o){l:Addr}{vs:List Value}{ns:List Int}(eJ:s.heap.IsList l vs.toArray)(hI:IntsAre vs ns)(aX:ns.length<=63)(afB:LawEv ns)(ak:∀h' dC,(∀b o,s.heap.get? b=some o->h'.get? b=some o)->Q (.bool true) {s with heap:=h',toks:=dC}):wpAny (model prog w) A (call (.ref Pc) [.ref l]) Q E s:=by
 obtain⟨sB,mY,lV,O,afC,gn,gm,bo,afD,afE⟩:=afB
 refine wpAny_call (Dl P.tI.NL ys (me (show A.depth<990 by lia) (by decide)) up (by rw [Fu];exact cq _) (by rw [Fu];exact iB _) λdv env c1 anT aL=>?_)
 obtain⟨aB,bh,c,iR,Z⟩:=afo ys.sc aL (List.length_eq_zero_iff.mp aL.len)
 rw[iR]
 have Pd:∀b o,h0.get? b=some o->aB.get? b=some o:=λb o e=>Z.keep b o (up b o e)
 have iW:∀{b},s.heap.get? b=none->h0.get? b=none:=gU λb o e=>⟨o,up b o e⟩
 have Pe:∀{a:Addr}{m},h0.Ns a m->a≠c:=λ{a m} aX q=>by
  obtain⟨o,_,_,aG,_⟩:=aX
  exact aI ((iW (Z.new _ _ Z.rc)).symm.trans (q▸aG))
 have yo:aB.IsList l vs.toArray:=by
  obtain⟨o,e,q⟩:=eJ
  exact⟨o,Z.keep _ _ e,q⟩
 refine aew (A:=A.deeper env) (s:={s with heap:=aB,toks:=bh}) Z.N hh (show A.units+3+100<cLine by lia) (P.tI.g.keeps Pd) (ao.keeps Pd) cg ch Z.sc Z.kn Z.cc Z.cell yo hI aX ⟨Pe P.tI.g,Pe ao⟩ λa8 b8 D cy n M=>?_
 rw[afg,afh]
 refine OM ?_
 refine afw (A:=A.deeper env) (s:={s with heap:=aB,toks:=bh}) P PH hh (show A.depth+1+70<990 by lia) (show A.units+3+2000<cLine by lia) Z up M λg js sr eU ss F dq=>wpAny_execs_nil ?_
 have S:=(EF (P.bk g.ta eU) (P.SJ g.ta eU) (eU.d.symm▸P.body) 300).s
 have R:Room (A.deeper env) 300:=⟨hh,show A.depth+1+300<990 by lia,show A.units+3+20*300+400<cLine by lia⟩
 refine OM ?_
 refine S hs _ _ jv .next sB mY afC bo _ env _ g {s with heap:=js,toks:=sr} _ _ R rfl Z.N ss F λvb vc vd afF f X k ve Gw iP Fl St=>?_
 obtain⟨e,afG⟩:=Fl
 rw[e]
 refine S hs sB _ mY.done _ lV O afD afE _ env afF vb {s with heap:=vc,toks:=vd} _ _ R X.ta Z.N (ve.amU gn gm) afG.bld λanU afH afI anV f p3 gk anW uU r1 afJ anX=>?_
 obtain⟨z,e,bi⟩:=afJ
 rw[e,afv bi]
 refine ak afH afI λb o e=>?_
 have FN:dw env.locals env.cells b=none:=by
  rcases q:dw env.locals env.cells b with _|r
  .rfl
  .exact aI ((Z.new b r q).symm.trans e)
 have no:∀{a r},dw env.locals env.cells a=some r->b≠a:=λh q=>aI (FN.symm.trans (q▸h))
 obtain⟨qk,x7⟩:=dq b o (no (if_pos rfl)) (M.keep b o (no Z.rc) (Z.keep b o e))
 exact p3.old b o (X.old b o qk x7 FN) (λq=>x7 ((X.bW qk).mp q)) (Gw.no qk FN)
end
end Mine
end
noncomputable section
open PySem PySem.W PyProof.Rows PySem.Calls
namespace Mine
noncomputable def base1:List V:=[.tup [.int 1,.str "any"],.tup [.int 1,.str "unknown"],.tup [.int 1,.str "never"],.tup [.int 1,.str "void"],.tup [.int 1,.str "undefined"],.tup [.int 1,.str "null"],.tup [.int 1,.str "string"],.tup [.int 1,.str "number"],.tup [.int 2,.int 0,.int 0],.tup [.int 2,.int 1,.int 0],.tup [.int 1,.str "object"],.tup [.int 8,.tup [],.tup [],.tup [],.tup [],.tup [],.int 0],.tup [.int 6,.tup [.int 8,.int 9]],.tup [.int 1,.str "error"],.tup [.int 2,.int 0,.int 1],.tup [.int 2,.int 1,.int 1],.tup [.int 8,.tup [.tup [.str "p",.int 7,.int 0,.int 0]],.tup [],.tup [],.tup [],.tup [],.int 0],.tup [.int 13,.tup [],.tup [],.int 3,.tup [],.int 0],.tup [.int 3,.str ⟨#[]⟩,.int 0],.tup [.int 3,.str "a",.int 0],.tup [.int 3,.str "a",.int 1],.tup [.int 3,.str "x",.int 1],.tup [.int 4,.int 0,.int 0],.tup [.int 4,.int 1,.int 1],.tup [.int 4,.int (-1),.int 0],.tup [.int 5,.int 2,.str "A",.int 0,.int 0],.tup [.int 5,.int 2,.str "B",.int 1,.int 1],.tup [.int 5,.int 3,.str "A",.str "a",.int 0],.tup [.int 9,.int 1,.tup []],.tup [.int 8,.tup [],.tup [.int 17],.tup [],.tup [],.tup [],.int 0],.tup [.int 10,.int 0]]
noncomputable def FO:List V:=[.none,.int 16,.int (-1),.int (-1)]
def ar (D:List V) (c:Nat):T:={base:=base1,dyn:=D,bld:=false,decls:=FO,bounds:=[-1],cnt:=c}
noncomputable def ax (i:Nat):V:=match Nat.blt i 31 with
 |true=> .int i
 |false=> .ty (.tup [.int 7,.tup [.int 30,.int (i - 27:Nat)]])
noncomputable def PS:List Nat:=[0,1,3,4,5,6,7,8,9,10,11,15,16,18,19,20,21,22,23,24,25,26,27,28,29,30,31,32,33,34,35,36,37,38]
noncomputable def afK (m:Nat):List V:=((List.range 14).filter λi=>m.testBit i).map λ(i:Nat)=> .int (i:Int)
def hV (m:Nat):V:=.list (afK m)
noncomputable def kindsL:List (Nat×Nat):=[(6,112),(4,1),(5,2),(7,1920),(8,4),(9,8),(15,8),(18,16),(19,32),(20,32),(21,64),(22,128),(23,256),(24,512),(25,128),(26,256),(27,32),(11,16380),(10,14336),(16,4096),(28,4096),(29,8192),(30,16383),(3,1),(1,16383),(0,16383)]
def afL:=an "kinds"
def mZ:V:=.list (kindsL.map λp=> .tup [.int p.1,hV p.2])
def FP (L:List V):am:=vq L++[(afL,mZ,false)]
theorem afM(L:List V):bv G0 300 hs (vq L) ((lawFn.bd.drop 4).take 3) jv=some (.next,FP L,{ar [] 31 with bld:=true}):=by rfl'
noncomputable def aE(i:Nat):Fn:=⟨aA i,[]⟩
inductive WE {α:Type} (x:Option (α×T)) (Q:α->T->Prop):Prop
 |mk (v:α) (O:T) (e:x=some (v,O)) (q:Q v O)
inductive WS (x:Option (Fl×am×T)) (Q:Fl->am->T->Prop):Prop
 |mk (f:Fl) (J:am) (O:T) (e:x=some (f,J,O)) (q:Q f J O)
theorem WE.of{α:Type}{x:Option (α×T)}{Q:α->T->Prop}{v:α}{O:T}(h:x=some (v,O))(q:Q v O):WE x Q:=⟨v,O,h,q⟩
theorem WE.is{α:Type}{x:Option (α×T)}{Q:α->T->Prop}{a:α}{s:T}(h:WE x (λv O=>v=a/\O=s))(q:Q a s):WE x Q:=let ⟨_,_,e,e1,e2⟩:=h;⟨a,s,e1▸e2▸e,q⟩
theorem WE.mono{α:Type}{x:Option (α×T)}{P Q:α->T->Prop}(h:WE x P)(q:∀v O,P v O->Q v O):WE x Q:=let ⟨v,O,e,p⟩:=h;⟨v,O,e,q v O p⟩
theorem WE.ob{α bR:Type}{x:Option (α×T)}{f:α->T->Option (bR×T)}{Q:bR->T->Prop}(h:WE x λv O=>WE (f v O) Q):WE (ob x f) Q:=by
 obtain⟨v,O,e,q⟩:=h
 rw[e];exact q
theorem WE.obS{α:Type}{x:Option (α×T)}{f:α->T->Option (Fl×am×T)}{Q:Fl->am->T->Prop}(h:WE x λv O=>WS (f v O) Q):WS (Mine.ob x f) Q:=by
 obtain⟨v,O,e,q⟩:=h
 rw[e];exact q
theorem WE.ow{α:Type}{c:Bool}{x:Option (α×T)}{Q:α->T->Prop}(ap:c=true)(h:WE x Q):WE (ow c x) Q:=by rw [ap];exact h
theorem WE.od{α bR:Type}{x:Option bR}{f:bR->Option (α×T)}{b:bR}{Q:α->T->Prop}(hx:x=some b)(h:WE (f b) Q):WE (od x f) Q:=by rw [hx];exact h
theorem WE.pt{α:Type}{H:T}{x:Option α}{b:α}{Q:α->T->Prop}(hx:x=some b)(h:Q b H):WE (pt H x) Q:=by rw [hx];exact⟨b,H,rfl,h⟩
theorem WS.ow{c:Bool}{x:Option (Fl×am×T)}{Q:Fl->am->T->Prop}(ap:c=true)(h:WS x Q):WS (Mine.ow c x) Q:=by rw [ap];exact h
theorem WS.od{bR:Type}{x:Option bR}{f:bR->Option (Fl×am×T)}{b:bR}{Q:Fl->am->T->Prop}(hx:x=some b)(h:WS (f b) Q):WS (Mine.od x f) Q:=by rw [hx];exact h
theorem WS.an3{x:Option (Fl×am×T)}{f:Fl->am->T->Option (Fl×am×T)}{Q:Fl->am->T->Prop}(h:WS x λv J O=>WS (f v J O) Q):WS (oc x f) Q:=by
 obtain⟨v,J,O,e,q⟩:=h
 rw[e];exact q
def sE(k:am->T->Option (Fl×am×T))(b0:Fl->am->T->Prop)(f:Fl)(J:am)(H:T):Prop:=match f with
 | .next=>WS (k J H) b0
 | .ret v=>b0 (.ret v) J H
section
variable (G:Gl)(n:Nat)(c:Cx)(J:am)(f:Expr->T->Option (V×T))(Q:V->T->Prop)(b0:Fl->am->T->Prop)(eD:Bool->T->Prop)(eE:List V->T->Prop)
abbrev jw (bw:Fl) (_:am) (O:T):Prop:=Q bw.val O
abbrev afN (v:V) (O:T):Prop:=b0 (.ret v) J O
abbrev afO (v:V) (vs:List V) (O:T):Prop:=eE (v::vs) O
abbrev afP (r:List Expr) (v:V) (H:T):Prop:=WE (dz f r H) (afO eE v)
abbrev afQ (as:List Expr) (v:V) (O:T):Prop:=gx J v as=true/\Q v O
abbrev Pf (fn:Fn) (as:List Expr) (vs:List V) (H:T):Prop:=WE (bK G n fn vs H) (afQ J Q as)
abbrev Pg (x:Str) (vs:List V) (H:T):Prop:=∃v,f1 H x vs=some v/\Q v H
abbrev KI (v:V) (O:T):Prop:=∃l,hd v=some l/\eE l O
abbrev Ph (l:List V) (O:T):Prop:=(l.all V.flat&&cz l)=true/\Q (.list l) O
abbrev FQ (x:Str) (sc:Scope) (ifs:List Expr) (v:V) (H:T):Option (Bool×T):=gz (dR G n {c with sc:=sc} ((x,v,false)::J)) .And ifs H
abbrev FR (x:Str) (sc:Scope) (elt:Expr) (v:V) (H:T):Option (V×T):=aN G n {c with sc:=sc} ((x,v,false)::J) elt H
abbrev Pj (x:Str) (sc:Scope) (ifs:List Expr) (elt:Expr) (l:List V) (H:T):Prop:=WE (gR (FQ G n c J x sc ifs) (FR G n c J x sc elt) l H) (Ph Q)
abbrev Pk (r:List Stmt) (J:am) (H:T):Option (Fl×am×T):=bv G n c J r H
abbrev afR (b o r:List Stmt) (x:Bool) (H:T):Prop:=WS (bv G n c J (cond x b o) H) (sE (Pk G n c r) b0)
abbrev om (t:Expr) (b:List Stmt) (v:V) (J:am) (H:T):Option (Fl×am×T):=od (li c t v J) λJ=>bv G n c J b H
abbrev afS (turn:V->am->T->Option (Fl×am×T)) (l:List V) (J:am) (H:T):Option (Fl×am×T):=je turn l J H
abbrev afT (t:Expr) (b r:List Stmt) (l:List V) (H:T):Prop:=WS (je (om G n c t b) l J H) (sE (Pk G n c r) b0)
abbrev afU (op:CmpOp) (a b:V) (H:T):Prop:=∃t,cX H op a b=some t/\eD t H
abbrev Pl (op:CmpOp) (r:Expr) (a:V) (H:T):Prop:=WE (b7 c J f r H) (afU eD op a)
abbrev afV (t:Bool) (H:T):Prop:=Q (.bool t) H
abbrev afW (b:Bool) (H:T):Prop:=eD (!b) H
abbrev Pm (v:V) (H:T):Prop:=∃b,v.truth=some b/\eD b H
abbrev afX (f:Expr->T->Option (Bool×T)) (r:List Expr) (b:Bool) (H:T):Prop:=cond b (WE (gz f .And r H) eD) (eD false H)
abbrev afY (f:Expr->T->Option (Bool×T)) (r:List Expr) (b:Bool) (H:T):Prop:=cond b (eD true H) (WE (gz f .Or r H) eD)
abbrev Pn (b:V) (i:V) (H:T):Prop:=∃v,fE H b i=some v/\Q v H
abbrev Po (s:Expr) (b:V) (H:T):Prop:=WE (f s H) (Pn Q b)
abbrev afZ (i:V) (H:T):Prop:=∃r,H.rowOf i=some r/\Q r H
abbrev Pp (s:Expr) (b:V) (H:T):Prop:=b= .tab/\WE (f s H) (afZ Q)
abbrev ag0 (row:V) (H:T):Prop:=WE (H.put row) Q
abbrev ag1 (a:Expr) (b:V) (H:T):Prop:=b= .tab/\WE (f a H) (ag0 Q)
abbrev ag2 (l:List V) (O:T):Prop:=(l.all V.flat&&cz l)=true/\Q (.tup l) O
abbrev ag3 (op:Operator) (a b:V) (H:T):Prop:=∃v,kr op a b=some v/\Q v H
abbrev ag4 (op:Operator) (r:Expr) (a:V) (H:T):Prop:=WE (b7 c J f r H) (ag3 Q op a)
abbrev anY (op:Bool->Prop->Prop->Prop) (b:Expr) (v:V) (H:T):Prop:=∃t,v.truth=some t/\op t (WE (f b H) Q) (Q v H)
abbrev ag5 (b o:Expr) (x:Bool) (H:T):Prop:=WE (f (cond x b o) H) Q
end
abbrev Is {α:Type} (a:α) (s:T) (v:α) (O:T):Prop:=v=a/\O=s
abbrev f6 (I:am->T->Prop) (f:Fl) (J:am) (O:T):Prop:=f= .next/\I J O
theorem WS.thn{x:Option (Fl×am×T)}{k:am->T->Option (Fl×am×T)}{b0:Fl->am->T->Prop}(h:WS x (sE k b0)):WS (thn x k) b0:=by
 obtain⟨f,bg,O,e,q⟩:=h
 rw[e]
 rcases f with _|v
 .exact q
 .exact⟨_,_,_,rfl,q⟩
section
variable {G:Gl}{n:Nat}{c:Cx}{J:am}{H O:T}{v u:V}{Q:V->T->Prop}{b0:Fl->am->T->Prop}{eD:Bool->T->Prop}{eE:List V->T->Prop}
theorem ag6{f:Fn}{as:List V}(av:(f.ps.any λp=>fU p f.bd)=false)(ao:o9 f.ps as f.dfl=some J)(aJ:WS (bv G n ⟨f.sc,f.bd⟩ J f.bd H) (jw Q)):WE (bK G (n+1) f as H) Q:=by
 obtain⟨bw,bg,O,e,q⟩:=aJ
 refine WE.ow (by rw [av];rfl) (WE.od ao ⟨_,O,?_,q⟩)
 rw[e];rfl
theorem ck{e:Expr}{p:Pos}{r:List Stmt}(h:WE (b7 c J (aN G n c J) e H) (afN J b0)):WS (bv G (n+1) c J (.Return (some e) p::r) H) b0:=
 WE.obS (h.mono λv O q=>⟨_,_,_,rfl,q⟩)
theorem cw{f:Expr->T->Option (V×T)}{a:Expr}{b:List Expr}{k:List Keyword}{p:Pos}(h:WE (f (.Call a b k p) H) Q):WE (b7 c J f (.Call a b k p) H) Q:=h
theorem j8{f:Expr->T->Option (V×T)}{a b d p}(h:WE (f (.ListComp a b d p) H) Q):WE (b7 c J f (.ListComp a b d p) H) Q:=h
theorem sF{f:Expr->T->Option (V×T)}{x:Str}{p:Pos}(aj:fF c x=true)(aq:(a2 J x).map (·.1)=some v)(q:Q v H):WE (b7 c J f (.Name x p) H) Q:=by
 show WE (Cn J f (.Name x p) H (Mine.ow (fF c x) (some x))) Q
 rw[aj]
 rcases e:a2 J x with _|s<;>rw[e] at aq
 .exact aI aq
 .exact WE.od e ⟨_,H,rfl,(show s.1=v from Option.some.inj aq)▸q⟩
theorem ag7{x:Str}(h:fF c x=true):gy c x=false:=by
 unfold gy
 rcases CL h with e|e|e<;>rw[e]
theorem FS{x:Str}(h:lk c.sc.names x=some .globalImplicit):gy c x=true:=by unfold gy;rw[h]
theorem sG{x:Str}{p:Pos}(aj:fF c x=true)(aq:a2 J x=some (v,false))(q:Q v H):WE (aN G (n+1) c J (.Name x p) H) Q:=by
 show WE (cond (gy c x) _ (Mine.ow (fF c x) (Mine.pt H (t4 J x)))) Q
 rw[ag7 aj]
 exact WE.ow aj (WE.pt (by unfold t4;rw[aq];rfl) q)
theorem bj{f:Expr->T->Option (V×T)}(q:eE [] H):WE (dz f [] H) eE:=⟨_,_,rfl,q⟩
theorem az{f:Expr->T->Option (V×T)}{e:Expr}{r:List Expr}(h:WE (f e H) (afP f eE r)):WE (dz f (e::r) H) eE:=
 WE.ob (h.mono λv O q=>WE.ob (q.mono λvs O q=> .of rfl q))
theorem ag8{f:Str}{fn:Fn}{as:List Expr}{p q:Pos}(aj:lk c.sc.names f=some .globalImplicit)(a6:G.fn f=some fn)(aw:WE (dz (b7 c J (aN G n c J)) as H) (Pf G n J Q fn as)):
  WE (aN G (n+1) c J (.Call (.Name f q) as [] p) H) Q:=by
 refine WE.ow (FS aj) ?_
 rw[a6]
 exact WE.ob (aw.mono λvs H h=>WE.ob (h.mono λ_ O h=>WE.ow h.1 (.of rfl h.2)))
theorem ag9{f:Str}{as:List Expr}{p q:Pos}(aj:lk c.sc.names f=some .globalImplicit)(a6:G.fn f=none)(bx:G.free f=true)(hi:a9 f mm=false)(aw:WE (dz (b7 c J (aN G n c J)) as H) (Pg Q f)):
  WE (aN G (n+1) c J (.Call (.Name f q) as [] p) H) Q:=by
 refine WE.ow (FS aj) ?_
 rw[a6]
 show WE (cond (G.free f) (cond (a9 f mm) _ _) _) Q
 rw[bx,hi]
 exact WE.ob (aw.mono λvs H ⟨v,h,q⟩=>WE.pt h q)
theorem aga{elt it:Expr}{x:Str}{q p:Pos}{ifs:List Expr}{sc:Scope}(mP:lj x sc c.sc=true)(hi:WE (gA G n c J it H) (Pj G n c J Q x sc ifs elt)):
  WE (aN G (n+1) c J (.ListComp elt [⟨.Name x q,it,ifs,0⟩] sc p) H) Q:=
 by
 show WE (Mine.ow (lj x sc c.sc) (Mine.ob (gA G n c J it H) λl H=>Mine.ob (gR (λv H=>gz (dR G n {c with sc:=sc} ((x,v,false)::J)) .And ifs H) (λv H=>aN G n {c with sc:=sc} ((x,v,false)::J) elt H) l H) λl H=>Mine.ow (jM l) (some (.list l,H)))) Q
 exact WE.ow mP (WE.ob (hi.mono λl H h=>WE.ob (h.mono λl O h=>WE.ow h.1 (.of rfl h.2))))
theorem Pq{e:Expr}(aq:nF e=none)(h:WE (aN G n c J e H) (KI eE)):WE (gA G (n+1) c J e H) eE:=by
 show WE (rx G c (aN G n c J) e H (nF e)) eE
 rw[aq]
 exact WE.ob (h.mono λv O ⟨l,h,q⟩=>WE.pt h q)
theorem agb{f:Str}{a:List Expr}{p q:Pos}(a6:a9 f h5=false)(h:WE (aN G n c J (.Call (.Name f q) a [] p) H) (KI eE)):WE (gA G (n+1) c J (.Call (.Name f q) a [] p) H) eE:=
 Pq (by show Mine.ow (a9 f h5) (fD a)=none;rw[a6];rfl) h
theorem ht{x:Str}{p:Pos}(h:WE (aN G n c J (.Name x p) H) (KI eE)):WE (gA G (n+1) c J (.Name x p) H) eE:=Pq rfl h
theorem bO{t:Expr}{b o:List Stmt}{p:Pos}{r:List Stmt}(a1:WE (dR G n c J t H) (afR G n c J b0 b o r)):WS (bv G (n+1) c J (.If t b o p::r) H) b0:=WE.obS (a1.mono λ_ _ h=>WS.thn h)
theorem bm(q:b0 .next J H):WS (bv G (n+1) c J [] H) b0:=⟨_,_,_,rfl,q⟩
theorem Pr{x:Str}{p q:Pos}{e:Expr}{r:List Stmt}(ag:d6 c x=true)(av:fU x c.bd=false)(cL:WE (aN G n c J e H) λv H=>WS (bv G n c (cb J x v false) r H) b0):WS (bv G (n+1) c J (.Assign [.Name x p] e q::r) H) b0:=by
 show WS (Mine.ow (d6 c x) (Mine.ob (aN G n c J e H) λv H=>Mine.ow (!fU x c.bd||ll e) (bv G n c (cb J x v (fU x c.bd)) r H))) b0
 rw[ag,av]
 exact WE.obS cL
theorem Ps{x:Str}{p q:Pos}{e:Expr}{r:List Stmt}(ag:d6 c x=true)(av:fU x c.bd=true)(aQ:ll e=true)(cL:WE (aN G n c J e H) λv H=>WS (bv G n c (cb J x v true) r H) b0):WS (bv G (n+1) c J (.Assign [.Name x p] e q::r) H) b0:=by
 show WS (Mine.ow (d6 c x) (Mine.ob (aN G n c J e H) λv H=>Mine.ow (!fU x c.bd||ll e) (bv G n c (cb J x v (fU x c.bd)) r H))) b0
 rw[ag,av,aQ]
 exact WE.obS cL
theorem il{t it:Expr}{b r:List Stmt}{p:Pos}(hi:WE (gA G n c J it H) (afT G n c J b0 t b r)):WS (bv G (n+1) c J (.For t it b [] p::r) H) b0:=WE.obS (hi.mono λl H h=>WS.thn h)
theorem b6{l r:Expr}{op:CmpOp}{p:Pos}(h:WE (b7 c J (aN G n c J) l H) (Pl c J (aN G n c J) eD op r)):WE (dR G (n+1) c J (.Compare l [op] [r] p) H) eD:=
 WE.ob (h.mono λa H h=>WE.ob (h.mono λb H ⟨t,h,q⟩=>WE.od h (.of rfl q)))
theorem iX{l r:Expr}{op:CmpOp}{p:Pos}(h:WE (b7 c J (aN G n c J) l H) (Pl c J (aN G n c J) (afV Q) op r)):WE (aN G (n+1) c J (.Compare l [op] [r] p) H) Q:=
 WE.ob (h.mono λa H h=>WE.ob (h.mono λb H ⟨t,h,q⟩=>WE.od h (.of rfl q)))
theorem kP{x:Expr}{p:Pos}(h:WE (dR G n c J x H) (afW eD)):WE (dR G (n+1) c J (.UnaryOp .Not x p) H) eD:=WE.ob (h.mono λb O q=> .of rfl q)
theorem j9{x:Str}{p:Pos}(h:WE (b7 c J (aN G n c J) (.Name x p) H) (Pm eD)):WE (dR G (n+1) c J (.Name x p) H) eD:=WE.ob (h.mono λv H ⟨b,h,q⟩=>WE.pt h q)
theorem dc{f:Expr->T->Option (Bool×T)}{op:BoolOp}(q:eD (match op with| .And=>true| .Or=>false) H):WE (gz f op [] H) eD:=by rcases op<;>exact⟨_,_,rfl,q⟩
theorem dD{f:Expr->T->Option (Bool×T)}{e:Expr}{r:List Expr}(h:WE (f e H) (afX eD f r)):WE (gz f .And (e::r) H) eD:=
 WE.ob (h.mono λb H h=>by
  rcases b with _|_
  .exact .of rfl h
  .exact h)
theorem fp{f:Expr->T->Option (Bool×T)}{e:Expr}{r:List Expr}(h:WE (f e H) (afY eD f r)):WE (gz f .Or (e::r) H) eD:=
 WE.ob (h.mono λb H h=>by
  rcases b with _|_
  .exact h
  .exact .of rfl h)
theorem fN{op:BoolOp}{vs:List Expr}{p:Pos}(h:WE (gz (dR G n c J) op vs H) eD):WE (dR G (n+1) c J (.BoolOp op vs p) H) eD:=h
theorem oo{turn:V->am->T->Option (Fl×am×T)}(q:b0 .next J H):WS (je turn [] J H) b0:=⟨_,_,_,rfl,q⟩
theorem cJ{turn:V->am->T->Option (Fl×am×T)}{l:List V}(h:WS (turn v J H) (sE (afS turn l) b0)):WS (je turn (v::l) J H) b0:=WS.thn h
theorem Pt{x:Str}{p:Pos}{b:am->Option (Fl×am×T)}(ag:d6 c x=true)(av:fU x c.bd=false)(h:WS (b (cb J x v false)) b0):WS (Mine.od (li c (.Name x p) v J) b) b0:=
 WS.od (by show Mine.ow (d6 c x&& !fU x c.bd) (some (cb J x v false))=_;rw[ag,av];rfl) h
theorem m0{α bR:Type}{x:Option (α×T)}{f:α->T->Option bR}{a:α}{s:T}(h:x=some (a,s)):Mine.ob x f=f a s:=by rw [h];rfl
theorem kQ{test:V->T->Option (Bool×T)}{elt:V->T->Option (V×T)}{p:Nat->Bool}{f g:Nat->V}:∀{l:List Nat},(∀i∈l,WE (test (f i) H) (Is (p i) H))->(∀i∈l,WE (elt (f i) H) (Is (g i) H))->gR test elt (l.map f) H=some ((l.filter p).map g,H)
 |[],_,_=>rfl
 |i::l,aa,ah=>by
  have bb:=kQ (l:=l) (λj bt=>aa j (.tail _ bt)) (λj bt=>ah j (.tail _ bt))
  obtain⟨hg,agc,a,e1,e2⟩:=aa i (dV ..)
  obtain⟨pG,yw,b,e3,eN⟩:=ah i (dV ..)
  rw[e1,e2] at a
  rw[e3,eN] at b
  refine(m0 a).trans ?_
  rw[qU]
  rcases p i with _|_
  .exact bb
  .exact(m0 b).trans ((m0 bb).trans rfl)
theorem Pu{r:V}{es:List Expr}(h:∀x s,a2 J x=some s->lh r s=true):gx J r es=true:=by
 induction es with
 |nil=>rfl
 |cons e es bb=>
  refine(c6 _ _).mpr ⟨?_,bb⟩
  unfold t0
  rcases q:Mine.od (ek e) (a2 J) with _|s
  .rfl
  .obtain⟨x,_,q⟩:=bD q
   exact h x s q
theorem Pw:∀{J:am}{x:Str}{s:V×Bool},J.all (λp=> !p.2.2)=true->a2 J x=some s->s.2=false
 |[],_,_,_,h=>aI h
 |_::_,_,_,aw,h=>(eA h).elim (λp=>Option.some.inj p.2▸Bool.ti (aK aw).1) λp=>Pw (aK aw).2 p.2
theorem cr{r:V}{es:List Expr}(h:J.all (λp=> !p.2.2)=true):gx J r es=true:=Pu λx s q=>by unfold lh;rw[Pw h q];rfl
theorem Px{r:V}{es:List Expr}(aa:V.l8 r=true)(ah:V.k5 r=true):gx J r es=true:=Pu λx s _=>by
 unfold lh
 rw[aa,ah]
 rcases s.2 with _|_
 .rfl
 .rcases JP s.1 with _|_<;>rfl
theorem FT{r:V}{x:Str}{p:Pos}{a:V}(h:a2 J x=some (a,false)):t0 J r (.Name x p)=true:=by
 show (match a2 J x with|some s=>lh r s|none=>true)=true
 rw[h];rfl
theorem anZ{r:V}{x y:Str}{p q:Pos}{a b:V}(aa:a2 J x=some (a,false))(ah:a2 J y=some (b,false)):gx J r [.Name x p,.Name y q]=true:=
 (c6 _ _).mpr ⟨FT aa,(c6 _ _).mpr ⟨FT ah,rfl⟩⟩
end
section
variable {G:Gl}{n:Nat}{c:Cx}{J:am}{H O:T}{v u:V}{Q:V->T->Prop}{b0:Fl->am->T->Prop}{eD:Bool->T->Prop}{eE:List V->T->Prop}
theorem WE.og{α:Type}{f:T->Option (α×T)}{H:T}{Q:α->T->Prop}{v:α}(q:Q v H)(h:f H=some (v,H):=by rfl'):WE (f H) Q:=⟨v,H,h,q⟩
theorem WE.ok{α:Type}{x:Option (α×T)}{Q:α->T->Prop}{v:α}{O:T}(q:Q v O)(h:x=some (v,O):=by rfl'):WE x Q:=⟨v,O,h,q⟩
theorem cc{f:Fn}{as:List V}(ao:o9 f.ps as f.dfl=some J)(aJ:WS (bv G n ⟨f.sc,f.bd⟩ J f.bd H) (jw Q))(av:(f.ps.any λp=>fU p f.bd)=false:=by rfl'):WE (bK G (n+1) f as H) Q:=ag6 av ao aJ
theorem vn{f:Expr->T->Option (V×T)}{x:Str}{p:Pos}(q:Q v H)(aj:fF c x=true:=by rfl')(aq:(a2 J x).map (·.1)=some v:=by rfl'):WE (b7 c J f (.Name x p) H) Q:=sF aj aq q
theorem dE{x:Str}{p:Pos}(q:Q v H)(aj:fF c x=true:=by rfl')(aq:a2 J x=some (v,false):=by rfl'):WE (aN G (n+1) c J (.Name x p) H) Q:=sG aj aq q
theorem bo{f:Str}{fn:Fn}{as:List Expr}{p q:Pos}(aw:WE (dz (b7 c J (aN G n c J)) as H) (Pf G n J Q fn as))(aj:lk c.sc.names f=some .globalImplicit:=by rfl')(a6:G.fn f=some fn:=by rfl'):WE (aN G (n+1) c J (.Call (.Name f q) as [] p) H) Q:=ag8 aj a6 aw
theorem ef{f:Str}{as:List Expr}{p q:Pos}(aw:WE (dz (b7 c J (aN G n c J)) as H) (Pg Q f))(aj:lk c.sc.names f=some .globalImplicit:=by rfl')(a6:G.fn f=none:=by rfl')(bx:G.free f=true:=by rfl')(hi:a9 f mm=false:=by rfl'):WE (aN G (n+1) c J (.Call (.Name f q) as [] p) H) Q:=ag9 aj a6 bx hi aw
theorem d8{elt it:Expr}{x:Str}{q p:Pos}{ifs:List Expr}{sc:Scope}(hi:WE (gA G n c J it H) (Pj G n c J Q x sc ifs elt))(mP:lj x sc c.sc=true:=by rfl'):WE (aN G (n+1) c J (.ListComp elt [⟨.Name x q,it,ifs,0⟩] sc p) H) Q:=aga mP hi
theorem hS{f:Str}{a:List Expr}{p q:Pos}(h:WE (aN G n c J (.Call (.Name f q) a [] p) H) (KI eE))(a6:a9 f h5=false:=by rfl'):WE (gA G (n+1) c J (.Call (.Name f q) a [] p) H) eE:=agb a6 h
theorem cB{x:Str}{p q:Pos}{e:Expr}{r:List Stmt}(cL:WE (aN G n c J e H) λv H=>WS (bv G n c (cb J x v false) r H) b0)(ag:d6 c x=true:=by rfl')(av:fU x c.bd=false:=by rfl'):WS (bv G (n+1) c J (.Assign [.Name x p] e q::r) H) b0:=Pr ag av cL
theorem so{x:Str}{p q:Pos}{e:Expr}{r:List Stmt}(cL:WE (aN G n c J e H) λv H=>WS (bv G n c (cb J x v true) r H) b0)(ag:d6 c x=true:=by rfl')(av:fU x c.bd=true:=by rfl')(aQ:ll e=true:=by rfl'):WS (bv G (n+1) c J (.Assign [.Name x p] e q::r) H) b0:=Ps ag av aQ cL
theorem ql{x:Str}{p:Pos}{b:am->Option (Fl×am×T)}(h:WS (b (cb J x v false)) b0)(ag:d6 c x=true:=by rfl')(av:fU x c.bd=false:=by rfl'):WS (od (li c (.Name x p) v J) b) b0:=Pt ag av h
end
def aH:List Nat->V
 |[]=> .int 2
 |[i]=>ax i
 |l=>match f0 l [8,9] with
  |true=> .int 12
  |false=> .ty (.tup [.int 6,.tup (l.map ax)])
def cY (l:List Nat):List (V×V):=l.map λi=>(ax i,.int 1)
theorem bl{α:Type}{l:List α}{p:α->Bool}(h:l.all p=true){x:α}(hx:x∈l):p x=true:=List.all_eq_true.mp h x hx
theorem bJ{α bR:Type}{l:List α}{f g:α->bR}(h:l.map f=l.map g){x:α}(hx:x∈l):f x=g x:=List.map_inj_left.mp h x hx
def FU (a:Option Bool) (b:Bool):Bool:=ci a λt=>t==b
theorem Py{a:Option Bool}{b:Bool}(h:FU a b=true):a=some b:=by
 obtain⟨t,e,k⟩:=dX h
 rw[e,eq_of_beq k]
theorem bH{k j n:Nat}(h:Nat.ble k j=true):k<=n+j:=aT (fi h) (tz j n)
theorem WE.to{α:Type}{x:Option (α×T)}{a:α}{s:T}(h:WE x (Is a s)):x=some (a,s):=by
 obtain⟨v,O,e,e1,e2⟩:=h
 rw[e,e1,e2]
theorem agd(D:List V)(c:Nat):(PS.all λa=>PS.all λb=>FU ((ar D c).l7 (ax a) (ax b)) (Nat.beq a b))=true:=by rfl'
noncomputable def ints1:List Int:=[-1,0,1,2,3,4,5,6,7,8,9,10,11,12,13,14,15,16,17,18,19,20,21,22,23,24,25,26,27,28,29,30]
theorem age(D:List V)(c:Nat):(PS.all λa=>ints1.all λb=>FU ((ar D c).l7 (ax a) (.int b)) (cN a b))=true:=by rfl'
theorem agf(D:List V)(c:Nat):(PS.all λa=>PS.all λb=>((ar D c).le (ax a) (ax b)).isSome)=true:=by rfl'
theorem agg{D:List V}{c a b:Nat}(aw:a∈PS)(ao:b∈PS):(ar D c).l7 (ax a) (ax b)=some (Nat.beq a b):=Py (bl (bl (agd D c) aw) ao)
theorem agh{D:List V}{c a:Nat}{b:Int}(aw:a∈PS)(ao:b∈ints1):(ar D c).l7 (ax a) (.int b)=some (cN a b):=Py (bl (bl (age D c) aw) ao)
noncomputable def fe (l:List Nat) (i:Nat):List Nat:=cond (l.any (Nat.beq · i)) l (l++[i])
theorem agi{j i:Nat}{l:List Nat}(e:Nat.beq j i=false):fe (j::l) i=j::fe l i:=by
 unfold fe
 rw[h1,e,tB]
 rcases l.any (Nat.beq · i) with _|_<;>rfl
theorem vr{D:List V}{c i:Nat}(hi:i∈PS):∀{l:List Nat},(∀j∈l,j∈PS)->(ar D c).k7 (ax i) (.int 1) (cY l)=some (cY (fe l i))
 |[],_=>rfl
 |j::l,h=>by
  have bb:=vr (D:=D) (c:=c) hi (l:=l) λk aj=>h k (.tail _ aj)
  show od ((ar D c).l7 (ax j) (ax i)) (λt=>cond t (some ((ax j,.int 1)::cY l)) (od ((ar D c).k7 (ax i) (.int 1) (cY l)) λm=>some ((ax j,.int 1)::m)))=_
  rw[agg (h j (dV ..)) hi,bb]
  rcases e:Nat.beq j i with _|_
  .rw[agi e];rfl
  .unfold fe
   rw[h1,e,z4];rfl
theorem Pz{D:List V}{c:Nat}{x:V}{e:Nat->Bool}:∀{l:List Nat},(∀j∈l,(ar D c).l7 (ax j) x=some (e j))->(od ((ar D c).get x (cY l)) λo=>some o.isSome)=some (l.any e)
 |[],_=>rfl
 |j::l,h=>by
  have bb:=Pz (D:=D) (c:=c) (x:=x) (e:=e) (l:=l) λk aj=>h k (.tail _ aj)
  show (od (od ((ar D c).l7 (ax j) x) λt=>cond t (some (some (.int 1))) ((ar D c).get x (cY l))) λo=>some o.isSome)=_
  rw[h j (dV ..),h1]
  rcases e j with _|_
  .exact bb
  .rfl
theorem addN_mem{l:List Nat}{i j:Nat}:j∈fe l i↔j∈l\/j=i:=by
 unfold fe
 rcases q:l.any (Nat.beq · i) with _|_
 .exact List.mem_append.trans (or_congr q0 zN)
 .obtain⟨k,aj,e⟩:=List.any_eq_true.mp q
  have e:k=i:=ei e
  rw[e] at aj
  exact⟨.inl,λh=>h.elim id λbq=>bq▸aj⟩
theorem agj{l:List Nat}{i:Nat}(h:l.Nodup):(fe l i).Nodup:=by
 unfold fe
 rcases q:l.any (Nat.beq · i) with _|_
 .exact List.nodup_append.mpr ⟨h,List.nodup_cons.mpr ⟨kj,.nil⟩,λa aw b ao e=>nomatch (q.symm.trans (List.any_eq_true.mpr ⟨a,aw,e.trans (dG ao)▸jF a⟩))⟩
 .exact h
theorem PA:∀{l m:List Nat},l.Nodup->(∀i∈l,i∈m)->l.length<=m.length
 |[],_,_,_=>iB _
 |a::l,m,h,aJ=>by
  have aw:=aJ a (dV ..)
  have h:=List.nodup_cons.mp h
  have:=PA (m:=m.erase a) h.2 λi hi=>(List.mem_erase_of_ne (λ(e:i=a)=>h.1 (e▸hi))).mpr (aJ i (.tail _ hi))
  rw[List.length_erase_of_mem aw] at this
  exact aT (gr this) (dW (Nat.sub_add_cancel (List.length_pos_of_mem aw)))
structure Pts (l:List Nat):Prop where
 sub:∀i∈l,i∈PS
 nd:l.Nodup
theorem Pts.len{l:List Nat}(h:Pts l):l.length<=34:=PA h.nd h.sub
theorem Pts.add{l:List Nat}(h:Pts l){i:Nat}(hi:i∈PS):Pts (fe l i):=⟨λj bt=>(addN_mem.mp bt).elim (h.sub j) λe=>e▸hi,agj h.nd⟩
theorem agk(n:Nat)(D:List V)(c:Nat):(PS.map λi=>bK G0 (n+20) (aE 61) [.tab,ax i] (ar D c))=PS.map λi=>some (.tup [ax i],ar D c):=by rfl'
theorem io{l:List Nat}(h:Pts l){m:Nat}(av:20<=m)(D:List V)(c:Nat):bK G0 m (aE 61) [.tab,aH l] (ar D c)=some (.tup (l.map ax),ar D c):=by
 obtain⟨n,rfl⟩:=c0 av
 match l,h with
 |[],_=>rfl'
 |[i],h=>exact bJ (agk n D c) (h.sub i (dV ..))
 |i::j::l,h=>
  have e:aH (i::j::l)=match f0 (i::j::l) [8,9] with|true=> .int 12|false=> .ty (.tup [.int 6,.tup ((i::j::l).map ax)]):=rfl
  rw[e]
  cases q:f0 (i::j::l) [8,9] with
  |true=>
   rw[lEq_iff.mp q]
   rfl'
  |false=>
   generalize (i::j::l).map ax=L
   rfl'
noncomputable def lW (l:List (Nat×Nat)) (i:Nat):Nat:=match l with
 |[]=>0
 |(a,b)::r=>cond (Nat.beq a i) b (lW r i)
noncomputable def FV (l:List (Nat×Int)) (i:Nat):Int:=match l with
 |[]=> -1
 |(a,b)::r=>cond (Nat.beq a i) b (FV r i)
def iY:Nat->Int:=FV [(8,-1),(15,9),(20,19),(21,-1),(23,-1),(26,-1)]
def ip:Nat->Int:=FV [(18,6),(19,6),(20,6),(21,6),(22,7),(23,7),(24,7),(25,7),(26,7),(27,6)]
def vt (i:Nat):V:=match Nat.blt i 31 with
 |true=>(base1[i]?).getD .none
 |false=> .tup [.int 7,.tup [.int 30,.int (i - 27:Nat)]]
theorem agl(n:Nat)(D:List V)(c:Nat):(PS.map λi=>bK G0 (n+30) (aE 63) [.tab,ax i] (ar D c))=PS.map λi=>some (.int (iY i),ar D c):=by rfl'
theorem agm(n:Nat)(D:List V)(c:Nat):(PS.map λi=>bK G0 (n+30) (aE 62) [vt i] (ar D c))=PS.map λi=>some (.int (ip i),ar D c):=by rfl'
theorem agn(D:List V)(c:Nat):(PS.map λi=>(ar D c).rowOf (ax i))=PS.map λi=>some (vt i):=by rfl'
theorem ago{i:Nat}(hi:i∈PS){m:Nat}(av:30<=m)(D:List V)(c:Nat):bK G0 m (aE 63) [.tab,ax i] (ar D c)=some (.int (iY i),ar D c):=by
 obtain⟨n,rfl⟩:=c0 av
 exact bJ (agl n D c) hi
theorem agp{i:Nat}(hi:i∈PS){m:Nat}(av:30<=m)(D:List V)(c:Nat):bK G0 m (aE 62) [vt i] (ar D c)=some (.int (ip i),ar D c):=by
 obtain⟨n,rfl⟩:=c0 av
 exact bJ (agm n D c) hi
theorem PB:(PS.all λi=>ints1.any λz=>cN (iY i) z)=true/\(PS.all λi=>ints1.any λz=>cN (ip i) z)=true:=⟨by rfl',by rfl'⟩
theorem PC{i:Nat}(hi:i∈PS):iY i∈ints1/\ip i∈ints1:=by
 obtain⟨z,bi,e⟩:=List.any_eq_true.mp (bl PB.1 hi)
 obtain⟨y,aY,bq⟩:=List.any_eq_true.mp (bl PB.2 hi)
 rw[iEq_iff.mp e,iEq_iff.mp bq];exact⟨bi,aY⟩
theorem m1{D:List V}{c:Nat}{c3:List Nat}(h:∀i∈c3,i∈PS){z:Int}(bi:z∈ints1):cX (ar D c) .In (.int z) (.dict (cY c3))=some (c3.any λj=>cN j z):=
 Pz λj bt=>agh (h j bt) bi
theorem agq{D:List V}{c:Nat}{c3:List Nat}(h:∀i∈c3,i∈PS){z:Int}(bi:z∈ints1):cX (ar D c) .NotIn (.int z) (.dict (cY c3))=some (!(c3.any λj=>cN j z)):=(congrArg wv (m1 (D:=D) (c:=c) h bi)).trans rfl
theorem agr{G:Gl}{n:Nat}{c:Cx}{J:am}{H:T}{Q:V->T->Prop}{o s:Expr}{a:Str}{p q:Pos}(aX:hA o=true)(aw:a9 a h6=true)(h:WE (aN G n c J o H) (Pp (aN G n c J) Q s)):
  WE (aN G (n+1) c J (.Subscript (.Attribute o a q) s p) H) Q:=
 WE.ow aX (WE.ob (h.mono λb H ⟨e,h⟩=>WE.ow (by rw [e];rfl) (WE.ob (h.mono λi H ⟨r,h,q⟩=>WE.pt (by unfold JU;rw[aw];exact h) q))))
theorem qn{G:Gl}{n:Nat}{c:Cx}{J:am}{H:T}{Q:V->T->Prop}{o s:Expr}{a:Str}{p q:Pos}(h:WE (aN G n c J o H) (Pp (aN G n c J) Q s))(aX:hA o=true:=by rfl')(aw:a9 a h6=true:=by rfl'):WE (aN G (n+1) c J (.Subscript (.Attribute o a q) s p) H) Q:=agr aX aw h
theorem PD{f:Expr->T->Option (V×T)}{c:Cx}{J:am}{H:T}{Q:V->T->Prop}{a b d p}(h:WE (f (.Compare a b d p) H) Q):WE (b7 c J f (.Compare a b d p) H) Q:=h
theorem lX{f:Expr->T->Option (V×T)}{c:Cx}{J:am}{H:T}{Q:V->T->Prop}{a b p}(h:WE (f (.Subscript a b p) H) Q):WE (b7 c J f (.Subscript a b p) H) Q:=h
def kR (c3:List Nat) (i:Nat):Bool:= !(c3.any λj=>cN j (iY i))&& !(c3.any λj=>cN j (ip i))
theorem ags{c3:List Nat}(h:Pts c3){i:Nat}(hi:i∈PS){m:Nat}(av:40<=m)(D:List V)(c:Nat):bK G0 m (aE 65) [.tab,.dict (cY c3),ax i] (ar D c)=some (.bool (kR c3 i),ar D c):=by
 obtain⟨n,rfl⟩:=c0 av
 refine WE.to ?_
 refine cc rfl ?_
 refine bO (b6 (cw (bo (fn:=aE 63) (az (vn (az (vn (bj (.of (ago hi (bH rfl) D c) ⟨cr rfl,?_⟩)))))))))
 refine vn ⟨_,m1 h.sub (PC hi).1,?_⟩
 rcases e:c3.any λj=>cN j (iY i) with _|_
 rotate_left
 .exact ck (.og (v:=.bool false) ⟨by unfold kR;rw[e];rfl,rfl⟩)
 .refine bm ?_
  refine ck (PD (iX (cw (bo (fn:=aE 62) (az (lX (qn (dE ⟨rfl,dE ⟨vt i,bJ (agn D c) hi,bj (.of (agp hi (bH rfl) D c) ⟨cr rfl,?_⟩)⟩⟩))))))))
  exact vn ⟨_,agq h.sub (PC hi).2,by unfold kR;rw[e];rfl,rfl⟩
section
variable {G:Gl}{n:Nat}{c:Cx}{J:am}{H O:T}{v u:V}{Q:V->T->Prop}{b0:Fl->am->T->Prop}{eD:Bool->T->Prop}{eE:List V->T->Prop}
theorem PE{x:Str}(aq:a2 J x=some (v,true)):nG J x=some v:=by unfold nG;rw[aq];rfl
theorem agt{x:Str}{l:List (V×V)}(aq:a2 J x=some (.dict l,true)):wC J x=some l:=by unfold wC;rw[aq];rfl
theorem agu{x:Str}{l:List V}(aq:a2 J x=some (.list l,true)):pc J x=some l:=by unfold pc;rw[aq];rfl
theorem agv{f x:Str}{cR p q ca:Pos}{r:List Stmt}{fn:Fn}{y:Str}(aq:a2 J x=some (v,true))(ag:d6 c x=true)(aj:lk c.sc.names f=some .globalImplicit)(a6:G.fn f=some fn)(aS:fn.ps=[y])(av:fU y fn.bd=true)(aw:kv y fn.bd=false)(h:WS (bv G n ⟨fn.sc,fn.bd⟩ [(y,v,true)] fn.bd H) λbw bg O=>bw= .next/\∃f2,a2 bg y=some (f2,true)/\WS (bv G n c (cb J x f2 true) r O) b0):WS (bv G (n+1) c J (.Expr (.Call (.Name f cR) [.Name x p] [] q) ca::r) H) b0:=by
 obtain⟨bw,bg,O,e,e1,f2,bq,h⟩:=h
 show WS (wI c J (aN G n c J) (λJ H=>bv G n c J r H) G (λfn J H=>bv G n ⟨fn.sc,fn.bd⟩ J fn.bd H) f x (.Call (.Name f cR) [.Name x p] [] q) H (nG J x)) b0
 rw[PE aq]
 refine WS.ow (by rw [ag,FS aj];rfl) (WS.od a6 (WS.od (b:=y) (by rw [aS];rfl) (WS.ow (by rw [av,aw];rfl) (WS.an3 ⟨bw,bg,O,e,?_⟩))))
 rw[e1]
 exact WS.od (PE bq) h
theorem FW{x:Str}{p q s:Pos}{k e:Expr}{r:List Stmt}{l:List (V×V)}(aq:a2 J x=some (.dict l,true))(ag:d6 c x=true)(h:WE (aN G n c J e H) λv H=>WE (aN G n c J k H) λi H=>(jb i&&v.flat&&cz l)=true/\∃cK,H.k7 i v l=some cK/\WS (bv G n c (cb J x (.dict cK) true) r H) b0):
  WS (bv G (n+1) c J (.Assign [.Subscript (.Name x p) k q] e s::r) H) b0:=
 WE.obS (h.mono λ_ _ h=>WS.od (agt aq) (WS.ow ag (WE.obS (h.mono λ_ _ ⟨aa,_,ah,h⟩=>WS.ow aa (WS.od ah h)))))
theorem iq{a:Expr}{b:List Expr}{k:List Keyword}{p:Pos}(h:WE (aN G n c J (.Call a b k p) H) (Pm eD)):WE (dR G (n+1) c J (.Call a b k p) H) eD:=WE.ob ((cw h).mono λ_ _ ⟨_,h,q⟩=>WE.pt h q)
theorem agw(o a:Expr):rv o [a]=none:=by
 unfold rv
 rcases lg o with _|_<;>rfl
theorem agx{o:Expr}{m:Str}{cj p:Pos}{a:Expr}(aX:(hA o&&cj.endLine==p.line&&Nat.blt [a].length 25)=true)(_hni:(lg o).isSome=false)(av:a9 m h7=true)(h:WE (aN G n c J o H) (ag1 (aN G n c J) Q a)):
  WE (aN G (n+1) c J (.Call (.Attribute o m cj) [a] [] p) H) Q:=by
 show WE (t5 G (aN G n c J) (bK G n) o m (cj.endLine==p.line) [a] H (rv o [a])) Q
 rw[agw]
 refine WE.ow aX (WE.ob (h.mono λb H ⟨e,h⟩=>?_))
 rw[e]
 exact WE.ow av (WE.ob (az (h.mono λrow H h=>bj (WE.od rfl h))))
theorem yx{α bR:Type}{turn:V->am->T->Option (Fl×am×T)}{f:α->V}{ok:α->Prop}{I:bR->am->T->Prop}{st:bR->α->bR}(a1:∀a,ok a->∀b J H,I b J H->WS (turn (f a) J H) (f6 (I (st b a)))):
  ∀(l:List α),(∀a∈l,ok a)->∀b J H,I b J H->WS (je turn (l.map f) J H) (f6 (I (l.foldl st b)))
 |[],_,b,J,H,h=>oo ⟨rfl,h⟩
 |a::l,ag,b,J,H,h=>by
  obtain⟨bw,bg,O,e,e1,h'⟩:=a1 a (ag a (dV ..)) b J H h
  rw[e1] at e
  exact cJ ⟨_,_,_,e,yx a1 l (λx hx=>ag x (.tail _ hx)) _ bg O h'⟩
end
def dg (l:List Nat) (z:Int):Bool:=l.any λj=>cN j z
def eF (l:List Nat):Int:=cond (dg l 0) 0 (cond (dg l 13) 13 (cond (dg l 1) 1 (-1)))
theorem agy{c3:List Nat}(h:Pts c3){m:Nat}(av:40<=m)(D:List V)(c:Nat):bK G0 m (aE 66) [.dict (cY c3)] (ar D c)=some (.int (eF c3),ar D c):=by
 obtain⟨n,rfl⟩:=c0 av
 refine WE.to ?_
 refine cc rfl ?_
 refine il (.og (v:=[.int 0,.int 13,.int 1]) ?_)
 have h0:=m1 (D:=D) (c:=c) h.sub (z:=0) (by decide)
 have agz:=m1 (D:=D) (c:=c) h.sub (z:=13) (by decide)
 have aa:=m1 (D:=D) (c:=c) h.sub (z:=1) (by decide)
 refine cJ (ql (bO (b6 (vn (vn ⟨_,h0,?_⟩)))))
 cases e7:c3.any λj=>cN j 0 with
 |true=>exact ck (vn (v:=.int 0) ⟨by unfold eF dg;rw[e7];rfl,rfl⟩)
 |false=>
  refine bm (bm ?_)
  refine cJ (ql (bO (b6 (vn (vn ⟨_,agz,?_⟩)))))
  cases e1:c3.any λj=>cN j 13 with
  |true=>exact ck (vn (v:=.int 13) ⟨by unfold eF dg;rw[e7,e1];rfl,rfl⟩)
  |false=>
   refine bm (bm ?_)
   refine cJ (ql (bO (b6 (vn (vn ⟨_,aa,?_⟩)))))
   cases e2:c3.any λj=>cN j 1 with
   |true=>exact ck (vn (v:=.int 1) ⟨by unfold eF dg;rw[e7,e1,e2];rfl,rfl⟩)
   |false=>
    refine bm (bm (oo ?_))
    exact ck (.og (v:=.int (-1)) ⟨by unfold eF dg;rw[e7,e1,e2];rfl,rfl⟩)
def g4 (l:List Nat):List Nat:=cond ((dg l 8||dg l 14)&&(dg l 9||dg l 15)) (fe (fe l 8) 9) l
def go:=an "got"
theorem Pts.amV{l:List Nat}(h:Pts l):Pts (fe (fe l 8) 9):=(h.add (by decide)).add (by decide)
theorem yy{l:List Nat}(h:Pts l):cz (cY l)=true:=by
 have:=h.len
 unfold cz cY
 rw[eQ]
 exact md (by first|exact bH rfl|lia)
theorem agA{c3:List Nat}(h:Pts c3){m:Nat}(av:20<=m)(D:List V)(c:Nat):WS (bv G0 m ⟨(aE 64).sc,(aE 64).bd⟩ [(go,.dict (cY c3),true)] (aE 64).bd (ar D c)) λbw bg O=>bw= .next/\O=ar D c/\a2 bg go=some (.dict (cY (g4 c3)),true):=by
 obtain⟨n,rfl⟩:=c0 av
 have agB:=m1 (D:=D) (c:=c) h.sub (z:=8) (by decide)
 have agC:=m1 (D:=D) (c:=c) h.sub (z:=9) (by decide)
 have agD:=m1 (D:=D) (c:=c) h.sub (z:=14) (by decide)
 have agE:=m1 (D:=D) (c:=c) h.sub (z:=15) (by decide)
 have one:∀{k:Nat}{x:Str}{p q r:Pos}{z:Int}{b:Bool}{Q:Bool->T->Prop},b7 ⟨(aE 64).sc,(aE 64).bd⟩ [(go,V.dict (cY c3),true)] (aN G0 (k+1) ⟨(aE 64).sc,(aE 64).bd⟩ [(go,.dict (cY c3),true)]) (.Name x p) (ar D c)=some (.int z,ar D c)->cX (ar D c) .In (.int z) (.dict (cY c3))=some b->Q b (ar D c)->
   WE (dR G0 (k+2) ⟨(aE 64).sc,(aE 64).bd⟩ [(go,.dict (cY c3),true)] (.Compare (.Name x p) [.In] [.Name go q] r) (ar D c)) Q:=λaa ah aC=>b6 (.of aa (vn ⟨_,ah,aC⟩))
 refine bO (WE.mono (P:=λb O=>b=((dg c3 8||dg c3 14)&&(dg c3 9||dg c3 15))/\O=ar D c) ?_ λb O ⟨ao,EX⟩=>?_)
 .refine fN (dD (fN (fp (one (z:=8) (by rfl') agB ?_))))
  have FX:∀{k:Nat}{x y:Str}{p q hK jg r d7 pp:Pos},b7 ⟨(aE 64).sc,(aE 64).bd⟩ [(go,V.dict (cY c3),true)] (aN G0 (k+1) ⟨(aE 64).sc,(aE 64).bd⟩ [(go,.dict (cY c3),true)]) (.Name x p) (ar D c)=some (.int 9,ar D c)->
    b7 ⟨(aE 64).sc,(aE 64).bd⟩ [(go,V.dict (cY c3),true)] (aN G0 (k+1) ⟨(aE 64).sc,(aE 64).bd⟩ [(go,.dict (cY c3),true)]) (.Name y hK) (ar D c)=some (.int 15,ar D c)->
    WE (gz (dR G0 (k+3) ⟨(aE 64).sc,(aE 64).bd⟩ [(go,.dict (cY c3),true)]) .And [.BoolOp .Or [.Compare (.Name x p) [.In] [.Name go q] r,.Compare (.Name y hK) [.In] [.Name go jg] d7] pp] (ar D c)) λb O=>b=(dg c3 9||dg c3 15)/\O=ar D c:=λaa ah=>by
   refine dD (fN (fp (one aa agC ?_)))
   unfold dg
   cases ao0:c3.any λj=>cN j 9 with
   |true=>exact dc ⟨rfl,rfl⟩
   |false=>
    refine fp (one ah agE ?_)
    cases ao1:c3.any λj=>cN j 15 with
    |true=>exact dc ⟨rfl,rfl⟩
    |false=>exact dc ⟨rfl,rfl⟩
  unfold dg at FX |-
  cases FY:c3.any λj=>cN j 8 with
  |true=>exact FX (by rfl') (by rfl')
  |false=>
   refine fp (one (z:=14) (by rfl') agD ?_)
   cases ao2:c3.any λj=>cN j 14 with
   |true=>exact FX (by rfl') (by rfl')
   |false=>exact dc ⟨rfl,rfl⟩
 subst EX
 cases e:(dg c3 8||dg c3 14)&&(dg c3 9||dg c3 15) with
 |false=>
  rw[ao,e]
  exact bm (bm ⟨rfl,rfl,by rw [g4,e];rfl⟩)
 |true=>
  rw[ao,e]
  refine FW (by rfl') (by rfl') (.og (v:=.int 1) (.og (v:=ax 8) ⟨by rw [yy h];rfl,_,vr (by decide) h.sub,?_⟩))
  have h':=h.add (i:=8) (by decide)
  refine FW (by rfl') (by rfl') (.og (v:=.int 1) (.og (v:=ax 9) ⟨by rw [yy h'];rfl,_,vr (by decide) h'.sub,?_⟩))
  exact bm (bm ⟨rfl,rfl,by rw [g4,e];rfl⟩)
theorem WS.mono{x:Option (Fl×am×T)}{P Q:Fl->am->T->Prop}(h:WS x P)(q:∀f J O,P f J O->Q f J O):WS x Q:=let ⟨f,J,O,e,p⟩:=h;⟨f,J,O,e,q f J O p⟩
structure GotF (J:am) (g:List Nat):Prop where
 tab:a2 J cF=some (.tab,false)
 got:a2 J go=some (.dict (cY g),true)
theorem GotF.set{J:am}{g:List Nat}(h:GotF J g){x:Str}{v:V}{o:Bool}(aa:cF≠x)(ah:go≠x):GotF (cb J x v o) g:=⟨(ih aa).trans h.1,(ih ah).trans h.2⟩
theorem GotF.put{J:am}{g au:List Nat}(h:GotF J g):GotF (cb J go (.dict (cY au)) true) au:=⟨(ih (by decide)).trans h.1,rget_same⟩
theorem agF{J:am}{x:Str}{v:V}{o:Bool}(h:a2 J x=some (v,o)):(a2 J x).map (·.1)=some v:=by rw [h];rfl
inductive PermV (l:List Nat) (x:Option (List V)):Prop
 |mk (cK:List Nat) (p:cK.Perm l) (e:x=some (cK.map ax))
theorem PF{D:List V}{c i:Nat}(hi:i∈PS):∀{l:List Nat},(∀j∈l,j∈PS)->PermV (i::l) ((ar D c).ins (ax i) (l.map ax))
 |[],_=>⟨[i],.refl _,rfl⟩
 |j::l,h=>by
  obtain⟨cK,p,e⟩:=PF (D:=D) (c:=c) hi (l:=l) λk aj=>h k (.tail _ aj)
  obtain⟨b,ao⟩:=Option.isSome_iff_exists.mp (bl (bl (agf D c) hi) (h j (dV ..)))
  show PermV _ (od ((ar D c).le (ax i) (ax j)) λt=>cond t (some (ax i::ax j::l.map ax)) (od ((ar D c).ins (ax i) (l.map ax)) λm=>some (ax j::m)))
  rw[ao,e]
  rcases b with _|_
  .exact⟨j::cK,(p.cons j).trans (.swap i j l),rfl⟩
  .exact⟨i::j::l,.refl _,rfl⟩
theorem PG{D:List V}{c:Nat}:∀{l:List Nat},(∀j∈l,j∈PS)->PermV l ((ar D c).sort (l.map ax))
 |[],_=>⟨[],.refl _,rfl⟩
 |i::l,h=>by
  obtain⟨l₁,fO,iR⟩:=PG (D:=D) (c:=c) (l:=l) λk aj=>h k (.tail _ aj)
  obtain⟨l₂,agG,qc⟩:=PF (D:=D) (c:=c) (h i (dV ..)) (l:=l₁) λk aj=>h k (.tail _ (fO.mem_iff.mp aj))
  show PermV _ (od ((ar D c).sort (l.map ax)) ((ar D c).ins (ax i)))
  rw[iR]
  exact⟨l₂,agG.trans (fO.cons i),qc⟩
theorem PI:(PS.all λi=>mj (ax i)&&V.flat (ax i))=true:=by rfl'
theorem PJ{n k:Nat}(h:n<=34)(aj:Nat.ble 34 k=true):Nat.ble n k=true:=md (aT h (fi aj))
theorem agH(H:T)(as:List V):f1 H tU as=od (fD as) (Cj H):=by rfl'
theorem agI(H:T)(as:List V):f1 H dy as=od (fD as) Ci:=by rfl'
theorem FZ{l:List Nat}(h:Pts l)(D:List V)(c:Nat):∃cK:List Nat,cK.Perm l/\f1 (ar D c) tU [.dict (cY l)]=some (.list (cK.map ax)):=by
 obtain⟨cK,p,e⟩:=PG (D:=D) (c:=c) h.sub
 refine⟨cK,p,?_⟩
 have aX:Nat.ble (cY l).length 63=true:=by
  unfold cY
  rw[eQ]
  exact PJ h.len rfl
 have aw:(cY l).all (λp=>mj p.1)=true:=by
  unfold cY
  rw[i6]
  exact List.all_eq_true.mpr λi hi=>(aK (bl PI (h.sub i hi))).1
 have aj:(cY l).map (·.1)=l.map ax:=by unfold cY;rw[we];rfl
 rw[agH]
 show ow (Nat.ble (cY l).length 63&&(cY l).all (λp=>mj p.1)) (od ((ar D c).sort ((cY l).map (·.1))) λl=>some (V.list l))=_
 rw[aX,aw,aj,e];rfl
theorem sH{H:T}{l:List V}(h:cz l=true):f1 H dy [.list l]=some (.int l.length):=by
 rw[agI]
 show ow (cz l) _=_
 rw[h];rfl
theorem qo{l:List Nat}(h:Pts l):cz (l.map ax)=true:=by
 unfold cz
 rw[eQ]
 exact PJ h.len rfl
theorem F2{l:List Nat}(h:Pts l):(l.map ax).all V.flat=true:=by
 rw[i6]
 exact List.all_eq_true.mpr λi hi=>(aK (bl PI (h.sub i hi))).2
theorem PK{x:V}:∀{a b:List V}{n:Nat},dL x a n=none->dL x (a++b) n=dL x b (n+a.length)
 |[],_,_,_=>rfl
 |y::a,b,n,h=>by
  rw[tu,mo]
  rw[mo] at h
  rcases e:V.same y x with _|_<;>rw[e] at h
  .exact(PK (a:=a) h).trans (by rw [kk,jE,jG 1])
  .exact nomatch h
theorem agJ:(PS.all λi=>V.key 31 2 (ax i))=true:=by rfl'
theorem agK{l:List Nat}(h:∀i∈l,i∈PS):(l.map ax).all (V.key 31 2)=true:=by
 rw[i6]
 exact List.all_eq_true.mpr λi hi=>bl agJ (h i hi)
theorem PL{z k:Nat}(h:V.same (.int z) (ax k)=true):k=z:=by
 unfold ax at h
 rcases e:Nat.blt k 31 with _|_<;>rw[e] at h
 .exact c2 h
 .exact(Int.ofNat.inj (iEq_iff.mp (show cN (z:Int) (k:Int)=true from h))).symm
theorem agL:∀{l:List Nat},V.ma [.int 8,.int 9] (l.map ax)=true->l=[8,9]
 |[],h=>c2 h
 |[_],h=>c2 (aK h).2
 |[i,j],h=>by rw [PL (z:=8) (aK h).1,PL (z:=9) (aK (aK h).2).1]
 |_::_::_::_,h=>c2 (aK (aK h).2).2
def agM (L:List V) (D:List V):List V:=Cd (.tup [.int 6,.tup L]) D (dL (.tup [.int 6,.tup L]) D 0)
inductive PutU (D:List V) (c:Nat) (l:List Nat) (x:Option (V×T)):Prop
 |mk (a0:List V) (aP:Nat) (e:x=some (aH l,ar a0 aP)) (h:aP<=c+1)
theorem agN{L:List V}(aj:L.all (V.key 31 2)=true)(aJ:V.ma [.int 8,.int 9] L=false)(D:List V)(c:Nat):(ar D c).put (.tup [.int 6,.tup L])=some (.ty (.tup [.int 6,.tup L]),ar (agM L D) (c+1)):=by
 have a6:dL (.tup [.int 6,.tup L]) base1 0=none:=by
  have gn:base1=base1.take 12++(.tup [.int 6,.tup [.int 8,.int 9]]::base1.drop 13):=by rfl'
  have aa:dL (.tup [.int 6,.tup L]) (base1.take 12) 0=none:=by rfl'
  have ah:dL (.tup [.int 6,.tup L]) (base1.drop 13) 13=none:=by rfl'
  have aC:V.same (.tup [.int 6,.tup [.int 8,.int 9]]) (.tup [.int 6,.tup L])=false:=by
   show (true&&(V.ma [.int 8,.int 9] L&&true))=false
   rw[aJ];rfl
  rw[gn,PK aa,mo,aC]
  exact ah
 have agO:V.key 31 4 (.tup [.int 6,.tup L])=true:=by
  show (true&&(L.all (V.key 31 2)&&true))=true
  rw[aj];rfl
 show ow (true&&V.key 31 4 (.tup [.int 6,.tup L])) ((ar D c).putN (.tup [.int 6,.tup L]) (dL (.tup [.int 6,.tup L]) base1 0))=_
 rw[agO,a6];rfl
theorem agP{i j:Nat}{r:List Nat}(h:Pts (i::j::r))(D:List V)(c:Nat):PutU D c (i::j::r) ((ar D c).put (.tup [.int 6,.tup ((i::j::r).map ax)])):=by
 have e:aH (i::j::r)=match f0 (i::j::r) [8,9] with|true=> .int 12|false=> .ty (.tup [.int 6,.tup ((i::j::r).map ax)]):=rfl
 rcases q:f0 (i::j::r) [8,9] with _|_<;>rw[q] at e
 .have aJ:V.ma [.int 8,.int 9] ((i::j::r).map ax)=false:=by
   rcases z:V.ma [.int 8,.int 9] ((i::j::r).map ax) with _|_
   .rfl
   .exact nomatch q.symm.trans (lEq_iff.mpr (agL z))
  have e:aH (i::j::r)= .ty (.tup [.int 6,.tup ((i::j::r).map ax)]):=e
  exact⟨_,c+1,by rw [e];exact agN (agK h.sub) aJ D c,cq _⟩
 .refine⟨D,c,?_,cG c⟩
  rw[lEq_iff.mp q]
  rfl'
def Has(J L:am):Prop:=∀x s,a2 L x=some s->a2 J x=some s
theorem Has.rfl{J:am}:Has J J:=λ_ _ h=>h
theorem Has.g{J L:am}(h:Has J L){x:Str}{s:V×Bool}(e:a2 L x=some s:=by rfl'):a2 J x=some s:=h x s e
theorem Has.f{J L:am}(h:Has J L){x:Str}{v:V}{o:Bool}(e:a2 L x=some (v,o)):(a2 J x).map (·.1)=some v:=agF (h x _ e)
theorem Has.upd{J L:am}(h:Has J L){x:Str}{v:V}{o:Bool}:Has (cb J x v o) (cb L x v o):=λy s q=>by
 rw[aai] at q |-
 rcases eR (y=x) with z|z
 .rw[if_pos z] at q |-;exact q
 .rw[if_neg z] at q |-;exact h y s q
theorem Has.nil{J:am}:Has J []:=λ_ _ h=>aI h
theorem Has.trans{J L M:am}(h:Has J L)(k:Has L M):Has J M:=λy s q=>h y s (k y s q)
theorem PM:∀{M:am}{x:Str}{s:V×Bool},a2 M x=some s->(x,s)∈M
 |(y,u)::_,x,s,h=>(eA h).elim (λp=>by rw [<-(sEq_iff.mp p.1:y=x),<-(Option.some.inj p.2:u=s)];exact .head _) λp=> .tail _ (PM p.2)
theorem Has.sub{J L M:am}(h:Has J L)(e:(M.map λp=>a2 L p.1)=M.map λp=>some p.2:=by rfl'):Has J M:=λx s q=>h x s (bJ e (PM q))
theorem Has.push{J L:am}(h:Has J L){x:Str}{s:V×Bool}:Has ((x,s)::J) ((x,s)::L):=λy z q=>by
 show cond (a9 x y) (some s) (a2 J y)=some z
 rcases eA q with ⟨a,b⟩|⟨a,b⟩
 .rw[a];exact b
 .rw[a];exact h y z b
def F3 (L:am) (e:Expr):Bool:=match ek e with
 |some x=>ci (a2 L x) λs=> !s.2
 |none=>true
def agQ (L:am) (es:List Expr):Bool:=es.all (F3 L)
theorem agR{J L:am}(h:Has J L){r:V}{e:Expr}(k:F3 L e=true):t0 J r e=true:=by
 revert k
 unfold t0 F3
 rcases ek e with _|x
 .exact λ_=>rfl
 .intro k
  obtain⟨⟨u,o⟩,e1,k⟩:=dX k
  have k:o=false:=Bool.ti k
  rw[k] at e1
  show (match a2 J x with|some s=>lh r s|none=>true)=true
  rw[h x _ e1];rfl
theorem cW{J L:am}(h:Has J L){r:V}:∀{es:List Expr},(e:agQ L es=true:=by rfl')->gx J r es=true
 |[],_=>rfl
 |_::_,e=>(c6 _ _).mpr ⟨agR h (aK e).1,cW h (aK e).2⟩
theorem kS{J:am}{r:V}{es:List Expr}{x:Str}{p:Pos}{a:V}(h:a2 J x=some (a,false))(q:gx J r es=true):gx J r (.Name x p::es)=true:=(c6 _ _).mpr ⟨FT h,q⟩
theorem F4{J:am}{r:V}{es:List Expr}{x:Str}{p:Pos}{d:List (V×V)}(h:a2 J x=some (.dict d,true))(aq:V.l8 r=true)(q:gx J r es=true):gx J r (.Name x p::es)=true:=
 (c6 _ _).mpr ⟨by show (match a2 J x with|some s=>lh r s|none=>true)=true;rw[h];exact aq,q⟩
theorem yz{J:am}{r:V}{es:List Expr}{x:Str}{p:Pos}{d:List V}(h:a2 J x=some (.list d,true))(aq:V.k5 r=true)(q:gx J r es=true):gx J r (.Name x p::es)=true:=
 (c6 _ _).mpr ⟨by show (match a2 J x with|some s=>lh r s|none=>true)=true;rw[h];exact aq,q⟩
theorem yA{J:am}{r:V}:gx J r []=true:=rfl
def eP (i:Nat):Cx:=⟨(aE i).sc,(aE i).bd⟩
noncomputable def sJ (l:List Stmt):Expr:=match l with
 | .For t _ _ _ _::_=>t
 |_=>default
noncomputable def lY (l:List Stmt):List Stmt:=match l with
 | .For _ _ b _ _::_=>b
 |_=>[]
noncomputable def qp (l:List Stmt):Expr:=match l with
 | .If t _ _ _::_=>t
 |_=>default
noncomputable def yB (l:List Stmt):List Stmt:=match l with
 | .If _ b _ _::_=>b
 |_=>[]
noncomputable def bE (x:Str) (v:V):Str×V×Bool:=(x,v,false)
section
variable {G:Gl}{n:Nat}{c:Cx}{J L:am}{H O:T}{v u:V}{Q:V->T->Prop}{b0:Fl->am->T->Prop}{eD:Bool->T->Prop}{eE:List V->T->Prop}
theorem aM(h:Has J L){f:Expr->T->Option (V×T)}{x:Str}{p:Pos}(q:Q v H)(aj:fF c x=true:=by rfl')(aq:a2 L x=some (v,false):=by rfl'):WE (b7 c J f (.Name x p) H) Q:=sF aj (h.f aq) q
theorem jx(h:Has J L){f:Expr->T->Option (V×T)}{x:Str}{p:Pos}(q:Q v H)(aj:fF c x=true:=by rfl')(aq:a2 L x=some (v,true):=by rfl'):WE (b7 c J f (.Name x p) H) Q:=sF aj (h.f aq) q
theorem dt(h:Has J L){x:Str}{p:Pos}(q:Q v H)(aj:fF c x=true:=by rfl')(aq:a2 L x=some (v,false):=by rfl'):WE (aN G (n+1) c J (.Name x p) H) Q:=sG aj (h.g aq) q
abbrev PN (G:Gl) (n:Nat) (c:Cx) (L:am) (b0:Fl->am->T->Prop) (x:Str) (o:Bool) (r:List Stmt) (v:V) (H:T):Prop:=∀J,Has J (cb L x v o)->WS (bv G n c J r H) b0
theorem cH(h:Has J L){x:Str}{p q:Pos}{e:Expr}{r:List Stmt}(cL:WE (aN G n c J e H) (PN G n c L b0 x false r))(ag:d6 c x=true:=by rfl')(av:fU x c.bd=false:=by rfl'):WS (bv G (n+1) c J (.Assign [.Name x p] e q::r) H) b0:=Pr ag av (cL.mono λ_ _ k=>k _ h.upd)
theorem yC(h:Has J L){x:Str}{p q:Pos}{e:Expr}{r:List Stmt}(cL:WE (aN G n c J e H) (PN G n c L b0 x true r))(ag:d6 c x=true:=by rfl')(av:fU x c.bd=true:=by rfl')(aQ:ll e=true:=by rfl'):WS (bv G (n+1) c J (.Assign [.Name x p] e q::r) H) b0:=Ps ag av aQ (cL.mono λ_ _ k=>k _ h.upd)
theorem ka(h:Has J L){x:Str}{p:Pos}{b:am->Option (Fl×am×T)}(k:∀J,Has J (cb L x v false)->WS (b J) b0)(ag:d6 c x=true:=by rfl')(av:fU x c.bd=false:=by rfl'):WS (od (li c (.Name x p) v J) b) b0:=Pt ag av (k _ h.upd)
abbrev agS (G:Gl) (n:Nat) (c:Cx) (L:am) (b0:Fl->am->T->Prop) (x:Str) (l:List (V×V)) (r:List Stmt) (v i:V) (H:T):Prop:=(jb i&&v.flat&&cz l)=true/\∃cK,H.k7 i v l=some cK/\∀J,Has J (cb L x (.dict cK) true)->WS (bv G n c J r H) b0
abbrev agT (G:Gl) (n:Nat) (c:Cx) (J L:am) (b0:Fl->am->T->Prop) (x:Str) (l:List (V×V)) (k:Expr) (r:List Stmt) (v:V) (H:T):Prop:=WE (aN G n c J k H) (agS G n c L b0 x l r v)
theorem PO(h:Has J L){x:Str}{p q s:Pos}{k e:Expr}{r:List Stmt}{l:List (V×V)}(cL:WE (aN G n c J e H) (agT G n c J L b0 x l k r))(aq:a2 L x=some (.dict l,true):=by rfl')(ag:d6 c x=true:=by rfl'):
  WS (bv G (n+1) c J (.Assign [.Subscript (.Name x p) k q] e s::r) H) b0:=FW (h.g aq) ag (cL.mono λ_ _ k=>k.mono λ_ _ ⟨a,cK,b,k⟩=>⟨a,cK,b,k _ h.upd⟩)
end
inductive UQ (b:Nat) (R:List Nat->Prop) (v:V) (O:T):Prop
 |mk (r:List Nat) (D:List V) (c:Nat) (e:v=aH r) (s:O=ar D c) (h:c<=b) (q:R r)
theorem UQ.le{b hC:Nat}{R:List Nat->Prop}{v:V}{O:T}(h:UQ b R v O)(k:b<=hC):UQ hC R v O:=by
 obtain⟨r,D,c,e1,e2,h,q⟩:=h
 exact⟨r,D,c,e1,e2,aT h k,q⟩
theorem UQ.to{b:Nat}{R:List Nat->Prop}{x:Option (V×T)}(h:WE x (UQ b R)):∃r D c,x=some (aH r,ar D c)/\c<=b/\R r:=by
 obtain⟨v,O,e,r,D,c,e1,e2,h,q⟩:=h
 exact⟨r,D,c,by rw [e,e1,e2],h,q⟩
def eb (ls:List (List Nat)):List Nat:=ls.foldl (λg l=>l.foldl fe g) []
def m2 (g:List Nat):List Nat:=(g4 g).filter (kR (g4 g))
def eG (g l:List Nat):Prop:=(eF g= -1/\l.Perm (m2 g))\/(eF g≠ -1/\l=[(eF g).toNat])
theorem Pts.jn{l:List Nat}(h:Pts l):Pts (g4 l):=by
 exact Ml (P:=Pts) h.amV h _
theorem Pts.filter{l:List Nat}(h:Pts l)(p:Nat->Bool):Pts (l.filter p):=⟨λi hi=>h.sub i (List.mem_filter.mp hi).1,h.nd.filter p⟩
theorem Pts.perm{l m:List Nat}(h:Pts l)(p:m.Perm l):Pts m:=⟨λi hi=>h.sub i (p.mem_iff.mp hi),p.nodup_iff.mpr h.nd⟩
theorem Pts.adds:∀{m l:List Nat},Pts l->(∀i∈m,i∈PS)->Pts (m.foldl fe l)
 |[],_,h,_=>h
 |i::m,_,h,av=>Pts.adds (m:=m) (h.add (av i (dV ..))) λj bt=>av j (.tail _ bt)
theorem Pts.nil:Pts []:=⟨λ_ h=>(nomatch h),wc⟩
theorem yD:∀{ls:List (List Nat)},(∀l∈ls,Pts l)->Pts (eb ls):=by
 have:∀(ls:List (List Nat)) g,Pts g->(∀l∈ls,Pts l)->Pts (ls.foldl (λg l=>l.foldl fe g) g):=λls=>by
  induction ls with
  |nil=>intro g h _;exact h
  |cons l ls bb=>exact λg h ag=>bb _ (h.adds (ag l (dV ..)).sub) λk aj=>ag k (.tail _ aj)
 exact λ{ls} h=>this ls [] .nil h
theorem PP{g:List Nat}(h:Pts g):dg g 13=false:=by
 rcases e:dg g 13 with _|_
 .rfl
 .obtain⟨j,bt,e⟩:=List.any_eq_true.mp e
  have:j=13:=Int.ofNat.inj (iEq_iff.mp e)
  rw[this] at bt
  exact absurd (h.sub _ bt) (by decide)
theorem agU{g:List Nat}(h:Pts g)(a1:eF g≠ -1):Pts [(eF g).toNat]/\aH [(eF g).toNat]= .int (eF g):=by
 revert a1
 unfold eF
 rw[PP h]
 rcases dg g 0 with _|_
 .rcases dg g 1 with _|_
  .exact λa1=>absurd rfl a1
  .exact λ_=>⟨⟨by decide,by decide⟩,rfl⟩
 .exact λ_=>(⟨⟨by decide,by decide⟩,rfl⟩:Pts [0]/\aH [0]= .int 0)
theorem agV{g:List Nat}(a1:eF g≠ -1):h4 0 (eF g)=true:=by
 revert a1
 unfold eF
 rcases dg g 0 with _|_
 .rcases dg g 13 with _|_
  .rcases dg g 1 with _|_
   .exact λa1=>absurd rfl a1
   .exact λ_=>rfl
  .exact λ_=>rfl
 .exact λ_=>rfl
theorem yE{G:Gl}{n:Nat}{c:Cx}{J:am}{H:T}{Q:V->T->Prop}{x:Str}{p q r:Pos}{k:Const}{j:Nat}(h:WE (b7 c J (aN G n c J) (.Name x p) H) (Po (aN G n c J) Q (.Constant k j q))):WE (aN G (n+1) c J (.Subscript (.Name x p) (.Constant k j q) r) H) Q:=
 WE.ob (h.mono λ_ _ h=>WE.ob (h.mono λ_ _ ⟨_,h,q⟩=>WE.pt h q))
theorem F5{G:Gl}{n:Nat}{c:Cx}{J:am}{H:T}{Q:V->T->Prop}{es:List Expr}{k:Nat}{p:Pos}(h:WE (dz (aN G n c J) es H) (ag2 Q)):WE (aN G (n+1) c J (.Tuple es k p) H) Q:=
 WE.ob (h.mono λ_ _ ⟨h,q⟩=>WE.ow h (.of rfl q))
theorem agW(H:T)(as:List V):f1 H tV as=od (fD as) Ck:=by rfl'
theorem agX{H:T}{l:List V}(h:cz l=true):f1 H tV [.list l]=some (.tup l):=by
 rw[agW]
 show ow (cz l) _=_
 rw[h];rfl
theorem agY{H:T}{i k:Nat}{r:List Nat}:cX H .Eq (.int (((i::k::r).map ax).length:Nat)) (.int 1)=some false:=by
 show some (cN _ _)=_
 rw[Option.some.injEq]
 exact Bool.eq_false_iff.mpr λe=>Nat.succ_ne_zero (r.map ax).length (Nat.succ.inj (Int.ofNat.inj (iEq_iff.mp e)))
theorem PQ{H:T}{l:List Nat}(P:Pts l){k:Nat}(aj:34<=k):cX H .Gt (.int ((l.map ax).length:Nat)) (.int k)=some false:=by
 show some (e0 _ _)=_
 rw[Option.some.injEq,<-v7,iLt_iff,eQ]
 have:=P.len
 lia
def ao3:=an "part"
def PR (g:List Nat):am:=[bE cF .tab,(go,.dict (cY g),true)]
def PT(D:List V)(c:Nat)(g:List Nat)(J:am)(O:T):Prop:=Has J (PR g)/\Pts g/\O=ar D c
theorem PU{i:Nat}{g:List Nat}(fP:Pts g):(jb (ax i)&&V.flat (.int 1)&&cz (cY g))=true:=by
 rw[yy fP]
 unfold ax
 rcases Nat.blt i 31 with _|_<;>rfl
def agZ (g K:List Nat):am:=[bE cF .tab,bE "kept" (.list (K.map ax)),(go,.dict (cY g),true)]
theorem ah0{ul:List Nat}{n:Nat}{D:List V}{c:Nat}{K j:List Nat}(P:Pts K)(a7:eG ul K){J:am}(F:Has J (agZ j K)):WS (bv G0 (n+70) (eP 67) J ((aE 67).bd.drop 6) (ar D c)) (jw (UQ (c+1) λl=>Pts l/\eG ul l)):=by
 have iU:=qo P
 have ah1:(V.list (K.map ax)).truth=some (!(K.map ax).isEmpty):=by show ow (cz _) _=_;rw[iU];rfl
 refine bO (kP (j9 (aM F (v:=.list (K.map ax)) ⟨_,ah1,?_⟩)))
 match K,P,a7,F,iU with
 |[],P,a7,_,_=>exact ck (.og (v:=.int 2) ⟨[],D,c,rfl,rfl,cG c,P,a7⟩)
 |[i],P,a7,F,iU=>
  refine bm (bO (b6 (cw (ef (az (aM F (bj ⟨_,sH iU,.og (v:=.int 1) ⟨true,rfl,?_⟩⟩)))))))
  exact ck (lX (yE (aM F (v:=.list ([i].map ax)) (.og (v:=.int 0) ⟨ax i,rfl,[i],D,c,rfl,rfl,cG c,P,a7⟩))))
 |i::k::r,P,a7,F,iU=>
  refine bm (bO (b6 (cw (ef (az (aM F (bj ⟨_,sH iU,.og (v:=.int 1) ⟨false,agY,?_⟩⟩)))))))
  refine bm (bO (b6 (cw (ef (az (aM F (bj ⟨_,sH iU,.og (v:=.int 400) ⟨false,PQ P (by decide),?_⟩⟩)))))))
  obtain⟨a0,aP,aS,ap⟩:=agP P D c
  refine bm (ck (cw (agx (by rfl') (by rfl') (by rfl') (dt F ⟨rfl,F5 (az (.og (v:=.int 6) (az (ef (az (aM F (bj ⟨_,agX iU,bj ⟨rfl,?_⟩⟩)))))))⟩))))
  exact .of aS ⟨_,a0,aP,rfl,rfl,ap,P,a7⟩
theorem m3{ls:List (List Nat)}(ag:∀l∈ls,Pts l){X:V}(yF:hd X=some (ls.map aH)){m:Nat}(av:80<=m)(D:List V)(c:Nat):
  ∃l a0 aP,bK G0 m (aE 67) [.tab,X] (ar D c)=some (aH l,ar a0 aP)/\aP<=c+1/\Pts l/\eG (eb ls) l:=by
 obtain⟨n,rfl⟩:=c0 av
 refine UQ.to ?_
 refine cc rfl ?_
 refine so (.og (v:=.dict []) ?_)
 refine il (ht (dE ⟨_,yF,?_⟩))
 refine(yx (I:=PT D c) (ok:=Pts) (st:=λg l=>l.foldl fe g) ?_ ls ag [] _ _ ⟨Has.sub .rfl,.nil,rfl⟩).mono ?_
 .intro l PV g J O ⟨F,fP,e⟩
  subst e
  refine ka F λJ F1=>?_
  refine il (hS (bo (fn:=aE 61) (az (aM F1 (v:=.tab) (az (aM F1 (v:=aH l) (bj (.of (io PV (bH rfl) D c) ⟨cW F1,_,rfl,?_⟩))))))))
  refine(yx (I:=PT D c) (ok:=λi=>i∈PS) (st:=fe) ?_ l PV.sub g _ _ ⟨F1.sub,fP,rfl⟩).mono ?_
  .intro i hi g J O ⟨F,fP,e⟩
   subst e
   exact ka F λJ F1=>PO F1 (.og (v:=.int 1) (dt F1 ⟨PU fP,_,vr hi fP.sub,λJ j4=>bm ⟨rfl,j4.sub,fP.add hi,rfl⟩⟩))
  .rintro f J O ⟨rfl,F⟩
   exact bm ⟨rfl,F⟩
 rintro f J O ⟨rfl,F,fP,rfl⟩
 change Has J (PR (eb ls)) at F
 change Pts (eb ls) at fP
 generalize eb ls=g at F fP |-
 refine cH F (bo (fn:=aE 66) (az (jx F (bj (.of (agy fP (bH rfl) D c) ⟨Px rfl rfl,λJ F=>?_⟩)))))
 refine bO (b6 (aM F (v:=.int (eF g)) (.og (v:=.int 0) ⟨_,rfl,?_⟩)))
 rcases eR (eF g= -1) with a1|a1
 rotate_left
 .have PW:=agU fP a1
  rw[agV a1]
  exact ck (aM F ⟨[(eF g).toNat],D,c,PW.2.symm,rfl,cG c,PW.1,.inr ⟨a1,rfl⟩⟩)
 rw[show h4 0 (eF g)=false by rw [a1];rfl]
 refine bm (agv F.g (by rfl') (by rfl') (fn:=aE 64) (y:=go) (by rfl') (by rfl') (by rfl') (by rfl') ((agA fP (bH rfl) D c).mono ?_))
 rintro bw bg O ⟨rfl,rfl,bx⟩
 refine⟨rfl,_,bx,?_⟩
 have j4:Has (cb J "got" (.dict (cY (g4 g))) true) [bE cF .tab,(go,.dict (cY (g4 g)),true)]:=F.upd.sub
 generalize cb J "got" (.dict (cY (g4 g))) true=lV at j4 |-
 obtain⟨ah2,PX,ah3⟩:=FZ fP.jn D c
 have yG:=fP.jn.perm PX
 have a7:eG g (ah2.filter (kR (g4 g))):=.inl ⟨a1,PX.filter _⟩
 refine cH j4 (d8 (hS (ef (az (jx j4 (bj ⟨_,ah3,_,rfl,.of (kQ (p:=kR (g4 g)) (g:=ax) (λi hi=>?_) λi hi=>?_) ⟨?_,λJ F=>ah0 (j:=g4 g) (yG.filter _) a7 F.sub⟩⟩))))))
 .refine dD (iq (bo (fn:=aE 65) (az (aM j4.push (v:=.tab) (az (jx j4.push (v:=.dict (cY (g4 g))) (az (aM j4.push (v:=ax i) (bj (.of (ags fP.jn (yG.sub i hi) (bH rfl) D c) ⟨Px rfl rfl,_,rfl,?_⟩))))))))))
  rcases kR (g4 g) i with _|_
  .exact⟨rfl,rfl⟩
  .exact dc ⟨rfl,rfl⟩
 .exact dE ⟨rfl,rfl⟩
 .rw[F2 (yG.filter _),qo (yG.filter _)];rfl
abbrev sK:=List V×List V×List Int×Bool×Option (List V)×Nat
def F6 (O:T):sK:=(O.base,O.decls,O.bounds,O.bld,O.I,O.cnt)
def F7 (c:Nat):sK:=(base1,FO,[-1],false,none,c)
theorem PY{O:T}{c:Nat}(e:F6 O=F7 c):∃D,O=ar D c:=by
 have g:=λ{α:Type} (k:sK->α)=>congrArg k e
 obtain⟨b,d,LM,de,ci,kK,I⟩:=O
 refine⟨d,?_⟩
 rw[show b=base1 from g (·.1),show de=FO from g (·.2.1),show ci=[-1] from g (·.2.2.1),show LM=false from g (·.2.2.2.1),show I=none from g (·.2.2.2.2.1),show kK=c from g (·.2.2.2.2.2)];rfl
def kT {α:Type} (p:α×T):α×sK:=(p.1,F6 p.2)
def kU {α:Type} (v:α) (c:Nat):Option (α×sK):=some (v,F7 c)
theorem lZ{α:Type}{x:Option (α×T)}{v:α}{c:Nat}(h:x.map kT=kU v c):∃D,x=some (v,ar D c):=by
 obtain⟨⟨u,O⟩,e1,e⟩:=nk h
 obtain⟨D,e2⟩:=PY (congrArg (·.2) e)
 exact⟨D,by rw [e1,show O=_ from e2,show u=v from congrArg (·.1) e]⟩
def l0 (l:List (Nat×Nat)) (i:Nat):List Nat:=match lW l i with
 |2=>[]
 |0=>[i]
 |k=>[k]
noncomputable def yH:List (Nat×Nat):=[(1,11),(3,2),(4,2),(5,2),(30,38),(31,2),(32,2)]
noncomputable def yI:List (Nat×Nat):=[(1,11),(3,2),(4,2),(5,2),(8,2),(18,2),(22,2),(25,2),(30,38),(31,2),(32,2)]
noncomputable def yJ:List (Nat×Nat):=[(6,18),(9,2),(10,2),(15,2),(16,2),(19,2),(20,2),(21,2),(23,2),(24,2),(26,2),(27,2),(28,2),(29,2),(37,2)]
noncomputable def q4 (i:Nat):Nat:=cond (Nat.beq i 30) 1 0
theorem ah4(n:Nat)(D:List V)(c:Nat):(PS.map λi=>(bK G0 (n+100) (aE 100) [.tab,ax i] (ar D c)).map kT)=PS.map λi=>kU (aH (l0 yH i)) (c+q4 i):=by rfl'
theorem ah5(n:Nat)(D:List V)(c:Nat):(PS.map λi=>(bK G0 (n+100) (aE 103) [.tab,ax i] (ar D c)).map kT)=PS.map λi=>kU (aH (l0 yI i)) (c+q4 i):=by rfl'
theorem ah6(n:Nat)(D:List V)(c:Nat):(PS.map λi=>(bK G0 (n+100) (aE 108) [.tab,ax i] (ar D c)).map kT)=PS.map λi=>kU (aH (l0 yJ i)) (c+0):=by rfl'
theorem F8{j:Nat}{k:Nat->Nat}{F:Nat->List Nat}(a1:∀n D c,(PS.map λi=>(bK G0 (n+100) (aE j) [.tab,ax i] (ar D c)).map kT)=PS.map λi=>kU (aH (F i)) (c+k i))(aj:∀i,k i<=1){i:Nat}(hi:i∈PS){m:Nat}(av:100<=m)(D:List V)(c:Nat):
  ∃a0 aP,bK G0 m (aE j) [.tab,ax i] (ar D c)=some (aH (F i),ar a0 aP)/\aP<=c+1:=by
 obtain⟨n,rfl⟩:=c0 av
 obtain⟨a0,e⟩:=lZ (bJ (a1 n D c) hi)
 exact⟨a0,_,e,dh (aj i) c⟩
theorem PZ(i:Nat):q4 i<=1:=by unfold q4;cases Nat.beq i 30<;>decide
def ff (j:Nat):Nat->List Nat:=match j with
 |101=>l0 yH
 |104=>l0 yI
 |_=>l0 yJ
theorem ah7{j:Nat}(bt:j=101\/j=104\/j=109){i:Nat}(hi:i∈PS){m:Nat}(av:100<=m)(D:List V)(c:Nat):∃a0 aP,bK G0 m (aE (j - 1)) [.tab,ax i] (ar D c)=some (aH (ff j i),ar a0 aP)/\aP<=c+1:=by
 rcases bt with rfl|rfl|rfl
 .exact F8 ah4 PZ hi av D c
 .exact F8 ah5 PZ hi av D c
 .exact F8 (k:=λ_=>0) ah6 (λ_=>iB _) hi av D c
theorem P0{test:V->T->Option (Bool×T)}{elt:V->T->Option (V×T)}{f:Nat->V}{R:Nat->List Nat->Prop}{k:Nat}:∀{l:List Nat},(∀i∈l,∀D c,WE (test (f i) (ar D c)) (Is true (ar D c)))->
  (∀i∈l,∀D c,WE (elt (f i) (ar D c)) (UQ (c+k) (R i)))->∀D c,∃a3 a0 aP,gR test elt (l.map f) (ar D c)=some (a3.map aH,ar a0 aP)/\aP<=c+k*l.length/\Paired R l a3
 |[],_,_,D,c=>⟨[],D,c,rfl,eZ ..,.nil⟩
 |i::l,aa,ah,D,c=>by
  obtain⟨_,_,a,e1,e2⟩:=aa i (dV ..) D c
  obtain⟨_,_,b,r,fq,eW,e3,eN,l₁,aq⟩:=ah i (dV ..) D c
  obtain⟨a3,eO,eH,e,l₂,p⟩:=P0 (l:=l) (λj bt=>aa j (.tail _ bt)) (λj bt=>ah j (.tail _ bt)) fq eW
  rw[e1,e2] at a
  rw[e3,eN] at b
  refine⟨r::a3,eO,eH,(m0 a).trans ((m0 b).trans ((m0 e).trans rfl)),aT l₂ (aT (jC l₁ _) (dW ?_)),.cons aq p⟩
  rw[kk,z2,jE,jG k]
theorem sM{test:V->T->Option (Bool×T)}{elt:V->T->Option (V×T)}{f:Nat->V}{R:Nat->List Nat->Prop}{k:Nat}{l:List Nat}(aa:∀i∈l,∀D c,WE (test (f i) (ar D c)) (Is true (ar D c)))(ah:∀i∈l,∀D c,WE (elt (f i) (ar D c)) (UQ (c+k) (R i)))(D:List V)(c:Nat){Q:List V->T->Prop}(q:∀a3 a0 aP,aP<=c+k*l.length->Paired R l a3->Q (a3.map aH) (ar a0 aP)):WE (gR test elt (l.map f) (ar D c)) Q:=by
 obtain⟨a3,a0,aP,e,h,p⟩:=P0 aa ah D c
 exact .of e (q a3 a0 aP h p)
theorem Paired.fn{l:List Nat}{F:Nat->List Nat}{a3:List (List Nat)}(h:Paired (λi r=>r=F i) l a3):a3=l.map F:=by
 induction h with
 |nil=>rfl
 |cons h _ bb=>rw[h,bb];rfl
theorem vu(l:List Nat):V.flat (aH l)=true:=by
 have aS:∀i,V.flat (ax i)=true:=λi=>by unfold ax;split<;>rfl
 match l with
 |[]=>rfl
 |[i]=>exact aS i
 |i::j::r=>
  show V.flat (match f0 (i::j::r) [8,9] with|true=>_|false=>_)=true
  split<;>rfl
theorem yK(ls:List (List Nat)):(ls.map aH).all V.flat=true:=by
 rw[i6]
 exact List.all_eq_true.mpr λl _=>vu l
theorem Paired.len{α bR:Type}{R:α->bR->Prop}{l:List α}{m:List bR}(h:Paired R l m):l.length=m.length:=by
 induction h with
 |nil=>rfl
 |cons _ _ bb=>exact congrArg Nat.succ bb
theorem Paired.all{α bR:Type}{R:α->bR->Prop}{l:List α}{m:List bR}(h:Paired R l m):∀b∈m,∃a∈l,R a b:=by
 induction h with
 |nil=>exact λ_ ao=>nomatch ao
 |cons h _ bb=>
  intro b ao
  rcases List.mem_cons.mp ao with e|ao
  .exact⟨_,dV ..,e▸h⟩
  .obtain⟨a,aw,r⟩:=bb b ao;exact⟨a,.tail _ aw,r⟩
theorem ah8:(PS.all λi=>[yH,yI,yJ].all λt=>(l0 t i).all λk=>PS.any (Nat.beq k))=true:=by rfl'
theorem ah9(t:List (Nat×Nat))(i:Nat):(l0 t i).Nodup:=by
 unfold l0
 split
 .exact .nil
 .exact List.nodup_cons.mpr ⟨kj,.nil⟩
 .exact List.nodup_cons.mpr ⟨kj,.nil⟩
theorem F9{t:List (Nat×Nat)}(a1:t∈[yH,yI,yJ]){i:Nat}(hi:i∈PS):Pts (l0 t i):=by
 refine⟨λk aj=>?_,ah9 t i⟩
 obtain⟨z,bi,e⟩:=List.any_eq_true.mp (bl (bl (bl ah8 hi) a1) aj)
 rw[ei e];exact bi
theorem sN{j i:Nat}(hi:i∈PS):Pts (ff j i):=by
 unfold ff
 split
 .exact F9 (.head _) hi
 .exact F9 (.tail _ (.head _)) hi
 .exact F9 (.tail _ (.tail _ (.head _))) hi
def P1(j:Nat)(l u:List Nat):Prop:=Pts u/\eG (eb (l.map (ff j))) u
inductive MapEnd (j:Nat) (l:List Nat) (n b:Nat) (a3:List (List Nat)) (D:List V) (c:Nat):Prop
 |mk (ok:((a3.map aH).all V.flat&&cz (a3.map aH))=true) (u:List Nat) (a0:List V) (aP:Nat) (e:bK G0 (n+137) (aE 67) [.tab,.list (a3.map aH)] (ar D c)=some (aH u,ar a0 aP)) (h:aP<=b) (p:P1 j l u)
theorem Ga{j:Nat}{l:List Nat}(ag:Pts l){n c:Nat}{a3:List (List Nat)}{fq:List V}{eW:Nat}(aB:eW<=c+1*l.length)(fO:Paired (λi r=>r=ff j i) l a3):MapEnd j l n (c+40) a3 fq eW:=by
 have oq:=aT (dW (Paired.len fO).symm) ag.len
 have aq:∀r∈a3,Pts r:=λr aq=>by
  obtain⟨i,hi,e⟩:=Paired.all fO r aq
  exact e▸sN (ag.sub i hi)
 obtain⟨u,a0,aP,e,a8,l1,a7⟩:=m3 aq (X:=.list (a3.map aH)) rfl (m:=n+137) (bH rfl) fq eW
 rw[Nat.one_mul] at aB
 exact⟨by rw [yK];exact md (by rw [eQ];exact aT oq (by decide)),u,a0,aP,e,aT a8 (aT (gr (aT aB (dh ag.len c))) (dh (by decide:34+1<=40) c)),l1,Paired.fn fO▸a7⟩
theorem yL{j:Nat}(bt:j=101\/j=104\/j=109){l:List Nat}(ag:Pts l){m:Nat}(av:140<=m)(D:List V)(c:Nat):
  ∃u a0 aP,bK G0 m (aE j) [.tab,aH l] (ar D c)=some (aH u,ar a0 aP)/\aP<=c+40/\P1 j l u:=by
 obtain⟨n,rfl⟩:=c0 av
 refine UQ.to ?_
 have m4:=λ(i:Nat) (hi:i∈l) (D:List V) (c:Nat)=>ah7 bt (ag.sub i hi) (m:=n+135) (bH rfl) D c
 have ec:=io ag (m:=n+134) (bH rfl) D c
 rcases bt with rfl|rfl|rfl
 .refine cc rfl (ck (cw (bo (fn:=aE 67) (az (vn (v:=.tab) (az (j8 (d8 (hS (bo (fn:=aE 61) (az (vn (v:=.tab) (az (vn (v:=aH l) (bj (.of ec ⟨cr rfl,_,rfl,?_⟩))))))))))))))))
  refine sM (R:=λi r=>r=ff 101 i) (k:=1) (λi hi D c=>dc ⟨rfl,rfl⟩) (λi hi D c=>?_) D c λa3 fq eW aB fO=>?_
  .obtain⟨a0,aP,e,h⟩:=m4 i hi D c
   exact bo (fn:=aE 100) (az (vn (v:=.tab) (az (vn (v:=ax i) (bj (.of e ⟨cr rfl,_,a0,aP,rfl,rfl,h,rfl⟩))))))
  .obtain⟨ok,u,a0,aP,e,h,p⟩:=Ga (n:=n) ag aB fO
   exact⟨ok,bj (.of e ⟨cr rfl,u,a0,aP,rfl,rfl,h,p⟩)⟩
 .refine cc rfl (ck (cw (bo (fn:=aE 67) (az (vn (v:=.tab) (az (j8 (d8 (hS (bo (fn:=aE 61) (az (vn (v:=.tab) (az (vn (v:=aH l) (bj (.of ec ⟨cr rfl,_,rfl,?_⟩))))))))))))))))
  refine sM (R:=λi r=>r=ff 104 i) (k:=1) (λi hi D c=>dc ⟨rfl,rfl⟩) (λi hi D c=>?_) D c λa3 fq eW aB fO=>?_
  .obtain⟨a0,aP,e,h⟩:=m4 i hi D c
   exact bo (fn:=aE 103) (az (vn (v:=.tab) (az (vn (v:=ax i) (bj (.of e ⟨cr rfl,_,a0,aP,rfl,rfl,h,rfl⟩))))))
  .obtain⟨ok,u,a0,aP,e,h,p⟩:=Ga (n:=n) ag aB fO
   exact⟨ok,bj (.of e ⟨cr rfl,u,a0,aP,rfl,rfl,h,p⟩)⟩
 .refine cc rfl (ck (cw (bo (fn:=aE 67) (az (vn (v:=.tab) (az (j8 (d8 (hS (bo (fn:=aE 61) (az (vn (v:=.tab) (az (vn (v:=aH l) (bj (.of ec ⟨cr rfl,_,rfl,?_⟩))))))))))))))))
  refine sM (R:=λi r=>r=ff 109 i) (k:=1) (λi hi D c=>dc ⟨rfl,rfl⟩) (λi hi D c=>?_) D c λa3 fq eW aB fO=>?_
  .obtain⟨a0,aP,e,h⟩:=m4 i hi D c
   exact bo (fn:=aE 108) (az (vn (v:=.tab) (az (vn (v:=ax i) (bj (.of e ⟨cr rfl,_,a0,aP,rfl,rfl,h,rfl⟩))))))
  .obtain⟨ok,u,a0,aP,e,h,p⟩:=Ga (n:=n) ag aB fO
   exact⟨ok,bj (.of e ⟨cr rfl,u,a0,aP,rfl,rfl,h,p⟩)⟩
noncomputable def fQ (w:Nat):Str:=match w with
 |0=>"string"
 |1=>"object"
 |2=>"undefined"
 |3=>"number"
 |4=>"function"
 |_=>"boolean"
noncomputable def fR {α:Type} (l:List α) (d:α):Nat->α:=λi=>(l[i]?).getD d
noncomputable def aha:List (List Nat):=[[6,18,19,20,21,27],[0,5,10,11,16,28,32],[3,4,31],[7,22,23,24,25,26],[0,1,10,11,29,30,38],[8,9,15]]
noncomputable def ahb:List (List (Nat×List Nat)):=[[(0,[6]),(1,[6]),(11,[6]),(30,[33]),(38,[33])],[(1,[5,10]),(30,[32,37]),(38,[37])],[(0,[4]),(1,[4]),(30,[31])],[(0,[7]),(1,[7]),(11,[7]),(30,[34]),(38,[34])],[],[(0,[8,9]),(1,[8,9]),(11,[8,9]),(30,[35,36]),(38,[35,36])]]
noncomputable def ahc:List (List Nat):=[[6,18,19,20,21,27],[5,16,28,32],[3,4,31],[7,22,23,24,25,26],[29],[8,9,15]]
noncomputable def ahd:List (List (Nat×Nat)):=[[(30,1),(38,1)],[(1,1),(30,4),(38,2)],[(30,1)],[(30,1),(38,1)],[],[(30,3),(38,3)]]
noncomputable def bY (i:Nat):List Nat->Bool
 |[]=>false
 |j::r=>cond (Nat.beq j i) true (bY i r)
noncomputable def P2 (i:Nat):List (Nat×List Nat)->Option (List Nat)
 |[]=>none
 |(j,v)::r=>cond (Nat.beq j i) (some v) (P2 i r)
def ir (w:Nat) (y:Bool) (i:Nat):List Nat:=match y with
 |true=>match P2 i (fR ahb [] w) with
  |some r=>r
  |none=>cond (bY i (fR aha [] w)) [i] []
 |false=>cond (bY i (fR ahc [] w)) [] [i]
def yM (w:Nat) (y:Bool) (i:Nat):Nat:=cond y (lW (fR ahd [] w) i) 0
def PSa:List Nat:=PS.filter λi=> !(Nat.ble 33 i&&Nat.ble i 37)
noncomputable def P4 (w:Nat) (y:Bool) (i:Nat):Bool:=y&&((Nat.beq w 1&&Nat.beq i 30)||(Nat.beq w 5&&(Nat.beq i 30||Nat.beq i 38)))
def Gb (w:Nat) (y:Bool):List Nat:=PSa.filter λi=> !P4 w y i
def iZ (w:Nat) (y:Bool):Prop:=∀n D c,((Gb w y).map λi=>(bK G0 (n+100) (aE 147) [.host,ax i,.str (fQ w),.bool y] (ar D c)).map kT)=(Gb w y).map λi=>kU (aH (ir w y i)) (c+yM w y i)
theorem ahe:iZ 0 true:=λ_ _ _=>by rfl'
theorem ahf:iZ 0 false:=λ_ _ _=>by rfl'
theorem ahg:iZ 1 true:=λ_ _ _=>by rfl'
theorem ahh:iZ 1 false:=λ_ _ _=>by rfl'
theorem ahi:iZ 2 true:=λ_ _ _=>by rfl'
theorem ahj:iZ 2 false:=λ_ _ _=>by rfl'
theorem ahk:iZ 3 true:=λ_ _ _=>by rfl'
theorem ahl:iZ 3 false:=λ_ _ _=>by rfl'
theorem ahm:iZ 4 true:=λ_ _ _=>by rfl'
theorem ahn:iZ 4 false:=λ_ _ _=>by rfl'
theorem aho:iZ 5 true:=λ_ _ _=>by rfl'
theorem ahp:iZ 5 false:=λ_ _ _=>by rfl'
abbrev P5:=Fl×am×sK
def qq (p:Fl×am×T):P5:=(p.1,p.2.1,F6 p.2.2)
def qr (f:Fl) (J:am) (c:Nat):Option P5:=some (f,J,F7 c)
theorem P6{f j1:Fl}{J bg:am}{O:T}{c:Nat}(h:some (qq (j1,bg,O))=qr f J c):j1=f/\bg=J/\∃D,O=ar D c:=by
 have e:=Option.some.inj h
 exact⟨congrArg (·.1) e,congrArg (·.2.1) e,PY (congrArg (·.2.2) e)⟩
theorem WS.of{x:Option (Fl×am×T)}{f:Fl}{J:am}{c:Nat}{Q:Fl->am->T->Prop}(h:x.map qq=qr f J c)(q:∀D,Q f J (ar D c)):WS x Q:=by
 obtain⟨⟨j1,bg,O⟩,e1,e⟩:=nk h
 obtain⟨e2,e3,D,eN⟩:=P6 (congrArg some e)
 exact⟨f,J,ar D c,by rw [e1,e2,e3,eN],q D⟩
theorem Gc{l:List Nat}{a b:Nat}(h:l.Perm [a,b]):l=[a,b]\/l=[b,a]:=by
 match l,h.length_eq with
 |[x,y],_=>
  have hx:x∈[a,b]:=h.mem_iff.mp (dV ..)
  rcases(List.mem_cons.mp hx).imp id dG with rfl|rfl
  .exact .inl (by rw [List.perm_singleton.mp h.cons_inv])
  .exact .inr (by rw [List.perm_singleton.mp (h.trans (.swap ..)).cons_inv])
structure PairE (r s:Nat):Prop where
 t1:eF [r,s]= -1
 t2:eF [s,r]= -1
 u1:m2 [r,s]=[r,s]
 u2:m2 [s,r]=[s,r]
 g1:eb [[r],[s]]=[r,s]
 g2:eb [[s],[r]]=[s,r]
 nd:[r,s].Nodup
 sub:∀i∈[r,s],i∈PS
theorem ahq{r s:Nat}(h:PairE r s){l u:List Nat}(ag:l.Perm [r,s])(bG:eG (eb (l.map λi=>[i])) u):u=[r,s]\/u=[s,r]:=by
 rcases Gc ag with e|e<;>rw[e] at bG
 .rcases bG with ⟨_,p⟩|⟨q,_⟩
  .exact Gc (h.u1▸h.g1▸p)
  .exact absurd (h.g1.symm▸h.t1) q
 .rcases bG with ⟨_,p⟩|⟨q,_⟩
  .exact(Gc (h.u2▸h.g2▸p)).symm
  .exact absurd (h.g2.symm▸h.t2) q
theorem Gd(l:List Nat):l.map ax=(l.map λi=>[i]).map aH:=by rw [we];rfl
def vv:=an "found"
noncomputable def m2L:List (Nat×Nat×Nat×Nat×Nat):=[(30,5,10,32,37),(30,8,9,35,36),(38,8,9,35,36),(30,4,5,31,32),(30,5,4,32,31)]
def sO (p a b:Nat):am:=[(cF,.tab,false),("s",ax p,false),("t",aH [a,b],false)]
def Ge (p a b r s:Nat):am:=[(cF,.tab,false),("s",ax p,false),("t",aH [a,b],false),(vv,.dict (cY [r,s]),true),("one",ax p,false),("other",ax b,false),("met",ax s,false)]
def m2F:List Stmt:=(aE 96).bd
theorem ahr(n:Nat)(D:List V)(c:Nat):(m2L.map λq=>dR G0 (n+118) (eP 96) (sO q.1 q.2.1 q.2.2.1) (qp m2F) (ar D c))=m2L.map λ_=>some (false,ar D c):=by rfl'
theorem ahs(n:Nat)(D:List V)(c:Nat):(m2L.map λq=>dR G0 (n+117) (eP 96) (sO q.1 q.2.1 q.2.2.1) (qp (m2F.drop 1)) (ar D c))=m2L.map λ_=>some (false,ar D c):=by rfl'
theorem aht(n:Nat)(D:List V)(c:Nat):(m2L.map λq=>(bv G0 (n+116) (eP 96) (cb (sO q.1 q.2.1 q.2.2.1) vv (.dict []) true) ((m2F.drop 3).take 1) (ar D c)).map qq)=m2L.map λq=>qr .next (Ge q.1 q.2.1 q.2.2.1 q.2.2.2.1 q.2.2.2.2) (c+2):=by rfl'
theorem ahu:∀q∈m2L,PairE q.2.2.2.1 q.2.2.2.2:=by
 have:∀q∈m2L,eF [q.2.2.2.1,q.2.2.2.2]= -1/\eF [q.2.2.2.2,q.2.2.2.1]= -1/\m2 [q.2.2.2.1,q.2.2.2.2]=[q.2.2.2.1,q.2.2.2.2]/\m2 [q.2.2.2.2,q.2.2.2.1]=[q.2.2.2.2,q.2.2.2.1]/\eb [[q.2.2.2.1],[q.2.2.2.2]]=[q.2.2.2.1,q.2.2.2.2]/\eb [[q.2.2.2.2],[q.2.2.2.1]]=[q.2.2.2.2,q.2.2.2.1]/\[q.2.2.2.1,q.2.2.2.2].Nodup/\∀i∈[q.2.2.2.1,q.2.2.2.2],i∈PS:=by decide
 intro q aO
 obtain⟨a,b,c,d,e,f,g,h⟩:=this q aO
 exact⟨a,b,c,d,e,f,g,h⟩
theorem P7{G:Gl}{n:Nat}{c:Cx}{t it:Expr}{b:List Stmt}{p:Pos}{r:List Stmt}{J bg:am}{H:T}{k:Nat}{b0:Fl->am->T->Prop}(h:(bv G (n+2) c J [.For t it b [] p] H).map qq=qr .next bg k)(q:∀D,WS (bv G (n+1) c bg r (ar D k)) b0):WS (bv G (n+2) c J (.For t it b [] p::r) H) b0:=by
 obtain⟨⟨j1,sB,O⟩,e1,e⟩:=nk h
 obtain⟨e2,e3,D,eN⟩:=P6 (congrArg some e)
 rw[e2,e3,eN] at e1
 obtain⟨l,agc,a,e1⟩:=b1 (show ob (gA G (n+1) c J it H) (λl H=>thn (je (om G (n+1) c t b) l J H) λJ H=>bv G (n+1) c J [] H)=_ from e1)
 obtain⟨f,lV,yw,e,e1⟩:=rq e1
 rcases f with _|v
 .have e2:=Option.some.inj (show some (Fl.next,lV,yw)=some (Fl.next,bg,ar D k) from e1)
  have e3:lV=bg:=congrArg (·.2.1) e2
  have eN:yw=ar D k:=congrArg (·.2.2) e2
  refine il (.of a ⟨.next,lV,yw,e,?_⟩)
  rw[e3,eN]
  exact q D
 .exact nomatch (congrArg (·.1) (Option.some.inj e1):Fl.ret v=Fl.next)
theorem ahv{p a b r s:Nat}(h:(p,a,b,r,s)∈m2L){m:Nat}(av:120<=m)(D:List V)(c:Nat):∃u a0 aP,bK G0 m (aE 96) [.tab,ax p,aH [a,b]] (ar D c)=some (aH u,ar a0 aP)/\aP<=c+5/\(u=[r,s]\/u=[s,r]):=by
 obtain⟨n,rfl⟩:=c0 av
 refine UQ.to ?_
 have P:PairE r s:=ahu _ h
 have t1:dR G0 (n+118) (eP 96) (sO p a b) (qp m2F) (ar D c)=some (false,ar D c):=(bJ (ahr n D c) h:)
 have t2:dR G0 (n+117) (eP 96) (sO p a b) (qp (m2F.drop 1)) (ar D c)=some (false,ar D c):=(bJ (ahs n D c) h:)
 have z7:(bv G0 (n+116) (eP 96) (cb (sO p a b) vv (.dict []) true) ((m2F.drop 3).take 1) (ar D c)).map qq=qr .next (Ge p a b r s) (c+2):=(bJ (aht n D c) h:)
 have P8:Pts [r,s]:=⟨P.sub,P.nd⟩
 refine cc rfl ?_
 refine bO (.of t1 (bm ?_))
 refine bO (.of t2 (bm ?_))
 refine so (.og (v:=.dict []) ?_)
 refine P7 z7 λD=>?_
 obtain⟨l,di,ho⟩:=FZ P8 D (c+2)
 have fL:∀r∈l.map (λi=>[i]),Pts r:=λr aq=>by
  obtain⟨i,hi,e⟩:=List.mem_map.mp aq
  exact e▸⟨λj bt=>(dG bt).symm▸(P8.perm di).sub i hi,List.nodup_cons.mpr ⟨kj,.nil⟩⟩
 obtain⟨u,a0,aP,e,a8,l1,a7⟩:=m3 fL (X:=.list (l.map ax)) (by rw [Gd];rfl) (m:=n+113) (bH rfl) D (c+2)
 have U:Has (Ge p a b r s) [bE cF .tab,(vv,.dict (cY [r,s]),true)]:=Has.sub .rfl
 exact ck (cw (bo (fn:=aE 67) (az (aM U (v:=.tab) (az (cw (ef (az (jx U (v:=.dict (cY [r,s])) (bj ⟨_,ho,bj (.of e ⟨cW U,u,a0,aP,rfl,rfl,aT a8 (dh (by decide:3<=5) c),ahq P di a7⟩)⟩))))))))))
theorem WE.amZ{α:Type}{x:Option (α×T)}{v:α}{c:Nat}{Q:α->T->Prop}(h:x.map kT=kU v c)(q:∀D,Q v (ar D c)):WE x Q:=(lZ h).elim λD e=> .of e (q D)
def yN (p a b:Nat):am:=[(cF,.tab,false),("parts",.tup [ax p,aH [a,b]],false)]
theorem ahw(n:Nat)(D:List V)(c:Nat):(m2L.map λq=>(bv G0 (n+149) (eP 97) (yN q.1 q.2.1 q.2.2.1) ((aE 97).bd.take 1) (ar D c)).map qq)=m2L.map λq=>qr .next (yN q.1 q.2.1 q.2.2.1++([("t",.int 13,false)]:am)) c:=by rfl'
theorem ahx(n:Nat)(D:List V)(c:Nat):(m2L.map λq=>bK G0 (n+100) (aE 96) [.tab,.int 1,ax q.1] (ar D c))=m2L.map λq=>some (ax q.1,ar D c):=by rfl'
theorem vw{p a b r s:Nat}(h:(p,a,b,r,s)∈m2L){m:Nat}(av:150<=m)(D:List V)(c:Nat):∃u a0 aP,bK G0 m (aE 97) [.tab,.tup [ax p,aH [a,b]]] (ar D c)=some (aH u,ar a0 aP)/\aP<=c+5/\(u=[r,s]\/u=[s,r]):=by
 obtain⟨n,rfl⟩:=c0 av
 refine UQ.to ?_
 have t1:(bv G0 (n+149) (eP 97) (yN p a b) ((aE 97).bd.take 1) (ar D c)).map qq=qr .next (yN p a b++([("t",.int 13,false)]:am)) c:=(bJ (ahw n D c) h:)
 refine cc rfl (P7 t1 λD=>?_)
 have t2:bK G0 (n+144) (aE 96) [.tab,.int 1,ax p] (ar D c)=some (ax p,ar D c):=(bJ (ahx (n+44) D c) h:)
 obtain⟨u,a0,aP,e,ap,bG⟩:=ahv h (m:=n+144) (bH rfl) D c
 refine cH .rfl (.og (v:=.int 1) λJ U=>?_)
 refine il (ht (dt U (v:=.tup [ax p,aH [a,b]]) ⟨[ax p,aH [a,b]],rfl,?_⟩))
 refine cJ (ka U λJ U=>cH U (bo (fn:=aE 96) (az (aM U (v:=.tab) (az (aM U (v:=.int 1) (az (aM U (v:=ax p) (bj (.of t2 ⟨cW U,λJ U=>bm ?_⟩))))))))))
 refine cJ (ka U λJ U=>cH U (bo (fn:=aE 96) (az (aM U (v:=.tab) (az (aM U (v:=ax p) (az (aM U (v:=aH [a,b]) (bj (.of e ⟨cW U,λJ U=>bm (oo ?_)⟩))))))))))
 exact ck (aM U (v:=aH u) ⟨u,a0,aP,rfl,rfl,ap,bG⟩)
theorem Gf{u:List Nat}{r s:Nat}(h:u=[r,s]\/u=[s,r]):u.Perm [r,s]:=h.elim (λe=>e▸ .refl _) λe=>e▸ .swap ..
theorem P9{i:Nat}(hi:i=30\/i=38){n:Nat}(D:List V)(c:Nat):WE (bK G0 (n+160) (aE 136) [.tab,ax i,.str (fQ 5),.bool true] (ar D c)) (UQ (c+8) λu=>u.Perm (ir 5 true i)):=by
 rcases hi with rfl|rfl
 .refine cc rfl (cB (.og (v:=.str ⟨#[]⟩) ?_))
  refine bO (.og (v:=false) (bm ?_))
  refine bO (.og (v:=false) (bm ?_))
  refine bO (.og (v:=false) (bm ?_))
  refine bO (.og (v:=false) (bm ?_))
  refine bO (.og (v:=false) (bm ?_))
  refine ck (cw (bo (fn:=aE 97) (.og (v:=[.tab,.tup [ax 30,aH [8,9]]]) ?_)))
  obtain⟨u,a0,aP,e,ap,bG⟩:=vw (p:=30) (a:=8) (b:=9) (r:=35) (s:=36) (by decide) (m:=n+151) (bH rfl) D c
  exact .of e ⟨cr rfl,u,a0,aP,rfl,rfl,aT ap (dh (by decide:5<=8) c),Gf bG⟩
 .refine cc rfl (cB (.og (v:=.str ⟨#[]⟩) ?_))
  refine bO (.og (v:=false) (bm ?_))
  refine bO (.og (v:=false) (bm ?_))
  refine bO (.og (v:=false) (bm ?_))
  refine bO (.og (v:=false) (bm ?_))
  refine bO (.og (v:=false) (bm ?_))
  refine ck (cw (bo (fn:=aE 97) (.og (v:=[.tab,.tup [ax 38,aH [8,9]]]) ?_)))
  obtain⟨u,a0,aP,e,ap,bG⟩:=vw (p:=38) (a:=8) (b:=9) (r:=35) (s:=36) (by decide) (m:=n+151) (bH rfl) D c
  exact .of e ⟨cr rfl,u,a0,aP,rfl,rfl,aT ap (dh (by decide:5<=8) c),Gf bG⟩
theorem ahy{w i:Nat}(h:(w=1/\i=30)\/(w=5/\i=30)\/(w=5/\i=38)){m:Nat}(av:200<=m)(D:List V)(c:Nat):∃u a0 aP,bK G0 m (aE 147) [.host,ax i,.str (fQ w),.bool true] (ar D c)=some (aH u,ar a0 aP)/\aP<=c+8/\u.Perm (ir w true i):=by
 obtain⟨n,rfl⟩:=c0 av
 refine UQ.to ?_
 rcases h with ⟨rfl,rfl⟩|⟨rfl,rfl⟩|⟨rfl,rfl⟩
 .refine cc rfl ?_
  refine cB (.og (v:=.int 0) ?_)
  refine bO (.og (v:=false) (bm ?_))
  refine bO (.og (v:=true) ?_)
  refine ck (cw (bo (fn:=aE 148) (.og (v:=[.host,ax 30,.str (fQ 1),.bool true]) ?_)))
  refine cc rfl ?_
  refine cB (.og (v:=ax 30) ?_)
  refine bO (.og (v:=false) (bm ?_))
  refine ck (cw (bo (fn:=aE 136) (.og (v:=[.tab,ax 30,.str (fQ 1),.bool true]) ?_)))
  refine WE.mono (P:=UQ (c+8) λu=>u.Perm (ir 1 true 30)) ?_ (λv O q=>⟨cr rfl,cr rfl,q⟩)
  refine cc rfl ?_
  refine cB (.og (v:=.str ⟨#[]⟩) ?_)
  refine bO (.og (v:=false) (bm ?_))
  refine bO (.og (v:=false) (bm ?_))
  refine bO (.og (v:=true) ?_)
  refine ck (cw (bo (fn:=aE 97) (.amZ (v:=[.tab,.tup [ax 30,aH [5,10]]]) (c:=c+1) (by rfl') λD=>?_)))
  obtain⟨u,a0,aP,e,ap,bG⟩:=vw (p:=30) (a:=5) (b:=10) (r:=32) (s:=37) (by decide) (m:=n+182) (bH rfl) D (c+1)
  exact .of e ⟨cr rfl,u,a0,aP,rfl,rfl,aT ap (dh (by decide:1+5<=8) c),Gf bG⟩
 .refine cc rfl ?_
  refine cB (.og (v:=.int 0) ?_)
  refine bO (.og (v:=false) (bm ?_))
  refine bO (.og (v:=true) ?_)
  refine ck (cw (bo (fn:=aE 148) (.og (v:=[.host,ax 30,.str (fQ 5),.bool true]) ?_)))
  refine cc rfl ?_
  refine cB (.og (v:=ax 30) ?_)
  refine bO (.og (v:=false) (bm ?_))
  refine ck (cw (bo (fn:=aE 136) (.og (v:=[.tab,ax 30,.str (fQ 5),.bool true]) ?_)))
  exact WE.mono (P9 (i:=30) (.inl rfl) D c) (λv O q=>⟨cr rfl,cr rfl,q⟩)
 .refine cc rfl ?_
  refine cB (.og (v:=.int 0) ?_)
  refine bO (.og (v:=false) (bm ?_))
  refine bO (.og (v:=false) (bm ?_))
  refine ck (cw (bo (fn:=aE 136) (.og (v:=[.tab,ax 38,.str (fQ 5),.bool true]) ?_)))
  exact WE.mono (P9 (i:=38) (.inr rfl) D c) (λv O q=>⟨cr rfl,q⟩)
theorem ahz{w:Nat}(cs:w<6)(y:Bool):iZ w y:=by
 rcases w with _|_|_|_|_|_|w
 .rcases y with _|_;exact ahf;exact ahe
 .rcases y with _|_;exact ahh;exact ahg
 .rcases y with _|_;exact ahj;exact ahi
 .rcases y with _|_;exact ahl;exact ahk
 .rcases y with _|_;exact ahn;exact ahm
 .rcases y with _|_;exact ahp;exact aho
 .exact(Nat.not_lt_of_le (tz 6 w) cs).elim
theorem ahA:((List.range 6).all λw=>PSa.all λi=>Nat.ble (yM w true i) 8&&Nat.ble (yM w false i) 8)=true:=by rfl'
theorem ahB{w:Nat}(cs:w<6)(y:Bool){i:Nat}(hi:i∈PSa):yM w y i<=8:=by
 have h:=aK (bl (bl ahA (List.mem_range.mpr cs)) hi)
 rcases y with _|_
 .exact fi h.2
 .exact fi h.1
theorem ahC{w:Nat}(cs:w<6)(y:Bool){i:Nat}(hi:i∈PSa){m:Nat}(av:200<=m)(D:List V)(c:Nat):∃u a0 aP,bK G0 m (aE 147) [.host,ax i,.str (fQ w),.bool y] (ar D c)=some (aH u,ar a0 aP)/\aP<=c+8/\u.Perm (ir w y i):=by
 rcases e:P4 w y i with _|_
 .obtain⟨n,rfl⟩:=c0 (aT (by decide:100<=200) av)
  have aJ:i∈Gb w y:=List.mem_filter.mpr ⟨hi,by rw [e];rfl⟩
  have t:=ahz cs y
  unfold iZ at t
  have q:=bJ (t n D c) aJ
  obtain⟨a0,h⟩:=lZ q
  exact⟨_,a0,_,h,dh (ahB cs y hi) c,.refl _⟩
 .obtain⟨e1,e2⟩:=aK (show (y&&(Nat.beq w 1&&Nat.beq i 30||Nat.beq w 5&&(Nat.beq i 30||Nat.beq i 38)))=true from e)
  rw[e1]
  have b:=λ{a b:Nat} (h:Nat.beq a b=true)=>ei h
  refine ahy ?_ av D c
  rcases(f9 ..).mp e2 with e|e
  .exact .inl ⟨b (aK e).1,b (aK e).2⟩
  .rcases(f9 ..).mp (aK e).2 with q|q
   .exact .inr (.inl ⟨b (aK e).1,b q⟩)
   .exact .inr (.inr ⟨b (aK e).1,b q⟩)
noncomputable def ahD (a:Nat):List Nat->Bool
 |[]=>true
 |b::r=> !Nat.beq a b&&r.isEmpty
def Qa:List Nat->Bool
 |[]=>true
 |a::r=>ahD a r
theorem ahE{l:List Nat}(h:Qa l=true):l.Nodup:=by
 rcases l with _|⟨a,_|⟨b,r⟩⟩
 .exact .nil
 .exact List.nodup_cons.mpr ⟨kj,.nil⟩
 .obtain⟨aa,ah⟩:=aK (show (!Nat.beq a b&&r.isEmpty)=true from h)
  rw[List.isEmpty_iff.mp ah]
  exact List.nodup_cons.mpr ⟨λq=>by rw [dG q,jF] at aa;exact c2 aa,List.nodup_cons.mpr ⟨kj,.nil⟩⟩
theorem ahF:((List.range 6).all λw=>PSa.all λi=>[true,false].all λy=>(ir w y i).all (λk=>PS.any (Nat.beq k))&&Qa (ir w y i))=true:=by rfl'
theorem Gg{w:Nat}(cs:w<6)(y:Bool){i:Nat}(hi:i∈PSa):Pts (ir w y i):=by
 have aY:y∈[true,false]:=by rcases y with _|_<;>decide
 obtain⟨aa,ah⟩:=aK (bl (bl (bl ahF (List.mem_range.mpr cs)) hi) aY)
 refine⟨λk aj=>?_,ahE ah⟩
 obtain⟨z,bi,e⟩:=List.any_eq_true.mp (bl aa aj)
 rw[ei e];exact bi
def ahG(w:Nat)(y:Bool)(l u:List Nat):Prop:=∃a3,Pts u/\eG (eb a3) u/\Paired (λi r=>r.Perm (ir w y i)) l a3
theorem Qb{w:Nat}(cs:w<6)(y:Bool){l:List Nat}(ag:Pts l)(aw:∀i∈l,i∈PSa){m:Nat}(av:220<=m)(D:List V)(c:Nat):
  ∃u a0 aP,bK G0 m (aE 149) [.host,aH l,.str (fQ w),.bool y] (ar D c)=some (aH u,ar a0 aP)/\aP<=c+300/\ahG w y l u:=by
 obtain⟨n,rfl⟩:=c0 av
 refine UQ.to ?_
 refine cc rfl ?_
 refine cB (bo (fn:=aE 61) (.og (v:=[.tab,aH l]) (.of (io ag (bH rfl) D c) ⟨cr rfl,?_⟩)))
 refine ck (cw (bo (fn:=aE 67) (az (.og (v:=.tab) (az (j8 (d8 (ht (dE (v:=.tup (l.map ax)) ⟨_,rfl,?_⟩)))))))))
 refine sM (R:=λi r=>r.Perm (ir w y i)) (k:=8) (λi hi D c=>dc ⟨rfl,rfl⟩) (λi hi D c=>?_) D c λa3 fq eW aB fO=>?_
 .obtain⟨u,a0,aP,e,h,aS⟩:=ahC cs y (aw i hi) (m:=n+214) (bH rfl) D c
  exact bo (fn:=aE 147) (az (vn (v:=.host) (az (vn (v:=ax i) (az (vn (v:=.str (fQ w)) (az (vn (v:=.bool y) (bj (.of e ⟨cr rfl,u,a0,aP,rfl,rfl,h,aS⟩))))))))))
 .have oq:=aT (dW (Paired.len fO).symm) ag.len
  have aq:∀r∈a3,Pts r:=λr aq=>by
   obtain⟨i,hi,p⟩:=Paired.all fO r aq
   exact(Gg cs y (aw i hi)).perm p
  obtain⟨u,a0,aP,e,a8,l1,a7⟩:=m3 aq (X:=.list (a3.map aH)) rfl (m:=n+216) (bH rfl) fq eW
  exact⟨by rw [yK];exact md (by rw [eQ];exact aT oq (by decide)),bj (.of e ⟨cr rfl,u,a0,aP,rfl,rfl,aT a8 (aT (gr (aT aB (dh (oL 8 ag.len) c))) (dh (by decide:8*34+1<=300) c)),a3,l1,a7,fO⟩)⟩
theorem ahH{l:List Nat}(ag:Pts l){m:Nat}(av:160<=m)(D:List V)(c:Nat):
  ∃u a0 aP,bK G0 m (aE 146) [.host,aH l,.bool false] (ar D c)=some (aH u,ar a0 aP)/\aP<=c+80/\Pts u/\eG (eb (l.map (ff 109))) u:=by
 obtain⟨n,rfl⟩:=c0 av
 obtain⟨u,a0,aP,e,h,l1,a7⟩:=yL (j:=109) (.inr (.inr rfl)) ag (m:=n+153) (bH rfl) D c
 refine⟨u,a0,aP,WE.to ?_,aT h (dh (by decide) c),l1,a7⟩
 refine cc rfl ?_
 refine ck (cw (bo (fn:=aE 130) (.og (v:=[.tab,aH l,.bool false]) ?_)))
 refine cc rfl ?_
 refine bO (.og (v:=true) ?_)
 exact ck (cw (bo (fn:=aE 109) (az (vn (v:=.tab) (az (vn (v:=aH l) (bj (.of e ⟨cr rfl,cr rfl,rfl,rfl⟩))))))))
theorem ahI{l:List Nat}(ag:Pts l){m:Nat}(av:160<=m)(D:List V)(c:Nat):
  ∃u1 u a0 aP,bK G0 m (aE 146) [.host,aH l,.bool true] (ar D c)=some (aH u,ar a0 aP)/\aP<=c+80/\Pts u1/\eG (eb (l.map (ff 104))) u1/\Pts u/\eG (eb (u1.map (ff 101))) u:=by
 obtain⟨n,rfl⟩:=c0 av
 obtain⟨u1,fq,eW,iR,aB,Qc,ahJ⟩:=yL (j:=104) (.inr (.inl rfl)) ag (m:=n+152) (bH rfl) D c
 obtain⟨u,a0,aP,e,h,l1,a7⟩:=yL (j:=101) (.inl rfl) Qc (m:=n+153) (bH rfl) fq eW
 refine⟨u1,u,a0,aP,WE.to ?_,aT h (jC aB 40),Qc,ahJ,l1,a7⟩
 refine cc rfl ?_
 refine ck (cw (bo (fn:=aE 130) (.og (v:=[.tab,aH l,.bool true]) ?_)))
 refine cc rfl ?_
 refine bO (.og (v:=false) (bm ?_))
 exact ck (cw (bo (fn:=aE 101) (az (vn (v:=.tab) (az (cw (bo (fn:=aE 104) (az (vn (v:=.tab) (az (vn (v:=aH l) (bj (.of iR ⟨cr rfl,bj (.of e ⟨cr rfl,cr rfl,rfl,rfl⟩)⟩)))))))))))))
def bB:Nat->Nat:=lW [(3,6),(4,5),(5,4),(6,1),(7,2),(8,3),(9,3),(10,7),(11,7),(15,3),(16,7),(18,1),(19,1),(20,1),(21,1),(22,2),(23,2),(24,2),(25,2),(26,2),(27,1),(28,7),(29,7),(31,5),(32,4),(33,1),(34,2),(35,3),(36,3),(37,7)]
noncomputable def f7 (i:Nat):V:=match i with
 |4=> .tup [.int 5,.int 0]
 |5=> .tup [.int 4,.int 0]
 |8=> .tup [.int 3,.int 0]
 |9|15=> .tup [.int 3,.int 1]
 |18=> .tup [.int 1,.str ⟨#[]⟩]
 |19|20|27=> .tup [.int 1,.str "a"]
 |21=> .tup [.int 1,.str "x"]
 |22|25=> .tup [.int 2,.int 0]
 |23|26=> .tup [.int 2,.int 1]
 |24=> .tup [.int 2,.int (-1)]
 |_=> .tup []
def dU (i:Nat):Bool:=Nat.blt 0 (bB i)&&Nat.blt (bB i) 7
def eu (i:Nat):Bool:=Nat.blt 3 (bB i)&&Nat.blt (bB i) 7
theorem ahK(n:Nat)(D:List V)(c:Nat):(PS.map λi=>bK G0 (n+60) (aE 75) [.tab,ax i] (ar D c))=PS.map λi=>some (.int (bB i),ar D c):=by rfl'
theorem ahL(n:Nat)(D:List V)(c:Nat):(PS.map λi=>bK G0 (n+70) (aE 126) [.tab,ax i] (ar D c))=PS.map λi=>some (f7 i,ar D c):=by rfl'
theorem ahM(n:Nat)(D:List V)(c:Nat):(PS.map λi=>bK G0 (n+70) (aE 140) [.tab,ax i] (ar D c))=PS.map λi=>some (.bool (dU i),ar D c):=by rfl'
theorem Gi(D:List V)(c:Nat):(PS.map λi=>cX (ar D c) .In (.int (bB i)) (.tup [.int 4,.int 5,.int 6]))=PS.map λi=>some (eu i):=by rfl'
theorem kV{i:Nat}(hi:i∈PS){m:Nat}(av:60<=m)(D:List V)(c:Nat):bK G0 m (aE 75) [.tab,ax i] (ar D c)=some (.int (bB i),ar D c):=by
 obtain⟨n,rfl⟩:=c0 av
 exact bJ (ahK n D c) hi
theorem vx{i:Nat}(hi:i∈PS){m:Nat}(av:70<=m)(D:List V)(c:Nat):bK G0 m (aE 126) [.tab,ax i] (ar D c)=some (f7 i,ar D c):=by
 obtain⟨n,rfl⟩:=c0 av
 exact bJ (ahL n D c) hi
theorem Qd{i:Nat}(hi:i∈PS){m:Nat}(av:70<=m)(D:List V)(c:Nat):bK G0 m (aE 140) [.tab,ax i] (ar D c)=some (.bool (dU i),ar D c):=by
 obtain⟨n,rfl⟩:=c0 av
 exact bJ (ahM n D c) hi
theorem Qe{α:Type}(f:α->Bool):∀l:List α,rm (l.map λa=>V.bool (f a))=some (l.map f)
 |[]=>rfl
 |a::l=>by
  show od (rm (l.map λa=>V.bool (f a))) (λl=>some (f a::l))=_
  rw[Qe f l];rfl
theorem i0{α bR:Type}{f:α->bR}{l:List α}(h:l.length<=4096):cz (l.map f)=true:=by
 unfold cz
 rw[eQ]
 exact md h
theorem Qf{α:Type}(g:List Bool->Bool)(f:α->Bool){l:List α}(h:l.length<=4096):rp g (.list (l.map λa=>V.bool (f a)))=some (.bool (g (l.map f))):=by
 show ow (cz _) (od (rm _) _)=_
 rw[i0 h,Qe f l];rfl
theorem sP{α:Type}(H:T)(f:α->Bool){l:List α}(h:l.length<=4096):f1 H ww [.list (l.map λa=>V.bool (f a))]=some (.bool (l.all f)):=by
 refine mg (b:=rp (λl=>l.all id) (.list (l.map λa=>V.bool (f a)))) (by rfl') ((Qf _ f h).trans ?_)
 rw[i6];rfl
theorem Gj{α:Type}(H:T)(f:α->Bool){l:List α}(h:l.length<=4096):f1 H tT [.list (l.map λa=>V.bool (f a))]=some (.bool (l.any f)):=by
 refine mg (b:=rp (λl=>l.any id) (.list (l.map λa=>V.bool (f a)))) (by rfl') ((Qf _ f h).trans ?_)
 rw[List.any_map];rfl
theorem yO{α:Type}(f:α->Bool)(l:List α):(l.map λa=>V.bool (f a)).all V.flat=true:=by
 rw[i6]
 exact List.all_eq_true.mpr λ_ _=>rfl
theorem sQ{H:T}{test:V->T->Option (Bool×T)}{elt:V->T->Option (V×T)}{f g:Nat->V}{l:List Nat}(aa:∀i∈l,WE (test (f i) H) (Is true H))(ah:∀i∈l,WE (elt (f i) H) (Is (g i) H)):gR test elt (l.map f) H=some (l.map g,H):=by
 have:=kQ (p:=λ_=>true) aa ah
 rwa [List.filter_eq_self.mpr λ_ _=>rfl] at this
theorem Qg{l:List Nat}(ag:Pts l){m:Nat}(av:120<=m)(D:List V)(c:Nat):bK G0 m (aE 141) [.tab,aH l] (ar D c)=some (.bool (l.all dU),ar D c):=by
 obtain⟨n,rfl⟩:=c0 av
 refine WE.to ?_
 have kc:=ag.len
 refine cc rfl ?_
 refine ck (cw (ef (az (j8 (d8 (hS (bo (fn:=aE 61) (az (vn (v:=.tab) (az (vn (v:=aH l) (bj (.of (io ag (by first|exact bH rfl|lia) D c) ⟨cr rfl,_,rfl,?_⟩)))))))))))))
 refine .of (sQ (g:=λi=> .bool (dU i)) (λi hi=>dc ⟨rfl,rfl⟩) λi hi=>?_) ⟨by rw [yO,i0 (by first|exact bH rfl|lia)];rfl,bj ⟨_,sP _ dU (by first|exact bH rfl|lia),rfl,rfl⟩⟩
 exact bo (fn:=aE 140) (az (vn (v:=.tab) (az (vn (v:=ax i) (bj (.of (Qd (ag.sub i hi) (by first|exact bH rfl|lia) D c) ⟨cr rfl,rfl,rfl⟩))))))
theorem ahN{f:Expr->T->Option (V×T)}{op:BoolOp}{e:Expr}{H:T}{Q:V->T->Prop}(h:WE (f e H) Q):WE (kw f op [e] H) Q:=h
theorem oR{f:Expr->T->Option (V×T)}{e e2:Expr}{r:List Expr}{H:T}{Q:V->T->Prop}(h:WE (f e H) λv H=>∃t,v.truth=some t/\cond t (WE (kw f .And (e2::r) H) Q) (Q v H)):WE (kw f .And (e::e2::r) H) Q:=
 WE.ob (h.mono λv H ⟨t,h,q⟩=>WE.od h (by
  rcases t with _|_
  .exact .of rfl q
  .exact q))
theorem Gk{f:Expr->T->Option (V×T)}{e e2:Expr}{r:List Expr}{H:T}{Q:V->T->Prop}(h:WE (f e H) λv H=>∃t,v.truth=some t/\cond t (Q v H) (WE (kw f .Or (e2::r) H) Q)):WE (kw f .Or (e::e2::r) H) Q:=
 WE.ob (h.mono λv H ⟨t,h,q⟩=>WE.od h (by
  rcases t with _|_
  .exact q
  .exact .of rfl q))
theorem Gm{G:Gl}{n:Nat}{c:Cx}{J:am}{H:T}{Q:V->T->Prop}{op:BoolOp}{vs:List Expr}{p:Pos}(h:WE (kw (aN G n c J) op vs H) Q):WE (aN G (n+1) c J (.BoolOp op vs p) H) Q:=h
abbrev ahO (f:Expr->T->Option (V×T)) (Q:V->T->Prop) (b:Expr) (v:V) (H:T):Prop:=∃t,v.truth=some t/\cond t (WE (f b H) Q) (Q v H)
abbrev ahP (f:Expr->T->Option (V×T)) (Q:V->T->Prop) (b:Expr) (v:V) (H:T):Prop:=∃t,v.truth=some t/\cond t (Q v H) (WE (f b H) Q)
theorem vy{G:Gl}{n:Nat}{c:Cx}{J:am}{H:T}{Q:V->T->Prop}{a b:Expr}{p:Pos}(h:WE (aN G n c J a H) (ahO (aN G n c J) Q b)):WE (aN G (n+1) c J (.BoolOp .And [a,b] p) H) Q:=Gm (oR h)
theorem ao4{G:Gl}{n:Nat}{c:Cx}{J:am}{H:T}{Q:V->T->Prop}{a b:Expr}{p:Pos}(h:WE (aN G n c J a H) (ahP (aN G n c J) Q b)):WE (aN G (n+1) c J (.BoolOp .Or [a,b] p) H) Q:=Gm (Gk h)
theorem sR{G:Gl}{n:Nat}{c:Cx}{J:am}{H:T}{Q:V->T->Prop}{f x:Str}{cR tp u3 fL:Pos}{it elt:Expr}{sc:Scope}{ls:List Nat}{m:Nat->V}{g:Nat->Bool}{r:Bool}(ao:f1 H f [.list (ls.map λa=>V.bool (g a))]=some (.bool r))(aX:ls.length<=4096)(hi:WE (gA G (n+1) c J it H) (Is (ls.map m) H))(cL:∀q∈ls,WE (FR G (n+1) c J x sc elt (m q) H) (Is (.bool (g q)) H))(q:Q (.bool r) H)(mP:lj x sc c.sc=true:=by rfl')(aj:lk c.sc.names f=some .globalImplicit:=by rfl')(a6:G.fn f=none:=by rfl')(bx:G.free f=true:=by rfl')(h':a9 f mm=false:=by rfl'):
  WE (aN G (n+3) c J (.Call (.Name f cR) [.ListComp elt [⟨.Name x tp,it,[],0⟩] sc u3] [] fL) H) Q:=
 ef (az (j8 (d8 (hi.is (.of (sQ (g:=λa=> .bool (g a)) (λ_ _=>dc ⟨rfl,rfl⟩) cL) ⟨by rw [yO,i0 aX];rfl,bj ⟨_,ao,q⟩⟩)) mP))) aj a6 bx h'
theorem ahQ{H:T}{l:List V}(h:cz l=true):f1 H dy [.tup l]=some (.int l.length):=by
 refine mg (b:=ow (cz l) (some (.int l.length))) (by rfl') ?_
 rw[h];rfl
theorem yP{f:Expr->T->Option (V×T)}{c:Cx}{J:am}{H:T}{Q:V->T->Prop}{a b p}(h:WE (f (.BoolOp a b p) H) Q):WE (b7 c J f (.BoolOp a b p) H) Q:=h
def fu (l:List Nat):Bool:= !l.isEmpty&&l.all eu
theorem yQ{l:List Nat}(ag:Pts l){m:Nat}(av:120<=m)(D:List V)(c:Nat):bK G0 m (aE 128) [.tab,aH l] (ar D c)=some (.bool (fu l),ar D c):=by
 obtain⟨n,rfl⟩:=c0 av
 refine WE.to ?_
 have kc:=ag.len
 refine cc rfl ?_
 refine cB (bo (fn:=aE 61) (az (vn (v:=.tab) (az (vn (v:=aH l) (bj (.of (io ag (by first|exact bH rfl|lia) D c) ⟨cr rfl,?_⟩)))))))
 refine ck (yP (vy (iX (cw (ef (az (vn (v:=.tup (l.map ax)) (bj ⟨_,ahQ (qo ag),.og (v:=.int 0) ⟨!l.isEmpty,?_,!l.isEmpty,rfl,?_⟩⟩))))))))
 .show some (e0 0 _)=_
  rw[eQ]
  cases l<;>rfl
 cases e:l.isEmpty with
 |true=>exact⟨by simp only [fu,e];rfl,rfl⟩
 |false=>
  refine ef (az (j8 (d8 (ht (dE (v:=.tup (l.map ax)) ⟨_,rfl,?_⟩)))))
  refine .of (sQ (g:=λi=> .bool (eu i)) (λi hi=>dc ⟨rfl,rfl⟩) λi hi=>?_) ⟨by rw [yO,i0 (by first|exact bH rfl|lia)];rfl,bj ⟨_,sP _ eu (by first|exact bH rfl|lia),by simp only [fu,e];rfl,rfl⟩⟩
  refine iX (cw (bo (fn:=aE 75) (az (vn (v:=.tab) (az (vn (v:=ax i) (bj (.of (kV (ag.sub i hi) (by first|exact bH rfl|lia) D c) ⟨cr rfl,?_⟩))))))))
  exact .og (v:=.tup [.int 4,.int 5,.int 6]) ⟨_,bJ (Gi D c) (ag.sub i hi),rfl,rfl⟩
noncomputable def Gn (a b:Nat) (s:Bool):Bool:=Nat.beq a 0||Nat.beq b 0||(Nat.blt 3 a&&Nat.blt a 7&&Nat.blt 3 b&&Nat.blt b 7&&(!s||(!Nat.beq a 4&& !Nat.beq b 4)))||(!s&&Nat.blt a 4&&Nat.blt b 4)
def fv (i:Nat):Bool:=V.same (f7 i) (.tup [])
def sS (i j:Nat):Bool:=V.same (f7 i) (f7 j)
def jy (i j:Nat) (s:Bool):Bool:=match Nat.beq (bB i) (bB j)&& !Nat.beq (bB i) 0 with
 |true=>fv i||fv j||sS i j
 |false=>Gn (bB i) (bB j) s
def Go (x y:V) (s:Bool) (a b:Nat):am:=[(cF,.tab,false),("s",x,false),("t",y,false),("strict",.bool s,false),("fs",.int a,false),("ft",.int b,false)]
noncomputable def L8:List Nat:=[0,1,2,3,4,5,6,7]
theorem ahR(n:Nat)(D:List V)(c:Nat)(x y:V):(L8.map λa=>L8.map λb=>[true,false].map λs=>cond (Nat.beq a b&& !Nat.beq a 0) none (bv G0 (n+30) (eP 127) (Go x y s a b) ((aE 127).bd.drop 2) (ar D c)))=
  L8.map λa=>L8.map λb=>[true,false].map λs=>cond (Nat.beq a b&& !Nat.beq a 0) none (some (.ret (.bool (Gn a b s)),Go x y s a b,ar D c)):=by rfl'
theorem Gp(D:List V)(c:Nat):(PS.map λi=>cX (ar D c) .Eq (f7 i) (.tup []))=PS.map λi=>some (fv i):=by rfl'
theorem ahS(D:List V)(c:Nat):(PS.map λi=>PS.map λj=>cX (ar D c) .Eq (f7 i) (f7 j))=PS.map λi=>PS.map λj=>some (sS i j):=by rfl'
theorem yR:(PS.all λi=>bY (bB i) L8)=true:=by rfl'
theorem hT{i:Nat}:∀{l:List Nat},bY i l=true->i∈l
 |j::l,h=>by
  unfold bY at h
  cases e:Nat.beq j i with
  |true=>rw[ei e];exact dV ..
  |false=>rw[e] at h;exact .tail _ (hT h)
theorem i1(H:T)(a b:Nat):cX H .Eq (.int a) (.int b)=some (Nat.beq a b):=rfl
theorem Gq{i j:Nat}(hi:i∈PS)(bt:j∈PS)(s:Bool){m:Nat}(av:120<=m)(D:List V)(c:Nat):bK G0 m (aE 127) [.tab,ax i,ax j,.bool s] (ar D c)=some (.bool (jy i j s),ar D c):=by
 obtain⟨n,rfl⟩:=c0 av
 refine WE.to ?_
 have ahT:=hT (bl yR hi)
 have ahU:=hT (bl yR bt)
 have Qh:=bJ (bJ (bJ (ahR (n+87) D c (ax i) (ax j)) ahT) ahU) (x:=s) (by rcases s with _|_<;>decide)
 have pG:=bJ (Gp D c) hi
 have DG:=bJ (Gp D c) bt
 have Mm:=bJ (bJ (ahS D c) hi) bt
 have ahV:jy i j s=match Nat.beq (bB i) (bB j)&& !Nat.beq (bB i) 0 with|true=>fv i||fv j||sS i j|false=>Gn (bB i) (bB j) s:=rfl
 rw[ahV]
 refine cc rfl ?_
 refine cB (bo (fn:=aE 75) (az (vn (v:=.tab) (az (vn (v:=ax i) (bj (.of (kV hi (bH rfl) D c) ⟨cr rfl,?_⟩)))))))
 refine cB (bo (fn:=aE 75) (az (vn (v:=.tab) (az (vn (v:=ax j) (bj (.of (kV bt (bH rfl) D c) ⟨cr rfl,?_⟩)))))))
 generalize bB i=a at*
 generalize bB j=b at*
 rcases e:Nat.beq a b&& !Nat.beq a 0 with _|_
 .rw[e] at Qh
  exact⟨_,_,_,mg (b:=bv G0 (n+87+30) (eP 127) (Go (ax i) (ax j) s a b) ((aE 127).bd.drop 2) (ar D c)) (by rfl') Qh,rfl,rfl⟩
 .obtain⟨e1,e2⟩:=aK e
  have e2:Nat.beq a 0=false:=(ki _).mp e2
  have:=ei e1
  subst this
  refine bO (fN (fp (b6 (vn (v:=.int a) (.og (v:=.int 0) ⟨_,(i1 _ a 0).trans (by rw [e2]),?_⟩)))))
  refine fp (b6 (vn (v:=.int a) (.og (v:=.int 0) ⟨_,(i1 _ a 0).trans (by rw [e2]),?_⟩)))
  refine dc (bm ?_)
  refine bO (b6 (vn (v:=.int a) (vn (v:=.int a) ⟨_,(i1 _ a a).trans (by rw [e1]),?_⟩)))
  refine cB (bo (fn:=aE 126) (az (vn (v:=.tab) (az (vn (v:=ax i) (bj (.of (vx hi (bH rfl) D c) ⟨cr rfl,?_⟩)))))))
  refine cB (bo (fn:=aE 126) (az (vn (v:=.tab) (az (vn (v:=ax j) (bj (.of (vx bt (bH rfl) D c) ⟨cr rfl,?_⟩)))))))
  refine ck (yP (Gm (Gk (iX (vn (v:=f7 i) (.og (v:=.tup []) ⟨_,pG,fv i,rfl,?_⟩))))))
  rcases fv i with _|_
  rotate_left
  .exact⟨rfl,rfl⟩
  .refine Gk (iX (vn (v:=f7 j) (.og (v:=.tup []) ⟨_,DG,fv j,rfl,?_⟩)))
   rcases fv j with _|_
   rotate_left
   .exact⟨rfl,rfl⟩
   .exact ahN (iX (vn (v:=f7 i) (vn (v:=f7 j) ⟨_,Mm,rfl,rfl⟩)))
noncomputable def obS:List Nat:=[10,11,16,28,29,37]
noncomputable def obT:List Nat:=[10,11,16,28,29]
noncomputable def Gs (i j:Nat):Nat:=match Nat.beq i j||(Nat.beq i 11&& !Nat.beq j 37)||(Nat.beq j 11&& !Nat.beq i 37) with
 |true=>0
 |false=>1
theorem ahW(n:Nat)(D:List V)(c:Nat)(s:Bool):(obS.map λi=>obT.map λj=>(bK G0 (n+100) (aE 143) [.tab,ax i,ax j,.bool s] (ar D c)).map kT)=obS.map λi=>obT.map λj=>kU (.bool true) (c+Gs i j):=by rfl'
noncomputable def sT (i:Nat):Bool:=Nat.beq i 0||Nat.beq i 1||Nat.beq i 11||Nat.beq i 30||Nat.beq i 38
theorem ahX(n:Nat)(D:List V)(c:Nat):(PS.map λi=>bK G0 (n+100) (aE 142) [.tab,ax i] (ar D c))=PS.map λi=>some (.bool (sT i),ar D c):=by rfl'
theorem Qi{i:Nat}(hi:i∈PS){m:Nat}(av:100<=m)(D:List V)(c:Nat):bK G0 m (aE 142) [.tab,ax i] (ar D c)=some (.bool (sT i),ar D c):=by
 obtain⟨n,rfl⟩:=c0 av
 exact bJ (ahX n D c) hi
noncomputable def yS (a:Nat):Bool:=Nat.blt 0 a&&Nat.blt a 4
noncomputable def yT (iV hk kO m5 P x y:Bool):Bool:=cond iV (cond hk true (cond m5 P x)) (cond hk (cond kO P y) P)
def iu (i j:Nat) (s:Bool):Bool:=yT (Nat.beq (bB i) 7) (Nat.beq (bB j) 7) (Nat.beq (bB i) 0) (Nat.beq (bB j) 0) (jy i j s) (sT i&&yS (bB j)) (sT j&&yS (bB i))
theorem ahY:∀{iV hk kO m5 P x y:Bool},(iV&&hk)=false->(iV&& !m5)=true->yT iV hk kO m5 P x y=x:=by decide
theorem ahZ:∀{iV hk kO m5 P x y:Bool},(iV&&hk)=false->(hk&& !kO)=true->yT iV hk kO m5 P x y=y:=by decide
theorem ai0:∀{iV hk kO m5 P x y:Bool},(iV&&hk)=false->(iV&& !m5)=false->(hk&& !kO)=false->yT iV hk kO m5 P x y=P:=by decide
theorem Qj(D:List V)(c:Nat):(L8.map λ(a:Nat)=>cX (ar D c) .In (.int (a:Int)) (.tup [.int 1,.int 2,.int 3]))=L8.map λa=>some (yS a):=by rfl'
theorem Gu(H:T)(a b:Nat):cX H .NotEq (.int a) (.int b)=some (!Nat.beq a b):=rfl
theorem ai1{i j:Nat}(hi:i∈PS)(bt:j∈PS)(s:Bool)(aG:(Nat.beq (bB i) 7&&Nat.beq (bB j) 7)=false){m:Nat}(av:200<=m)(D:List V)(c:Nat):bK G0 m (aE 143) [.tab,ax i,ax j,.bool s] (ar D c)=some (.bool (iu i j s),ar D c):=by
 obtain⟨n,rfl⟩:=c0 av
 refine WE.to ?_
 have ER:=bJ (Qj D c) (hT (bl yR hi))
 have ai2:=bJ (Qj D c) (hT (bl yR bt))
 refine cc rfl ?_
 refine cB (bo (fn:=aE 75) (az (vn (v:=.tab) (az (vn (v:=ax i) (bj (.of (kV hi (bH rfl) D c) ⟨cr rfl,?_⟩)))))))
 refine cB (bo (fn:=aE 75) (az (vn (v:=.tab) (az (vn (v:=ax j) (bj (.of (kV bt (bH rfl) D c) ⟨cr rfl,?_⟩)))))))
 refine bO (WE.is (a:=Nat.beq (bB i) 7&&Nat.beq (bB j) 7) (s:=ar D c) ?_ ?_)
 .refine fN (dD (b6 (vn (v:=.int (bB i)) (.og (v:=.int 7) ⟨_,i1 _ _ 7,?_⟩))))
  rcases Nat.beq (bB i) 7 with _|_
  .exact⟨rfl,rfl⟩
  refine dD (b6 (vn (v:=.int (bB j)) (.og (v:=.int 7) ⟨_,i1 _ _ 7,?_⟩)))
  rcases Nat.beq (bB j) 7 with _|_
  .exact⟨rfl,rfl⟩
  .exact dc ⟨rfl,rfl⟩
 unfold iu
 rw[aG]
 refine bm (bO (WE.is (a:=(Nat.beq (bB i) 7&& !Nat.beq (bB j) 0)) (s:=ar D c) ?_ ?_))
 .refine fN (dD (b6 (vn (v:=.int (bB i)) (.og (v:=.int 7) ⟨_,i1 _ _ 7,?_⟩))))
  rcases Nat.beq (bB i) 7 with _|_
  .exact⟨rfl,rfl⟩
  refine dD (b6 (vn (v:=.int (bB j)) (.og (v:=.int 0) ⟨_,Gu _ _ 0,?_⟩)))
  rcases Nat.beq (bB j) 0 with _|_
  .exact dc ⟨rfl,rfl⟩
  .exact⟨rfl,rfl⟩
 rcases e1:Nat.beq (bB i) 7&& !Nat.beq (bB j) 0 with _|_
 rotate_left
 .rw[ahY aG e1]
  refine ck (yP (vy (bo (fn:=aE 142) (az (vn (v:=.tab) (az (vn (v:=ax i) (bj (.of (Qi hi (bH rfl) D c) ⟨cr rfl,_,rfl,?_⟩)))))))))
  rcases sT i with _|_
  .exact⟨rfl,rfl⟩
  .exact iX (vn (v:=.int (bB j)) (.og (v:=.tup [.int 1,.int 2,.int 3]) ⟨_,ai2,rfl,rfl⟩))
 refine bm (bO (WE.is (a:=(Nat.beq (bB j) 7&& !Nat.beq (bB i) 0)) (s:=ar D c) ?_ ?_))
 .refine fN (dD (b6 (vn (v:=.int (bB j)) (.og (v:=.int 7) ⟨_,i1 _ _ 7,?_⟩))))
  rcases Nat.beq (bB j) 7 with _|_
  .exact⟨rfl,rfl⟩
  refine dD (b6 (vn (v:=.int (bB i)) (.og (v:=.int 0) ⟨_,Gu _ _ 0,?_⟩)))
  rcases Nat.beq (bB i) 0 with _|_
  .exact dc ⟨rfl,rfl⟩
  .exact⟨rfl,rfl⟩
 rcases e2:Nat.beq (bB j) 7&& !Nat.beq (bB i) 0 with _|_
 .rw[ai0 aG e1 e2]
  exact bm (ck (cw (bo (fn:=aE 127) (az (vn (v:=.tab) (az (vn (v:=ax i) (az (vn (v:=ax j) (az (vn (v:=.bool s) (bj (.of (Gq hi bt s (bH rfl) D c) ⟨cr rfl,rfl,rfl⟩)))))))))))))
 .rw[ahZ aG e2]
  refine ck (yP (vy (bo (fn:=aE 142) (az (vn (v:=.tab) (az (vn (v:=ax j) (bj (.of (Qi bt (bH rfl) D c) ⟨cr rfl,_,rfl,?_⟩)))))))))
  rcases sT j with _|_
  .exact⟨rfl,rfl⟩
  .exact iX (vn (v:=.int (bB i)) (.og (v:=.tup [.int 1,.int 2,.int 3]) ⟨_,ER,rfl,rfl⟩))
noncomputable def Gv:Fn:=⟨aA 98,[.int 0]⟩
def qs (i:Nat):Bool:=bY i [0,1,3,4,5,30,31,32]
theorem ao5:∃f,G0.fn "may_be_nullish"=some f/\f.dfl.length=1:=⟨⟨aA 98,[.int 0]⟩,by rfl',rfl⟩
theorem ai3(n:Nat)(D:List V)(c:Nat):(PS.map λi=>bK G0 (n+100) Gv [.tab,ax i] (ar D c))=PS.map λi=>some (.bool (qs i),ar D c):=by rfl'
theorem ai4{i:Nat}(hi:i∈PS){m:Nat}(av:100<=m)(D:List V)(c:Nat):bK G0 m Gv [.tab,ax i] (ar D c)=some (.bool (qs i),ar D c):=by
 obtain⟨n,rfl⟩:=c0 av
 exact bJ (ai3 n D c) hi
noncomputable def inL:List (Nat×List Nat):=[(0,[4]),(0,[5]),(0,[4,5]),(0,[5,4]),(1,[4]),(1,[5]),(1,[4,5]),(1,[5,4]),(38,[4]),(38,[5]),(38,[4,5]),(38,[5,4]),(30,[4]),(30,[5])]
noncomputable def ai5 (i:Nat) (u:List Nat):List Nat:=match i with
 |0=>[0]
 |1=>u
 |30=>u.map (· +27)
 |_=>[]
noncomputable def ai6 (i:Nat):Nat:=match i with
 |30=>1
 |_=>0
theorem Qk(n:Nat)(D:List V)(c:Nat):(inL.map λp=>(bK G0 (n+120) (aE 97) [.tab,.tup [ax p.1,aH p.2]] (ar D c)).map kT)=inL.map λp=>kU (aH (ai5 p.1 p.2)) (c+ai6 p.1):=by rfl'
def dk:Nat->Nat:=lW [(0,16383),(1,16383),(3,1),(4,1),(5,2),(6,112),(7,1920),(8,4),(9,8),(10,14336),(11,16380),(15,8),(16,4096),(18,16),(19,32),(20,32),(21,64),(22,128),(23,256),(24,512),(25,128),(26,256),(27,32),(28,4096),(29,8192),(30,16383),(31,1),(32,2),(33,112),(34,1920),(35,4),(36,8),(37,14336),(38,16380)]
def cS (i v:Nat):Bool:=(dk i).testBit v
def cZ (l:List Nat) (v:Nat):Bool:=l.any λi=>cS i v
theorem HS_iff{l:List Nat}{v:Nat}:cZ l v=true↔∃i∈l,cS i v=true:=by unfold cZ;exact tv
theorem Ql{a b v:Nat}(h:Nat.beq (Nat.land a b) a=true)(al:a.testBit v=true):b.testBit v=true:=by
 have e:a&&&b=a:=ei h
 rw[<-e,qX,c6] at al
 exact al.2
def vz (i j:Nat):Bool:=Nat.beq (Nat.land (dk i) (dk j)) (dk i)
theorem Gx{i j v:Nat}(h:vz i j=true)(al:cS i v=true):cS j v=true:=Ql h al
noncomputable def Qm {α:Type} (f:α->Bool):Option α->Bool
 |some a=>f a
 |none=>true
def Qn (i:Nat):Bool:=Qm (λw=>vz i w&&(cN (ip w) (-1)&&cN (iY w) (-1))) (jL (ip i))
def Qo (i:Nat):Bool:=Qm (λt=>vz i t&&(cN (iY t) (-1)&&cN (ip t) (ip i))) (jL (iY i))
theorem ai7:(PS.all λi=>Qn i&&Qo i)=true:=by rfl'
theorem any_iEq{l:List Nat}{z:Int}:(l.any λj=>cN j z)=true↔∃j∈l,(j:Int)=z:=by
 rw[tv]
 exact⟨λ⟨j,h,e⟩=>⟨j,h,iEq_iff.mp e⟩,λ⟨j,h,e⟩=>⟨j,h,iEq_iff.mpr e⟩⟩
theorem stN_iff{l:List Nat}{i:Nat}:kR l i=true↔(∀j∈l,(j:Int)≠iY i)/\∀j∈l,(j:Int)≠ip i:=by
 unfold kR
 rw[c6,ki,ki,<-v7,<-v7,any_iEq,any_iEq]
 exact⟨λ⟨a,b⟩=>⟨λj h e=>a ⟨j,h,e⟩,λj h e=>b ⟨j,h,e⟩⟩,λ⟨a,b⟩=>⟨λ⟨j,h,e⟩=>a j h e,λ⟨j,h,e⟩=>b j h e⟩⟩
theorem ai8{l:List Nat}{i:Nat}(aa:iY i= -1)(ah:ip i= -1):kR l i=true:=stN_iff.mpr ⟨λj _ e=>(by rw [aa] at e;exact nomatch e),λj _ e=>by rw [ah] at e;exact nomatch e⟩
theorem ai9{l:List Nat}(ag:∀i∈l,i∈PS){v:Nat}:(∃i∈l.filter (kR l),cS i v=true)↔∃i∈l,cS i v=true:=by
 refine⟨λ⟨i,h,e⟩=>⟨i,(List.mem_filter.mp h).1,e⟩,λ⟨i,hi,e⟩=>?_⟩
 obtain⟨ut,Gy⟩:=aK (bl ai7 (ag i hi))
 unfold Qn at ut
 unfold Qo at Gy
 rcases eR (∃j∈l,(j:Int)=ip i) with cs|cs
 .obtain⟨w,cs,qn⟩:=cs
  rw[<-qn] at ut
  obtain⟨a,b⟩:=aK (show (vz i w&&(cN (ip w) (-1)&&cN (iY w) (-1)))=true from ut)
  obtain⟨b,c⟩:=aK b
  exact⟨w,List.mem_filter.mpr ⟨cs,ai8 (iEq_iff.mp c) (iEq_iff.mp b)⟩,Gx a e⟩
 rcases eR (∃j∈l,(j:Int)=iY i) with a1|a1
 .obtain⟨t,a1,aia⟩:=a1
  rw[<-aia] at Gy
  obtain⟨a,b⟩:=aK (show (vz i t&&(cN (iY t) (-1)&&cN (ip t) (ip i)))=true from Gy)
  obtain⟨b,c⟩:=aK b
  refine⟨t,List.mem_filter.mpr ⟨a1,stN_iff.mpr ⟨λj _ q=>?_,λj bt q=>cs ⟨j,bt,q.trans (iEq_iff.mp c)⟩⟩⟩,Gx a e⟩
  rw[iEq_iff.mp b] at q
  exact nomatch q
 .exact⟨i,List.mem_filter.mpr ⟨hi,stN_iff.mpr ⟨λj bt q=>a1 ⟨j,bt,q⟩,λj bt q=>cs ⟨j,bt,q⟩⟩⟩,e⟩
theorem addsN_mem:∀{m l:List Nat}{k:Nat},k∈m.foldl fe l↔k∈l\/k∈m
 |[],l,k=>by simp
 |i::m,l,k=>by
  rw[v9,addsN_mem,addN_mem,qZ]
  exact⟨λh=>h.elim (λh=>h.elim .inl λh=> .inr (.inl h)) λh=> .inr (.inr h),λh=>h.elim (λh=> .inl (.inl h)) λh=>h.elim (λh=> .inl (.inr h)) .inr⟩
theorem gotN_mem{ls:List (List Nat)}{k:Nat}:k∈eb ls↔∃l∈ls,k∈l:=by
 have:∀(ls:List (List Nat)) g,k∈ls.foldl (λg l=>l.foldl fe g) g↔k∈g\/∃l∈ls,k∈l:=λls=>by
  induction ls with
  |nil=>intro g;simp
  |cons l ls bb=>
   intro g
   rw[v9,bb,addsN_mem]
   constructor
   .rintro((h|h)|⟨cK,h,q⟩)
    .exact .inl h
    .exact .inr ⟨l,dV ..,h⟩
    .exact .inr ⟨cK,.tail _ h,q⟩
   .rintro(h|⟨cK,h,q⟩)
    .exact .inl (.inl h)
    .rcases List.mem_cons.mp h with rfl|h
     .exact .inl (.inr q)
     .exact .inr ⟨cK,h,q⟩
 unfold eb
 rw[this];simp
theorem sU{l:List Nat}{n:Nat}(h:dg l (n:Int)=true):n∈l:=by
 obtain⟨j,bt,e⟩:=any_iEq.mp h
 exact Int.ofNat.inj e▸bt
theorem aib{l:List Nat}(ag:∀i∈l,i∈PS)(h:dg l (14:Nat)=true){P:Prop}:P:=absurd (ag _ (sU h)) (by decide)
theorem Gz{l:List Nat}(ag:∀i∈l,i∈PS){k:Nat}(h:k∈g4 l):k∈l\/(k=8/\8∈l)\/(k=9/\(9∈l\/15∈l)):=by
 unfold g4 at h
 rcases q:(dg l 8||dg l 14)&&(dg l 9||dg l 15) with _|_<;>rw[q] at h
 .exact .inl h
 .obtain⟨bU,bZ⟩:=aK q
  rcases addN_mem.mp h with h|h
  .exact(addN_mem.mp h).imp id λe=> .inl ⟨e,((f9 ..).mp bU).elim sU λh=>aib ag h⟩
  .exact .inr (.inr ⟨h,((f9 ..).mp bZ).imp sU sU⟩)
theorem aic{l:List Nat}{k:Nat}(h:k∈l):k∈g4 l:=by
 unfold g4
 rcases(dg l 8||dg l 14)&&(dg l 9||dg l 15) with _|_
 .exact h
 .exact addN_mem.mpr (.inl (addN_mem.mpr (.inl h)))
theorem Qp{g:List Nat}(h:Pts g)(a1:eF g≠ -1):((eF g).toNat=0\/(eF g).toNat=1)/\(eF g).toNat∈g:=by
 unfold eF at a1 |-
 rw[PP h] at a1 |-
 rcases e7:dg g 0 with _|_<;>rw[e7] at a1
 .rcases e1:dg g 1 with _|_<;>rw[e1] at a1
  .exact absurd rfl a1
  .exact⟨.inr rfl,sU e1⟩
 .exact⟨.inl rfl,sU e7⟩
theorem vA{i v:Nat}(h:i=0\/i=1)(al:v<14):cS i v=true:=by
 have:(List.range 14).all (λv=>cS 0 v&&cS 1 v)=true:=by rfl'
 have:=bl this (List.mem_range.mpr al)
 rw[c6] at this
 rcases h with rfl|rfl
 .exact this.1
 .exact this.2
theorem aid{g u:List Nat}(bx:Pts g)(a7:eG g u){v:Nat}(al:v<14):cZ u v=true↔∃i∈g,cS i v=true:=by
 rw[HS_iff]
 rcases a7 with ⟨_,p⟩|⟨a1,rfl⟩
 .have e:(∃i∈u,cS i v=true)↔∃i∈m2 g,cS i v=true:=⟨λ⟨i,h,e⟩=>⟨i,p.mem_iff.mp h,e⟩,λ⟨i,h,e⟩=>⟨i,p.mem_iff.mpr h,e⟩⟩
  rw[e]
  unfold m2
  rw[ai9 bx.jn.sub]
  refine⟨λ⟨i,h,e⟩=>?_,λ⟨i,h,e⟩=>⟨i,aic h,e⟩⟩
  rcases Gz bx.sub h with h|⟨rfl,h'⟩|⟨rfl,h'|h'⟩
  .exact⟨i,h,e⟩
  .exact⟨8,h',e⟩
  .exact⟨9,h',e⟩
  .exact⟨15,h',Gx (i:=9) (by rfl') e⟩
 .obtain⟨a,b⟩:=Qp bx a1
  exact⟨λ_=>⟨_,b,vA a al⟩,λ_=>⟨_,List.mem_singleton.mpr rfl,vA a al⟩⟩
theorem aie{g u:List Nat}(bx:Pts g)(a7:eG g u){k:Nat}(h:k∈u):k∈g\/k=8\/k=9:=by
 rcases a7 with ⟨_,p⟩|⟨a1,rfl⟩
 .have h:=p.mem_iff.mp h
  unfold m2 at h
  rcases Gz bx.sub (List.mem_filter.mp h).1 with h|⟨rfl,h⟩|⟨rfl,h⟩
  .exact .inl h
  .exact .inr (.inl rfl)
  .exact .inr (.inr rfl)
 .rw[dG h]
  exact .inl (Qp bx a1).2
theorem vB{a3:List (List Nat)}{u:List Nat}(aq:∀r∈a3,Pts r)(a7:eG (eb a3) u){v:Nat}(al:v<14):cZ u v=true↔∃r∈a3,cZ r v=true:=by
 rw[aid (yD aq) a7 al]
 constructor
 .rintro⟨i,h,e⟩
  obtain⟨l,ag,q⟩:=gotN_mem.mp h
  exact⟨l,ag,HS_iff.mpr ⟨i,q,e⟩⟩
 .rintro⟨l,ag,q⟩
  obtain⟨i,h,e⟩:=HS_iff.mp q
  exact⟨i,gotN_mem.mpr ⟨l,ag,h⟩,e⟩
theorem GA{a3:List (List Nat)}{u:List Nat}(aq:∀r∈a3,Pts r)(a7:eG (eb a3) u){k:Nat}(h:k∈u):(∃r∈a3,k∈r)\/k=8\/k=9:=(aie (yD aq) a7 h).imp gotN_mem.mp id
theorem Pts.one{i:Nat}(h:i∈PS):Pts [i]:=⟨λj bt=>by rw [dG bt];exact h,by simp⟩
noncomputable def bF (i:Nat):V:=.int (i:Int)
def bV (L:List Nat):V:=.list (L.map bF)
noncomputable def R14:List Nat:=[0,1,2,3,4,5,6,7,8,9,10,11,12,13]
def cT (p:Nat->Bool):List Nat:=R14.filter p
def fw:V:=.dict ((.int 2,.list [])::kindsL.map λp=>(.int p.1,hV p.2))
def PS2:List Nat:=2::PS
theorem Qq{i:Nat}:∀{l:List Nat},i∈l->bY i l=true
 |j::l,h=>by
  unfold bY
  rcases List.mem_cons.mp h with rfl|h
  .rw[jF];rfl
  .rw[Qq h];cases Nat.beq j i<;>rfl
theorem memN_eq{i:Nat}{l:List Nat}:bY i l=true↔i∈l:=⟨hT,Qq⟩
theorem GB(H:T)(v:Nat):∀L:List Nat,H.mem (.int (v:Int)) (L.map bF)=some (bY v L)
 |[]=>rfl
 |j::L=>by
  have e:H.eq (bF j) (.int (v:Int))=some (Nat.beq j v):=rfl
  simp only[km,T.mem,e,bY,GB H v L]
  cases Nat.beq j v<;>rfl
theorem yU(H:T)(v:Nat)(L:List Nat):cX H .In (.int (v:Int)) (bV L)=some (bY v L):=GB H v L
theorem GC(H:T)(v:Nat)(L:List Nat):cX H .NotIn (.int (v:Int)) (bV L)=some (!bY v L):=by
 show (H.mem (.int (v:Int)) (L.map bF)).map (!·)=_
 rw[GB];rfl
theorem R14_mem{v:Nat}:v∈R14↔v<14:=by
 have:R14=List.range 14:=by decide
 rw[this,List.mem_range]
theorem fV_mem{p:Nat->Bool}{v:Nat}:v∈cT p↔v<14/\p v=true:=by
 unfold cT
 rw[List.mem_filter,R14_mem]
theorem ot(p:Nat->Bool):(cT p).length<=14:=v5 ..
theorem Qr{L:List Nat}(h:L.length<=4096):cz (L.map bF)=true:=i0 h
theorem aif(L:List Nat):(L.map bF).all V.flat=true:=by
 rw[i6]
 exact List.all_eq_true.mpr λ_ _=>rfl
theorem sV(n:Nat):∀{c:Cx}{J:am}{H:T}{x:Str}{p:Pos}{Q:V->T->Prop},a9 x "_law_all"=true->gy c x=true->Q (bV R14) H->WE (aN G0 (n+1) c J (.Name x p) H) Q:=λ{c J H x p Q} hx aj q=>by
 have e:=sEq_iff.mp hx
 subst e
 refine⟨bV R14,H,?_,q⟩
 have al:G0.val "_law_all"=some (bV R14):=by rfl'
 show cond (gy c _) (Mine.pt H (G0.val _)) _=_
 rw[aj,al];rfl
section
variable {G:Gl}{n:Nat}{c:Cx}{J:am}{H:T}{Q:V->T->Prop}{eE:List V->T->Prop}
theorem Qs{b s:Expr}{p:Pos}(h:WE (aN G n c J (.Subscript b s p) H) (KI eE)):WE (gA G (n+1) c J (.Subscript b s p) H) eE:=
 WE.ob (h.mono λ_ _ ⟨_,aJ,q⟩=>WE.pt aJ q)
theorem sW{b s:Expr}{r p q:Pos}{k:Const}{j:Nat}(h:WE (aN G n c J (.Subscript b s r) H) (Po (aN G n c J) Q (.Constant k j q))):WE (aN G (n+1) c J (.Subscript (.Subscript b s r) (.Constant k j q) p) H) Q:=
 WE.ob (h.mono λ_ _ h=>WE.ob (h.mono λ_ _ ⟨_,h,q⟩=>WE.pt h q))
end
section
variable {G:Gl}{n:Nat}{c:Cx}{J:am}{H:T}{Q:V->T->Prop}
theorem aig{B:List Nat}{m:Nat->V}(h:B.length<=4096)(p:Nat->Bool):cz ((B.filter p).map m)=true:=i0 (aT (v5 ..) h)
theorem yV{y x f:Str}{mU xp tp u3 cR fL:Pos}{ifs:List Expr}{sc:Scope}{B:List Nat}{m:Nat->V}{p:Nat->Bool}(Ek:B.length<=4096)(av:∀v,V.flat (m v)=true)(aY:a2 J y=some (.list (B.map m),false))(a1:∀v∈B,WE (FQ G (n+2) c J x sc ifs (m v) H) (Is (p v) H))(q:Q (.int ((B.filter p).length:Nat)) H)(a6:(a9 f dy&&fF c y&&lj x sc c.sc&&fF {c with sc:=sc} x&&gy c f)=true:=by rfl')(aj:lk c.sc.names f=some .globalImplicit:=by rfl')(bx:G.fn f=none:=by rfl')(aq:G.free f=true:=by rfl'):
  WE (b7 c J (aN G (n+4) c J) (.Call (.Name f cR) [.ListComp (.Name x xp) [⟨.Name x tp,.Name y mU,ifs,0⟩] sc u3] [] fL) H) Q:=by
 obtain⟨a6,_⟩:=aK a6
 obtain⟨a6,bC⟩:=aK a6
 obtain⟨a6,aC⟩:=aK a6
 obtain⟨aa,ah⟩:=aK a6
 have e:=sEq_iff.mp aa
 subst e
 have M:=kQ (test:=FQ G (n+2) c J x sc ifs) (elt:=FR G (n+2) c J x sc (.Name x xp)) (p:=p) (f:=m) (g:=m) a1 λv _=>sG (v:=m v) bC (by show cond (a9 x x) _ _=_;rw[sEq_iff.mpr rfl];rfl) ⟨rfl,rfl⟩
 have k:=aig (m:=m) Ek p
 refine cw (ef (az (j8 (d8 (ht (sG ah aY ⟨_,rfl,.of M ⟨?_,bj ⟨_,sH k,?_⟩⟩⟩)) aC))) aj bx aq (by rfl'))
 .exact(c6 _ _).mpr ⟨by rw [i6];exact List.all_eq_true.mpr λv _=>av v,k⟩
 .rw[eQ];exact q
end
theorem Qt{p:Nat->Bool}:∀{l:List Nat},e0 0 ((l.filter p).length:Nat)=l.any p
 |[]=>by rfl'
 |a::l=>by
  rw[qU,h1]
  rcases p a with _|_
  .exact Qt
  .rfl'
theorem GD{H:T}{p:Nat->Bool}{l:List Nat}:cX H .Gt (.int ((l.filter p).length:Nat)) (.int 0)=some (l.any p):=congrArg some Qt
theorem vC{p:Nat->Bool}:(((cT p).map bF).all V.flat&&cz ((cT p).map bF))=true:=(c6 _ _).mpr ⟨aif _,Qr (aT (ot _) (by decide))⟩
theorem aih(n:Nat)(D:List V)(c:Nat):(PS2.map λi=>bK G0 (n+100) (aE 161) [.tab,fw,ax i] (ar D c))=PS2.map λi=>some (bV (cT (cS i)),ar D c):=by rfl'
theorem yW{i:Nat}(hi:i∈PS2){m:Nat}(av:100<=m)(D:List V)(c:Nat):bK G0 m (aE 161) [.tab,fw,ax i] (ar D c)=some (bV (cT (cS i)),ar D c):=by
 obtain⟨n,rfl⟩:=c0 av
 exact bJ (aih n D c) hi
def vD (l:List Nat):V:=.tup [.int 6,.tup (l.map ax)]
theorem GF{i j:Nat}{r:List Nat}(D:List V)(c:Nat):(ar D c).rowOf (aH (i::j::r))=some (vD (i::j::r))/\cX (ar D c) .In (aH (i::j::r)) fw=some false:=by
 have e:aH (i::j::r)=match f0 (i::j::r) [8,9] with|true=> .int 12|false=> .ty (.tup [.int 6,.tup ((i::j::r).map ax)]):=rfl
 rw[e]
 unfold vD
 cases q:f0 (i::j::r) [8,9] with
 |true=>
  rw[lEq_iff.mp q]
  exact⟨by rfl',by rfl'⟩
 |false=>
  generalize (i::j::r).map ax=L
  exact⟨by rfl',by rfl'⟩
theorem Qu{p q:Nat->Bool}(h:∀v,v<14->p v=q v):cT p=cT q:=by
 unfold cT
 exact List.filter_congr λv al=>h v (R14_mem.mp al)
theorem aii(v:Nat):cS 2 v=cZ [] v:=by
 unfold cS
 rw[show dk 2=0 by decide,qW];rfl
theorem GG{l:List Nat}(ag:Pts l){m:Nat}(av:140<=m)(D:List V)(c:Nat):bK G0 m (aE 161) [.tab,fw,aH l] (ar D c)=some (bV (cT (cZ l)),ar D c):=by
 obtain⟨n,rfl⟩:=c0 av
 have kc:=ag.len
 match l,ag with
 |[],_=>exact(yW (i:=2) (by decide) (bH rfl) D c).trans (by rw [Qu (q:=cZ []) (λv _=>aii v)])
 |[i],ag=>exact(yW (i:=i) (.tail _ (ag.sub i (dV ..))) (bH rfl) D c).trans (by rw [Qu (q:=cZ [i]) (λv _=>by simp [cZ])])
 |i::j::r,ag=>
 obtain⟨Qv,sX⟩:=GF (i:=i) (j:=j) (r:=r) D c
 have yF:aH (i::j::r)=aH (i::j::r):=rfl
 generalize aH (i::j::r)=X at Qv sX |-
 refine WE.to ?_
 generalize i::j::r=l at*
 refine cc rfl ?_
 refine bO (b6 (vn (v:=X) (vn (v:=fw) ⟨_,sX,?_⟩)))
 refine bm ?_
 refine cB (qn (dE (v:=.tab) ⟨rfl,dE (v:=X) ⟨_,Qv,?_⟩⟩))
 refine bO (b6 (lX (yE (vn (v:=vD l) (.og (v:=.int 0) ⟨.int 6,rfl,.og (v:=.int 6) ⟨true,rfl,?_⟩⟩)))))
 refine cB (d8 (Qs (yE (vn (v:=vD l) (.og (v:=.int 1) ⟨.tup (l.map ax),rfl,_,rfl,?_⟩)))))
 refine .of (sQ (g:=λi=>bV (cT (cS i))) (λi hi=>dc ⟨rfl,rfl⟩) λi hi=>?_) ⟨?_,?_⟩
 .exact bo (fn:=aE 161) (az (vn (v:=.tab) (az (vn (v:=fw) (az (vn (v:=ax i) (bj (.of (yW (.tail _ (ag.sub i hi)) (bH rfl) D c) ⟨cr rfl,rfl,rfl⟩))))))))
 .exact(c6 _ _).mpr ⟨by rw [i6];exact List.all_eq_true.mpr λ_ _=>rfl,i0 (aT kc (by decide))⟩
 refine ck (j8 (d8 (ht (sV _ (by rfl') (by rfl') ⟨_,rfl,.of (kQ (p:=cZ l) (g:=bF) (λv al=>?_) λv al=>dE ⟨rfl,rfl⟩) ⟨vC,rfl,rfl⟩⟩))))
 refine dD (b6 (yV (B:=l) (m:=λi=>bV (cT (cS i))) (p:=λi=>cS i v) (aT kc (by decide)) (λ_=>rfl) (by rfl') (λi hi=>?_) (.og (v:=.int 0) ⟨cZ l v,GD,?_⟩)))
 .refine dD (b6 (vn (v:=bF v) (vn (v:=bV (cT (cS i))) ⟨_,yU _ v _,?_⟩)))
  have e:bY v (cT (cS i))=cS i v:=by
   rw[i5,memN_eq,fV_mem]
   exact⟨λh=>h.2,λh=>⟨R14_mem.mp al,h⟩⟩
  rw[e]
  rcases cS i v with _|_
  .exact⟨rfl,rfl⟩
  .exact dc ⟨rfl,rfl⟩
 .rcases cZ l v with _|_
  .exact⟨rfl,rfl⟩
  .exact dc ⟨rfl,rfl⟩
def g5 (dl may:List Nat) (i:Nat):Bool:=Nat.blt 30 i||bY i dl||(R14.any λv=>cS i v&&bY v may)
structure Good (l u sure may dl:List Nat):Prop where
 keep:∀v,v<14->cZ l v=true->bY v sure=true->cZ u v=true
 only:∀v,v<14->cZ u v=true->∃i∈l,g5 dl may i=true/\cS i v=true
section
variable {G:Gl}{n:Nat}{c:Cx}{J:am}{H:T}{Q:V->T->Prop}{eD:Bool->T->Prop}
theorem Qw{es:List Expr}{p:Pos}(h:WE (dz (aN G n c J) es H) (Ph Q)):WE (aN G (n+1) c J (.List es p) H) Q:=
 WE.ob (h.mono λ_ _ h=>WE.ow h.1 (.of rfl h.2))
theorem eX{l r:Expr}{op:Operator}{p:Pos}(h:WE (b7 c J (aN G n c J) l H) (ag4 c J (aN G n c J) Q op r)):WE (aN G (n+1) c J (.BinOp l op r p) H) Q:=
 WE.ob (h.mono λ_ _ h=>WE.ob (h.mono λ_ _ h=>let ⟨_,h,q⟩:=h;WE.pt h q))
theorem Qx{α bR:Type}{turn:V->am->T->Option (Fl×am×T)}{f:α->V}{I:List α->bR->am->T->Prop}{st:bR->α->bR}(a1:∀a l b J H,I (a::l) b J H->WS (turn (f a) J H) (f6 (I l (st b a)))):
  ∀(l:List α) b J H,I l b J H->WS (je turn (l.map f) J H) (f6 (I [] (l.foldl st b)))
 |[],b,J,H,h=>oo ⟨rfl,h⟩
 |a::l,b,J,H,h=>by
  obtain⟨bw,bg,O,e,e1,h'⟩:=a1 a l b J H h
  rw[e1] at e
  exact cJ ⟨_,_,_,e,Qx a1 l _ bg O h'⟩
end
noncomputable def dlL:List (List Nat):=[[],[16,28,29]]
theorem aij(D:List V)(c:Nat):(PS2.map λi=>cX (ar D c) .NotIn (ax i) fw)=PS2.map λi=>some (Nat.blt 30 i):=by rfl'
theorem aik(D:List V)(c:Nat):(dlL.map λd=>PS2.map λi=>cX (ar D c) .In (ax i) (bV d))=dlL.map λd=>PS2.map λi=>some (bY i d):=by rfl'
theorem ail(D:List V)(c:Nat):(PS2.map λi=>((ar D c).rowOf (ax i)).bind λr=>(fE (ar D c) r (.int 0)).bind λk=>cX (ar D c) .Eq k (.int 6))=PS2.map λ_=>some false:=by rfl'
def jz (dl may:List Nat) (b:List Nat) (i:Nat):List Nat:=b++cond (g5 dl may i) (cT (cS i)) []
theorem aim{dl may b:List Nat}{i v:Nat}:v∈jz dl may b i↔v∈b\/(g5 dl may i=true/\v<14/\cS i v=true):=by
 unfold jz
 rw[zS]
 refine or_congr q0 ?_
 rcases g5 dl may i with _|_
 .exact⟨(λh=>nomatch h),λh=>c2 h.1⟩
 .exact fV_mem.trans ⟨λh=>⟨rfl,h⟩,λh=>h.2⟩
theorem stO_mem{dl may:List Nat}{v:Nat}:∀{l b:List Nat},v∈l.foldl (jz dl may) b↔v∈b\/∃i∈l,g5 dl may i=true/\v<14/\cS i v=true
 |[],b=>⟨.inl,λh=>h.elim id λ⟨_,h,_⟩=>nomatch h⟩
 |i::l,b=>by
  rw[v9,stO_mem,aim,or_assoc]
  refine or_congr q0 ⟨λh=>h.elim (λh=>⟨i,.head _,h⟩) λ⟨j,bt,h⟩=>⟨j,.tail _ bt,h⟩,λ⟨j,bt,h⟩=>(List.mem_cons.mp bt).elim (λe=> .inl (e▸h)) λbt=> .inr ⟨j,bt,h⟩⟩
theorem ain(dl may b:List Nat)(i:Nat):(jz dl may b i).length<=b.length+14:=by
 unfold jz
 rw[d5]
 cases g5 dl may i
 .exact dh (iB _) _
 .exact dh (ot _) _
theorem GH{a b:List Nat}(h:(a++b).length<=4096):kr .Add (bV a) (bV b)=some (bV (a++b)):=by
 have h':=Qr h
 show ow (cz (a.map bF++b.map bF)) (some (V.list (a.map bF++b.map bF)))=some (V.list ((a++b).map bF))
 rw[<-nj,h'];rfl
noncomputable def m6 (l:List Nat):List Nat:=match l with
 |[]=>[2]
 |l=>l
def GI:=an "book"
def GJ:=an "dull"
def GK:=an "may"
def GL:=an "got"
def aio:=an "open_ones"
def ao6:=an "mine"
def yX (B a7 dl may:List Nat):am:=[bE cF .tab,bE GI fw,bE GJ (bV dl),bE GK (bV may),bE GL (bV a7),bE aio (bV B)]
theorem Qy{l:List Nat}(ag:Pts l)(D:List V)(c:Nat):∃row k,(ar D c).rowOf (aH l)=some row/\fE (ar D c) row (.int 0)=some k/\cX (ar D c) .Eq k (.int 6)=some (Nat.ble 2 l.length):=by
 have one:∀i∈PS2,∃row k,(ar D c).rowOf (ax i)=some row/\fE (ar D c) row (.int 0)=some k/\cX (ar D c) .Eq k (.int 6)=some false:=λi hi=>by
  have h:=bJ (ail D c) hi
  obtain⟨r,e1,h⟩:=oQ h
  obtain⟨k,e2,h⟩:=oQ h
  exact⟨r,k,e1,e2,h⟩
 match l,ag with
 |[],_=>exact one 2 (by decide)
 |[i],ag=>exact one i (.tail _ (ag.sub i (dV ..)))
 |i::j::r,_=>exact⟨_,.int 6,(GF D c).1,rfl,rfl⟩
theorem aip{p q:Nat->Bool}:(cT p).any q=R14.any λv=>p v&&q v:=by
 unfold cT
 rw[List.any_filter]
theorem aiq{l:List Nat}(ag:Pts l):(∀i∈m6 l,i∈PS2)/\(m6 l).length<=34/\∀i∈l,i∈m6 l:=by
 match l,ag with
 |[],_=>exact⟨by decide,by decide,λ_ h=>nomatch h⟩
 |a::r,ag=>exact⟨λi hi=> .tail _ (ag.sub i hi),ag.len,λ_ h=>h⟩
structure RI (a7 dl may:List Nat) (D:List V) (c:Nat) (r b:List Nat) (J:am) (O:T):Prop where
 fr:Has J (yX b a7 dl may)
 len:b.length+14*r.length<=4096
 mem:∀i∈r,i∈PS2
 st:O=ar D c
theorem RI.next{a7 dl may:List Nat}{D:List V}{c i:Nat}{r b:List Nat}{J bg:am}{O:T}(h:RI a7 dl may D c (i::r) b J O)(U:Has bg (yX (jz dl may b i) a7 dl may)):RI a7 dl may D c r (jz dl may b i) bg (ar D c):=
 ⟨U,by have:=h.len;have:=ain dl may b i;rw[kk] at*;lia,λj bt=>h.mem j (.tail _ bt),rfl⟩
theorem RI.room{a7 dl may:List Nat}{D:List V}{c i:Nat}{r b:List Nat}{J:am}{O:T}(h:RI a7 dl may D c (i::r) b J O):(b++cT (cS i)).length<=4096:=by
 have:=h.len
 have:=ot (cS i)
 rw[kk] at*
 rw[d5]
 lia
theorem air{dl may a7 b:List Nat}(aQ:dl∈dlL){n:Nat}{D:List V}{c i:Nat}(hi:i∈PS2){J:am}(U:Has J (cb (cb (yX b a7 dl may) "part" (ax i) false) "mine" (bV (cT (cS i))) false)):
  WE (dR G0 (n+8) (eP 164) J (qp ((lY ((aE 164).bd.drop 6)).drop 1)) (ar D c)) (Is (g5 dl may i) (ar D c)):=by
 refine fN (fp (b6 (aM U (v:=ax i) (aM U (v:=fw) ⟨_,bJ (aij D c) hi,?_⟩))))
 unfold g5
 rcases Nat.blt 30 i with _|_
 rotate_left
 .exact⟨rfl,rfl⟩
 refine fp (b6 (aM U (v:=ax i) (aM U (v:=bV dl) ⟨_,bJ (bJ (aik D c) aQ) hi,?_⟩)))
 rcases bY i dl with _|_
 rotate_left
 .exact⟨rfl,rfl⟩
 refine fp (b6 (yV (m:=bF) (p:=λv=>bY v may) (aT (ot (cS i)) (by decide)) (λ_=>rfl) U.g (λv _=>?_) (.og (v:=.int 0) ⟨_,GD,?_⟩)))
 .have U:=U.push (x:="v") (s:=(bF v,false))
  refine dD (b6 (aM U (v:=bF v) (aM U (v:=bV may) ⟨_,yU _ v _,?_⟩)))
  rcases bY v may with _|_
  .exact⟨rfl,rfl⟩
  .exact dc ⟨rfl,rfl⟩
 .rw[aip]
  rcases R14.any λv=>cS i v&&bY v may with _|_
  .exact dc ⟨rfl,rfl⟩
  .exact⟨rfl,rfl⟩
theorem ais{dl may a7:List Nat}(aQ:dl∈dlL){n:Nat}{D:List V}{c i:Nat}{r b:List Nat}{J:am}{H:T}(h:RI a7 dl may D c (i::r) b J H):
  WS (om G0 (n+110) (eP 164) (sJ ((aE 164).bd.drop 6)) (lY ((aE 164).bd.drop 6)) (ax i) J H) (f6 (RI a7 dl may D c r (jz dl may b i))):=by
 rw[h.st]
 have hi:=h.mem i (dV ..)
 refine ka h.fr λJ U=>cH U (bo (fn:=aE 161) (az (aM U (v:=.tab) (az (aM U (v:=fw) (az (aM U (v:=ax i) (bj (.of (yW hi (bH rfl) D c) ⟨cW U,λJ U=>?_⟩)))))))))
 refine bO (WE.is (air aQ hi U) ?_)
 have es:jz dl may b i=b++cond (g5 dl may i) (cT (cS i)) []:=rfl
 have next:∀{bg},_->RI a7 dl may D c r (jz dl may b i) bg _:=h.next
 rw[es] at next |-
 generalize g5 dl may i=t at next |-
 rcases t with _|_
 .exact bm (bm ⟨rfl,next (by rw [cond_false,eh];exact U.sub)⟩)
 .exact cH U (eX (aM U (v:=bV b) (aM U (v:=bV (cT (cS i))) ⟨_,GH h.room,λJ U=>bm (bm ⟨rfl,next U.sub⟩)⟩)))
section
variable {l u sure may dl:List Nat}{n:Nat}{D:List V}{c:Nat}{J:am}
theorem Qz{p:Nat->Bool}:(cT p).length<=4096:=aT (ot _) (by decide)
theorem ait(GN:∀i∈l,i∈m6 l)(g:Good l u sure may dl)(U:Has J (yX ((m6 l).foldl (jz dl may) []) (cT (cZ u)) dl may)):WS (bv G0 (n+20) (eP 164) J ((aE 164).bd.drop 7) (ar D c)) (jw (Is (.bool true) (ar D c))):=by
 refine ck (PD (iX (yV (B:=cT (cZ u)) (m:=bF) (p:=λ_=>false) Qz (λ_=>rfl) U.g (λv al=>?_) (.og (v:=.int 0) ⟨true,?_,rfl,rfl⟩))))
 .have fK:=fV_mem.mp al
  have U:=U.push (x:="v") (s:=(bF v,false))
  refine dD (b6 (aM U (v:=bF v) (aM U (v:=bV ((m6 l).foldl (jz dl may) [])) ⟨_,GC _ v _,?_⟩)))
  obtain⟨i,hi,a,b⟩:=g.only v fK.1 fK.2
  rw[memN_eq.mpr (stO_mem.mpr (.inr ⟨i,GN i hi,a,fK.1,b⟩))]
  exact⟨rfl,rfl⟩
 .rw[List.filter_eq_nil_iff.mpr (λ_ _=>Bool.false_ne_true)];rfl
theorem aiu(ag:Pts l)(aQ:dl∈dlL)(g:Good l u sure may dl){P:V}(qj:hd P=some ((m6 l).map ax))(U:Has J [bE cF .tab,bE GI fw,bE GJ (bV dl),bE GK (bV may),bE GL (bV (cT (cZ u))),bE "parts" P]):WS (bv G0 (n+130) (eP 164) J ((aE 164).bd.drop 5) (ar D c)) (jw (Is (.bool true) (ar D c))):=by
 refine cH U (.og (v:=.list []) λJ U=>?_)
 obtain⟨im,GN,aiv⟩:=aiq ag
 refine il (ht (dt U (v:=P) ⟨_,qj,?_⟩))
 refine(Qx (I:=RI (cT (cZ u)) dl may D c) (st:=jz dl may) (λ_ _ _ _ _ h=>ais aQ h) (m6 l) [] _ _ ⟨U.sub,aT (dh (oL 14 GN) 0) (by decide),im,rfl⟩).mono ?_
 rintro f J O ⟨e,U,_,_,e2⟩
 rw[e,e2]
 exact ait aiv g U
theorem aiw(ag:Pts l)(aQ:dl∈dlL)(g:Good l u sure may dl)(U:Has J [bE cF .tab,bE GI fw,bE GJ (bV dl),bE GK (bV may),bE "before" (aH l),bE GL (bV (cT (cZ u)))]):WS (bv G0 (n+132) (eP 164) J ((aE 164).bd.drop 3) (ar D c)) (jw (Is (.bool true) (ar D c))):=by
 refine cH U (Qw (az (dt U (v:=aH l) (bj ⟨by rw [oO,vu];rfl,λJ U=>?_⟩))))
 obtain⟨row,k,aa,ah,aC⟩:=Qy ag D c
 refine bO (b6 (lX (sW (qn (dt U (v:=.tab) ⟨rfl,dt U (v:=aH l) ⟨_,aa,.og (v:=.int 0) ⟨_,ah,.og (v:=.int 6) ⟨_,aC,?_⟩⟩⟩⟩)))))
 have pA:=λ{J:am} {P:V} (qj:hd P=some ((m6 l).map ax))=>aiu (J:=J) (n:=n) (D:=D) (c:=c) ag aQ g qj
 rcases l with _|⟨i,_|⟨j,r⟩⟩
 .exact bm (pA (P:=.list [ax 2]) rfl U.sub)
 .exact bm (pA (P:=.list [ax i]) rfl U.sub)
 .have aJ:fE (ar D c) (vD (i::j::r)) (.int 1)=some (.tup ((i::j::r).map ax)):=rfl
  exact cH U (sW (qn (dt U (v:=.tab) ⟨rfl,dt U (v:=aH (i::j::r)) ⟨_,(GF D c).1,.og (v:=.int 1) ⟨_,aJ,λJ U=>bm (pA (P:=.tup ((i::j::r).map ax)) rfl U.sub)⟩⟩⟩)))
end
theorem QA{l u sure may dl:List Nat}(ag:Pts l)(bG:Pts u)(aQ:dl∈dlL)(g:Good l u sure may dl){m:Nat}(av:180<=m)(D:List V)(c:Nat):
  bK G0 m (aE 164) [.tab,fw,bV dl,aH l,aH u,bV sure,bV may] (ar D c)=some (.bool true,ar D c):=by
 obtain⟨n,rfl⟩:=c0 av
 refine WE.to ?_
 refine cc rfl ?_
 refine cB (bo (fn:=aE 161) (az (vn (v:=.tab) (az (vn (v:=fw) (az (vn (v:=aH l) (bj (.of (GG ag (bH rfl) D c) ⟨cr rfl,?_⟩)))))))))
 refine cB (bo (fn:=aE 161) (az (vn (v:=.tab) (az (vn (v:=fw) (az (vn (v:=aH u) (bj (.of (GG bG (bH rfl) D c) ⟨cr rfl,?_⟩)))))))))
 refine bO (b6 (yV (B:=cT (cZ l)) (m:=bF) (p:=λ_=>false) Qz (λ_=>rfl) (by rfl') (λv al=>?_) (.og (v:=.int 0) ⟨_,GD,?_⟩)))
 .have fK:=fV_mem.mp al
  refine dD (fN (dD (b6 (vn (v:=bF v) (vn (v:=bV sure) ⟨_,yU _ v _,?_⟩)))))
  rcases e:bY v sure with _|_
  .exact⟨rfl,rfl⟩
  .refine dD (b6 (vn (v:=bF v) (vn (v:=bV (cT (cZ u))) ⟨_,GC _ v _,?_⟩)))
   rw[memN_eq.mpr (fV_mem.mpr ⟨fK.1,g.keep v fK.1 fK.2 e⟩)]
   exact⟨rfl,rfl⟩
 rw[show (cT (cZ l)).any (λ_=>false)=false from List.any_eq_false.mpr λ_ _=>Bool.false_ne_true]
 exact bm (aiw ag aQ g (Has.sub .rfl))
section
variable {G:Gl}{n:Nat}{c:Cx}{J:am}{H:T}{Q:V->T->Prop}{eD:Bool->T->Prop}{b0:Fl->am->T->Prop}{eE:List V->T->Prop}
abbrev aix (G:Gl) (n:Nat) (c:Cx) (L:am) (b0:Fl->am->T->Prop) (x:Str) (l:List V) (r:List Stmt) (v:V) (H:T):Prop:=(v.flat&&cz l)=true/\∀J,Has J (cb L x (.list (l++[v])) true)->WS (bv G n c J r H) b0
theorem sY{L:am}(U:Has J L){x m:Str}{p mp q ca:Pos}{a:Expr}{r:List Stmt}{l:List V}(h:WE (aN G n c J a H) (aix G n c L b0 x l r))(aq:a2 L x=some (.list l,true):=by rfl')(ag:d6 c x=true:=by rfl')(av:(a9 m jd&&mp.endLine==q.line)=true:=by rfl'):
  WS (bv G (n+1) c J (.Expr (.Call (.Attribute (.Name x p) m mp) [a] [] q) ca::r) H) b0:=by
 obtain⟨aa,ah⟩:=aK av
 show WS (wH c J (aN G n c J) (λJ H=>bv G n c J r H) x m a (.Call (.Attribute (.Name x p) m mp) [a] [] q) (mp.endLine==q.line) H (pc J x)) b0
 rw[agu (U.g aq)]
 refine WS.ow (by rw [ag,ah];rfl) ?_
 rw[aa]
 exact WE.obS (h.mono λ_ _ k=>WS.ow k.1 (k.2 _ U.upd))
theorem vE{α:Type}{turn:V->am->T->Option (Fl×am×T)}{f:α->V}{I:List α->List α->am->T->Prop}(a1:∀d a l J H,I d (a::l) J H->WS (turn (f a) J H) (f6 (I (d++[a]) l))):
  ∀(l d:List α) J H,I d l J H->WS (je turn (l.map f) J H) (f6 (I (d++l) []))
 |[],d,J,H,h=>oo ⟨rfl,by rw [eh];exact h⟩
 |a::l,d,J,H,h=>by
  obtain⟨bw,bg,O,e,e1,h'⟩:=a1 d a l J H h
  rw[e1] at e
  have:=vE a1 l (d++[a]) bg O h'
  rw[iA,List.singleton_append] at this
  exact cJ ⟨_,_,_,e,this⟩
theorem QB{t b o:Expr}{p:Pos}(h:WE (dR G n c J t H) (ag5 (aN G n c J) Q b o)):WE (aN G (n+1) c J (.IfExp t b o p) H) Q:=WE.ob h
theorem aiy{f:Expr->T->Option (V×T)}{a b d p}(h:WE (f (.IfExp a b d p) H) Q):WE (b7 c J f (.IfExp a b d p) H) Q:=h
theorem QC{f:Expr->T->Option (V×T)}{a b d}(h:WE (f (.Tuple a b d) H) Q):WE (b7 c J f (.Tuple a b d) H) Q:=h
end
def QD(b:Bool)(k:Nat)(x:Bool)(O:T):Prop:=x=b/\∃D c,O=ar D c/\c<=k
theorem QE{test:V->T->Option (Bool×T)}{elt:V->T->Option (V×T)}{f g:Nat->V}{p:Nat->Bool}{k:Nat}:∀{l:List Nat},(∀i∈l,∀D c,WE (test (f i) (ar D c)) (QD (p i) (c+k)))->
  (∀i∈l,∀D c,WE (elt (f i) (ar D c)) (Is (g i) (ar D c)))->∀D c,∃a0 aP,gR test elt (l.map f) (ar D c)=some ((l.filter p).map g,ar a0 aP)/\aP<=c+k*l.length
 |[],_,_,D,c=>⟨D,c,rfl,eZ ..⟩
 |i::l,aa,ah,D,c=>by
  obtain⟨_,_,a,e1,fq,eW,e2,l₁⟩:=aa i (dV ..) D c
  obtain⟨_,_,b,e3,eN⟩:=ah i (dV ..) fq eW
  obtain⟨eO,eH,e,l₂⟩:=QE (l:=l) (λj bt=>aa j (.tail _ bt)) (λj bt=>ah j (.tail _ bt)) fq eW
  rw[e1,e2] at a
  rw[e3,eN] at b
  refine⟨eO,eH,(m0 a).trans ?_,by rw [kk,z2];lia⟩
  rw[qU]
  rcases p i with _|_
  .exact e
  .exact(m0 b).trans ((m0 e).trans rfl)
structure Same (h r:List Nat):Prop where
 dF:Pts r
 held:∀v,v<14->cZ r v=cZ h v
 sub:∀k∈r,k∈h\/k=8\/k=9
 Ic:1∈r->r=[1]
theorem QF{g u:List Nat}(bx:Pts g)(a7:eG g u)(h:1∈u):u=[1]:=by
 rcases a7 with ⟨a1,p⟩|⟨a1,rfl⟩
 .exfalso
  have h:=p.mem_iff.mp h
  unfold m2 at h
  rcases Gz bx.sub (List.mem_filter.mp h).1 with h|⟨q,_⟩|⟨q,_⟩
  .have aa:dg g 1=true:=any_iEq.mpr ⟨1,h,rfl⟩
   unfold eF at a1
   rw[aa] at a1
   cases e7:dg g 0<;>cases aiz:dg g 13<;>rw[e7,aiz] at a1<;>exact absurd a1 (by decide)
  .cases q
  .cases q
 .rw[dG h]
theorem yY{h:List Nat}(hh:Pts h):∀r∈h.map (λi=>[i]),Pts r:=λr aq=>by
 obtain⟨i,hi,rfl⟩:=List.mem_map.mp aq
 exact .one (hh.sub i hi)
theorem aiA{h r:List Nat}(hh:Pts h)(m4:Pts r)(a7:eG (eb (h.map λi=>[i])) r):Same h r:=by
 refine⟨m4,λv al=>?_,λk aj=>?_,QF (yD (yY hh)) a7⟩
 .rw[i5,vB (yY hh) a7 al,HS_iff]
  constructor
  .rintro⟨_,aq,q⟩
   obtain⟨i,hi,rfl⟩:=List.mem_map.mp aq
   obtain⟨j,bt,q⟩:=HS_iff.mp q
   rw[dG bt] at q
   exact⟨i,hi,q⟩
  .rintro⟨i,hi,q⟩
   exact⟨[i],List.mem_map.mpr ⟨i,hi,rfl⟩,HS_iff.mpr ⟨i,List.mem_singleton.mpr rfl,q⟩⟩
 .rcases GA (yY hh) a7 aj with ⟨_,aq,q⟩|q
  .obtain⟨i,hi,rfl⟩:=List.mem_map.mp aq
   rw[dG q];exact .inl hi
  .exact .inr q
theorem yZ{h:List Nat}(hh:Pts h){X:V}(yF:hd X=some (h.map ax)){m:Nat}(av:80<=m)(D:List V)(c:Nat):
  ∃r a0 aP,bK G0 m (aE 67) [.tab,X] (ar D c)=some (aH r,ar a0 aP)/\aP<=c+1/\Same h r:=by
 obtain⟨r,a0,aP,e,ap,m4,a7⟩:=m3 (yY hh) (by rw [yF,Gd]) av D c
 exact⟨r,a0,aP,e,ap,aiA hh m4 a7⟩
def GO (i:Nat):V:=match vt i with
 | .tup (x::_)=>x
 |_=> .none
noncomputable def qt (i:Nat):Bool:=Nat.beq i 6||Nat.beq i 7
theorem aiB(n:Nat)(D:List V)(c:Nat):(PS.map λi=>bK G0 (n+30) (aE 56) [.tab,ax i] (ar D c))=PS.map λi=>some (GO i,ar D c):=by rfl'
theorem aiC(D:List V)(c:Nat):(PS.map λi=>cX (ar D c) .Eq (GO i) (.int 18))=PS.map λ_=>some false:=by rfl'
theorem aiD(D:List V)(c:Nat):(PS.map λi=>cX (ar D c) .In (ax i) (.tup [.int 6,.int 7]))=PS.map λi=>some (qt i):=by rfl'
theorem aiE{i:Nat}(hi:i∈PS){m:Nat}(av:30<=m)(D:List V)(c:Nat):bK G0 m (aE 56) [.tab,ax i] (ar D c)=some (GO i,ar D c):=by
 obtain⟨n,rfl⟩:=c0 av
 exact bJ (aiB n D c) hi
theorem aiF(D:List V)(c:Nat):(PS.map λi=>cX (ar D c) .NotEq (f7 i) (.tup []))=PS.map λi=>some (!fv i):=by rfl'
theorem ao7{h:List Nat}(hh:Pts h):(V.list (h.map ax)).flat=true:=rfl
def QG(i:Nat)(h r:List Nat):Prop:=r=[i]\/(qt i=true/\(∀q∈h,Nat.beq (bB q) (bB i)=true/\fv q=false)/\Same h r)
def QH (i:Nat) (h:List Nat):am:=[bE cF .tab,bE "part" (ax i),bE "hits" (.list (h.map ax)),bE "fam" (.int (bB i))]
theorem aiG{n:Nat}{D:List V}{c i:Nat}{h:List Nat}{J:am}(hh:Pts h)(bi:Nat.beq (bB i) 0=true->h.all eu=false)(U:Has J (QH i h)):WS (bv G0 (n+100) (eP 129) J ((aE 129).bd.drop 2) (ar D c)) (jw (UQ (c+1) (QG i h))):=by
 refine bO (WE.is (a:=false) (s:=ar D c) ?_ (bm (ck (aM U (v:=ax i) ⟨[i],D,c,rfl,rfl,cG c,.inl rfl⟩))))
 refine fN (dD (b6 (aM U (v:=.int (bB i)) (.og (v:=.int 0) ⟨_,i1 _ _ 0,?_⟩))))
 generalize Nat.beq (bB i) 0=b at bi
 rcases b with _|_
 .exact⟨rfl,rfl⟩
 refine dD (iq (sR (sP _ eu (aT hh.len (by decide))) (aT hh.len (by decide)) (ht (dt U (v:=.list (h.map ax)) ⟨_,rfl,rfl,rfl⟩)) (λq aO=>?_) ⟨_,rfl,?_⟩))
 .have U:=U.push (x:="hit") (s:=(ax q,false))
  refine iX (cw (bo (fn:=aE 75) (az (aM U (v:=.tab) (az (aM U (v:=ax q) (bj (.of (kV (hh.sub q aO) (bH rfl) D c) ⟨cW U,?_⟩))))))))
  exact .og (v:=.tup [.int 4,.int 5,.int 6]) ⟨_,bJ (Gi D c) (hh.sub q aO),rfl,rfl⟩
 .rw[bi rfl];exact⟨rfl,rfl⟩
theorem QI{i:Nat}(hi:i∈PS){h:List Nat}(hh:Pts h)(bi:Nat.beq (bB i) 0=true->h.all eu=false){m:Nat}(av:130<=m)(D:List V)(c:Nat):
  ∃r a0 aP,bK G0 m (aE 129) [.tab,ax i,.list (h.map ax)] (ar D c)=some (aH r,ar a0 aP)/\aP<=c+1/\QG i h r:=by
 obtain⟨n,rfl⟩:=c0 av
 refine UQ.to ?_
 refine cc rfl ?_
 refine cH .rfl (bo (fn:=aE 75) (az (vn (v:=.tab) (az (vn (v:=ax i) (bj (.of (kV hi (bH rfl) D c) ⟨cr rfl,λJ U=>?_⟩)))))))
 replace U:Has J (QH i h):=U.sub
 have QJ:=λ{n:Nat}=>aiG (n:=n) (D:=D) (c:=c) hh bi U
 refine bO (WE.is (a:=qt i) (s:=ar D c) ?_ ?_)
 .refine fN (fp (b6 (aM U (v:=ax i) (.og (v:=.tup [.int 6,.int 7]) ⟨_,bJ (aiD D c) hi,?_⟩))))
  rcases qt i with _|_
  .refine fp (b6 (cw (bo (fn:=aE 56) (az (aM U (v:=.tab) (az (aM U (v:=ax i) (bj (.of (aiE hi (bH rfl) D c) ⟨cW U,?_⟩)))))))))
   exact .og (v:=.int 18) ⟨_,bJ (aiC D c) hi,dc ⟨rfl,rfl⟩⟩
  .exact⟨rfl,rfl⟩
 rcases es:qt i with _|_
 .exact bm QJ
 refine bO (iq (sR (sP _ (λq=>Nat.beq (bB q) (bB i)&& !fv q) (aT hh.len (by decide))) (aT hh.len (by decide)) (ht (dt U (v:=.list (h.map ax)) ⟨_,rfl,rfl,rfl⟩)) (λq aO=>?_) ⟨_,rfl,?_⟩))
 .have U:=U.push (x:="hit") (s:=(ax q,false))
  refine vy (iX (cw (bo (fn:=aE 75) (az (aM U (v:=.tab) (az (aM U (v:=ax q) (bj (.of (kV (hh.sub q aO) (bH rfl) D c) ⟨cW U,?_⟩)))))))))
  refine aM U (v:=.int (bB i)) ⟨_,i1 _ _ (bB i),_,rfl,?_⟩
  rcases Nat.beq (bB q) (bB i) with _|_
  .exact⟨rfl,rfl⟩
  .refine iX (cw (bo (fn:=aE 126) (az (aM U (v:=.tab) (az (aM U (v:=ax q) (bj (.of (vx (hh.sub q aO) (bH rfl) D c) ⟨cW U,?_⟩))))))))
   exact .og (v:=.tup []) ⟨_,bJ (aiF D c) (hh.sub q aO),rfl,rfl⟩
 rcases fM:h.all λq=>Nat.beq (bB q) (bB i)&& !fv q with _|_
 .exact bm (bm QJ)
 .obtain⟨r,a0,aP,e,ap,S⟩:=yZ hh (X:=.list (h.map ax)) rfl (m:=n+124) (bH rfl) D c
  refine ck (cw (bo (fn:=aE 67) (az (aM U (v:=.tab) (az (aM U (v:=.list (h.map ax)) (bj (.of e ⟨cW U,r,a0,aP,rfl,rfl,ap,.inr ⟨es,λq aO=>?_,S⟩⟩))))))))
  have k:=aK (List.all_eq_true.mp fM q aO)
  exact⟨k.1,(ki _).mp k.2⟩
def PSp:List Nat:=PS.filter λi=>yS (bB i)&&Nat.blt i 31
noncomputable def zL:List Int:=[0,1,2,13]
theorem aiH(n:Nat)(D:List V)(c:Nat):(PSp.map λi=>bK G0 (n+100) (aE 95) [.tab,ax 11,ax i] (ar D c))=PSp.map λi=>some (ax i,ar D c):=by rfl'
theorem aiI(D:List V)(c:Nat):(PSp.map λi=>cX (ar D c) .NotEq (ax i) (.int 2))=PSp.map λ_=>some true:=by rfl'
theorem aiJ(D:List V)(c:Nat):(zL.map λz=>PSp.map λi=>(ar D c).eq (ax i) (.int z))=zL.map λ_=>PSp.map λ_=>some false:=by rfl'
theorem aiK(D:List V)(c:Nat):(PSp.map λi=>(ar D c).eq (.int 11) (ax i))=PSp.map λ_=>some false:=by rfl'
theorem aiL:(PSp.all λi=>V.jB 20 (ax i))=true:=by rfl'
theorem QK{h:List Nat}(h0:h≠[])(aS:∀i∈h,i∈PSp)(D:List V)(c:Nat):(∀z∈zL,(ar D c).eq (aH h) (.int z)=some false)/\(ar D c).eq (.int 11) (aH h)=some false/\V.jB 20 (aH h)=true:=by
 match h,h0,aS with
 |[i],_,aS=>exact⟨λz bi=>bJ (bJ (aiJ D c) bi) (aS i (List.mem_singleton.mpr rfl)),bJ (aiK D c) (aS i (List.mem_singleton.mpr rfl)),bl aiL (aS i (List.mem_singleton.mpr rfl))⟩
 |i::j::r,_,_=>
  have e:aH (i::j::r)=match f0 (i::j::r) [8,9] with|true=> .int 12|false=> .ty (.tup [.int 6,.tup ((i::j::r).map ax)]):=rfl
  rw[e]
  have bi:∀X:V,(zL.map λz=>(ar D c).eq X (.int z))=(zL.map λ_=>some false)->∀z∈zL,(ar D c).eq X (.int z)=some false:=λX h z bi=>bJ h bi
  cases q:f0 (i::j::r) [8,9] with
  |true=>exact⟨bi _ (by rfl'),by rfl',by rfl'⟩
  |false=>
   generalize (i::j::r).map ax=L
   exact⟨bi _ (by rfl'),by rfl',by rfl'⟩
theorem aiM{H:T}{a b:V}(h:V.jB 20 a=true):cX H .Eq a b=H.eq a b:=by
 show ow (V.jB 20 a) (H.eq a b)=_
 rw[h];rfl
theorem ao8{h:List Nat}(aS:∀i∈h,i∈PSp):∀i∈h,i∈PS:=λi hi=>(List.mem_filter.mp (aS i hi)).1
theorem Same.of{g h r:List Nat}(S:Same g r)(e:∀k,k∈g↔k∈h):Same h r:=by
 refine⟨S.dF,λv al=>(S.held v al).trans ?_,λk aj=>(S.sub k aj).imp (e k).mp id,S.Ic⟩
 rw[i5,HS_iff,HS_iff]
 exact⟨λ⟨i,hi,q⟩=>⟨i,(e i).mp hi,q⟩,λ⟨i,hi,q⟩=>⟨i,(e i).mpr hi,q⟩⟩
theorem aiN{H:T}{l:List (V×V)}(h:cz l=true):f1 H dy [.dict l]=some (.int l.length):=by
 refine mg (b:=ow (cz l) (some (.int l.length))) (by rfl') ?_
 rw[h];rfl
theorem aiO{H:T}{l:List Nat}(P:Pts l):cX H .Gt (.int ((cY l).length:Nat)) (.int 200)=some false:=by
 unfold cY
 rw[eQ,<-eQ (f:=ax)]
 exact PQ P (by decide)
def aiP (g:List Nat):am:=[bE cF .tab,bE "one" (ax 11),(vv,.dict (cY g),true)]
def GP(D:List V)(c:Nat)(g:List Nat)(J:am)(O:T):Prop:=Has J (aiP g)/\Pts g/\O=ar D c
theorem aiQ{n:Nat}{D:List V}{c i:Nat}(hi:i∈PSp)(g:List Nat)(J:am)(H:T)(h:GP D c g J H):
  WS (om G0 (n+112) (eP 96) (sJ (lY ((aE 96).bd.drop 3))) (lY (lY ((aE 96).bd.drop 3))) (ax i) J H) (f6 (GP D c (fe g i))):=by
 obtain⟨U,fP,e⟩:=h
 rw[e]
 have iM:=(List.mem_filter.mp hi).1
 refine ka U λJ U=>cH U (bo (fn:=aE 95) (az (aM U (v:=.tab) (az (aM U (v:=ax 11) (az (aM U (v:=ax i) (bj (.of (bJ (aiH _ D c) hi) ⟨cW U,λJ U=>?_⟩)))))))))
 refine bO (b6 (aM U (v:=ax i) (.og (v:=.int 2) ⟨_,bJ (aiI D c) hi,?_⟩)))
 have P3:=fP.add iM
 refine PO U (.og (v:=.int 1) (dt U (v:=ax i) ⟨PU fP,_,vr iM fP.sub,λJ U=>bm ?_⟩))
 exact bO (b6 (cw (ef (az (jx U (v:=.dict (cY (fe g i))) (bj ⟨_,aiN (yy P3),.og (v:=.int 200) ⟨false,aiO P3,bm (bm ⟨rfl,U.sub,P3,rfl⟩)⟩⟩))))))
theorem aiR{h:List Nat}(hh:Pts h)(h0:h≠[])(aS:∀i∈h,i∈PSp){m:Nat}(av:120<=m)(D:List V)(c:Nat):
  ∃r a0 aP,bK G0 m (aE 96) [.tab,ax 11,aH h] (ar D c)=some (aH r,ar a0 aP)/\aP<=c+1/\Same h r:=by
 obtain⟨n,rfl⟩:=c0 av
 refine UQ.to ?_
 obtain⟨bi,vF,dT⟩:=QK h0 aS D c
 refine cc rfl ?_
 refine bO (WE.is (a:=false) (s:=ar D c) ?_ (bm ?_))
 .refine fN (fp (b6 (vn (v:=.int 11) (vn (v:=aH h) ⟨false,vF,?_⟩))))
  exact fp (b6 (vn (v:=aH h) (.og (v:=.int 1) ⟨false,(aiM dT).trans (bi 1 (by decide)),dc ⟨rfl,rfl⟩⟩)))
 refine bO (.og (v:=false) (bm ?_))
 refine so (.og (v:=.dict []) ?_)
 refine il (.og (v:=[ax 11]) ?_)
 refine cJ (ql ?_)
 refine il (hS (bo (fn:=aE 61) (az (vn (v:=.tab) (az (vn (v:=aH h) (bj (.of (io hh (bH rfl) D c) ⟨cW .rfl,_,rfl,?_⟩))))))))
 refine(yx (I:=GP D c) (ok:=λi=>i∈PSp) (st:=fe) (λ_=>aiQ) h aS [] _ _ ⟨Has.sub .rfl,.nil,rfl⟩).mono ?_
 rintro f J O ⟨rfl,U,fP,rfl⟩
 refine bm (oo ?_)
 obtain⟨l,di,ho⟩:=FZ fP D c
 obtain⟨r,a0,aP,e,ap,S⟩:=yZ (fP.perm di) (X:=.list (l.map ax)) rfl (m:=n+113) (bH rfl) D c
 exact ck (cw (bo (fn:=aE 67) (az (aM U (v:=.tab) (az (cw (ef (az (jx U (v:=.dict (cY (h.foldl fe []))) (bj ⟨_,ho,bj (.of e ⟨cW U,r,a0,aP,rfl,rfl,ap,S.of λk=>di.mem_iff.trans (addsN_mem.trans (or_iff_right kj))⟩)⟩))))))))))
theorem aiS(n:Nat)(D:List V)(c:Nat):bK G0 (n+60) (aE 96) [.tab,.int 1,.int 11] (ar D c)=some (.int 11,ar D c):=by rfl'
theorem aiT{h:List Nat}(hh:Pts h)(h0:h≠[])(aS:∀i∈h,i∈PSp){m:Nat}(av:130<=m)(D:List V)(c:Nat):
  ∃r a0 aP,bK G0 m (aE 97) [.tab,.tup [ax 11,aH h]] (ar D c)=some (aH r,ar a0 aP)/\aP<=c+1/\Same h r:=by
 obtain⟨n,rfl⟩:=c0 av
 obtain⟨r,a0,aP,e,ap,S⟩:=aiR hh h0 aS (m:=n+124) (bH rfl) D c
 refine⟨r,a0,aP,WE.to ?_,ap,S⟩
 obtain⟨bi,vF,dT⟩:=QK h0 aS D c
 have sX:∀z∈zL,cN 11 z=false->cX (ar D c) .In (.int z) (.tup [ax 11,aH h])=some false:=λz rX q=>by
  show (od (some (cN 11 z)) λt=>cond t (some true) (od ((ar D c).eq (aH h) (.int z)) λt=>cond t (some true) (some false)))=_
  rw[q,bi z rX];rfl
 refine cc rfl ?_
 refine il (.og (v:=[.int 2,.int 0,.int 13]) ?_)
 refine cJ (ql (bO (b6 (vn (v:=.int 2) (vn (v:=.tup [ax 11,aH h]) ⟨false,sX 2 (by decide) rfl,bm (bm ?_)⟩)))))
 refine cJ (ql (bO (b6 (vn (v:=.int 0) (vn (v:=.tup [ax 11,aH h]) ⟨false,sX 0 (by decide) rfl,bm (bm ?_)⟩)))))
 refine cJ (ql (bO (b6 (vn (v:=.int 13) (vn (v:=.tup [ax 11,aH h]) ⟨false,sX 13 (by decide) rfl,bm (bm ?_)⟩)))))
 refine oo ?_
 refine cH (L:=[bE cF .tab,bE "parts" (.tup [ax 11,aH h])]) (Has.sub .rfl) (.og (v:=.int 1) λJ U=>?_)
 refine il (ht (dt U (v:=.tup [ax 11,aH h]) ⟨[ax 11,aH h],rfl,?_⟩))
 refine cJ (ka U λJ U=>cH U (bo (fn:=aE 96) (az (aM U (v:=.tab) (az (aM U (v:=.int 1) (az (aM U (v:=ax 11) (bj (.of (aiS (n+64) D c) ⟨cW U,λJ U=>bm ?_⟩))))))))))
 refine cJ (ka U λJ U=>cH U (bo (fn:=aE 96) (az (aM U (v:=.tab) (az (aM U (v:=ax 11) (az (aM U (v:=aH h) (bj (.of e ⟨cW U,λJ U=>bm (oo ?_)⟩))))))))))
 exact ck (aM U (v:=aH r) ⟨rfl,rfl⟩)
theorem aiU{test:V->T->Option (Bool×T)}{elt:V->T->Option (V×T)}{f g:Nat->V}{p:Nat->Bool}{k:Nat}{l:List Nat}(aa:∀i∈l,∀D c,WE (test (f i) (ar D c)) (QD (p i) (c+k)))(ah:∀i∈l,∀D c,WE (elt (f i) (ar D c)) (Is (g i) (ar D c)))(D:List V)(c:Nat){Q:List V->T->Prop}(q:∀a0 aP,aP<=c+k*l.length->Q ((l.filter p).map g) (ar a0 aP)):WE (gR test elt (l.map f) (ar D c)) Q:=by
 obtain⟨a0,aP,e,h⟩:=QE aa ah D c
 exact .of e (q a0 aP h)
noncomputable def PSo:List Nat:=[0,1,4,5,6,7,8,9,10,11,15,16,18,19,20,21,22,23,24,25,26,27,28,29,30]
theorem y0:∀i∈PSo,i∈PS:=by decide
noncomputable def bothS:List Bool:=[true,false]
theorem f8(s:Bool):s∈bothS:=by cases s<;>decide
theorem aiV:(PS.all λi=>PSo.all λq=> !(Nat.beq (bB i) 7&&Nat.beq (bB q) 7)||(bY i obS&&bY q obT))=true:=by rfl'
theorem aiW(i j:Nat):Gs i j<=1:=by
 unfold Gs
 split<;>decide
theorem aiX{a b c:Bool}(h:(!(a&&b)||c)=true)(aw:a=true)(ao:b=true):c=true:=by
 rw[aw,ao] at h;exact h
theorem aiY{i q:Nat}(hi:i∈PS)(aO:q∈PSo)(s:Bool){m:Nat}(av:200<=m)(D:List V)(c:Nat):∃a0 aP,bK G0 m (aE 143) [.tab,ax i,ax q,.bool s] (ar D c)=some (.bool (iu i q s),ar a0 aP)/\aP<=c+1:=by
 rcases e:Nat.beq (bB i) 7&&Nat.beq (bB q) 7 with _|_
 .exact⟨D,c,ai1 hi (y0 q aO) s e av D c,cG c⟩
 .obtain⟨e1,e2⟩:=aK e
  have h:=aK (aiX (bl (bl aiV hi) aO) e1 e2)
  obtain⟨n,rfl⟩:=c0 (aT (by decide:100<=200) av)
  obtain⟨a0,h⟩:=lZ (bJ (bJ (ahW n D c s) (hT h.1)) (hT h.2))
  refine⟨a0,_,?_,dh (aiW i q) c⟩
  rw[h]
  unfold iu
  rw[e1,e2];rfl
def g6 (i:Nat) (o:List Nat) (s:Bool):List Nat:=o.filter λq=>iu i q s
def aiZ(i:Nat)(s:Bool)(h r:List Nat):Prop:=r=[i]\/(qt i=true/\(∀q∈h,Nat.beq (bB q) (bB i)=true/\fv q=false)/\Same h r)\/(i=11/\s=true/\(∀q∈h,dU q=true)/\Same h r)
def GQ(i:Nat)(s:Bool)(h r:List Nat):Prop:=(h=[]/\r=[])\/(h≠[]/\aiZ i s h r)
def kW(i:Nat)(o:List Nat)(s:Bool)(r:List Nat):Prop:=GQ i s (g6 i o s) r
theorem Pts.vZ{l:List Nat}(h:Pts l)(p:Nat->Bool):Pts (l.filter p):=⟨λi hi=>h.sub i (List.mem_filter.mp hi).1,h.nd.filter p⟩
theorem aj0:(PS.all λi=>PSo.all λq=>bothS.all λs=> !(Nat.beq (bB i) 7&&dU q&&iu i q s)||(Nat.beq i 11&&bY q PSp))=true:=by rfl'
theorem aj1:(PS.all λi=>PSo.all λq=>bothS.all λs=> !Nat.beq (bB i) 0||iu i q s)=true:=by rfl'
theorem aj2:(PSp.all λi=>R14.any λv=>cS i v)=true:=by rfl'
def QL (i:Nat) (h:List Nat) (s:Bool):am:=[bE cF .tab,bE "part" (ax i),bE "strict" (.bool s),bE "hits" (.list (h.map ax))]
structure Hits (i:Nat) (s:Bool) (h:List Nat):Prop where
 dF:Pts h
 so:∀q∈h,q∈PSo
 qm:∀q∈h,iu i q s=true
 nul:Nat.beq (bB i) 0=true->h.all eu=false
theorem aj3{i:Nat}(hi:i∈PS){o:List Nat}(aG:Pts o)(aJ:∀q∈o,q∈PSo)(bi:o.all eu=false)(s:Bool):Hits i s (g6 i o s):=by
 refine⟨aG.vZ _,λq aO=>aJ q (List.mem_filter.mp aO).1,λq aO=>(List.mem_filter.mp aO).2,λe=>?_⟩
 have:g6 i o s=o:=List.filter_eq_self.mpr λq aO=>by
  have:=bl (bl (bl aj1 hi) (aJ q aO)) (f8 s)
  rw[e] at this
  exact this
 rw[this];exact bi
theorem aj4{i:Nat}(hi:i∈PS){s:Bool}{h:List Nat}(W:Hits i s h)(e:(Nat.beq (bB i) 7&&h.all dU)=true):∀q∈h,i=11/\q∈PSp:=λq aO=>by
 have:=bl (bl (bl aj0 hi) (W.so q aO)) (f8 s)
 rw[(aK e).1,List.all_eq_true.mp (aK e).2 q aO,W.qm q aO] at this
 exact⟨ei (aK this).1,hT (aK this).2⟩
theorem Same.trans{a b c:List Nat}(S:Same a b)(sZ:Same b c):Same a c:=⟨sZ.dF,λv al=>(sZ.held v al).trans (S.held v al),λk aj=>(sZ.sub k aj).elim (S.sub k) .inr,sZ.Ic⟩
theorem aj5{k:am->T->Option (Fl×am×T)}{n:Nat}{D:List V}{c:Nat}{s:Bool}{h:List Nat}(W:Hits 11 s h)(h0:h≠[])(aS:∀q∈h,q∈PSp)(m4:∀q∈h,dU q=true){J:am}(U:Has J (QL 11 h s)):
  WS (bv G0 (n+216) (eP 150) J (yB ((aE 150).bd.drop 2)) (ar D c)) (sE k (jw (UQ (c+2) (GQ 11 s h)))):=by
 refine ck (aiy (QB (j9 (aM U (v:=.bool s) ⟨s,rfl,?_⟩))))
 rcases s with _|_
 .exact dt U (v:=ax 11) ⟨[11],D,c,rfl,rfl,eZ ..,.inr ⟨h0,.inl rfl⟩⟩
 obtain⟨r,eO,eH,qc,l₂,S⟩:=yZ W.dF (X:=.list (h.map ax)) rfl (m:=n+211) (bH rfl) D c
 obtain⟨q,aO⟩:=tk h h0
 have FH:r≠[]:=λdp=>by
  obtain⟨v,al,e⟩:=List.any_eq_true.mp (bl aj2 (aS q aO))
  have:=S.held v (R14_mem.mp al)
  rw[dp,HS_iff.mpr ⟨q,aO,e⟩] at this
  cases this
 have aq:∀k∈r,k∈PSp:=λk aj=>(S.sub k aj).elim (aS k) λe=>e.elim (λe=>e▸by decide) λe=>e▸by decide
 obtain⟨d7,ET,aj6,uP,aj7,sZ⟩:=aiT S.dF FH aq (m:=n+213) (bH rfl) eO eH
 exact bo (fn:=aE 97) (az (aM U (v:=.tab) (az (QC (F5 (az (dt U (v:=ax 11) (az (bo (fn:=aE 67) (az (aM U (v:=.tab) (az (aM U (v:=.list (h.map ax)) (bj (.of qc ⟨cW U,bj ⟨by rw [oO,oO,vu];rfl,bj (.of uP ⟨cW U,d7,ET,aj6,rfl,rfl,aT aj7 (gr l₂),.inr ⟨h0,.inr (.inr ⟨rfl,rfl,m4,S.trans sZ⟩)⟩⟩)⟩⟩)))))))))))))))
theorem aj8{n:Nat}{D:List V}{c i:Nat}(hi:i∈PS){s:Bool}{h:List Nat}(W:Hits i s h){J:am}(U:Has J (QL i h s)):
  WS (bv G0 (n+218) (eP 150) J ((aE 150).bd.drop 1) (ar D c)) (jw (UQ (c+2) (GQ i s h))):=by
 have ag:=aT W.dF.len (by decide:34<=4096)
 have GR:(V.list (h.map ax)).truth=some (!(h.map ax).isEmpty):=by
  show ow (cz _) _=_
  rw[qo W.dF];rfl
 refine bO (kP (j9 (aM U (v:=.list (h.map ax)) ⟨_,GR,?_⟩)))
 rcases eR (h=[]) with h0|h0
 .rw[h0]
  exact ck (.og (v:=.int 2) ⟨[],D,c,rfl,rfl,eZ ..,.inl ⟨rfl,rfl⟩⟩)
 rw[show (!(h.map ax).isEmpty)=true by rcases h with _|_;exact absurd rfl h0;rfl]
 refine bm (bO (WE.is (a:=Nat.beq (bB i) 7&&h.all dU) (s:=ar D c) ?_ ?_))
 .refine fN (dD (b6 (cw (bo (fn:=aE 75) (az (aM U (v:=.tab) (az (aM U (v:=ax i) (bj (.of (kV hi (bH rfl) D c) ⟨cW U,?_⟩))))))))))
  refine .og (v:=.int 7) ⟨_,i1 _ _ 7,?_⟩
  rcases Nat.beq (bB i) 7 with _|_
  .exact⟨rfl,rfl⟩
  refine dD (iq (sR (sP _ dU ag) ag (ht (dt U (v:=.list (h.map ax)) ⟨_,rfl,rfl,rfl⟩)) (λq aO=>?_) ⟨_,rfl,?_⟩))
  .have U:=U.push (x:="one") (s:=(ax q,false))
   exact bo (fn:=aE 140) (az (aM U (v:=.tab) (az (aM U (v:=ax q) (bj (.of (Qd (W.dF.sub q aO) (bH rfl) D c) ⟨cW U,rfl,rfl⟩))))))
  .rcases h.all dU with _|_
   .exact⟨rfl,rfl⟩
   .exact dc ⟨rfl,rfl⟩
 rcases y1:Nat.beq (bB i) 7&&h.all dU with _|_
 .obtain⟨r,eO,eH,qc,l₂,S⟩:=QI hi W.dF W.nul (m:=n+214) (bH rfl) D c
  exact bm (ck (cw (bo (fn:=aE 129) (az (aM U (v:=.tab) (az (aM U (v:=ax i) (az (aM U (v:=.list (h.map ax)) (bj (.of qc ⟨cW U,r,eO,eH,rfl,rfl,tt l₂,.inr ⟨h0,S.elim .inl λq=> .inr (.inl q)⟩⟩)))))))))))
 .have key:=aj4 hi W y1
  obtain⟨q,aO⟩:=tk h h0
  obtain rfl:=(key q aO).1
  exact aj5 W h0 (λq aO=>(key q aO).2) (List.all_eq_true.mp (aK y1).2) U
theorem aj9{i:Nat}(hi:i∈PS){o:List Nat}(aG:Pts o)(aJ:∀q∈o,q∈PSo)(bi:o.all eu=false)(s:Bool){m:Nat}(av:220<=m)(D:List V)(c:Nat):
  ∃r a0 aP,bK G0 m (aE 150) [.tab,ax i,aH o,.bool s] (ar D c)=some (aH r,ar a0 aP)/\aP<=c+40/\kW i o s r:=by
 obtain⟨n,rfl⟩:=c0 av
 have W:=aj3 hi aG aJ bi s
 refine UQ.to ?_
 refine cc rfl ?_
 refine cH .rfl (d8 (hS (bo (fn:=aE 61) (az (vn (v:=.tab) (az (vn (v:=aH o) (bj (.of (io aG (bH rfl) D c) ⟨cr rfl,_,rfl,?_⟩)))))))))
 refine aiU (p:=λq=>iu i q s) (g:=ax) (k:=1) (λq aO D c=>?_) (λq aO D c=>?_) D c λfq eW l₁=>?_
 .obtain⟨a0,aP,e,ap⟩:=aiY hi (aJ q aO) s (m:=n+215) (bH rfl) D c
  refine dD (iq (bo (fn:=aE 143) (az (vn (v:=.tab) (az (vn (v:=ax i) (az (vn (v:=ax q) (az (vn (v:=.bool s) (bj (.of e ⟨cr rfl,_,rfl,?_⟩))))))))))))
  rcases iu i q s with _|_
  .exact⟨rfl,a0,aP,rfl,ap⟩
  .exact dc ⟨rfl,a0,aP,rfl,ap⟩
 .exact dE (v:=ax q) ⟨rfl,rfl⟩
 have kc:=aG.len
 have P:Pts (o.filter λq=>iu i q s):=W.dF
 refine⟨by rw [F2 P,qo P];rfl,λJ (U:Has J (cb _ _ (.list ((g6 i o s).map ax)) _))=>?_⟩
 exact(aj8 hi W U.sub).mono λ_ _ _ h=>h.le (aT (jC (aT l₁ (dh (aT (dW (Nat.one_mul _)) kc) c)) 2) (dh (by decide:36<=40) c))
structure Cov (R:Nat->List Nat->Prop) (l:List Nat) (a3:List (List Nat)):Prop where
 zy:∀r∈a3,∃i∈l,R i r
 to:∀i∈l,(∃r∈a3,R i r)\/R i []
theorem Cov.nil{R:Nat->List Nat->Prop}:Cov R [] []:=⟨λ_ h=>(nomatch h),λ_ h=>(nomatch h)⟩
theorem Cov.skip{R:Nat->List Nat->Prop}{l:List Nat}{a3:List (List Nat)}(h:Cov R l a3){i:Nat}(q:R i []):Cov R (l++[i]) a3:=
 ⟨λr aq=>let ⟨j,bt,e⟩:=h.zy r aq;⟨j,List.mem_append.mpr (.inl bt),e⟩,λj bt=>(List.mem_append.mp bt).elim (h.to j) λe=> .inr (by rw [dG e];exact q)⟩
theorem Cov.snoc{R:Nat->List Nat->Prop}{l:List Nat}{a3:List (List Nat)}(h:Cov R l a3){i:Nat}{r:List Nat}(q:R i r):Cov R (l++[i]) (a3++[r]):=by
 refine⟨λd7 aq=>?_,λj bt=>?_⟩
 .rcases List.mem_append.mp aq with aq|aq
  .obtain⟨j,bt,e⟩:=h.zy d7 aq
   exact⟨j,List.mem_append.mpr (.inl bt),e⟩
  .rw[dG aq]
   exact⟨i,List.mem_append.mpr (.inr (List.mem_singleton.mpr rfl)),q⟩
 .rcases List.mem_append.mp bt with bt|bt
  .rcases h.to j bt with ⟨d7,aq,e⟩|e
   .exact .inl ⟨d7,List.mem_append.mpr (.inl aq),e⟩
   .exact .inr e
  .rw[dG bt]
   exact .inl ⟨r,List.mem_append.mpr (.inr (List.mem_singleton.mpr rfl)),q⟩
theorem Paired.cov{R:Nat->List Nat->Prop}{l:List Nat}{a3:List (List Nat)}(h:Paired R l a3):Cov R l a3:=by
 refine⟨Paired.all h,?_⟩
 induction h with
 |nil=>exact λ_ hi=>nomatch hi
 |cons h _ bb=>
  intro i hi
  rcases List.mem_cons.mp hi with e|hi
  .exact .inl ⟨_,dV ..,e▸h⟩
  .exact(bb i hi).imp (λ⟨r,aq,e⟩=>⟨r,.tail _ aq,e⟩) id
inductive OutI (R:Nat->List Nat->Prop) (fr:List V->am) (P:Nat->Prop) (b:Nat) (d r:List Nat) (J:am) (O:T):Prop
 |mk (a3:List (List Nat)) (D:List V) (c:Nat) (U:Has J (fr (a3.map aH))) (e:O=ar D c) (ap:c+8*r.length<=b) (aS:∀r∈a3,Pts r) (ag:a3.length+r.length<=34) (cov:Cov R d a3) (aq:∀i∈r,P i)
section
variable {R:Nat->List Nat->Prop}{fr:List V->am}{P:Nat->Prop}{b c:Nat}{d r:List Nat}{a3:List (List Nat)}{D:List V}{i:Nat} (ap:c+8*(i::r).length<=b)(aS:∀r∈a3,Pts r)(ag:a3.length+(i::r).length<=34)(cov:Cov R d a3)(aq:∀j∈i::r,P j)
include ap aS ag cov aq
theorem OutI.skip{J:am}(U:Has J (fr (a3.map aH)))(q:R i []):OutI R fr P b (d++[i]) r J (ar D c):=
 ⟨a3,D,c,U,rfl,aT (dh (oL 8 (cG _)) c) ap,aS,aT (dh (cG _) _) ag,cov.skip q,λj bt=>aq j (.tail _ bt)⟩
theorem OutI.snoc{J:am}{x:List Nat}{a0:List V}{aP:Nat}(U:Has J (fr (a3.map aH++[aH x])))(hN:Pts x)(q:R i x)(h:aP<=c+8):OutI R fr P b (d++[i]) r J (ar a0 aP):=by
 refine⟨a3++[x],a0,aP,by rw [nj];exact U,rfl,?_,λy aY=>(List.mem_append.mp aY).elim (aS y) λe=>dG e▸hN,?_,cov.snoc q,λj bt=>aq j (.tail _ bt)⟩
 .refine aT (jC h _) (aT (dW ?_) ap)
  rw[jE,jG 8];rfl
 .rw[d5]
  rw[kk] at ag
  exact aT (dW (qP ..)) ag
end
theorem OutI.room{r:List Nat}{a3:List (List Nat)}(ag:a3.length+r.length<=34)(x:List Nat):(V.flat (aH x)&&cz (a3.map aH))=true:=by
 rw[vu,i0 (aT (aT (eZ ..) ag) (by decide))];rfl
noncomputable def nkO:List (List Nat):=[[4],[5],[4,5],[5,4]]
theorem QM(n:Nat)(D:List V)(c:Nat):(bK G0 (n+100) (aE 67) [.tab,.tup [.int 4,.int 5]] (ar D c)).map kT=kU (aH [4,5]) (c+1):=by rfl'
theorem QN{o:List Nat}(aG:o∈nkO):o=[4]\/o=[5]\/o=[4,5]\/o=[5,4]:=
 (List.mem_cons.mp aG).imp id λh=>(List.mem_cons.mp h).imp id λh=>(List.mem_cons.mp h).imp id dG
theorem aja{o:List Nat}(aG:o∈nkO){m:Nat}(av:150<=m)(D:List V)(c:Nat):∃u a0 aP,bK G0 m (aE 97) [.tab,.tup [ax 30,aH o]] (ar D c)=some (aH u,ar a0 aP)/\aP<=c+5/\u.Perm (o.map (· +27)):=by
 rcases QN aG with rfl|rfl|rfl|rfl
 .obtain⟨n,rfl⟩:=c0 (aT (by decide:120<=150) av)
  obtain⟨a0,e⟩:=lZ (bJ (Qk n D c) (x:=(30,[4])) (by decide))
  exact⟨_,a0,_,e,dh (by decide) c,.refl _⟩
 .obtain⟨n,rfl⟩:=c0 (aT (by decide:120<=150) av)
  obtain⟨a0,e⟩:=lZ (bJ (Qk n D c) (x:=(30,[5])) (by decide))
  exact⟨_,a0,_,e,dh (by decide) c,.refl _⟩
 .obtain⟨u,a0,aP,e,h,q⟩:=vw (p:=30) (a:=4) (b:=5) (r:=31) (s:=32) (by decide) av D c
  exact⟨u,a0,aP,e,h,by rcases q with rfl|rfl;exact .refl _;exact .swap ..⟩
 .obtain⟨u,a0,aP,e,h,q⟩:=vw (p:=30) (a:=5) (b:=4) (r:=32) (s:=31) (by decide) av D c
  exact⟨u,a0,aP,e,h,by rcases q with rfl|rfl;exact .refl _;exact .swap ..⟩
def fx (l:List Nat) (z:Int):Bool:=match l with
 |[]=>cN 2 z
 |[i]=>cN i z
 |_=>false
theorem ajb(D:List V)(c:Nat):(zL.map λz=>PS.map λi=>cX (ar D c) .Eq (ax i) (.int z))=zL.map λz=>PS.map λ(i:Nat)=>some (cN i z):=by rfl'
theorem ajc(D:List V)(c:Nat):(zL.map λz=>cX (ar D c) .Eq (.int 2) (.int z))=zL.map λz=>some (cN 2 z):=by rfl'
theorem vG{l:List Nat}(ag:Pts l){z:Int}(bi:z∈zL)(D:List V)(c:Nat):cX (ar D c) .Eq (aH l) (.int z)=some (fx l z):=by
 match l,ag with
 |[],_=>exact bJ (ajc D c) bi
 |[i],ag=>exact bJ (bJ (ajb D c) bi) (ag.sub i (List.mem_singleton.mpr rfl))
 |i::j::r,_=>
  have e:aH (i::j::r)=match f0 (i::j::r) [8,9] with|true=> .int 12|false=> .ty (.tup [.int 6,.tup ((i::j::r).map ax)]):=rfl
  rw[e]
  have rX:∀X:V,(zL.map λz=>cX (ar D c) .Eq X (.int z))=(zL.map λ_=>some false)->cX (ar D c) .Eq X (.int z)=some false:=λX h=>bJ h bi
  show _=some false
  cases q:f0 (i::j::r) [8,9] with
  |true=>exact rX _ (by rfl')
  |false=>
   generalize (i::j::r).map ax=L
   exact rX _ (by rfl')
theorem ajd(D:List V)(c:Nat):(PS.map λi=>cX (ar D c) .In (ax i) (.tup [.int 0,.int 13]))=PS.map λi=>some (Nat.beq i 0):=by rfl'
noncomputable def m7 (o:List Nat) (s:Bool):List Nat:=cond s o [4,5]
def y2 (o:List Nat) (s:Bool) (i:Nat) (r:List Nat):Prop:=
 (eu i=true/\((o.any λq=>jy i q s)=true/\r=[i]\/(o.any λq=>jy i q s)=false/\r=[]))\/
 (eu i=false/\(i=0/\r=[0]\/i=30/\r.Perm (o.map (· +27))\/Nat.beq i 0=false/\qs i=false/\r=[]))
theorem aje{o:List Nat}(aG:o∈nkO):Pts o/\Pts (o.map (· +27)):=by
 rcases QN aG with rfl|rfl|rfl|rfl<;>exact⟨⟨by decide,by decide⟩,⟨by decide,by decide⟩⟩
theorem ajf:(PS.all λi=> !(qs i&& !eu i&& !Nat.beq i 0&& !Nat.beq i 1)||Nat.beq i 30)=true:=by rfl'
theorem ao9{α:Type}(H:T)(f:α->Bool){l:List α}(h:l.length<=4096):f1 H tT [.list (l.map λa=>V.bool (f a))]=some (.bool (l.any f)):=Gj H f h
theorem ajg(i:Nat):V.k5 (ax i)=true:=by unfold ax;split<;>rfl
theorem y3(l:List Nat):V.k5 (aH l)=true:=by
 match l with
 |[]=>rfl
 |[i]=>exact ajg i
 |i::j::r=>
  show V.k5 (match f0 (i::j::r) [8,9] with|true=>_|false=>_)=true
  split<;>rfl
theorem aoa(l:List Nat):V.l8 (aH l)=true:=by
 match l with
 |[]=>rfl
 |[i]=>show V.l8 (ax i)=true;unfold ax;split<;>rfl
 |i::j::r=>
  show V.l8 (match f0 (i::j::r) [8,9] with|true=>_|false=>_)=true
  split<;>rfl
def ajh (s:Bool) (o:List Nat) (L:List V):am:=[bE cF .tab,bE "strict" (.bool s),bE "other" (aH o),("out",.list L,true)]
theorem aji{i:Nat}(hi:i∈PS)(aa:i≠1)(em:qs i=true)(dE:eu i=false)(e7:Nat.beq i 0=false):i=30:=by
 have:=bl ajf hi
 have e1:Nat.beq i 1=false:=Bool.eq_false_iff.mpr λq=>aa (ei q)
 rw[em,dE,e7,e1] at this
 exact ei this
abbrev GS (s:Bool) (o:List Nat) (b:Nat):List Nat->List Nat->am->T->Prop:=OutI (y2 o s) (ajh s o) (λi=>i∈PS/\i≠1) b
theorem ajj{n b:Nat}{o:List Nat}(aG:o∈nkO)(s:Bool)(d:List Nat)(i:Nat)(r:List Nat)(J:am)(H:T)(h:GS s o b d (i::r) J H):
  WS (om G0 (n+175) (eP 131) (sJ ((aE 131).bd.drop 3)) (lY ((aE 131).bd.drop 3)) (ax i) J H) (f6 (GS s o b (d++[i]) r)):=by
 obtain⟨a3,D,c,U,e,ap,aS,eB,cov,aq⟩:=h
 rw[e]
 obtain⟨hi,ajk⟩:=aq i (dV ..)
 obtain⟨GU,ajl⟩:=aje aG
 refine ka U λJ U=>?_
 refine bO (WE.is (a:=eu i) (s:=ar D c) ?_ ?_)
 .refine b6 (cw (bo (fn:=aE 75) (az (aM U (v:=.tab) (az (aM U (v:=ax i) (bj (.of (kV hi (bH rfl) D c) ⟨cW U,?_⟩))))))))
  exact .og (v:=.tup [.int 4,.int 5,.int 6]) ⟨_,bJ (Gi D c) hi,rfl,rfl⟩
 have room:=OutI.room eB
 rcases dE:eu i with _|_
 .refine bO (b6 (aM U (v:=ax i) (.og (v:=.tup [.int 0,.int 13]) ⟨_,bJ (ajd D c) hi,?_⟩)))
  rcases e7:Nat.beq i 0 with _|_
  .refine bO (iq (bo (fn:=Gv) (az (aM U (v:=.tab) (az (aM U (v:=ax i) (bj (.of (ai4 hi (bH rfl) D c) ⟨cW U,_,rfl,?_⟩))))))))
   rcases em:qs i with _|_
   .exact bm (bm (bm (bm ⟨rfl,.skip ap aS eB cov aq U.sub (.inr ⟨dE,.inr (.inr ⟨e7,em,rfl⟩)⟩)⟩)))
   .obtain rfl:=aji hi ajk em dE e7
    obtain⟨u,a0,aP,e,hG,ec⟩:=aja aG (m:=n+170) (bH rfl) D c
    exact sY U (bo (fn:=aE 97) (az (aM U (v:=.tab) (az (QC (F5 (az (dt U (v:=ax 30) (az (dt U (v:=aH o) (bj ⟨by rw [oO,oO,vu];rfl,bj (.of e ⟨cW U,room u,λJ U=>bm (bm (bm (bm ⟨rfl,.snoc ap aS eB cov aq U.sub (ajl.perm ec) (.inr ⟨dE,.inr (.inl ⟨rfl,ec⟩)⟩) (aT hG (dh (by decide) c))⟩)))⟩)⟩)))))))))))
  .have Ev:=ei e7
   exact sY U (dt U (v:=ax i) ⟨room [i],λJ U=>bm (bm (bm ⟨rfl,.snoc ap aS eB cov aq (x:=[i]) U.sub (.one hi) (.inr ⟨dE,.inl ⟨Ev,by rw [Ev]⟩⟩) (eZ ..)⟩))⟩)
 .refine bO (WE.is (a:=o.any λq=>jy i q s) (s:=ar D c) ?_ ?_)
  .have lo:=aT GU.len (by decide:34<=4096)
   refine iq (sR (Gj _ (λq=>jy i q s) lo) lo (hS (bo (fn:=aE 61) (az (aM U (v:=.tab) (az (aM U (v:=aH o) (bj (.of (io GU (bH rfl) D c) ⟨cW U,_,rfl,rfl,rfl⟩)))))))) (λq aO=>?_) ⟨_,rfl,rfl,rfl⟩)
   have U:=U.push (x:="one") (s:=(ax q,false))
   exact bo (fn:=aE 127) (az (aM U (v:=.tab) (az (aM U (v:=ax i) (az (aM U (v:=ax q) (az (aM U (v:=.bool s) (bj (.of (Gq hi (GU.sub q aO) s (bH rfl) D c) ⟨cW U,rfl,rfl⟩))))))))))
  rcases fM:o.any λq=>jy i q s with _|_
  .exact bm (bm (bm ⟨rfl,.skip ap aS eB cov aq U.sub (.inl ⟨dE,.inr ⟨fM,rfl⟩⟩)⟩))
  .exact sY U (dt U (v:=ax i) ⟨room [i],λJ U=>bm (bm (bm ⟨rfl,.snoc ap aS eB cov aq (x:=[i]) U.sub (.one hi) (.inl ⟨dE,.inl ⟨fM,rfl⟩⟩) (eZ ..)⟩))⟩)
theorem ajm{l:List Nat}(aa:1∉l):fx l 1=false:=by
 match l,aa with
 |[],_=>rfl
 |[i],aa=>exact Bool.eq_false_iff.mpr λ(e:cN i 1=true)=>aa (by rw [Int.ofNat.inj (iEq_iff.mp e)];exact List.mem_singleton.mpr rfl)
 |_::_::_,_=>rfl
def ajn(l o:List Nat)(s:Bool)(u:List Nat):Prop:=Pts u/\∃a3,eG (eb a3) u/\(∀r∈a3,Pts r)/\Cov (y2 (m7 o s) s) l a3
theorem ajo{l:List Nat}(ag:Pts l)(aa:1∉l){o:List Nat}(aG:o∈nkO)(s:Bool){m:Nat}(av:180<=m)(D:List V)(c:Nat):
  ∃u a0 aP,bK G0 m (aE 131) [.tab,aH l,aH o,.bool s] (ar D c)=some (aH u,ar a0 aP)/\aP<=c+400/\ajn l o s u:=by
 obtain⟨n,rfl⟩:=c0 av
 refine UQ.to ?_
 have ajp:m7 o s∈nkO:=by
  rcases s with _|_
  .exact(by decide:[4,5]∈nkO)
  .exact aG
 have kc:=ag.len
 refine cc rfl ?_
 refine bO (kP (j9 (vn (v:=.bool s) ⟨s,rfl,?_⟩)))
 refine WS.mono (P:=f6 λJ O=>∃a0 aP,O=ar a0 aP/\aP<=c+1/\Has J [bE cF .tab,bE "t" (aH l),bE "other" (aH (m7 o s)),bE "strict" (.bool s)]) ?_ ?_
 .rcases s with _|_
  .obtain⟨a0,e⟩:=lZ (QM (n+76) D c)
   exact cH .rfl (bo (fn:=aE 67) (.og (v:=[.tab,.tup [.int 4,.int 5]]) (.of e ⟨cr rfl,λJ U=>bm ⟨rfl,a0,c+1,rfl,cq _,U.sub⟩⟩)))
  .exact bm ⟨rfl,D,c,rfl,cG c,Has.sub .rfl⟩
 rintro f J O ⟨rfl,qu,ou,rfl,ajq,U⟩
 refine bO (b6 (aM U (v:=aH l) (.og (v:=.int 1) ⟨false,ajm aa▸vG ag (by decide) qu ou,bm ?_⟩)))
 refine yC U (.og (v:=.list []) λJ U=>?_)
 refine il (hS (bo (fn:=aE 61) (az (aM U (v:=.tab) (az (aM U (v:=aH l) (bj (.of (io ag (bH rfl) qu ou) ⟨cW U,_,rfl,?_⟩))))))))
 refine(vE (I:=GS s (m7 o s) (ou+8*l.length)) (ajj ajp s) l [] _ _ ⟨[],qu,ou,U.sub,rfl,cq _,(λ_ h=>nomatch h),(by rw [zW,mf];exact kc),.nil,λi hi=>⟨ag.sub i hi,λe=>aa (e▸hi)⟩⟩).mono ?_
 rintro f J O ⟨rfl,a3,a0,aP,U,rfl,ap,aS,_,cov,_⟩
 obtain⟨u,eO,eH,e,hr,ec,a7⟩:=m3 aS (X:=.list (a3.map aH)) rfl (m:=n+173) (bH rfl) a0 aP
 refine ck (cw (bo (fn:=aE 67) (az (aM U (v:=.tab) (az (jx U (v:=.list (a3.map aH)) (bj (.of e ⟨kS (a:=.tab) U.g (yz (d:=a3.map aH) U.g (y3 u) yA),u,eO,eH,rfl,rfl,?_,ec,a3,a7,aS,cov⟩))))))))
 exact aT hr (aT (gr (aT ap (wb ajq (oL 8 kc)))) (dh (by decide:1+272+1<=400) c))
def ov (i:Nat):Bool:=bY i [0,1,11,30,38]
theorem ajr(n:Nat)(D:List V)(c:Nat):(PSo.map λi=>bK G0 (n+100) (aE 107) [.tab,ax i] (ar D c))=PSo.map λi=>some (.bool (ov i),ar D c):=by rfl'
theorem ajs{i:Nat}(hi:i∈PSo){m:Nat}(av:100<=m)(D:List V)(c:Nat):bK G0 m (aE 107) [.tab,ax i] (ar D c)=some (.bool (ov i),ar D c):=by
 obtain⟨n,rfl⟩:=c0 av
 exact bJ (ajr n D c) hi
def vH (o:List Nat) (s:Bool) (u:List Nat):Prop:=
 (s=false/\fu o=true/\u=[4,5])\/u=[1]\/(s=true/\(∀q∈o,Nat.beq (bB q) 7=true/\ov q=false)/\u=[10])\/(s=true/\(∀q∈o,Nat.beq (bB q) 0=false/\Nat.beq (bB q) 6=false/\Nat.beq (bB q) 7=false)/\u=o)
theorem QO(f:Nat->Nat)(k:Nat):∀l:List Nat,bY k (l.map f)=l.any λq=>Nat.beq (f q) k
 |[]=>rfl
 |a::l=>by
  rw[h1,<-QO f k l]
  show cond (Nat.beq (f a) k) true (bY k (l.map f))=_
  rcases Nat.beq (f a) k with _|_<;>rfl
def QP (o:List Nat) (s:Bool):am:=[bE cF .tab,bE "other" (aH o),bE "strict" (.bool s),bE "fams" (bV (o.map bB))]
def ox (o:List Nat) (k:Nat):Bool:=o.any λq=>Nat.beq (bB q) k
def vI (o:List Nat):Bool:=o.all λq=>Nat.beq (bB q) 7
theorem GV{H:T}{o:List Nat}(k:Nat):cX H .In (.int (k:Int)) (bV (o.map bB))=some (ox o k):=by rw [yU,QO];rfl
theorem y4{o:List Nat}{p:Nat->Bool}(h:o.any p=false){q:Nat}(aO:q∈o):p q=false:=Bool.eq_false_iff.mpr λe=>Bool.noConfusion (h.symm.trans (List.any_eq_true.mpr ⟨q,aO,e⟩))
theorem ajt{k:am->T->Option (Fl×am×T)}{o:List Nat}(aG:Pts o)(aJ:∀q∈o,q∈PSo){n:Nat}{D:List V}{c:Nat}{J:am}(U:Has J (QP o true)):
  WS (bv G0 (n+150) (eP 132) J (yB ((aE 132).bd.drop 3)) (ar D c)) (sE k (jw (UQ (c+1) (vH o true)))):=by
 have ag:=aT aG.len (by decide:34<=4096)
 have dY:(o.map bB).length<=4096:=by rw [eQ];exact ag
 refine cH U (sR (sP _ (λf=>Nat.beq f 7) dY) dY (ht (dt U (v:=bV (o.map bB)) ⟨_,rfl,rfl,rfl⟩)) (λq aO=>?_) λJ U=>?_)
 .have U:=U.push (x:="fam") (s:=(bF q,false))
  exact iX (aM U (v:=bF q) (.og (v:=.int 7) ⟨_,i1 _ q 7,rfl,rfl⟩))
 rw[show ((o.map bB).all λf=>Nat.beq f 7)=vI o by rw [i6];rfl] at U
 refine bO (WE.is (a:=vI o&& !(o.any ov)) (s:=ar D c) ?_ ?_)
 .refine fN (dD (j9 (aM U (v:=.bool (vI o)) ⟨_,rfl,?_⟩)))
  rcases vI o with _|_
  .exact⟨rfl,rfl⟩
  refine dD (kP (iq (sR (Gj _ ov ag) ag (hS (bo (fn:=aE 61) (az (aM U (v:=.tab) (az (aM U (v:=aH o) (bj (.of (io aG (bH rfl) D c) ⟨cW U,_,rfl,rfl,rfl⟩)))))))) (λq aO=>?_) ⟨_,rfl,?_⟩)))
  .have U:=U.push (x:="part") (s:=(ax q,false))
   exact bo (fn:=aE 107) (az (aM U (v:=.tab) (az (aM U (v:=ax q) (bj (.of (ajs (aJ q aO) (bH rfl) D c) ⟨cW U,rfl,rfl⟩))))))
  .rcases o.any ov with _|_
   .exact dc ⟨rfl,rfl⟩
   .exact⟨rfl,rfl⟩
 rcases FY:vI o&& !(o.any ov) with _|_
 .exact bm (ck (.og (v:=.int 1) ⟨[1],D,c,rfl,rfl,cG c,.inr (.inl rfl)⟩))
 .exact ck (.og (v:=.int 10) ⟨[10],D,c,rfl,rfl,cG c,.inr (.inr (.inl ⟨rfl,λq aO=>⟨List.all_eq_true.mp (aK FY).1 q aO,y4 ((ki _).mp (aK FY).2) aO⟩,rfl⟩))⟩)
theorem aju{o:List Nat}(aG:Pts o)(aJ:∀q∈o,q∈PSo)(s:Bool){n:Nat}{D:List V}{c:Nat}{J:am}(U:Has J (QP o s)):
  WS (bv G0 (n+152) (eP 132) J ((aE 132).bd.drop 2) (ar D c)) (jw (UQ (c+1) (vH o s))):=by
 refine bO (WE.is (a:= !s||ox o 0||ox o 6) (s:=ar D c) ?_ ?_)
 .refine fN (fp (kP (j9 (aM U (v:=.bool s) ⟨s,rfl,?_⟩))))
  rcases s with _|_
  .exact⟨rfl,rfl⟩
  refine fp (b6 (.og (v:=.int 0) (aM U (v:=bV (o.map bB)) ⟨_,GV 0,?_⟩)))
  rcases ox o 0 with _|_
  rotate_left
  .exact⟨rfl,rfl⟩
  refine fp (b6 (.og (v:=.int 6) (aM U (v:=bV (o.map bB)) ⟨_,GV 6,?_⟩)))
  rcases ox o 6 with _|_
  .exact dc ⟨rfl,rfl⟩
  .exact⟨rfl,rfl⟩
 rcases e2: !s||ox o 0||ox o 6 with _|_
 rotate_left
 .exact ck (.og (v:=.int 1) ⟨[1],D,c,rfl,rfl,cG c,.inr (.inl rfl)⟩)
 obtain⟨e,qk⟩:=(qO ..).mp e2
 obtain⟨es,e7⟩:=(qO ..).mp e
 obtain rfl:s=true:=by rcases s with _|_;exact Bool.noConfusion es;rfl
 refine bm (bO (b6 (.og (v:=.int 7) (aM U (v:=bV (o.map bB)) ⟨_,GV 7,?_⟩))))
 rcases y1:ox o 7 with _|_
 .exact bm (ck (aM U (v:=aH o) ⟨o,D,c,rfl,rfl,cG c,.inr (.inr (.inr ⟨rfl,λq aO=>⟨y4 e7 aO,y4 qk aO,y4 y1 aO⟩,rfl⟩))⟩))
 .exact ajt aG aJ U
theorem ajv{o:List Nat}(aG:Pts o)(aJ:∀q∈o,q∈PSo)(s:Bool){m:Nat}(av:160<=m)(D:List V)(c:Nat):
  ∃u a0 aP,bK G0 m (aE 132) [.tab,aH o,.bool s] (ar D c)=some (aH u,ar a0 aP)/\aP<=c+1/\vH o s u:=by
 obtain⟨n,rfl⟩:=c0 av
 refine UQ.to ?_
 have ag:=aT aG.len (by decide:34<=4096)
 refine cc rfl ?_
 refine bO (WE.is (a:= !s&&fu o) (s:=ar D c) ?_ ?_)
 .refine fN (dD (kP (j9 (vn (v:=.bool s) ⟨s,rfl,?_⟩))))
  rcases s with _|_
  .refine dD (iq (bo (fn:=aE 128) (az (vn (v:=.tab) (az (vn (v:=aH o) (bj (.of (yQ aG (bH rfl) D c) ⟨cr rfl,_,rfl,?_⟩))))))))
   rcases fu o with _|_
   .exact⟨rfl,rfl⟩
   .exact dc ⟨rfl,rfl⟩
  .exact⟨rfl,rfl⟩
 rcases e1: !s&&fu o with _|_
 .refine bm (cH .rfl (d8 (hS (bo (fn:=aE 61) (az (vn (v:=.tab) (az (vn (v:=aH o) (bj (.of (io aG (bH rfl) D c) ⟨cr rfl,_,rfl,?_⟩))))))))))
  refine .of (sQ (g:=λq=>bF (bB q)) (λq aO=>dc ⟨rfl,rfl⟩) λq aO=>?_) ⟨?_,λJ U=>aju aG aJ s (U.trans ?_)⟩
  .exact bo (fn:=aE 75) (az (vn (v:=.tab) (az (vn (v:=ax q) (bj (.of (kV (aG.sub q aO) (bH rfl) D c) ⟨cr rfl,rfl,rfl⟩))))))
  .rw[i0 ag,i6]
   exact(z0 _).trans (List.all_eq_true.mpr λ_ _=>rfl)
  .rw[show V.list (o.map λq=>bF (bB q))=bV (o.map bB) by unfold bV;rw[we];rfl]
   exact Has.rfl.sub
 .obtain⟨aa,ah⟩:=aK e1
  obtain⟨a0,e⟩:=lZ (QM (n+56) D c)
  exact ck (cw (bo (fn:=aE 67) (.og (v:=[.tab,.tup [.int 4,.int 5]]) (.of e ⟨cr rfl,_,a0,c+1,rfl,rfl,cq _,.inl ⟨(ki _).mp aa,ah,rfl⟩⟩))))
theorem QQ:(PSo.all λq=> !eu q||(Nat.beq q 4||Nat.beq q 5))=true:=by rfl'
theorem QR{b:Nat}:∀{l:List Nat},l.Nodup->(∀x∈l,x=b)->l=[]\/l=[b]
 |[],_,_=> .inl rfl
 |[_],_,h=> .inr (by rw [h _ (.head _)])
 |x::y::_,n,h=>absurd (((h x (.head _)).trans (h y (.tail _ (.head _))).symm)▸dV ..) (List.nodup_cons.mp n).1
theorem QS{o:List Nat}(aG:Pts o)(aJ:∀q∈o,q∈PSo)(h:fu o=true):o∈nkO:=by
 obtain⟨h0,aa⟩:=aK (show (!o.isEmpty&&o.all eu)=true from h)
 have GW:∀q∈o,q=4\/q=5:=λq aO=>by
  have:=bl QQ (aJ q aO)
  rw[List.all_eq_true.mp aa q aO] at this
  exact((f9 (q.beq 4) (q.beq 5)).mp this).imp ei ei
 have nd:=aG.nd
 rcases o with _|⟨a,r⟩
 .cases h0
 obtain⟨dB,d9⟩:=List.nodup_cons.mp nd
 rcases GW a (.head _) with rfl|rfl
 .rcases QR (b:=5) d9 λx hx=>(GW x (.tail _ hx)).resolve_left λe=>dB (e▸hx) with rfl|rfl<;>decide
 .rcases QR (b:=4) d9 λx hx=>(GW x (.tail _ hx)).resolve_right λe=>dB (e▸hx) with rfl|rfl<;>decide
theorem ajw:(PS.all λi=>PSo.all λq=>bothS.all λs=> !(dU i&&dU q)||(jy i q s==iu i q s))=true:=by rfl'
theorem ajx{i:Nat}(h:dU i=true):Nat.beq (bB i) 0=false:=by
 rcases e:Nat.beq (bB i) 0 with _|_
 .rfl
 .have h:=(aK h).1
  rw[ei e] at h
  exact absurd h (by decide)
structure Uni (R:Nat->List Nat->Prop) (l u:List Nat):Prop where
 dF:Pts u
 ex:∃a3,eG (eb a3) u/\(∀r∈a3,Pts r)/\Cov R l a3
def QT (l o:List Nat) (s:Bool) (u:List Nat):Prop:=
 (l=[1]/\vH o s u)\/(fu o=true/\o∈nkO/\Uni (y2 (m7 o s) s) l u)\/(fu o=false/\Uni (λi r=>kW i o s r) l u)
theorem y5{l:List Nat}(h:fx l 1=true):l=[1]:=by
 match l,h with
 |[i],h=>rw[Int.ofNat.inj (iEq_iff.mp (show cN i 1=true from h))]
theorem QU{i:Nat}(hi:i∈PS){o:List Nat}{s:Bool}{r:List Nat}(h:kW i o s r):Pts r:=by
 rcases h with ⟨_,rfl⟩|⟨_,rfl|⟨_,_,S⟩|⟨_,_,_,S⟩⟩
 .exact .nil
 .exact .one hi
 .exact S.dF
 .exact S.dF
def ajy (s:Bool) (o:List Nat) (L:List V):am:=[bE cF .tab,bE "strict" (.bool s),bE "other" (aH o),("out",.list L,true)]
abbrev GX (s:Bool) (o:List Nat) (b:Nat):List Nat->List Nat->am->T->Prop:=OutI (λi r=>kW i o s r) (ajy s o) (λi=>i∈PS/\dU i=true) b
theorem ajz{o:List Nat}(aJ:∀q∈o,q∈PSo)(s:Bool)(vJ:o.all dU=true){i:Nat}(hi:i∈PS)(y6:dU i=true):o.filter (λq=>jy i q s)=g6 i o s:=List.filter_congr λq aO=>by
 have:=bl (bl (bl ajw hi) (aJ q aO)) (f8 s)
 rw[y6,List.all_eq_true.mp vJ q aO] at this
 exact eq_of_beq this
theorem ajA{n b:Nat}{o:List Nat}(aG:Pts o)(aJ:∀q∈o,q∈PSo)(s:Bool)(vJ:o.all dU=true)(d:List Nat)(i:Nat)(r:List Nat)(J:am)(H:T)(h:GX s o b d (i::r) J H):
  WS (om G0 (n+225) (eP 133) (sJ ((aE 133).bd.drop 3)) (lY ((aE 133).bd.drop 3)) (ax i) J H) (f6 (GX s o b (d++[i]) r)):=by
 obtain⟨a3,D,c,U,e,ap,aS,eB,cov,aq⟩:=h
 rw[e]
 obtain⟨hi,y6⟩:=aq i (dV ..)
 refine ka U λJ U=>cH U (d8 (hS (bo (fn:=aE 61) (az (aM U (v:=.tab) (az (aM U (v:=aH o) (bj (.of (io aG (bH rfl) D c) ⟨cW U,_,rfl,?_⟩)))))))))
 refine .of (kQ (p:=λq=>jy i q s) (g:=ax) (λq aO=>?_) λq aO=>?_) ⟨by rw [F2 (aG.vZ _),qo (aG.vZ _)];rfl,?_⟩
 .have U:=U.push (x:="one") (s:=(ax q,false))
  refine dD (iq (bo (fn:=aE 127) (az (aM U (v:=.tab) (az (aM U (v:=ax i) (az (aM U (v:=ax q) (az (aM U (v:=.bool s) (bj (.of (Gq hi (aG.sub q aO) s (bH rfl) D c) ⟨cW U,_,rfl,?_⟩))))))))))))
  rcases jy i q s with _|_
  .exact⟨rfl,rfl⟩
  .exact dc ⟨rfl,rfl⟩
 .exact dt (U.push (x:="one") (s:=(ax q,false))) (v:=ax q) ⟨rfl,rfl⟩
 rw[ajz aJ s vJ hi y6]
 have QV:Pts (g6 i o s):=aG.vZ _
 have GR:(V.list ((g6 i o s).map ax)).truth=some (!((g6 i o s).map ax).isEmpty):=by
  show ow (cz _) _=_
  rw[qo QV];rfl
 intro J U
 refine bO (j9 (aM U (v:=.list ((g6 i o s).map ax)) ⟨_,GR,?_⟩))
 rcases eR (g6 i o s=[]) with h0|h0
 .rw[h0]
  exact bm (bm ⟨rfl,.skip ap aS eB cov aq U.sub (.inl ⟨h0,rfl⟩)⟩)
 rw[show (!((g6 i o s).map ax).isEmpty)=true by revert h0;rcases g6 i o s with _|_;exact λh=>absurd rfl h;exact λ_=>rfl]
 obtain⟨x,a0,aP,e,hG,q⟩:=QI hi QV (λe=>by rw [ajx y6] at e;cases e) (m:=n+221) (bH rfl) D c
 have jg:kW i o s x:=.inr ⟨h0,q.elim .inl λq=> .inr (.inl q)⟩
 exact sY U (bo (fn:=aE 129) (az (aM U (v:=.tab) (az (aM U (v:=ax i) (az (aM U (v:=.list ((g6 i o s).map ax)) (bj (.of e ⟨cW U,OutI.room eB x,λJ U=>bm (bm ⟨rfl,.snoc ap aS eB cov aq U.sub (QU hi jg) jg (aT hG (dh (by decide) c))⟩)⟩)))))))))
theorem ajB{l:List Nat}(ag:Pts l)(aa:1∈l->l=[1]){o:List Nat}(aG:Pts o)(aJ:∀q∈o,q∈PSo)(s:Bool)(aS:l≠[1]->fu o=false->l.all dU=true/\o.all dU=true){m:Nat}(av:230<=m)(D:List V)(c:Nat):
  ∃u a0 aP,bK G0 m (aE 133) [.tab,aH l,aH o,.bool s] (ar D c)=some (aH u,ar a0 aP)/\aP<=c+400/\QT l o s u:=by
 obtain⟨n,rfl⟩:=c0 av
 refine UQ.to ?_
 have kc:=ag.len
 refine cc rfl ?_
 refine bO (b6 (vn (v:=aH l) (.og (v:=.int 1) ⟨_,vG ag (by decide) D c,?_⟩)))
 rcases fy:fx l 1 with _|_
 rotate_left
 .obtain⟨u,a0,aP,e,ap,q⟩:=ajv aG aJ s (m:=n+226) (bH rfl) D c
  exact ck (cw (bo (fn:=aE 132) (az (vn (v:=.tab) (az (vn (v:=aH o) (az (vn (v:=.bool s) (bj (.of e ⟨cr rfl,u,a0,aP,rfl,rfl,aT ap (dh (by decide) c),.inl ⟨y5 fy,q⟩⟩))))))))))
 have rT:1∉l:=λq=>by rw [aa q] at fy;cases fy
 refine bm (bO (iq (bo (fn:=aE 128) (az (vn (v:=.tab) (az (vn (v:=aH o) (bj (.of (yQ aG (bH rfl) D c) ⟨cr rfl,_,rfl,?_⟩)))))))))
 rcases dE:fu o with _|_
 rotate_left
 .have ke:=QS aG aJ dE
  obtain⟨u,a0,aP,e,ap,ec,a3,a7,aq,cov⟩:=ajo ag rT ke s (m:=n+225) (bH rfl) D c
  exact ck (cw (bo (fn:=aE 131) (az (vn (v:=.tab) (az (vn (v:=aH l) (az (vn (v:=aH o) (az (vn (v:=.bool s) (bj (.of e ⟨cr rfl,u,a0,aP,rfl,rfl,ap,.inr (.inl ⟨dE,ke,ec,a3,a7,aq,cov⟩)⟩))))))))))))
 obtain⟨ajC,vJ⟩:=aS (λq=>rT (q▸List.mem_singleton.mpr rfl)) dE
 refine bm (yC .rfl (.og (v:=.list []) λJ U=>?_))
 refine il (hS (bo (fn:=aE 61) (az (aM U (v:=.tab) (az (aM U (v:=aH l) (bj (.of (io ag (bH rfl) D c) ⟨cW U,_,rfl,?_⟩))))))))
 refine(vE (I:=GX s o (c+8*l.length)) (ajA aG aJ s vJ) l [] _ _ ⟨[],D,c,U.sub,rfl,cq _,(λ_ h=>nomatch h),(by rw [zW,mf];exact kc),.nil,λi hi=>⟨ag.sub i hi,List.all_eq_true.mp ajC i hi⟩⟩).mono ?_
 rintro f J O ⟨rfl,a3,a0,aP,U,rfl,ap,aS,_,cov,_⟩
 obtain⟨u,eO,eH,e,hr,ec,a7⟩:=m3 aS (X:=.list (a3.map aH)) rfl (m:=n+223) (bH rfl) a0 aP
 exact ck (cw (bo (fn:=aE 67) (az (aM U (v:=.tab) (az (jx U (v:=.list (a3.map aH)) (bj (.of e ⟨kS (a:=.tab) U.g (yz (d:=a3.map aH) U.g (y3 u) yA),u,eO,eH,rfl,rfl,aT hr (aT (gr (aT ap (dh (oL 8 kc) c))) (dh (by decide:272+1<=400) c)),.inr (.inr ⟨dE,ec,a3,a7,aS,cov⟩)⟩))))))))
def GY (o:List Nat):V:=match o with
 |[q]=>f7 q
 |_=> .tup []
def y7 (o:List Nat):Bool:=match o with
 |[q]=>fv q
 |_=>true
theorem ajD{o:List Nat}(aG:Pts o)(h0:o≠[]){m:Nat}(av:70<=m)(D:List V)(c:Nat):bK G0 m (aE 126) [.tab,aH o] (ar D c)=some (GY o,ar D c)/\cX (ar D c) .Eq (GY o) (.tup [])=some (y7 o):=by
 obtain⟨n,rfl⟩:=c0 av
 match o,aG,h0 with
 |[q],aG,_=>exact⟨vx (aG.sub q (by simp)) av D c,bJ (Gp D c) (aG.sub q (by simp))⟩
 |i::j::r,_,_=>
  refine⟨?_,rfl⟩
  show _=some (V.tup [],_)
  have e:aH (i::j::r)=match f0 (i::j::r) [8,9] with|true=> .int 12|false=> .ty (.tup [.int 6,.tup ((i::j::r).map ax)]):=rfl
  rw[e]
  cases q:f0 (i::j::r) [8,9] with
  |true=>rfl'
  |false=>
   generalize (i::j::r).map ax=L
   rfl'
def gL (q i:Nat):Bool:= !sS i q&& !(Nat.beq i 3&&Nat.beq q 4)
theorem ajE(D:List V)(c:Nat):(PS.map λi=>PSo.map λj=>cX (ar D c) .NotEq (f7 i) (f7 j))=PS.map λi=>PSo.map λj=>some (!sS i j):=by rfl'
theorem QW(D:List V)(c:Nat):([3,4].map λ(z:Nat)=>PS.map λi=>cX (ar D c) .Eq (ax i) (.int (z:Int)))=[3,4].map λz=>PS.map λi=>some (Nat.beq i z):=by rfl'
def famO:List Nat:=PSo.filter λq=> !fv q
theorem ajF(D:List V)(c:Nat):(famO.map λq=>(fE (ar D c) (f7 q) (.int 0)).bind λk=>cX (ar D c) .In k (.tup [.int 4,.int 5,.int 6]))=famO.map λq=>some (eu q):=by rfl'
theorem ajG:(famO.all λq=> !eu q||(Nat.beq q 4||Nat.beq q 5))=true:=by rfl'
theorem QX(n:Nat)(D:List V)(c:Nat):([4,5].map λ(k:Nat)=>(bK G0 (n+100) (aE 67) [.tab,.tup [.int 11,.int (k:Int)]] (ar D c)).map kT)=[4,5].map λk=>kU (aH [k,11]) (c+1):=by rfl'
def GZ (l o u:List Nat):Prop:=
 (y7 o=true/\u=l)\/(∃q,o=[q]/\(q=4\/q=5)/\l=[1]/\u=[9 - q,11])\/(∃q,o=[q]/\fv q=false/\Same (l.filter (gL q)) u)
def y8 (q:Nat) (L:List Nat):am:=[bE cF .tab,bE "value" (f7 q),bE "other" (ax q),("out",.list (L.map ax),true)]
structure PnI (q:Nat) (D:List V) (c:Nat) (d r:List Nat) (J:am) (O:T):Prop where
 mem:∀i∈r,i∈PS
 fr:Has J (y8 q (d.filter (gL q)))
 st:O=ar D c
 len:d.length+r.length<=34
theorem ajH{q i:Nat}{d:List Nat}:(d++[i]).filter (gL q)=d.filter (gL q)++cond (gL q i) [i] []:=by
 rw[List.filter_append,qU,List.filter_nil]
 rcases gL q i with _|_<;>rfl
theorem y9(i:Nat):V.flat (ax i)=true:=by
 unfold ax
 rcases Nat.blt i 31 with _|_<;>rfl
theorem ajI{q i:Nat}(aO:q∈PSo)(hi:i∈PS){n:Nat}{D:List V}{c:Nat}{L:List Nat}{J:am}(U:Has J (cb (y8 q L) "part" (ax i) false)):
  WE (dR G0 (n+80) (eP 134) J (qp (lY ((aE 134).bd.drop 4))) (ar D c)) (Is (gL q i) (ar D c)):=by
 refine fN (dD (b6 (cw (bo (fn:=aE 126) (az (aM U (v:=.tab) (az (aM U (v:=ax i) (bj (.of (vx hi (bH rfl) D c) ⟨cW U,?_⟩))))))))))
 refine aM U (v:=f7 q) ⟨_,bJ (bJ (ajE D c) hi) aO,?_⟩
 unfold gL
 rcases sS i q with _|_
 rotate_left
 .exact⟨rfl,rfl⟩
 refine dD (kP (fN (dD (b6 (aM U (v:=ax i) (.og (v:=.int 3) ⟨_,bJ (bJ (QW D c) (x:=3) (by decide)) hi,?_⟩))))))
 rcases Nat.beq i 3 with _|_
 .exact dc ⟨rfl,rfl⟩
 refine dD (b6 (aM U (v:=ax q) (.og (v:=.int 4) ⟨_,bJ (bJ (QW D c) (x:=4) (by decide)) (y0 q aO),?_⟩)))
 rcases Nat.beq q 4 with _|_<;>exact dc ⟨rfl,rfl⟩
theorem ajJ{q:Nat}(aO:q∈PSo){n:Nat}{D:List V}{c:Nat}(d:List Nat)(i:Nat)(r:List Nat)(J:am)(H:T)(h:PnI q D c d (i::r) J H):
  WS (om G0 (n+90) (eP 134) (sJ ((aE 134).bd.drop 4)) (lY ((aE 134).bd.drop 4)) (ax i) J H) (f6 (PnI q D c (d++[i]) r)):=by
 obtain⟨aq,U,e,eB⟩:=h
 rw[e]
 have hi:=aq i (dV ..)
 have next:∀{J},Has J (y8 q ((d++[i]).filter (gL q)))->PnI q D c (d++[i]) r J (ar D c):=λU=>⟨λj bt=>aq j (.tail _ bt),U,rfl,by rw [d5];exact aT (dW (qP ..)) eB⟩
 have ag:cz ((d.filter (gL q)).map ax)=true:=i0 (aT (v5 ..) (aT (eZ ..) (aT eB (by decide))))
 rw[ajH] at next
 refine ka U λJ U=>bO (WE.is (ajI aO hi U) ?_)
 generalize gL q i=t at next |-
 rcases t with _|_
 .exact bm (bm ⟨rfl,next (by rw [cond_false,eh];exact U.sub)⟩)
 .exact sY U (dt U (v:=ax i) ⟨by rw [y9,ag];rfl,λJ U=>bm (bm ⟨rfl,next (by unfold y8;rw[nj];exact U.sub)⟩)⟩)
theorem ajK{l:List Nat}(ag:Pts l){q:Nat}(aO:q∈PSo)(ev:fv q=false){n:Nat}{D:List V}{c:Nat}{J:am}(U:Has J [bE cF .tab,bE "t" (aH l),bE "value" (f7 q),bE "other" (ax q)]):
  WS (bv G0 (n+146) (eP 134) J ((aE 134).bd.drop 3) (ar D c)) (jw (UQ (c+1) (GZ l [q]))):=by
 refine yC U (.og (v:=.list []) λJ U=>?_)
 refine il (hS (bo (fn:=aE 61) (az (aM U (v:=.tab) (az (aM U (v:=aH l) (bj (.of (io ag (bH rfl) D c) ⟨cW U,_,rfl,?_⟩))))))))
 refine(vE (I:=PnI q D c) (ajJ aO) l [] _ _ ⟨ag.sub,U.sub,rfl,by rw [zW,mf];exact ag.len⟩).mono ?_
 rintro f J O ⟨rfl,_,U,rfl,_⟩
 rw[tA] at U
 obtain⟨u,eO,eH,e,hr,S⟩:=yZ (ag.vZ (gL q)) (X:=.list ((l.filter (gL q)).map ax)) rfl (m:=n+142) (bH rfl) D c
 exact ck (cw (bo (fn:=aE 67) (az (aM U (v:=.tab) (az (jx U (v:=.list ((l.filter (gL q)).map ax)) (bj (.of e ⟨kS (a:=.tab) U.g (yz (d:=(l.filter (gL q)).map ax) U.g (y3 u) yA),u,eO,eH,rfl,rfl,hr,.inr (.inr ⟨q,rfl,ev,S⟩)⟩))))))))
theorem ajL{l:List Nat}(ag:Pts l){o:List Nat}(aG:Pts o)(aJ:∀q∈o,q∈PSo)(eY:o≠[]){m:Nat}(av:150<=m)(D:List V)(c:Nat):
  ∃u a0 aP,bK G0 m (aE 134) [.tab,aH l,aH o] (ar D c)=some (aH u,ar a0 aP)/\aP<=c+1/\GZ l o u:=by
 obtain⟨n,rfl⟩:=c0 av
 refine UQ.to ?_
 obtain⟨al,ajM⟩:=ajD aG eY (m:=n+147) (bH rfl) D c
 refine cc rfl ?_
 refine cB (bo (fn:=aE 126) (az (vn (v:=.tab) (az (vn (v:=aH o) (bj (.of al ⟨cr rfl,?_⟩)))))))
 refine bO (b6 (vn (v:=GY o) (.og (v:=.tup []) ⟨_,ajM,?_⟩)))
 rcases ev:y7 o with _|_
 rotate_left
 .exact ck (vn (v:=aH l) ⟨l,D,c,rfl,rfl,cG c,.inl ⟨ev,rfl⟩⟩)
 match o,eY,ev,aJ with
 |[q],_,ev,aJ=>
 have aO:=aJ q (.head _)
 have QY:q∈famO:=List.mem_filter.mpr ⟨aO,by rw [show fv q=false from ev];rfl⟩
 refine bm (bO (WE.is (a:=fx l 1&&eu q) (s:=ar D c) ?_ ?_))
 .refine fN (dD (b6 (vn (v:=aH l) (.og (v:=.int 1) ⟨_,vG ag (by decide) D c,?_⟩))))
  rcases fx l 1 with _|_
  .exact⟨rfl,rfl⟩
  obtain⟨k,e1,e2⟩:=oQ (bJ (ajF D c) QY)
  refine dD (b6 (lX (yE (vn (v:=f7 q) (.og (v:=.int 0) ⟨k,e1,.og (v:=.tup [.int 4,.int 5,.int 6]) ⟨_,e2,?_⟩⟩)))))
  rcases eu q with _|_
  .exact⟨rfl,rfl⟩
  .exact dc ⟨rfl,rfl⟩
 rcases e1:fx l 1&&eu q with _|_
 .exact bm (ajK ag aO ev (Has.sub .rfl))
 obtain⟨jq,e2⟩:=aK e1
 have QZ:=bl ajG QY
 rw[e2] at QZ
 rcases((f9 (q.beq 4) (q.beq 5)).mp QZ).imp ei ei with rfl|rfl
 .obtain⟨a0,e⟩:=lZ (bJ (QX (n+44) D c) (x:=5) (by decide))
  exact ck (cw (bo (fn:=aE 67) (.og (v:=[.tab,.tup [.int 11,.int 5]]) (.of e ⟨cr rfl,_,a0,c+1,rfl,rfl,cq _,.inr (.inl ⟨4,rfl,.inl rfl,y5 jq,rfl⟩)⟩))))
 .obtain⟨a0,e⟩:=lZ (bJ (QX (n+44) D c) (x:=4) (by decide))
  exact ck (cw (bo (fn:=aE 67) (.og (v:=[.tab,.tup [.int 11,.int 4]]) (.of e ⟨cr rfl,_,a0,c+1,rfl,rfl,cq _,.inr (.inl ⟨5,rfl,.inr rfl,y5 jq,rfl⟩)⟩))))
theorem Q0(D:List V)(c:Nat):(PS2.map λi=>cX (ar D c) .In (ax i) (.tup [.int 0,.int 13]))=PS2.map λ(i:Nat)=>some (cN i 0):=by rfl'
theorem Q1(D:List V)(c:Nat):(PS2.map λi=>cX (ar D c) .In (ax i) (.tup [.int 0,.int 13,.int 1]))=PS2.map λ(i:Nat)=>some (cN i 0||cN i 1):=by rfl'
theorem za{l:List Nat}(ag:Pts l)(D:List V)(c:Nat):cX (ar D c) .In (aH l) (.tup [.int 0,.int 13])=some (fx l 0)/\cX (ar D c) .In (aH l) (.tup [.int 0,.int 13,.int 1])=some (fx l 0||fx l 1):=by
 match l,ag with
 |[],_=>exact⟨bJ (Q0 D c) (x:=2) (by decide),bJ (Q1 D c) (x:=2) (by decide)⟩
 |[i],ag=>exact⟨bJ (Q0 D c) (.tail _ (ag.sub i (.head _))),bJ (Q1 D c) (.tail _ (ag.sub i (.head _)))⟩
 |i::j::r,_=>
  have e:aH (i::j::r)=match f0 (i::j::r) [8,9] with|true=> .int 12|false=> .ty (.tup [.int 6,.tup ((i::j::r).map ax)]):=rfl
  rw[e]
  show _=some false/\_=some false
  cases q:f0 (i::j::r) [8,9] with
  |true=>exact⟨by rfl',by rfl'⟩
  |false=>
   generalize (i::j::r).map ax=L
   exact⟨by rfl',by rfl'⟩
def kX (l o:List Nat):Bool:=fx l 0||(fx o 0||fx o 1)
def Q2 (l o:List Nat) (y s:Bool) (u:List Nat):Prop:=
 (kX l o=true/\u=l)\/(kX l o=false/\y=true/\QT l o s u)\/(kX l o=false/\y=false/\((s=false/\fu o=true/\Pts u/\eG (eb (l.map (ff 101))) u)\/((s=true\/fu o=false)/\GZ l o u)))
theorem ajN{l:List Nat}(ag:Pts l)(aa:1∈l->l=[1]){o:List Nat}(aG:Pts o)(aJ:∀q∈o,q∈PSo)(eY:o≠[])(y s:Bool)(aS:y=true->l≠[1]->fu o=false->l.all dU=true/\o.all dU=true){m:Nat}(av:240<=m)(D:List V)(c:Nat):
  ∃u a0 aP,bK G0 m (aE 135) [.tab,aH l,aH o,.bool y,.bool s] (ar D c)=some (aH u,ar a0 aP)/\aP<=c+400/\Q2 l o y s u:=by
 obtain⟨n,rfl⟩:=c0 av
 refine UQ.to ?_
 refine cc rfl ?_
 refine bO (WE.is (a:=kX l o) (s:=ar D c) ?_ ?_)
 .refine fN (fp (b6 (vn (v:=aH l) (.og (v:=.tup [.int 0,.int 13]) ⟨_,(za ag D c).1,?_⟩))))
  unfold kX
  rcases fx l 0 with _|_
  rotate_left
  .exact⟨rfl,rfl⟩
  refine fp (b6 (vn (v:=aH o) (.og (v:=.tup [.int 0,.int 13,.int 1]) ⟨_,(za aG D c).2,?_⟩)))
  rcases fx o 0||fx o 1 with _|_
  .exact dc ⟨rfl,rfl⟩
  .exact⟨rfl,rfl⟩
 rcases fM:kX l o with _|_
 rotate_left
 .exact ck (vn (v:=aH l) ⟨l,D,c,rfl,rfl,eZ ..,.inl ⟨fM,rfl⟩⟩)
 refine bm (bO (j9 (vn (v:=.bool y) ⟨y,rfl,?_⟩)))
 rcases y with _|_
 rotate_left
 .obtain⟨u,a0,aP,e,ap,q⟩:=ajB ag aa aG aJ s (aS rfl) (m:=n+235) (bH rfl) D c
  exact ck (cw (bo (fn:=aE 133) (az (vn (v:=.tab) (az (vn (v:=aH l) (az (vn (v:=aH o) (az (vn (v:=.bool s) (bj (.of e ⟨cr rfl,u,a0,aP,rfl,rfl,ap,.inr (.inl ⟨fM,rfl,q⟩)⟩))))))))))))
 refine bm (bO (WE.is (a:= !s&&fu o) (s:=ar D c) ?_ ?_))
 .refine fN (dD (kP (j9 (vn (v:=.bool s) ⟨s,rfl,?_⟩))))
  rcases s with _|_
  rotate_left
  .exact⟨rfl,rfl⟩
  refine dD (iq (bo (fn:=aE 128) (az (vn (v:=.tab) (az (vn (v:=aH o) (bj (.of (yQ aG (bH rfl) D c) ⟨cr rfl,_,rfl,?_⟩))))))))
  rcases fu o with _|_
  .exact⟨rfl,rfl⟩
  .exact dc ⟨rfl,rfl⟩
 rcases e1: !s&&fu o with _|_
 .have e2:s=true\/fu o=false:=by
   rcases s with _|_
   .exact .inr e1
   .exact .inl rfl
  obtain⟨u,a0,aP,e,ap,q⟩:=ajL ag aG aJ eY (m:=n+234) (bH rfl) D c
  exact bm (ck (cw (bo (fn:=aE 134) (az (vn (v:=.tab) (az (vn (v:=aH l) (az (vn (v:=aH o) (bj (.of e ⟨cr rfl,u,a0,aP,rfl,rfl,aT ap (dh (by decide) c),.inr (.inr ⟨fM,rfl,.inr ⟨e2,q⟩⟩)⟩)))))))))))
 .obtain⟨aa,ah⟩:=aK e1
  obtain⟨u,a0,aP,e,ap,ec,a7⟩:=yL (j:=101) (.inl rfl) ag (m:=n+234) (bH rfl) D c
  exact ck (cw (bo (fn:=aE 101) (az (vn (v:=.tab) (az (vn (v:=aH l) (bj (.of e ⟨cr rfl,u,a0,aP,rfl,rfl,aT ap (dh (by decide) c),.inr (.inr ⟨fM,rfl,.inl ⟨(ki _).mp aa,ah,ec,a7⟩⟩)⟩))))))))
def m8(l o:List Nat)(y s:Bool)(u:List Nat):Prop:=
 Q2 l o y s u\/(y=true/\fu o=false/\Uni (λi r=>kW i o s r) l u)
theorem ajO{o:List Nat}(h:fu o=false)(h0:o≠[]):o.all eu=false:=by
 rcases o with _|⟨a,r⟩
 .exact absurd rfl h0
 .exact h
def G1 (l o:List Nat) (y s:Bool):am:=[bE cF .tab,bE "t" (aH l),bE "other" (aH o),bE "yes" (.bool y),bE "strict" (.bool s),bE "plain" (.bool (l.all dU&&o.all dU))]
def zb (l o:List Nat) (y:Bool):Bool:=l.all dU&&o.all dU||(!y||(fx l 1||fu o))
theorem ajP{l o:List Nat}(ag:Pts l)(aG:Pts o)(y s:Bool){n:Nat}{D:List V}{c:Nat}{J:am}(U:Has J (G1 l o y s)):WE (dR G0 (n+240) (eP 151) J (qp ((aE 151).bd.drop 4)) (ar D c)) (Is (zb l o y) (ar D c)):=by
 refine fN (fp (j9 (aM U (v:=.bool (l.all dU&&o.all dU)) ⟨_,rfl,?_⟩)))
 unfold zb
 rcases l.all dU&&o.all dU with _|_
 rotate_left
 .exact⟨rfl,rfl⟩
 refine fp (kP (j9 (aM U (v:=.bool y) ⟨_,rfl,?_⟩)))
 rcases y with _|_
 .exact⟨rfl,rfl⟩
 refine fp (b6 (aM U (v:=aH l) (.og (v:=.int 1) ⟨_,vG ag (by decide) D c,?_⟩)))
 rcases fx l 1 with _|_
 rotate_left
 .exact⟨rfl,rfl⟩
 refine fp (iq (bo (fn:=aE 128) (az (aM U (v:=.tab) (az (aM U (v:=aH o) (bj (.of (yQ aG (bH rfl) D c) ⟨cW U,_,rfl,?_⟩))))))))
 rcases fu o with _|_
 .exact dc ⟨rfl,rfl⟩
 .exact⟨rfl,rfl⟩
theorem ajQ{l:List Nat}(ag:Pts l){o:List Nat}(aG:Pts o)(aJ:∀q∈o,q∈PSo)(bi:o.all eu=false)(dE:fu o=false)(s:Bool){n:Nat}{D:List V}{c:Nat}{J:am}(U:Has J (G1 l o true s)):
  WS (bv G0 (n+248) (eP 151) J ((aE 151).bd.drop 6) (ar D c)) (jw (UQ (c+2000) (m8 l o true s))):=by
 refine ck (cw (bo (fn:=aE 67) (az (aM U (v:=.tab) (az (j8 (d8 (hS (bo (fn:=aE 61) (az (aM U (v:=.tab) (az (aM U (v:=aH l) (bj (.of (io ag (bH rfl) D c) ⟨cW U,_,rfl,?_⟩)))))))))))))))
 refine sM (R:=λi r=>kW i o s r) (k:=40) (λi hi D c=>dc ⟨rfl,rfl⟩) (λi hi D c=>?_) D c λa3 fq eW aB fO=>?_
 .obtain⟨u,a0,aP,e,h,aS⟩:=aj9 (ag.sub i hi) aG aJ bi s (m:=n+244) (bH rfl) D c
  have U:=U.push (x:="part") (s:=(ax i,false))
  exact bo (fn:=aE 150) (az (aM U (v:=.tab) (az (aM U (v:=ax i) (az (aM U (v:=aH o) (az (aM U (v:=.bool s) (bj (.of e ⟨cW U,u,a0,aP,rfl,rfl,h,aS⟩))))))))))
 .have oq:=aT (dW (Paired.len fO).symm) ag.len
  have s0:∀r∈a3,Pts r:=λr aq=>by obtain ⟨i,hi,p⟩:=Paired.all fO r aq;exact QU (ag.sub i hi) p
  obtain⟨u,a0,aP,e,a8,l1,a7⟩:=m3 s0 (X:=.list (a3.map aH)) rfl (m:=n+246) (bH rfl) fq eW
  exact⟨by rw [yK];exact md (by rw [eQ];exact aT oq (by decide)),bj (.of e ⟨cW U,u,a0,aP,rfl,rfl,aT a8 (aT (gr (aT aB (dh (oL 40 ag.len) c))) (dh (by decide:40*34+1<=2000) c)),.inr ⟨rfl,dE,l1,a3,a7,s0,Paired.cov fO⟩⟩)⟩
theorem Q3{l:List Nat}(ag:Pts l)(aa:1∈l->l=[1]){o:List Nat}(aG:Pts o)(aJ:∀q∈o,q∈PSo)(eY:o≠[])(y s:Bool){m:Nat}(av:255<=m)(D:List V)(c:Nat):
  ∃u a0 aP,bK G0 m (aE 151) [.host,aH l,aH o,.bool y,.bool s] (ar D c)=some (aH u,ar a0 aP)/\aP<=c+2000/\m8 l o y s u:=by
 obtain⟨n,rfl⟩:=c0 av
 refine UQ.to ?_
 refine cc rfl ?_
 refine cB (.og (v:=.tab) ?_)
 refine cB (.og (v:=aH l) ?_)
 refine cB (.og (v:=aH o) ?_)
 refine cH .rfl (WE.is (a:=.bool (l.all dU&&o.all dU)) (s:=ar D c) ?_ λJ U=>?_)
 .refine vy (bo (fn:=aE 141) (az (vn (v:=.tab) (az (vn (v:=aH l) (bj (.of (Qg ag (bH rfl) D c) ⟨cr rfl,_,rfl,?_⟩)))))))
  rcases l.all dU with _|_
  .exact⟨rfl,rfl⟩
  .exact bo (fn:=aE 141) (az (vn (v:=.tab) (az (vn (v:=aH o) (bj (.of (Qg aG (bH rfl) D c) ⟨cr rfl,rfl,rfl⟩))))))
 replace U:Has J (G1 l o y s):=U.sub
 refine bO (WE.is (ajP ag aG y s U) ?_)
 rcases e1:zb l o y with _|_
 rotate_left
 .obtain⟨u,a0,aP,e,ap,q⟩:=ajN ag aa aG aJ eY y s (λaY rT ajR=>by
   unfold zb at e1
   rw[aY,ajR,show fx l 1=false from Bool.eq_false_iff.mpr λe=>rT (y5 e)] at e1
   exact aK ((z1 _).symm.trans e1)) (m:=n+247) (bH rfl) D c
  exact ck (cw (bo (fn:=aE 135) (az (aM U (v:=.tab) (az (aM U (v:=aH l) (az (aM U (v:=aH o) (az (aM U (v:=.bool y) (az (aM U (v:=.bool s) (bj (.of e ⟨cW U,u,a0,aP,rfl,rfl,aT ap (dh (by decide) c),.inl q⟩))))))))))))))
 obtain⟨e1,e2⟩:=(qO ..).mp e1
 obtain⟨rQ,e2⟩:=(qO ..).mp e2
 obtain⟨fy,dE⟩:=(qO ..).mp e2
 obtain rfl:y=true:=by rcases y with _|_;exact Bool.noConfusion rQ;rfl
 refine bm (bO (WE.is (a:=kX l o) (s:=ar D c) ?_ ?_))
 .refine fN (fp (b6 (aM U (v:=aH l) (.og (v:=.tup [.int 0,.int 13]) ⟨_,(za ag D c).1,?_⟩))))
  unfold kX
  rcases fx l 0 with _|_
  rotate_left
  .exact⟨rfl,rfl⟩
  refine fp (b6 (aM U (v:=aH o) (.og (v:=.tup [.int 0,.int 13,.int 1]) ⟨_,(za aG D c).2,?_⟩)))
  rcases fx o 0||fx o 1 with _|_
  .exact dc ⟨rfl,rfl⟩
  .exact⟨rfl,rfl⟩
 rcases fM:kX l o with _|_
 .exact bm (ajQ ag aG aJ (ajO dE eY) dE s U)
 .exact ck (aM U (v:=aH l) ⟨l,D,c,rfl,rfl,eZ ..,.inl (.inl ⟨fM,rfl⟩)⟩)
noncomputable def Q4:List Nat:=[0,0,2,3,2,5,6,2,3,9,10,11,12,13]
noncomputable def wordL:List Nat:=[2,1,5,5,0,0,0,3,3,3,3,1,1,4]
def kf (v w:Nat) (s:Bool):Bool:=cond (Nat.beq v 10||Nat.beq w 10) false (cond s (Nat.beq v w) (Nat.beq (fR Q4 0 v) (fR Q4 0 w)))
def s1 (v w:Nat) (s:Bool):Bool:= !s&&(Nat.blt 1 (min v w)&&(Nat.blt (max v w) 11&& !Nat.beq (fR wordL 0 v) (fR wordL 0 w)))
def Q5 (q:Nat) (s:Bool) (v:Nat):Bool:=R14.any λw=>cS q w&&kf v w s
def Q6 (q:Nat) (s:Bool) (v:Nat):Bool:=R14.any λw=>cS q w&& !kf v w s
def Q7 (q:Nat) (s:Bool) (v:Nat):Bool:=R14.any λw=>cS q w&&s1 v w s
def gp (q:Nat) (s:Bool):Nat:=match s with
 |true=>lW [(0,15359),(1,15359),(4,1),(5,2),(6,112),(7,896),(8,4),(9,8),(10,14336),(11,15356),(15,8),(16,4096),(18,16),(19,32),(20,32),(21,64),(22,128),(23,256),(24,512),(25,128),(26,256),(27,32),(28,4096),(29,8192),(30,15359)] q
 |false=>lW [(0,15359),(1,15359),(4,3),(5,3),(6,244),(7,924),(8,148),(9,264),(10,14336),(11,15356),(15,264),(16,4096),(18,148),(19,32),(20,32),(21,64),(22,148),(23,264),(24,512),(25,148),(26,264),(27,32),(28,4096),(29,8192),(30,15359)] q
def iv (q:Nat) (s:Bool):Nat:=match s with
 |true=>lW [(0,16383),(1,16383),(4,16382),(5,16381),(6,16383),(7,16383),(8,16379),(9,16375),(10,16383),(11,16383),(15,16375),(16,12287),(18,16367),(19,16351),(20,16351),(21,16319),(22,16255),(23,16127),(24,15871),(25,16255),(26,16127),(27,16351),(28,12287),(29,8191),(30,16383)] q
 |false=>lW [(0,16383),(1,16383),(4,16380),(5,16380),(6,16383),(7,16383),(8,16235),(9,16119),(10,16383),(11,16383),(15,16119),(16,12287),(18,16235),(19,16351),(20,16351),(21,16319),(22,16235),(23,16119),(24,15871),(25,16235),(26,16119),(27,16351),(28,12287),(29,8191),(30,16383)] q
def l2 (q:Nat) (s:Bool):Nat:=match s with
 |true=>0
 |false=>lW [(0,2044),(1,2044),(4,0),(5,0),(6,1932),(7,124),(8,2032),(9,2032),(10,0),(11,2044),(15,2032),(16,0),(18,1932),(19,1932),(20,1932),(21,1932),(22,124),(23,124),(24,124),(25,124),(26,124),(27,1932),(28,0),(29,0),(30,2044)] q
theorem ajS:(PSo.all λq=>bothS.all λs=>R14.all λv=>((gp q s).testBit v==Q5 q s v)&&(((iv q s).testBit v==Q6 q s v)&&((l2 q s).testBit v==Q7 q s v)))=true:=by rfl'
theorem s2{q:Nat}(aO:q∈PSo)(s:Bool){v:Nat}(al:v<14):(gp q s).testBit v=Q5 q s v/\(iv q s).testBit v=Q6 q s v/\(l2 q s).testBit v=Q7 q s v:=by
 have h:=bl (bl (bl ajS aO) (f8 s)) (R14_mem.mpr al)
 rw[c6,c6] at h
 exact⟨eq_of_beq h.1,eq_of_beq h.2.1,eq_of_beq h.2.2⟩
def qw (o:List Nat) (s:Bool) (v:Nat):Bool:=(cT (cZ o)).any λw=>kf v w s
def l3 (o:List Nat) (s:Bool) (v:Nat):Bool:=(cT (cZ o)).any λw=> !kf v w s
def oy (o:List Nat) (s:Bool) (v:Nat):Bool:=(cT (cZ o)).any λw=>s1 v w s
theorem G2{o:List Nat}{p:Nat->Bool}:(cT (cZ o)).any p=true↔∃q∈o,(R14.any λw=>cS q w&&p w)=true:=by
 simp only[tv,fV_mem,HS_iff,c6,R14_mem]
 constructor
 .rintro⟨w,⟨cs,q,aO,h⟩,e⟩
  exact⟨q,aO,w,cs,h,e⟩
 .rintro⟨q,aO,w,cs,h,e⟩
  exact⟨w,⟨cs,q,aO,h⟩,e⟩
theorem s3{o:List Nat}(aG:∀q∈o,q∈PSo){s:Bool}{v:Nat}(al:v<14):qw o s v=true↔∃q∈o,(gp q s).testBit v=true:=by
 unfold qw
 rw[G2]
 exact⟨λ⟨q,aO,h⟩=>⟨q,aO,(s2 (aG q aO) s al).1.trans h⟩,λ⟨q,aO,h⟩=>⟨q,aO,(s2 (aG q aO) s al).1.symm.trans h⟩⟩
theorem s4{o:List Nat}(aG:∀q∈o,q∈PSo){s:Bool}{v:Nat}(al:v<14):l3 o s v=true↔∃q∈o,(iv q s).testBit v=true:=by
 unfold l3
 rw[G2]
 exact⟨λ⟨q,aO,h⟩=>⟨q,aO,(s2 (aG q aO) s al).2.1.trans h⟩,λ⟨q,aO,h⟩=>⟨q,aO,(s2 (aG q aO) s al).2.1.symm.trans h⟩⟩
theorem zc{o:List Nat}(aG:∀q∈o,q∈PSo){s:Bool}{v:Nat}(al:v<14):oy o s v=true↔∃q∈o,(l2 q s).testBit v=true:=by
 unfold oy
 rw[G2]
 exact⟨λ⟨q,aO,h⟩=>⟨q,aO,(s2 (aG q aO) s al).2.2.trans h⟩,λ⟨q,aO,h⟩=>⟨q,aO,(s2 (aG q aO) s al).2.2.symm.trans h⟩⟩
noncomputable def oz (a b:Nat):Bool:= !Nat.beq (Nat.land a b) 0
noncomputable def iw (a b:Nat):Bool:=Nat.beq (Nat.land a b) a
theorem kY{a b v:Nat}(h:iw a b=true)(al:a.testBit v=true):b.testBit v=true:=Ql h al
theorem Q8{a b v:Nat}(h:oz a b=false)(aa:a.testBit v=true)(ah:b.testBit v=true):False:=by
 unfold oz at h
 have e:a&&&b=0:=ei (by simpa using h)
 have:=qX a b v
 rw[e,aa,ah,qW] at this
 cases this
theorem ajT{a b:Nat}(aw:a<2^14)(h:oz a b=true):∃v,v<14/\a.testBit v=true/\b.testBit v=true:=by
 unfold oz at h
 have e:a&&&b≠0:=λe=>by
  rw[show Nat.land a b=0 from e] at h;cases h
 obtain⟨v,al⟩:=Nat.exists_testBit_of_ne_zero e
 rw[qX,c6] at al
 refine⟨v,?_,al⟩
 refine Nat.lt_of_not_le λq=>?_
 have:=Nat.testBit_lt_two_pow (me aw (Nat.pow_le_pow_right (by decide) q))
 rw[this] at al
 cases al.1
theorem ajU:(PS.all λi=>Nat.blt (dk i) (2^14))=true:=by rfl'
theorem Q9{i:Nat}(hi:i∈PS):dk i<2^14:=by
 have:=bl ajU hi
 exact fi this
def iy (dl:List Nat) (i m:Nat):Bool:=Nat.blt 30 i||bY i dl||oz (dk i) m
theorem oA{dl may:List Nat}{i m:Nat}(hi:i∈PS)(h:iy dl i m=true)(av:∀v,v<14->m.testBit v=true->bY v may=true):g5 dl may i=true:=by
 unfold iy at h
 unfold g5
 rw[f9] at h |-
 refine h.imp id λh=>?_
 obtain⟨v,al,a,b⟩:=ajT (Q9 hi) h
 exact List.any_eq_true.mpr ⟨v,R14_mem.mpr al,by rw [c6];exact⟨a,av v al b⟩⟩
def j2 (r:List Nat):Nat:=r.foldr (λi m=>Nat.lor (dk i) m) 0
theorem s5{r:List Nat}{v:Nat}:(j2 r).testBit v=cZ r v:=by
 induction r with
 |nil=>exact qW v
 |cons i r bb=>
  show (dk i|||j2 r).testBit v=_
  rw[zZ,bb];rfl
theorem aob{r:List Nat}(aq:∀i∈r,i∈PS):j2 r<2^14:=by
 induction r with
 |nil=>decide
 |cons i r bb=>exact Nat.or_lt_two_pow (Q9 (aq i (by simp))) (bb λj bt=>aq j (.tail _ bt))
theorem s6{R:Nat->List Nat->Prop}{l u sure may dl:List Nat}(a7:Uni R l u)(j0:∀i∈l,∀r,R i r->(∀v,v<14->cS i v=true->bY v sure=true->cZ r v=true)/\∀v,v<14->cZ r v=true->cS i v=true/\g5 dl may i=true):Good l u sure may dl:=by
 obtain⟨ec,a3,a7,aq,cov⟩:=a7
 refine⟨λv al h aJ=>?_,λv al h=>?_⟩
 .obtain⟨i,hi,e⟩:=HS_iff.mp h
  rcases cov.to i hi with ⟨r,s0,q⟩|q
  .exact(vB aq a7 al).mpr ⟨r,s0,(j0 i hi r q).1 v al e aJ⟩
  .exact absurd ((j0 i hi [] q).1 v al e aJ) (by simp [cZ])
 .obtain⟨r,s0,q⟩:=(vB aq a7 al).mp h
  obtain⟨i,hi,e⟩:=cov.zy r s0
  obtain⟨a,b⟩:=(j0 i hi r e).2 v al q
  exact⟨i,hi,b,a⟩
theorem Ra{l sure may dl:List Nat}(h:∀i∈l,∀v,v<14->cS i v=true->g5 dl may i=true):Good l l sure may dl:=
 ⟨λ_ _ h _=>h,λv al e=>let ⟨i,hi,q⟩:=HS_iff.mp e;⟨i,hi,h i hi v al q,q⟩⟩
theorem zd{i v:Nat}(h:cS i v=true):Nat.beq (dk i) 0=false:=by
 cases e:Nat.beq (dk i) 0 with
 |false=>rfl
 |true=>
  unfold cS at h
  rw[ei e,qW] at h
  cases h
def l4 (dl:List Nat) (i sure may:Nat) (r:List Nat):Bool:=iw (Nat.land (dk i) sure) (j2 r)&&(Nat.beq (j2 r) 0||(iw (j2 r) (dk i)&&iy dl i may))
theorem oB{dl sl ml:List Nat}{i sure may:Nat}{r:List Nat}(hi:i∈PS)(h:l4 dl i sure may r=true)(aJ:∀v,v<14->bY v sl=true->sure.testBit v=true)(av:∀v,v<14->may.testBit v=true->bY v ml=true):
  (∀v,v<14->cS i v=true->bY v sl=true->cZ r v=true)/\∀v,v<14->cZ r v=true->cS i v=true/\g5 dl ml i=true:=by
 unfold l4 at h
 rw[c6] at h
 obtain⟨aa,ah⟩:=h
 refine⟨λv al a b=>?_,λv al a=>?_⟩
 .rw[<-s5]
  refine kY aa ?_
  show (dk i&&&sure).testBit v=true
  rw[qX,c6]
  exact⟨a,aJ v al b⟩
 .rw[<-s5] at a
  rcases(f9 ..).mp ah with ah|ah
  .rw[ei ah,qW] at a;cases a
  .rw[c6] at ah
   exact⟨kY ah.1 a,oA hi ah.2 av⟩
def qx (w:Nat):Nat:=fR [112,6146,1,1920,8192,12] 0 w
noncomputable def trM:Nat:=15208
noncomputable def kZ (y:Bool) (m:Nat):Nat:=cond y m (16383 - m)
theorem ajV:((List.range 6).all λw=>bothS.all λy=>PSa.all λi=>l4 [] i (kZ y (qx w)) (kZ y (qx w)) (ir w y i))=true:=by rfl'
theorem Rb:(PS.all λi=>l4 [] i trM trM (ff 104 i)&&l4 [] i (kZ false trM) (kZ false trM) (ff 109 i))=true:=by rfl'
theorem Rc:(PS.all λi=>iw (Nat.land (dk i) trM) (j2 (ff 101 i))&&iw (j2 (ff 101 i)) (dk i))=true:=by rfl'
def oC (sl:List Nat) (m:Nat):Prop:=∀v,v<14->(bY v sl=true↔m.testBit v=true)
theorem Re{w:Nat}(cs:w<6)(y:Bool){l u:List Nat}(aw:∀i∈l,i∈PSa){a3:List (List Nat)}(ec:Pts u)(a7:eG (eb a3) u)(P:Paired (λi r=>r.Perm (ir w y i)) l a3){sl:List Nat}(aJ:oC sl (kZ y (qx w))):Good l u sl sl []:=by
 have iQ:∀i∈l,i∈PS:=λi hi=>(List.mem_filter.mp (aw i hi)).1
 refine s6 (R:=λi r=>i∈PSa/\r.Perm (ir w y i)) ⟨ec,a3,a7,λr aq=>?_,?_⟩ λi hi r ⟨_,p⟩=>?_
 .obtain⟨i,hi,p⟩:=Paired.all P r aq
  exact(Gg cs y (aw i hi)).perm p
 .refine⟨λr aq=>?_,λi hi=>?_⟩
  .obtain⟨i,hi,p⟩:=Paired.all P r aq
   exact⟨i,hi,aw i hi,p⟩
  .rcases(Paired.cov P).to i hi with ⟨r,aq,p⟩|p
   .exact .inl ⟨r,aq,aw i hi,p⟩
   .exact .inr ⟨aw i hi,p⟩
 .have h:=oB (dl:=[]) (sl:=sl) (ml:=sl) (iQ i hi) (bl (bl (bl ajV (List.mem_range.mpr cs)) (f8 y)) (aw i hi)) (λv al=>(aJ v al).mp) λv al=>(aJ v al).mpr
  have e:∀v,cZ r v=cZ (ir w y i) v:=λv=>by
   rw[i5,HS_iff,HS_iff]
   exact⟨λ⟨j,bt,q⟩=>⟨j,p.mem_iff.mp bt,q⟩,λ⟨j,bt,q⟩=>⟨j,p.mem_iff.mpr bt,q⟩⟩
  exact⟨λv al a b=>(e v).trans (h.1 v al a b),λv al a=>h.2 v al ((e v).symm.trans a)⟩
theorem G3{F:Nat->List Nat}{l u:List Nat}(ec:Pts u)(dY:∀i∈l,Pts (F i))(a7:eG (eb (l.map F)) u):Uni (λi r=>r=F i) l u:=by
 refine⟨ec,_,a7,λr aq=>?_,λr aq=>?_,λi hi=> .inl ⟨F i,List.mem_map.mpr ⟨i,hi,rfl⟩,rfl⟩⟩
 .obtain⟨i,hi,rfl⟩:=List.mem_map.mp aq;exact dY i hi
 .obtain⟨i,hi,rfl⟩:=List.mem_map.mp aq;exact⟨i,hi,rfl⟩
theorem ajW{l u:List Nat}(ag:Pts l)(ec:Pts u)(a7:eG (eb (l.map (ff 109))) u){sl:List Nat}(aJ:oC sl (kZ false trM)):Good l u sl sl []:=by
 refine s6 (G3 ec (λi hi=>sN (ag.sub i hi)) a7) λi hi r e=>?_
 subst e
 have h:=bl Rb (ag.sub i hi)
 rw[c6] at h
 exact oB (ag.sub i hi) h.2 (λv al=>(aJ v al).mp) λv al=>(aJ v al).mpr
theorem ajX{l u1 u:List Nat}(ag:Pts l)(fm:Pts u1)(oD:eG (eb (l.map (ff 104))) u1)(ec:Pts u)(a7:eG (eb (u1.map (ff 101))) u){sl:List Nat}(aJ:oC sl trM):Good l u sl sl []:=by
 have g1:Good l u1 sl sl []:=s6 (G3 fm (λi hi=>sN (ag.sub i hi)) oD) λi hi r e=>by
  subst e
  have h:=bl Rb (ag.sub i hi)
  rw[c6] at h
  exact oB (ag.sub i hi) h.1 (λv al=>(aJ v al).mp) λv al=>(aJ v al).mpr
 have aq:∀r∈u1.map (ff 101),Pts r:=λr aq=>by
  obtain⟨i,hi,rfl⟩:=List.mem_map.mp aq
  exact sN (fm.sub i hi)
 refine⟨λv al a b=>?_,λv al a=>?_⟩
 .obtain⟨i,hi,e⟩:=HS_iff.mp (g1.keep v al a b)
  have h:=bl Rc (fm.sub i hi)
  rw[c6] at h
  refine(vB aq a7 al).mpr ⟨_,List.mem_map.mpr ⟨i,hi,rfl⟩,?_⟩
  rw[<-s5]
  refine kY h.1 ?_
  show (dk i&&&trM).testBit v=true
  rw[qX,c6]
  exact⟨e,(aJ v al).mp b⟩
 .obtain⟨r,lv,e⟩:=(vB aq a7 al).mp a
  obtain⟨i,hi,rfl⟩:=List.mem_map.mp lv
  have h:=bl Rc (fm.sub i hi)
  rw[c6] at h
  rw[<-s5] at e
  exact g1.only v al (HS_iff.mpr ⟨i,hi,kY h.2 e⟩)
noncomputable def dP:List Nat:=[16,28,29]
theorem BY:(PS.all λi=>PSo.all λq=>bothS.all λs=>iu i q s|| !oz (dk i) (gp q s))=true:=by rfl'
theorem BZ:(PS.all λi=>PSo.all λq=>bothS.all λs=> !iu i q s||(Nat.beq (dk i) 0||iy dP i (Nat.lor (gp q s) (l2 q s))))=true:=by rfl'
theorem B0:([6,7].all λi=>PSo.all λq=>bothS.all λs=> !(Nat.beq (bB q) (bB i)&& !fv q)||(iw (Nat.land (dk i) (gp q s)) (dk q)&&iw (dk q) (dk i)))=true:=by rfl'
theorem B1:(PSo.all λq=> !(dU q&&iu 11 q true)||(iw (Nat.land (dk 11) (gp q true)) (dk q)&&iw (dk q) (dk 11)))=true:=by rfl'
theorem rf:(PSo.all λq=>bothS.all λs=>iy dP 0 (gp q s)&&(iy dP 1 (gp q s)&&(iy dP 0 (iv q s)&&iy dP 1 (iv q s))))=true:=by rfl'
theorem wq:(PS.all λi=>[0,1].all λq=>bothS.all λs=>Nat.beq (dk i) 0||(iy dP i (gp q s)&&iy dP i (iv q s)))=true:=by rfl'
theorem B2:(PS.all λi=>PSo.all λq=>bothS.all λs=> !fv q||(Nat.beq (dk i) 0||iy dP i (Nat.lor (iv q s) (l2 q s))))=true:=by rfl'
theorem B3:(PS.all λi=>PSo.all λq=>bothS.all λs=>fv q||(eu q&& !s)||(cond (gL q i) (Nat.beq (dk i) 0||iy dP i (Nat.lor (iv q s) (l2 q s))) (!oz (dk i) (iv q s))))=true:=by rfl'
theorem B4:([4,5].all λq=>iw (iv q true) (j2 [9 - q,11]))=true:=by rfl'
def k0 (o:List Nat) (s:Bool):Nat:=o.foldr (λq m=>Nat.lor (gp q s) m) 0
def Rf (o:List Nat) (s:Bool):Nat:=o.foldr (λq m=>Nat.lor (iv q s) m) 0
def s7 (o:List Nat) (s:Bool):Nat:=o.foldr (λq m=>Nat.lor (l2 q s) m) 0
def Rg (o:List Nat) (s:Bool):Nat:=cond (Nat.ble 2 o.length) 16383 (Nat.lor (Rf o s) (s7 o s))
theorem ajY:(nkO.all λo=>bothS.all λs=>PS.all λi=> !eu i||l4 dP i (k0 o s) (Nat.lor (k0 o s) (s7 o s)) (cond ((m7 o s).any λq=>jy i q s) [i] []))=true:=by rfl'
theorem ajZ:(nkO.all λo=>bothS.all λs=>l4 dP 0 (k0 o s) (Nat.lor (k0 o s) (s7 o s)) [0]&&l4 dP 30 (k0 o s) (Nat.lor (k0 o s) (s7 o s)) ((m7 o s).map (· +27)))=true:=by rfl'
theorem ak0:(nkO.all λo=>bothS.all λs=>PS.all λi=>eu i||(Nat.beq i 0||(qs i||l4 dP i (k0 o s) (Nat.lor (k0 o s) (s7 o s)) [])))=true:=by rfl'
theorem ak1:(nkO.all λo=>PS.all λi=>l4 dP i (Rf o false) (Rg o false) (ff 101 i))=true:=by rfl'
theorem oD:(nkO.all λo=>iw (k0 o false) (j2 [4,5]))=true:=by rfl'
theorem ak2:(PSo.all λq=> !(Nat.beq (bB q) 7&& !ov q)||iw (gp q true) (dk 10))=true:=by rfl'
theorem ak3:(PSo.all λq=>(Nat.beq (bB q) 0||(Nat.beq (bB q) 6||Nat.beq (bB q) 7))||iw (gp q true) (dk q))=true:=by rfl'
theorem fold_bit{f:Nat->Nat}{v:Nat}:∀{o:List Nat},(o.foldr (λq m=>Nat.lor (f q) m) 0).testBit v=true↔∃q∈o,(f q).testBit v=true
 |[]=>by
  show (0:Nat).testBit v=true↔_
  rw[qW]
  exact⟨λh=>c2 h,λ⟨_,h,_⟩=>nomatch h⟩
 |q::o=>by
  show (f q|||o.foldr (λq m=>Nat.lor (f q) m) 0).testBit v=true↔_
  rw[zZ,f9,fold_bit]
  exact⟨λh=>h.elim (λh=>⟨q,.head _,h⟩) λ⟨p,aS,h⟩=>⟨p,.tail _ aS,h⟩,λ⟨p,aS,h⟩=>(List.mem_cons.mp aS).elim (λe=> .inl (e▸h)) λaS=> .inr ⟨p,aS,h⟩⟩
theorem lor_bit{a b v:Nat}:(Nat.lor a b).testBit v=true↔a.testBit v=true\/b.testBit v=true:=by
 show (a|||b).testBit v=true↔_
 rw[zZ,f9]
section
variable {l o sure may u:List Nat}{s:Bool}
theorem ze{h r:List Nat}(S:Same h r){v:Nat}(al:v<14):cZ r v=true↔∃q∈h,cS q v=true:=by
 rw[S.held v al,HS_iff]
theorem HS_one{i v:Nat}:cZ [i] v=cS i v:=z1 _
structure Tells (sure may:List Nat) (i:Nat) (r:List Nat):Prop where
 k:∀v,v<14->cS i v=true->bY v sure=true->cZ r v=true
 o:∀v,v<14->cZ r v=true->cS i v=true/\g5 dP may i=true
structure OnW (o sure may:List Nat) (s:Bool):Prop where
 so:∀q∈o,q∈PSo
 sure:∀v,v<14->bY v sure=true->qw o s v=true
 may:∀v,v<14->qw o s v=true\/oy o s v=true->bY v may=true
theorem OnW.one(W:OnW o sure may s){q:Nat}(aO:q∈o)(v:Nat)(al:v<14)(e:(gp q s).testBit v=true):bY v may=true:=W.may v al (.inl ((s3 W.so al).mpr ⟨q,aO,e⟩))
theorem OnW.two(W:OnW o sure may s){q:Nat}(aO:q∈o)(v:Nat)(al:v<14)(e:(Nat.lor (gp q s) (l2 q s)).testBit v=true):bY v may=true:=
 W.may v al ((lor_bit.mp e).imp (λe=>(s3 W.so al).mpr ⟨q,aO,e⟩) λe=>(zc W.so al).mpr ⟨q,aO,e⟩)
theorem OnW.hit(W:OnW o sure may s){i:Nat}(hi:i∈PS){v:Nat}(al:v<14)(a:cS i v=true)(b:bY v sure=true):∃q∈g6 i o s,(gp q s).testBit v=true:=by
 obtain⟨q,aO,e⟩:=(s3 W.so al).mp (W.sure v al b)
 rcases(f9 ..).mp (bl (bl (bl BY hi) (W.so q aO)) (f8 s)) with t|t
 .exact⟨q,List.mem_filter.mpr ⟨aO,t⟩,e⟩
 .exact(Q8 ((ki _).mp t) a e).elim
theorem OnW.op(W:OnW o sure may s){i:Nat}(hi:i∈PS){q:Nat}(aO:q∈g6 i o s){v:Nat}(a:cS i v=true):g5 dP may i=true:=by
 obtain⟨aO,t⟩:=List.mem_filter.mp aO
 have h:=bl (bl (bl BZ hi) (W.so q aO)) (f8 s)
 rw[t,zd a] at h
 exact oA hi h (W.two aO)
theorem OnW.same(W:OnW o sure may s){i:Nat}(hi:i∈PS){r:List Nat}(k:∀q∈g6 i o s,iw (Nat.land (dk i) (gp q s)) (dk q)=true/\iw (dk q) (dk i)=true)(S:Same (g6 i o s) r):Tells sure may i r:=by
 refine⟨λv al a b=>(ze S al).mpr ?_,λv al a=>?_⟩
 .obtain⟨q,aO,e⟩:=W.hit hi al a b
  refine⟨q,aO,kY (k q aO).1 ?_⟩
  show (dk i&&&gp q s).testBit v=true
  rw[qX]
  exact(c6 _ _).mpr ⟨a,e⟩
 .obtain⟨q,aO,e⟩:=(ze S al).mp a
  have nY:cS i v=true:=kY (k q aO).2 e
  exact⟨nY,W.op hi aO nY⟩
theorem ak4{i:Nat}(h:qt i=true):i∈[6,7]:=by
 rcases(f9 ..).mp (show (Nat.beq i 6||Nat.beq i 7)=true from h) with e|e<;>rw[ei e]<;>decide
theorem ak5(W:OnW o sure may s){i:Nat}(hi:i∈PS){r:List Nat}(h:kW i o s r):Tells sure may i r:=by
 rcases h with ⟨h0,e⟩|⟨h0,e|⟨ak6,k,S⟩|⟨e1,e2,k,S⟩⟩
 .rw[e]
  refine⟨λv al a b=>?_,λv al a=>c2 a⟩
  obtain⟨q,aO,_⟩:=W.hit hi al a b
  rw[h0] at aO
  exact nomatch aO
 .obtain⟨q,aO⟩:=tk _ h0
  rw[e]
  exact⟨λv al a _=>HS_one.trans a,λv al a=>⟨HS_one.symm.trans a,W.op hi aO (HS_one.symm.trans a)⟩⟩
 .refine W.same hi (λq aO=>?_) S
  have h:=bl (bl (bl B0 (ak4 ak6)) (W.so q (List.mem_filter.mp aO).1)) (f8 s)
  rw[(k q aO).1,(k q aO).2] at h
  exact aK h
 .refine W.same hi (λq aO=>?_) S
  obtain⟨G4,t⟩:=List.mem_filter.mp aO
  have h:=bl B1 (W.so q G4)
  rw[e1,e2] at t |-
  rw[k q aO,t] at h
  exact aK h
theorem G5{l:List Nat}{z:Nat}(h:fx l z=true)(bi:z≠2):l=[z]:=by
 rcases l with _|⟨i,_|⟨j,r⟩⟩
 .exact absurd (Int.ofNat.inj (iEq_iff.mp (show cN (2:Nat) z=true from h))).symm bi
 .rw[Int.ofNat.inj (iEq_iff.mp (show cN i z=true from h))]
 .exact c2 h
theorem ak7(h:kX l o=true):l=[0]\/o=[0]\/o=[1]:=
 ((f9 ..).mp h).imp (λh=>G5 (z:=0) h (by decide)) λh=>((f9 ..).mp h).imp (λh=>G5 (z:=0) h (by decide)) λh=>G5 (z:=1) h (by decide)
theorem Rh(ag:Pts l){f:Nat->Nat}(eY:o≠[])(aw:kX l o=true)(aa:∀q∈o,∀v,v<14->(f q).testBit v=true->bY v may=true)(ee:∀q∈o,iy dP 0 (f q)=true)(mF:∀i∈PS,∀q∈[0,1],(Nat.beq (dk i) 0||iy dP i (f q))=true):Good l l sure may dP:=by
 refine Ra λi hi v al e=>?_
 have dq:=λ(q:Nat) (aO:q∈[0,1]) (m:q∈o)=>by
  have h:=mF i (ag.sub i hi) q aO
  rw[zd e] at h
  exact oA (ag.sub i hi) h (aa q m)
 rcases ak7 aw with bq|bq|bq
 .obtain⟨q,aO⟩:=tk o eY
  rw[bq] at hi
  rw[dG hi]
  exact oA (by decide) (ee q aO) (aa q aO)
 .exact dq 0 (by decide) (bq▸ .head _)
 .exact dq 1 (by decide) (bq▸ .head _)
theorem ak8(W:OnW o sure may s)(eY:o≠[])(vK:vH o s u):Good [1] u sure may dP:=by
 obtain⟨dp,Ri⟩:=tk o eY
 have G6:=aK (aK (bl (bl rf (W.so dp Ri)) (f8 s))).2
 refine⟨λv al _ b=>?_,λv al _=>⟨1,.head _,oA (by decide) G6.1 (W.one Ri),vA (.inr rfl) al⟩⟩
 obtain⟨q,aO,e⟩:=(s3 W.so al).mp (W.sure v al b)
 rcases vK with ⟨es,aX,fy⟩|fy|⟨es,k,fy⟩|⟨es,k,fy⟩
 .rw[fy,<-s5]
  have h:=bl QQ (W.so q aO)
  rw[List.all_eq_true.mp (aK (show (!o.isEmpty&&o.all eu)=true from aX)).2 q aO] at h
  rw[es] at e
  rcases(f9 (q.beq 4) (q.beq 5)).mp h with h|h<;>rw[ei h] at e
  .exact kY (a:=gp 4 false) (by decide) e
  .exact kY (a:=gp 5 false) (by decide) e
 .rw[fy,HS_one];exact vA (.inr rfl) al
 .have h:=bl ak2 (W.so q aO)
  rw[(k q aO).1,(k q aO).2] at h
  rw[fy,HS_one]
  rw[es] at e
  exact kY h e
 .have h:=bl ak3 (W.so q aO)
  rw[(k q aO).1,(k q aO).2.1,(k q aO).2.2] at h
  rw[es] at e
  exact HS_iff.mpr ⟨q,fy▸aO,kY h e⟩
theorem Rj{r m:List Nat}(p:r.Perm m)(v:Nat):cZ r v=cZ m v:=by
 rw[i5,HS_iff,HS_iff]
 exact⟨λ⟨j,bt,q⟩=>⟨j,p.mem_iff.mp bt,q⟩,λ⟨j,bt,q⟩=>⟨j,p.mem_iff.mpr bt,q⟩⟩
theorem ak9(W:OnW o sure may s)(ag:Pts l)(ke:o∈nkO)(a7:Uni (y2 (m7 o s) s) l u):Good l u sure may dP:=by
 refine s6 a7 λi hi r q=>?_
 have iM:=ag.sub i hi
 have jp:∀v,v<14->bY v sure=true->(k0 o s).testBit v=true:=λv al b=>fold_bit.mpr ((s3 W.so al).mp (W.sure v al b))
 have ly:∀v,v<14->(Nat.lor (k0 o s) (s7 o s)).testBit v=true->bY v may=true:=λv al b=>W.may v al ((lor_bit.mp b).imp (λb=>(s3 W.so al).mpr (fold_bit.mp b)) λb=>(zc W.so al).mpr (fold_bit.mp b))
 have hb:=aK (bl (bl ajZ ke) (f8 s))
 rcases q with ⟨n,q⟩|⟨n,⟨e1,e2⟩|⟨e1,p⟩|⟨e7,em,e1⟩⟩
 .have i7:=bl (bl (bl ajY ke) (f8 s)) iM
  rw[n] at i7
  rcases q with ⟨a,e⟩|⟨a,e⟩<;>rw[a] at i7<;>exact oB iM (e▸i7) jp ly
 .rw[e1,e2]
  exact oB (by decide) hb.1 jp ly
 .have h:=oB (e1▸iM) hb.2 jp ly
  rw[e1]
  exact⟨λv al a b=>(Rj p v).trans (h.1 v al a b),λv al a=>h.2 v al ((Rj p v).symm.trans a)⟩
 .have k4:=bl (bl (bl ak0 ke) (f8 s)) iM
  rw[n,e7,em] at k4
  exact e1▸oB iM k4 jp ly
theorem aka(ag:Pts l)(aG:∀q∈o,q∈PSo)(eY:o≠[])(G7:∀v,v<14->bY v sure=true->qw o s v=true)(G8:∀v,v<14->qw o s v=true\/oy o s v=true->bY v may=true)(h:m8 l o true s u):Good l u sure may dP:=by
 have W:OnW o sure may s:=⟨aG,G7,G8⟩
 have Rk:Uni (λi r=>kW i o s r) l u->Good l u sure may dP:=λa7=>s6 a7 λi hi r q=>let t:=ak5 W (ag.sub i hi) q;⟨t.k,t.o⟩
 rcases h with (⟨aw,e⟩|⟨_,_,⟨e,vK⟩|⟨_,ke,a7⟩|⟨_,a7⟩⟩|⟨_,q,_⟩)|⟨_,_,a7⟩
 .rw[e]
  exact Rh ag eY aw (λq aO=>W.one aO) (λq aO=>(aK (bl (bl rf (aG q aO)) (f8 s))).1) λi hi q aO=>by
   have h:=bl (bl (bl wq hi) aO) (f8 s)
   rcases e:Nat.beq (dk i) 0 with _|_<;>rw[e] at h
   .exact(aK h).1
   .rfl
 .rw[e];exact ak8 W eY vK
 .exact ak9 W ag ke a7
 .exact Rk a7
 .exact c2 q.symm
 .exact Rk a7
structure OfW (o sure may:List Nat) (s:Bool):Prop where
 so:∀q∈o,q∈PSo
 sure:∀v,v<14->bY v sure=true->l3 o s v=true
 may:∀v,v<14->2<=o.length\/l3 o s v=true\/oy o s v=true->bY v may=true
theorem OfW.one(W:OfW o sure may s){q:Nat}(aO:q∈o)(v:Nat)(al:v<14)(e:(iv q s).testBit v=true):bY v may=true:=W.may v al (.inr (.inl ((s4 W.so al).mpr ⟨q,aO,e⟩)))
theorem OfW.two(W:OfW o sure may s){q:Nat}(aO:q∈o)(v:Nat)(al:v<14)(e:(Nat.lor (iv q s) (l2 q s)).testBit v=true):bY v may=true:=
 W.may v al (.inr ((lor_bit.mp e).imp (λe=>(s4 W.so al).mpr ⟨q,aO,e⟩) λe=>(zc W.so al).mpr ⟨q,aO,e⟩))
theorem akb(W:OfW o sure may s)(ag:Pts l)(eY:o≠[])(al:y7 o=true):Good l l sure may dP:=by
 refine Ra λi hi v fK e=>?_
 rcases o with _|⟨q,_|⟨bZ,r⟩⟩
 .exact absurd rfl eY
 .have h:=bl (bl (bl B2 (ag.sub i hi)) (W.so q (.head _))) (f8 s)
  rw[show fv q=true from al,zd e] at h
  exact oA (ag.sub i hi) h (W.two (.head _))
 .unfold g5
  exact(f9 _ _).mpr (.inr (List.any_eq_true.mpr ⟨v,R14_mem.mpr fK,(c6 _ _).mpr ⟨e,W.may v fK (.inl (tz 2 r.length))⟩⟩))
theorem akc{q:Nat}(W:OfW [q] sure may true)(aO:q=4\/q=5):Good [1] [9 - q,11] sure may dP:=by
 have G4:q∈[4,5]:=by rcases aO with e|e<;>rw[e]<;>decide
 have G6:=aK (aK (aK (bl (bl rf (W.so q (.head _))) (f8 true))).2).2
 refine⟨λv al _ b=>?_,λv al _=>⟨1,.head _,oA (by decide) G6.2 (W.one (.head _)),vA (.inr rfl) al⟩⟩
 obtain⟨jg,G9,e⟩:=(s4 W.so al).mp (W.sure v al b)
 rw[dG G9] at e
 rw[<-s5]
 exact kY (bl B4 G4) e
theorem akd{q:Nat}(W:OfW [q] sure may s)(ag:Pts l)(x9:(eu q&& !s)=false)(al:fv q=false)(S:Same (l.filter (gL q)) u):Good l u sure may dP:=by
 have key:∀i∈l,cond (gL q i) (Nat.beq (dk i) 0||iy dP i (Nat.lor (iv q s) (l2 q s))) (!oz (dk i) (iv q s))=true:=λi hi=>by
  have h:=bl (bl (bl B3 (ag.sub i hi)) (W.so q (.head _))) (f8 s)
  rw[al,x9] at h
  exact h
 refine⟨λv al a b=>?_,λv al a=>?_⟩
 .obtain⟨i,hi,e⟩:=HS_iff.mp a
  obtain⟨jg,G9,bq⟩:=(s4 W.so al).mp (W.sure v al b)
  rw[dG G9] at bq
  have k:=key i hi
  rcases gm:gL q i with _|_
  .rw[gm] at k
   exact(Q8 ((ki _).mp k) e bq).elim
  .exact(ze S al).mpr ⟨i,List.mem_filter.mpr ⟨hi,gm⟩,e⟩
 .obtain⟨i,hi,e⟩:=(ze S al).mp a
  obtain⟨hi,gm⟩:=List.mem_filter.mp hi
  have k:=key i hi
  rw[gm,cond_true,zd e] at k
  exact⟨i,hi,oA (ag.sub i hi) k (W.two (.head _)),e⟩
theorem ake{o:List Nat}(W:OfW o sure may false)(ag:Pts l)(ke:o∈nkO)(ec:Pts u)(a7:eG (eb (l.map (ff 101))) u):Good l u sure may dP:=by
 refine s6 (G3 ec (λi hi=>sN (ag.sub i hi)) a7) λi hi r e=>?_
 rw[e]
 refine oB (ag.sub i hi) (bl (bl ak1 ke) (ag.sub i hi)) (λv al b=>fold_bit.mpr ((s4 W.so al).mp (W.sure v al b))) λv al b=>W.may v al ?_
 unfold Rg at b
 rcases e2:Nat.ble 2 o.length with _|_
 .rw[e2] at b
  exact .inr ((lor_bit.mp b).imp (λb=>(s4 W.so al).mpr (fold_bit.mp b)) λb=>(zc W.so al).mpr (fold_bit.mp b))
 .exact .inl (fi e2)
theorem akf(ag:Pts l)(aG:∀q∈o,q∈PSo)(gc:Pts o)(eY:o≠[])(G7:∀v,v<14->bY v sure=true->l3 o s v=true)(G8:∀v,v<14->2<=o.length\/l3 o s v=true\/oy o s v=true->bY v may=true)(h:m8 l o false s u):Good l u sure may dP:=by
 have W:OfW o sure may s:=⟨aG,G7,G8⟩
 rcases h with (⟨aw,e⟩|⟨_,q,_⟩|⟨_,_,⟨es,aX,ec,a7⟩|⟨zf,Ha⟩⟩)|⟨q,_⟩
 .rw[e]
  exact Rh ag eY aw (λq aO=>W.one aO) (λq aO=>(aK (aK (aK (bl (bl rf (aG q aO)) (f8 s))).2).2).1) λi hi q aO=>by
   have h:=bl (bl (bl wq hi) aO) (f8 s)
   rcases e:Nat.beq (dk i) 0 with _|_<;>rw[e] at h
   .exact(aK h).2
   .rfl
 .exact c2 q
 .rw[es] at W
  exact ake W ag (QS gc aG aX) ec a7
 .rcases Ha with ⟨al,e⟩|⟨q,d8,aO,ho,fy⟩|⟨q,d8,al,S⟩
  .rw[e];exact akb W ag eY al
  .rw[d8] at W zf
   rw[ho,fy]
   have aJ:s=true:=zf.elim id λh=>by rcases aO with e|e<;>rw[e] at h<;>exact absurd h (by decide)
   rw[aJ] at W
   exact akc W aO
  .rw[d8] at W zf
   refine akd W ag ?_ al S
   rcases zf with h|h
   .rw[h];exact Bool.and_false _
   .rw[show eu q=false from (z0 _).symm.trans h];rfl
 .exact c2 q
end
theorem Rl:∀q∈PSo,q∈PSa:=by decide
theorem akg:(PSa.all λi=>([101,104,109].all λj=>(ff j i).all λk=>bY k PSa))=true:=by rfl'
theorem akh{j i:Nat}(bt:j=101\/j=104\/j=109)(hi:i∈PSa):∀k∈ff j i,k∈PSa:=λk aj=>
 hT (bl (bl (bl akg hi) (x:=j) (by rcases bt with rfl|rfl|rfl<;>decide)) aj)
theorem aki{a3:List (List Nat)}{u:List Nat}(aq:∀r∈a3,Pts r)(a7:eG (eb a3) u)(h:∀r∈a3,∀k∈r,k∈PSa):∀k∈u,k∈PSa:=λk aj=>by
 rcases GA aq a7 aj with ⟨r,aq,q⟩|rfl|rfl
 .exact h r aq k q
 .decide
 .decide
theorem Hb{h r:List Nat}(S:Same h r)(q:∀k∈h,k∈PSa):∀k∈r,k∈PSa:=λk aj=>by
 rcases S.sub k aj with e|rfl|rfl
 .exact q k e
 .decide
 .decide
structure Now (b:Bool) (l:List Nat):Prop where
 dF:Pts l
 one:1∈l->l=[1]
 a:b=true->∀i∈l,i∈PSa
theorem s8{a3:List (List Nat)}{u:List Nat}{b:Bool}(ec:Pts u)(aq:∀r∈a3,Pts r)(a7:eG (eb a3) u)(h:b=true->∀r∈a3,∀k∈r,k∈PSa):Now b u:=
 ⟨ec,QF (yD aq) a7,λe=>aki aq a7 (h e)⟩
theorem Rm{R:Nat->List Nat->Prop}{l u:List Nat}{b:Bool}(a7:Uni R l u)(h:b=true->∀i∈l,∀r,R i r->∀k∈r,k∈PSa):Now b u:=by
 obtain⟨ec,a3,a7,aq,cov⟩:=a7
 exact s8 ec aq a7 λe r aq k aj=>by
  obtain⟨i,hi,q⟩:=cov.zy r aq
  exact h e i hi r q k aj
theorem zg{j:Nat}(bt:j=101\/j=104\/j=109){l u:List Nat}{b:Bool}(N:Now b l)(ec:Pts u)(a7:eG (eb (l.map (ff j))) u):Now b u:=
 s8 ec (λr aq=>by obtain ⟨i,hi,rfl⟩:=List.mem_map.mp aq;exact sN (N.dF.sub i hi)) a7 λe r aq k aj=>by
  obtain⟨i,hi,rfl⟩:=List.mem_map.mp aq
  exact akh bt (N.a e i hi) k aj
theorem akj{i:Nat}{o:List Nat}{s:Bool}{r:List Nat}(aJ:∀q∈o,q∈PSo)(hi:i∈PSa)(h:kW i o s r):∀k∈r,k∈PSa:=by
 have hh:∀k∈g6 i o s,k∈PSa:=λk aj=>Rl k (aJ k (List.mem_filter.mp aj).1)
 rcases h with ⟨_,rfl⟩|⟨_,rfl|⟨_,_,S⟩|⟨_,_,_,S⟩⟩
 .intro k aj;cases aj
 .intro k aj;rw[dG aj];exact hi
 .exact Hb S hh
 .exact Hb S hh
theorem akk:(nkO.all λo=>o.all λk=>bY (k+27) PSa)=true:=by rfl'
theorem Rn{l o u:List Nat}{y s b:Bool}(N:Now b l)(aL:Now true o)(aJ:∀q∈o,q∈PSo)(h:m8 l o y s u):Now b u:=by
 have eq:Uni (λi r=>kW i o s r) l u->Now b u:=λa7=>Rm a7 λe i hi r q=>akj aJ (N.a e i hi) q
 rcases h with h|⟨_,_,a7⟩
 rotate_left
 .exact eq a7
 rcases h with ⟨_,rfl⟩|⟨_,_,aS⟩|⟨_,_,aS⟩
 .exact N
 .rcases aS with ⟨_,vK⟩|⟨_,ke,a7⟩|⟨_,a7⟩
  .rcases vK with ⟨_,_,rfl⟩|rfl|⟨_,_,rfl⟩|⟨_,_,rfl⟩
   .exact⟨⟨by decide,by decide⟩,by decide,λ_=>by decide⟩
   .exact⟨⟨by decide,by decide⟩,by decide,λ_=>by decide⟩
   .exact⟨⟨by decide,by decide⟩,by decide,λ_=>by decide⟩
   .exact⟨aL.dF,aL.one,λ_=>aL.a rfl⟩
  .refine Rm a7 λe i hi r q=>?_
   have akl:m7 o s∈nkO:=by
    cases s with
    |false=>exact(by decide:[4,5]∈nkO)
    |true=>exact ke
   rcases q with ⟨_,⟨_,rfl⟩|⟨_,rfl⟩⟩|⟨_,⟨rfl,rfl⟩|⟨rfl,p⟩|⟨_,_,rfl⟩⟩
   .intro k aj;rw[dG aj];exact N.a e i hi
   .intro k aj;cases aj
   .intro k aj;rw[dG aj];exact N.a e 0 hi
   .intro k aj
    obtain⟨z,bi,rfl⟩:=List.mem_map.mp (p.mem_iff.mp aj)
    exact hT (bl (bl akk akl) bi)
   .intro k aj;cases aj
  .exact eq a7
 .rcases aS with ⟨_,_,ec,a7⟩|⟨_,Ha⟩
  .exact zg (.inl rfl) N ec a7
  .rcases Ha with ⟨_,rfl⟩|⟨q,_,rfl|rfl,_,rfl⟩|⟨q,_,_,S⟩
   .exact N
   .exact⟨⟨by decide,by decide⟩,by decide,λ_=>by decide⟩
   .exact⟨⟨by decide,by decide⟩,by decide,λ_=>by decide⟩
   .exact⟨S.dF,S.Ic,λe=>Hb S λk aj=>N.a e k (List.mem_filter.mp aj).1⟩
section
variable {G:Gl}{n:Nat}{c:Cx}{J:am}{H:T}{Q:V->T->Prop}{eE:List V->T->Prop}
abbrev akm (f:Expr->T->Option (V×T)) (Q:V->T->Prop) (s:Expr) (b:V) (H:T):Prop:=WE (f s H) (Pn Q b)
theorem fy{b s:Expr}{p:Pos}(h:WE (b7 c J (aN G n c J) b H) (akm (aN G n c J) Q s))(aa:lg b=none:=by rfl)(ah:rs s=none:=by rfl):WE (aN G (n+1) c J (.Subscript b s p) H) Q:=by
 show WE (wG c J (aN G n c J) (ln G n c J) b s H (lg b)) Q
 rw[aa]
 show WE (wF c J (aN G n c J) (ln G n c J) b s H (rs s)) Q
 rw[ah]
 exact WE.ob (h.mono λ_ _ h=>WE.ob (h.mono λ_ _ h=>h.elim λ_ h=>WE.pt h.1 h.2))
theorem hU{f:Expr->T->Option (V×T)}{a b d p}(h:WE (f (.BinOp a b d p) H) Q):WE (b7 c J f (.BinOp a b d p) H) Q:=h
theorem Rp:∀k i,rn i k=(List.range' i k).map bF
 |0,_=>rfl
 |k+1,i=>congrArg (V.int i:: ·) (Rp k (i+1))
abbrev akn (eE:List V->T->Prop) (v:V) (O:T):Prop:=∃k:Nat,v= .int (k:Int)/\k<=1000/\eE ((List.range k).map bF) O
theorem ako{f:Str}{a:Expr}{p q:Pos}(h:WE (aN G n c J a H) (akn eE))(a6:a9 f h5=true:=by rfl')(aj:gy c h5=true:=by rfl')(bx:G.free h5=true:=by rfl'):WE (gA G (n+1) c J (.Call (.Name f q) [a] [] p) H) eE:=by
 show WE (rx G c (aN G n c J) (.Call (.Name f q) [a] [] p) H (ow (a9 f h5) (some a))) eE
 rw[a6]
 refine WE.ow (by rw [aj,bx];rfl) (WE.ob (h.mono λv H h=>?_))
 obtain⟨k,e,aj,q⟩:=h
 rw[e]
 refine WE.od (b:=k) rfl (WE.ow (md aj) (.of rfl ?_))
 rw[Rp,<-List.range_eq_range']
 exact q
abbrev akp (f:Expr->T->Option (V×T)) (Q:V->T->Prop) (up:Expr) (b:V) (H:T):Prop:=WE (f up H) λu H=>∃v,o7 b .none u=some v/\Q v H
theorem akq{x:Str}{up:Expr}{p q r:Pos}(h:WE (b7 c J (aN G (n+1) c J) (.Name x r) H) (akp (aN G n c J) Q up)):WE (aN G (n+1+1) c J (.Subscript (.Name x r) (.Slice none (some up) none q) p) H) Q:=
 WE.ob (h.mono λ_ _ h=>WE.ob (.of rfl (WE.ob (h.mono λ_ _ h=>h.elim λ_ h=>WE.pt h.1 h.2))))
end
theorem Rq{b:Nat}(ao:0<b):e0 0 (b:Int)=true:=iLt_iff.mpr (Int.ofNat_lt.mpr ao)
theorem l5(z:Int){b:Nat}(ao:0<b):∃k:Nat,k<b/\kr .Mod (.int z) (.int (b:Int))=some (bF k):=by
 have h0:Int.fmod z (b:Int)=z % (b:Int):=Int.fmod_eq_emod_of_nonneg _ (zO b)
 have oE:=Int.ofNat_lt.mpr ao
 have ah:=Int.emod_nonneg z (Int.ne_of_gt oE)
 refine⟨(z % (b:Int)).toNat,(Int.toNat_lt ah).mpr (Int.emod_lt_of_pos z oE),?_⟩
 show ow (e0 0 (b:Int)) (some (V.int (Int.fmod z b)))=some (V.int ((z % (b:Int)).toNat:Int))
 rw[Rq ao,h0,Int.toNat_of_nonneg ah];rfl
theorem vL(z:Int){b:Nat}(ao:0<b)(oE:b<=1000000):∃q:Int,kr .FloorDiv (.int z) (.int (b:Int))=some (.int q):=by
 refine⟨Int.fdiv z b,?_⟩
 show ow (e0 0 (b:Int)&&h4 b 1000000) (some (V.int (Int.fdiv z b)))=_
 rw[Rq ao,show h4 (b:Int) 1000000=true from iLe_iff.mpr (Int.ofNat_le.mpr oE)];rfl
theorem Hc{L:List Int}(h0:L≠[])(ag:L.length<=100)(i:Nat){m:Nat}(av:30<=m)(D:List V)(c:Nat):∃z,bK G0 m (aE 159) [.list (L.map .int),bF i] (ar D c)=some (.int z,ar D c):=by
 obtain⟨n,rfl⟩:=c0 av
 have eB:cz (L.map V.int)=true:=i0 (aT ag (by decide))
 have aS:0<(L.map V.int).length:=by rw [eQ];exact List.length_pos_iff.mpr h0
 have aO:(L.map V.int).length<=1000000:=by rw [eQ];exact aT ag (by decide)
 obtain⟨k,aj,xP⟩:=l5 i aS
 obtain⟨z,hdiv⟩:=vL i aS aO
 rw[eQ] at aj
 have akr:fE (ar D c) (.list (L.map V.int)) (bF k)=some (.int L[k]):=by
  show ow (cz (L.map V.int)) ((L.map V.int)[k]?)=_
  rw[eB,ni,oI aj];rfl
 refine⟨L[k]+31*z,WE.to ?_⟩
 refine cc rfl ?_
 refine ck (hU (eX (lX (fy (vn (v:=.list (L.map V.int)) (eX (vn (v:=bF i) (cw (ef (az (vn (v:=.list (L.map V.int)) (bj ⟨_,sH eB,_,xP,_,akr,?_⟩))))))))))))
 exact hU (eX (.og (v:=.int 31) (hU (eX (vn (v:=bF i) (cw (ef (az (vn (v:=.list (L.map V.int)) (bj ⟨_,sH eB,_,hdiv,.int (31*z),rfl,_,rfl,rfl,rfl⟩))))))))))
def k1 (k:Nat):Nat:=((kindsL.map (·.1))[k]?).getD 0
noncomputable def R26:List Nat:=List.range 26
theorem aks(D:List V)(c:Nat):(R26.map λk=>(fE (ar D c) mZ (bF k)).bind λt=>fE (ar D c) t (.int 0))=R26.map λk=>some (ax (k1 k)):=by rfl'
theorem akt:(R26.all λk=>bY (k1 k) PS&&(bY (k1 k) PSa&&(Nat.beq (k1 k) 3||bY (k1 k) PSo)))=true:=by rfl'
theorem aku{k:Nat}(aj:k<26):k1 k∈PS/\k1 k∈PSa/\(k1 k≠3->k1 k∈PSo):=by
 have h:=bl akt (x:=k) (List.mem_range.mpr aj)
 rw[c6,c6,f9] at h
 exact⟨hT h.1,hT h.2.1,λe=>hT (h.2.2.resolve_left λq=>e (ei q))⟩
theorem akv{k:Nat}(aj:k<26)(D:List V)(c:Nat):∃t,fE (ar D c) mZ (bF k)=some t/\fE (ar D c) t (.int 0)=some (ax (k1 k)):=by
 obtain⟨t,aa,ah⟩:=oQ (bJ (aks D c) (x:=k) (List.mem_range.mpr aj))
 exact⟨t,aa,ah⟩
def He:V:=.list (wordL.map λw=> .str (fQ w))
theorem akw(n:Nat)(D:List V)(c:Nat):bK G0 (n+30) (aE 154) [] (ar D c)=some (He,ar D c):=by rfl'
theorem Rr(D:List V)(c:Nat):(R14.map λv=>fE (ar D c) He (bF v))=R14.map λv=>some (.str (fQ (fR wordL 0 v))):=by rfl'
noncomputable def R6:List Nat:=[0,1,2,3,4,5]
theorem akx(D:List V)(c:Nat):(R6.map λa=>R6.map λb=>cX (ar D c) .Eq (.str (fQ a)) (.str (fQ b)))=R6.map λa=>R6.map λb=>some (Nat.beq a b):=by rfl'
theorem aky(D:List V)(c:Nat):(R6.map λa=>R6.map λb=>cX (ar D c) .NotEq (.str (fQ a)) (.str (fQ b)))=R6.map λa=>R6.map λb=>some (!Nat.beq a b):=by rfl'
theorem Rs:(R14.all λv=>bY (fR wordL 0 v) R6)=true:=by rfl'
def Hf:V:=.list (R6.map λw=> .str (fQ w))
theorem akz(n:Nat)(D:List V)(c:Nat):bK G0 (n+30) (aE 158) [] (ar D c)=some (Hf,ar D c):=by rfl'
theorem akA(D:List V)(c:Nat):(R6.map λk=>fE (ar D c) Hf (bF k))=R6.map λk=>some (.str (fQ k)):=by rfl'
theorem akB(n:Nat)(D:List V)(c:Nat):(R14.map λv=>R14.map λw=>bothS.map λs=>bK G0 (n+60) (aE 162) [bF v,bF w,.bool s] (ar D c))=R14.map λv=>R14.map λw=>bothS.map λs=>some (.bool (kf v w s),ar D c):=by rfl'
theorem akC(n:Nat)(D:List V)(c:Nat):(R14.map λv=>R14.map λw=>bothS.map λs=>bK G0 (n+60) (aE 163) [bF v,bF w,.bool s] (ar D c))=R14.map λv=>R14.map λw=>bothS.map λs=>some (.bool (s1 v w s),ar D c):=by rfl'
theorem Rt{α:Type}(H:T)(x:Bool)(f:α->Bool):∀l:List α,cX H .In (.bool x) (.list (l.map λa=> .bool (f a)))=some (l.any λa=>f a==x)
 |[]=>rfl
 |a::l=>by
  have bb:=Rt H x f l
  show (cond (f a==x) (some true) (H.mem (.bool x) (l.map λa=> .bool (f a))))=_
  rw[h1]
  rcases f a==x with _|_
  .exact bb
  .rfl
theorem vM(a b:Nat):kr .Add (bF a) (bF b)=some (bF (a+b)):=rfl
def akD:=an "book"
def akE (L:List V):am:=FP L++([(akD,fw,true),bE "t" (.int 0),bE "held" (hV 16383)]:am)
def aoc:List Nat:=PSo++[3]
def zh (L:List Int) (X:Int) (C:Nat) (l:List Nat):am:=[bE "nums" (.list (L.map .int)),bE "tab" .tab,bE "host" .host,bE "kinds" mZ,("book",fw,true),bE "shapes" (bV dP),bE "x" (.int X),bE "count" (bF C),bE "now" (aH l)]
noncomputable def ordersL:List (List Nat):=[[2,0,1],[0,1,2],[1,2,0],[0,2,1],[2,1,0],[1,0,2]]
def gM (k j:Nat):Nat:=fR (fR ordersL [] k) 0 j
def Hg:V:=.list (ordersL.map bV)
def Hh (L:List Int) (X:Int) (C:Nat) (l:List Nat) (Y:Int) (cg ch qy qz qA mof dl:List Nat):am:=zh L X C l++([bE "y" (.int Y),bE "yes" (aH cg),bE "no" (aH ch),bE "on" (bV qy),bE "off" (bV qz),bE "may_on" (bV qA),bE "may_off" (bV mof),bE "dull" (bV dl)]:am)
noncomputable def J3:List Nat:=[0,1,2]
theorem akF(D:List V)(c:Nat):(R6.map λk=>J3.map λj=>(fE (ar D c) Hg (bF k)).bind λt=>fE (ar D c) t (bF j))=R6.map λk=>J3.map λj=>some (bF (gM k j)):=by rfl'
theorem akG{k j:Nat}(aj:k∈R6)(bt:j∈J3)(D:List V)(c:Nat):∃t,fE (ar D c) Hg (bF k)=some t/\fE (ar D c) t (bF j)=some (bF (gM k j)):=by
 obtain⟨t,aa,ah⟩:=oQ (bJ (bJ (akF D c) aj) bt)
 exact⟨t,aa,ah⟩
theorem aod:(R6.all λk=>J3.all λj=>bY (gM k j) J3)=true:=by rfl'
theorem akH:(R6.all λk=>[(0,[1,2]),(1,[2]),(2,[])].all λp=> !Nat.beq (gM k p.1) 0|| !(p.2.any λj=>Nat.beq (gM k j) 0))=true:=by rfl'
theorem Ru{d r:List Nat}{j:Nat}(h:d++j::r=J3):j∈J3/\(j,r)∈[(0,[1,2]),(1,[2]),(2,([]:List Nat))]:=by
 have e:=congrArg (List.drop d.length) h
 rw[zX] at e
 have k:=congrArg List.length h
 rw[d5] at k
 generalize d.length=n at e k
 match n,e,k with
 |0,e,_=>injection e with e1 e2;rw[e1,e2];decide
 |1,e,_=>injection e with e1 e2;rw[e1,e2];decide
 |2,e,_=>injection e with e1 e2;rw[e1,e2];decide
 |_+3,_,k=>exact absurd (Nat.succ.inj (Nat.succ.inj (Nat.succ.inj ((qP _ 3 _).symm.trans k)))) (Nat.succ_ne_zero _)
theorem Rv{k:Nat}(h:k<6):k∈R6:=by
 exact(List.mem_range.mpr h:k∈List.range 6)
theorem Rw{m:Nat}(av:30<=m)(D:List V)(c:Nat):bK G0 m (aE 154) [] (ar D c)=some (He,ar D c):=by
 obtain⟨n,rfl⟩:=c0 av
 exact akw n D c
theorem akI{m:Nat}(av:30<=m)(D:List V)(c:Nat):bK G0 m (aE 158) [] (ar D c)=some (Hf,ar D c):=by
 obtain⟨n,rfl⟩:=c0 av
 exact akz n D c
theorem Rx:(R6.all λw=>R14.all λv=>((qx w).testBit v==Nat.beq (fR wordL 0 v) w)&&((kZ false (qx w)).testBit v== !Nat.beq (fR wordL 0 v) w))=true:=by rfl'
theorem Hi{p:Nat->Bool}{m:Nat}(h:∀v,v<14->m.testBit v=p v):oC (cT p) m:=λv al=>by
 rw[memN_eq,fV_mem,h v al]
 exact⟨λh=>h.2,λh=>⟨al,h⟩⟩
theorem akJ{w:Nat}(cs:w∈R6):oC (cT λv=>Nat.beq (fR wordL 0 v) w) (kZ true (qx w)):=Hi λv al=>by
 have h:=bl (bl Rx cs) (R14_mem.mpr al)
 rw[c6] at h
 exact eq_of_beq h.1
theorem akK{w:Nat}(cs:w∈R6):oC (cT λv=> !Nat.beq (fR wordL 0 v) w) (kZ false (qx w)):=Hi λv al=>by
 have h:=bl (bl Rx cs) (R14_mem.mpr al)
 rw[c6] at h
 exact eq_of_beq h.2
noncomputable def l6:List Nat:=[3,5,6,8,9,11,12,13]
theorem Ry:(R14.all λv=>(trM.testBit v==bY v l6)&&((kZ false trM).testBit v== !bY v l6))=true:=by rfl'
theorem akL:oC l6 trM:=λv al=>by
 have h:=bl Ry (R14_mem.mpr al)
 rw[c6] at h
 rw[eq_of_beq h.1]
theorem akM:oC (cT λv=> !bY v l6) (kZ false trM):=Hi λv al=>by
 have h:=bl Ry (R14_mem.mpr al)
 rw[c6] at h
 exact eq_of_beq h.2
theorem akN(D:List V)(c:Nat):(PS.map λk=>cX (ar D c) .NotEq (ax k) (.int 3))=PS.map λk=>some (!Nat.beq k 3):=by rfl'
theorem Rz{v w:Nat}(al:v<14)(cs:w<14)(s:Bool){m:Nat}(av:60<=m)(D:List V)(c:Nat):bK G0 m (aE 162) [bF v,bF w,.bool s] (ar D c)=some (.bool (kf v w s),ar D c):=by
 obtain⟨n,rfl⟩:=c0 av
 exact bJ (bJ (bJ (akB n D c) (R14_mem.mpr al)) (R14_mem.mpr cs)) (f8 s)
theorem akO{v w:Nat}(al:v<14)(cs:w<14)(s:Bool){m:Nat}(av:60<=m)(D:List V)(c:Nat):bK G0 m (aE 163) [bF v,bF w,.bool s] (ar D c)=some (.bool (s1 v w s),ar D c):=by
 obtain⟨n,rfl⟩:=c0 av
 exact bJ (bJ (bJ (akC n D c) (R14_mem.mpr al)) (R14_mem.mpr cs)) (f8 s)
noncomputable def Hj (l:List Stmt):List Stmt:=match l with
 | .If _ _ o _::_=>o
 |_=>[]
def lawFor:List Stmt:=lY (lawFn.bd.drop 15)
def lawE:List Stmt:=Hj (Hj (lawFor.drop 3))
inductive TurnD (ci:Bool->Prop) (L:List Int) (X:Int) (C:Nat) (l:List Nat) (Y:Int) (k:Nat) (J:am) (O:T):Prop
 |mk (b:Bool) (cg ch:List Nat) (D:List V) (c:Nat) (qy qz qA mof dl:List Nat) (e:O=ar D c) (ap:c<=k) (U:Has J (Hh L X C l Y cg ch qy qz qA mof dl)) (g1:Good l cg qy qA dl) (g2:Good l ch qz mof dl) (aQ:dl∈dlL) (Hk:Now b cg) (Hl:Now b ch) (ao:ci b)
section
variable {ci:Bool->Prop}{L:List Int}{X Y:Int}{C:Nat}{l:List Nat}{J:am}{D:List V}{c:Nat}{b:Bool}{b0:Fl->am->T->Prop}
def zi (L:List Int) (X:Int) (C:Nat) (l:List Nat) (Y:Int) (w:Nat):am:=zh L X C l++([bE "y" (.int Y),bE "what" (bF w),bE "dull" (bV [])]:am)
theorem Hm{c eW eH k j:Nat}(h:eW<=c+k)(h':eH<=eW+j)(q:k+j<=10000):eH<=c+10000:=aT h' (aT (jC h j) (aT (dW (jE ..)) (dh q c)))
theorem akP{w:Nat}(qB:ci false)(aw:∀i∈l,i∈PSa)(N:Now b l)(U:Has J (zi L X C l Y w)):WS (bv G0 287 hs J (yB (lawFor.drop 3)) (ar D c)) (f6 (TurnD ci L X C l Y (c+10000))):=by
 obtain⟨gJ,s9,Hn⟩:=l5 Y (b:=6) (by decide)
 have vN:=Rv s9
 refine cH U (fy (cw (bo (fn:=aE 158) (bj (.of (akI (by decide) D c) ⟨rfl,eX (aM U (v:=.int Y) (.og (v:=.int 6) ⟨_,Hn,_,bJ (akA D c) vN,λJ U=>?_⟩))⟩)))))
 obtain⟨cg,fq,eW,e1,vO,akQ,fm,oD,RA⟩:=Qb s9 true N.dF aw (m:=284) (by decide) D c
 refine cH U (bo (fn:=aE 149) (az (aM U (v:=.host) (az (aM U (v:=aH l) (az (aM U (v:=.str (fQ gJ)) (az (.og (v:=.bool true) (bj (.of e1 ⟨cW U,λJ U=>?_⟩)))))))))))
 obtain⟨ch,eO,eH,e2,hr,akR,gF,vP,RB⟩:=Qb s9 false N.dF aw (m:=283) (by decide) fq eW
 refine cH U (bo (fn:=aE 149) (az (aM U (v:=.host) (az (aM U (v:=aH l) (az (aM U (v:=.str (fQ gJ)) (az (.og (v:=.bool false) (bj (.of e2 ⟨cW U,λJ U=>?_⟩)))))))))))
 refine cH U (d8 (ht (sV _ (by rfl') (by rfl') ⟨_,rfl,.of (kQ (p:=λv=>Nat.beq (fR wordL 0 v) gJ) (g:=bF) (λv al=>?_) λv al=>?_) ⟨vC,λJ U=>?_⟩⟩)))
 .have U:=U.push (x:="v") (s:=(bF v,false))
  refine dD (b6 (lX (fy (cw (bo (fn:=aE 154) (bj (.of (Rw (by decide) eO eH) ⟨rfl,dt U (v:=bF v) ⟨_,bJ (Rr eO eH) al,aM U (v:=.str (fQ gJ)) ⟨_,bJ (bJ (akx eO eH) (hT (bl Rs al))) vN,?_⟩⟩⟩)))))))
  rcases Nat.beq (fR wordL 0 v) gJ with _|_
  .exact⟨rfl,rfl⟩
  .exact dc ⟨rfl,rfl⟩
 .exact dt (U.push (x:="v") (s:=(bF v,false))) (v:=bF v) ⟨rfl,rfl⟩
 refine cH U (d8 (ht (sV _ (by rfl') (by rfl') ⟨_,rfl,.of (kQ (p:=λv=> !Nat.beq (fR wordL 0 v) gJ) (g:=bF) (λv al=>?_) λv al=>?_) ⟨vC,λJ U=>?_⟩⟩)))
 .have U:=U.push (x:="v") (s:=(bF v,false))
  refine dD (b6 (lX (fy (cw (bo (fn:=aE 154) (bj (.of (Rw (by decide) eO eH) ⟨rfl,dt U (v:=bF v) ⟨_,bJ (Rr eO eH) al,aM U (v:=.str (fQ gJ)) ⟨_,bJ (bJ (aky eO eH) (hT (bl Rs al))) vN,?_⟩⟩⟩)))))))
  rcases Nat.beq (fR wordL 0 v) gJ with _|_
  .exact dc ⟨rfl,rfl⟩
  .exact⟨rfl,rfl⟩
 .exact dt (U.push (x:="v") (s:=(bF v,false))) (v:=bF v) ⟨rfl,rfl⟩
 refine cH U (dt U (v:=bV (cT λv=>Nat.beq (fR wordL 0 v) gJ)) λJ U=>?_)
 refine cH U (dt U (v:=bV (cT λv=> !Nat.beq (fR wordL 0 v) gJ)) λJ U=>?_)
 have uu:∀y a3,Paired (λi r=>r.Perm (ir gJ y i)) l a3->∀r∈a3,Pts r:=λy a3 P r aq=>by
  obtain⟨i,hi,p⟩:=Paired.all P r aq
  exact(Gg s9 y (aw i hi)).perm p
 exact bm ⟨rfl,false,cg,ch,eO,eH,_,_,_,_,[],rfl,Hm vO hr (by decide),U.sub,Re s9 true aw fm oD RA (akJ vN),Re s9 false aw gF vP RB (akK vN),.head _,s8 fm (uu true akQ RA) oD (λe=>nomatch e),s8 gF (uu false akR RB) vP (λe=>nomatch e),qB⟩
theorem akS{w:Nat}(qB:ci b)(N:Now b l)(U:Has J (zi L X C l Y w)):WS (bv G0 286 hs J (yB (Hj (lawFor.drop 3))) (ar D c)) (f6 (TurnD ci L X C l Y (c+10000))):=by
 obtain⟨u1,cg,fq,eW,e1,vO,RC,RD,fm,oD⟩:=ahI N.dF (m:=284) (by decide) D c
 refine cH U (bo (fn:=aE 146) (az (aM U (v:=.host) (az (aM U (v:=aH l) (az (.og (v:=.bool true) (bj (.of e1 ⟨cW U,λJ U=>?_⟩)))))))))
 obtain⟨ch,eO,eH,e2,hr,gF,vP⟩:=ahH N.dF (m:=283) (by decide) fq eW
 refine cH U (bo (fn:=aE 146) (az (aM U (v:=.host) (az (aM U (v:=aH l) (az (.og (v:=.bool false) (bj (.of e2 ⟨cW U,λJ U=>?_⟩)))))))))
 refine cH U (.og (v:=bV l6) λJ U=>?_)
 refine cH U (d8 (ht (sV _ (by rfl') (by rfl') ⟨_,rfl,.of (kQ (p:=λv=> !bY v l6) (g:=bF) (λv al=>?_) λv al=>?_) ⟨vC,λJ U=>?_⟩⟩)))
 .have U:=U.push (x:="v") (s:=(bF v,false))
  refine dD (b6 (aM U (v:=bF v) (.og (v:=bV l6) ⟨_,GC _ v _,?_⟩)))
  rcases bY v l6 with _|_
  .exact dc ⟨rfl,rfl⟩
  .exact⟨rfl,rfl⟩
 .exact dt (U.push (x:="v") (s:=(bF v,false))) (v:=bF v) ⟨rfl,rfl⟩
 refine cH U (dt U (v:=bV l6) λJ U=>?_)
 refine cH U (dt U (v:=bV (cT λv=> !bY v l6)) λJ U=>?_)
 exact bm ⟨rfl,b,cg,ch,eO,eH,_,_,_,_,[],rfl,Hm vO hr (by decide),U.sub,ajX N.dF RC RD fm oD akL,ajW N.dF gF vP akM,.head _,zg (.inl rfl) (zg (.inr (.inl rfl)) N RC RD) fm oD,zg (.inr (.inr rfl)) N gF vP,qB⟩
theorem Ho(z:Int){n:Nat}(aX:0<n)(h:n<=26)(D:List V)(c:Nat):∃k t q,kr .Mod (.int z) (.int (n:Int))=some (bF k)/\fE (ar D c) mZ (bF k)=some t/\fE (ar D c) t (.int 0)=some (ax q)/\q∈PSa/\(q≠3->q∈PSo):=by
 obtain⟨k,aj,gm⟩:=l5 z aX
 have aj:=me aj h
 obtain⟨t,e1,e2⟩:=akv aj D c
 exact⟨k,t,k1 k,gm,e1,e2,(aku aj).2⟩
theorem Hp{q:Nat}(h:q∈PSa):q∈PS:=(List.mem_filter.mp h).1
theorem akT{K o:List Nat}(n4:∀k∈K,k∈PSo)(nn:Pts o)(a7:eG (eb (K.map λi=>[i])) o):Now true o/\∀q∈o,q∈PSo:=by
 have key:∀r∈K.map (λi=>[i]),∃i∈K,r=[i]:=λr aq=>by
  obtain⟨i,hi,e⟩:=List.mem_map.mp aq
  exact⟨i,hi,e.symm⟩
 have fL:∀r∈K.map (λi=>[i]),Pts r:=λr aq=>by
  obtain⟨i,hi,e⟩:=key r aq
  exact e▸ .one (y0 i (n4 i hi))
 refine⟨s8 nn fL a7 λ_ r aq k aj=>?_,λq aO=>?_⟩
 .obtain⟨i,hi,e⟩:=key r aq
  rw[e] at aj
  exact dG aj▸Rl i (n4 i hi)
 .rcases GA fL a7 aO with ⟨r,aq,h⟩|e|e
  .obtain⟨i,hi,e⟩:=key r aq
   rw[e] at h
   exact dG h▸n4 i hi
  .rw[e];decide
  .rw[e];decide
def Hq (L:List Int) (X:Int) (C:Nat) (l:List Nat) (Y:Int) (s:Bool) (o:List Nat):am:=zh L X C l++([bE "y" (.int Y),bE "strict" (.bool s),bE "other" (aH o)]:am)
theorem akU(m9 na:Nat){y:Nat}(aY:y<2):o7 (.list [ax m9,ax na]) .none (bF (1+y))=some (.list (([m9,na].take (1+y)).map ax))/\([m9,na].take (1+y)).length<=2/\∀k∈[m9,na].take (1+y),k=m9\/k=na:=by
 refine⟨?_,by rw [zP];exact Nat.min_le_right ..,λk aj=>(List.mem_cons.mp (List.mem_of_mem_take aj)).imp id dG⟩
 rcases y with _|_|y
 .rfl
 .rfl
 .exact absurd (oJ (oJ aY)) (zV _)
theorem akV{w:Nat}(U:Has J (zi L X C l Y w))(q:∀J o s D aP,aP<=c+1->Now true o->(∀q∈o,q∈PSo)->o≠[]->Has J (Hq L X C l Y s o)->WS (bv G0 282 hs J (lawE.drop 4) (ar D aP)) b0):WS (bv G0 286 hs J lawE (ar D c)) b0:=by
 obtain⟨sm,aoe,akW⟩:=l5 Y (b:=3) (by decide)
 refine cH U (iX (hU (eX (aM U (v:=.int Y) (.og (v:=.int 3) ⟨_,akW,.og (v:=.int 1) ⟨_,Gu _ sm 1,λJ U=>?_⟩⟩)))))
 generalize (!Nat.beq sm 1)=s at U
 obtain⟨akX,akY⟩:=vL Y (b:=3) (by decide) (by decide)
 obtain⟨OE,ta,m9,gm,akZ,al0,aw,al1⟩:=Ho akX (n:=23) (by decide) (by decide) D c
 obtain⟨kb,vl,na,al2,al3,al4,ao,oE⟩:=Ho Y (n:=26) (by decide) (by decide) D c
 refine cH U (Qw (az (sW (fy (aM U (v:=mZ) (eX (hU (eX (aM U (v:=.int Y) (.og (v:=.int 3) ⟨_,akY,.og (v:=.int 23) ⟨_,gm,ta,akZ,.og (v:=.int 0) ⟨_,al0,?_⟩⟩⟩))))))))))
 refine az (sW (fy (aM U (v:=mZ) (eX (aM U (v:=.int Y) (.og (v:=.int 26) ⟨_,al2,vl,al3,.og (v:=.int 0) ⟨_,al4,bj ⟨by rw [oO,oO,y9,y9];rfl,λJ U=>?_⟩⟩⟩))))))
 obtain⟨mV,al5,Hr⟩:=l5 Y (b:=2) (by decide)
 obtain⟨RE,RF,RG⟩:=akU m9 na al5
 generalize [m9,na].take (1+mV)=K0 at RE RG RF
 have RH:∀k∈K0,k∈PS/\(k≠3->k∈PSo):=λk aj=>(RG k aj).elim (λe=>e▸⟨Hp aw,al1⟩) λe=>e▸⟨Hp ao,oE⟩
 have n4:∀k∈K0.filter (λk=> !Nat.beq k 3),k∈PSo:=λk aj=>by
  obtain⟨aa,ah⟩:=List.mem_filter.mp aj
  exact(RH k aa).2 λe=>by rw [e] at ah;exact absurd ah (by decide)
 obtain⟨o,qu,ou,al6,RJ,nn,al7⟩:=m3 (ls:=(K0.filter λk=> !Nat.beq k 3).map λi=>[i]) (λr aq=>by
  obtain⟨i,hi,e⟩:=List.mem_map.mp aq
  exact e▸ .one (y0 i (n4 i hi))) (X:=.list ((K0.filter λk=> !Nat.beq k 3).map ax)) (by rw [Gd];rfl) (m:=282) (by decide) D c
 obtain⟨aL,kg⟩:=akT n4 nn al7
 refine cH U (bo (fn:=aE 67) (az (aM U (v:=.tab) (az (j8 (d8 (Qs (akq (aM U (v:=.list [ax m9,ax na]) (eX (.og (v:=bF 1) (hU (eX (aM U (v:=.int Y) (.og (v:=.int 2) ⟨_,Hr,_,vM 1 mV,_,RE,_,rfl,?_⟩)))))))))))))))
 refine .of (kQ (p:=λk=> !Nat.beq k 3) (g:=ax) (λk aj=>?_) λk aj=>?_) ⟨?_,bj (.of al6 ⟨cW U,λJ U=>?_⟩)⟩
 .have U:=U.push (x:="t") (s:=(ax k,false))
  refine dD (b6 (aM U (v:=ax k) (.og (v:=.int 3) ⟨_,bJ (akN D c) (RH k aj).1,?_⟩)))
  rcases Nat.beq k 3 with _|_
  .exact dc ⟨rfl,rfl⟩
  .exact⟨rfl,rfl⟩
 .exact dt (U.push (x:="t") (s:=(ax k,false))) (v:=ax k) ⟨rfl,rfl⟩
 .rw[i0 (aT (v5 ..) (aT RF (by decide))),i6]
  exact(z0 _).trans (List.all_eq_true.mpr λk _=>y9 k)
 refine bO (b6 (aM U (v:=aH o) (.og (v:=.int 2) ⟨_,vG nn (by decide) qu ou,?_⟩)))
 rcases jq:fx o 2 with _|_
 .exact bm (q _ o s qu ou RJ aL kg (λe=>by rw [e] at jq;exact absurd jq (by decide)) U.sub)
 .exact cH U (.og (v:=aH [4]) λJ U=>bm (q _ [4] s qu ou RJ ⟨⟨by decide,by decide⟩,by decide,λ_=>by decide⟩ (by decide) (by decide) U.sub))
def RK (L:List Int) (X:Int) (C:Nat) (l:List Nat) (Y:Int) (s:Bool) (o cg ch:List Nat):am:=Hq L X C l Y s o++([bE "given" (bV (cT (cZ o))),bE "yes" (aH cg),bE "no" (aH ch)]:am)
theorem al8(L:List Nat):V.l8 (bV L)=true:=by
 show V.zA (L.map bF)=true
 induction L with
 |nil=>rfl
 |cons a L bb=>exact bb
theorem aof{J:am}{r:V}{k:Const}{j:Nat}{q p:Pos}{x:Str}{v:V}(h:a2 J x=some (v,false)):gx J r [.Constant k j q,.Name x p]=true:=(c6 _ _).mpr ⟨rfl,kS h rfl⟩
theorem al9{o:List Nat}{s:Bool}(N:Now b l)(aL:Now true o)(kg:∀q∈o,q∈PSo)(eY:o≠[])(U:Has J (Hq L X C l Y s o))(q:∀J cg ch D aP,aP<=c+4000->m8 l o true s cg->m8 l o false s ch->Has J (RK L X C l Y s o cg ch)->WS (bv G0 279 hs J (lawE.drop 7) (ar D aP)) b0):WS (bv G0 282 hs J (lawE.drop 4) (ar D c)) b0:=by
 refine cH U (bo (fn:=aE 161) (az (aM U (v:=.tab) (az (jx U (v:=fw) (az (aM U (v:=aH o) (bj (.of (GG aL.dF (m:=280) (by decide) D c) ⟨kS (a:=.tab) U.g (F4 (U.g (s:=(fw,true)) (by rfl')) (al8 _) (cW U)),λJ U=>?_⟩)))))))))
 obtain⟨cg,fq,eW,e1,vO,dB⟩:=Q3 N.dF N.one aL.dF kg eY true s (m:=279) (by decide) D c
 refine cH U (bo (fn:=aE 151) (az (aM U (v:=.host) (az (aM U (v:=aH l) (az (aM U (v:=aH o) (az (.og (v:=.bool true) (az (aM U (v:=.bool s) (bj (.of e1 ⟨cW U,λJ U=>?_⟩)))))))))))))
 obtain⟨ch,eO,eH,e2,hr,d9⟩:=Q3 N.dF N.one aL.dF kg eY false s (m:=278) (by decide) fq eW
 refine cH U (bo (fn:=aE 151) (az (aM U (v:=.host) (az (aM U (v:=aH l) (az (aM U (v:=aH o) (az (.og (v:=.bool false) (az (aM U (v:=.bool s) (bj (.of e2 ⟨cW U,λJ U=>?_⟩)))))))))))))
 exact q _ cg ch eO eH (aT hr (jC vO 2000)) dB d9 U.sub
end
theorem Hs{n:Nat}{c:Cx}{J L:am}(U:Has J L){eg nb Ht cB Hu Hv:Str}{fm gF lE lF u4 Fw ala alb RL rR alc ald uu:Pos}{sc tb:Scope}{x s:Bool}{j:Nat}{qC:List Nat}{F:Fn}{g:Nat->Nat->Bool->Bool}{D:List V}{kK:Nat}{Q:V->T->Prop}(dY:∀v w,v<14->w<14->bK G0 (n+2) F [bF v,bF w,.bool s] (ar D kK)=some (.bool (g v w s),ar D kK))(bx:∀w∈qC,w<14)(ag:qC.length<=4096)(q:Q (bV (cT λv=>qC.any λw=>g v w s==x)) (ar D kK))(aw:a9 Hu "_law_all"=true:=by rfl')(aa:gy c Hu=true:=by rfl')(ah:lj eg sc c.sc=true:=by rfl')(aC:lj nb tb sc=true:=by rfl')(bC:fF ⟨sc,c.bd⟩ Ht=true:=by rfl')(ee:∀a,a2 ((eg,a,false)::L) Ht=some (bV qC,false):=by intro _;rfl')(mF:lk tb.names Hv=some .globalImplicit:=by rfl')(lB:G0.fn Hv=some F:=by rfl')(jX:(fF ⟨tb,c.bd⟩ eg&&fF ⟨tb,c.bd⟩ nb&&fF ⟨tb,c.bd⟩ cB&&fF ⟨sc,c.bd⟩ eg)=true:=by rfl')(RM:∀a b,a2 ((nb,a,false)::(eg,b,false)::L) eg=some (b,false):=by intro _ _;rfl')(RN:∀a b,a2 ((nb,a,false)::(eg,b,false)::L) nb=some (a,false):=by intro _ _;rfl')(vF:∀a b,a2 ((nb,a,false)::(eg,b,false)::L) cB=some (.bool s,false):=by intro _ _;rfl'):
  WE (aN G0 (n+6) c J (.ListComp (.Name eg fm) [⟨.Name eg gF,.Name Hu lE,[.Compare (.Constant (.bool x) j lF) [.In] [.ListComp (.Call (.Name Hv u4) [.Name eg Fw,.Name nb ala,.Name cB alb] [] RL) [⟨.Name nb rR,.Name Ht alc,[],0⟩] tb ald] uu],0⟩] sc RL) (ar D kK)) Q:=by
 obtain⟨jX,ale⟩:=aK jX
 obtain⟨jX,alf⟩:=aK jX
 obtain⟨alg,alh⟩:=aK jX
 refine d8 (ht (sV _ aw aa ⟨_,rfl,.of (kQ (p:=λv=>qC.any λw=>g v w s==x) (g:=bF) (λv al=>?_) λv al=>?_) ⟨vC,q⟩⟩)) ah
 .have U:=U.push (x:=eg) (s:=(bF v,false))
  refine dD (b6 (.of (v:=.bool x) (O:=ar D kK) rfl (j8 (d8 (ht (sG bC (U.g (ee _)) ⟨_,rfl,.of (sQ (g:=λw=> .bool (g v w s)) (λw cs=>dc ⟨rfl,rfl⟩) λw cs=>?_) ⟨by rw [yO,i0 ag];rfl,⟨_,Rt _ x (λw=>g v w s) qC,?_⟩⟩⟩)) aC))))
  .have U:=U.push (x:=nb) (s:=(bF w,false))
   exact bo (az (sF alg (U.f (RM _ _)) (az (sF alh (U.f (RN _ _)) (az (sF alf (U.f (vF _ _)) (bj (.of (dY v w (R14_mem.mp al) (bx w cs)) ⟨kS (U.g (RM _ _)) (kS (U.g (RN _ _)) (kS (U.g (vF _ _)) rfl)),rfl,rfl⟩)))))))) mF lB
  .rcases(qC.any λw=>g v w s==x) with _|_
   .exact⟨rfl,rfl⟩
   .exact dc ⟨rfl,rfl⟩
 .exact sG ale (by show cond (a9 eg eg) _ _=_;rw[sEq_iff.mpr rfl];rfl) ⟨rfl,rfl⟩
section
variable {ci:Bool->Prop}{L:List Int}{X Y:Int}{C:Nat}{l:List Nat}{J:am}{D:List V}{c:Nat}{b:Bool}{b0:Fl->am->T->Prop}
def qD (o:List Nat) (s:Bool):List Nat:=cT λv=>(cT (cZ o)).any λw=>kf v w s==true
def vQ (o:List Nat) (s:Bool):List Nat:=cT λv=>(cT (cZ o)).any λw=>kf v w s==false
def qE (o:List Nat) (s:Bool):List Nat:=cT λv=>(cT (cZ o)).any λw=>s1 v w s==true
theorem RO{l:List Nat}{p:Nat->Bool}:(l.any λw=>p w==true)=l.any p:=by
 congr 1
 funext w
 rcases p w with _|_<;>rfl
theorem on_iff{o:List Nat}{s:Bool}{v:Nat}:bY v (qD o s)=true↔v<14/\qw o s v=true:=by
 unfold qD
 rw[memN_eq,fV_mem,RO];exact q0
theorem of_iff{o:List Nat}{s:Bool}{v:Nat}:bY v (vQ o s)=true↔v<14/\l3 o s v=true:=by
 unfold vQ
 rw[memN_eq,fV_mem]
 refine and_congr q0 ?_
 rw[show ((cT (cZ o)).any λw=>kf v w s==false)=l3 o s v by
  unfold l3
  congr 1
  funext w
  rcases kf v w s with _|_<;>rfl]
theorem tu_iff{o:List Nat}{s:Bool}{v:Nat}:bY v (qE o s)=true↔v<14/\oy o s v=true:=by
 unfold qE
 rw[memN_eq,fV_mem,RO];exact q0
theorem RP{a b:List Nat}{v:Nat}(h:bY v a=true\/bY v b=true):bY v (a++b)=true:=memN_eq.mpr (List.mem_append.mpr (h.imp memN_eq.mp memN_eq.mp))
theorem RQ{p q:Nat->Bool}:(cT p++cT q).length<=4096:=by
 rw[d5]
 exact aT (wb (ot _) (ot _)) (by decide)
theorem ali{o cg ch:List Nat}{s:Bool}{k:Nat}(aj:c<=k)(qB:ci b)(N:Now b l)(aL:Now true o)(kg:∀q∈o,q∈PSo)(eY:o≠[])(dB:m8 l o true s cg)(d9:m8 l o false s ch)(U:Has J (RK L X C l Y s o cg ch)):
  WS (bv G0 279 hs J (lawE.drop 7) (ar D c)) (f6 (TurnD ci L X C l Y k)):=by
 have Hw:∀w∈cT (cZ o),w<14:=λw cs=>(fV_mem.mp cs).1
 have uy:=aT (ot (cZ o)) (by decide:14<=4096)
 refine cH U (Hs U (g:=kf) (λv w al cs=>Rz al cs s (by decide) D c) Hw uy λJ U=>?_)
 refine cH U (Hs U (g:=kf) (λv w al cs=>Rz al cs s (by decide) D c) Hw uy λJ U=>?_)
 refine cH U (Hs U (g:=s1) (λv w al cs=>akO al cs s (by decide) D c) Hw uy λJ U=>?_)
 refine cH U (eX (aM U (v:=bV (qD o s)) (aM U (v:=bV (qE o s)) ⟨_,GH RQ,λJ U=>?_⟩)))
 refine cH U (eX (aM U (v:=bV (vQ o s)) (aM U (v:=bV (qE o s)) ⟨_,GH RQ,λJ U=>?_⟩)))
 obtain⟨row,aog,aa,ah,aC⟩:=Qy aL.dF D c
 refine bO (b6 (lX (sW (qn (dt U (v:=.tab) ⟨rfl,dt U (v:=aH o) ⟨_,aa,.og (v:=.int 0) ⟨_,ah,.og (v:=.int 6) ⟨_,aC,?_⟩⟩⟩⟩)))))
 have g1:Good l cg (qD o s) (qD o s++qE o s) dP:=aka N.dF kg eY (λv al h=>(on_iff.mp h).2) (λv al h=>RP (h.imp (λh=>on_iff.mpr ⟨al,h⟩) λh=>tu_iff.mpr ⟨al,h⟩)) dB
 have lI:∀{J mof},(∀v,v<14->2<=o.length\/l3 o s v=true\/oy o s v=true->bY v mof=true)->Has J (Hh L X C l Y cg ch (qD o s) (vQ o s) (qD o s++qE o s) mof dP)->TurnD ci L X C l Y k J (ar D c):=λav U=>
  ⟨b,cg,ch,D,c,_,_,_,_,dP,rfl,aj,U,g1,akf N.dF kg aL.dF eY (λv al h=>(of_iff.mp h).2) av d9,.tail _ (.head _),Rn N aL kg dB,Rn N aL kg d9,qB⟩
 rcases e2:Nat.ble 2 o.length with _|_
 .refine bm (cH U (dt U (v:=bV dP) λJ U=>bm ⟨rfl,lI (mof:=vQ o s++qE o s) (λv al h=>?_) U.sub⟩))
  rcases h with h|h
  .exact absurd (md h) (by rw [e2];decide)
  .exact RP (h.imp (λh=>of_iff.mpr ⟨al,h⟩) λh=>tu_iff.mpr ⟨al,h⟩)
 .exact cH U (sV _ (by rfl') (by rfl') λJ U=>bm (cH U (dt U (v:=bV dP) λJ U=>bm ⟨rfl,lI (mof:=R14) (λv al _=>memN_eq.mpr (R14_mem.mpr al)) U.sub⟩)))
inductive LoopI (L:List Int) (X:Int) (C dq:Nat) (d r:List Nat) (J:am) (O:T):Prop
 |mk (b:Bool) (l:List Nat) (D:List V) (c:Nat) (aQ:d++r=J3) (e:O=ar D c) (ap:c+20000*r.length<=100000) (U:Has J (zh L X C l)) (N:Now b l) (ao:(r.any λj=>Nat.beq (gM dq j) 0)=true->b=true)
theorem alj{ci:Bool->Prop}{dq j:Nat}{d r:List Nat}(aQ:d++j::r=J3)(ap:c+20000*(j::r).length<=100000)(qB:∀b,ci b->(r.any λj=>Nat.beq (gM dq j) 0)=true->b=true)(N:Now b l){J:am}{O:T}(h:TurnD ci L X C l Y (c+10000) J O):
  WS (bv G0 287 hs J (lawFor.drop 4) O) (f6 (LoopI L X C dq (d++[j]) r)):=by
 obtain⟨hC,cg,ch,a0,aP,qy,qz,qA,mof,dl,e,hG,U,g1,g2,RR,Hk,Hl,oE⟩:=h
 rw[e]
 have ge:=QA N.dF Hk.dF RR g1 (m:=283) (by decide) a0 aP
 have gf:=QA N.dF Hl.dF RR g2 (m:=282) (by decide) a0 aP
 refine bO (kP (iq (bo (fn:=aE 164) (az (aM U (v:=.tab) (az (jx U (v:=fw) (az (aM U (v:=bV dl) (az (aM U (v:=aH l) (az (aM U (v:=aH cg) (az (aM U (v:=bV qy) (az (aM U (v:=bV qA) (bj (.of ge ⟨kS (a:=.tab) U.g (F4 (U.g (s:=(fw,true)) (by rfl')) rfl (cW U)),true,rfl,bm ?_⟩)))))))))))))))))))
 refine bO (kP (iq (bo (fn:=aE 164) (az (aM U (v:=.tab) (az (jx U (v:=fw) (az (aM U (v:=bV dl) (az (aM U (v:=aH l) (az (aM U (v:=aH ch) (az (aM U (v:=bV qz) (az (aM U (v:=bV mof) (bj (.of gf ⟨kS (a:=.tab) U.g (F4 (U.g (s:=(fw,true)) (by rfl')) rfl (cW U)),true,rfl,bm ?_⟩)))))))))))))))))))
 obtain⟨gJ,Hn⟩:=vL Y (b:=6) (by decide) (by decide)
 obtain⟨mV,_,Hr⟩:=l5 gJ (b:=2) (by decide)
 have lI:∀{u J},Now hC u->Has J (cb (Hh L X C l Y cg ch qy qz qA mof dl) "now" (aH u) false)->LoopI L X C dq (d++[j]) r J (ar a0 aP):=λ{u J} alk h=>
  ⟨hC,u,a0,aP,by rw [iA];exact aQ,rfl,by rw [kk] at ap;lia,h.sub,alk,qB hC oE⟩
 refine cH U (QB (b6 (hU (eX (hU (eX (aM U (v:=.int Y) (.og (v:=.int 6) ⟨_,Hn,.og (v:=.int 2) ⟨_,Hr,.og (v:=.int 0) ⟨_,i1 _ mV 0,?_⟩⟩⟩))))))))
 rcases Nat.beq mV 0 with _|_
 .exact dt U (v:=aH cg) λJ U=>bm ⟨rfl,lI Hk U⟩
 .exact dt U (v:=aH ch) λJ U=>bm ⟨rfl,lI Hl U⟩
theorem alm{dq j:Nat}{d r:List Nat}(oF:dq∈R6)(aQ:d++j::r=J3)(ap:c+20000*(j::r).length<=100000)(N:Now b l)(ao:((j::r).any λj=>Nat.beq (gM dq j) 0)=true->b=true)(U:Has J (zi L X C l Y (gM dq j))):
  WS (bv G0 288 hs J (lawFor.drop 3) (ar D c)) (f6 (LoopI L X C dq (d++[j]) r)):=by
 obtain⟨bt,aln⟩:=Ru aQ
 have RS:(!Nat.beq (gM dq j) 0|| !(r.any λj=>Nat.beq (gM dq j) 0))=true:=bl (bl akH oF) aln
 have yl:Nat.beq (gM dq j) 0=true->b=true:=λe=>ao (List.any_eq_true.mpr ⟨j,dV ..,e⟩)
 have RT:(r.any λj=>Nat.beq (gM dq j) 0)=true->b=true:=λe=>ao (by rw [h1,e,Bool.or_true])
 refine bO (b6 (aM U (v:=bF (gM dq j)) (.og (v:=.int 0) ⟨_,i1 _ _ 0,?_⟩)))
 refine WS.mono (P:=f6 (TurnD (λb=>(r.any λj=>Nat.beq (gM dq j) 0)=true->b=true) L X C l Y (c+10000))) ?_ λf J O h=>by
  obtain⟨e,h⟩:=h
  rw[e]
  exact alj aQ ap (λ_ h=>h) N h
 rcases RU:Nat.beq (gM dq j) 0 with _|_
 .refine bO (b6 (aM U (v:=bF (gM dq j)) (.og (v:=.int 1) ⟨_,i1 _ _ 1,?_⟩)))
  refine WS.mono (P:=f6 (TurnD (λb=>(r.any λj=>Nat.beq (gM dq j) 0)=true->b=true) L X C l Y (c+10000))) ?_ λf J O h=>by
   obtain⟨e,h⟩:=h
   rw[e]
   exact bm ⟨rfl,h⟩
  rcases Nat.beq (gM dq j) 1 with _|_
  .exact akV U λJ o s D aP hG aL kg eY U=>al9 N aL kg eY U λJ cg ch D aoh alo dB d9 U=>ali (Hm hG alo (by decide)) RT N aL kg eY dB d9 U
  .exact akS RT N U
 .exact akP (λe=>by rw [RU,e] at RS;exact absurd RS (by decide)) (N.a (yl RU)) N U
theorem alp(h0:L≠[])(ag:L.length<=100){gY:Int}{dq:Nat}(Hx:kr .FloorDiv (.int X) (.int 4)=some (.int gY))(Hy:kr .Mod (.int gY) (.int 6)=some (bF dq))(oF:dq∈R6)(d:List Nat)(j:Nat)(r:List Nat)(J:am)(H:T)(h:LoopI L X C dq d (j::r) J H):
  WS (om G0 291 hs (sJ (lawFn.bd.drop 15)) lawFor (bF j) J H) (f6 (LoopI L X C dq (d++[j]) r)):=by
 obtain⟨b,l,D,c,aQ,e,ap,U,N,ao⟩:=h
 rw[e]
 obtain⟨Y,E0⟩:=Hc h0 ag (1+C+j) (m:=289) (by decide) D c
 obtain⟨t,alq,alr⟩:=akG oF (Ru aQ).1 D c
 refine ka U λJ U=>cH U (bo (fn:=aE 159) (az (aM U (v:=.list (L.map .int)) (az (hU (eX (hU (eX (.og (v:=bF 1) (aM U (v:=bF C) ⟨_,vM 1 C,aM U (v:=bF j) ⟨_,vM (1+C) j,bj (.of E0 ⟨cW U,λJ U=>?_⟩)⟩⟩))))))))))
 refine cH U (fy (lX (fy (.og (v:=Hg) (eX (hU (eX (aM U (v:=.int X) (.og (v:=.int 4) ⟨_,Hx,.og (v:=.int 6) ⟨_,Hy,t,alq,dt U (v:=bF j) ⟨_,alr,λJ U=>?_⟩⟩⟩)))))))))
 exact cH U (.og (v:=bV []) λJ U=>alm (Y:=Y) oF aQ ap N ao U.sub)
end
section
variable {L:List Int}{X:Int}{C:Nat}
def L0 (L:List Int):am:=[bE "nums" (.list (L.map .int)),bE "tab" .tab,bE "host" .host,bE "kinds" mZ,("book",fw,true)]
def RV (L:List Int) (X:Int) (C:Nat) (P:List V):am:=L0 L++([bE "shapes" (bV dP),bE "x" (.int X),bE "count" (bF C),("picks",.list P,true)]:am)
structure Picks (k:Nat) (a3:List (List Nat)):Prop where
 len:a3.length<=k
 one:∀r∈a3,∃q,q∈PSa/\r=[q]
theorem Picks.dF{k:Nat}{a3:List (List Nat)}(h:Picks k a3):∀r∈a3,Pts r:=λr aq=>by
 obtain⟨q,aO,e⟩:=h.one r aq
 exact e▸ .one (Hp aO)
theorem Picks.now{k:Nat}{a3:List (List Nat)}(h:Picks k a3){l:List Nat}(di:Pts l)(a7:eG (eb a3) l):Now true l:=s8 di h.dF a7 λ_ r aq k aj=>by
 obtain⟨q,aO,e⟩:=h.one r aq
 rw[e] at aj
 exact dG aj▸aO
theorem als{k:Nat}(h:k<2):bF k=aH [k]/\k∈PSa:=by
 rcases k with _|_|k
 .exact⟨rfl,by decide⟩
 .exact⟨rfl,by decide⟩
 .exact absurd (oJ (oJ h)) (zV _)
theorem alt(h0:L≠[])(ag:L.length<=100){a3:List (List Nat)}(P:Picks 4 a3){D:List V}{c:Nat}(ap:c<=1000){J:am}(U:Has J (RV L X C (a3.map aH))):WS (bv G0 294 hs J (lawFn.bd.drop 13) (ar D c)) λbw _ O=>bw= .ret (.bool true)/\O.cnt<=ba:=by
 obtain⟨RW,RX⟩:=vL X (b:=24) (by decide) (by decide)
 obtain⟨Aa,aoi,alu⟩:=l5 RW (b:=10) (by decide)
 obtain⟨hb,alv,e2⟩:=l5 RW (b:=2) (by decide)
 refine bO (b6 (hU (eX (hU (eX (aM U (v:=.int X) (.og (v:=.int 24) ⟨_,RX,.og (v:=.int 10) ⟨_,alu,.og (v:=.int 7) ⟨_,rfl,?_⟩⟩⟩)))))))
 refine WS.mono (P:=f6 λbg O=>O=ar D c/\∃a3:List (List Nat),Picks 5 a3/\Has bg (RV L X C (a3.map aH))) ?_ ?_
 .rcases e0 7 (Aa:Int) with _|_
  .exact bm ⟨rfl,rfl,a3,⟨tt P.len,P.one⟩,U⟩
  .obtain⟨e3,aw⟩:=als alv
   refine sY U (l:=a3.map aH) (eX (hU (eX (aM U (v:=.int X) (.og (v:=.int 24) ⟨_,RX,.og (v:=.int 2) ⟨_,e2,by rw [i0 (aT P.len (by decide))];rfl,λJ U=>bm ⟨rfl,rfl,a3++[[hb]],⟨?_,?_⟩,?_⟩⟩⟩)))))
   .rw[d5];exact gr P.len
   .exact λr aq=>(List.mem_append.mp aq).elim (P.one r) λq=>⟨hb,aw,dG q⟩
   .rw[e3] at U
    rw[nj];exact U.sub
 rintro f J O ⟨rfl,rfl,a3,P,U⟩
 obtain⟨l,eO,eH,e,hr,di,a7⟩:=m3 P.dF (X:=.list (a3.map aH)) rfl (m:=291) (by decide) D c
 refine cH U (bo (fn:=aE 67) (az (aM U (v:=.tab) (az (jx U (v:=.list (a3.map aH)) (bj (.of e ⟨kS (a:=.tab) U.g (yz (d:=a3.map aH) U.g (y3 l) yA),λJ U=>?_⟩)))))))
 obtain⟨gY,Hx⟩:=vL X (b:=4) (by decide) (by decide)
 obtain⟨dq,oF,Hy⟩:=l5 gY (b:=6) (by decide)
 have oF:=Rv oF
 refine il (.og (v:=J3.map bF) ?_)
 refine(vE (I:=LoopI L X C dq) (alp h0 ag Hx Hy oF) J3 [] _ _ ⟨true,l,eO,eH,rfl,rfl,aT (jC (aT hr (gr ap)) 60000) (by decide),U.sub,P.now di a7,λ_=>rfl⟩).mono ?_
 rintro f J O ⟨rfl,b,l,D,c,aQ,rfl,ap,U,N,_⟩
 refine ck (.og (v:=.bool true) ⟨rfl,?_⟩)
 show c<=ba
 rw[show ba=1048576 by rfl']
 exact aT ap (by decide)
theorem alw(h0:L≠[])(ag:L.length<=100):WS (bv G0 300 hs (FP (L.map .int)) (lawFn.bd.drop 7) (ar [] 31)) λbw _ O=>bw= .ret (.bool true)/\O.cnt<=ba:=by
 refine so (.og (v:=.dict [(.int 2,.list [])]) ?_)
 refine il (.og (v:=kindsL.map λp=> .tup [.int p.1,hV p.2]) ?_)
 refine WS.of (f:=.next) (J:=akE (L.map .int)) (c:=31) (by rfl') λD=>?_
 refine cH (L:=L0 L) (Has.sub .rfl) (.og (v:=bV dP) λJ U=>?_)
 obtain⟨X,alx⟩:=Hc h0 ag 0 (m:=295) (by decide) D 31
 refine cH U (bo (fn:=aE 159) (az (aM U (v:=.list (L.map .int)) (az (.og (v:=bF 0) (bj (.of alx ⟨cW U,λJ U=>?_⟩)))))))
 obtain⟨k4,aly,alz⟩:=l5 X (b:=4) (by decide)
 refine cH U (eX (.og (v:=bF 1) (hU (eX (aM U (v:=.int X) (.og (v:=.int 4) ⟨_,alz,_,vM 1 k4,λJ U=>?_⟩))))))
 have jY:1+k4<=4:=aT (dW (jG ..)) aly
 generalize 1+k4=C at jY U
 refine yC U (d8 (ako (dt U (v:=bF C) ⟨C,rfl,aT jY (by decide),?_⟩)))
 refine sM (R:=λi r=>∃q,q∈PSa/\r=[q]) (k:=0) (λi hi D c=>dc ⟨rfl,rfl⟩) (λi hi D c=>?_) D 31 λa3 fq eW l₁ fO=>?_
 .obtain⟨z,jq⟩:=Hc h0 ag (1+i) (m:=289) (by decide) D c
  obtain⟨k,t,q,gm,e1,e2,aO,_⟩:=Ho z (n:=24) (by decide) (by decide) D c
  have U:=U.push (x:="i") (s:=(bF i,false))
  exact sW (fy (aM U (v:=mZ) (eX (cw (bo (fn:=aE 159) (az (aM U (v:=.list (L.map .int)) (az (hU (eX (.og (v:=bF 1) (aM U (v:=bF i) ⟨_,vM 1 i,bj (.of jq ⟨cW U,.og (v:=.int 24) ⟨_,gm,t,e1,.og (v:=.int 0) ⟨_,e2,[q],D,c,rfl,rfl,cq _,q,aO,rfl⟩⟩⟩)⟩))))))))))))
 have oq:a3.length<=4:=aT (dW ((Paired.len fO).symm.trans List.length_range)) jY
 refine⟨by rw [yK];exact md (by rw [eQ];exact aT oq (by decide)),λJ U=>?_⟩
 exact alt (X:=X) (C:=C) h0 ag ⟨oq,λr aq=>(Paired.all fO r aq).elim λ_ h=>h.2⟩ (aT l₁ (by rw [Nat.zero_mul];decide)) U.sub
end
theorem RY(ns:List Int):mW ns≠[]/\(mW ns).length<=100:=by
 have h:((ns.take 16).map λk=>k.fmod 999983).length<=100:=by rw [eQ,zP];exact aT (zT ..) (by decide)
 unfold mW
 generalize (ns.take 16).map (λk=>k.fmod 999983)=l at h |-
 rcases l with _|⟨a,r⟩
 .exact⟨(List.cons_ne_nil 11 []:([11]:List Int)≠[]),by decide⟩
 .exact⟨(List.cons_ne_nil a r:a::r≠[]),h⟩
theorem alA:(base1.all λr=>gw r&&V.key base1.length 4 r)=true:=by rfl'
theorem alB(ns:List Int):LawEv ns:=by
 obtain⟨f,lV,O,e,rfl,ap⟩:=alw (RY ns).1 (RY ns).2
 refine⟨_,_,lV,O,afM _,rfl,λr aq=>aK (bl alA aq),?_,e,ap⟩
 show 31<=ba
 rw[show ba=1048576 by rfl']
 decide
end Mine
end
noncomputable section
open PySem PySem.W PyProof.Rows PySem.Calls
namespace Mine
def look (P:Params) (a:Addr):Option Obj:=match Nat.blt a 892 with
 |true=>((Hd.T21 P).get a).bind alive
 |false=>none
theorem qF{P:Params}{a:Addr}{o:Obj}(h:look P a=some o):(Hd.H1 P).get? a=some o:=by
 unfold look at h
 rcases e:Nat.blt a 892 with _|_<;>rw[e] at h
 .exact aI h
 .obtain⟨q,aa,ah⟩:=oQ (show ((Hd.T21 P).get a).bind alive=some o from h)
  exact(abs_get (fi e) aa).trans ah
noncomputable def tc (f:Addr->Option Obj):List Addr->Frag
 |[]=>[]
 |a::r=>match f a with
  |some o=>(a,o)::tc f r
  |none=>tc f r
theorem Hz{f:Addr->Option Obj}{a:Addr}{o:Obj}:∀{l:List Addr},(tc f l).lookup a=some o->f a=some o
 |[],h=>aI h
 |b::r,h=>by
  unfold tc at h
  rcases e:f b with _|q<;>rw[e] at h
  .exact Hz h
  .change (match a==b with|true=>some q|false=>(tc f r).lookup a)=some o at h
   rcases w:a==b with _|_<;>rw[w] at h
   .exact Hz h
   .rw[eq_of_beq w,e];exact h
noncomputable def qG:Value->Option Str
 | .str y _=>some y
 |_=>none
def td (x:Str) (k:Value):Bool:=ci (qG k) λy=>a9 y x
def hW (x:Str):List DictEntry->Option Value
 |[]=>none
 |d::r=>cond (td x d.key) (some d.val) (hW x r)
theorem alC(x:Str)(k:Value):k.isStr x=td x k:=by
 unfold td Value.isStr
 rcases k<;>first|rfl|exact(Cz ..).symm
theorem alD{es:Array DictEntry}{x:Str}:nsFind es x=hW x es.toList:=by
 unfold nsFind findBy
 rw[<-Array.find?_toList]
 generalize es.toList=l
 induction l with
 |nil=>rfl
 |cons e l bb=>
  show Option.map _ (List.find? _ (e::l))=cond (td x e.key) _ _
  rw[tx,show (λn (v:Value)=>v.isStr n) x e.key=td x e.key from alC x e.key]
  rcases td x e.key with _|_
  .exact bb
  .rfl
noncomputable def RZ:Data->Option (Array DictEntry×Nat)
 | .dict es ca=>some (es,ca)
 |_=>none
theorem alE{d:Data}{p:Array DictEntry×Nat}(h:RZ d=some p):d= .dict p.1 p.2:=by
 rcases d<;>first|exact aI h|rw[<-Option.some.inj h]
def zj (o:Obj):Option (Array DictEntry×Nat):=RZ o.data
theorem HA{o:Obj}{p:Array DictEntry×Nat}(h:zj o=some p):o.data= .dict p.1 p.2:=alE h
def i2 (P:Params) (a:Addr):Array DictEntry:=match (look P a).bind zj with
 |some p=>p.1
 |none=> #[]
def alF (l:List DictEntry):Bool:=l.all λd=>(qG d.key).isSome
theorem zk{k:Value}{y:Str}(h:qG k=some y):∃t,k= .str y t:=by
 rcases k<;>first|exact aI h|exact⟨_,congrArg (Value.str · _) (Option.some.inj h)⟩
def R0 (P:Params) (a:Addr):Bool:=((look P a).bind zj).isSome&&alF (i2 P a).toList
theorem alG{P:Params}{a:Addr}(h:R0 P a=true):(Hd.H1 P).Ns a λx=>hW x (i2 P a).toList:=by
 obtain⟨aa,ah⟩:=aK h
 obtain⟨⟨es,ca⟩,e⟩:=Option.isSome_iff_exists.mp aa
 have e2:i2 P a=es:=by unfold i2;rw[e]
 obtain⟨o,e1,e3⟩:=oQ e
 rw[e2] at ah
 refine⟨o,es,ca,qF e1,HA e3,λd iJ=>?_,λx=>by rw [alD,e2]⟩
 obtain⟨y,rQ⟩:=Option.isSome_iff_exists.mp (List.all_eq_true.mp ah d (Array.mem_toList_iff.mpr iJ))
 exact⟨y,zk rQ⟩
def qH:List Str->Bool
 |[]=>true
 |x::r=> !pe x r&&qH r
theorem memS_iff{x:Str}:∀{l:List Str},pe x l=true↔x∈l
 |[]=>⟨λh=>c2 h,λh=>nomatch h⟩
 |y::r=>by
  show (match a9 y x with|true=>true|false=>pe x r)=true↔_
  rw[qZ]
  rcases e:a9 y x with _|_
  .exact⟨λh=> .inr (memS_iff.mp h),λh=>h.elim (λq=>by rw [q,sEq_iff.mpr rfl] at e;exact c2 e.symm) memS_iff.mpr⟩
  .exact⟨λ_=> .inl (sEq_iff.mp e).symm,λ_=>rfl⟩
theorem zl:∀{l:List Str},qH l=true->l.Nodup
 |[],_=>wc
 |x::r,h=>by
  obtain⟨aa,ah⟩:=aK (show (!pe x r&&qH r)=true from h)
  exact List.nodup_cons.mpr ⟨λq=>by rw [memS_iff.mpr q] at aa;exact c2 aa,zl ah⟩
def HB (sc:Scope):List Str:=(cellsFrom 0 sc.names []).map (·.1)
def R1 (x:Str) (gG:List Str):NameKind->Bool
 | .local=>true
 | .cell=>pe x gG
 | .globalImplicit=>true
 |_=>false
def R2 (gG:List Str) (p:Str×NameKind):Bool:=R1 p.1 gG p.2&&(!a9 p.1 Cg&&(!a9 p.1 Ch&& !a9 p.1 dM))
noncomputable def R3:ScopeKind->Bool
 | .function=>true
 |_=>false
theorem alH:∀{k:ScopeKind},R3 k=true->k= .function
 | .function,_=>rfl
def R4 (sc:Scope):Bool:=R3 sc.kind&&(!sc.isCoroutine&&(!sc.isGenerator&&(qH (HB sc)&&sc.names.all (R2 (HB sc)))))
theorem zm{b:Bool}(h:(!b)=true):b=false:=(ki b).mp h
theorem HC{x y:Str}(h:(!a9 x y)=true):x≠y:=λq=>by rw [sEq_iff.mpr q] at h;exact c2 h
theorem alI{x:Str}{gG:List Str}:∀{k:NameKind},R1 x gG k=true->k= .local\/k= .cell\/k= .globalImplicit
 | .local,_=> .inl rfl
 | .cell,_=> .inr (.inl rfl)
 | .globalImplicit,_=> .inr (.inr rfl)
theorem alJ{sc:Scope}(h:R4 sc=true):ScopeOk sc:=by
 obtain⟨aa,h⟩:=aK h
 obtain⟨ah,h⟩:=aK h
 obtain⟨aC,h⟩:=aK h
 obtain⟨bC,ee⟩:=aK h
 have key:∀x k,lk sc.names x=some k->R2 (HB sc) (x,k)=true:=λx k e=>List.all_eq_true.mp ee _ (DW e)
 refine⟨alH aa,zm ah,zm aC,zl bC,λx e=>memS_iff.mp (aK (key x _ e)).1,λx k e=>?_⟩
 obtain⟨a,b⟩:=aK (key x k e)
 obtain⟨b,c⟩:=aK b
 obtain⟨c,d⟩:=aK c
 exact⟨alI a,HC b,HC c,HC d⟩
noncomputable def R5:Data->Option FuncData
 | .func b4=>some b4
 |_=>none
theorem alK{d:Data}{b4:FuncData}(h:R5 d=some b4):d= .func b4:=by
 rcases d<;>first|exact aI h|rw[Option.some.inj h]
def zn (o:Obj):Option FuncData:=R5 o.data
theorem alL{o:Obj}{b4:FuncData}(h:zn o=some b4):o.data= .func b4:=alK h
noncomputable def te:Value->Option Addr
 | .ref a=>some a
 |_=>none
theorem zo{v:Value}{a:Addr}(h:te v=some a):v= .ref a:=by
 rcases v<;>first|exact aI h|rw[Option.some.inj h]
noncomputable def R7:Data->Option (Array Value)
 | .fields vs=>some vs
 |_=>none
theorem alM{d:Data}{vs:Array Value}(h:R7 d=some vs):d= .fields vs:=by
 rcases d<;>first|exact aI h|rw[Option.some.inj h]
noncomputable def HD:Data->Option (Array Value×Nat)
 | .seq vs n=>some (vs,n)
 |_=>none
theorem R8{d:Data}{p:Array Value×Nat}(h:HD d=some p):d= .seq p.1 p.2:=by
 rcases d<;>first|exact aI h|rw[<-Option.some.inj h]
def R9 (P:Params) (b4:FuncData):Bool:=ci (te b4.code) λc=>ci (look P c) λo=>ci (R7 o.data) λvs=>ci (vs[1]? :Option Value) λk=>ci (qG k) λq=>a9 q b4.qualname
theorem alN{P:Params}{b4:FuncData}(h:R9 P b4=true):(Hd.H1 P).CodeRec b4.code b4.qualname:=by
 obtain⟨c,e1,h⟩:=dX h
 obtain⟨o,e2,h⟩:=dX h
 obtain⟨vs,e3,h⟩:=dX h
 obtain⟨k,eN,h⟩:=dX h
 obtain⟨q,kF,h⟩:=dX h
 obtain⟨t,qk⟩:=zk kF
 exact⟨c,o,vs,t,zo e1,qF e2,alM e3,by rw [eN,qk,sEq_iff.mp h]⟩
noncomputable def tf:Value->Option Int
 | .int i _=>some i
 |_=>none
theorem HE{v:Value}{i:Int}(h:tf v=some i):∃t,v= .int i t:=by
 rcases v<;>first|exact aI h|exact⟨_,congrArg (Value.int · _) (Option.some.inj h)⟩
def zp:List V->List Value->Bool
 |[],r=>r.isEmpty
 |u::l,r=>match r with
  |[]=>false
  |v::r=>(ci (tf v) λi=>ci (ja u) λj=>cN i j)&&zp l r
theorem Sa{look:bA}:∀{l:List V}{vs:List Value},zp l vs=true->∃ds,RdL look vs ds/\∀H,bX H l=some ds
 |[],r,h=>by
  rcases r with _|_
  .exact⟨[],.nil,λ_=>rfl⟩
  .exact c2 h
 |u::l,r,h=>by
  rcases r with _|⟨v,r⟩
  .exact c2 h
  obtain⟨aa,ah⟩:=aK (show ((ci (tf v) λi=>ci (ja u) λj=>cN i j)&&zp l r)=true from h)
  obtain⟨i,e1,aa⟩:=dX aa
  obtain⟨j,e2,aa⟩:=dX aa
  obtain⟨t,e1⟩:=HE e1
  obtain⟨ds,a,b⟩:=Sa (look:=look) ah
  rw[e1,lp e2,iEq_iff.mp aa]
  exact⟨.int j::ds,.cons (.int j t) a,λH=>h9 rfl (b H)⟩
noncomputable def zq:Value->Bool
 | .none=>true
 |_=>false
theorem Sb{v:Value}(h:zq v=true):v= .none:=by
 rcases v<;>first|exact c2 h|rfl
def Sc (P:Params) (d:Value) (l:List V):Bool:=ci (te d) λt=>ci (look P t) λo=>ci (HD o.data) λp=>zp l p.1.toList
def HF (P:Params) (d:Value) (l:List V):Bool:=cond (zq d) l.isEmpty (Sc P d l)
theorem alO{P:Params}{d:Value}{l:List V}(h:HF P d l=true):FnDfl (Hd.H1 P) d l:=by
 unfold HF at h
 rcases e:zq d with _|_<;>rw[e] at h
 .obtain⟨t,e1,h⟩:=dX (show Sc P d l=true from h)
  obtain⟨o,e2,h⟩:=dX h
  obtain⟨p,e3,h⟩:=dX h
  obtain⟨ds,a,b⟩:=Sa (look:=(Hd.H1 P).get?) h
  exact .yes t o p.1 p.2 ds (zo e1) (qF e2) (R8 e3) a b
 .exact .no (Sb e) (List.isEmpty_iff.mp h)
noncomputable def alP (a:Arguments):Bool:=a.posonlyargs.isEmpty&&(a.kwonlyargs.isEmpty&&(a.vararg.isNone&&a.kwarg.isNone))
noncomputable def Sd:Option NameKind->Bool
 |some .local|some .cell=>true
 |_=>false
theorem alQ:∀{o:Option NameKind},Sd o=true->o=some .local\/o=some .cell
 |some .local,_=> .inl rfl
 |some .cell,_=> .inr rfl
def alR (ps:List Str) (sc:Scope):Bool:=qH ps&&ps.all λx=>Sd (lk sc.names x)
abbrev qI:=Stmt×Addr×List V
def alS (P:Params) (p:qI) (b4:FuncData):Bool:=R9 P b4&&(HF P b4.defaults p.2.2&&(alP (mh p.1)&&(R4 (nl p.1)&&(alR ((mh p.1).args.map (·.arg)) (nl p.1)&&Nat.ble p.2.2.length ((mh p.1).args.map (·.arg)).length))))
def Se (P:Params) (K:Frag) (p:qI):Bool:=keepIn K (.ref p.2.1)&&ci ((look P p.2.1).bind zn) (alS P p)
theorem alT:∀(s:Stmt)(d:List V),q1 s=Fn.bd ⟨s,d⟩/\nl s=Fn.sc ⟨s,d⟩/\(mh s).args.map (·.arg)=Fn.ps ⟨s,d⟩:=λs d=>by rcases s<;>exact⟨rfl,rfl,rfl⟩
noncomputable def Sf (b4:FuncData):=(b4.body,b4.scope,b4.params,b4.globals,b4.closure,b4.builtins)
def Sg (s:Stmt):=(FuncBody.stmts (q1 s),nl s,mh s,mainGlobals,([]:List (Str×Addr)),builtinsNs)
theorem alU{P:Params}{K:Frag}{p:qI}(h:Se P K p=true)(e:(od (look P p.2.1) λo=>od (zn o) λb4=>some (Sf b4))=some (Sg p.1)):FnOk (Hd.H1 P) K ⟨p.1,p.2.2⟩ (.ref p.2.1):=by
 obtain⟨aj,h⟩:=aK h
 obtain⟨o,e1,e2⟩:=bD e
 obtain⟨b4,e3,eN⟩:=bD e2
 obtain⟨aoj,kF,h⟩:=dX h
 rw[e1,Option.bind_some,e3] at kF
 rw[<-Option.some.inj kF] at h
 have eN:=Option.some.inj eN
 have b:=λ{α:Type} (f:_->α)=>congrArg f eN
 have hg:b4.body= .stmts (q1 p.1):=b (·.1)
 have gV:b4.scope=nl p.1:=b (·.2.1)
 have hj:b4.params=mh p.1:=b (·.2.2.1)
 obtain⟨eT,h⟩:=aK h
 obtain⟨cP,h⟩:=aK h
 obtain⟨jj,h⟩:=aK h
 obtain⟨mG,h⟩:=aK h
 obtain⟨kE,pN⟩:=aK h
 obtain⟨d1,jj⟩:=aK jj
 obtain⟨d2,jj⟩:=aK jj
 obtain⟨d3,d4⟩:=aK jj
 obtain⟨fH,gC,f3⟩:=alT p.1 p.2.2
 rw[f3] at kE pN
 rw[gC] at mG kE
 obtain⟨kE,DO⟩:=aK kE
 rw[<-hj] at d1 d2 d3 d4
 exact⟨⟨p.2.1,o,b4,rfl,aj,qF e1,alL e3,hg.trans (congrArg _ fH),gV.trans gC,b (·.2.2.2.1),b (·.2.2.2.2.1),b (·.2.2.2.2.2),alN eT,List.isEmpty_iff.mp d1,List.isEmpty_iff.mp d2,Option.isNone_iff_eq_none.mp d3,Option.isNone_iff_eq_none.mp d4,hj▸f3,alO cP⟩,alJ mG,zl kE,λx hx=>alQ (List.all_eq_true.mp DO x hx),fi pN⟩
noncomputable def Tr.i4 {α:Type}:Tr α->List (Str×α)
 | .lf=>[]
 | .nd l _ x v r=>l.i4++(x,v)::r.i4
theorem Tr.get_mem{α:Type}{n:Nat}{x:Str}{v:α}:∀{t:Tr α},t.get n x=some v->(x,v)∈t.i4
 | .nd l k y u r,h=>by
  show (x,v)∈l.i4++(y,u)::r.i4
  rw[zS,qZ]
  revert h
  unfold Tr.get
  rcases Nat.beq n k with _|_
  .rcases Nat.ble n k with _|_
   .exact λh=> .inr (.inr (Tr.get_mem h))
   .exact λh=> .inl (Tr.get_mem h)
  .intro h
   rcases e:a9 y x with _|_<;>rw[e] at h
   .exact aI h
   .exact .inr (.inl (by rw [<-sEq_iff.mp e,<-Option.some.inj h]))
noncomputable def fz:Addr:=140
noncomputable def hX:Addr:=161
noncomputable def iz:Addr:=634
def FL:List qI:=fnT.i4.map (λp=>(aA p.2.i,p.2.a,p.2.dfl))++(meL.map (λp=>(c5 p.2.1 p.2.2.1,p.2.2.2,[]))++[(c5 54 2,137,[]),(aA 59,195,[.int (-1),.int (-1)]),(aA 60,202,[]),(c5 55 0,158,[]),(c5 54 0,123,[]),(c5 115 0,610,[])])
def alV:List Addr:=[140,139,161,160,634,633,592,591]++FL.map (·.2.1)
def K0 (P:Params):Frag:=tc (look P) alV
theorem HG(P:Params):(K0 P).In (Hd.H1 P):=λ_ _ h=>qF (Hz h)
theorem alW(P:Params):(FL.all (Se P (K0 P)))=true:=by rfl'
theorem alX(P:Params):(FL.map λp=>od (look P p.2.1) λo=>od (zn o) λb4=>some (Sf b4))=FL.map λp=>some (Sg p.1):=by rfl'
theorem zr(P:Params){p:qI}(h:p∈FL):FnOk (Hd.H1 P) (K0 P) ⟨p.1,p.2.2⟩ (.ref p.2.1):=alU (bl (alW P) h) (bJ (alX P) h)
noncomputable def Sh:Value->Option String
 | .type s=>some s
 |_=>none
theorem alY{v:Value}{s:String}(h:Sh v=some s):v= .type s:=by
 rcases v<;>first|exact aI h|rw[Option.some.inj h]
def zs (n:String) (c:Value):Bool:=ci (Sh c) λs=>s==n
theorem HH{n:String}{c:Value}(h:zs n c=true):c= .type n:=by
 obtain⟨s,e,h⟩:=dX h
 rw[alY e,eq_of_beq h]
noncomputable def HI {α:Type}:Option α->Bool
 |none=>true
 |some _=>false
theorem Si{α:Type}:∀{o:Option α},HI o=true->o=none
 |none,_=>rfl
noncomputable def HJ:Value->Option Bool
 | .bool b=>some b
 |_=>none
theorem alZ{v:Value}{b:Bool}(h:HJ v=some b):v= .bool b:=by
 rcases v<;>first|exact aI h|rw[Option.some.inj h]
def vR (f:bA) (v:Value) (p:Obj->Bool) (k:List Value->Bool):Bool:=ci (te v) λa=>ci (f a) λo=>ci (HD o.data) λq=>p o&&k q.1.toList
def Sj (o:Obj):Bool:=zs "tuple" o.cls
def HK (o:Obj):Bool:=zs "list" o.cls&&(HI o.dict&&o.slots.toList.isEmpty)
mutual
noncomputable def qJ (f:bA):V->Value->Bool
 | .none,v=>zq v
 | .bool a,v=>ci (HJ v) λb=>a==b
 | .int i,v=>ci (tf v) λj=>cN i j
 | .str s,v=>ci (qG v) λx=>a9 s x&&oZ s.cps.toList
 | .tup l,v=>vR f v Sj (qK f l)
 | .list l,v=>vR f v HK (qK f l)
 |_,_=>false
noncomputable def qK (f:bA):List V->List Value->Bool
 |[],l=>l.isEmpty
 |u::r,l=>match l with
  |[]=>false
  |v::s=>qJ f u v&&qK f r s
end
theorem Sk{α:Type}{a:Array α}(h:a.toList.isEmpty=true):a= #[]:=Array.toList_inj.mp (List.isEmpty_iff.mp h)
inductive SqAt (f:bA) (v:Value) (p:Obj->Bool) (k:List Value->Bool):Prop
 |mk (a:Addr) (o:Obj) (vs:Array Value) (n:Nat) (e:v= .ref a) (h:f a=some o) (d:o.data= .seq vs n) (aS:p o=true) (aj:k vs.toList=true)
theorem Sl{f:bA}{v:Value}{p:Obj->Bool}{k:List Value->Bool}(h:vR f v p k=true):SqAt f v p k:=by
 obtain⟨a,e1,h⟩:=dX h
 obtain⟨o,e2,h⟩:=dX h
 obtain⟨q,e3,h⟩:=dX h
 exact⟨a,o,q.1,q.2,zo e1,e2,R8 e3,(aK h).1,(aK h).2⟩
theorem am0{o:Obj}{vs:Array Value}{n:Nat}(aQ:o.data= .seq vs n)(h:HK o=true):o=listOf vs n:=by
 obtain⟨aa,h⟩:=aK h
 obtain⟨ah,aC⟩:=aK h
 obtain⟨c,d,eM,sl⟩:=o
 rw[show c=_ from HH aa,show d=_ from Si ah,show sl=_ from Sk aC,show eM=_ from aQ]
inductive RdTo (f:bA) (u:V) (v:Value):Prop
 |mk (d:PyData) (c:∀H,bI H u=some d) (r:Rd f v d)
inductive RdTos (f:bA) (l:List V) (vs:List Value):Prop
 |mk (ds:List PyData) (c:∀H,bX H l=some ds) (r:RdL f vs ds)
mutual
theorem HL{f:bA}:∀{u:V}{v:Value},qJ f u v=true->RdTo f u v
 | .none,v,h=>⟨_,λ_=>rfl,(Sb h)▸ .none⟩
 | .bool a,v,h=>by
  obtain⟨b,e,h⟩:=dX (show ci (HJ v) (λb=>a==b)=true from h)
  rw[alZ e,eq_of_beq h]
  exact⟨_,λ_=>rfl,.bool _⟩
 | .int i,v,h=>by
  obtain⟨j,e,h⟩:=dX (show ci (tf v) (λj=>cN i j)=true from h)
  obtain⟨t,e⟩:=HE e
  rw[e,iEq_iff.mp h]
  exact⟨_,λ_=>rfl,.int _ _⟩
 | .str s,v,h=>by
  obtain⟨x,e,h⟩:=dX (show ci (qG v) (λx=>a9 s x&&oZ s.cps.toList)=true from h)
  obtain⟨t,e⟩:=zk e
  obtain⟨aa,ah⟩:=aK h
  rw[e,<-sEq_iff.mp aa]
  exact⟨.str s,λH=>Dr (Dq ah),.str _ _⟩
 | .tup l,v,h=>by
  obtain⟨a,o,vs,n,e,e2,aQ,aS,aj⟩:=Sl (show vR f v Sj (qK f l)=true from h)
  obtain⟨ds,aa,ah⟩:=HM aj
  rw[e]
  exact⟨.tuple ds,λH=>by show od (bX H l) _=_;rw[aa H];rfl,.tup e2 (HH aS) aQ ah⟩
 | .list l,v,h=>by
  obtain⟨a,o,vs,n,e,e2,aQ,aS,aj⟩:=Sl (show vR f v HK (qK f l)=true from h)
  obtain⟨ds,aa,ah⟩:=HM aj
  rw[e]
  exact⟨.list ds,λH=>by show od (bX H l) _=_;rw[aa H];rfl,.list (e2.trans (congrArg some (am0 aQ aS))) ah⟩
 | .dict _,_,h=>c2 h
 | .ty _,_,h=>c2 h
 | .tab,_,h=>c2 h
 | .host,_,h=>c2 h
 | .decl _,_,h=>c2 h
theorem HM{f:bA}:∀{l:List V}{vs:List Value},qK f l vs=true->RdTos f l vs
 |[],vs,h=>by
  rw[List.isEmpty_iff.mp (show vs.isEmpty=true from h)]
  exact⟨[],λ_=>rfl,.nil⟩
 |u::r,vs,h=>by
  rcases vs with _|⟨v,s⟩
  .exact c2 h
  obtain⟨aa,ah⟩:=aK (show (qJ f u v&&qK f r s)=true from h)
  obtain⟨d,a,b⟩:=HL aa
  obtain⟨ds,c,e⟩:=HM ah
  exact⟨d::ds,λH=>h9 (a H) (c H),.cons b e⟩
end
def vS (p:V×V):Int:=(ja p.1).getD 0
def vT (p:V×V):Str:=(wu p.1).getD default
def HN (p:V×V) (k:Value):Bool:=ci (tf k) λj=>ci (ja p.1) λi=>cN i j
def HO (p:V×V) (k:Value):Bool:=ci (qG k) λy=>ci (wu p.1) λx=>a9 x y&&oZ x.cps.toList
def qL (ks:V×V->Value->Bool) (f:bA):List (V×V)->List DictEntry->Bool
 |[],l=>l.isEmpty
 |p::r,l=>match l with
  |[]=>false
  |d::s=>ks p d.key&&(qJ f p.2 d.val&&qL ks f r s)
def vU:List Int->Bool
 |[]=>true
 |x::r=> !(r.any λy=>cN y x)&&vU r
theorem Sm:∀{l:List Int},vU l=true->l.Nodup
 |[],_=>wc
 |x::r,h=>by
  obtain⟨aa,ah⟩:=aK (show (!(r.any λy=>cN y x)&&vU r)=true from h)
  exact List.nodup_cons.mpr ⟨λq=>Bool.noConfusion ((zm aa).symm.trans (List.any_eq_true.mpr ⟨x,q,iEq_iff.mpr rfl⟩)),Sm ah⟩
section
variable {α:Type} [DecidableEq α] {prog:Program}{w:World}
inductive DkTo (κ:PySem.KeyKind prog w α) (c7:α->PyData) (dE:V×V->α) (f:bA) (l:List (V×V)) (es:List DictEntry):Prop
 |mk (aW:List (α×Value)) (a:aW.map (·.1)=l.map dE) (b:Pairs κ es aW) (c:∀H,Kvs c7 H f l aW) (d:∀e∈es,∃k,κ.is k e.key=true/\e.hash=κ.hash k)
theorem HP{κ:PySem.KeyKind prog w α}{c7:α->PyData}{dE:V×V->α}{ks:V×V->Value->Bool}(U:∀p k,ks p k=true->κ.is (dE p) k=true/\∀H,bI H p.1=some (c7 (dE p))){f:bA}:∀{l:List (V×V)}{es:List DictEntry},qL ks f l es=true->(es.map (·.hash))=l.map (λp=>κ.hash (dE p))->DkTo κ c7 dE f l es
 |[],es,h,_=>by
  rw[List.isEmpty_iff.mp (show es.isEmpty=true from h)]
  exact⟨[],rfl,.nil,λ_=> .nil,λ_ h=>nomatch h⟩
 |p::l,es,h,hh=>by
  rcases es with _|⟨e,s⟩
  .exact c2 h
  obtain⟨aa,h⟩:=aK (show (ks p e.key&&(qJ f p.2 e.val&&qL ks f l s))=true from h)
  obtain⟨ah,aC⟩:=aK h
  rw[km,km] at hh
  obtain⟨bU,bZ⟩:=List.cons.inj hh
  obtain⟨aW,a,b,c,d⟩:=HP U aC bZ
  obtain⟨dv,e1,e2⟩:=HL ah
  obtain⟨aj,ap⟩:=U p _ aa
  exact⟨(dE p,e.val)::aW,congrArg (dE p:: ·) a,.cons aj rfl b,λH=> .cons (ap H) (e1 H) e2 (c H),λz bi=>(List.mem_cons.mp bi).elim (λq=>by rw [q];exact⟨_,aj,bU⟩) (d z)⟩
theorem am1(p:V×V)(k:Value)(h:HN p k=true):(intKind prog w).is (vS p) k=true/\∀H,bI H p.1=some (.int (vS p)):=by
 obtain⟨j,e1,h⟩:=dX h
 obtain⟨i,e2,h⟩:=dX h
 obtain⟨t,e1⟩:=HE e1
 unfold vS
 rw[e2,e1,lp e2,iEq_iff.mp h]
 exact⟨beq_self_eq_true j,λ_=>rfl⟩
theorem am2(p:V×V)(k:Value)(h:HO p k=true):(strKind prog w).is (vT p) k=true/\∀H,bI H p.1=some (.str (vT p)):=by
 obtain⟨y,e1,h⟩:=dX h
 obtain⟨x,e2,h⟩:=dX h
 obtain⟨aa,ah⟩:=aK h
 obtain⟨t,e1⟩:=zk e1
 unfold vT
 rw[e2,e1,Ke e2,<-sEq_iff.mp aa]
 exact⟨beq_self_eq_true x,λ_=>Dr (Dq ah)⟩
end
def Sn (o:Obj):Bool:=zs "dict" o.cls&&(HI o.dict&&o.slots.toList.isEmpty)
theorem So{o:Obj}(h:Sn o=true):o.ExactDict:=by
 obtain⟨aa,h⟩:=aK h
 obtain⟨ah,aC⟩:=aK h
 exact⟨HH aa,Si ah,Sk aC⟩
def HQ:List (V×V)->Bool
 |[]=>false
 |p::_=>isInt p.1
def oG (P:Params):List DictEntry:=(i2 P 3).toList
def Sp (f:bA) (l:List (V×V)) (es:List DictEntry):Bool:=cond (HQ l) (qL HN f l es&&vU (l.map vS)) (qL HO f l es&&qH (l.map vT))
def Sq (f:bA) (l:List (V×V)) (v:Value):Bool:=ci (te v) λa=> !(a==sysModules)&&ci (f a) λo=>Sn o&&ci (zj o) λq=>Sp f l q.1.toList
def Sr (P:Params) (u:V) (v:Value):Bool:=match oY u with
 |some l=>Sq (look P) l v
 |none=>qJ (look P) u v
def am3 (P:Params) (p:Str×V):Bool:=ci (hW p.1 (oG P)) (Sr P p.2)
def HR (P:Params) (v:Value):List Int:=match te v with
 |some a=>(i2 P a).toList.map (·.hash)
 |none=>[]
def Ss (P:Params) (p:Str×V):List Int:=match oY p.2 with
 |some _=>(match hW p.1 (oG P) with|some v=>HR P v|none=>[])
 |none=>[]
def zt (w:World) (l:List (V×V)):List Int:=cond (HQ l) (l.map λp=>hashInt (vS p)) (l.map λp=>hashStr w (vT p))
def Su (w:World) (p:Str×V):List Int:=match oY p.2 with
 |some l=>zt w l
 |none=>[]
theorem am4(P:Params):(vaT.i4.all (am3 P))=true:=by rfl'
theorem am5(w:World):(vaT.i4.map (Ss w.params))=vaT.i4.map (Su w):=by rfl'
theorem Sv(P:Params):(fnT.i4.map λp=>hW p.1 (oG P))=fnT.i4.map λp=>some (.ref p.2.a):=by rfl'
theorem am6(P:Params):(freeL.map λx=>(hW x (oG P),hW x (i2 P 0).toList))=freeL.map λx=>(none,some (nS x)):=by rfl'
theorem am7(P:Params):([0,2,3].all λa=>R0 P a)=true:=by rfl'
theorem am8(P:Params):hW "sys.recursionlimit" (i2 P 2).toList=none:=by rfl'
def Sw (x:Str):Bool:=a9 x "force"||(a9 x "bound"||(a9 x "shape"||a9 x "list_prop"))
theorem am9(P:Params):(meL.all λp=>lz (K0 P) iz p.2.2.2 p.1&&Sw p.1)=true:=by rfl'
theorem ama(P:Params):([(fz,h6),(fz,jc),(fz,kt),(fz,ku),(fz,"defaults"),(fz,"names"),(iz,cF),(hX,fT),(hX,lc)].all λp=>iN (K0 P) p.1 p.2)=true:=by rfl'
section
def aok:=an "__init__"
theorem amb(P:Params):lz (K0 P) fz 137 h7=true:=by rfl'
theorem HS(P:Params):([202,195,hX,fz,iz].all λa=>keepIn (K0 P) (.ref a))=true:=by rfl'
theorem HT(P:Params):([hX,fz,iz].all λa=>makesIn (K0 P) a)=true:=by rfl'
theorem HU(P:Params):([(hX,158),(fz,123),(iz,610)].map λp=>findIn (K0 P) (.ref p.1) "__init__")=[(hX,158),(fz,123),(iz,610)].map λp=>some (some (.ref p.2)):=by rfl'
theorem HV(P:Params):([158,123,610].all λa=>isFn (K0 P) (.ref a))=true:=by rfl'
theorem amc(P:Params):((declL.map (·.1)).all λa=>hp (K0 P) hX a)=true:=by rfl'
theorem amd(P:Params):((tabL.map (·.1)).all λa=>hp (K0 P) fz a)=true:=by rfl'
theorem ame(P:Params):((hostL.map (·.1)).all λa=>hp (K0 P) iz a)=true:=by rfl'
theorem amf(P:Params):hp (K0 P) hX fT=true:=by rfl'
def mgL:List (Str×Addr):=[("TypeTable",fz),("RefHost",iz),(sv,hX),(tX,202),(tY,195)]
theorem amg(P:Params):(mgL.map λp=>hW p.1 (oG P))=mgL.map λp=>some (.ref p.2):=by rfl'
theorem amh(P:Params):(hW FF (oG P)).isSome=true:=by rfl'
theorem ami(P:Params):(look P sysModules).isSome=true:=by rfl'
theorem HW:G0.free dy=true:=by rfl'
theorem amj:G0.val oi=some (.int 10):=by rfl'
theorem Sx(P:Params):hW dy (oG P)=none/\hW dy (i2 P 0).toList=some (.builtin "len"):=⟨by rfl',by rfl'⟩
def nc (w:World):Str->Option Value:=λx=>hW x (oG w.params)
def HX (w:World):Str->Option Value:=λx=>hW x (i2 w.params 0).toList
variable {prog:Program}{w:World}
theorem vV{p:Str×Addr}(h:p∈mgL):nc w p.1=some (.ref p.2):=bJ (amg w.params) h
theorem qM{a:Addr}(h:a∈[0,2,3]):(Hd.H1 w.params).Ns a λx=>hW x (i2 w.params a).toList:=alG (bl (am7 w.params) h)
theorem HY:(Hd.H1 w.params).NoLimit:=⟨_,qM (a:=2) (by decide),am8 w.params⟩
theorem amk{H:T}{g:Gh}{v:Value}{u:V}{f:bA}(up:∀a o,f a=some o->g.im a=some o)(h:qJ f u v=true):Val prog w H g g.im v u:=by
 obtain⟨d,aa,ah⟩:=HL h
 exact .g9 (aa H) (ah.mono up)
theorem aml{H:T}{g:Gh}{v:Value}{l:List (V×V)}(up:∀a o,look w.params a=some o->g.im a=some o)(h:Sq (look w.params) l v=true)(hh:HR w.params v=zt w l):Val prog w H g g.im v (.dict l):=by
 obtain⟨a,e1,h⟩:=dX h
 obtain⟨av,h⟩:=aK h
 obtain⟨o,d8,h⟩:=dX h
 obtain⟨hx,h⟩:=aK h
 obtain⟨q,eq,h⟩:=dX h
 have amm:i2 w.params a=q.1:=by unfold i2;rw[d8,Option.bind_some,eq]
 unfold HR at hh
 rw[e1] at hh
 replace hh:(i2 w.params a).toList.map (·.hash)=zt w l:=hh
 rw[amm] at hh
 unfold zt at hh
 unfold Sp at h
 refine⟨a,o,zo e1,up _ _ d8,zm av,?_⟩
 rcases ig:HQ l with _|_<;>rw[ig] at h hh
 .obtain⟨aa,ah⟩:=aK (show (qL HO _ _ _&&qH _)=true from h)
  obtain⟨aW,en,er,e4,ij⟩:=HP (κ:=strKind prog w) am2 aa hh
  exact .str aW ⟨q.1,q.2,So hx,HA eq,λe cL=>ij e (Array.mem_toList_iff.mpr cL),er,by rw [en];exact zl ah⟩ ((e4 H).mono (T.bP.refl H) up)
 .obtain⟨aa,ah⟩:=aK (show (qL HN _ _ _&&vU _)=true from h)
  obtain⟨aW,en,er,e4,ij⟩:=HP (κ:=intKind prog w) am1 aa hh
  exact .int aW ⟨q.1,q.2,So hx,HA eq,λe cL=>ij e (Array.mem_toList_iff.mpr cL),er,by rw [en];exact Sm ah⟩ ((e4 H).mono (T.bP.refl H) up)
theorem Sy{x:Str}{f:Fn}:∀{l:List (Str×Nat×Nat×Nat)},wK x l=some f->∃p∈l,p.1=x/\f=⟨c5 p.2.1 p.2.2.1,[]⟩
 |(y,i,j,a)::r,h=>by
  revert h
  show (match a9 y x with|true=>some (⟨c5 i j,[]⟩:Fn)|false=>wK x r)=some f->_
  rcases e:a9 y x with _|_
  .intro h
   obtain⟨p,aS,e⟩:=Sy h
   exact⟨p,.tail _ aS,e⟩
  .exact λh=>⟨_,dV ..,sEq_iff.mp e,(Option.some.inj h).symm⟩
theorem Sz{x:Str}{e:FnE}(h:(x,e)∈fnT.i4):(aA e.i,e.a,e.dfl)∈FL:=List.mem_append.mpr (.inl (List.mem_map.mpr ⟨(x,e),h,rfl⟩))
theorem amn{p:Str×Nat×Nat×Nat}(h:p∈meL):(c5 p.2.1 p.2.2.1,p.2.2.2,[])∈FL:=List.mem_append.mpr (.inr (List.mem_append.mpr (.inl (List.mem_map.mpr ⟨p,h,rfl⟩))))
def amo:List qI:=[(c5 54 2,137,[]),(aA 59,195,[.int (-1),.int (-1)]),(aA 60,202,[]),(c5 55 0,158,[]),(c5 54 0,123,[]),(c5 115 0,610,[])]
theorem tg{p:qI}(h:p∈amo):FnOk (Hd.H1 w.params) (K0 w.params) ⟨p.1,p.2.2⟩ (.ref p.2.1):=zr w.params (List.mem_append.mpr (.inr (List.mem_append.mpr (.inr h))))
theorem SA:FnOk (Hd.H1 w.params) (K0 w.params) fnPut (.ref 137):=tg (p:=(c5 54 2,137,[])) (.head _)
theorem amp:FnOk (Hd.H1 w.params) (K0 w.params) fnNP (.ref 195):=tg (p:=(aA 59,195,[.int (-1),.int (-1)])) (.tail _ (.head _))
theorem amq:FnOk (Hd.H1 w.params) (K0 w.params) fnND (.ref 202):=tg (p:=(aA 60,202,[])) (.tail _ (.tail _ (.head _)))
theorem amr:FnOk (Hd.H1 w.params) (K0 w.params) fnDI (.ref 158):=tg (p:=(c5 55 0,158,[])) (.tail _ (.tail _ (.tail _ (.head _))))
theorem ams:FnOk (Hd.H1 w.params) (K0 w.params) fnTI (.ref 123):=tg (p:=(c5 54 0,123,[])) (.tail _ (.tail _ (.tail _ (.tail _ (.head _)))))
theorem amt:FnOk (Hd.H1 w.params) (K0 w.params) fnHI (.ref 610):=tg (p:=(c5 115 0,610,[])) (.tail _ (.tail _ (.tail _ (.tail _ (.tail _ (.head _))))))
abbrev HZ (w:World) (ta:Ta):Prop:=TaOf (Hd.H1 w.params) fz iz hX ta
def amu:List (Addr×Str):=[(fz,h6),(fz,jc),(fz,kt),(fz,ku),(fz,"defaults"),(fz,"names"),(iz,cF),(hX,fT),(hX,lc)]
theorem nf{i:Nat}{p:Addr×Str}(h:amu[i]? =some p):iN (K0 w.params) p.1 p.2=true:=bl (ama w.params) (oK h)
theorem amv{ta:Ta}(t:HZ w ta):Tp ta (K0 w.params):=by
 obtain⟨h0,th,jY,SD⟩:=t
 refine⟨by rw [h0];exact HG _,?_,?_,?_,?_,?_,?_,?_,?_,?_⟩
 .rw[th];exact nf (i:=0) rfl
 .rw[th];exact nf (i:=1) rfl
 .rw[th];exact nf (i:=2) rfl
 .rw[th];exact nf (i:=3) rfl
 .rw[th];exact nf (i:=4) rfl
 .rw[th];exact nf (i:=5) rfl
 .rw[jY];exact nf (i:=6) rfl
 .rw[SD];exact nf (i:=7) rfl
 .rw[SD];exact nf (i:=8) rfl
theorem amw{x:Str}{u:V}(e:G0.val x=some u):∃v,nc w x=some v/\∀H g,(∀a o,look w.params a=some o->g.im a=some o)->Val prog w H g g.im v u:=by
 have m:=Tr.get_mem (t:=vaT) e
 have hh:=bJ (am5 w) m
 obtain⟨v,SE,al⟩:=dX (bl (am4 w.params) m)
 refine⟨v,SE,λH g up=>?_⟩
 unfold Ss Su at hh
 unfold Sr at al
 rw[SE] at hh
 rcases xS:oY u with _|l<;>rw[xS] at al hh
 .exact amk up al
 .rw[CA xS]
  exact aml up al hh
theorem amx{m:Str}(h:Sw m=true):m="force"\/m="bound"\/m="shape"\/m="list_prop":=by
 have o:=λ{a b:Bool} (h:(a||b)=true)=>(f9 a b).mp h
 exact(o h).imp sEq_iff.mp λh=>(o h).imp sEq_iff.mp λh=>(o h).imp sEq_iff.mp sEq_iff.mp
theorem SF{ta:Ta}(t:HZ w ta):Bk prog w G0 ta (K0 w.params) (nc w) (HX w):=by
 have h0:=t.h0
 refine⟨amv t,by rw [h0];exact qM (a:=3) (by decide),by rw [h0];exact qM (a:=0) (by decide),by rw [h0];exact HY,λx u e=>?_,λx f e=>?_,λm f e=>?_,λx e=>?_⟩
 .obtain⟨v,e1,k⟩:=amw (prog:=prog) (w:=w) e
  exact⟨v,e1,λH g _ ao=>k H g λa o e=>ao a o (by rw [h0];exact qF e)⟩
 .obtain⟨dE,e1,e2⟩:=nk e
  have m:=Tr.get_mem (t:=fnT) e1
  rw[<-e2,h0]
  exact⟨_,bJ (Sv w.params) m,zr w.params (Sz m)⟩
 .obtain⟨p,aS,e1,e2⟩:=Sy (l:=meL) e
  obtain⟨a,b⟩:=aK (bl (am9 w.params) aS)
  rw[<-e1,e2,h0,t.h]
  exact⟨amx b,p.2.2.2,a,zr w.params (amn aS)⟩
 .have q:=bJ (am6 w.params) (memS_iff.mp e)
  exact⟨congrArg (·.1) q,congrArg (·.2) q⟩
theorem H0{A:Around}{n:Nat}(R:Room A n):A.depth+2<recursionLimit/\A.units+200<cLine:=
 ⟨me (Nat.add_lt_add_right (hZ (eZ ..) R.depth) 2) (by decide),hZ (aT (dh (by decide) _) (jC (eZ ..) 400)) R.units⟩
theorem amy{ta:Ta}(t:HZ w ta):Prm prog w ta (K0 w.params) (nc w):=by
 have B:Bk prog w G0 ta (K0 w.params) (nc w) (HX w):=SF t
 have fL:=λ{a:Addr} (h:a∈[202,195,hX,fz,iz])=>bl (HS w.params) h
 have dx:lz (K0 w.params) ta.gO 137 h7=true:=by rw [t.t];exact amb _
 have h0:=t.h0
 refine⟨⟨137,dx,λH row v O h ag A n g s nW Q E R T C al ak=>?_⟩,⟨.ref 202,vV (p:=(tX,202)) (.tail _ (.tail _ (.tail _ (.head _)))),fL (.head _),λH i x ao A n g s el ep Q E R T C qd Ft ak=>?_⟩,
  ⟨.ref 195,vV (p:=(tY,195)) (.tail _ (.tail _ (.tail _ (.tail _ (.head _))))),fL (.tail _ (.head _)),λH x v O ao h ag A n g s ep Q E R T C al ak=>?_⟩⟩
 .obtain⟨ge,gf⟩:=H0 R
  exact NZ B HW (h0▸SA) h ag (qS (qS ge)) (hZ (dh (by decide) _) gf) T C al ak
 .refine aej B HW (t.d▸vV (p:=(sv,hX)) (.tail _ (.tail _ (.head _)))) (t.d▸fL (.tail _ (.tail _ (.head _)))) (t.d▸bl (HT w.params) (.head _)) (fI:=158) (t.d▸bJ (HU w.params) (x:=(hX,158)) (.head _)) (bl (HV w.params) (.head _)) (h0▸amr) (λa aw=>t.d▸bl (amc w.params) aw) (h0▸amq) ao (H0 R).1 T C qd Ft ak
 .obtain⟨ge,gf⟩:=H0 R
  exact ads B HW amj dx (h0▸SA) (h0▸amp) ao h ag (qS ge) gf T C al ak
theorem amz:Tops prog w (Hd.H1 w.params) (K0 w.params) (nc w) (HX w) fz iz hX:=by
 have i:=bJ (HU w.params) (x:=(fz,123)) (.tail _ (.head _))
 refine⟨λ_=>SF,λ_=>amy,amf _,?_,bl (HS w.params) (.tail _ (.tail _ (.tail _ (.head _)))),vV (p:=("TypeTable",fz)) (.head _),aeQ HY (HG _) (qM (a:=3) (by decide)) (bl (HT w.params) (.tail _ (.head _))) ⟨123,i,bl (HV w.params) (.tail _ (.head _)),ams⟩ λa aw=>bl (amd w.params) aw⟩
 obtain⟨o,e⟩:=Option.isSome_iff_exists.mp (ami w.params)
 exact⟨o,qF e⟩
theorem amA:HostOk (Hd.H1 w.params) (K0 w.params) (nc w) iz:=by
 have i:=bJ (HU w.params) (x:=(iz,610)) (.tail _ (.tail _ (.head _)))
 exact⟨bl (HS w.params) (.tail _ (.tail _ (.tail _ (.tail _ (.head _))))),vV (p:=("RefHost",iz)) (.tail _ (.head _)),
  af2 HY (HG _) (qM (a:=3) (by decide)) (bl (HT w.params) (.tail _ (.tail _ (.head _)))) ⟨610,i,bl (HV w.params) (.tail _ (.tail _ (.head _))),amt⟩ (λa aw=>bl (ame w.params) aw) (Option.isSome_iff_exists.mp (amh w.params))⟩
end
theorem amB{h:Heap}{a:Addr}{m jl:Str->Option Value}(aa:h.Ns a m)(ah:h.Ns a jl):m=jl:=by
 obtain⟨o,es,ca,en,er,_,e4⟩:=aa
 obtain⟨b9,dN,aah,hg,gV,_,hj⟩:=ah
 rw[<-Option.some.inj (en.symm.trans hg),er] at gV
 injection gV with gV
 rw[<-gV] at hj
 funext x
 rw[<-e4,<-hj]
theorem amC{x:WData}(h:WShape.has [] x .int=true):∃n:Int,x= .int n:=by
 rcases x<;>first|exact⟨_,rfl⟩|exact c2 h
theorem SG:∀{a4:List WData},WShape.hasItems [] a4 .int=true->∃ns:List Int,a4=ns.map .int
 |[],_=>⟨[],rfl⟩
 |x::a4,h=>by
  obtain⟨aa,ah⟩:=aK (show (WShape.has [] x .int&&WShape.hasItems [] a4 .int)=true from h)
  obtain⟨n,e⟩:=amC aa
  obtain⟨ns,bq⟩:=SG ah
  exact⟨n::ns,by rw [e,bq];rfl⟩
theorem amD{x:WData}(h:WShape.has [] x (.list .int)=true):∃ns:List Int,x= .list (ns.map .int):=by
 rcases x
 case list a4=>
  obtain⟨ns,e⟩:=SG ((z1 _).symm.trans (show (WShape.hasItems [] a4 .int||false)=true from h))
  exact⟨ns,by rw [e]⟩
 all_goals exact c2 h
theorem SH{cl:Str->Option Addr}{h:Heap}:∀{ns:List Int}{vs:List Value}{as:List Addr},ReadsAllW [] cl h vs (ns.map .int) as->IntsAre vs ns
 |[],_,_,r=>(readsAllW_nil_inv r).1▸ .nil
 |n::ns,_,_,r=>by
  obtain⟨v,vs,as,bs,e,_,a,b⟩:=readsAllW_cons_inv r
  obtain⟨t,bq,_⟩:=readsW_int_inv a
  rw[e,bq]
  exact .cons n t (SH b)
theorem amE{ns:List Int}(h:WTm.holds [] PySem.Challenge.rw_pc0112_01.pre {args:=[.list (ns.map .int)]}=true):ns.length<=63:=by
 rcases oP 63 ns.length with q|q
 .have e:decide (((63:Nat):Int)<(((ns.map WData.int).length:Nat):Int))=true:=decide_eq_true (by rw [eQ];exact Int.ofNat_lt.mpr q)
  have k:WTm.holds [] PySem.Challenge.rw_pc0112_01.pre {args:=[.list (ns.map .int)]}=WTm.holds [] (.and (.not (.lit (.bool (decide (((63:Nat):Int)<(((ns.map WData.int).length:Nat):Int)))))) (.lit (.bool true))) {args:=[]}:=rfl
  rw[k,e] at h
  exact c2 h
 .exact q
theorem amF{args:List WData}(h:Hd.lawRow.toRowW.claim.pre args=true):∃ns:List Int,args=[.list (ns.map .int)]/\ns.length<=63:=by
 obtain⟨aa,ah⟩:=aK (show (WShape.hasAll [] args [.list .int]&&WTm.holds [] (PySem.Challenge.rw_pc0112_01.pre) {args:=args})=true from h)
 rcases args with _|⟨x,r⟩
 .exact c2 aa
 obtain⟨aa,aC⟩:=aK (show (WShape.has [] x (.list .int)&&WShape.hasAll [] r [])=true from aa)
 obtain⟨ns,e⟩:=amD aa
 rcases r with _|⟨y,r⟩
 .rw[e] at ah
  exact⟨ns,by rw [e],amE ah⟩
 .exact c2 aC
def vW:=an "law"
theorem amG{w:World}:FnOk (Hd.H1 w.params) (K0 w.params) lawFn (.ref 891):=by
 have m:(vW,(⟨165,891,[]⟩:FnE))∈fnT.i4:=Tr.get_mem (n:=wJ vW) (by rfl')
 exact zr w.params (Sz m)
theorem amH{w:World}:nc w vW=some (.ref 891):=by
 have m:(vW,(⟨165,891,[]⟩:FnE))∈fnT.i4:=Tr.get_mem (n:=wJ vW) (by rfl')
 exact bJ (Sv w.params) m
theorem amI:WalkO Hd.qv Hd.loose0 Hd.XP0 Hd.YP0 Hd.lawRow.toRowW Hd.d0 [] (λf vs=>call f vs):=by
 intro w aol c1 bp mb G Y a o mi cd doc cY aom aw aQ ap uz SI amJ args b2 as amK aon hm aoo has
 obtain⟨ns,e,aX⟩:=amF amK
 have em:=amB G.T.g ((qM (a:=3) (by decide)).keeps Y:c1.heap.Ns mainGlobals (nc w))
 have fM:a=891:=by
  rw[em] at SI
  injection Option.some.inj (SI.symm.trans (amH (w:=w)))
 rw[e] at hm
 obtain⟨v,vs,aop,bs,e1,_,ge,gf⟩:=readsAllW_cons_inv hm
 obtain⟨l,aU,_,e2,eJ,qb,_⟩:=readsW_list_inv ge
 rw[fM,e1,(readsAllW_nil_inv gf).1,e2]
 refine afA amz amA amG (qM (a:=0) (by decide)) (Sx w.params).1 (Sx w.params).2 rfl (by decide) (by decide) Y (vs:=aU.toList) eJ (SH qb) aX (alB ns) λh' dC k=>?_
 exact GoodW.toG ⟨.inl ⟨.bool true,.bool true,[],rfl,λ_=>rfl,.bool true,by rfl',λ_=>⟨wc,λ_ h=>nomatch h⟩⟩,k,rfl,amJ⟩
theorem holds:PySem.Challenge.rw_pc0112_01.Holds:=Hd.holds0 amI
end Mine
end
theorem PySem.Challenge.cw_pc0112_01_holds : PySem.Challenge.rw_pc0112_01.Holds :=
 Mine.holds
