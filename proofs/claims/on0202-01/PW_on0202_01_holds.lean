import PyProof.Rows.All
import Wide.All
import OpenK.AllK
import Wide.FinOn
import KE.KSortTup
import KE.KDictList
import KE.KLam
import PyProof.DictCompW
import Lean
import PySem.Challenge.RW_on0202_01
open PySem PySem.W PySem.Calls PyProof.Rows
set_option Elab.async false
set_option maxRecDepth 100000
set_option maxHeartbeats 0
set_option linter.all false
set_option compiler.extract_closed false
set_option genSizeOf false
set_option genInjectivity false
noncomputable section
namespace Mine.Internal
abbrev ah:=@wpAny_bind
abbrev ak:=@Option.some.inj
abbrev au:=@And.intro
abbrev aJ:=@Nat.le_trans
abbrev aQ:=@wpAny_pure
abbrev aU:=@List.length_map
abbrev bc:=@Heap.get?_push_of_some
abbrev bw:=@Nat.le_refl
abbrev bF:=@if_pos
abbrev bM:=@List.size_toArray
abbrev bQ:=@if_neg
abbrev bV:=@List.length_cons
abbrev bW:=@decide_eq_false
abbrev b9:=@Heap.lt_size
abbrev cD:=@decide_eq_true
abbrev c9:=@Nat.ne_of_lt
abbrev dk:=@Heap.size_push
abbrev dm:=@List.map_map
abbrev dK:=@Nat.lt_of_lt_of_le
abbrev dW:=@piece_app
abbrev dX:=@segRun_of
abbrev dZ:=@wpAny_mono
abbrev ej:=@Heap.get?_push_size
abbrev el:=@List.length_append
abbrev em:=@Nat.eq_of_beq_eq_true
abbrev eK:=@List.append_nil
abbrev eL:=@List.map_append
abbrev eM:=@Nat.le_add_right
abbrev eN:=@Nat.lt_succ_self
abbrev eQ:=@beq_self_eq_true
abbrev eX:=@Nat.lt_of_le_of_lt
abbrev fN:=@eq_of_beq
abbrev fZ:=@wpAny_holding
abbrev f6:=@Nat.ble_eq_true_of_le
abbrev f7:=@Nat.le_of_eq
abbrev f8:=@Nat.le_of_lt
abbrev f9:=@Nat.zero_le
abbrev gJ:=@Bool.and_eq_true
abbrev gM:=@List.map_cons
abbrev hJ:=@List.append_assoc
abbrev iJ:=@wpAny_standAt
abbrev i9:=@List.length_nil
abbrev ja:=@Nat.lt_trans
abbrev jy:=@Bool.false_ne_true
abbrev jE:=@List.lookup_cons
abbrev jF:=@Nat.lt_irrefl
abbrev jG:=@Nat.lt_succ_of_lt
abbrev kg:=@wpAny_execs_cons
abbrev kj:=@List.filter_cons
abbrev km:=@List.getElem?_toArray
abbrev kn:=@Nat.le_succ
abbrev ko:=@Nat.lt_of_succ_lt_succ
abbrev kD:=@args_cons
abbrev lH:=@sizeLine_eq
abbrev lK:=@wpAny_call
abbrev lM:=@wpAny_loadPart_at
abbrev lP:=@Int.le_of_lt
abbrev lR:=@List.map_drop
abbrev lS:=@List.nodup_nil
abbrev lT:=@Nat.le_of_ble_eq_true
abbrev mT:=@Heap.SameBut.update
abbrev mU:=@Looks.here
abbrev mW:=@Nat.lt_or_ge
abbrev mX:=@Nat.ne_of_gt
abbrev mY:=@Nat.zero_add
abbrev oM:=@Bool.false_eq_true
abbrev oP:=@Int.mul_pos
abbrev oQ:=@List.cons.inj
abbrev oR:=@List.getElem?_eq_getElem
abbrev oS:=@List.getElem?_map
abbrev oT:=@List.length_range
abbrev oU:=@List.map_nil
abbrev oV:=@Nat.succ.inj
abbrev o7:=@beq_iff_eq
abbrev pd:=@decide_eq_decide
abbrev pz:=@if_false
abbrev qj:=@Bool.eq_iff_iff
abbrev qu:=@args_nil
abbrev qC:=@call_meets
abbrev rA:=@looks_findIn
abbrev sK:=@wpAny_Name
abbrev sM:=@wpAny_newObj_type
abbrev sN:=@wpAny_rule
abbrev sV:=@Bool.cond_decide
abbrev sW:=@Bool.or_false
abbrev sX:=@Bool.or_true
abbrev s9:=@Heap.get?_update_self
abbrev te:=@Int.eq_ofNat_of_zero_le
abbrev tj:=@List.drop_sublist
abbrev tl:=@List.length_range'
abbrev tm:=@List.length_take
abbrev tn:=@List.mem_singleton
abbrev tq:=@List.range'_succ
abbrev tu:=@List.take_of_length_le
abbrev tz:=@Name_function_global
abbrev tA:=@Nat.le_antisymm
abbrev tB:=@Option.isNone_iff_eq_none
abbrev tN:=@callWith_builtin
abbrev tX:=@decide_eq_true_eq
abbrev vW:=@wpAny_Return_some
abbrev vX:=@wpAny_isSubtype_exc
abbrev vY:=@wpAny_loadName_local
abbrev v8:=@Around.under_plainId
abbrev v9:=@Array.any_toList
abbrev wa:=@Bool.and_true
abbrev we:=@F.plainAttrs_list
abbrev wf:=@Heap.get?_update_ne
abbrev wg:=@Heap.size_update
abbrev wh:=@Int.fdiv_eq_ediv_of_nonneg
abbrev wi:=@Int.le_trans
abbrev wj:=@Int.mul_one
abbrev wn:=@List.any_cons
abbrev wo:=@List.drop_length
abbrev wt:=@List.filter_congr
abbrev wu:=@List.flatMap_cons
abbrev wv:=@List.mem_map_of_mem
abbrev ww:=@List.nil_append
abbrev wx:=@List.nodup_cons
abbrev wy:=@List.range_eq_range'
abbrev wz:=@Nat.mul_comm
abbrev wC:=@Nat.succ_pos
abbrev wD:=@PySem.F.excBase_Exception
abbrev wE:=@Fast.te14364793385576792824
abbrev wF:=@Fast.te17119622794617984870
abbrev xm:=@clipAt_nat
abbrev xu:=@codeAny_builtin
abbrev xy:=@concat_meets
abbrev yU:=@kp_binds
abbrev zr:=@of_decide_eq_true
abbrev zD:=@putName_dict
abbrev Am:=@wpAny_askSetting
abbrev Ao:=@wpAny_execs_nil
abbrev Ap:=@wpAny_newFunctionEnv
abbrev Av:=@Array.getElem?_toList
abbrev Aw:=@Array.length_toList
abbrev Ay:=@Bool.and_false
abbrev Az:=@Bool.false_and
abbrev AA:=@Bool.not_true
abbrev AB:=@Bool.true_and
abbrev AE:=@Int.gcd_pos_of_ne_zero_right
abbrev AF:=@Int.mul_le_mul_of_nonneg_left
abbrev AG:=@Int.natAbs_mul
abbrev AH:=@Int.neg_mul
abbrev AL:=@List.all_cons
abbrev AM:=@List.all_map
abbrev AN:=@List.flatMap_nil
abbrev AO:=@List.length_drop
abbrev AP:=@List.map_take
abbrev AQ:=@List.mem_cons
abbrev AS:=@List.mem_of_getElem?
abbrev AT:=@List.mem_range'_1
abbrev AU:=@List.nil_sublist
abbrev AW:=@List.nodup_append
abbrev AX:=@List.take_length
abbrev AY:=@Nat.add_assoc
abbrev AZ:=@Nat.add_comm
abbrev A0:=@Nat.add_le_add
abbrev A1:=@Nat.add_le_add_left
abbrev A2:=@Nat.add_sub_cancel'
abbrev A3:=@Nat.beq_refl
abbrev A4:=@Nat.le_succ_of_le
abbrev A5:=@Nat.min_eq_left
abbrev A6:=@Nat.mul_assoc
abbrev A7:=@Nat.not_lt_zero
abbrev A8:=@Nat.sub_lt_sub_left
abbrev A9:=@Nat.succ_le_succ
abbrev Ba:=@Nat.succ_lt_succ
abbrev Bc:=@PySem.F.args_tuple_add_2
abbrev Bd:=@PySem.F.entry_tuple_add
abbrev Be:=@PySem.F.slot_tuple_add
abbrev Bg:=@Fast.te13343964577679436407
abbrev Bh:=@Fast.te16421684217811934046
abbrev Bp:=@Value.isInt_shape
abbrev BV:=@callWith_of
abbrev B8:=@codeAny_call_builtin
abbrev Ca:=@codeAny_loop
abbrev Cb:=@codeAny_mono
abbrev Cq:=@decide_eq_true_iff
abbrev DG:=@hideAll_get
abbrev EE:=@noFill_tuple_add
abbrev Fg:=@plainGet_of
abbrev Fh:=@plainId_quiet
abbrev F7:=@seq_tuple_add
abbrev HU:=@wpAny_assign_Name
abbrev HW:=@wpAny_comprehension_free
abbrev HY:=@wpAny_loadPart
abbrev HZ:=@wpAny_mkText
abbrev H0:=@wpAny_noted
abbrev H8:=@wpAny_of_eq
abbrev H9:=@wpAny_pyIter_list
abbrev Ia:=@wpAny_typeOf
abbrev Il:=@Array.toArray_toList
abbrev Io:=@AutoSeq1.wpAny_loadPart'
abbrev Iu:=@Heap.get?_none_of_le
abbrev Iv:=@Int.fmod_eq_emod_of_nonneg
abbrev Ix:=@List.drop_eq_getElem_cons
abbrev Iy:=@List.drop_eq_nil_of_le
abbrev Iz:=@List.drop_of_length_le
abbrev IA:=@List.getD_eq_getElem?_getD
abbrev IB:=@List.mem_append_right
abbrev ID:=@List.range'_append_1
abbrev IE:=@Nat.lt_add_of_pos_right
abbrev IF:=@PySem.F.entry_list_pop
abbrev IG:=@PySem.F.slot_list_pop
abbrev IH:=@Fast.te18344453789297297638
abbrev II:=@Fast.te797321630700447069
abbrev IJ:=@Fast.te8326940854005059898
abbrev IK:=@PySem.slot_list_setitem
abbrev IY:=@aRefKeyMayBeTheName_at
abbrev Kr:=@codeAny_call_function
abbrev Sz:=@plainObj_wpAny_Assign_Attribute
abbrev WR:=@wpAny_Assign_Subscript
abbrev WS:=@wpAny_list_append_plain
abbrev WU:=@wpAny_storeName_local
noncomputable abbrev co:List Nat:=[109,111,100]
noncomputable abbrev dg:List Nat:=[99,104,105,108,100]
noncomputable abbrev dN:List Nat:=[100,105,118]
noncomputable abbrev dP:List Nat:=[110,111,100,101]
noncomputable abbrev eo:List Nat:=[110,111,110,101]
noncomputable abbrev eG:List Nat:=[115,101,108,102]
noncomputable abbrev e9:List Nat:=[108,97,115,116]
noncomputable abbrev fb:List Nat:=[114,111,111,116]
noncomputable abbrev fw:List Nat:=[33,61]
noncomputable abbrev fK:List Nat:=[112,97,114,101,110,116]
noncomputable abbrev fL:List Nat:=[116,114,117,101]
noncomputable abbrev fM:List Nat:=[60,61]
noncomputable abbrev ga:List Nat:=[62,61]
noncomputable abbrev gp:List Nat:=[115,116,114,105,110,103]
noncomputable abbrev gN:List Nat:=[97,110,121]
noncomputable abbrev ij:List Nat:=[102,97,108,115,101]
noncomputable abbrev ik:List Nat:=[112,111,115,105,116,105,111,110]
noncomputable abbrev iM:List Nat:=[97,98,111,118,101]
noncomputable abbrev jI:List Nat:=[111,114]
noncomputable abbrev jJ:List Nat:=[97,110,100]
noncomputable abbrev lV:List Nat:=[98,101,108,111,119]
noncomputable abbrev lW:List Nat:=[98,111,111,108,101,97,110]
noncomputable abbrev lX:List Nat:=[99,111,117,110,116]
noncomputable abbrev oX:List Nat:=[116,111,108,100]
noncomputable abbrev ql:List Nat:=[101,108,101,109,101,110,116]
noncomputable abbrev qm:List Nat:=[104,101,108,100]
noncomputable abbrev qn:List Nat:=[110,111,116]
noncomputable abbrev qo:List Nat:=[111,119,110]
noncomputable abbrev qp:List Nat:=[116,101,120,116,115]
noncomputable abbrev tE:List Nat:=[111,114,100,101,114]
noncomputable abbrev wM:List Nat:=[112,108,97,99,101]
noncomputable abbrev wN:List Nat:=[116,101,120,116]
noncomputable abbrev wO:List Nat:=[97,116,116,114,105,98,117,116,101]
noncomputable abbrev Bq:List Nat:=[110,111,114,109,97,108,105,122,101,45,115,112,97,99,101]
noncomputable abbrev Br:List Nat:=[115,105,122,101]
noncomputable abbrev Bs:List Nat:=[115,116,114,105,110,103,45,108,101,110,103,116,104]
noncomputable abbrev Bt:List Nat:=[115,117,98,115,116,114,105,110,103]
noncomputable abbrev Bu:List Nat:=[116,114,97,110,115,108,97,116,101]
noncomputable abbrev Bv:List Nat:=[99,111,110,99,97,116]
noncomputable abbrev IQ:List Nat:=[108,111,99,97,108,45,110,97,109,101]
noncomputable abbrev IR:List Nat:=[110,97,109,101,115,112,97,99,101,45,117,114,105]
noncomputable abbrev IS:List Nat:=[110,97,109,101,115,112,97,99,101]
noncomputable abbrev IT:List Nat:=[115,116,97,114,116,115,45,119,105,116,104]
noncomputable abbrev IU:List Nat:=[115,117,98,115,116,114,105,110,103,45,97,102,116,101,114]
noncomputable abbrev IV:List Nat:=[115,117,98,115,116,114,105,110,103,45,98,101,102,111,114,101]
noncomputable abbrev IW:List Nat:=[97,32,110,111,100,101,32,115,101,116,32,105,115,32,119,97,110,116,101,100]
noncomputable abbrev IX:List Nat:=[99,111,110,116,97,105,110,115]
section
noncomputable abbrev pw:Program:=PySem.Challenge.pw_on0202_01
noncomputable abbrev N:Value:=.none
noncomputable abbrev B(b:Bool):Value:=.bool b
noncomputable abbrev I(i:Int)(t:Tok):Value:=.int i t
noncomputable abbrev S(s:String)(t:Tok):Value:=.str (Str.ofString s) t
noncomputable abbrev Ty(s:String):Value:=.type s
noncomputable abbrev Bl(s:String):Value:=.builtin s
noncomputable abbrev R(a:Addr):Value:=.ref a
noncomputable def E(p:Params)(s:String)(t:Tok)(v:Value):DictEntry:=⟨PyData.keyHash p (Str.ofString s),.str (Str.ofString s) t,v⟩
noncomputable def bi(c:Value)(d:Option Addr)(x:Data)(sl:Array (Option Value)):Obj:=⟨c,d,x,sl⟩
noncomputable def bb(l:List Value):Obj:=⟨.type "tuple",none,.seq l.toArray 0,#[]⟩
noncomputable def aO(c:Value)(l:List Value):Obj:=⟨c,none,.fields l.toArray,#[]⟩
structure Fp where
 params:Arguments
 body:List Stmt
 scope:Scope
noncomputable def x8(s:Stmt):Fp:=if h:s.ctorIdx=0 then Stmt.FunctionDef.elim (motive_2:=λ_=>Fp) s h (λ_ a b _ _ _ c _ _ _=>⟨a,b,c⟩) else⟨⟨[],[],none,[],[],none,[]⟩,[],⟨.module,[],false,false,[]⟩⟩
noncomputable def Ki(s:Stmt):List Stmt:=if h:s.ctorIdx=2 then Stmt.ClassDef.elim (motive_2:=λ_=>List Stmt) s h (λ_ _ _ b _ _ _ _ _ _ _=>b) else []
noncomputable def ae{α:Type}:List α→Nat→Option α
 |[],_=>none
 |x::l,n=>match n with
  |0=>some x
  |n+1=>ae l n
noncomputable def GL(k:Nat):Stmt:=(ae pw.main.body k).getD (.Pass ⟨0,0,0,0⟩)
noncomputable def fp(k:Nat):Fp:=x8 (GL k)
noncomputable def mp(k j:Nat):Fp:=x8 ((ae (Ki (GL k)) j).getD (.Pass ⟨0,0,0,0⟩))
noncomputable def bX(n q:String)(f:Fp)(g:Addr)(dV kV doc pm code ct:Value)(bl:Addr):FuncData:={name:=Str.ofString n,qualname:=Str.ofString q,params:=f.params,body:=.stmts f.body,scope:=f.scope,globals:=g,closure:=[],defaults:=dV,kwdefaults:=kV,doc:=doc,pyModule:=pm,annotations:=none,code:=code,closureTuple:=ct,builtins:=bl}
noncomputable def nr(n:String)(bases mro:List Value)(ns:Addr)(q:String)(sub:List Value):ClassData:={name:=Str.ofString n,bases,mro,ns,qualname:=Str.ofString q,hasDict:=true,slotNames:=[],subclasses:=sub,abstract:=false,collection:=none,hasDel:=false}
noncomputable def DH:List String→Nat→List Value
 |[],_=>[]
 |s::r,t=>S s t::DH r (t+1)
noncomputable def G(p:Params)(l:List (String×Nat×Addr)):List DictEntry:=l.map λq=>E p q.1 q.2.1 (R q.2.2)
noncomputable def G2(l:List (Nat×Addr)):List Value:=l.flatMap λq=>[I q.1 0,I 4 0,R q.2]
noncomputable def cF:String:="/claim/cut.py"
noncomputable def B0(n q:String)(a t u l c g:Nat)(b:Bool)(x:List Value):Obj:=aO (Ty "code") ([S n t,S q (t+1),S cF (t+2),I l 0,I c 0,I 0 0,I 0 0,I g 0,R a,B b,I 181 0,R (a+1),N]++x++[I u 0,I l 0,S cF (u+1)])
noncomputable def dO(n q:String)(f:Fp)(a t l c:Nat)(vs:List String)(dv md:Value):List Obj:=[bb [],aO N [],bb (DH vs (t+3)),bb [],bi N none (.func (bX n q f 0 N N N N N N 0)) #[],B0 n q a t (t+3+vs.length) l c 3 true [R (a+2),R (a+3),R (a+4)],bi (Ty "function") none (.func (bX n q f 3 dv N N md (R (a+5)) N 0)) #[]]
noncomputable def fO(n:String)(k a t l c:Nat)(vs:List String)(dv md:Value):List Obj:=dO n n (fp k) a t l c vs dv md
noncomputable def cP(p:Params)(n:String)(md:Value)(a t l:Nat)(ls:List Value)(ms:List DictEntry)(ep:Nat):List Obj:=[bb [],aO (Ty "builtin_function_or_method") [Bl "type.__prepare__",Ty "type"],bi (Ty "dict") none (.dict ([E p "__module__" (t+7) md,E p "__qualname__" (t+9) (S n (t+8)),E p "__firstlineno__" (t+11) (I l (t+10))]++ms).toArray ep) #[],bb [],aO N ls,B0 n n (a+3) (t+2) (t+5) l 0 0 false [N,N,N],bi (Ty "frame") none .plain #[some (R (a+5)),some (R 3),some (R (a+2)),none,some md,none,some (R 0)]]
noncomputable def cQ(p:Params)(n:String)(md:Value)(t l:Nat)(ms:List DictEntry)(b u:Nat):List Obj:=[bi (Ty "dict") none (.dict ([E p "__module__" (t+7) md,E p "__firstlineno__" (t+11) (I l (t+10))]++(ms++[E p "__dict__" (u+1) (R (b+1)),E p "__weakref__" (u+3) (R (b+2)),E p "__doc__" (u+4) N])).toArray 4) #[],bi (Ty "type") none (.cls (nr n [Ty "object"] [R b,Ty "object"] (b-1) n [])) #[none,none,some (S n t),some (S n (t+8)),some (Bl "object.__new__"),some (B true)],aO (Ty "getset_descriptor") [S "__dict__" u,R b,Bl "function.__dict__",Bl "function.__dict__#set"],aO (Ty "getset_descriptor") [S "__weakref__" (u+2),R b,Bl "ExceptionGroup.__weakref__",N],aO (Ty "super") [R b,R b,R b],aO (Ty "builtin_function_or_method") [Bl "object.__init_subclass__",R b]]
noncomputable def m0:Value:=S "__main__" 164
noncomputable def m1:Value:=S "markupmill.numbers" 194
noncomputable def m2:Value:=S "markupmill.order" 390
noncomputable def m3:Value:=S "markupmill.compare" 446
noncomputable def m4:Value:=S "markupmill.errors" 541
noncomputable def m5:Value:=S "markupmill.chars" 604
noncomputable def m6:Value:=S "markupmill.functions_sets" 632
noncomputable def m7:Value:=S "markupmill.strings" 727
noncomputable def m8:Value:=S "markupmill.functions_texts" 803
noncomputable def m9:Value:=S "markupmill.functions" 848
noncomputable def iD:Value:=S "markupmill.axes" 934
noncomputable def pF:Value:=S "markupmill.node_tests" 1042
noncomputable def jk:Value:=S "markupmill.steps" 1084
noncomputable def bk:Value:=S "markupmill.xpath_nodes" 1148
noncomputable def gw:Value:=S "markupmill.evaluate" 1495
noncomputable def jl:Value:=S "markupmill.context" 1580
noncomputable def bB:Value:=S "markupmill.tree" 1655
noncomputable def dz:Value:=S "law_on0202_01" 1953
noncomputable def Jn(p:Params):List Obj:=[boot_o_0 p,boot_o_1 p,boot_o_2 p,boot_o_3 p,boot_o_4 p,boot_o_5 p,boot_o_6 p,boot_o_7 p,boot_o_8 p,boot_o_9 p,boot_o_10 p]
noncomputable def cT:Nat→List Obj→BT→BT
 |_,[],t=>t
 |n,o::r,t=>cT (n+1) r (t.ins n o)
noncomputable def c7:List (Nat×Obj)→BT→BT
 |[],t=>t
 |p::r,t=>c7 r (t.set p.1 λ_=>p.2)
noncomputable def Ma(p:Params):List DictEntry:=[E p "__doc__" 166 N,E p "__package__" 167 N,E p "__loader__" 168 (Bl "__main__.__loader__#opaque"),E p "__spec__" 169 N]++(G p [("__annotations__",170,6),("__builtins__",171,4)]++([E p "__file__" 173 (S "/claim/cut.py" 172),E p "__cached__" 174 N]++(G p [("_wall",193,21),("NAN",198,22),("ZERO",201,23)]++([E p "SPACES_numbers" 203 (S " \t\n\x0d" 202),E p "DIGITS" 205 (S "0123456789" 204)]++(G p [("common_divisor",215,30),("sign_of",222,37),("number_of",232,45),("is_nan",239,52),("negated",246,59),("plus",254,66),("minus",262,73),("times",270,80),("divided",278,87),("cut_whole",286,94),("modulo",295,101),("order_of",303,108),("compared_numbers",313,115),("floor_of",320,122),("ceiling_of",327,129),("rounded",334,136),("digits_end",342,143),("trimmed",351,150),("whole_of",360,157),("read_number",374,164),("write_number",389,172),("lines_down",400,179),("place_among",410,186),("place_of",422,193),("in_order",428,198),("beneath",439,205),("string_value",445,210),("as_text",455,217),("as_number",463,224),("as_truth",471,231),("is_equality",478,238),("compared_texts",487,245),("compared_plain",497,252),("as_compared",503,257),("some_pair",514,264),("texts_of",520,269),("listed",530,276),("compared",540,283),("MarkupError",571,300),("TreeFault",587,313),("PathFault",603,325)]++([E p "SPACES_chars" 607 (S " \t\n\x0d" 606)]++(G p [("is_space",614,334),("space_split",624,341),("collapsed",631,348),("nodes_of",640,355),("counted",647,362),("summed",657,369),("told_node",666,376),("name_part",676,383),("id_texts",686,390),("elements_by_ids",699,397),("language_of",708,404),("speaks",717,411),("call_of_sets",726,418),("starts_with",736,425),("contains",744,432),("before",753,439),("after",762,446),("within",771,453),("substring",783,461),("translated",795,468),("normalized",802,475),("told_value",812,482),("call_of_truths",822,489),("call_of_numbers",832,496),("call_of_two_texts",841,503),("call_of_texts",847,508),("SETS",859,509),("TRUTHS",864,510),("NUMBERS",869,511),("TEXTS",880,512),("NONE_LET",885,513),("ONE_AT_MOST",893,514),("TWO_WANTED",898,515)]++([E p "MANY" 900 (I 1000 899)]++(G p [("is_core",907,522),("bounds_of",914,529),("check_many",924,536),("call_core",933,543),("is_beside",943,550),("descendants",954,557),("ancestors",964,564),("siblings_ahead",974,571),("siblings_behind",984,578),("with_descendants",994,585),("following",1004,592),("preceding",1015,599),("namespaces_in_scope",1021,604),("short_axis",1031,611),("axis",1041,618),("principal_kind",1050,625),("bound_uri",1058,632),("is_named",1070,639),("passes",1083,646),("holds",1093,653),("kept",1107,660),("step_from",1113,665),("unlike",1122,672),("after_step",1135,679),("steps_from",1147,686),("rows_of",1155,691),("Literal",1191,715),("NumberNode",1227,743),("VariableNode",1263,771),("Call",1301,799),("Binary",1341,827),("Negated",1377,855),("Filter",1415,883),("Path",1454,911),("Step",1494,939),("COMPARISONS",1503,944),("needs_nodes",1510,951),("reckoned",1519,958),("united",1525,963),("asker",1534,970),("of_binary",1546,977),("of_call",1552,982),("of_filter",1561,989),("of_path",1571,996),("evaluate",1579,1003),("Context",1654,1042),("PARENTS",1659,1047),("NodeRow",1701,1064),("Tree",1952,1253),("_law_pool",1965,1264),("_law_take",1974,1271),("_law_one",1982,1278),("_law_lowest",1992,1285),("_law_number",2013,1292),("_law_truth",2033,1299),("_law_text",2050,1306),("_law_ordered",2056,1311),("_law_sieve",2062,1316),("_law_nodes",2068,1321),("_law_own_call",2076,1328),("_law_world",2082,1333),("_law_refused",2090,1340),("law",2105,1347)])))))))))
noncomputable def dj:List Value:=List.flatMap (λq=>[I q.1 0,I 0 0,R q.2]) [(1,20),(9,29),(14,36),(20,44),(27,51),(29,58),(31,65),(41,72),(43,79),(49,86),(59,93),(62,100),(69,107),(73,114),(88,121),(90,128),(92,135),(94,142),(98,149),(105,156),(110,163),(123,171),(140,178),(146,185),(153,192),(159,197),(162,204),(170,209),(175,216),(183,223),(189,230),(197,237),(199,244),(201,251),(208,256),(212,263),(221,268),(223,275),(229,282),(236,289),(241,309),(243,321),(247,333),(249,340),(257,347),(260,354),(264,361),(266,368),(271,375),(276,382),(284,389),(291,396),(299,403),(307,410),(313,417),(328,424),(330,431),(332,438),(335,445),(338,452),(342,460),(351,467),(360,474),(363,481),(365,488),(370,495),(377,502),(383,507),(408,521),(410,528),(422,535),(426,542),(438,549),(440,556),(447,563),(453,570),(459,577),(465,584),(471,591),(479,598),(487,603),(500,610),(517,617),(535,624),(537,631),(543,638),(548,645),(563,652),(569,659),(578,664),(581,671),(586,678),(591,685),(596,690),(598,697),(605,725),(612,753),(619,781),(627,809),(636,837),(643,865),(651,893),(662,921),(673,950),(677,957),(685,962),(687,969),(692,976),(705,981),(712,988),(715,995),(724,1002),(741,1009),(766,1053),(778,1074),(877,1263),(882,1270),(891,1277),(893,1284),(898,1291),(927,1298),(950,1305),(966,1310),(968,1315),(980,1320),(1006,1327),(1008,1332),(1030,1339),(1036,1346)]
noncomputable def gD(p:Params)(m:Nat)(v:Value)(ep:Nat):Obj:=bi (Ty "dict") none (.dict ((E p "__name__" 165 v)::(Ma p).take m).toArray ep) #[]
noncomputable def Q3(p:Params):List Obj:=[bb [],
 aO N (dj.take 0),
 aO (Ty "code") [(S "<module>" 182),(S "<module>" 183),(S "/claim/cut.py" 184),(I 1 0),(I 0 0),(I 0 0),(I 0 0),(I 0 0),(R 11),(B false),(I 181 0),(R 12),N,N,N,N,(I 185 0),(I 1 0),(S "/claim/cut.py" 186)],
 bi (Ty "frame") none .plain #[some (R 13),some (R 3),some (R 3),none,some (S "__main__" 164),none,some (R 0)]]
noncomputable def G0(p:Params):BT:=c7 [] (cT 11 (Q3 p) (cT 0 (Jn p) .nil))
noncomputable def i4(w:World)(os:OsState):SharedT:=⟨G0 w.params,15,{},#[],{},187,os⟩
noncomputable def pH(p:Params):List Obj:=fO "_wall" 0 15 187 1 1 ["k"] N m0++
 ([bb [(I 0 196),(I 0 197)],
 bb [(I 0 199),(I 1 200)]]++
 (fO "common_divisor" 6 24 206 9 2 ["one","other","first","second"] N m1++
 (fO "sign_of" 7 31 216 14 1 ["number"] N m1++
 ([bb [(I 1 223)]]++
 (fO "number_of" 8 39 224 20 2 ["top","bottom","common"] (R 38) m1++
 (fO "is_nan" 9 46 233 27 1 ["a"] N m1++
 (fO "negated" 10 53 240 29 1 ["a"] N m1++
 (fO "plus" 11 60 247 31 2 ["a","b"] N m1++
 (fO "minus" 12 67 255 41 2 ["a","b"] N m1++
 (fO "times" 13 74 263 43 2 ["a","b"] N m1++
 (fO "divided" 14 81 271 49 2 ["a","b"] N m1++
 (fO "cut_whole" 15 88 279 59 1 ["a","whole"] N m1++
 (fO "modulo" 16 95 287 62 2 ["a","b","many"] N m1)))))))))))))
noncomputable def G3(p:Params):BT:=c7 [(3,gD p 24 m1 25),(12,aO N (dj.take 36))] (cT 15 (pH p) (G0 p))
noncomputable def eH(w:World)(os:OsState):SharedT:=⟨G3 w.params,102,{},#[],{},296,os⟩
noncomputable def uY(p:Params):List Obj:=fO "order_of" 17 102 296 69 2 ["a","b"] N m1++
 (fO "compared_numbers" 18 109 304 73 3 ["op","a","b","order"] N m1++
 (fO "floor_of" 19 116 314 88 1 ["a"] N m1++
 (fO "ceiling_of" 20 123 321 90 1 ["a"] N m1++
 (fO "rounded" 21 130 328 92 1 ["a"] N m1++
 (fO "digits_end" 22 137 335 94 2 ["text","at"] N m1++
 (fO "trimmed" 23 144 343 98 1 ["text","begin","end"] N m1++
 (fO "whole_of" 24 151 352 105 1 ["digits","number","digit"] N m1++
 (fO "read_number" 25 158 361 110 1 ["text","told","begin","end","whole","parts","last","found"] N m1++
 ([bb [(I 15 375)]]++
 (fO "write_number" 26 166 376 123 2 ["n","places","scale","scaled","told","rest","parts","end"] (R 165) m1++
 (fO "lines_down" 28 173 392 140 2 ["tree","node","found"] N m2++
 (fO "place_among" 29 180 401 146 3 ["tree","parent","node","kind"] N m2))))))))))))
noncomputable def He(p:Params):BT:=c7 [(3,gD p 36 m2 37),(12,aO N (dj.take 72))] (cT 102 (uY p) (G3 p))
noncomputable def dC(w:World)(os:OsState):SharedT:=⟨He w.params,187,{},#[],{},411,os⟩
noncomputable def u6(p:Params):List Obj:=fO "place_of" 30 187 411 153 2 ["tree","node","line","found","above","below"] N m2++
 ([bb [],
 aO N [],
 bi N none (.func (bX "in_order" "in_order" (fp 31) 0 N N N N N N 0)) #[],
 aO (Ty "code") [(S "in_order" 423),(S "in_order" 424),(S "/claim/cut.py" 425),(I 159 0),(I 2 0),(I 0 0),(I 0 0),(I 3 0),(R 194),(B true),(I 181 0),(R 195),N,N,N,(R 196),(I 426 0),(I 159 0),(S "/claim/cut.py" 427)],
 bi (Ty "function") none (.func (bX "in_order" "in_order" (fp 31) 3 N N N (S "markupmill.order" 390) (R 197) N 0)) #[]]++
 (fO "beneath" 32 199 429 162 2 ["tree","node","found","left","here"] N m2++
 ([bb [],
 aO N [],
 bi N none (.func (bX "string_value" "string_value" (fp 33) 0 N N N N N N 0)) #[],
 aO (Ty "code") [(S "string_value" 440),(S "string_value" 441),(S "/claim/cut.py" 442),(I 170 0),(I 2 0),(I 0 0),(I 0 0),(I 3 0),(R 206),(B true),(I 181 0),(R 207),N,N,N,(R 208),(I 443 0),(I 170 0),(S "/claim/cut.py" 444)],
 bi (Ty "function") none (.func (bX "string_value" "string_value" (fp 33) 3 N N N (S "markupmill.order" 390) (R 209) N 0)) #[]]++
 (fO "as_text" 35 211 448 175 2 ["value","tree"] N m3++
 (fO "as_number" 36 218 456 183 2 ["value","tree"] N m3++
 (fO "as_truth" 37 225 464 189 2 ["value","tree"] N m3++
 (fO "is_equality" 38 232 472 197 1 ["op"] N m3++
 (fO "compared_texts" 39 239 479 199 3 ["op","one","other"] N m3++
 (fO "compared_plain" 40 246 488 201 4 ["op","left","right","tree"] N m3++
 ([bb [],
 aO N [],
 bi N none (.func (bX "as_compared" "as_compared" (fp 41) 0 N N N N N N 0)) #[],
 aO (Ty "code") [(S "as_compared" 498),(S "as_compared" 499),(S "/claim/cut.py" 500),(I 208 0),(I 3 0),(I 0 0),(I 0 0),(I 3 0),(R 253),(B true),(I 181 0),(R 254),N,N,N,(R 255),(I 501 0),(I 208 0),(S "/claim/cut.py" 502)],
 bi (Ty "function") none (.func (bX "as_compared" "as_compared" (fp 41) 3 N N N (S "markupmill.compare" 446) (R 256) N 0)) #[]]++
 (fO "some_pair" 42 258 504 212 3 ["op","lefts","rights","left","right"] N m3++
 ([bb [],
 aO N [],
 bi N none (.func (bX "texts_of" "texts_of" (fp 43) 0 N N N N N N 0)) #[],
 aO (Ty "code") [(S "texts_of" 515),(S "texts_of" 516),(S "/claim/cut.py" 517),(I 221 0),(I 2 0),(I 0 0),(I 0 0),(I 3 0),(R 265),(B true),(I 181 0),(R 266),N,N,N,(R 267),(I 518 0),(I 221 0),(S "/claim/cut.py" 519)],
 bi (Ty "function") none (.func (bX "texts_of" "texts_of" (fp 43) 3 N N N (S "markupmill.compare" 446) (R 268) N 0)) #[]]))))))))))))
noncomputable def Hl(p:Params):BT:=c7 [(3,gD p 49 m3 50),(12,aO N (dj.take 111))] (cT 187 (u6 p) (He p))
noncomputable def GB(w:World)(os:OsState):SharedT:=⟨Hl w.params,270,{},#[],{},521,os⟩
noncomputable def u8(p:Params):List Obj:=fO "listed" 44 270 521 223 4 ["op","value","other","tree"] N m3++
 (fO "compared" 45 277 531 229 4 ["op","left","right","tree"] N m3++
 ([bb [(Ty "Exception")],
 aO (Ty "builtin_function_or_method") [(Bl "type.__prepare__"),(Ty "type")],
 bi (Ty "dict") none (.dict [E p "__module__" 550 (S "markupmill.errors" 541),E p "__qualname__" 552 (S "MarkupError" 551),E p "__firstlineno__" 554 (I 236 553),E p "__init__" 562 (R 297),E p "__static_attributes__" 564 (R 298)].toArray 5) #[],
 bb [],
 aO N [(I 238 0),(I 4 0),(R 296)],
 aO (Ty "code") [(S "MarkupError" 545),(S "MarkupError" 546),(S "/claim/cut.py" 547),(I 236 0),(I 0 0),(I 0 0),(I 0 0),(I 0 0),(R 287),(B false),(I 181 0),(R 288),N,N,N,N,(I 548 0),(I 236 0),(S "/claim/cut.py" 549)],
 bi (Ty "frame") none .plain #[some (R 289),some (R 3),some (R 286),none,some (S "markupmill.errors" 541),none,some (R 0)]]++
 (dO "__init__" "MarkupError.__init__" (mp 47 0) 291 555 238 2 ["self","message"] N m4++
 ([bb [(S "message" 563)],
 bi (Ty "dict") none (.dict [E p "__module__" 550 (S "markupmill.errors" 541),E p "__firstlineno__" 554 (I 236 553),E p "__init__" 562 (R 297),E p "__static_attributes__" 564 (R 298),E p "__weakref__" 566 (R 301),E p "__doc__" 567 N].toArray 3) #[],
 bi (Ty "type") none (.cls (nr "MarkupError" [(Ty "Exception")] [(R 300),(Ty "Exception"),(Ty "BaseException"),(Ty "object")] 299 "MarkupError" [])) #[some (R 284),none,some (S "MarkupError" 543),some (S "MarkupError" 551),some (Bl "Exception.__new__"),some (B true)],
 aO (Ty "getset_descriptor") [(S "__weakref__" 565),(R 300),(Bl "ExceptionGroup.__weakref__"),N],
 aO (Ty "super") [(R 300),(R 300),(R 300)],
 aO (Ty "builtin_function_or_method") [(Bl "object.__init_subclass__"),(R 300)]]))))
noncomputable def Hm(p:Params):BT:=c7 [(2,bi N none (.dict [E p "type.__subclasses__.Exception.0" 568 (I 300 0),E p "type.__subclasses__.Exception.n" 569 (I 1 0)].toArray 2) #[]),(3,gD p 52 m4 53),(12,aO N (dj.take 120))] (cT 270 (u8 p) (Hl p))
noncomputable def GC(w:World)(os:OsState):SharedT:=⟨Hm w.params,304,{},#[],{},572,os⟩
noncomputable def zi(p:Params):List Obj:=[bb [(R 300)],
 aO (Ty "builtin_function_or_method") [(Bl "type.__prepare__"),(Ty "type")],
 bi (Ty "dict") none (.dict [E p "__module__" 579 (S "markupmill.errors" 541),E p "__qualname__" 581 (S "TreeFault" 580),E p "__firstlineno__" 583 (I 241 582),E p "__static_attributes__" 584 (R 311)].toArray 4) #[],
 bb [],
 aO N [],
 aO (Ty "code") [(S "TreeFault" 574),(S "TreeFault" 575),(S "/claim/cut.py" 576),(I 241 0),(I 0 0),(I 0 0),(I 0 0),(I 0 0),(R 307),(B false),(I 181 0),(R 308),N,N,N,N,(I 577 0),(I 241 0),(S "/claim/cut.py" 578)],
 bi (Ty "frame") none .plain #[some (R 309),some (R 3),some (R 306),none,some (S "markupmill.errors" 541),none,some (R 0)],
 bb [],
 bi (Ty "dict") none (.dict [E p "__module__" 579 (S "markupmill.errors" 541),E p "__firstlineno__" 583 (I 241 582),E p "__static_attributes__" 584 (R 311),E p "__doc__" 585 N].toArray 2) #[],
 bi (Ty "type") none (.cls (nr "TreeFault" [(R 300)] [(R 313),(R 300),(Ty "Exception"),(Ty "BaseException"),(Ty "object")] 312 "TreeFault" [])) #[some (R 304),none,some (S "TreeFault" 572),some (S "TreeFault" 580),some (Bl "Exception.__new__"),some (B true)],
 aO (Ty "super") [(R 313),(R 313),(R 313)],
 aO (Ty "builtin_function_or_method") [(Bl "object.__init_subclass__"),(R 313)]]
noncomputable def Hn(p:Params):BT:=c7 [(3,gD p 53 m4 54),(12,aO N (dj.take 123)),(300,bi (Ty "type") none (.cls (nr "MarkupError" [(Ty "Exception")] [(R 300),(Ty "Exception"),(Ty "BaseException"),(Ty "object")] 299 "MarkupError" [(R 313)])) #[some (R 284),none,some (S "MarkupError" 543),some (S "MarkupError" 551),some (Bl "Exception.__new__"),some (B true)])] (cT 304 (zi p) (Hm p))
noncomputable def GF(w:World)(os:OsState):SharedT:=⟨Hn w.params,316,{},#[],{},588,os⟩
noncomputable def rT(p:Params):List Obj:=[bb [(R 300)],
 aO (Ty "builtin_function_or_method") [(Bl "type.__prepare__"),(Ty "type")],
 bi (Ty "dict") none (.dict [E p "__module__" 595 (S "markupmill.errors" 541),E p "__qualname__" 597 (S "PathFault" 596),E p "__firstlineno__" 599 (I 243 598),E p "__static_attributes__" 600 (R 323)].toArray 4) #[],
 bb [],
 aO N [],
 aO (Ty "code") [(S "PathFault" 590),(S "PathFault" 591),(S "/claim/cut.py" 592),(I 243 0),(I 0 0),(I 0 0),(I 0 0),(I 0 0),(R 319),(B false),(I 181 0),(R 320),N,N,N,N,(I 593 0),(I 243 0),(S "/claim/cut.py" 594)],
 bi (Ty "frame") none .plain #[some (R 321),some (R 3),some (R 318),none,some (S "markupmill.errors" 541),none,some (R 0)],
 bb [],
 bi (Ty "dict") none (.dict [E p "__module__" 595 (S "markupmill.errors" 541),E p "__firstlineno__" 599 (I 243 598),E p "__static_attributes__" 600 (R 323),E p "__doc__" 601 N].toArray 2) #[],
 bi (Ty "type") none (.cls (nr "PathFault" [(R 300)] [(R 325),(R 300),(Ty "Exception"),(Ty "BaseException"),(Ty "object")] 324 "PathFault" [])) #[some (R 316),none,some (S "PathFault" 588),some (S "PathFault" 596),some (Bl "Exception.__new__"),some (B true)],
 aO (Ty "super") [(R 325),(R 325),(R 325)],
 aO (Ty "builtin_function_or_method") [(Bl "object.__init_subclass__"),(R 325)]]++
 (fO "is_space" 52 328 608 247 1 ["sign"] N m5++
 (fO "space_split" 53 335 615 249 1 ["text","found","begin","place"] N m5++
 (fO "collapsed" 54 342 625 257 1 ["text"] N m5++
 (fO "nodes_of" 56 349 634 260 1 ["value"] N m6++
 (fO "counted" 57 356 641 264 1 ["value"] N m6++
 (fO "summed" 58 363 648 266 2 ["value","tree","total","node"] N m6))))))
noncomputable def Ho(p:Params):BT:=c7 [(3,gD p 61 m6 62),(12,aO N (dj.take 144)),(300,bi (Ty "type") none (.cls (nr "MarkupError" [(Ty "Exception")] [(R 300),(Ty "Exception"),(Ty "BaseException"),(Ty "object")] 299 "MarkupError" [(R 313),(R 325)])) #[some (R 284),none,some (S "MarkupError" 543),some (S "MarkupError" 551),some (Bl "Exception.__new__"),some (B true)])] (cT 316 (rT p) (Hn p))
noncomputable def GG(w:World)(os:OsState):SharedT:=⟨Ho w.params,370,{},#[],{},658,os⟩
noncomputable def zj(p:Params):List Obj:=fO "told_node" 59 370 658 271 2 ["arguments","context","nodes"] N m6++
 (fO "name_part" 60 377 667 276 3 ["part","node","tree","told"] N m6++
 (fO "id_texts" 61 384 677 284 2 ["value","tree","found","node"] N m6++
 (fO "elements_by_ids" 62 391 687 291 2 ["value","context","tree","found","root","text","node"] N m6++
 (fO "language_of" 63 398 700 299 2 ["node","tree","attribute"] N m6++
 (fO "speaks" 64 405 709 307 2 ["text","context","told"] N m6++
 (fO "call_of_sets" 65 412 718 313 3 ["name","arguments","context"] N m6++
 (fO "starts_with" 67 419 729 328 2 ["text","mark"] N m7++
 (fO "contains" 68 426 737 330 2 ["text","mark"] N m7++
 (fO "before" 69 433 745 332 2 ["text","mark","place"] N m7++
 (fO "after" 70 440 754 335 2 ["text","mark","place"] N m7++
 (fO "within" 71 447 763 338 3 ["number","low","high"] N m7++
 ([bb [N]]++
 (fO "substring" 72 455 772 342 3 ["text","start","length","begin","last","end"] (R 454) m7)))))))))))))
noncomputable def Hp(p:Params):BT:=c7 [(3,gD p 74 m7 75),(12,aO N (dj.take 183))] (cT 370 (zj p) (Ho p))
noncomputable def GH(w:World)(os:OsState):SharedT:=⟨Hp w.params,462,{},#[],{},784,os⟩
noncomputable def rU(p:Params):List Obj:=fO "translated" 73 462 784 351 3 ["text","signs","others","found","sign","place"] N m7++
 (fO "normalized" 74 469 796 360 1 ["text"] N m7++
 (fO "told_value" 76 476 805 363 2 ["arguments","context"] N m8++
 (fO "call_of_truths" 77 483 813 365 3 ["name","arguments","tree","truth"] N m8++
 (fO "call_of_numbers" 78 490 823 370 3 ["name","arguments","context","number"] N m8++
 (fO "call_of_two_texts" 79 497 833 377 3 ["name","one","other"] N m8++
 ([bb [],
 aO N [],
 bi N none (.func (bX "call_of_texts" "call_of_texts" (fp 80) 0 N N N N N N 0)) #[],
 aO (Ty "code") [(S "call_of_texts" 842),(S "call_of_texts" 843),(S "/claim/cut.py" 844),(I 383 0),(I 3 0),(I 0 0),(I 0 0),(I 3 0),(R 504),(B true),(I 181 0),(R 505),N,N,N,(R 506),(I 845 0),(I 383 0),(S "/claim/cut.py" 846)],
 bi (Ty "function") none (.func (bX "call_of_texts" "call_of_texts" (fp 80) 3 N N N (S "markupmill.functions_texts" 803) (R 507) N 0)) #[],
 bb [(S "last" 850),(S "position" 851),(S "count" 852),(S "id" 853),(S "local-name" 854),(S "namespace-uri" 855),(S "name" 856),(S "sum" 857),(S "lang" 858)],
 bb [(S "boolean" 860),(S "not" 861),(S "true" 862),(S "false" 863)],
 bb [(S "number" 865),(S "floor" 866),(S "ceiling" 867),(S "round" 868)],
 bb [(S "string" 870),(S "concat" 871),(S "starts-with" 872),(S "contains" 873),(S "substring-before" 874),(S "substring-after" 875),(S "substring" 876),(S "string-length" 877),(S "normalize-space" 878),(S "translate" 879)],
 bb [(S "last" 881),(S "position" 882),(S "true" 883),(S "false" 884)],
 bb [(S "local-name" 886),(S "namespace-uri" 887),(S "name" 888),(S "string" 889),(S "number" 890),(S "string-length" 891),(S "normalize-space" 892)],
 bb [(S "starts-with" 894),(S "contains" 895),(S "substring-before" 896),(S "substring-after" 897)]]++
 (fO "is_core" 90 516 901 408 1 ["name"] N m9++
 (fO "bounds_of" 91 523 908 410 1 ["name"] N m9))))))))
noncomputable def Hq(p:Params):BT:=c7 [(3,gD p 91 m9 92),(12,aO N (dj.take 210))] (cT 462 (rU p) (Hp p))
noncomputable def GJ(w:World)(os:OsState):SharedT:=⟨Hq w.params,530,{},#[],{},915,os⟩
noncomputable def u9(p:Params):List Obj:=fO "check_many" 92 530 915 422 2 ["name","arguments","least","most"] N m9++
 (fO "call_core" 93 537 925 426 3 ["name","arguments","context"] N m9++
 (fO "is_beside" 95 544 936 438 2 ["tree","node"] N iD++
 (fO "descendants" 96 551 944 440 2 ["tree","node","found","left","here"] N iD++
 (fO "ancestors" 97 558 955 447 2 ["tree","node","found","here"] N iD++
 (fO "siblings_ahead" 98 565 965 453 2 ["tree","node","parent","around"] N iD++
 (fO "siblings_behind" 99 572 975 459 2 ["tree","node","parent","around"] N iD++
 (fO "with_descendants" 100 579 985 465 2 ["tree","nodes","found","node"] N iD++
 (fO "following" 101 586 995 471 2 ["tree","node","found","here"] N iD++
 (fO "preceding" 102 593 1005 479 2 ["tree","node","found","here","sibling"] N iD++
 ([bb [],
 aO N [],
 bi N none (.func (bX "namespaces_in_scope" "namespaces_in_scope" (fp 103) 0 N N N N N N 0)) #[],
 aO (Ty "code") [(S "namespaces_in_scope" 1016),(S "namespaces_in_scope" 1017),(S "/claim/cut.py" 1018),(I 487 0),(I 2 0),(I 0 0),(I 0 0),(I 3 0),(R 600),(B true),(I 181 0),(R 601),N,N,N,(R 602),(I 1019 0),(I 487 0),(S "/claim/cut.py" 1020)],
 bi (Ty "function") none (.func (bX "namespaces_in_scope" "namespaces_in_scope" (fp 103) 3 N N N (S "markupmill.axes" 934) (R 603) N 0)) #[]]++
 (fO "short_axis" 104 605 1022 500 3 ["tree","node","name","parent"] N iD++
 (fO "axis" 105 612 1032 517 3 ["tree","node","name","found"] N iD))))))))))))
noncomputable def Hr(p:Params):BT:=c7 [(3,gD p 104 iD 105),(12,aO N (dj.take 249))] (cT 530 (u9 p) (Hq p))
noncomputable def GK(w:World)(os:OsState):SharedT:=⟨Hr w.params,619,{},#[],{},1042,os⟩
noncomputable def zf(p:Params):List Obj:=fO "principal_kind" 107 619 1044 535 1 ["axis"] N pF++
 (fO "bound_uri" 108 626 1051 537 2 ["prefix","names"] N pF++
 (fO "is_named" 109 633 1059 543 4 ["tree","node","test","names","uri","kind"] N pF++
 (fO "passes" 110 640 1071 548 5 ["tree","node","axis","test","names","kind","uri"] N pF++
 (fO "holds" 112 647 1086 563 2 ["value","position"] N jk++
 (fO "kept" 113 654 1094 569 3 ["nodes","predicates","value_of","predicate","size","found","at","node"] N jk++
 ([bb [],
 aO N [],
 bi N none (.func (bX "step_from" "step_from" (fp 114) 0 N N N N N N 0)) #[],
 aO (Ty "code") [(S "step_from" 1108),(S "step_from" 1109),(S "/claim/cut.py" 1110),(I 578 0),(I 5 0),(I 0 0),(I 0 0),(I 3 0),(R 661),(B true),(I 181 0),(R 662),N,N,N,(R 663),(I 1111 0),(I 578 0),(S "/claim/cut.py" 1112)],
 bi (Ty "function") none (.func (bX "step_from" "step_from" (fp 114) 3 N N N (S "markupmill.steps" 1084) (R 664) N 0)) #[]]++
 (fO "unlike" 115 666 1114 581 1 ["nodes","met","node"] N jk++
 (fO "after_step" 116 673 1123 586 5 ["tree","nodes","step","names","value_of","found","node"] N jk++
 (fO "steps_from" 117 680 1136 591 5 ["tree","nodes","steps","names","value_of","step"] N jk++
 ([bb [],
 aO N [],
 bi N none (.func (bX "rows_of" "rows_of" (fp 119) 0 N N N N N N 0)) #[],
 aO (Ty "code") [(S "rows_of" 1150),(S "rows_of" 1151),(S "/claim/cut.py" 1152),(I 596 0),(I 1 0),(I 0 0),(I 0 0),(I 3 0),(R 687),(B true),(I 181 0),(R 688),N,N,N,(R 689),(I 1153 0),(I 596 0),(S "/claim/cut.py" 1154)],
 bi (Ty "function") none (.func (bX "rows_of" "rows_of" (fp 119) 3 N N N (S "markupmill.xpath_nodes" 1148) (R 690) N 0)) #[]]))))))))))
noncomputable def G4(p:Params):BT:=c7 [(3,gD p 115 bk 116),(12,aO N (dj.take 282))] (cT 619 (zf p) (Hr p))
noncomputable def Gl(w:World)(os:OsState):SharedT:=⟨G4 w.params,692,{},#[],{},1156,os⟩
noncomputable def rJ(p:Params):List Obj:=cP p "Literal" bk 692 1156 598 (G2 [(600,704),(603,711)]) (G p [("__init__",1175,705),("row",1182,712),("__static_attributes__",1184,713)]) 6++
 (dO "__init__" "Literal.__init__" (mp 120 0) 699 1168 600 2 ["self","value"] N bk++
 (dO "row" "Literal.row" (mp 120 1) 706 1176 603 1 ["self"] N bk++
 ([bb [(S "value" 1183)]]++
 (cQ p "Literal" bk 1156 598 (G p [("__init__",1175,705),("row",1182,712),("__static_attributes__",1184,713)]) 715 1185))))
noncomputable def G5(p:Params):BT:=c7 [(3,gD p 116 bk 117),(12,aO N (dj.take 285))] (cT 692 (rJ p) (G4 p))
noncomputable def Gm(w:World)(os:OsState):SharedT:=⟨G5 w.params,720,{},#[],{},1192,os⟩
noncomputable def rK(p:Params):List Obj:=cP p "NumberNode" bk 720 1192 605 (G2 [(607,732),(610,739)]) (G p [("__init__",1211,733),("row",1218,740),("__static_attributes__",1220,741)]) 6++
 (dO "__init__" "NumberNode.__init__" (mp 121 0) 727 1204 607 2 ["self","value"] N bk++
 (dO "row" "NumberNode.row" (mp 121 1) 734 1212 610 1 ["self"] N bk++
 ([bb [(S "value" 1219)]]++
 (cQ p "NumberNode" bk 1192 605 (G p [("__init__",1211,733),("row",1218,740),("__static_attributes__",1220,741)]) 743 1221))))
noncomputable def G6(p:Params):BT:=c7 [(3,gD p 117 bk 118),(12,aO N (dj.take 288))] (cT 720 (rK p) (G5 p))
noncomputable def Gn(w:World)(os:OsState):SharedT:=⟨G6 w.params,748,{},#[],{},1228,os⟩
noncomputable def rM(p:Params):List Obj:=cP p "VariableNode" bk 748 1228 612 (G2 [(614,760),(617,767)]) (G p [("__init__",1247,761),("row",1254,768),("__static_attributes__",1256,769)]) 6++
 (dO "__init__" "VariableNode.__init__" (mp 122 0) 755 1240 614 2 ["self","name"] N bk++
 (dO "row" "VariableNode.row" (mp 122 1) 762 1248 617 1 ["self"] N bk++
 ([bb [(S "name" 1255)]]++
 (cQ p "VariableNode" bk 1228 612 (G p [("__init__",1247,761),("row",1254,768),("__static_attributes__",1256,769)]) 771 1257))))
noncomputable def G7(p:Params):BT:=c7 [(3,gD p 118 bk 119),(12,aO N (dj.take 291))] (cT 748 (rM p) (G6 p))
noncomputable def Go(w:World)(os:OsState):SharedT:=⟨G7 w.params,776,{},#[],{},1264,os⟩
noncomputable def rN(p:Params):List Obj:=cP p "Call" bk 776 1264 619 (G2 [(621,788),(625,795)]) (G p [("__init__",1284,789),("row",1291,796),("__static_attributes__",1294,797)]) 6++
 (dO "__init__" "Call.__init__" (mp 123 0) 783 1276 621 3 ["self","name","arguments"] N bk++
 (dO "row" "Call.row" (mp 123 1) 790 1285 625 1 ["self"] N bk++
 ([bb [(S "arguments" 1292),(S "name" 1293)]]++
 (cQ p "Call" bk 1264 619 (G p [("__init__",1284,789),("row",1291,796),("__static_attributes__",1294,797)]) 799 1295))))
noncomputable def G8(p:Params):BT:=c7 [(3,gD p 119 bk 120),(12,aO N (dj.take 294))] (cT 776 (rN p) (G7 p))
noncomputable def Gp(w:World)(os:OsState):SharedT:=⟨G8 w.params,804,{},#[],{},1302,os⟩
noncomputable def rO(p:Params):List Obj:=cP p "Binary" bk 804 1302 627 (G2 [(629,816),(634,823)]) (G p [("__init__",1323,817),("row",1330,824),("__static_attributes__",1334,825)]) 6++
 (dO "__init__" "Binary.__init__" (mp 124 0) 811 1314 629 4 ["self","op","left","right"] N bk++
 (dO "row" "Binary.row" (mp 124 1) 818 1324 634 1 ["self"] N bk++
 ([bb [(S "left" 1331),(S "op" 1332),(S "right" 1333)]]++
 (cQ p "Binary" bk 1302 627 (G p [("__init__",1323,817),("row",1330,824),("__static_attributes__",1334,825)]) 827 1335))))
noncomputable def G9(p:Params):BT:=c7 [(3,gD p 120 bk 121),(12,aO N (dj.take 297))] (cT 804 (rO p) (G8 p))
noncomputable def Gq(w:World)(os:OsState):SharedT:=⟨G9 w.params,832,{},#[],{},1342,os⟩
noncomputable def rP(p:Params):List Obj:=cP p "Negated" bk 832 1342 636 (G2 [(638,844),(641,851)]) (G p [("__init__",1361,845),("row",1368,852),("__static_attributes__",1370,853)]) 6++
 (dO "__init__" "Negated.__init__" (mp 125 0) 839 1354 638 2 ["self","value"] N bk++
 (dO "row" "Negated.row" (mp 125 1) 846 1362 641 1 ["self"] N bk++
 ([bb [(S "value" 1369)]]++
 (cQ p "Negated" bk 1342 636 (G p [("__init__",1361,845),("row",1368,852),("__static_attributes__",1370,853)]) 855 1371))))
noncomputable def Ha(p:Params):BT:=c7 [(3,gD p 121 bk 122),(12,aO N (dj.take 300))] (cT 832 (rP p) (G9 p))
noncomputable def Gr(w:World)(os:OsState):SharedT:=⟨Ha w.params,860,{},#[],{},1378,os⟩
noncomputable def rQ(p:Params):List Obj:=cP p "Filter" bk 860 1378 643 (G2 [(645,872),(649,879)]) (G p [("__init__",1398,873),("row",1405,880),("__static_attributes__",1408,881)]) 6++
 (dO "__init__" "Filter.__init__" (mp 126 0) 867 1390 645 3 ["self","base","predicates"] N bk++
 (dO "row" "Filter.row" (mp 126 1) 874 1399 649 1 ["self"] N bk++
 ([bb [(S "base" 1406),(S "predicates" 1407)]]++
 (cQ p "Filter" bk 1378 643 (G p [("__init__",1398,873),("row",1405,880),("__static_attributes__",1408,881)]) 883 1409))))
noncomputable def Hb(p:Params):BT:=c7 [(3,gD p 122 bk 123),(12,aO N (dj.take 303))] (cT 860 (rQ p) (Ha p))
noncomputable def Gs(w:World)(os:OsState):SharedT:=⟨Hb w.params,888,{},#[],{},1416,os⟩
noncomputable def rR(p:Params):List Obj:=cP p "Path" bk 888 1416 651 (G2 [(653,900),(657,907)]) (G p [("__init__",1436,901),("row",1444,908),("__static_attributes__",1447,909)]) 6++
 (dO "__init__" "Path.__init__" (mp 127 0) 895 1428 653 3 ["self","start","steps"] N bk++
 (dO "row" "Path.row" (mp 127 1) 902 1437 657 1 ["self","start"] N bk++
 ([bb [(S "start" 1445),(S "steps" 1446)]]++
 (cQ p "Path" bk 1416 651 (G p [("__init__",1436,901),("row",1444,908),("__static_attributes__",1447,909)]) 911 1448))))
noncomputable def Hc(p:Params):BT:=c7 [(3,gD p 123 bk 124),(12,aO N (dj.take 306))] (cT 888 (rR p) (Hb p))
noncomputable def Gu(w:World)(os:OsState):SharedT:=⟨Hc w.params,916,{},#[],{},1455,os⟩
noncomputable def oa(p:Params):List Obj:=cP p "Step" bk 916 1455 662 (G2 [(664,928),(669,935)]) (G p [("__init__",1476,929),("row",1483,936),("__static_attributes__",1487,937)]) 6++
 (dO "__init__" "Step.__init__" (mp 128 0) 923 1467 664 4 ["self","axis","test","predicates"] N bk++
 (dO "row" "Step.row" (mp 128 1) 930 1477 669 1 ["self"] N bk++
 ([bb [(S "axis" 1484),(S "predicates" 1485),(S "test" 1486)]]++
 (cQ p "Step" bk 1455 662 (G p [("__init__",1476,929),("row",1483,936),("__static_attributes__",1487,937)]) 939 1488++
 ([bb [(S "=" 1497),(S "!=" 1498),(S "<" 1499),(S "<=" 1500),(S ">" 1501),(S ">=" 1502)]]++
 (fO "needs_nodes" 131 945 1504 673 1 ["value"] N gw++
 (fO "reckoned" 132 952 1511 677 3 ["op","left","right"] N gw++
 ([bb [],
 aO N [],
 bi N none (.func (bX "united" "united" (fp 133) 0 N N N N N N 0)) #[],
 aO (Ty "code") [(S "united" 1520),(S "united" 1521),(S "/claim/cut.py" 1522),(I 685 0),(I 3 0),(I 0 0),(I 0 0),(I 3 0),(R 959),(B true),(I 181 0),(R 960),N,N,N,(R 961),(I 1523 0),(I 685 0),(S "/claim/cut.py" 1524)],
 bi (Ty "function") none (.func (bX "united" "united" (fp 133) 3 N N N (S "markupmill.evaluate" 1495) (R 962) N 0)) #[],
 bb [],
 aO N [],
 bb [(S "context" 1529),(S "value_of" 1530)],
 bb [(S "context" 1531)],
 bi N none (.func (bX "asker" "asker" (fp 134) 0 N N N N N N 0)) #[],
 aO (Ty "code") [(S "asker" 1526),(S "asker" 1527),(S "/claim/cut.py" 1528),(I 687 0),(I 1 0),(I 0 0),(I 0 0),(I 3 0),(R 964),(B true),(I 181 0),(R 965),N,(R 966),(R 967),(R 968),(I 1532 0),(I 687 0),(S "/claim/cut.py" 1533)],
 bi (Ty "function") none (.func (bX "asker" "asker" (fp 134) 3 N N N (S "markupmill.evaluate" 1495) (R 969) N 0)) #[]]))))))))
noncomputable def Hd(p:Params):BT:=c7 [(3,gD p 129 gw 130),(12,aO N (dj.take 321))] (cT 916 (oa p) (Hc p))
noncomputable def Gv(w:World)(os:OsState):SharedT:=⟨Hd w.params,971,{},#[],{},1535,os⟩
noncomputable def zg(p:Params):List Obj:=fO "of_binary" 135 971 1535 692 2 ["expr","context","op","tree","left","right"] N gw++
 ([bb [],
 aO N [],
 bi N none (.func (bX "of_call" "of_call" (fp 136) 0 N N N N N N 0)) #[],
 aO (Ty "code") [(S "of_call" 1547),(S "of_call" 1548),(S "/claim/cut.py" 1549),(I 705 0),(I 2 0),(I 0 0),(I 0 0),(I 3 0),(R 978),(B true),(I 181 0),(R 979),N,N,N,(R 980),(I 1550 0),(I 705 0),(S "/claim/cut.py" 1551)],
 bi (Ty "function") none (.func (bX "of_call" "of_call" (fp 136) 3 N N N (S "markupmill.evaluate" 1495) (R 981) N 0)) #[]]++
 (fO "of_filter" 137 983 1553 712 2 ["expr","context","nodes"] N gw++
 (fO "of_path" 138 990 1562 715 2 ["expr","context","tree","nodes"] N gw++
 (fO "evaluate" 139 997 1572 724 2 ["expr","context"] N gw))))
noncomputable def Hf(p:Params):BT:=c7 [(3,gD p 134 jl 135),(12,aO N (dj.take 336))] (cT 971 (zg p) (Hd p))
noncomputable def Gw(w:World)(os:OsState):SharedT:=⟨Hf w.params,1004,{},#[],{},1582,os⟩
noncomputable def og(p:Params):List Obj:=cP p "Context" jl 1004 1582 741 (G2 [(743,1017),(754,1024),(757,1031),(762,1038)]) (G p [("__init__",1611,1018),("at",1621,1025),("variable",1629,1032),("uri_of",1637,1039),("__static_attributes__",1647,1040)]) 8++
 ([bb [(I 1 1594),(I 1 1595),N,N,N,N,N]]++
 (dO "__init__" "Context.__init__" (mp 141 0) 1012 1596 743 10 ["self","tree","node","position","size","variables","names","calls","current","ids"] (R 1011) jl++
 (dO "at" "Context.at" (mp 141 1) 1019 1612 754 4 ["self","node","position","size"] N jl++
 (dO "variable" "Context.variable" (mp 141 2) 1026 1622 757 2 ["self","name"] N jl++
 (dO "uri_of" "Context.uri_of" (mp 141 3) 1033 1630 762 2 ["self","prefix"] N jl++
 ([bb [(S "calls" 1638),(S "current" 1639),(S "ids" 1640),(S "names" 1641),(S "node" 1642),(S "position" 1643),(S "size" 1644),(S "tree" 1645),(S "variables" 1646)]]++
 (cQ p "Context" jl 1582 741 (G p [("__init__",1611,1018),("at",1621,1025),("variable",1629,1032),("uri_of",1637,1039),("__static_attributes__",1647,1040)]) 1042 1648++
 ([bb [(S "root" 1657),(S "element" 1658)]]))))))))
noncomputable def Hg(p:Params):BT:=c7 [(3,gD p 136 bB 137),(12,aO N (dj.take 339))] (cT 1004 (og p) (Hf p))
noncomputable def Gx(w:World)(os:OsState):SharedT:=⟨Hg w.params,1048,{},#[],{},1660,os⟩
noncomputable def rS(p:Params):List Obj:=cP p "NodeRow" bB 1048 1660 766 (G2 [(768,1060)]) (G p [("__init__",1684,1061),("__static_attributes__",1694,1062)]) 5++
 (dO "__init__" "NodeRow.__init__" (mp 144 0) 1055 1672 768 7 ["self","kind","name","uri","local","value","parent"] N bB++
 ([bb [(S "attributes" 1685),(S "children" 1686),(S "kind" 1687),(S "local" 1688),(S "name" 1689),(S "namespaces" 1690),(S "parent" 1691),(S "uri" 1692),(S "value" 1693)]]++
 (cQ p "NodeRow" bB 1660 766 (G p [("__init__",1684,1061),("__static_attributes__",1694,1062)]) 1064 1695)))
noncomputable def Hh(p:Params):BT:=c7 [(3,gD p 137 bB 138),(12,aO N (dj.take 342))] (cT 1048 (rS p) (Hg p))
noncomputable def Gy(w:World)(os:OsState):SharedT:=⟨Hh w.params,1069,{},#[],{},1702,os⟩
noncomputable def oh(p:Params):List Obj:=cP p "Tree" bB 1069 1702 778 (G2 [(780,1081),(783,1088),(787,1095),(792,1102),(795,1109),(803,1116),(806,1123),(809,1130),(812,1137),(815,1144),(821,1151),(833,1158),(836,1165),(839,1172),(842,1179),(845,1186),(848,1193),(851,1200),(854,1207),(857,1214),(860,1221),(863,1228),(866,1235),(871,1242),(874,1249)]) (G p [("__init__",1720,1082),("new_row",1733,1089),("row",1741,1096),("new_root",1748,1103),("add_child",1762,1110),("add_element",1773,1117),("add_text",1782,1124),("add_comment",1791,1131),("add_instruction",1801,1138),("element_row",1810,1145),("set_attribute",1825,1152),("add_namespace",1835,1159),("set_value",1844,1166),("kind",1852,1173),("name",1860,1180),("uri",1868,1187),("local",1876,1194),("value",1884,1201),("parent",1892,1208),("children",1900,1215),("attributes",1908,1222),("namespaces",1916,1229),("root_of",1924,1236),("is_above",1933,1243),("attribute_value",1943,1250),("__static_attributes__",1945,1251)]) 29++
 (dO "__init__" "Tree.__init__" (mp 145 0) 1076 1714 780 1 ["self"] N bB++
 (dO "new_row" "Tree.new_row" (mp 145 1) 1083 1721 783 7 ["self","kind","name","uri","local","value","parent"] N bB++
 (dO "row" "Tree.row" (mp 145 2) 1090 1734 787 2 ["self","node"] N bB++
 (dO "new_root" "Tree.new_root" (mp 145 3) 1097 1742 792 1 ["self"] N bB++
 (dO "add_child" "Tree.add_child" (mp 145 4) 1104 1749 795 7 ["self","parent","kind","name","uri","local","value","node"] N bB++
 (dO "add_element" "Tree.add_element" (mp 145 5) 1111 1763 803 5 ["self","parent","name","uri","local"] N bB++
 (dO "add_text" "Tree.add_text" (mp 145 6) 1118 1774 806 3 ["self","parent","value"] N bB++
 (dO "add_comment" "Tree.add_comment" (mp 145 7) 1125 1783 809 3 ["self","parent","value"] N bB++
 (dO "add_instruction" "Tree.add_instruction" (mp 145 8) 1132 1792 812 4 ["self","parent","target","data"] N bB++
 (dO "element_row" "Tree.element_row" (mp 145 9) 1139 1802 815 2 ["self","element","row"] N bB++
 (dO "set_attribute" "Tree.set_attribute" (mp 145 10) 1146 1811 821 6 ["self","element","name","uri","local","value","row","node","known"] N bB++
 (dO "add_namespace" "Tree.add_namespace" (mp 145 11) 1153 1826 833 4 ["self","element","prefix","uri"] N bB++
 (dO "set_value" "Tree.set_value" (mp 145 12) 1160 1836 836 3 ["self","node","value"] N bB++
 (dO "kind" "Tree.kind" (mp 145 13) 1167 1845 839 2 ["self","node"] N bB++
 (dO "name" "Tree.name" (mp 145 14) 1174 1853 842 2 ["self","node"] N bB++
 (dO "uri" "Tree.uri" (mp 145 15) 1181 1861 845 2 ["self","node"] N bB++
 (dO "local" "Tree.local" (mp 145 16) 1188 1869 848 2 ["self","node"] N bB++
 (dO "value" "Tree.value" (mp 145 17) 1195 1877 851 2 ["self","node"] N bB++
 (dO "parent" "Tree.parent" (mp 145 18) 1202 1885 854 2 ["self","node"] N bB++
 (dO "children" "Tree.children" (mp 145 19) 1209 1893 857 2 ["self","node"] N bB++
 (dO "attributes" "Tree.attributes" (mp 145 20) 1216 1901 860 2 ["self","node"] N bB++
 (dO "namespaces" "Tree.namespaces" (mp 145 21) 1223 1909 863 2 ["self","node"] N bB++
 (dO "root_of" "Tree.root_of" (mp 145 22) 1230 1917 866 2 ["self","node"] N bB++
 (dO "is_above" "Tree.is_above" (mp 145 23) 1237 1925 871 3 ["self","node","other"] N bB++
 (dO "attribute_value" "Tree.attribute_value" (mp 145 24) 1244 1934 874 4 ["self","element","uri","local"] N bB++
 ([bb [(S "rows" 1944)]]++
 (cQ p "Tree" bB 1702 778 (G p [("__init__",1720,1082),("new_row",1733,1089),("row",1741,1096),("new_root",1748,1103),("add_child",1762,1110),("add_element",1773,1117),("add_text",1782,1124),("add_comment",1791,1131),("add_instruction",1801,1138),("element_row",1810,1145),("set_attribute",1825,1152),("add_namespace",1835,1159),("set_value",1844,1166),("kind",1852,1173),("name",1860,1180),("uri",1868,1187),("local",1876,1194),("value",1884,1201),("parent",1892,1208),("children",1900,1215),("attributes",1908,1222),("namespaces",1916,1229),("root_of",1924,1236),("is_above",1933,1243),("attribute_value",1943,1250),("__static_attributes__",1945,1251)]) 1253 1946)))))))))))))))))))))))))))
noncomputable def Hi(p:Params):BT:=c7 [(3,gD p 138 bB 139),(12,aO N (dj.take 345))] (cT 1069 (oh p) (Hh p))
noncomputable def Gz(w:World)(os:OsState):SharedT:=⟨Hi w.params,1258,{},#[],{},1953,os⟩
noncomputable def uZ(p:Params):List Obj:=fO "_law_pool" 147 1258 1955 877 2 ["script","row","cell","big","blend"] N dz++
 (fO "_law_take" 148 1265 1966 882 2 ["source","top","figure"] N dz++
 (fO "_law_one" 149 1272 1975 891 2 ["source","things"] N dz++
 (fO "_law_lowest" 150 1279 1983 893 2 ["top","bottom","one","other"] N dz++
 (fO "_law_number" 151 1286 1993 898 3 ["source","world","deep","way","value","tells","expr","nodes","left","a","b","op","whole","right","top"] N dz++
 (fO "_law_truth" 152 1293 2014 927 3 ["source","world","deep","way","value","expr","nodes","left","a","right","b","apart","op","tells"] N dz++
 (fO "_law_text" 153 1300 2034 950 3 ["source","world","deep","way","value","expr","nodes","left","a","right","b"] N dz++
 ([bb [],
 aO N [],
 bi N none (.func (bX "_law_ordered" "_law_ordered" (fp 154) 0 N N N N N N 0)) #[],
 aO (Ty "code") [(S "_law_ordered" 2051),(S "_law_ordered" 2052),(S "/claim/cut.py" 2053),(I 966 0),(I 2 0),(I 0 0),(I 0 0),(I 3 0),(R 1307),(B true),(I 181 0),(R 1308),N,N,N,(R 1309),(I 2054 0),(I 966 0),(S "/claim/cut.py" 2055)],
 bi (Ty "function") none (.func (bX "_law_ordered" "_law_ordered" (fp 154) 3 N N N (S "law_on0202_01" 1953) (R 1310) N 0)) #[],
 bb [],
 aO N [],
 bi N none (.func (bX "_law_sieve" "_law_sieve" (fp 155) 0 N N N N N N 0)) #[],
 aO (Ty "code") [(S "_law_sieve" 2057),(S "_law_sieve" 2058),(S "/claim/cut.py" 2059),(I 968 0),(I 3 0),(I 0 0),(I 0 0),(I 3 0),(R 1312),(B true),(I 181 0),(R 1313),N,N,N,(R 1314),(I 2060 0),(I 968 0),(S "/claim/cut.py" 2061)],
 bi (Ty "function") none (.func (bX "_law_sieve" "_law_sieve" (fp 155) 3 N N N (S "law_on0202_01" 1953) (R 1315) N 0)) #[],
 bb [],
 aO N [],
 bi N none (.func (bX "_law_nodes" "_law_nodes" (fp 156) 0 N N N N N N 0)) #[],
 aO (Ty "code") [(S "_law_nodes" 2063),(S "_law_nodes" 2064),(S "/claim/cut.py" 2065),(I 980 0),(I 3 0),(I 0 0),(I 0 0),(I 3 0),(R 1317),(B true),(I 181 0),(R 1318),N,N,N,(R 1319),(I 2066 0),(I 980 0),(S "/claim/cut.py" 2067)],
 bi (Ty "function") none (.func (bX "_law_nodes" "_law_nodes" (fp 156) 3 N N N (S "law_on0202_01" 1953) (R 1320) N 0)) #[]]++
 (fO "_law_own_call" 157 1322 2069 1006 2 ["arguments","context"] N dz++
 ([bb [],
 aO N [],
 bi N none (.func (bX "_law_world" "_law_world" (fp 158) 0 N N N N N N 0)) #[],
 aO (Ty "code") [(S "_law_world" 2077),(S "_law_world" 2078),(S "/claim/cut.py" 2079),(I 1008 0),(I 1 0),(I 0 0),(I 0 0),(I 3 0),(R 1329),(B true),(I 181 0),(R 1330),N,N,N,(R 1331),(I 2080 0),(I 1008 0),(S "/claim/cut.py" 2081)],
 bi (Ty "function") none (.func (bX "_law_world" "_law_world" (fp 158) 3 N N N (S "law_on0202_01" 1953) (R 1332) N 0)) #[]])))))))))
noncomputable def Hj(p:Params):BT:=c7 [(3,gD p 150 dz 151),(12,aO N (dj.take 381))] (cT 1258 (uZ p) (Hi p))
noncomputable def GA(w:World)(os:OsState):SharedT:=⟨Hj w.params,1334,{},#[],{},2083,os⟩
noncomputable def zh(p:Params):List Obj:=fO "_law_refused" 159 1334 2083 1030 2 ["expr","context"] N dz++
 (fO "law" 160 1341 2091 1036 1 ["script","source","world","context","expr","due","ahead","tells","odds"] N dz)
noncomputable def Hk(p:Params):BT:=c7 [(3,gD p 152 dz 153),(12,aO N (dj.take 387))] (cT 1334 (zh p) (Hj p))
noncomputable def zY(w:World)(os:OsState):SharedT:=⟨Hk w.params,1348,{},#[],{},2106,os⟩
noncomputable def bE:List Stmt:=behindTheImports pw
noncomputable def cI:Env:={scope:=pw.main.scope,locals:=mainNs,globals:=mainNs,cells:=[],code:=.ref 13,frame:=some 14}
noncomputable def cE:Code:=.body bE cI
noncomputable def aR(i n:Nat):List Stmt:=(bE.drop i).take n
noncomputable def q0:Pos:=⟨0,0,0,0⟩
noncomputable abbrev cw:List Frame:=[topFrame q0]
theorem dA(w:World)(n:Nat)(s:SharedT)(t:Thread):segRunT treeTable pw w 11 (some (.ref 6)) 1 n s t=Fast.tw10110043849684766642 Fast.tw14364793385576792824 pw w 11 (some (.ref 6)) 1 n s t:=by rw[Fast.te10110043849684766642,wE]
theorem RU(w:World)(os:OsState):segRunT treeTable pw w 11 (some (.ref 6)) 1 414 (i4 w os) (piecesOf (aR 0 17) cI cE q0 cw)=some (.next,eH w os,cE,(⟨62,0,68,46⟩:Pos)):=(dA w _ _ _).trans (by kernel_rfl)
theorem RW(w:World)(os:OsState):segRunT treeTable pw w 11 (some (.ref 6)) 1 388 (eH w os) (piecesOf (aR 17 13) cI cE (⟨62,0,68,46⟩:Pos) cw)=some (.next,dC w os,cE,(⟨146,0,152,49⟩:Pos)):=(dA w _ _ _).trans (by kernel_rfl)
theorem Sc(w:World)(os:OsState):segRunT treeTable pw w 11 (some (.ref 6)) 1 396 (dC w os) (piecesOf (aR 30 14) cI cE (⟨146,0,152,49⟩:Pos) cw)=some (.next,GB w os,cE,(⟨221,0,222,55⟩:Pos)):=(dA w _ _ _).trans (by kernel_rfl)
theorem Sj(w:World)(os:OsState):segRunT treeTable pw w 11 (some (.ref 6)) 1 302 (GB w os) (piecesOf (aR 44 4) cI cE (⟨221,0,222,55⟩:Pos) cw)=some (.next,GC w os,cE,(⟨236,0,240,30⟩:Pos)):=(dA w _ _ _).trans (by kernel_rfl)
theorem Sk(w:World)(os:OsState):segRunT treeTable pw w 11 (some (.ref 6)) 1 214 (GC w os) (piecesOf (aR 48 1) cI cE (⟨236,0,240,30⟩:Pos) cw)=some (.next,GF w os,cE,(⟨241,0,242,8⟩:Pos)):=(dA w _ _ _).trans (by kernel_rfl)
theorem Sl(w:World)(os:OsState):segRunT treeTable pw w 11 (some (.ref 6)) 1 421 (GF w os) (piecesOf (aR 49 10) cI cE (⟨241,0,242,8⟩:Pos) cw)=some (.next,GG w os,cE,(⟨266,0,270,16⟩:Pos)):=(dA w _ _ _).trans (by kernel_rfl)
theorem Sn(w:World)(os:OsState):segRunT treeTable pw w 11 (some (.ref 6)) 1 421 (GG w os) (piecesOf (aR 59 14) cI cE (⟨266,0,270,16⟩:Pos) cw)=some (.next,GH w os,cE,(⟨342,0,350,68⟩:Pos)):=(dA w _ _ _).trans (by kernel_rfl)
theorem So(w:World)(os:OsState):segRunT treeTable pw w 11 (some (.ref 6)) 1 412 (GH w os) (piecesOf (aR 73 19) cI cE (⟨342,0,350,68⟩:Pos) cw)=some (.next,GJ w os,cE,(⟨410,0,421,52⟩:Pos)):=(dA w _ _ _).trans (by kernel_rfl)
theorem Sr(w:World)(os:OsState):segRunT treeTable pw w 11 (some (.ref 6)) 1 419 (GJ w os) (piecesOf (aR 92 14) cI cE (⟨410,0,421,52⟩:Pos) cw)=some (.next,GK w os,cE,(⟨517,0,533,44⟩:Pos)):=(dA w _ _ _).trans (by kernel_rfl)
theorem Ss(w:World)(os:OsState):segRunT treeTable pw w 11 (some (.ref 6)) 1 374 (GK w os) (piecesOf (aR 106 14) cI cE (⟨517,0,533,44⟩:Pos) cw)=some (.next,Gl w os,cE,(⟨596,0,597,48⟩:Pos)):=(dA w _ _ _).trans (by kernel_rfl)
theorem RX(w:World)(os:OsState):segRunT treeTable pw w 11 (some (.ref 6)) 1 254 (Gl w os) (piecesOf (aR 120 1) cI cE (⟨596,0,597,48⟩:Pos) cw)=some (.next,Gm w os,cE,(⟨598,0,604,38⟩:Pos)):=(dA w _ _ _).trans (by kernel_rfl)
theorem RY(w:World)(os:OsState):segRunT treeTable pw w 11 (some (.ref 6)) 1 254 (Gm w os) (piecesOf (aR 121 1) cI cE (⟨598,0,604,38⟩:Pos) cw)=some (.next,Gn w os,cE,(⟨605,0,611,37⟩:Pos)):=(dA w _ _ _).trans (by kernel_rfl)
theorem RZ(w:World)(os:OsState):segRunT treeTable pw w 11 (some (.ref 6)) 1 254 (Gn w os) (piecesOf (aR 122 1) cI cE (⟨605,0,611,37⟩:Pos) cw)=some (.next,Go w os,cE,(⟨612,0,618,38⟩:Pos)):=(dA w _ _ _).trans (by kernel_rfl)
theorem R2(w:World)(os:OsState):segRunT treeTable pw w 11 (some (.ref 6)) 1 256 (Go w os) (piecesOf (aR 123 1) cI cE (⟨612,0,618,38⟩:Pos) cw)=some (.next,Gp w os,cE,(⟨619,0,626,59⟩:Pos)):=(dA w _ _ _).trans (by kernel_rfl)
theorem R4(w:World)(os:OsState):segRunT treeTable pw w 11 (some (.ref 6)) 1 258 (Gp w os) (piecesOf (aR 124 1) cI cE (⟨619,0,626,59⟩:Pos) cw)=some (.next,Gq w os,cE,(⟨627,0,635,69⟩:Pos)):=(dA w _ _ _).trans (by kernel_rfl)
theorem R7(w:World)(os:OsState):segRunT treeTable pw w 11 (some (.ref 6)) 1 254 (Gq w os) (piecesOf (aR 125 1) cI cE (⟨627,0,635,69⟩:Pos) cw)=some (.next,Gr w os,cE,(⟨636,0,642,44⟩:Pos)):=(dA w _ _ _).trans (by kernel_rfl)
theorem R8(w:World)(os:OsState):segRunT treeTable pw w 11 (some (.ref 6)) 1 256 (Gr w os) (piecesOf (aR 126 1) cI cE (⟨636,0,642,44⟩:Pos) cw)=some (.next,Gs w os,cE,(⟨643,0,650,68⟩:Pos)):=(dA w _ _ _).trans (by kernel_rfl)
theorem R9(w:World)(os:OsState):segRunT treeTable pw w 11 (some (.ref 6)) 1 257 (Gs w os) (piecesOf (aR 127 1) cI cE (⟨643,0,650,68⟩:Pos) cw)=some (.next,Gu w os,cE,(⟨651,0,661,51⟩:Pos)):=(dA w _ _ _).trans (by kernel_rfl)
theorem Sa(w:World)(os:OsState):segRunT treeTable pw w 11 (some (.ref 6)) 1 400 (Gu w os) (piecesOf (aR 128 7) cI cE (⟨651,0,661,51⟩:Pos) cw)=some (.next,Gv w os,cE,(⟨687,0,691,19⟩:Pos)):=(dA w _ _ _).trans (by kernel_rfl)
theorem Sb(w:World)(os:OsState):segRunT treeTable pw w 11 (some (.ref 6)) 1 163 (Gv w os) (piecesOf (aR 135 6) cI cE (⟨687,0,691,19⟩:Pos) cw)=some (.next,Gw w os,cE,(⟨740,0,740,8⟩:Pos)):=(dA w _ _ _).trans (by kernel_rfl)
theorem Sd(w:World)(os:OsState):segRunT treeTable pw w 11 (some (.ref 6)) 1 361 (Gw w os) (piecesOf (aR 141 3) cI cE (⟨740,0,740,8⟩:Pos) cw)=some (.next,Gx w os,cE,(⟨765,0,765,7⟩:Pos)):=(dA w _ _ _).trans (by kernel_rfl)
theorem Se(w:World)(os:OsState):segRunT treeTable pw w 11 (some (.ref 6)) 1 236 (Gx w os) (piecesOf (aR 144 1) cI cE (⟨765,0,765,7⟩:Pos) cw)=some (.next,Gy w os,cE,(⟨766,0,777,28⟩:Pos)):=(dA w _ _ _).trans (by kernel_rfl)
theorem Sf(w:World)(os:OsState):segRunT treeTable pw w 11 (some (.ref 6)) 1 1021 (Gy w os) (piecesOf (aR 145 1) cI cE (⟨766,0,777,28⟩:Pos) cw)=some (.next,Gz w os,cE,(⟨778,0,875,16⟩:Pos)):=(dA w _ _ _).trans (by kernel_rfl)
theorem Sg(w:World)(os:OsState):segRunT treeTable pw w 11 (some (.ref 6)) 1 394 (Gz w os) (piecesOf (aR 146 13) cI cE (⟨778,0,875,16⟩:Pos) cw)=some (.next,GA w os,cE,(⟨1008,0,1029,27⟩:Pos)):=(dA w _ _ _).trans (by kernel_rfl)
theorem Si(w:World)(os:OsState):segRunT treeTable pw w 11 (some (.ref 6)) 1 68 (GA w os) (piecesOf (aR 159 2) cI cE (⟨1008,0,1029,27⟩:Pos) cw)=some (.next,zY w os,cE,(⟨1036,0,1052,56⟩:Pos)):=(dA w _ _ _).trans (by kernel_rfl)
end
section
noncomputable abbrev qv:Program:=view pw [160]
noncomputable def loose:List Str:=[Str.ofString "_wall",Str.ofString "NAN",Str.ofString "ZERO",Str.ofString "SPACES_numbers",Str.ofString "DIGITS",Str.ofString "common_divisor",Str.ofString "sign_of",Str.ofString "number_of",Str.ofString "is_nan",Str.ofString "negated",Str.ofString "plus",Str.ofString "minus",Str.ofString "times",Str.ofString "divided",Str.ofString "cut_whole",Str.ofString "modulo",Str.ofString "order_of",Str.ofString "compared_numbers",Str.ofString "floor_of",Str.ofString "ceiling_of",Str.ofString "rounded",Str.ofString "digits_end",Str.ofString "trimmed",Str.ofString "whole_of",Str.ofString "read_number",Str.ofString "write_number",Str.ofString "lines_down",Str.ofString "place_among",Str.ofString "place_of",Str.ofString "in_order",Str.ofString "beneath",Str.ofString "string_value",Str.ofString "as_text",Str.ofString "as_number",Str.ofString "as_truth",Str.ofString "is_equality",Str.ofString "compared_texts",Str.ofString "compared_plain",Str.ofString "as_compared",Str.ofString "some_pair",Str.ofString "texts_of",Str.ofString "listed",Str.ofString "compared",Str.ofString "MarkupError",Str.ofString "TreeFault",Str.ofString "PathFault",Str.ofString "SPACES_chars",Str.ofString "is_space",Str.ofString "space_split",Str.ofString "collapsed",Str.ofString "nodes_of",Str.ofString "counted",Str.ofString "summed",Str.ofString "told_node",Str.ofString "name_part",Str.ofString "id_texts",Str.ofString "elements_by_ids",Str.ofString "language_of",Str.ofString "speaks",Str.ofString "call_of_sets",Str.ofString "starts_with",Str.ofString "contains",Str.ofString "before",Str.ofString "after",Str.ofString "within",Str.ofString "substring",Str.ofString "translated",Str.ofString "normalized",Str.ofString "told_value",Str.ofString "call_of_truths",Str.ofString "call_of_numbers",Str.ofString "call_of_two_texts",Str.ofString "call_of_texts",Str.ofString "SETS",Str.ofString "TRUTHS",Str.ofString "NUMBERS",Str.ofString "TEXTS",Str.ofString "NONE_LET",Str.ofString "ONE_AT_MOST",Str.ofString "TWO_WANTED",Str.ofString "MANY",Str.ofString "is_core",Str.ofString "bounds_of",Str.ofString "check_many",Str.ofString "call_core",Str.ofString "is_beside",Str.ofString "descendants",Str.ofString "ancestors",Str.ofString "siblings_ahead",Str.ofString "siblings_behind",Str.ofString "with_descendants",Str.ofString "following",Str.ofString "preceding",Str.ofString "namespaces_in_scope",Str.ofString "short_axis",Str.ofString "axis",Str.ofString "principal_kind",Str.ofString "bound_uri",Str.ofString "is_named",Str.ofString "passes",Str.ofString "holds",Str.ofString "kept",Str.ofString "step_from",Str.ofString "unlike",Str.ofString "after_step",Str.ofString "steps_from",Str.ofString "rows_of",Str.ofString "Literal",Str.ofString "NumberNode",Str.ofString "VariableNode",Str.ofString "Call",Str.ofString "Binary",Str.ofString "Negated",Str.ofString "Filter",Str.ofString "Path",Str.ofString "Step",Str.ofString "COMPARISONS",Str.ofString "needs_nodes",Str.ofString "reckoned",Str.ofString "united",Str.ofString "asker",Str.ofString "of_binary",Str.ofString "of_call",Str.ofString "of_filter",Str.ofString "of_path",Str.ofString "evaluate",Str.ofString "Context",Str.ofString "PARENTS",Str.ofString "NodeRow",Str.ofString "Tree",Str.ofString "_law_pool",Str.ofString "_law_take",Str.ofString "_law_one",Str.ofString "_law_lowest",Str.ofString "_law_number",Str.ofString "_law_truth",Str.ofString "_law_text",Str.ofString "_law_ordered",Str.ofString "_law_sieve",Str.ofString "_law_nodes",Str.ofString "_law_own_call",Str.ofString "_law_world",Str.ofString "_law_refused"]
noncomputable def H1(P:Params):Heap:=absHeap (Hk P) 1348 {}
noncomputable abbrev jK:Option Value:=some (.ref 6)
theorem Ox:opening pw=plainProg pw.main.scope.names:=by kernel_rfl
theorem Oq(s:Shared):fenceModules? pw s=some s:=by kernel_rfl
theorem Oo:∀w:World,(fencedOpening treeTable pw w 20000).map (λs=>(s.heap,s.gens,s.drawn,s.toks))=some (boot_heap w.params,Array.mk [],boot_drawn,boot_toks):=boot_open Ox (by decide+kernel) Oq
theorem OD(w:World):((boot_heap w.params).isNs mainGlobals&&(Array.mk []:Array GenState).size==0,(boot_heap w.params).objs.size,(boot_heap w.params).nsMap mainGlobals "__annotations__")=(true,11,jK):=by kernel_rfl
theorem Oy(w:World)(os:OsState):topGo treeTable pw w 11 jK 12 ⟨boot_heap w.params,Array.mk [],boot_drawn,boot_toks,os⟩ (topStub pw)=some ((i4 w os).abs,⟨denote treeTable cE,cE,q0,cw⟩):=by
 have h:Fast.tw15667345088766844465 Fast.tw14364793385576792824 pw w 11 jK 12 ⟨boot_heap w.params,Array.mk [],boot_drawn,boot_toks,os⟩ (topStub pw)=some ((i4 w os).abs,⟨Fast.tw11892475500146522536 Fast.tw14364793385576792824 cE,cE,q0,cw⟩):=by kernel_rfl
 rw[Fast.te15667345088766844465,wE,Fast.te11892475500146522536];exact h
theorem Om(w:World)(os:OsState):segRun treeTable pw w 11 jK 1 1 (i4 w os).abs (blockOf bE cI cE q0 cw)=some (.next,(i4 w os).abs,cE,q0):=by
 have h:Fast.tw14374325043358763698 Fast.tw14364793385576792824 pw w 11 jK 1 1 (i4 w os).abs (blockOf bE cI cE q0 cw)=some (.next,(i4 w os).abs,cE,q0):=by kernel_rfl
 rw[Fast.te14374325043358763698,wE];exact h
theorem Os(w:World)(os:OsState):topRun treeTable pw w 11 jK 2 (zY w os).abs ⟨doneF .next,cE,(⟨1036,0,1052,56⟩:Pos),cw⟩=some ⟨H1 w.params,Array.mk [],{},2106,os⟩:=by
 have h:Fast.tw14082659384304107361 Fast.tw14364793385576792824 pw w 11 jK 2 (zY w os).abs ⟨doneF .next,cE,(⟨1036,0,1052,56⟩:Pos),cw⟩=some ⟨H1 w.params,Array.mk [],{},2106,os⟩:=by kernel_rfl
 rw[Fast.te14082659384304107361,wE];exact h
theorem On:bE=aR 0 17++(aR 17 13++(aR 30 14++(aR 44 4++(aR 48 1++(aR 49 10++(aR 59 14++(aR 73 19++(aR 92 14++(aR 106 14++(aR 120 1++(aR 121 1++(aR 122 1++(aR 123 1++(aR 124 1++(aR 125 1++(aR 126 1++(aR 127 1++(aR 128 7++(aR 135 6++(aR 141 3++(aR 144 1++(aR 145 1++(aR 146 13++(aR 159 2++([]))))))))))))))))))))))))):=by kernel_rfl
theorem OA(w:World)(os:OsState):topRun treeTable pw w 11 jK (414+(388+(396+(302+(214+(421+(421+(412+(419+(374+(254+(254+(254+(256+(258+(254+(256+(257+(400+(163+(361+(236+(1021+(394+(68+2))))))))))))))))))))))))) (i4 w os).abs (restOf (aR 0 17++(aR 17 13++(aR 30 14++(aR 44 4++(aR 48 1++(aR 49 10++(aR 59 14++(aR 73 19++(aR 92 14++(aR 106 14++(aR 120 1++(aR 121 1++(aR 122 1++(aR 123 1++(aR 124 1++(aR 125 1++(aR 126 1++(aR 127 1++(aR 128 7++(aR 135 6++(aR 141 3++(aR 144 1++(aR 145 1++(aR 146 13++(aR 159 2++([])))))))))))))))))))))))))) cI cE q0 cw)=some ⟨H1 w.params,Array.mk [],{},2106,os⟩:=dW (dX (RU w os)) (dW (dX (RW w os)) (dW (dX (Sc w os)) (dW (dX (Sj w os)) (dW (dX (Sk w os)) (dW (dX (Sl w os)) (dW (dX (Sn w os)) (dW (dX (So w os)) (dW (dX (Sr w os)) (dW (dX (Ss w os)) (dW (dX (RX w os)) (dW (dX (RY w os)) (dW (dX (RZ w os)) (dW (dX (R2 w os)) (dW (dX (R4 w os)) (dW (dX (R7 w os)) (dW (dX (R8 w os)) (dW (dX (R9 w os)) (dW (dX (Sa w os)) (dW (dX (Sb w os)) (dW (dX (Sd w os)) (dW (dX (Se w os)) (dW (dX (Sf w os)) (dW (dX (Sg w os)) (dW (dX (Si w os)) (piece_nil (Os w os))))))))))))))))))))))))))
theorem OB(w:World)(os:OsState):topRun treeTable pw w 11 jK (414+(388+(396+(302+(214+(421+(421+(412+(419+(374+(254+(254+(254+(256+(258+(254+(256+(257+(400+(163+(361+(236+(1021+(394+(68+2))))))))))))))))))))))))) (i4 w os).abs (restOf bE cI cE q0 cw)=some ⟨H1 w.params,Array.mk [],{},2106,os⟩:=by rw[On];exact OA w os
theorem OC(w:World)(os:OsState):topRun treeTable pw w 11 jK (12+(1+(414+(388+(396+(302+(214+(421+(421+(412+(419+(374+(254+(254+(254+(256+(258+(254+(256+(257+(400+(163+(361+(236+(1021+(394+(68+2))))))))))))))))))))))))))) ⟨boot_heap w.params,Array.mk [],boot_drawn,boot_toks,os⟩ (topStub pw)=some ⟨H1 w.params,Array.mk [],{},2106,os⟩:=go_top (Oy w os) (piece_block (Om w os) (OB w os))
end
section
abbrev cU:OpenLaw:=PySem.Challenge.rw_on0202_01
theorem w1:(sreFenced pw.main)=true:=by rw[Fast.te11788848310118352699];kernel_rfl
theorem w2:((moduleNames pw.main.body).isEmpty)=true:=by rw[Fast.te9807087744658564304];kernel_rfl
theorem w3:(namesResolve pw)=true:=by rw[Fast.te8377067652309620493];kernel_rfl
theorem w4:(pw.boundNames.all (λn=> !worldNames.contains n))=true:=by rw[IH,Fast.te14412699480532031325];kernel_rfl
theorem SY:readsOut pw pw.main.body "vars"=false:=by rw[Bg];kernel_rfl
theorem SW:readsOut pw pw.main.body "dir"=false:=by rw[Bg];kernel_rfl
theorem SX:readsOut pw pw.main.body "locals"=false:=by rw[Bg];kernel_rfl
theorem LK{p:Str→Bool}{a b c:Str}(x:p a=false)(y:p b=false)(z:p c=false):[a,b,c].filter p=[]:=by simp only[List.filter,x,y,z]
theorem w5:(noRoadLSs {strict:= !(importedModules pw.main.body).all cThrough.contains,foot:=none,bare:=(["vars","dir","locals"]:List Str).filter (readsOut pw pw.main.body)} pw.main.body)=true:=by rw[LK SY SW SX,IJ];kernel_rfl
theorem w6:(namesMeet pw pw.main.body λ_ n=>attrL n)=true:=by rw[wF,Fast.te17868728402115742887];kernel_rfl
theorem w7:(defStands cU.about cU.above)=true:=by rw[Fast.te9558739934217749035];kernel_rfl
theorem w8:(cU.namesIt)=true:=by rw[Fast.te16286561074155671207];kernel_rfl
theorem w9:(noClassBlock cU.prog cU.footing)=true:=by rw[Fast.te8179353310426384613];kernel_rfl
theorem WD:(cU.footing.all footLine)=true:=by rw[Fast.te10501279942588096481];kernel_rfl
theorem WE:(noRoadLSs {strict:=true,foot:=some cU.bound',writes:=cU.writes,may:=cU.may} cU.footing)=true:=by rw[IJ,II];kernel_rfl
theorem WF:(cU.bound'.all (λn=> !builtinNamed n||cU.about==[n]|| !cU.reads n))=true:=by rw[II,Fast.named_eq];kernel_rfl
theorem WG:(namesMeet cU.prog cU.above (λ_ n=> !cU.own.contains n))=true:=by rw[wF,Fast.te10792542408131684335];kernel_rfl
end
section
theorem kC{a b:Bool}(x:a=true)(y:b=true):(a&&b)=true:=by rw[x,y];rfl
theorem Ru{a b:Bool}(x:a=true):(a||b)=true:=by rw[x];rfl
noncomputable def tD:Shared→Bool:=λ_=>true
noncomputable def sF(w:World)(os:OsState):Shared:=⟨H1 w.params,Array.mk [],{},2106,os⟩
theorem Qk:looksOpen pw=true:=kC (kC (kC (kC (kC w1 (Ru w2)) w3) w4) w5) w6
theorem Ql:cU.row.partSaid=true:=by
 unfold OpenRow.partSaid;repeat' (with_reducible refine kC ?_ ?_)
 ·exact Qk
 all_goals kernel_rfl
theorem Qn:cU.row.wellSaid=true:=by
 unfold OpenRow.wellSaid;refine kC (kC Ql ?_) ?_
 ·rw[IH];kernel_rfl
 ·kernel_rfl
theorem Qo:cU.wellSaid=true:=by
 unfold OpenLaw.wellSaid;repeat' (with_reducible refine kC ?_ ?_)
 ·exact Qn
 ·kernel_rfl
 ·exact WD
 ·exact w9
 ·kernel_rfl
 ·kernel_rfl
 ·exact WE
 ·exact w7
 ·exact w8
 ·kernel_rfl
 ·exact WF
 ·kernel_rfl
 ·kernel_rfl
 ·rw[wF];kernel_rfl
 ·kernel_rfl
 ·kernel_rfl
 ·kernel_rfl
 ·exact WG
 ·rw[wF];kernel_rfl
end
section
noncomputable def qk(w:World)(h:Heap):Prop:=∀b o,(H1 w.params).get? b=some o→h.get? b=some o
theorem Qi(w:World)(os:OsState):(staticsOk (importedModules pw.main.body) (boot_heap w.params) (H1 w.params)&&namesBound pw (H1 w.params)&&gensDone (sF w os)&&laidKept (boot_heap w.params) (H1 w.params))=true:=by kernel_rfl
theorem Qj(w:World)(os:OsState):openSeen qv loose (importedModules pw.main.body) tD true (sF w os)=openGood qv loose:=by
 have h:Fast.tw4187177175401517315 qv loose (importedModules pw.main.body) tD true (sF w os)=openGood qv loose:=by kernel_rfl
 rw[Fast.te4187177175401517315];exact h
theorem Ou:LeftO pw qv loose tD (λs=>s.heap) (λw=>H1 w.params) 20000:=LeftO.of_pieces Oo OD OC (by kernel_rfl) (λw=>funext λos=>Prod.ext (Qi w os) (Prod.ext (Qj w os) rfl))
noncomputable def nv:DefRec:=((defOf qv (Str.ofString "law")).map (·.1)).getD ⟨Str.ofString "",(fp 0).params,[],(fp 0).scope,⟨0,0,0,0⟩⟩
theorem Op:defOf qv cU.row.name=some (nv,[]):=by kernel_rfl
theorem OF:pw.theDef cU.row.name=some (nv.params,nv.body,nv.scope):=by kernel_rfl
theorem Ot:kwWritten? nv.params.kwonlyargs nv.params.kw_defaults=some []:=by kernel_rfl
theorem Ow:(chainsOk qv&&opensWell cU.row.prog&&(frees cU.row.toRowW&&cU.row.within.isEmpty))=true:=by kernel_rfl
noncomputable abbrev oD{α:Type}(A:TablesWhole.Alg α)(T:Scope)(l:List Str):List Stmt→α:=TablesWhole.wSs A T ⟨T,[],l,[],none⟩ T
noncomputable abbrev i5:=oD TablesWhole.holds
theorem GY{T:Scope}:∀a b:List Stmt,i5 T [] (a++b)=(i5 T [] a&&i5 T [] b)
 |[],_=>rfl
 |s::a,b=>(congrArg (TablesWhole.wS TablesWhole.holds T ⟨T,[],[],[],none⟩ T s&&·) (GY a b)).trans (Bool.and_assoc ..).symm
theorem Vi{T:Scope}{l:List Stmt}(k:Nat)(x:i5 T [] (l.take k)=true)(y:i5 T [] (l.drop k)=true):i5 T [] l=true:=by rw[←List.take_append_drop k l,GY,x,y];rfl
theorem Vk:oD TablesWhole.gather pw.main.scope [] pw.main.body=[]:=by unfold oD;rw[Bh,Fast.te12652042256554560961];kernel_rfl
theorem Vg:i5 pw.main.scope [] (pw.main.body.take 105)=true:=by unfold i5 oD;rw[Bh];kernel_rfl
theorem Vh:i5 pw.main.scope [] (pw.main.body.drop 105)=true:=by unfold i5 oD;rw[Bh];kernel_rfl
theorem Vl:TablesWhole.noTwice pw.main.scope=true:=by rw[Fast.te8331962902438777018];kernel_rfl
theorem Vj{m:Module}(x:oD TablesWhole.gather m.scope [] m.body=[])(y:TablesWhole.noTwice m.scope=true)(z:i5 m.scope [] m.body=true):TablesWhole.wModule TablesWhole.holds m=true:=by show(true&&(TablesWhole.noTwice m.scope&&(i5 m.scope (oD TablesWhole.gather m.scope [] m.body) m.body&&true)))=true;rw[x,y,z];rfl
theorem OE:pw.tablesWhole=true:=by unfold Program.tablesWhole TablesWhole.wProgram;rw[Vj Vk Vl (Vi 105 Vg Vh)];kernel_rfl
theorem Ol:cU.row.prog.bare:=⟨rfl,rfl,rfl,rfl,rfl,OE⟩
theorem Oz:cU.row.toRowW.promised:=by w_witness2
noncomputable def yX:Addr:=1347
structure IM(s:Shared)(l:Addr)(vs:List Value)(ns:List Int):Prop where
 lst:s.heap.get? l=some ⟨.type "list",none,.seq vs.toArray 0,#[]⟩
 nums:IntsAre vs ns
 few:ns.length≤63
 lay:(PyData.list (ns.map PyData.int)).layable0=true
theorem WQ{P:Params}{h:Heap}{a:Addr}{xs:List PyData}(w:WellAll P h [.ref a] [ofPy (.list xs)]):∃us:List Value,h.get? a=some ⟨.type "list",none,.seq us.toArray 0,#[]⟩:=by
 cases w with
 |cons w _=>
  have e:ofPy (.list xs)=.list (ofPys xs):=by first|rfl|(rw[ofPy])
  rw[e] at w;cases w with
  |list e _=>exact⟨_,e⟩
noncomputable def wc:Prop:=∀(w:World)(s:Shared)(l:Addr)(vs:List Value)(ns:List Int),qk w s.heap→s.gens= #[]→IM s l vs ns→s.heap.NoLimit→
 wpAny (model pw w) callerA (call (.ref yX) [.ref l]) (λv s'=>v=.bool true∧OldK s.heap s'.heap∧s'.os=s.os∧s'.gens= #[]) (λ_ _=>False) s
theorem Ov{w:World}{h:Heap}{mg:Str→Option Value}(Y:qk w h)(G:h.Ns mainGlobals mg):mg (Str.ofString "law")=some (.ref yX):=by obtain⟨o,es,ep,ho,hd,hk,hf⟩:=G;have e:h.get? mainGlobals=some (gD w.params 152 (S "law_on0202_01" 1953) 153):=Y _ _ (by kernel_rfl);rw[ho] at e;cases e;cases hd;rw[←hf];kernel_rfl
theorem OG(C:wc):WalkO qv loose (λ_ _=>True) qk cU.row.toRowW nv [] λf vs=>PySem.call f vs:=by
 intro w s₀ s₁ mg mb G Y a o pm cd doc dV kV ho hd hcd hD hmg hg args vals as hpre hlay hrd hwl hlo;have hX:True:=trivial
 have ha:a=yX:=by have:=(Ov Y G.T.g).symm.trans hmg;cases this;rfl
 have hn:=G.T.nolimit;have hwl2:=hwl
 wrow_args hpre hlay hrd hwl hlo
 subst ha;have hI:=(by assumption:IntsAre _ _);have hL:=(by assumption:Heap.IsList _ _ _);obtain⟨us,hE⟩:=WQ hwl2;obtain⟨oL,eL1,eL2,nL,eL3⟩:=hL;have hX2:=eL1.symm.trans hE;cases hX2;cases eL3
 rename ¬(_:Int)<_=>hlen
 rename PyData.layable0 (PyData.list _)=true=>hlay0
 refine dZ (C w s₁ _ _ _ Y hg ⟨hE,hI,by omega,hlay0⟩ hn) (λv s' h=>?_) (λ_ _ h=>h.elim);obtain⟨rfl,hk,ho',hg'⟩:=h;refine⟨.inl ⟨_,.bool true,[],rfl,λ_=>rfl,ReadsW.bool true,?_,λ_=>⟨lS,λ_ hm=>(nomatch hm)⟩⟩,hk,ho',AllBare.of_eq hg'⟩
 first|kernel_rfl|wrow_post
theorem hd(C:wc):PySem.Challenge.rw_on0202_01.Holds:=holds_law Qo λsaid=>holds_open (r:=cU.row) (q:=qv) (loose:=loose) (Xt:=tD) (XP:=λ_ _=>True) (Yf:=λs=>s.heap) (Ya:=λw=>H1 w.params) (YP:=qk) (N:=20000) Ou
  (λw s e b o h=>by show s.heap.get? b=_;rw[show s.heap=H1 w.params from e];exact h) (λw h h' x k b o e=>k b o (x b o e)) (λ_ _=>trivial) (λ_ _ _ _ _=>trivial) Op OF Ot (λs _=>recFacts_nil rfl) (by kernel_rfl) said Ow Ol Oz (OG C)
end
section
theorem jd{c:Prop}[Decidable c]{g:c→Bool}{G:Prop}(h:dite c g (λ_=>false)=true)(k:∀q,g q=true→G):G:=if q:c then k q (by rwa[dif_pos q] at h) else absurd (by rwa[dif_neg q] at h) jy
noncomputable def gz(e:Expr)(f:Str→Pos→Bool):Bool:=if h:e.ctorIdx=23 then Expr.Name.elim (motive_1:=λ_=>Bool) e h f else false
@[elab_as_elim] theorem gV{P:Expr→Prop}{e:Expr}{f:Str→Pos→Bool}(h:gz e f=true)(k:∀x p,f x p=true→P (.Name x p)):P e:=jd h λq h=>Expr.Name.elim (motive_1:=λe=>∀q,Expr.Name.elim (motive_1:=λ_=>Bool) e q f=true→P e) e q (λx1 p1 _ h=>k x1 p1 h) q h
end
set_option genInjectivity true
section
inductive AV where
 |none
 |bool (b:Bool)
 |int (i:Int)
 |str (s:List Nat)
 |tup (l:List AV)
 |lst (l:List AV)
 |dct (l:List (AV×AV))
 |inst (c:Addr) (fs:List (Nat×AV))
 |glob (v:Value)
 |clos (x:AV)
inductive RV where
 |v (x:AV)
 |loc (i:Nat)
inductive ac where
 |lst (l:List RV)
 |dct (l:List (AV×RV))
 |inst (c:Addr) (fs:List (Nat×RV))
 |gone
noncomputable def gx:List String:=["value","name","arguments","op","left","right","base","predicates","start","steps","axis","test",
 "tree","node","position","size","variables","names","calls","current","ids",
 "kind","uri","local","parent","children","attributes","namespaces","rows","message",
 "row","new_row","new_root","add_child","add_element","add_text","element_row","set_attribute","root_of","at","variable"]
noncomputable def nm(i:Nat):Str:=Str.ofString ((ae gx i).getD "?")
noncomputable abbrev Sp:=List (Addr×Addr)
noncomputable abbrev cL(vs:List Value)(n:Nat):Obj:=⟨.type "list",none,.seq vs.toArray n,#[]⟩
noncomputable abbrev eg(vs:List Value)(n:Nat):Obj:=⟨.type "tuple",none,.seq vs.toArray n,#[]⟩
noncomputable abbrev fR(c d:Addr):Obj:=⟨.ref c,some d,.plain,#[]⟩
noncomputable def fF:Pos:=⟨0,0,0,0⟩
noncomputable def GM:Stmt→Pos:=λe=>if h:e.ctorIdx=0 then Stmt.FunctionDef.elim (motive_2:=λ_=>Pos) e h (λ_ _ _ _ _ _ _ _ _ p=>p) else if h:e.ctorIdx=3 then Stmt.Return.elim (motive_2:=λ_=>Pos) e h (λo _=>match o with
 |some c=>if h:c.ctorIdx=16 then Expr.Call.elim (motive_1:=λ_=>Pos) c h (λ_ _ ks _=>match ks with
  |k::_=>k.value.pos
  |_=>fF) else fF
 |_=>fF) else fF
noncomputable def gq(f:Fp):Fp:=match f.body with
 |s::_=>x8 s
 |[]=>f
inductive eF(h:Heap)(X:Addr→Prop)(P:Addr)(qual:Str)(pos:Pos):Prop
 |nil:h.get? P=some (tabObj #[])→eF h X P qual pos
 |one {c':Addr} {o:Obj} {vs:Array Value} {t:Tok}:h.get? P=some (tabObj #[rawInt pos.line,rawInt pos.col,.ref c'])→h.get? c'=some o→¬X c'→o.data=.fields vs→vs[1]? =some (.str qual t)→eF h X P qual pos
noncomputable def cX(b:Addr):Prop:=b=195∨b=965
noncomputable def vQ(b:Addr):Prop:=cX b∨b=sysModules
noncomputable def J7(f:Fp)(name qual:Str)(x:Str)(cc:Addr)(doc pm:Value)(c':Addr)(ctv:Value):Obj:=fnMade name qual f.params f.body f.scope [(x,cc)] doc pm c' ctv
noncomputable def wZ(cc:Addr)(doc pm:Value)(c':Addr)(ctv:Value):Obj:=J7 (gq (fp 134)) (Str.ofString "value_of") (Str.ofString "asker.<locals>.value_of") (Str.ofString "context") cc doc pm c' ctv
inductive cR{ε:Type}(h:Heap)(X:Addr→Prop)(f:List ε→Nat→Obj)(R:List ε→Prop):Value→Prop
 |mk {a:Addr} {vs:List ε} {n:Nat}:h.get? a=some (f vs n)→¬X a→R vs→cR h X f R (.ref a)
inductive gL(h:Heap)(X:Addr→Prop)(c:Addr)(R:List DictEntry→Prop):Value→Prop
 |mk {a d:Addr} {es:List DictEntry} {n:Nat}:h.get? a=some (fR c d)→h.get? d=some (dictOf es n)→¬X a→¬X d→R es→gL h X c R (.ref a)
inductive fG(h:Heap)(X:Addr→Prop)(R:Value→Prop):Value→Prop
 |mk {a cc c':Addr} {doc pm ctv v:Value} {o o':Obj} {vs:Array Value} {t:Tok}:h.get? a=some (wZ cc doc pm c' ctv)→¬X a→h.get? cc=some o→o.data=.cell (some v)→¬X cc→
   h.get? c'=some o'→¬X c'→o'.data=.fields vs→vs[1]? =some (.str (Str.ofString "asker.<locals>.value_of") t)→R v→fG h X R (.ref a)
inductive bA{α:Type}(a:α→Prop)(b:List α→Prop):List α→Prop
 |mk {v:α} {us:List α}:a v→b us→bA a b (v::us)
inductive ig(l:List Nat):Value→Prop
 |mk (s:Str) (t:Tok):s.cps.toList=l→ig l (.str s t)
inductive ti(P:Params)(l:List Nat):DictEntry→Prop
 |mk (s:Str) (t:Tok) (v:Value):s.cps.toList=l→ti P l ⟨PyData.keyHash P s,.str s t,v⟩
inductive th(i:Int):DictEntry→Prop
 |mk (t:Tok) (v:Value):th i ⟨hashInt i,.int i t,v⟩
inductive fu(P:Params)(i:Nat)(R:Value→Prop):DictEntry→Prop
 |mk {t:Tok} {v:Value}:i<gx.length→R v→fu P i R ⟨PyData.keyHash P (nm i),.str (nm i) t,v⟩
section
variable{ε:Type}{P:Params}{h h':Heap}{X X':Addr→Prop}{c:Addr}{C:Value→Prop}{v:Value}
@[elab_as_elim] theorem cR.on{f:List ε→Nat→Obj}{R:List ε→Prop}(r:cR h X f R v)(k:∀a vs n,h.get? a=some (f vs n)→¬X a→R vs→C (.ref a)):C v:=@cR.rec _ h X f R (λv _=>C v) (λa b c=>k _ _ _ a b c) _ r
@[elab_as_elim] theorem gL.on{R:List DictEntry→Prop}(r:gL h X c R v)(k:∀a d es n,h.get? a=some (fR c d)→h.get? d=some (dictOf es n)→¬X a→¬X d→R es→C (.ref a)):C v:=@gL.rec _ _ _ _ (λv _=>C v) (λa b c d e=>k _ _ _ _ a b c d e) _ r
@[elab_as_elim] theorem bA.on{α:Type}{a:α→Prop}{b:List α→Prop}{C:List α→Prop}{vs:List α}(r:bA a b vs)(k:∀v us,a v→b us→C (v::us)):C vs:= @bA.rec _ _ _ (λv _=>C v) (λa b=>k _ _ a b) _ r
@[elab_as_elim] theorem ig.on{l:List Nat}(r:ig l v)(k:∀s t,s.cps.toList=l→C (.str s t)):C v:= @ig.rec _ (λv _=>C v) k _ r
end
noncomputable def hG(P:Params)(e:DictEntry)(k:AV):Prop:=AV.casesOn (motive_1:=λ_=>DictEntry→Prop) k (λ_=>False) (λ_ _=>False) th (ti P) (λ_ _=>False) (λ_ _=>False) (λ_ _=>False) (λ_ _ _=>False) (λ_ _=>False) (λ_ _=>False) e
noncomputable def VR(P:Params)(h:Heap)(X:Addr→Prop)(v:Value)(x:AV):Prop:=AV.rec (motive_1:=λ_=>Value→Prop) (motive_2:=λ_=>List Value→Prop) (motive_3:=λ_=>List DictEntry→Prop) (motive_4:=λ_=>List DictEntry→Prop) (motive_5:=λ_=>DictEntry→Prop) (motive_6:=λ_=>DictEntry→Prop)
  (λv=>v=.none) (λb v=>v=.bool b) (λi v=>∃t,v=.int i t) ig (λ_ r=>cR h X eg r) (λ_ r=>cR h X cL r) (λ_ r=>cR h X dictOf r) (λc _ r=>gL h X c r) (λu v=>v=u) (λ_ r=>fG h X r)
  (λl=>l=[]) (λ_ _ a b=>bA a b) (λl=>l=[]) (λ_ _ a b=>bA a b) (λl=>l=[]) (λ_ _ a b=>bA a b) (λk _ _ r e=>hG P e k∧r e.val) (λi _ r=>fu P i r) x v
noncomputable def bj(P:Params)(h:Heap)(X:Addr→Prop)(vs:List Value)(l:List AV):Prop:=AV.rec_1 (motive_1:=λ_=>Value→Prop) (motive_2:=λ_=>List Value→Prop) (motive_3:=λ_=>List DictEntry→Prop) (motive_4:=λ_=>List DictEntry→Prop) (motive_5:=λ_=>DictEntry→Prop) (motive_6:=λ_=>DictEntry→Prop)
  (λv=>v=.none) (λb v=>v=.bool b) (λi v=>∃t,v=.int i t) ig (λ_ r=>cR h X eg r) (λ_ r=>cR h X cL r) (λ_ r=>cR h X dictOf r) (λc _ r=>gL h X c r) (λu v=>v=u) (λ_ r=>fG h X r)
  (λl=>l=[]) (λ_ _ a b=>bA a b) (λl=>l=[]) (λ_ _ a b=>bA a b) (λl=>l=[]) (λ_ _ a b=>bA a b) (λk _ _ r e=>hG P e k∧r e.val) (λi _ r=>fu P i r) l vs
noncomputable def ii(P:Params)(h:Heap)(X:Addr→Prop)(vs:List DictEntry)(l:List (AV×AV)):Prop:=AV.rec_2 (motive_1:=λ_=>Value→Prop) (motive_2:=λ_=>List Value→Prop) (motive_3:=λ_=>List DictEntry→Prop) (motive_4:=λ_=>List DictEntry→Prop) (motive_5:=λ_=>DictEntry→Prop) (motive_6:=λ_=>DictEntry→Prop)
  (λv=>v=.none) (λb v=>v=.bool b) (λi v=>∃t,v=.int i t) ig (λ_ r=>cR h X eg r) (λ_ r=>cR h X cL r) (λ_ r=>cR h X dictOf r) (λc _ r=>gL h X c r) (λu v=>v=u) (λ_ r=>fG h X r)
  (λl=>l=[]) (λ_ _ a b=>bA a b) (λl=>l=[]) (λ_ _ a b=>bA a b) (λl=>l=[]) (λ_ _ a b=>bA a b) (λk _ _ r e=>hG P e k∧r e.val) (λi _ r=>fu P i r) l vs
noncomputable def jf(P:Params)(h:Heap)(X:Addr→Prop)(vs:List DictEntry)(l:List (Nat×AV)):Prop:=AV.rec_3 (motive_1:=λ_=>Value→Prop) (motive_2:=λ_=>List Value→Prop) (motive_3:=λ_=>List DictEntry→Prop) (motive_4:=λ_=>List DictEntry→Prop) (motive_5:=λ_=>DictEntry→Prop) (motive_6:=λ_=>DictEntry→Prop)
  (λv=>v=.none) (λb v=>v=.bool b) (λi v=>∃t,v=.int i t) ig (λ_ r=>cR h X eg r) (λ_ r=>cR h X cL r) (λ_ r=>cR h X dictOf r) (λc _ r=>gL h X c r) (λu v=>v=u) (λ_ r=>fG h X r)
  (λl=>l=[]) (λ_ _ a b=>bA a b) (λl=>l=[]) (λ_ _ a b=>bA a b) (λl=>l=[]) (λ_ _ a b=>bA a b) (λk _ _ r e=>hG P e k∧r e.val) (λi _ r=>fu P i r) l vs
noncomputable def Z2{α β:Type}(R:α→β→Prop)(vs:List α)(l:List β):Prop:=List.rec (motive:=λ_=>List α→Prop) (λvs=>vs=[]) (λx _ ih=>bA (λv=>R v x) ih) l vs
noncomputable def RR(P:Params)(h:Heap)(X:Addr→Prop)(M:Sp)(v:Value)(x:RV):Prop:=RV.casesOn (motive:=λ_=>Prop) x (λx=>VR P h X v x) (λi=>∃p,ae M i=some p∧v=.ref p.1)
noncomputable def vd{α:Type}(l:List (α×AV)):List (α×RV):=l.map λq=>(q.1,.v q.2)
abbrev a9(P:Params)(h:Heap)(X:Addr→Prop)(M:Sp)(vs:List Value)(l:List RV):Prop:=Z2 (RR P h X M) vs l
abbrev cC(P:Params)(h:Heap)(X:Addr→Prop)(M:Sp)(vs:List DictEntry)(l:List (AV×RV)):Prop:=Z2 (λe q=>hG P e q.1∧RR P h X M e.val q.2) vs l
abbrev eE(P:Params)(h:Heap)(X:Addr→Prop)(M:Sp)(vs:List DictEntry)(l:List (Nat×RV)):Prop:=Z2 (λe q=>fu P q.1 (λv=>RR P h X M v q.2) e) vs l
section
variable{α β γ δ:Type}{R:α→β→Prop}{S:γ→δ→Prop}
theorem Z2.nil:Z2 R [] []:=rfl
theorem Z2.cons{v:α}{x:β}{vs:List α}{l:List β}(a:R v x)(b:Z2 R vs l):Z2 R (v::vs) (x::l):=bA.mk (a:=λv=>R v x) (b:=λvs=>Z2 R vs l) a b
@[elab_as_elim] theorem Z2.on{C:List α→Prop}{vs:List α}{x:β}{l:List β}(r:Z2 R vs (x::l))(k:∀v us,R v x→Z2 R us l→C (v::us)):C vs:=bA.on (a:=λv=>R v x) (b:=λvs=>Z2 R vs l) r k
theorem Z2.rec'{C:List α→List β→Prop}{l:List β}(n:C [] [])(c:∀{v x vs l},R v x→Z2 R vs l→C vs l→C (v::vs) (x::l)):∀{vs:List α},Z2 R vs l→C vs l:=l.rec (motive:=λl=>∀{vs},Z2 R vs l→C vs l) (λ{vs}(r:vs=[])=>r▸n) λx l ih{vs} r=>Z2.on (C:=λvs=>C vs (x::l)) r λv us a b=>c a b (ih b)
theorem Z2.length{vs:List α}{l:List β}(r:Z2 R vs l):vs.length=l.length:=Z2.rec' (C:=λ(vs:List α)(l:List β)=>vs.length=l.length) rfl (λ_ _ b=>congrArg Nat.succ b) r
theorem Z2.mono{R':α→β→Prop}(k:∀{v x},R v x→R' v x){vs:List α}{l:List β}(r:Z2 R vs l):Z2 R' vs l:=Z2.rec' (C:=Z2 R') .nil (λa _ b=>.cons (k a) b) r
theorem Z2.at{vs:List α}{l:List β}(r:Z2 R vs l):∀j(h1:j<vs.length)(h2:j<l.length),R vs[j] l[j]:=Z2.rec' (C:=λ(vs:List α)(l:List β)=>∀j(h1:j<vs.length)(h2:j<l.length),R vs[j] l[j]) (λj h=>nomatch h) (λa _ ih j=>Nat.casesOn (motive:=λj=>∀(h1:j<(_::_).length)(h2:j<(_::_).length),R (_::_)[j] (_::_)[j]) j (λ_ _=>a) λj h1 h2=>ih j (ko h1) (ko h2)) r
theorem Z2.append{vs us:List α}{l r:List β}(a:Z2 R vs l)(b:Z2 R us r):Z2 R (vs++us) (l++r):=Z2.rec' (C:=λvs l=>Z2 R (vs++us) (l++r)) b (λa _ c=>.cons a c) a
theorem Z2.reverse{vs:List α}{l:List β}(r:Z2 R vs l):Z2 R vs.reverse l.reverse:=Z2.rec' (C:=λvs l=>Z2 R vs.reverse l.reverse) .nil (λa _ c=>by rw[List.reverse_cons,List.reverse_cons];exact c.append (.cons a .nil)) r
theorem Z2.drop{vs:List α}{l:List β}(r:Z2 R vs l):∀k:Nat,Z2 R (vs.drop k) (l.drop k):=Z2.rec' (C:=λvs l=>∀k:Nat,Z2 R (vs.drop k) (l.drop k)) (λk=>by rw[List.drop_nil,List.drop_nil];exact .nil) (λa b c k=>Nat.casesOn (motive:=λk=>Z2 R (List.drop k (_::_)) (List.drop k (_::_))) k (.cons a b) c) r
theorem Z2.take{vs:List α}{l:List β}(r:Z2 R vs l):∀k:Nat,Z2 R (vs.take k) (l.take k):=Z2.rec' (C:=λvs l=>∀k:Nat,Z2 R (vs.take k) (l.take k)) (λk=>by rw[List.take_nil,List.take_nil];exact .nil) (λa b c k=>Nat.casesOn (motive:=λk=>Z2 R (List.take k (_::_)) (List.take k (_::_))) k .nil λk=>.cons a (c k)) r
end
section
variable{P:Params}{h h':Heap}{X X':Addr→Prop}{M M':Sp}{C:Value→Prop}{v:Value}
theorem VR.int(i:Int)(t:Tok):VR P h X (.int i t) (.int i):=Exists.intro t rfl
theorem VR.str(s:Str)(t:Tok):VR P h X (.str s t) (.str s.cps.toList):=ig.mk s t rfl
theorem VR.tup{a:Addr}{vs:List Value}{l:List AV}{n:Nat}(e:h.get? a=some (eg vs n))(x:¬X a)(r:bj P h X vs l):VR P h X (.ref a) (.tup l):=cR.mk e x r
theorem VR.lst{a:Addr}{vs:List Value}{l:List AV}{n:Nat}(e:h.get? a=some (cL vs n))(x:¬X a)(r:bj P h X vs l):VR P h X (.ref a) (.lst l):=cR.mk e x r
theorem VR.dct{a:Addr}{es:List DictEntry}{l:List (AV×AV)}{n:Nat}(e:h.get? a=some (dictOf es n))(x:¬X a)(r:ii P h X es l):VR P h X (.ref a) (.dct l):=cR.mk e x r
theorem VR.inst{a d c:Addr}{es:List DictEntry}{fs:List (Nat×AV)}{n:Nat}(e:h.get? a=some (fR c d))(e':h.get? d=some (dictOf es n))(x:¬X a)(x':¬X d)(r:jf P h X es fs):VR P h X (.ref a) (.inst c fs):=gL.mk e e' x x' r
theorem RR.loc{i:Nat}{p:Addr×Addr}(e:ae M i=some p):RR P h X M (.ref p.1) (.loc i):=⟨p,e,rfl⟩
theorem RR.tree{x:AV}(r:RR P h X M v (.v x)):VR P h X v x:=r
@[elab_as_elim] theorem VR.onInt{i:Int}(r:VR P h X v (.int i))(k:∀t,C (.int i t)):C v:=Exists.elim (p:=λt=>v=.int i t) r λt e=>e▸k t
@[elab_as_elim] theorem VR.onStr{l:List Nat}(r:VR P h X v (.str l))(k:∀s t,s.cps.toList=l→C (.str s t)):C v:=ig.on r k
@[elab_as_elim] theorem VR.onTup{l:List AV}(r:VR P h X v (.tup l))(k:∀a vs n,h.get? a=some (eg vs n)→¬X a→bj P h X vs l→C (.ref a)):C v:= @cR.on _ h X C v eg (λvs=>bj P h X vs l) r k
@[elab_as_elim] theorem VR.onLst{l:List AV}(r:VR P h X v (.lst l))(k:∀a vs n,h.get? a=some (cL vs n)→¬X a→bj P h X vs l→C (.ref a)):C v:= @cR.on _ h X C v cL (λvs=>bj P h X vs l) r k
@[elab_as_elim] theorem VR.onDct{l:List (AV×AV)}(r:VR P h X v (.dct l))(k:∀a es n,h.get? a=some (dictOf es n)→¬X a→ii P h X es l→C (.ref a)):C v:= @cR.on _ h X C v dictOf (λvs=>ii P h X vs l) r k
@[elab_as_elim] theorem VR.onInst{c:Addr}{l:List (Nat×AV)}(r:VR P h X v (.inst c l))(k:∀a d es n,h.get? a=some (fR c d)→h.get? d=some (dictOf es n)→¬X a→¬X d→jf P h X es l→C (.ref a)):C v:= @gL.on h X c C v (λvs=>jf P h X vs l) r k
@[elab_as_elim] theorem RR.onLoc{i:Nat}(r:RR P h X M v (.loc i))(k:∀p,ae M i=some p→C (.ref p.1)):C v:=Exists.elim (p:=λp=>ae M i=some p∧v=.ref p.1) r λp e=>e.2▸k p e.1
structure Up(h:Heap)(X:Addr→Prop)(h':Heap)(X':Addr→Prop):Prop where
 keep:∀b o,h.get? b=some o→¬X b→h'.get? b=some o
 away:∀b o,h.get? b=some o→¬X b→¬X' b
theorem Up.trans{h'':Heap}{X'':Addr→Prop}(a:Up h X h' X')(b:Up h' X' h'' X''):Up h X h'' X'':=⟨λx o e n=>b.keep x o (a.keep x o e n) (a.away x o e n),λx o e n=>b.away x o (a.keep x o e n) (a.away x o e n)⟩
theorem cR.up{ε:Type}{f:List ε→Nat→Obj}{R R':List ε→Prop}(u:Up h X h' X')(k:∀{vs},R vs→R' vs)(r:cR h X f R v):cR h' X' f R' v:=r.on λa vs n e x q=>.mk (u.keep _ _ e x) (u.away _ _ e x) (k q)
theorem gL.up{c:Addr}{R R':List DictEntry→Prop}(u:Up h X h' X')(k:∀{vs},R vs→R' vs)(r:gL h X c R v):gL h' X' c R' v:=r.on λa d es n e e' x x' q=>.mk (u.keep _ _ e x) (u.keep _ _ e' x') (u.away _ _ e x) (u.away _ _ e' x') (k q)
theorem fG.up{R R':Value→Prop}(u:Up h X h' X')(k:∀{v},R v→R' v)(r:fG h X R v):fG h' X' R' v:=fG.rec (motive:=λv _=>fG h' X' R' v) (λe n c d m c' n' q1 q2 q=>.mk (u.keep _ _ e n) (u.away _ _ e n) (u.keep _ _ c m) d (u.away _ _ c m) (u.keep _ _ c' n') (u.away _ _ c' n') q1 q2 (k q)) r
theorem bA.up{α:Type}{a a':α→Prop}{b b':List α→Prop}(f:∀{v},a v→a' v)(g:∀{v},b v→b' v){vs:List α}(r:bA a b vs):bA a' b' vs:=r.on λ_ _ x y=>.mk (f x) (g y)
theorem fu.up{i:Nat}{R R':Value→Prop}(k:∀{v},R v→R' v){e:DictEntry}(r:fu P i R e):fu P i R' e:=fu.rec (motive:=λe _=>fu P i R' e) (λa b=>.mk a (k b)) r
theorem VR.up(u:Up h X h' X'):∀{v:Value}{x:AV},VR P h X v x→VR P h' X' v x:=λ{v x}=>
 AV.rec (motive_1:=λx=>∀{v},VR P h X v x→VR P h' X' v x) (motive_2:=λx=>∀{v},bj P h X v x→bj P h' X' v x) (motive_3:=λx=>∀{v},ii P h X v x→ii P h' X' v x) (motive_4:=λx=>∀{v},jf P h X v x→jf P h' X' v x)
  (motive_5:=λq=>∀{e:DictEntry},(hG P e q.1∧VR P h X e.val q.2)→hG P e q.1∧VR P h' X' e.val q.2) (motive_6:=λq=>∀{e:DictEntry},fu P q.1 (λv=>VR P h X v q.2) e→fu P q.1 (λv=>VR P h' X' v q.2) e)
  (λr=>r) (λ_ _ r=>r) (λ_ _ r=>r) (λ_ _ r=>r) (λ_ k _ r=>cR.up u k r) (λ_ k _ r=>cR.up u k r) (λ_ k _ r=>cR.up u k r) (λ_ _ k _ r=>gL.up u k r) (λ_ _ r=>r) (λ_ k _ r=>fG.up u k r)
  (λr=>r) (λ_ _ f g _ r=>bA.up f g r) (λr=>r) (λ_ _ f g _ r=>bA.up f g r) (λr=>r) (λ_ _ f g _ r=>bA.up f g r) (λ_ _ _ k _ r=>⟨r.1,k r.2⟩) (λ_ _ k _ r=>fu.up k r) x
theorem bj.rrs{l:List AV}:∀{vs:List Value},bj P h X vs l→a9 P h X M vs (l.map .v):=l.rec (motive:=λl=>∀{vs},bj P h X vs l→a9 P h X M vs (l.map .v)) (λr=>r) λx l ih{_} r=>bA.up (λa=>a) ih r
theorem pU{l:List AV}:∀{vs:List Value},a9 P h X M vs (l.map .v)→bj P h X vs l:=l.rec (motive:=λl=>∀{vs},a9 P h X M vs (l.map .v)→bj P h X vs l) (λr=>r) λx l ih{_} r=>bA.up (λa=>a) ih r
theorem bj.nil:bj P h X [] []:=rfl
theorem bj.cons{x:AV}{vs:List Value}{l:List AV}(a:VR P h X v x)(b:bj P h X vs l):bj P h X (v::vs) (x::l):=bA.mk (a:=λv=>VR P h X v x) (b:=λvs=>bj P h X vs l) a b
theorem bj.length{vs:List Value}{l:List AV}(r:bj P h X vs l):vs.length=l.length:=(Z2.length (bj.rrs (M:=[]) r)).trans (aU ..)
theorem ii.rrd{l:List (AV×AV)}:∀{es:List DictEntry},ii P h X es l→cC P h X M es (vd l):=l.rec (motive:=λl=>∀{vs},ii P h X vs l→cC P h X M vs (vd l)) (λr=>r) λ⟨k,x⟩ l ih{_} r=>bA.up (λa=>a) ih r
theorem cC.frzAll{l:List (AV×AV)}:∀{es:List DictEntry},cC P h X M es (vd l)→ii P h X es l:=l.rec (motive:=λl=>∀{vs},cC P h X M vs (vd l)→ii P h X vs l) (λr=>r) λ⟨k,x⟩ l ih{_} r=>bA.up (λa=>a) ih r
theorem jf.rrf{l:List (Nat×AV)}:∀{es:List DictEntry},jf P h X es l→eE P h X M es (vd l):=l.rec (motive:=λl=>∀{vs},jf P h X vs l→eE P h X M vs (vd l)) (λr=>r) λ⟨k,x⟩ l ih{_} r=>bA.up (λa=>a) ih r
abbrev e8(M M':Sp):Prop:=∀i p,ae M i=some p→ae M' i=some p
theorem RR.up(u:Up h X h' X')(m:e8 M M'){v:Value}{x:RV}:RR P h X M v x→RR P h' X' M' v x:=RV.casesOn (motive:=λx=>RR P h X M v x→RR P h' X' M' v x) x (λ_ r=>VR.up u r) λ_ r=>RR.onLoc r λ_ e=>RR.loc (m _ _ e)
theorem a9.up(u:Up h X h' X')(m:e8 M M'){vs:List Value}{l:List RV}(r:a9 P h X M vs l):a9 P h' X' M' vs l:=Z2.mono (RR.up u m) r
theorem cC.up(u:Up h X h' X')(m:e8 M M'){vs:List DictEntry}{l:List (AV×RV)}(r:cC P h X M vs l):cC P h' X' M' vs l:=Z2.mono (λr=>⟨r.1,RR.up u m r.2⟩) r
theorem eE.up(u:Up h X h' X')(m:e8 M M'){vs:List DictEntry}{l:List (Nat×RV)}(r:eE P h X M vs l):eE P h' X' M' vs l:=Z2.mono (fu.up (RR.up u m)) r
theorem bj.up(u:Up h X h' X'){vs:List Value}{l:List AV}(r:bj P h X vs l):bj P h' X' vs l:=pU (a9.up (M:=[]) (M':=[]) u (λ_ _ e=>e) (bj.rrs r))
noncomputable def Ag:RV→Option AV
 |.v x=>some x
 |.loc _=>none
noncomputable def bY:List RV→Option (List AV)
 |[]=>some []
 |x::l=>(Ag x).bind λy=>(bY l).bind λr=>some (y::r)
theorem aL{α β:Type}{o:Option α}{f:α→Option β}{y:β}{G:Prop}(h:o.bind f=some y)(k:∀x,o=some x→f x=some y→G):G:=by
 cases o with
 |none=>cases h
 |some x=>exact k x rfl h
theorem VN{x:RV}{y:AV}(e:Ag x=some y):x=.v y:=by cases x<;>cases e;rfl
theorem qt{l:List RV}:∀{r:List AV},bY l=some r→l=r.map .v:=l.rec (motive:=λl=>∀{r},bY l=some r→l=r.map .v) (λe=>by cases e;rfl) λx l ih{r} e=>aL (o:=Ag x) e λy e1 e=>aL (o:=bY l) e λr' e2 e=>ak e▸(congr (congrArg List.cons (VN e1)) (ih e2))
theorem a9.frozen{vs:List Value}{l:List RV}{r:List AV}(a:a9 P h X M vs l)(e:bY l=some r):bj P h X vs r:=pU (qt e▸a)
end
end
set_option genInjectivity false
section
structure St where
 loc:List (Option RV)
 H:List ac
noncomputable def bp{α:Type}:List α→Nat→α→List α
 |[],_,_=>[]
 |x::l,n,a=>match n with
  |0=>a::l
  |n+1=>x::bp l n a
theorem cJ{α:Type}:∀(l:List α)(n:Nat),ae l n=l[n]?
 |[],_=>rfl
 |_::_,0=>rfl
 |_::l,n+1=>cJ l n
theorem vL{α:Type}(a:α):∀(l:List α)(n:Nat),bp l n a=l.set n a
 |[],_=>rfl
 |_::_,0=>rfl
 |x::l,n+1=>congrArg (x::·) (vL a l n)
section
variable{α:Type}{l r:List α}{n m:Nat}{a b:α}
theorem gh(h:ae l n=some a):n<l.length:=(List.getElem?_eq_some_iff.mp (cJ l n▸h)).1
theorem jm(h:n<l.length):∃a,ae l n=some a:=⟨l[n],(cJ l n).trans (oR h)⟩
theorem ze(h:ae l n=some b):ae (bp l n a) n=some a:=by rw[vL,cJ,List.getElem?_set_self (gh h)]
theorem uX(h:n≠m):ae (bp l n a) m=ae l m:=by rw[vL,cJ,cJ,List.getElem?_set_ne h]
theorem n9(l r:List α)(n:Nat):ae (l++r) n=if n<l.length then ae l n else ae r (n-l.length):=by rw[cJ,cJ,cJ,List.getElem?_append]
theorem zc(h:ae l n=some a):ae (l++r) n=some a:=(n9 l r n).trans ((bF (gh h)).trans h)
theorem EI(l:List α)(a:α)(r:List α):ae (l++a::r) l.length=some a:=by rw[n9,bQ (jF _),Nat.sub_self];rfl
theorem pG(l:List α)(k n:Nat):ae (l.take k) n=if n<k then ae l n else none:=by rw[cJ,cJ,List.getElem?_take]
theorem zU(l:List α)(n:Nat)(a:α):(bp l n a).length=l.length:=(congrArg List.length (vL a l n)).trans (List.length_set ..)
theorem mn{G:Prop}(h:ae (l++[a]) n=some b)(old:n<l.length→ae l n=some b→G)(new:n=l.length→b=a→G):G:=by
 rw[n9] at h;by_cases c:n<l.length
 ·rw[bF c] at h;exact old c h
 ·rw[bQ c] at h;have d:=gh h;have e:n=l.length:=tA (Nat.le_of_sub_eq_zero (Nat.lt_one_iff.mp d)) (Nat.not_lt.mp c);subst e;rw[Nat.sub_self] at h;exact new rfl (ak h).symm
end
structure Cx where
 w:World
 B:Heap
 X0:Addr→Prop
 T0:Addr→Prop
 env:Env
 fr:List Env
 g:Nat
 n:Nat
abbrev Cx.X(cx:Cx)(b:Addr):Prop:=cx.X0 b∨cx.T0 b
noncomputable abbrev Cx.st(cx:Cx)(X1:Addr→Prop):Cx:={cx with X0:=X1}
noncomputable abbrev Cx.hidS(cx:Cx)(W:Addr→Prop):Cx:=cx.st λb=>cx.X0 b∨W b
structure Pt where
 h:Heap
 M:Sp
 σ:St
noncomputable def ac.live(o:ac):Prop:=ac.casesOn (motive:=λ_=>Prop) o (λ_=>True) (λ_=>True) (λ_ _=>True) False
inductive cO(M:Sp)(H:List ac)(i:Nat)(b:Addr):Prop
 |mk {p:Addr×Addr} {o:ac}:ae M i=some p→ae H i=some o→o.live→(b=p.1∨b=p.2)→cO M H i b
noncomputable def bn(M:Sp)(H:List ac)(b:Addr):Prop:=∃i,cO M H i b
noncomputable def HA(X:Addr→Prop)(M:Sp)(H:List ac)(b:Addr):Prop:=X b∨vQ b∨bn M H b
noncomputable def Tc(T:Addr→Prop)(M:Sp)(H:List ac)(b:Addr):Prop:=T b∨cX b∨bn M H b
noncomputable abbrev cA:Addr→Prop:=λ_=>False
noncomputable abbrev Pt.av(cx:Cx)(p:Pt):Addr→Prop:=HA cx.X p.M p.σ.H
abbrev Pt.val(cx:Cx)(p:Pt)(v:Value)(x:RV):Prop:=RR cx.w.params p.h (p.av cx) p.M v x
abbrev Pt.vals(cx:Cx)(p:Pt)(vs:List Value)(l:List RV):Prop:=a9 cx.w.params p.h (p.av cx) p.M vs l
inductive iL(h:Heap)(env:Env)(x:Str)(v:Value):Prop
 |loc {m:Str→Option Value}:env.kindOf x=some .local→h.Ns env.locals m→m x=some v→iL h env x v
 |cell {c:Addr}:(env.kindOf x=some .cell∨(env.kindOf x=some .free∧(x==("__classdict__":Str))=false))→env.cells.lookup x=some c→h.IsCell c (some v)→iL h env x v
noncomputable def hY(cx:Cx)(x:Str):Prop:=cx.env.kindOf x=some .local∨(cx.env.kindOf x=some .cell∧∃c,cx.env.cells.lookup x=some c∧cx.T0 c)
inductive d8{ε:Type}(h:Heap)(f:List ε→Nat→Obj)(R:List ε→Prop):Addr×Addr→Prop
 |mk {a:Addr} {vs:List ε} {n:Nat}:h.get? a=some (f vs n)→R vs→d8 h f R (a,a)
inductive hU(h:Heap)(c:Addr)(R:List DictEntry→Prop):Addr×Addr→Prop
 |mk {a d:Addr} {es:List DictEntry} {n:Nat}:h.get? a=some (fR c d)→h.get? d=some (dictOf es n)→a≠d→R es→hU h c R (a,d)
noncomputable def cY(P:Params)(h:Heap)(X:Addr→Prop)(M:Sp)(p:Addr×Addr)(o:ac):Prop:=ac.casesOn (motive:=λ_=>Prop) o (λl=>d8 h cL (λvs=>a9 P h X M vs l) p) (λl=>d8 h dictOf (λvs=>cC P h X M vs l) p) (λc l=>hU h c (λvs=>eE P h X M vs l) p) True
section
variable{ε:Type}{h h':Heap}{P:Params}{X X':Addr→Prop}{M M':Sp}{p:Addr×Addr}{C:Addr×Addr→Prop}
@[elab_as_elim] theorem d8.on{f:List ε→Nat→Obj}{R:List ε→Prop}(r:d8 h f R p)(k:∀a vs n,h.get? a=some (f vs n)→R vs→C (a,a)):C p:= @d8.rec _ h f R (λp _=>C p) (λa b=>k _ _ _ a b) _ r
@[elab_as_elim] theorem hU.on{c:Addr}{R:List DictEntry→Prop}(r:hU h c R p)(k:∀a d es n,h.get? a=some (fR c d)→h.get? d=some (dictOf es n)→a≠d→R es→C (a,d)):C p:= @hU.rec h c R (λp _=>C p) (λa b c d=>k _ _ _ _ a b c d) _ r
theorem cY.up{o:ac}(u:Up h X h' X')(m:e8 M M')(k:o.live→∀b o',(b=p.1∨b=p.2)→h.get? b=some o'→h'.get? b=some o'):cY P h X M p o→cY P h' X' M' p o:=ac.casesOn (motive:=λo=>(o.live→∀b o',(b=p.1∨b=p.2)→h.get? b=some o'→h'.get? b=some o')→cY P h X M p o→cY P h' X' M' p o) o
  (λ_ k x=>d8.on (C:=λp=>(∀b o',(b=p.1∨b=p.2)→h.get? b=some o'→h'.get? b=some o')→cY P h' X' M' p (.lst _)) x (λa _ _ e r k=>d8.mk (k a _ (.inl rfl) e) (a9.up u m r)) (k trivial))
  (λ_ k x=>d8.on (C:=λp=>(∀b o',(b=p.1∨b=p.2)→h.get? b=some o'→h'.get? b=some o')→cY P h' X' M' p (.dct _)) x (λa _ _ e r k=>d8.mk (k a _ (.inl rfl) e) (cC.up u m r)) (k trivial))
  (λ_ _ k x=>hU.on (C:=λp=>(∀b o',(b=p.1∨b=p.2)→h.get? b=some o'→h'.get? b=some o')→cY P h' X' M' p (.inst _ _)) x (λa d _ _ e e' n r k=>hU.mk (k a _ (.inl rfl) e) (k d _ (.inr rfl) e') n (eE.up u m r)) (k trivial))
  (λ_ _=>trivial) k
end
structure bq(cx:Cx):Prop where
 kind:cx.env.scope.kind=.function
 glob:cx.env.globals=mainGlobals
 bltn:cx.env.builtins=builtinsNs
 says:∀b o,(H1 cx.w.params).get? b=some o→cx.B.get? b=some o
noncomputable def sY(cx:Cx):Prop:=∀x,cx.env.kindOf x=some .cell→∃c,cx.env.cells.lookup x=some c∧cx.T0 c
noncomputable def iH:Str:=Str.ofString "in_order.<locals>.<lambda>"
noncomputable def ou:Str:=Str.ofString "asker.<locals>.value_of"
noncomputable def ot:Pos:=match(fp 31).body with
 |_::s::_=>GM s
 |_=>fF
noncomputable def sa:Pos:=match(fp 134).body with
 |s::_=>GM s
 |_=>fF
structure kr(h:Heap)(X:Addr→Prop):Prop where
 t0:eF h X 195 iH ot
 t1:eF h X 965 ou sa
theorem eF.up{h h':Heap}{X X':Addr→Prop}{P:Addr}{q:Str}{ps:Pos}(u:Up h X h' X')(k:∀o,h.get? P=some o→h'.get? P=some o)(x:eF h X P q ps):eF h' X' P q ps:=@eF.rec h X P q ps (λ_=>eF h' X' P q ps) (λe=>.nil (k _ e)) (λe e1 n d r=>.one (k _ e) (u.keep _ _ e1 n) (u.away _ _ e1 n) d r) x
theorem kr.up{h h':Heap}{X X':Addr→Prop}(u:Up h X h' X')(k:∀b o,cX b→h.get? b=some o→h'.get? b=some o)(x:kr h X):kr h' X':=⟨x.t0.up u λo=>k _ o (.inl rfl),x.t1.up u λo=>k _ o (.inr rfl)⟩
structure HR(P:Params)(B:Heap)(X:Addr→Prop)(h:Heap)(M:Sp)(H:List ac):Prop where
 base:∀b o,B.get? b=some o→¬cX b→h.get? b=some o
 clear:∀b o,B.get? b=some o→¬cX b→¬X b∧¬bn M H b
 tabs:kr h (HA X M H)
 low:∀b,HA X M H b→b<h.objs.size
 len:M.length=H.length
 mlt:∀i a,ae M i=some a→a.1<h.objs.size∧a.2<h.objs.size
 own:∀i a o,ae M i=some a→ae H i=some o→cY P h (HA X M H) M a o
 apart:∀i j b,cO M H i b→cO M H j b→i=j
 offA:∀b,bn M H b→¬cX b
theorem HR.away{P:Params}{B:Heap}{X:Addr→Prop}{h:Heap}{M:Sp}{H:List ac}(G:HR P B X h M H){b:Addr}{o:Obj}(e:B.get? b=some o)(n:¬vQ b):¬HA X M H b:=λz=>z.elim (G.clear b o e λt=>n (.inl t)).1 λz=>z.elim n (G.clear b o e λt=>n (.inl t)).2
theorem HR.new{P:Params}{B:Heap}{X:Addr→Prop}{h:Heap}{M:Sp}{H:List ac}(G:HR P B X h M H){b:Addr}(n:h.objs.size≤b):¬HA X M H b:=λz=>absurd (G.low b z) (Nat.not_lt.mpr n)
theorem iE{h:Heap}{b:Addr}{o:Obj}{G:Prop}(e:h.get? b=some o)(n:h.objs.size≤b):G:=absurd (b9 e) (Nat.not_lt.mpr n)
theorem HR.same{P:Params}{B:Heap}{X X' D:Addr→Prop}{h h':Heap}{M:Sp}{H:List ac}(G:HR P B X h M H)(k:∀b o,¬D b→h.get? b=some o→h'.get? b=some o)(d:∀b,D b→X b∧¬cX b∧¬bn M H b)
  (sz:h.objs.size≤h'.objs.size)(x':∀b,X' b→X b∨(h.objs.size≤b∧b<h'.objs.size)):HR P B X' h' M H∧Up h (HA X M H) h' (HA X' M H):=have u:Up h (HA X M H) h' (HA X' M H):=⟨λb o e n=>k b o (λz=>n (.inl (d b z).1)) e,λb o e n z=>z.elim (λz=>(x' b z).elim (λz=>n (.inl z)) λz=>iE e z.1) λz=>n (.inr z)⟩
 ⟨⟨λb o e n=>k b o (λz=>(G.clear b o e n).1 (d b z).1) (G.base b o e n),λb o e n=>⟨λz=>(x' b z).elim (G.clear b o e n).1 λz=>iE (G.base b o e n) z.1,(G.clear b o e n).2⟩,
  G.tabs.up u λb o t=>k b o λz=>(d b z).2.1 t,λb z=>z.elim (λz=>(x' b z).elim (λz=>dK (G.low b (.inl z)) sz) λz=>z.2) λz=>dK (G.low b (.inr z)) sz,
  G.len,λi a e=>⟨dK (G.mlt i a e).1 sz,dK (G.mlt i a e).2 sz⟩,
  λi a o e1 e2=>(G.own i a o e1 e2).up u (λ_ _ e=>e) λl b o' hb=>k b o' λz=>(d b z).2.2 ⟨i,.mk e1 e2 l hb⟩,G.apart,G.offA⟩,u⟩
structure HX(T:Addr→Prop)(h:Heap)(M:Sp)(H:List ac)(h':Heap)(M':Sp)(H':List ac):Prop where
 sp:e8 M M'
 keep:∀b o,h.get? b=some o→¬Tc T M H b→h'.get? b=some o
 size:h.objs.size≤h'.objs.size
 live:∀b,bn M' H' b→bn M H b∨h.objs.size≤b
 new:∀i p,M.length≤i→ae M' i=some p→h.objs.size≤p.1∧h.objs.size≤p.2
theorem ml{M:Sp}{N:Nat}:∀i(p:Addr×Addr),M.length≤i→ae M i=some p→N≤p.1∧N≤p.2:=λi p c e=>absurd (gh e) (Nat.not_lt.mpr c)
abbrev c8(cx:Cx)(p q:Pt):Prop:=HX cx.T0 p.h p.M p.σ.H q.h q.M q.σ.H
section
variable{X T:Addr→Prop}{h h' h'':Heap}{M M' M'':Sp}{H H' H'':List ac}
theorem HX.refl:HX T h M H h M H:=⟨λ_ _ e=>e,λ_ _ e _=>e,bw _,λ_ h=>.inl h,ml⟩
theorem HX.grow(k:∀b o,h.get? b=some o→h'.get? b=some o)(sz:h.objs.size≤h'.objs.size):HX T h M H h' M H:=⟨λ_ _ e=>e,λb o e _=>k b o e,sz,λ_ h=>.inl h,ml⟩
theorem HX.ofT(e:HX T h M H h' M' H'){b:Addr}{o:Obj}(q:h.get? b=some o)(n:¬Tc T M H b):¬Tc T M' H' b:=λz=>z.elim (λz=>n (.inl z)) λz=>z.elim (λz=>n (.inr (.inl z))) λz=>(e.live b z).elim (λz=>n (.inr (.inr z))) (iE q)
theorem HX.trans(a:HX T h M H h' M' H')(b:HX T h' M' H' h'' M'' H''):HX T h M H h'' M'' H'':=⟨λi p e=>b.sp i p (a.sp i p e),λx o e n=>b.keep x o (a.keep x o e n) (a.ofT e n),aJ a.size b.size,λx h=>(b.live x h).elim (a.live x) λh=>.inr (aJ a.size h),λi p c e=>(mW i M'.length).elim (λc'=>(jm c').elim λq hq=>a.new i p c (ak ((b.sp i q hq).symm.trans e)▸hq)) λc'=>⟨aJ a.size (b.new i p c' e).1,aJ a.size (b.new i p c' e).2⟩⟩
theorem HX.up(e:HX T h M H h' M' H')(t:∀b,T b→X b):Up h (HA X M H) h' (HA X M' H'):=⟨λb o q n=>e.keep b o q λz=>n (z.elim (λz=>.inl (t b z)) λz=>.inr (z.imp .inl id)),λb o q n z=>n (z.imp id λz=>z.imp id λz=>(e.live b z).elim id (iE q))⟩
theorem HX.moreT{T':Addr→Prop}(e:HX T h M H h' M' H')(i:∀b,T b→T' b):HX T' h M H h' M' H':=⟨e.sp,λb o q n=>e.keep b o q λz=>n (z.imp (i b) id),e.size,e.live,e.new⟩
theorem HX.wide(e:HX cA h M H h' M' H'):HX T h M H h' M' H':=e.moreT λ_ z=>z.elim
theorem HX.lessT{T':Addr→Prop}{h1:Heap}(e:HX T' h1 M H h' M' H')(k:∀b o,h.get? b=some o→h1.get? b=some o)(sz:h.objs.size≤h1.objs.size)(i:∀b,T' b→T b∨h.objs.size≤b):HX T h M H h' M' H':=⟨e.sp,λb o q n=>e.keep b o (k b o q) λz=>n (z.imp (λz=>(i b z).elim id (iE q)) id),aJ sz e.size,λb z=>(e.live b z).imp id (aJ sz),λi p c q=>⟨aJ sz (e.new i p c q).1,aJ sz (e.new i p c q).2⟩⟩
end
section
variable{cx:Cx}{p q:Pt}
theorem c8.av(e:c8 cx p q):Up p.h (p.av cx) q.h (q.av cx):=HX.up e λ_ z=>.inr z
theorem cG{v:Value}{x:RV}(e:c8 cx p q)(a:p.val cx v x):q.val cx v x:=RR.up (c8.av e) e.sp a
theorem oH{v:List Value}{x:List RV}(e:c8 cx p q)(a:p.vals cx v x):q.vals cx v x:=a9.up (c8.av e) e.sp a
end
noncomputable def FA(T0:Addr→Prop)(env:Env)(fr:List Env)(b:Addr):Prop:=T0 b∨(∃x,env.cells.lookup x=some b)∨∃e∈fr,e.frame=some b
structure Iq(B:Heap)(T0:Addr→Prop)(env:Env)(fr:List Env)(sl:List Str):Prop where
 sdup:∀i j n,ae sl i=some n→ae sl j=some n→i=j
 tL:T0 env.locals
 apartC:∀x y c,env.cells.lookup x=some c→env.cells.lookup y=some c→x=y
 offA:∀b,FA T0 env fr b→¬cX b
 frK:∀e∈fr,e.scope.kind≠.module∧∃L,e.frame=some L∧B.get? L=none
 frT:∀e∈fr,∀L,e.frame=some L→T0 L→L=env.locals
inductive ku(cx:Cx)(sl:List Str)(h:Heap)(X:Addr→Prop)(M:Sp)(i:Nat)(x:RV):Prop
 |mk {n:Str} {v:Value}:ae sl i=some n→iL h cx.env n v→RR cx.w.params h X M v x→ku cx sl h X M i x
noncomputable def oW(h:Heap)(L:Addr):Prop:=∃o,h.get? L=some o∧∀vs,o.data≠.fields vs
structure SR(cx:Cx)(sl:List Str)(p:Pt):Prop where
 toHR:HR cx.w.params cx.B cx.X p.h p.M p.σ.H
 c:Iq cx.B cx.T0 cx.env cx.fr sl
 vars:∀i x,ae p.σ.loc i=some (some x)→ku cx sl p.h (p.av cx) p.M i x
 ns:∃m,p.h.Ns cx.env.locals m
 slen:p.σ.loc.length=sl.length
 cells:∀x c,cx.env.cells.lookup x=some c→∃v,p.h.IsCell c v
 off:∀b,bn p.M p.σ.H b→¬FA cx.T0 cx.env cx.fr b
 frs:∀e∈cx.fr,∀L,e.frame=some L→oW p.h L
 nx:∀i a,cx.g≤i→ae p.M i=some a→¬cx.X a.1∧¬cx.X a.2
noncomputable def FK(cx:Cx)(b:Addr):Prop:=b=cx.env.locals∨(∃x,cx.env.cells.lookup x=some b)∨∃e∈cx.fr,e.frame=some b
section
variable{cx:Cx}{sl:List Str}{p:Pt}
theorem SR.fk(R:SR cx sl p){b:Addr}(f:FK cx b):FA cx.T0 cx.env cx.fr b:=f.elim (λe=>.inl (e▸R.c.tL)) .inr
theorem SR.fkLt(R:SR cx sl p){b:Addr}(f:FK cx b):b<p.h.objs.size:=f.elim (λe=>e▸R.ns.elim λ_ h=>h.lt) λf=>f.elim (λ⟨x,e⟩=>(R.cells x b e).elim λ_ h=>h.lt) λ⟨e,m,q⟩=>(R.frs e m b q).elim λ_ h=>b9 h.1
theorem SR.faLt(R:SR cx sl p){b:Addr}(f:FA cx.T0 cx.env cx.fr b):b<p.h.objs.size:=f.elim (λt=>R.toHR.low b (.inl (.inr t))) λf=>R.fkLt (.inr f)
theorem uD{h h':Heap}{a:Addr}{m:Str→Option Value}(k:∀o,h.get? a=some o→h'.get? a=some o)(y:h.Ns a m):h'.Ns a m:=y.elim λo y=>⟨o,y.elim λes y=>⟨es,y.elim λep y=>⟨ep,k _ y.1,y.2⟩⟩⟩
theorem uC{h h':Heap}{a:Addr}{v:Option Value}(k:∀o,h.get? a=some o→h'.get? a=some o)(y:h.IsCell a v):h'.IsCell a v:=y.elim λo y=>⟨o,k _ y.1,y.2⟩
theorem iL.keeps{h h':Heap}{env:Env}{x:Str}{v:Value}(k1:∀o,h.get? env.locals=some o→h'.get? env.locals=some o)(k2:∀x c o,env.cells.lookup x=some c→h.get? c=some o→h'.get? c=some o)(y:iL h env x v):iL h' env x v:=@iL.rec h env x v (λ_=>iL h' env x v) (λa b c=>.loc a (uD k1 b) c) (λa b c=>.cell a b (uC (λo=>k2 _ _ o b) c)) y
theorem ku.of{X:Addr→Prop}{M:Sp}{h:Heap}{i:Nat}{x:RV}{G:Prop}(r:ku cx sl h X M i x)(k:∀n v,ae sl i=some n→iL h cx.env n v→RR cx.w.params h X M v x→G):G:= @ku.rec cx sl h X M i x (λ_=>G) (λa b c=>k _ _ a b c) r
theorem SR.mv'(R:SR cx sl p){X1:Addr→Prop}{h':Heap}{M':Sp}{H':List ac}{loc':List (Option RV)}(G:HR cx.w.params cx.B (cx.st X1).X h' M' H')(k:∀b o,FK cx b→p.h.get? b=some o→h'.get? b=some o)
  (lv:∀b,bn M' H' b→bn p.M p.σ.H b∨¬FA cx.T0 cx.env cx.fr b)(nx:∀i a,cx.g≤i→ae M' i=some a→¬(cx.st X1).X a.1∧¬(cx.st X1).X a.2)
  (ll:loc'.length=sl.length)(vars:∀i x,ae loc' i=some (some x)→ku (cx.st X1) sl h' (HA (cx.st X1).X M' H') M' i x):SR (cx.st X1) sl ⟨h',M',⟨loc',H'⟩⟩:=⟨G,R.c,vars,R.ns.elim λm hm=>⟨m,uD (λo=>k _ o (.inl rfl)) hm⟩,ll,λx c e=>(R.cells x c e).elim λv hv=>⟨v,uC (λo=>k _ o (.inr (.inl ⟨x,e⟩))) hv⟩,λb l=>(lv b l).elim (R.off b) id,λe m L q=>(R.frs e m L q).elim λo h=>⟨o,k _ _ (.inr (.inr ⟨e,m,q⟩)) h.1,h.2⟩,nx⟩
theorem SR.mv(R:SR cx sl p){X1:Addr→Prop}{h':Heap}{M':Sp}{H':List ac}(G:HR cx.w.params cx.B (cx.st X1).X h' M' H')(u:Up p.h (p.av cx) h' (HA (cx.st X1).X M' H'))(sp:e8 p.M M')(k:∀b o,FK cx b→p.h.get? b=some o→h'.get? b=some o)
  (lv:∀b,bn M' H' b→bn p.M p.σ.H b∨¬FA cx.T0 cx.env cx.fr b)(nx:∀i a,cx.g≤i→ae M' i=some a→¬(cx.st X1).X a.1∧¬(cx.st X1).X a.2):SR (cx.st X1) sl ⟨h',M',⟨p.σ.loc,H'⟩⟩:=R.mv' G k lv nx R.slen λi x e=>(R.vars i x e).of λn v e1 e2 e3=>.mk e1 (e2.keeps (λo=>k _ o (.inl rfl)) λx c o q=>k _ o (.inr (.inl ⟨x,q⟩))) (RR.up u sp e3)
structure Ok(cx:Cx)(sl:List Str)(p q:Pt):Prop where
 e:c8 cx p q
 r:SR cx sl q
theorem Ok.refl(R:SR cx sl p):Ok cx sl p p:=⟨HX.refl,R⟩
theorem Ok.tr{q r:Pt}(e:c8 cx p q)(o:Ok cx sl q r):Ok cx sl p r:=⟨HX.trans e o.e,o.r⟩
theorem SR.grow(R:SR cx sl p){h':Heap}(k:∀b o,p.h.get? b=some o→h'.get? b=some o)(sz:p.h.objs.size≤h'.objs.size):Ok cx sl p ⟨h',p.M,p.σ⟩:=have g:=R.toHR.same (X':=cx.X) (D:=cA) (λb o _=>k b o) (λ_ z=>z.elim) sz λ_=>.inl
 ⟨HX.grow k sz,R.mv (X1:=cx.X0) g.1 g.2 (λ_ _ e=>e) (λb o _=>k b o) (λ_=>.inl) R.nx⟩
theorem gF(h:Heap)(o:Obj):h.objs.size≤(h.push o).objs.size:=dk h o▸kn _
theorem SR.push(R:SR cx sl p)(o:Obj):Ok cx sl p ⟨p.h.push o,p.M,p.σ⟩:=R.grow (λb o' e=>bc o e) (gF _ _)
theorem SR.fresh(R:SR cx sl p):¬p.av cx p.h.objs.size:=R.toHR.new (bw _)
structure WO(cx:Cx)(h:Heap)(M:Sp)(H:List ac)(b:Addr):Prop where
 lt:b<h.objs.size
 nF:¬FA cx.T0 cx.env cx.fr b
 nA:¬cX b
 nL:¬bn M H b
abbrev gn(cx:Cx)(W:Addr→Prop)(h:Heap)(M:Sp)(H:List ac):Prop:=∀b,W b→WO cx h M H b
theorem WO.nT{h:Heap}{M:Sp}{H:List ac}{b:Addr}(w:WO cx h M H b):¬Tc cx.T0 M H b:=λz=>z.elim (λz=>w.nF (.inl z)) λz=>z.elim w.nA w.nL
theorem WO.up{T:Addr→Prop}{h h':Heap}{M M':Sp}{H H':List ac}{b:Addr}(w:WO cx h M H b)(e:HX T h M H h' M' H'):WO cx h' M' H' b:=⟨dK w.lt e.size,w.nF,w.nA,λl=>(e.live b l).elim w.nL λq=>absurd w.lt (Nat.not_lt.mpr q)⟩
theorem gn.up{T W:Addr→Prop}{h h':Heap}{M M':Sp}{H H':List ac}(w:gn cx W h M H)(e:HX T h M H h' M' H'):gn cx W h' M' H':=λb z=>(w b z).up e
theorem SR.wNew(R:SR cx sl p){b:Addr}(n:p.h.objs.size≤b){h':Heap}(lt:b<h'.objs.size):WO cx h' p.M p.σ.H b:=⟨lt,λf=>absurd (R.faLt f) (Nat.not_lt.mpr n),λt=>R.toHR.new n (.inr (.inl (.inl t))),λl=>R.toHR.new n (.inr (.inr l))⟩
theorem SR.hideS(R:SR cx sl p){W:Addr→Prop}{h':Heap}(k:∀b o,p.h.get? b=some o→h'.get? b=some o)(sz:p.h.objs.size≤h'.objs.size)(hW:∀b,W b→p.h.objs.size≤b∧b<h'.objs.size):
  SR (cx.hidS W) sl ⟨h',p.M,p.σ⟩∧gn cx W h' p.M p.σ.H∧Up p.h (p.av cx) h' (HA (cx.hidS W).X p.M p.σ.H):=have g:=R.toHR.same (X':=(cx.hidS W).X) (D:=cA) (λb o _=>k b o) (λ_ z=>z.elim) sz λb z=>z.elim (λz=>z.imp .inl (hW b)) λz=>.inl (.inr z);have old:∀{b},b<p.h.objs.size→¬W b:=λl w=>absurd l (Nat.not_lt.mpr (hW _ w).1)
 ⟨R.mv g.1 g.2 (λ_ _ e=>e) (λb o _=>k b o) (λ_=>.inl) λi a c e=>⟨λz=>z.elim (λz=>z.elim (λz=>(R.nx i a c e).1 (.inl z)) (old (R.toHR.mlt i a e).1)) λz=>(R.nx i a c e).1 (.inr z),λz=>z.elim (λz=>z.elim (λz=>(R.nx i a c e).2 (.inl z)) (old (R.toHR.mlt i a e).2)) λz=>(R.nx i a c e).2 (.inr z)⟩,
  λb w=>R.wNew (hW b w).1 (hW b w).2,g.2⟩
theorem SR.stepS{W V:Addr→Prop}(R:SR (cx.hidS W) sl p)(w:gn cx W p.h p.M p.σ.H){h':Heap}(hV:∀b,V b→W b)(k:∀b o,¬V b→p.h.get? b=some o→h'.get? b=some o)(sz:p.h.objs.size≤h'.objs.size):
  HX (λb=>cx.T0 b∨V b) p.h p.M p.σ.H h' p.M p.σ.H∧SR (cx.hidS W) sl ⟨h',p.M,p.σ⟩:=have g:=R.toHR.same (X':=(cx.hidS W).X) (D:=V) k (λb z=>⟨.inl (.inr (hV b z)),(w b (hV b z)).nA,(w b (hV b z)).nL⟩) sz λ_=>.inl
 ⟨⟨λ_ _ e=>e,λb o e n=>k b o (λz=>n (.inl (.inr z))) e,sz,λ_=>.inl,ml⟩,R.mv (X1:=(cx.hidS W).X0) g.1 g.2 (λ_ _ e=>e) (λb o f=>k b o λz=>(w b (hV b z)).nF (R.fk f)) (λ_=>.inl) R.nx⟩
theorem SR.unhideS{W:Addr→Prop}(R:SR (cx.hidS W) sl p):SR cx sl p∧Up p.h (HA (cx.hidS W).X p.M p.σ.H) p.h (p.av cx):=have g:=R.toHR.same (X':=cx.X) (D:=cA) (λb o _ e=>e) (λ_ z=>z.elim) (bw _) λ_ z=>.inl (z.imp .inl id)
 ⟨R.mv (X1:=cx.X0) g.1 g.2 (λ_ _ e=>e) (λb o _ e=>e) (λ_=>.inl) λi a c e=>⟨λz=>(R.nx i a c e).1 (z.imp .inl id),λz=>(R.nx i a c e).2 (z.imp .inl id)⟩,g.2⟩
end
theorem HR.chg{P:Params}{B:Heap}{X:Addr→Prop}{h h':Heap}{M:Sp}{H H':List ac}(G:HR P B X h M H)(len:H'.length=H.length)(lv:∀i b,cO M H' i b→cO M H i b)(k:∀b o,¬bn M H b→h.get? b=some o→h'.get? b=some o)(sz:h.objs.size≤h'.objs.size)
  (own:Up h (HA X M H) h' (HA X M H')→∀i a o,ae M i=some a→ae H' i=some o→cY P h' (HA X M H') M a o):HR P B X h' M H'∧HX cA h M H h' M H':=have lv':∀b,bn M H' b→bn M H b:=λb z=>z.imp λi=>lv i b;have e:HX cA h M H h' M H':=⟨λ_ _ e=>e,λb o q n=>k b o (λz=>n (.inr (.inr z))) q,sz,λb z=>.inl (lv' b z),ml⟩;have u:=e.up (X:=X) λ_ z=>z.elim
 ⟨⟨λb o q n=>k b o (G.clear b o q n).2 (G.base b o q n),λb o q n=>⟨(G.clear b o q n).1,λz=>(G.clear b o q n).2 (lv' b z)⟩,G.tabs.up u λb o t=>k b o λz=>G.offA b z t,λb z=>dK (G.low b (z.imp id λz=>z.imp id (lv' b))) sz,
  G.len.trans len.symm,λi a q=>⟨dK (G.mlt i a q).1 sz,dK (G.mlt i a q).2 sz⟩,own u,λi j b x y=>G.apart i j b (lv i b x) (lv j b y),λb z=>G.offA b (lv' b z)⟩,e⟩
theorem cO.on{M:Sp}{H:List ac}{i:Nat}{b:Addr}{G:Prop}(r:cO M H i b)(k:∀p o,ae M i=some p→ae H i=some o→o.live→(b=p.1∨b=p.2)→G):G:= @cO.rec M H i b (λ_=>G) (λa b c d=>k _ _ a b c d) r
section
variable{cx:Cx}{sl:List Str}{p:Pt}
theorem SR.write(R:SR cx sl p){i:Nat}{q:Addr×Addr}{o o':ac}(hm:ae p.M i=some q)(ho:ae p.σ.H i=some o)(l:o.live){b:Addr}(hb:b=q.1∨b=q.2){h':Heap}(hs:Heap.SameBut b p.h h')
  (hO:Up p.h (p.av cx) h' (HA cx.X p.M (bp p.σ.H i o'))→cY cx.w.params h' (HA cx.X p.M (bp p.σ.H i o')) p.M q o'):Ok cx sl p ⟨h',p.M,⟨p.σ.loc,bp p.σ.H i o'⟩⟩:=have lv:∀j b,cO p.M (bp p.σ.H i o') j b→cO p.M p.σ.H j b:=λj b z=>z.on λr oo e1 e2 l1 e3=>(Nat.decEq i j).casesOn (λc=>.mk e1 ((uX c).symm.trans e2) l1 e3) λc=>.mk e1 (c▸ho) l e3;have k:∀b o,¬bn p.M p.σ.H b→p.h.get? b=some o→h'.get? b=some o:=λx o n e=>(hs.2 x λc=>n ⟨i,.mk hm ho l (c▸hb)⟩).trans e
 have g:=R.toHR.chg (h':=h') (zU _ _ _) lv k (f7 hs.1.symm) λu j a oo e1 e2=>(Nat.decEq i j).casesOn (λc=>have e2':=(uX c).symm.trans e2
   (R.toHR.own j a oo e1 e2').up u (λ_ _ e=>e) λl1 x ox hx e=>(hs.2 x λz=>c (R.toHR.apart i j x (.mk hm ho l (z▸hb)) (.mk e1 e2' l1 hx))).trans e)
  λc=>by subst c;cases hm.symm.trans e1;cases (ze ho).symm.trans e2;exact hO u
 ⟨g.2.wide,R.mv (X1:=cx.X0) g.1 (g.2.up λ_ z=>z.elim) (λ_ _ e=>e) (λb o f=>k b o λz=>R.off b z (R.fk f)) (λb z=>.inl (z.imp λj=>lv j b)) R.nx⟩
end
end
section
noncomputable def ob(l:List Obj)(i:Nat):Obj:=(ae l i).getD default
noncomputable def kO(b:Addr)(l:List Obj)(is:List Nat):Frag:=is.map λi=>(b+i,ob l i)
noncomputable def yG(P:Params):Frag:=[(3,(gD P 152 (S "law_on0202_01" 1953) 153)),(0,(boot_o_0 P)),(2,(bi N none (.dict [E P "type.__subclasses__.Exception.0" 568 (I 300 0),E P "type.__subclasses__.Exception.n" 569 (I 1 0)].toArray 2) #[])),(300,(bi (Ty "type") none (.cls (nr "MarkupError" [(Ty "Exception")] [(R 300),(Ty "Exception"),(Ty "BaseException"),(Ty "object")] 299 "MarkupError" [(R 313),(R 325)])) #[some (R 284),none,some (S "MarkupError" 543),some (S "MarkupError" 551),some (Bl "Exception.__new__"),some (B true)]))]++(kO 304 (zi P) [9]++(kO 316 (rT P) [9]++(kO 692 (rJ P) [23]++(kO 720 (rK P) [23]++(kO 748 (rM P) [23]++(kO 776 (rN P) [23]++(kO 804 (rO P) [23]++(kO 832 (rP P) [23]++(kO 860 (rQ P) [23]++(kO 888 (rR P) [23]++(kO 916 (oa P) [23]++(kO 1004 (og P) [38]++(kO 1048 (rS P) [16]++(kO 1069 (oh P) [184]++(kO 270 (u8 P) [29]++(kO 304 (zi P) [8]))))))))))))))))
theorem Ph(P:Params):(yG P).map (λq=>(H1 P).get? q.1)=(yG P).map (λq=>some q.2):=by kernel_rfl
noncomputable def yH(P:Params):Frag:=kO 316 (rT P) [8]++(kO 692 (rJ P) [22]++(kO 720 (rK P) [22]++(kO 748 (rM P) [22]++(kO 776 (rN P) [22]++(kO 804 (rO P) [22]++(kO 832 (rP P) [22]++(kO 860 (rQ P) [22]++(kO 888 (rR P) [22]++(kO 916 (oa P) [22]++(kO 1004 (og P) [37]++(kO 1048 (rS P) [15]++(kO 1069 (oh P) [183]++(kO 15 (pH P) [7,8]++(kO 462 (rU P) [47,48,49,50,51]))))))))))))))
theorem Pi(P:Params):(yH P).map (λq=>(H1 P).get? q.1)=(yH P).map (λq=>some q.2):=by kernel_rfl
noncomputable def yM(P:Params):Frag:=kO 462 (rU P) [52,53]++(kO 916 (oa P) [28]++(kO 1004 (og P) [43]++(kO 15 (pH P) [23]++(kO 1004 (og P) [7]++(kO 15 (pH P) [15,22,30,37,44,51,58,65,72,79,86]++(kO 102 (uY P) [6,13,77]))))))
theorem Pn(P:Params):(yM P).map (λq=>(H1 P).get? q.1)=(yM P).map (λq=>some q.2):=by kernel_rfl
noncomputable def yN(P:Params):Frag:=kO 102 (uY P) [84]++(kO 187 (u6 P) [6,11,18,23,30,37,44,51,58,65,70,77,82]++(kO 270 (u8 P) [6,13,27]++(kO 316 (rT P) [39,46]++(kO 370 (zj P) [48]))))
theorem Po(P:Params):(yN P).map (λq=>(H1 P).get? q.1)=(yN P).map (λq=>some q.2):=by kernel_rfl
noncomputable def yO(P:Params):Frag:=kO 462 (rU P) [20,27,46,60,67]++(kO 530 (u9 P) [6,13,81,88]++(kO 619 (zf P) [6,27,34,41,46,53,60,67]++(kO 692 (rJ P) [13]++(kO 720 (rK P) [13]++(kO 748 (rM P) [13])))))
theorem Pp(P:Params):(yO P).map (λq=>(H1 P).get? q.1)=(yO P).map (λq=>some q.2):=by kernel_rfl
noncomputable def yP(P:Params):Frag:=kO 776 (rN P) [13]++(kO 804 (rO P) [13]++(kO 832 (rP P) [13]++(kO 860 (rQ P) [13]++(kO 888 (rR P) [13]++(kO 916 (oa P) [13,35,42,47,54]++(kO 971 (zg P) [6,11,18,25,32]++(kO 1004 (og P) [14,21,28,35]++(kO 1048 (rS P) [13]))))))))
theorem Pq(P:Params):(yP P).map (λq=>(H1 P).get? q.1)=(yP P).map (λq=>some q.2):=by kernel_rfl
noncomputable def yQ(P:Params):Frag:=kO 1069 (oh P) [13,20,27,34,41,48,55,62,69,76,83,90,97,104,111,118,125,132,139,146]
theorem Ps(P:Params):(yQ P).map (λq=>(H1 P).get? q.1)=(yQ P).map (λq=>some q.2):=by kernel_rfl
noncomputable def yR(P:Params):Frag:=kO 1069 (oh P) [153,160,167,174,181]++(kO 1258 (uZ P) [6,13,20,27,34,41,48,53,58,63,70,75]++(kO 1334 (zh P) [6,13]++(kO 15 (pH P) [14])))
theorem Pu(P:Params):(yR P).map (λq=>(H1 P).get? q.1)=(yR P).map (λq=>some q.2):=by kernel_rfl
noncomputable def yS(P:Params):Frag:=kO 15 (pH P) [21,29,36,43,50,57,64,71,78,85]++(kO 102 (uY P) [5,12,76,83]++(kO 187 (u6 P) [5,10,17,22,29,36]))
theorem Pw(P:Params):(yS P).map (λq=>(H1 P).get? q.1)=(yS P).map (λq=>some q.2):=by kernel_rfl
noncomputable def yT(P:Params):Frag:=kO 187 (u6 P) [43,50,57,64,69,76,81]++(kO 270 (u8 P) [5,12,26]++(kO 316 (rT P) [38,45]++(kO 370 (zj P) [47]++(kO 462 (rU P) [19,26,45,59,66]++(kO 530 (u9 P) [5,12])))))
theorem Px(P:Params):(yT P).map (λq=>(H1 P).get? q.1)=(yT P).map (λq=>some q.2):=by kernel_rfl
noncomputable def yI(P:Params):Frag:=kO 530 (u9 P) [80,87]++(kO 619 (zf P) [5,26,33,40,45,52,59,66]++(kO 692 (rJ P) [12]++(kO 720 (rK P) [12]++(kO 748 (rM P) [12]++(kO 776 (rN P) [12]++(kO 804 (rO P) [12]++(kO 832 (rP P) [12]++(kO 860 (rQ P) [12]++(kO 888 (rR P) [12]++(kO 916 (oa P) [12,34]))))))))))
theorem Pj(P:Params):(yI P).map (λq=>(H1 P).get? q.1)=(yI P).map (λq=>some q.2):=by kernel_rfl
noncomputable def yJ(P:Params):Frag:=kO 916 (oa P) [41,46,53]++(kO 971 (zg P) [5,10,17,24,31]++(kO 1004 (og P) [13,20,27,34]++(kO 1048 (rS P) [12]++(kO 1069 (oh P) [12,19,26,33,40,47,54]))))
theorem Pk(P:Params):(yJ P).map (λq=>(H1 P).get? q.1)=(yJ P).map (λq=>some q.2):=by kernel_rfl
noncomputable def yK(P:Params):Frag:=kO 1069 (oh P) [61,68,75,82,89,96,103,110,117,124,131,138,145,152,159,166,173,180]++(kO 1258 (uZ P) [5,12])
theorem Pl(P:Params):(yK P).map (λq=>(H1 P).get? q.1)=(yK P).map (λq=>some q.2):=by kernel_rfl
noncomputable def yL(P:Params):Frag:=kO 1258 (uZ P) [19,26,33,40,47,52,57,62,69,74]++(kO 1334 (zh P) [5,12])
theorem Pm(P:Params):(yL P).map (λq=>(H1 P).get? q.1)=(yL P).map (λq=>some q.2):=by kernel_rfl
noncomputable def KF(P:Params):Frag:=yG P++(yH P++(yM P++(yN P++(yO P++(yP P++(yQ P++(yR P++(yS P++(yT P++(yI P++(yJ P++(yK P++(yL P)))))))))))))
theorem x9{h:Heap}:∀{K:Frag}{a:Addr}{o:Obj},K.map (λq=>h.get? q.1)=K.map (λq=>some q.2)→K.lookup a=some o→h.get? a=some o
 |[],_,_,_,e=>by cases e
 |q::l,a,o,k,e=>by
  obtain⟨b,c⟩:=q;rw[gM,gM] at k;injection k with k1 k2
  rw[jE] at e;split at e
  ·rename_i z;have z:a=b:=by simpa using z
   subst z;cases e;exact k1
  ·exact x9 k2 e
theorem iw{h:Heap}{K L:Frag}(x:K.map (λq=>h.get? q.1)=K.map (λq=>some q.2))(y:L.map (λq=>h.get? q.1)=L.map (λq=>some q.2)):
  (K++L).map (λq=>h.get? q.1)=(K++L).map (λq=>some q.2):=by rw[eL,eL,x,y]
theorem AI(P:Params):(KF P).map (λq=>(H1 P).get? q.1)=(KF P).map (λq=>some q.2):=iw (Ph P) (iw (Pi P) (iw (Pn P) (iw (Po P) (iw (Pp P) (iw (Pq P) (iw (Ps P) (iw (Pu P) (iw (Pw P) (iw (Px P) (iw (Pj P) (iw (Pk P) (iw (Pl P) (Pm P)))))))))))))
theorem AJ(P:Params):(((KF P).lookup 195).isNone&&((KF P).lookup 965).isNone)=true:=by kernel_rfl
theorem lQ{P:Params}{B h:Heap}(S:∀b o,(H1 P).get? b=some o→B.get? b=some o)(k:∀b o,B.get? b=some o→¬cX b→h.get? b=some o):(KF P).In h:=λa o e=>by
 refine k a o (S a o (x9 (AI P) e)) ?_;have n:=AJ P;rw[gJ,tB,tB] at n;rintro(rfl|rfl)
 ·rw[n.1] at e;cases e
 ·rw[n.2] at e;cases e
end
section
theorem GX(h:Heap)(a:Addr)(f:Obj→Obj):(h.update a f).objs.size=h.objs.size:=(mT (h:=h) (a:=a) (f:=f)).1
theorem GW(h:Heap)(o:Obj):h.objs.size≤(h.push o).objs.size:=by rw[dk];omega
theorem zM{M:Model}{Γ:Ctx}{p:Pos}{t:Sem Fin}{fs:List Frame}{s s':Shared}{e:End}(h:Runs M Γ p t fs s e s'):s.heap.objs.size≤s'.heap.objs.size:=by induction h<;>(try simp only[Shared.setGen,GX,dk] at*)<;>first|omega|(exact aJ (GW _ _) ‹_›)
theorem WK{M:Model}{Γ:Ctx}{p:Pos}{g:Nat}{r:Resume}{s s':Shared}{res:GenResult}(h:Wakes M Γ p g r s res s'):s.heap.objs.size≤s'.heap.objs.size:=by
 unfold Wakes at h;split at h
 ·exact h.elim
 ·split at h
  ·obtain⟨e₁,s₁,hr,_,_,rfl⟩:=h;exact(zM hr:(s.setGen g .running).heap.objs.size≤s₁.heap.objs.size)
  ·rw[h.2];exact bw _
  ·rw[h.2];exact bw _
 ·obtain⟨e₁,s₁,hr,_,_,rfl⟩:=h;exact(zM hr:(s.setGen g .running).heap.objs.size≤s₁.heap.objs.size)
 ·rw[h.2];exact bw _
 ·rw[h.2];exact bw _
theorem WV{α:Type}(M:Model)(Γ:Ctx)(n:Nat)(t:Sem α):∀(Q:α→Pos→Shared→Prop)(E:Value→Pos→Shared→Prop)(p:Pos)(s:Shared),n≤s.heap.objs.size→Sem.wp M Γ t Q E p s→
  Sem.wp M Γ t (λa p' s'=>n≤s'.heap.objs.size∧Q a p' s') (λe p' s'=>n≤s'.heap.objs.size∧E e p' s') p s:=by
 induction t with
 |pure a=>intro Q E p s hn h;exact⟨hn,h⟩
 |raise e=>intro Q E p s hn h;exact⟨hn,h⟩
 |unsupported _=>intro Q E p s _ h;exact h
 |finish _=>intro Q E p s _ h;exact h
 |rule _ k ih=>intro Q E p s hn h;exact ih () Q E p s hn h
 |«at» p' k ih=>intro Q E p s hn h;exact ih () Q E p' s hn h
 |load a _ k ih=>intro Q E p s hn h;obtain⟨o,ho,h⟩:=h;exact⟨o,ho,ih o Q E p s hn h⟩
 |update a _ f k ih=>intro Q E p s hn h;exact⟨h.1,ih () Q E p _ (by show n≤(s.heap.update a _).objs.size;rw[GX];exact hn) h.2⟩
 |loadIfAlive a k ih=>intro Q E p s hn h;exact ih _ Q E p s hn h
 |point _ k ih=>intro Q E p s hn h;exact ih () Q E p s hn h
 |register _ _=>intro Q E p s _ h;exact h
 |alloc o k ih=>intro Q E p s hn h;exact ih _ Q E p _ (aJ hn (GW _ _)) h
 |fresh k ih=>intro Q E p s hn h;exact ih _ Q E p _ hn h
 |ask k ih=>intro Q E p s hn h;exact ih _ Q E p s hn h
 |choose src m k ih=>intro Q E p s hn h;exact⟨h.1,ih _ Q E p _ hn h.2⟩
 |os q _ k ih=>intro Q E p s hn h;exact ih _ Q E p _ hn h
 |call c hd _ _ k ih=>intro Q E p s hn h;obtain⟨r,s',hr,h⟩:=h;exact⟨r,s',hr,ih r Q E p s' (aJ hn (zM hr)) h⟩
 |handled own k ih=>intro Q E p s hn h;exact ih _ Q E p s hn h
 |genState g k ih=>intro Q E p s hn h;obtain⟨st,hs,h⟩:=h;exact⟨st,hs,ih _ Q E p s hn h⟩
 |newGen c k ih=>intro Q E p s hn h;exact ih _ Q E p _ hn h
 |resume g r _ k ih=>intro Q E p s hn h;obtain⟨res,s',hw,h⟩:=h;exact⟨res,s',hw,ih res Q E p s' (aJ hn (WK hw)) h⟩
 |yield _ _ _ _=>intro Q E p s _ h;exact h
 |stack k ih=>intro Q E p s hn h;exact ih _ Q E p s hn h
 |fork _ _=>intro Q E p s _ h;exact h
 |thread k ih=>intro Q E p s hn h;exact ih _ Q E p s hn h
 |await _ _ _ _ _=>intro Q E p s _ h;exact h
section
variable{α:Type}{M:Model}{A:Around}{s:Shared}
theorem gE{t:Sem α}{Q:α→Shared→Prop}{E:Value→Shared→Prop}(h:wpAny M A t (λa s'=>s.heap.objs.size≤s'.heap.objs.size→Q a s') E s):wpAny M A t Q E s:=dZ (λΓ p hΓ=>WV M Γ s.heap.objs.size t _ _ p s (bw _) (h Γ p hΓ):wpAny M A t (λa s'=>s.heap.objs.size≤s'.heap.objs.size∧(s.heap.objs.size≤s'.heap.objs.size→Q a s')) (λe s'=>s.heap.objs.size≤s'.heap.objs.size∧E e s') s)
  (λ_ _ x=>x.2 x.1) λ_ _ x=>x.2
end
end
section
inductive Rs(α:Type) where
 |bad
 |err
 |ok (a:α) (st:St)
inductive Rc where
 |bad
 |err
 |ok (x:RV) (H:List ac)
noncomputable abbrev Fo:=AV→List RV→List ac→Rc
noncomputable abbrev Fm(α:Type):=St→Rs α
noncomputable def Rs.bind{α β:Type}:Rs α→(α→St→Rs β)→Rs β
 |.bad,_=>.bad
 |.err,_=>.err
 |.ok a st,f=>f a st
noncomputable def Rs.noErr{α:Type}:Rs α→Rs α
 |.ok a st=>.ok a st
 |_=>.bad
noncomputable def aI{α:Type}(a:α):Fm α:=λst=>.ok a st
noncomputable def aK{α:Type}(c:Bool)(f:Fm α):Fm α:=λst=>match c with
 |true=>f st
 |false=>.bad
noncomputable def aj{α β:Type}(o:Option α)(f:α→Fm β):Fm β:=λst=>match o with
 |some x=>f x st
 |none=>.bad
structure Rm(n:Nat)(A:Around):Prop where
 depth:A.depth+3*n+30≤990
 units:A.units+20*n+100≤9800
 hand:A.handled=none
structure AR(cx:Cx)(A:Around):Prop where
 rm:Rm cx.n A
 fr:A.frames=some cx.fr
theorem Rm.line{n:Nat}{A:Around}(rm:Rm n A):A.units+20<cLine:=eX (aJ (A0 (eM _ (20*n)) (by decide:20≤100)) rm.units) (by unfold cLine;decide)
inductive s8(B:Heap)(l:List Env)(e:Value)(h:Heap):Prop
 |mk {a:Addr} {base:Heap} {a0:Value}:e=.ref a→(∀b o,B.get? b=some o→¬cX b→base.get? b=some o)→kr base (λ_=>False)→Heap.FlyingW base l a (.ref 325) a0 h→s8 B l e h
inductive lO(B:Heap)(l:List Env)(e:Value)(h:Heap):Prop
 |fly:s8 B l e h→lO B l e h
 |new {a:Addr} {base:Heap} {oe:Obj} {vs:Array Value} {a0:Value}:e=.ref a→(∀b o,B.get? b=some o→¬cX b→base.get? b=some o)→kr base (λ_=>False)→base.StaysIn h→h.FunFrames base l→base.get? a=none→
   h.get? a=some oe→oe.cls=.ref 325→oe.data=.fields vs→vs[1]? =some .none→vs[0]? =some a0→lO B l e h
noncomputable abbrev Sh(s:Shared)(h:Heap)(tk:Tok):Shared:={s with heap:=h,toks:=tk}
section
variable{α β γ δ:Type}
noncomputable def aC(cx:Cx)(sl:List Str)(p:Pt)(s:Shared)(rel:Pt→α→β→Prop)(r:Rs β)(Q:α→Shared→Prop)(E:Value→Shared→Prop):Prop:=Rs.casesOn (motive:=λ_=>Prop) r False (∀e h' tk,lO cx.B cx.fr e h'→E e (Sh s h' tk)) (λx σ'=>∀a h' M' tk,Ok cx sl p ⟨h',M',σ'⟩→rel ⟨h',M',σ'⟩ a x→Q a (Sh s h' tk))
noncomputable def aZ(cx:Cx)(sl:List Str)(p:Pt)(rel:Pt→α→β→Prop)(t:Sem α)(f:Fm β):Prop:=∀A s tk Q E,AR cx A→SR cx sl p→aC cx sl p s rel (f p.σ) Q E→wpAny (model pw cx.w) A t Q E (Sh s p.h tk)
noncomputable def jH(cx:Cx)(sl:List Str)(rel:Pt→α→β→Prop)(t:Sem α)(f:Fm β):Prop:=∀p,aZ cx sl p rel t f
abbrev rV(cx:Cx)(p:Pt)(v:Value)(x:RV):Prop:=p.val cx v x
abbrev rL(cx:Cx)(p:Pt)(v:List Value)(x:List RV):Prop:=p.vals cx v x
abbrev rB(p:Pt)(v:Bool)(x:Bool):Prop:=v=x
abbrev aH(cx:Cx)(sl:List Str)(t:Sem Value)(f:Fm RV):Prop:=jH cx sl (rV cx) t f
abbrev hZ(cx:Cx)(sl:List Str)(t:Sem (List Value))(f:Fm (List RV)):Prop:=jH cx sl (rL cx) t f
abbrev dM(cx:Cx)(sl:List Str)(t:Sem Bool)(f:Fm Bool):Prop:=jH cx sl rB t f
variable{cx:Cx}{sl:List Str}{p q:Pt}{s:Shared}{rel:Pt→α→β→Prop}{rel':Pt→γ→δ→Prop}{Q:γ→Shared→Prop}{Q':α→Shared→Prop}{E:Value→Shared→Prop}{t:Sem α}{f:Fm β}
theorem aC.mv{r:Rs β}(e:c8 cx p q)(z:aC cx sl p s rel r Q' E):aC cx sl q s rel r Q' E:=by
 cases r with
 |bad=>exact z
 |err=>exact z
 |ok x σ=>exactλa h' M' tk o=>z a h' M' tk (o.tr e)
theorem aC.bd{r:Rs β}{k:β→St→Rs δ}(z:aC cx sl p s rel' (r.bind k) Q E)(h:∀a x P tk,Ok cx sl p P→rel P a x→aC cx sl P s rel' (k x P.σ) Q E→Q' a (Sh s P.h tk)):aC cx sl p s rel r Q' E:=by
 cases r with
 |bad=>exact z
 |err=>exact z
 |ok x σ=>exactλa h' M' tk o r=>h a x ⟨h',M',σ⟩ tk o r (aC.mv o.e z)
theorem aZ.bad:aZ cx sl p rel t λ_=>.bad:=λ_ _ _ _ _ _ _ z=>False.elim z
theorem aZ.opt{ε:Type}{o:Option ε}{k:ε→Fm β}(h:∀x,o=some x→aZ cx sl p rel t (k x)):aZ cx sl p rel t (aj o k):=by
 cases o with
 |none=>exact aZ.bad
 |some x=>exact h x rfl
theorem aZ.gd{c:Bool}(h:c=true→aZ cx sl p rel t f):aZ cx sl p rel t (aK c f):=by
 cases c with
 |false=>exact aZ.bad
 |true=>exact h rfl
end
section
variable{cx:Cx}{sl:List Str}{p:Pt}
theorem IsCell.ne_ns{h:Heap}{c a:Addr}{v:Option Value}{m:Str→Option Value}(x:h.IsCell c v)(y:h.Ns a m):c≠a:=λe=>by obtain⟨o,e1,d1⟩:=x;obtain⟨o',es,ep,e2,d2,_⟩:=y;rw[e,e2] at e1;cases e1;rw[d1] at d2;cases d2
theorem Ns.unique{h:Heap}{a:Addr}{m m':Str→Option Value}(x:h.Ns a m)(y:h.Ns a m'):m=m':=by obtain⟨o,es,ep,e1,d1,_,f1⟩:=x;obtain⟨o',es',ep',e2,d2,_,f2⟩:=y;rw[e1] at e2;cases e2;rw[d1] at d2;cases d2;exact funext λz=>(f1 z).symm.trans (f2 z)
theorem fW{a:Addr}{h h':Heap}(x:Heap.SameBut a h h'){b:Addr}{o:Obj}(n:b≠a)(e:h.get? b=some o):h'.get? b=some o:=(x.2 b n).trans e
theorem SR.turned(R:SR cx sl p){a:Addr}{h':Heap}(ta:cx.T0 a)(hs:Heap.SameBut a p.h h'){i:Nat}{n:Str}{v:Value}{x:RV}(hn:ae sl i=some n)(hv:p.val cx v x)(at':iL h' cx.env n v)(old:∀{y u},y≠n→iL p.h cx.env y u→iL h' cx.env y u)(ns:∃m,h'.Ns cx.env.locals m)
  (cells:∀x c,cx.env.cells.lookup x=some c→∃v,h'.IsCell c v)(fl:oW h' a):Ok cx sl p ⟨h',p.M,⟨bp p.σ.loc i (some x),p.σ.H⟩⟩:=have g:=R.toHR.same (X':=cx.X) (D:=λb=>b=a) (λb o n e=>fW hs n e) (λb z=>z▸⟨.inr ta,R.c.offA a (.inl ta),λl=>R.off a l (.inl ta)⟩) (f7 hs.1.symm) λ_=>.inl;have e:c8 cx p ⟨h',p.M,⟨bp p.σ.loc i (some x),p.σ.H⟩⟩:=⟨λ_ _ e=>e,λb o e n=>fW hs (λz=>n (.inl (z▸ta))) e,f7 hs.1.symm,λ_=>.inl,ml⟩
 ⟨e,g.1,R.c,λj z q=>(Nat.decEq i j).casesOn (λc=>(R.vars j z ((uX c).symm.trans q)).of λy u e1 e2 e3=>.mk e1 (old (λd=>c (R.c.sdup i j n hn (d▸e1))) e2) (cG e e3))
   (λc=>by subst c;obtain⟨w,hw⟩:=jm (Nat.lt_of_lt_of_eq (gh hn) R.slen.symm);cases (ze hw).symm.trans q;exact .mk hn at' (cG e hv)),
  ns,(zU ..).trans R.slen,cells,R.off,λe m L q=>(Nat.decEq L a).casesOn (λc=>(R.frs e m L q).elim λo h=>⟨o,fW hs c h.1,h.2⟩) (λc=>c▸fl),R.nx⟩
section
variable{A:Around}{E:Value→Shared→Prop}{s:Shared}{tk:Tok}{M:Model}
theorem qb(K:bq cx)(R:SR cx sl p){i:Nat}{n:Str}{v:Value}{x:RV}{Q:Unit→Shared→Prop}(hn:ae sl i=some n)(hp:hY cx n)(hv:p.val cx v x)
  (h:∀h' tk,Ok cx sl p ⟨h',p.M,⟨bp p.σ.loc i (some x),p.σ.H⟩⟩→Q () (Sh s h' tk)):wpAny M A (storeName cx.env n v) Q E (Sh s p.h tk):=by
 obtain⟨m,hm⟩:=R.ns;rcases hp with hk|⟨hk,c,hc,tc⟩
 ·refine WU hk hm (λh' hn' hsb=>h h' _ ?_) (by rw[K.kind];rfl);refine R.turned R.c.tL hsb hn hv (.loc hk hn' (bF rfl)) (λ{y u} ne r=>?_) ⟨_,hn'⟩ (λy c e=>(R.cells y c e).elim λu hu=>⟨u,hu.sameBut hsb (IsCell.ne_ns hu hm)⟩) ?_
  ·cases r with
   |loc k h1 h2=>exact .loc k hn' ((bQ ne).trans (Ns.unique hm h1▸h2))
   |cell k h1 h2=>exact .cell k h1 (h2.sameBut hsb (IsCell.ne_ns h2 hm))
  ·exact hn'.elim λo y=>⟨o,y.elim λes y=>y.elim λep y=>⟨y.1,λvs q=>by rw[y.2.1] at q;cases q⟩⟩
 ·obtain⟨v0,hv0⟩:=R.cells n c hc;refine wpAny_storeName_cell K.kind hk hc hv0 λh' hv' hsb=>h h' _ ?_;refine R.turned tc hsb hn hv (.cell (.inl hk) hc hv') (λ{y u} ne r=>?_) ⟨m,hm.sameBut hsb λz=>IsCell.ne_ns hv0 hm z.symm⟩ (λy c' e=>(Nat.decEq c' c).casesOn (λq=>(R.cells y c' e).elim λu hu=>⟨u,hu.sameBut hsb q⟩) λq=>⟨_,q▸hv'⟩) ?_
  ·cases r with
   |loc k h1 h2=>exact .loc k (h1.sameBut hsb λz=>IsCell.ne_ns hv0 h1 z.symm) h2
   |cell k h1 h2=>exact .cell k h1 (h2.sameBut hsb λz=>ne (R.c.apartC _ _ _ h1 (z▸hc)))
  ·exact hv'.elim λo y=>⟨o,y.1,λvs q=>by rw[y.2] at q;cases q⟩
theorem WA(K:bq cx)(R:SR cx sl p){i:Nat}{n:Str}{x:RV}{Q:Value→Shared→Prop}(hn:ae sl i=some n)(hx:ae p.σ.loc i=some (some x))(h:∀v,p.val cx v x→Q v (Sh s p.h tk)):wpAny M A (loadName cx.env n) Q E (Sh s p.h tk):=(R.vars i x hx).of λn' v e1 e2 e3=>by
  cases hn.symm.trans e1;cases e2 with
  |loc k h1 h2=>exact vY K.kind k h1 h2 (h v e3)
  |cell k h1 h2=>exact k.elim (λk=>wpAny_loadName_cell K.kind k h1 h2 (h v e3)) λk=>wpAny_loadName_free K.kind k.1 h1 h2 (h v e3) k.2
end
end
theorem nS{α:Type}{x:α}{G:Prop}(h:(none:Option α)=some x):G:=nomatch h
theorem nB{G:Prop}(h:false=true):G:=nomatch h
noncomputable def su(v:Value):Option AV:=match v with
 |.int i _=>some (.int i)
 |.str s _=>some (.str s.cps.toList)
 |.none=>some .none
 |.bool b=>some (.bool b)
 |_=>none
noncomputable def lG:List Value→Option (List AV)
 |[]=>some []
 |v::l=>(su v).bind λx=>(lG l).bind λr=>some (x::r)
theorem FX{P:Params}{h:Heap}{X:Addr→Prop}{v:Value}{x:AV}(e:su v=some x):VR P h X v x:=by cases v<;>first|exact nS e|(rw[←ak e];first|exact .int _ _|exact .str _ _|exact rfl)
theorem zQ{P:Params}{h:Heap}{X:Addr→Prop}:∀{vs:List Value}{l:List AV},lG vs=some l→bj P h X vs l
 |[],_,e=>ak e▸.nil
 |v::vs,_,e=>aL (o:=su v) e λx e1 e=>aL (o:=lG vs) e λr e2 e=>ak e▸.cons (FX e1) (zQ e2)
noncomputable def fQ(K:Frag)(x:Str):Option Value:=(nsIn K mainGlobals x).bind λr=>Option.casesOn r ((nsIn K builtinsNs x).bind id) some
section
variable{cx:Cx}{sl:List Str}{p:Pt}{A:Around}{s:Shared}{E:Value→Shared→Prop}{Q:Value→Shared→Prop}{M:Model}
theorem q8(K:bq cx)(X:(KF cx.w.params).In s.heap){x:Str}{v:Value}(e:fQ (KF cx.w.params) x=some v)(h:Q v s):wpAny M A (loadGlobal cx.env x) Q E s:=by
 unfold loadGlobal;rw[K.glob,K.bltn];refine aL e λr q e=>ah ((looks_nsIn X q).here ?_);clear q;cases r with
 |some u=>exact aQ (ak e▸h)
 |none=>exact aL e λr q' e=>ah ((looks_nsIn X q').here (by rw[show r=some v from e];exact aQ h))
theorem Iw(P:Params):((KF P).lookup 1).isNone=true:=by kernel_rfl
theorem SR.K(K:bq cx)(R:SR cx sl p):(KF cx.w.params).In p.h:=lQ K.says R.toHR.base
theorem SR.notX(R:SR cx sl p)(K:bq cx)(a:Addr)(o:Obj)(e:(KF cx.w.params).lookup a=some o):¬p.av cx a:=by
 refine R.toHR.away (K.says a o (x9 (AI _) e)) ?_;have nt:=AJ cx.w.params;rw[gJ,tB,tB] at nt;rintro((rfl|rfl)|rfl)
 ·rw[nt.1] at e;cases e
 ·rw[nt.2] at e;cases e
 ·have:=Iw cx.w.params;rw[tB] at this;rw[show sysModules=1 from rfl,this] at e;cases e
end
end
section
noncomputable def eO(a:AV):Option Int:=match a with
 |.int i=>some i
 |_=>none
noncomputable def xa(a:AV):Option Bool:=match a with
 |.bool i=>some i
 |_=>none
noncomputable def kE(a:AV):Option (List Nat):=match a with
 |.str i=>some i
 |_=>none
noncomputable def eP(a:AV):Option (List AV):=match a with
 |.tup i=>some i
 |_=>none
noncomputable def fx(a:AV):Option (List AV):=match a with
 |.lst i=>some i
 |_=>none
noncomputable def nf(a:AV):Option (List (AV×AV)):=match a with
 |.dct i=>some i
 |_=>none
noncomputable def lZ(a:AV):Option Unit:=match a with
 |.none=>some ()
 |_=>none
noncomputable def xb(a:AV):Option (Addr×List (Nat×AV)):=match a with
 |.inst c l=>some (c,l)
 |_=>none
theorem fe{a:AV}{i:Int}(e:eO a=some i):a=.int i:=by cases a<;>first|exact nS e|exact congrArg AV.int (ak e)
theorem tI{a:AV}{i:Bool}(e:xa a=some i):a=.bool i:=by cases a<;>first|exact nS e|exact congrArg AV.bool (ak e)
theorem kG{a:AV}{i:List Nat}(e:kE a=some i):a=.str i:=by cases a<;>first|exact nS e|exact congrArg AV.str (ak e)
theorem iO{a:AV}{i:List AV}(e:eP a=some i):a=.tup i:=by cases a<;>first|exact nS e|exact congrArg AV.tup (ak e)
theorem iN{a:AV}{i:List AV}(e:fx a=some i):a=.lst i:=by cases a<;>first|exact nS e|exact congrArg AV.lst (ak e)
theorem qy{a:AV}{i:List (AV×AV)}(e:nf a=some i):a=.dct i:=by cases a<;>first|exact nS e|exact congrArg AV.dct (ak e)
theorem qz{a:AV}{i:Unit}(e:lZ a=some i):a=.none:=by cases a<;>first|exact nS e|rfl
theorem BM{a:AV}{i:Addr×List (Nat×AV)}(e:xb a=some i):a=.inst i.1 i.2:=by cases a<;>first|exact nS e|(rw[←ak e])
theorem cz{α β:Type}{o:Option α}{f:α→β}{y:β}{G:Prop}(h:o.map f=some y)(k:∀x,o=some x→f x=y→G):G:=by
 cases o with
 |none=>exact nS h
 |some x=>exact k x rfl (ak h)
noncomputable def sm(a:RV):Option AV:=match a with
 |.v x=>some x
 |.loc _=>none
theorem j8{a:RV}{x:AV}(e:sm a=some x):a=.v x:=by cases a<;>first|exact nS e|exact congrArg RV.v (ak e)
noncomputable def lC(a:RV):Option Nat:=match a with
 |.v _=>none
 |.loc i=>some i
theorem Te{a:RV}{x:Nat}(e:lC a=some x):a=.loc x:=by cases a<;>first|exact nS e|exact congrArg RV.loc (ak e)
noncomputable def one{α:Type}(l:List α):Option α:=match l with
 |[x]=>some x
 |_=>none
theorem Rt{α:Type}{l:List α}{x:α}(e:one l=some x):l=[x]:=by rcases l with _|⟨y,_|⟨z,l⟩⟩<;>first|exact nS e|exact congrArg (·::[]) (ak e)
noncomputable def Q7(o:ac):Option (List RV):=match o with
 |.lst l=>some l
 |_=>none
noncomputable def Q5(o:ac):Option (List (AV×RV)):=match o with
 |.dct l=>some l
 |_=>none
noncomputable def Q6(o:ac):Option (Addr×List (Nat×RV)):=match o with
 |.inst c l=>some (c,l)
 |_=>none
theorem VR.cast{P:Params}{h:Heap}{X:Addr→Prop}{v:Value}{x y:AV}(q:x=y)(r:VR P h X v x):VR P h X v y:=q▸r
noncomputable def fE(H:List ac)(i:Nat):Option (List RV):=(ae H i).bind Q7
noncomputable def oj(H:List ac)(i:Nat):Option (List (AV×RV)):=(ae H i).bind Q5
noncomputable def r6(H:List ac)(i:Nat):Option (Addr×List (Nat×RV)):=(ae H i).bind Q6
theorem E8{H:List ac}{i:Nat}{l:List RV}(e:fE H i=some l):ae H i=some (.lst l):=aL e λo e1 e=>e1.trans (by cases o<;>first|exact nS e|exact congrArg (λl=>some (ac.lst l)) (ak e))
theorem E6{H:List ac}{i:Nat}{l:List (AV×RV)}(e:oj H i=some l):ae H i=some (.dct l):=aL e λo e1 e=>e1.trans (by cases o<;>first|exact nS e|exact congrArg (λl=>some (ac.dct l)) (ak e))
theorem E7{H:List ac}{i:Nat}{l:Addr×List (Nat×RV)}(e:r6 H i=some l):ae H i=some (.inst l.1 l.2):=aL e λo e1 e=>e1.trans (by cases o<;>first|exact nS e|exact congrArg (λl:Addr×List (Nat×RV)=>some (ac.inst l.1 l.2)) (ak e))
noncomputable def gW(a:RV)(H:List ac):Option (List RV):=match a with
 |.v x=>(fx x).map (·.map .v)
 |.loc i=>fE H i
noncomputable def oA(a:RV)(H:List ac):Option (List RV):=match a with
 |.v x=>(eP x).casesOn ((fx x).map (·.map .v)) λl=>some (l.map .v)
 |.loc i=>fE H i
noncomputable def pc(a:RV)(H:List ac):Option (List (AV×RV)):=match a with
 |.v x=>(nf x).map vd
 |.loc i=>oj H i
noncomputable def nV(a:RV)(H:List ac):Option (Addr×List (Nat×RV)):=match a with
 |.v x=>(xb x).map λq=>(q.1,vd q.2)
 |.loc i=>r6 H i
noncomputable def iS(a:RV)(H:List ac):Option AV:=match a with
 |.v x=>some x
 |.loc i=>(fE H i).bind λl=>(bY l).map .lst
section
variable{cx:Cx}{sl:List Str}{p:Pt}{C:Value→Prop}{v:Value}{a:RV}
@[elab_as_elim] theorem SR.onOwnL(R:SR cx sl p){i:Nat}{l:List RV}(hv:p.val cx v (.loc i))(e:fE p.σ.H i=some l)(k:∀b vs n,ae p.M i=some (b,b)→ae p.σ.H i=some (.lst l)→p.h.get? b=some (cL vs n)→p.vals cx vs l→C (.ref b)):C v:=RR.onLoc hv λq hm=> @d8.on _ _ q (λq=>ae p.M i=some q→C (.ref q.1)) _ _ (R.toHR.own i q _ hm (E8 e)) (λb vs n e1 r hm=>k b vs n hm (E8 e) e1 r) hm
@[elab_as_elim] theorem SR.onOwnD(R:SR cx sl p){i:Nat}{l:List (AV×RV)}(hv:p.val cx v (.loc i))(e:oj p.σ.H i=some l)(k:∀b es n,ae p.M i=some (b,b)→ae p.σ.H i=some (.dct l)→p.h.get? b=some (dictOf es n)→cC cx.w.params p.h (p.av cx) p.M es l→C (.ref b)):C v:=RR.onLoc hv λq hm=> @d8.on _ _ q (λq=>ae p.M i=some q→C (.ref q.1)) _ _ (R.toHR.own i q _ hm (E6 e)) (λb vs n e1 r hm=>k b vs n hm (E6 e) e1 r) hm
@[elab_as_elim] theorem SR.onOwnI(R:SR cx sl p){i:Nat}{c:Addr×List (Nat×RV)}(hv:p.val cx v (.loc i))(e:r6 p.σ.H i=some c)(k:∀b d es n,ae p.M i=some (b,d)→ae p.σ.H i=some (.inst c.1 c.2)→p.h.get? b=some (fR c.1 d)→p.h.get? d=some (dictOf es n)→b≠d→eE cx.w.params p.h (p.av cx) p.M es c.2→C (.ref b)):C v:=RR.onLoc hv λq hm=> @hU.on _ q (λq=>ae p.M i=some q→C (.ref q.1)) _ _ (R.toHR.own i q _ hm (E7 e)) (λb d es n e1 e2 ne r hm=>k b d es n hm (E7 e) e1 e2 ne r) hm
@[elab_as_elim] theorem SR.onList(R:SR cx sl p){l:List RV}(hv:p.val cx v a)(e:gW a p.σ.H=some l)(k:∀b vs n,p.h.get? b=some (cL vs n)→p.vals cx vs l→C (.ref b)):C v:=by
 cases a with
 |v x=>exact cz e λr e1 e=>VR.onLst (VR.cast (iN e1) hv) λb vs n e2 _ r=>k b vs n e2 (show p.vals cx vs l from e▸r.rrs)
 |loc i=>exact R.onOwnL hv e λb vs n _ _ e1 r=>k b vs n e1 r
@[elab_as_elim] theorem SR.onSeq(R:SR cx sl p){l:List RV}(hv:p.val cx v a)(e:oA a p.σ.H=some l)(k:∀b vs n,(p.h.get? b=some (cL vs n)∨p.h.get? b=some (eg vs n))→p.vals cx vs l→C (.ref b)):C v:=by
 cases a with
 |v x=>
  cases q:eP x with
  |some t=>exact VR.onTup (VR.cast (iO q) hv) λb vs n e2 _ r=>k b vs n (.inr e2) (by have e:(eP x).casesOn _ _=some l:=e;rw[q] at e;rw[←ak e];exact r.rrs)
  |none=>exact cz (by have e:(eP x).casesOn _ _=some l:=e;rw[q] at e;exact e) λr e1 e=>VR.onLst (VR.cast (iN e1) hv) λb vs n e2 _ r=>k b vs n (.inl e2) (by rw[←e];exact r.rrs)
 |loc i=>exact R.onOwnL hv e λb vs n _ _ e1 r=>k b vs n (.inl e1) r
@[elab_as_elim] theorem SR.onDict(R:SR cx sl p){l:List (AV×RV)}(hv:p.val cx v a)(e:pc a p.σ.H=some l)(k:∀b es n,p.h.get? b=some (dictOf es n)→cC cx.w.params p.h (p.av cx) p.M es l→(¬p.av cx b∨bn p.M p.σ.H b)→C (.ref b)):C v:=by
 cases a with
 |v x=>exact cz e λr e1 e=>VR.onDct (VR.cast (qy e1) hv) λb vs n e2 x r=>k b vs n e2 (show cC cx.w.params p.h (p.av cx) p.M vs l from e▸r.rrd) (.inl x)
 |loc i=>exact R.onOwnD hv e λb vs n m ho e1 r=>k b vs n e1 r (.inr ⟨i,.mk m ho trivial (.inl rfl)⟩)
@[elab_as_elim] theorem SR.onInst(R:SR cx sl p){q:Addr×List (Nat×RV)}(hv:p.val cx v a)(e:nV a p.σ.H=some q)(k:∀b d es n,p.h.get? b=some (fR q.1 d)→p.h.get? d=some (dictOf es n)→eE cx.w.params p.h (p.av cx) p.M es q.2→C (.ref b)):C v:=by
 cases a with
 |v x=>exact cz e λr e1 e=>VR.onInst (VR.cast (BM e1) hv) λb d vs n e2 e3 _ _ r=>by subst e;exact k b d vs n e2 e3 r.rrf
 |loc i=>exact R.onOwnI hv e λb d vs n _ _ e1 e2 _ r=>k b d vs n e1 e2 r
theorem Up.noX{h:Heap}{X:Addr→Prop}:Up h X h cA:=⟨λ_ _ e _=>e,λ_ _ _ _ z=>z⟩
theorem SR.frozen(R:SR cx sl p){x:AV}(hv:p.val cx v a)(e:iS a p.σ.H=some x):VR cx.w.params p.h cA v x:=by
 cases a with
 |v y=>exact ak e▸VR.up Up.noX hv
 |loc i=>exact aL e λl e1 e=>cz e λr e2 e=>R.onOwnL hv e1 λb vs n _ _ e3 q=>e▸.lst e3 id (bj.up Up.noX (pU (qt e2▸q)))
end
noncomputable def fh{α:Type}(f:α→AV→Option Bool):List α→List AV→Option Bool
 |[],[]=>some true
 |[],_::_=>some false
 |_::_,[]=>some false
 |a::l,b::r=>(f a b).bind λx=>(fh f l r).bind λy=>some (x&&y)
noncomputable def nH{α:Type}(f:α→AV→Option Bool)(l:List α)(r:List AV):Option Bool:=cond (Nat.beq l.length r.length) (fh f l r) (some false)
noncomputable def cb:Nat→AV→AV→Option Bool
 |0,_,_=>none
 |n+1,a,b=>match b with
  |.none=>(lZ a).map λ_=>true
  |.bool y=>(xa a).map (·==y)
  |.int y=>(eO a).map λx=>decide (x=y)
  |.str y=>(kE a).map λx=>decide (x=y)
  |.tup r=>(eP a).bind λl=>fh (cb n) l r
  |.lst r=>(fx a).bind λl=>nH (cb n) l r
  |_=>none
noncomputable def Ah(o:Obj):Option (List Value):=match o.data with
 |.seq vs _=>some vs.toList
 |_=>none
noncomputable def mL(v:Value):Option Addr:=match v with
 |.ref a=>some a
 |_=>none
noncomputable def oG(h:Heap)(v:Value):Option (List Value):=(mL v).bind λa=>(h.get? a).bind Ah
theorem vV{h:Heap}{a:Addr}{o:Obj}{vs:List Value}(e:h.get? a=some o)(q:Ah o=some vs):oG h (.ref a)=some vs:=by show(h.get? a).bind Ah=_;rw[e];exact q
noncomputable def HE(a:Value):Option Int:=match a with
 |.int i _=>some i
 |_=>none
noncomputable def VM(a:Value):Option Bool:=match a with
 |.bool i=>some i
 |_=>none
noncomputable def HF(a:Value):Option (List Nat):=match a with
 |.str i _=>some i.cps.toList
 |_=>none
noncomputable def ec(h:Heap):Nat→Value→AV→Option Bool
 |0,_,_=>none
 |n+1,a,b=>match b with
  |.none=>some true
  |.bool y=>(VM a).map (·==y)
  |.int y=>(HE a).map λx=>decide (x=y)
  |.str y=>(HF a).map λx=>decide (x=y)
  |.tup r=>(oG h a).bind λl=>fh (ec h n) l r
  |.lst r=>(oG h a).bind λl=>nH (ec h n) l r
  |_=>none
section
variable{P:Params}{h:Heap}{X X':Addr→Prop}
theorem CH{α β:Type}{R:β→α→Prop}{f:α→AV→Option Bool}{g:β→AV→Option Bool}(k:∀v a x r,R v a→f a x=some r→g v x=some r){vs:List β}{l:List α}(z:Z2 R vs l):∀{r:List AV}{t:Bool},fh f l r=some t→fh g vs r=some t:=Z2.rec' (C:=λvs l=>∀{r:List AV}{t:Bool},fh f l r=some t→fh g vs r=some t) (λ{r t} e=>by cases r<;>exact e) (λ{v x vs l} a _ ih{r t} e=>by
  cases r with
  |nil=>exact e
  |cons c r=>exact aL (o:=f x c) e λy e1 e=>aL (o:=fh f l r) e λz e2 e=>by show(g v c).bind _=_;rw[k _ _ _ _ a e1,←e];show(fh g vs r).bind _=_;rw[ih e2];rfl) z
theorem K7{α β:Type}{R:β→α→Prop}{f:α→AV→Option Bool}{g:β→AV→Option Bool}(k:∀v a x r,R v a→f a x=some r→g v x=some r){vs:List β}{l:List α}(z:Z2 R vs l){r:List AV}{t:Bool}(e:nH f l r=some t):nH g vs r=some t:=by
 unfold nH at e⊢;rw[z.length];revert e;cases Nat.beq l.length r.length
 ·exact id
 ·exact CH k z
theorem bj.z2{vs:List Value}{l:List AV}(r:bj P h X vs l):Z2 (λv a=>VR P h X v a) vs l:=l.rec (motive:=λl=>∀{vs},bj P h X vs l→Z2 (λv a=>VR P h X v a) vs l) (λr=>r) (λx l ih{_} r=>bA.up (λa=>a) ih r) r
theorem qN:∀(n:Nat){v:Value}{a b:AV}{r:Bool},VR P h X v a→cb n a b=some r→ec h n v b=some r
 |0,_,_,_,_,_,e=>nS e
 |n+1,v,a,b,r,x,e=>by
  cases b<;>first|exact nS e|skip
  ·exact cz e λ_ _ e=>congrArg some e
  ·exact cz e λy e1 e=>(by rw[show v=.bool y from VR.cast (tI e1) x];exact congrArg some e)
  ·exact cz e λy e1 e=>VR.onInt (C:=λv=>ec h (n+1) v _=some r) (VR.cast (fe e1) x) λt=>congrArg some e
  ·exact cz e λy e1 e=>VR.onStr (C:=λv=>ec h (n+1) v _=some r) (VR.cast (kG e1) x) λs t q=>congrArg some (by rw[q];exact e)
  ·exact aL e λy e1 e=>VR.onTup (C:=λv=>ec h (n+1) v _=some r) (VR.cast (iO e1) x) λa vs k e2 _ r=>by show(oG h _).bind _=_;rw[vV e2 rfl];exact CH (f:=cb n) (g:=ec h n) (λ_ _ _ _=>qN n) r.z2 e
  ·exact aL e λy e1 e=>VR.onLst (C:=λv=>ec h (n+1) v _=some r) (VR.cast (iN e1) x) λa vs k e2 _ r=>by show(oG h _).bind _=_;rw[vV e2 rfl];exact K7 (f:=cb n) (g:=ec h n) (λ_ _ _ _=>qN n) r.z2 e
theorem CG{f:Value→AV→Option Bool}(k:∀{v a r},VR P h X v a→f v a=some r→r=true){vs:List Value}{l:List AV}(z:Z2 (λv a=>VR P h X v a) vs l):∀{t:Bool},fh f vs l=some t→t=true:=Z2.rec' (C:=λvs l=>∀{t:Bool},fh f vs l=some t→t=true) (λ{t} e=>(ak e).symm) (λ{v x vs l} a _ ih{t} e=>aL (o:=f v x) e λy e1 e=>aL (o:=fh f vs l) e λz e2 e=>by rw[←ak e,k a e1,ih e2];rfl) z
theorem tZ:∀(n:Nat){v:Value}{b:AV}{r:Bool},VR P h X v b→ec h n v b=some r→r=true
 |0,_,_,_,_,e=>nS e
 |n+1,v,b,r,x,e=>by
  cases b<;>first|exact nS e|skip
  ·exact(ak e).symm
  ·exact cz e λy e1 e=>e▸(by rw[show v=.bool _ from x] at e1;rw[←ak e1];exact eQ _)
  ·exact cz e λy e1 e=>e▸VR.onInt (C:=λv=>HE v=some y→decide (y=_)=true) x (λt q=>cD (ak q).symm) e1
  ·exact cz e λy e1 e=>e▸VR.onStr (C:=λv=>HF v=some y→decide (y=_)=true) x (λs t p q=>cD ((ak q).symm.trans p)) e1
  ·exact aL e λl e1 e=>VR.onTup (C:=λv=>oG h v=some l→r=true) x (λa vs k e2 _ z q=>by cases ak ((vV e2 rfl).symm.trans q);exact CG (tZ n) z.z2 e) e1
  ·exact aL e λl e1 e=>VR.onLst (C:=λv=>oG h v=some l→r=true) x (λa vs k e2 _ z q=>by cases ak ((vV e2 rfl).symm.trans q);unfold nH at e;rw[show Nat.beq vs.length _=true from by rw[z.length];exact A3 _] at e;exact CG (tZ n) z.z2 e) e1
theorem xK{α:Type}{d:α}{f:α→AV→Option Bool}:∀{l:List α}{r:List AV}{t:Bool},fh f l r=some t→
  (∀j(h1:j<l.length)(h2:j<r.length),f l[j] r[j]=some ((f (l[j]?.getD d) (r[j]?.getD .none)).getD false))∧
  t=((List.range (min l.length r.length)).all (λj=>((f (l[j]?.getD d) (r[j]?.getD .none)).getD false))&&l.length==r.length)
 |[],[],t,e=>⟨λj h=>(nomatch h),(ak e).symm⟩
 |[],_::_,t,e=>⟨λj h=>(nomatch h),by rw[←ak e];rfl⟩
 |_::_,[],t,e=>⟨λj _ h=>(nomatch h),by rw[←ak e];rfl⟩
 |a::l,b::r,t,e=>aL (o:=f a b) e λx e1 e=>aL (o:=fh f l r) e λy e2 e=>by
  have ih:=xK (d:=d) e2;refine⟨λj q1 q2=>?_,?_⟩
  ·cases j with
   |zero=>show f a b=some ((f a b).getD false);rw[e1];rfl
   |succ j=>exact ih.1 j (ko q1) (ko q2)
  ·rw[←ak e,ih.2,bV,bV,Nat.succ_min_succ,List.range_succ_eq_map,AL,AM];show _=((f a b).getD false&&_&&_);rw[e1,Bool.and_assoc];refine congrArg (x&&·) (congrArg (λq=>_&&q) ?_);rw[qj,o7,o7,Nat.succ_inj]
end
end
section
open PySem.SeqAt
section
variable{P:Params}{X X':Addr→Prop}{s:Shared}
theorem dw{h:Heap}{a:Addr}{vs:List Value}{n:Nat}(e:h.get? a=some (cL vs n)):h.IsList a vs.toArray:=⟨_,e,rfl,n,rfl⟩
theorem jW{h:Heap}{a:Addr}{vs:List Value}{n:Nat}(e:h.get? a=some (eg vs n)):h.IsTuple a vs.toArray:=⟨_,e,rfl,n,rfl⟩
structure gK(A:Around)(s:Shared)(v u:Value)(r:Bool):Prop where
 eq:EqAt A s v u r
 rc:RcAt A s v u r
 ne:RcNeAt A s v u (!r)
theorem gK.refs{A:Around}{l q:Addr}{r:Bool}(same:l=q→r=true)(rc:RcAt A s (.ref l) (.ref q) r)(ne:RcNeAt A s (.ref l) (.ref q) (!r)):gK A s (.ref l) (.ref q) r:=⟨(Nat.decEq l q).casesOn (λc=>EqAt.of_refs c rc) λc=>by subst c;rw[same rfl];exact EqAt.same _,rc,ne⟩
theorem CJ{n:Nat}{A:Around}(ih:∀{v u:Value}{a b:AV}{r:Bool},VR P s.heap X v a→VR P s.heap X' u b→cb n a b=some r→EqAt A s v u r){vs us:List Value}{l r:List AV}(x:bj P s.heap X vs l)(y:bj P s.heap X' us r){t:Bool}(e:fh (cb n) l r=some t):
  ∃f:Nat→Bool,(∀j(h1:j<vs.toArray.size)(h2:j<us.toArray.size),EqAt A s vs.toArray[j] us.toArray[j] (f j))∧t=((List.range (min vs.toArray.size us.toArray.size)).all f&&vs.toArray.size==us.toArray.size):=by
 have lx:=x.z2;have ly:=y.z2;refine⟨λj=>(cb n (l[j]?.getD .none) (r[j]?.getD .none)).getD false,λj h1 h2=>?_,?_⟩
 ·exact ih (lx.at j h1 (lx.length▸h1)) (ly.at j h2 (ly.length▸h2)) ((xK (d:=AV.none) e).1 j (lx.length▸h1) (ly.length▸h2))
 ·rw[bM,bM,lx.length,ly.length];exact(xK e).2
theorem pg:∀(n:Nat){A:Around}{v u:Value}{a b:AV}{r:Bool},VR P s.heap X v a→VR P s.heap X' u b→cb n a b=some r→A.units+n<cLine→gK A s v u r
 |0,_,_,_,_,_,_,_,_,e,_=>nS e
 |n+1,A,v,u,a,b,r,x,y,e,hu=>by
  have hu':A.in1.units+n<cLine:=eX (f7 (by show A.units+1+n=A.units+(n+1);rw[AY,AZ 1])) hu;have h0:A.units<cLine:=eX (eM _ _) hu;have dc:=qN (n+1) x e;cases b<;>first|exact nS e|skip
  ·refine cz e λ_ e1 e=>?_;rw[show v=.none from VR.cast (qz e1) x,show u=.none from y,←e];exact⟨EqAt.same _,RcAt.none_none,RcNeAt.none_none⟩
  ·refine cz e λ_ e1 e=>?_;rw[show v=.bool _ from VR.cast (tI e1) x,show u=.bool _ from y,←e];exact⟨EqAt.bool_bool _ _,RcAt.bool_bool _ _,RcNeAt.bool_bool _ _⟩
  ·refine cz e λi e1 e=>VR.onInt (C:=λv=>gK A s v u r) (VR.cast (fe e1) x) λt=>VR.onInt (C:=λu=>gK A s _ u r) y λt'=>?_;rw[←e];exact⟨EqAt.int_int _ _ _ _,RcAt.int_int _ _ _ _,RcNeAt.int_int _ _ _ _⟩
  ·refine cz e λi e1 e=>VR.onStr (C:=λv=>gK A s v u r) (VR.cast (kG e1) x) λc t q=>VR.onStr (C:=λu=>gK A s _ u r) y λd t' q'=>?_;have:(c==d)=r:=by rw[←e,←q,←q',←str_beq,qj,o7,Cq]
   rw[←this];exact⟨EqAt.str_str _ _ _ _,RcAt.str_str _ _ _ _,RcNeAt.str_str _ _ _ _⟩
  ·refine aL e λl e1 e=>VR.onTup (C:=λv=>ec s.heap (n+1) v _=some r→gK A s v u r) (VR.cast (iO e1) x) (λp vs k a1 _ z1 dc=>VR.onTup (C:=λu=>(∀v,v=u→VR P s.heap X' v _)→gK A s _ u r) y (λq us j a2 _ z2 dy=>?_) λv c=>c▸y) dc;obtain⟨f,h1,h2⟩:=CJ (A:=A.in1) (λx y e=>(pg n x y e hu').eq) z1 z2 e;refine gK.refs (λc=>tZ (n+1) (dy _ (c▸rfl)) dc) ?_ ?_<;>rw[h2]
   ·exact RcAt.tuples (jW a1) (jW a2) h0 h1
   ·exact RcNeAt.tuples (jW a1) (jW a2) h0 h1
  ·refine aL e λl e1 e=>VR.onLst (C:=λv=>ec s.heap (n+1) v _=some r→gK A s v u r) (VR.cast (iN e1) x) (λp vs k a1 _ z1 dc=>VR.onLst (C:=λu=>(∀v,v=u→VR P s.heap X' v _)→gK A s _ u r) y (λq us j a2 _ z2 dy=>?_) λv c=>c▸y) dc;refine gK.refs (λc=>tZ (n+1) (dy _ (c▸rfl)) dc) ?_ ?_;all_goals
    unfold nH at e;cases c:Nat.beq l.length _ with
    |true=>
     rw[c] at e;obtain⟨f,h1,h2⟩:=CJ (A:=A.in1) (λx y e=>(pg n x y e hu').eq) z1 z2 e;have sz:vs.toArray.size=us.toArray.size:=by rw[bM,bM,z1.length,z2.length];exact em c
     rw[h2,sz,Nat.min_self,eQ,wa,←sz]
     first|exact RcAt.lists (dw a1) (dw a2) sz h0 h1|exact RcNeAt.lists (dw a1) (dw a2) sz h0 h1
    |false=>
     rw[c] at e;rw[←ak e];have sz:(vs.toArray.size !=us.toArray.size)=true:=by rw[bM,bM,z1.length,z2.length];exact bne_iff_ne.mpr λd=>by rw[d,A3] at c;cases c
     first|exact RcAt.lists_lengths (dw a1) (dw a2) sz h0|exact RcNeAt.lists_lengths (dw a1) (dw a2) sz h0
noncomputable def iq(x:AV):List AV→Option Bool
 |[]=>some false
 |y::l=>(cb 8 y x).bind λa=>(iq x l).bind λb=>some (a||b)
theorem I0{x y:AV}{l:List AV}:iq x (y::l)=(cb 8 y x).bind λa=>(iq x l).bind λb=>some (a||b):=rfl
theorem wU{A:Around}{u:Value}{x:AV}(hx:VR P s.heap X' u x)(hu:A.units+8<cLine){vs:List Value}{l:List AV}(z:Z2 (λv a=>VR P s.heap X v a) vs l):∀{r:Bool},iq x l=some r→
  (∀y,y∈vs→EqAt A s y u ((ec s.heap 8 y x).getD false))∧vs.any (λy=>(ec s.heap 8 y x).getD false)=r:=Z2.rec' (C:=λvs l=>∀{r:Bool},iq x l=some r→(∀y,y∈vs→EqAt A s y u ((ec s.heap 8 y x).getD false))∧vs.any (λy=>(ec s.heap 8 y x).getD false)=r) (λ{r} e=>⟨λy m=>(nomatch m),ak e⟩)
  (λ{v a vs l} h _ ih{r} e=>aL (o:=cb 8 a x) e λb e1 e=>aL (o:=iq x l) e λc e2 e=>by
   have d:(ec s.heap 8 v x).getD false=b:=by rw[qN 8 h e1];rfl
   refine⟨λy m=>(List.mem_cons.mp m).elim (λq=>by rw[q,d];exact(pg 8 h hx e1 hu).eq) ((ih e2).1 y),?_⟩;rw[wn,d,(ih e2).2];exact ak e) z
end
noncomputable def fU:AV→AV→Bool
 |.str a,.str b=>decide (a=b)
 |.int a,.int b=>decide (a=b)
 |_,_=>false
noncomputable def fA{α:Type}(k:AV):List (AV×α)→Option α
 |[]=>none
 |q::l=>match fU q.1 k with
  |true=>some q.2
  |false=>fA k l
noncomputable def jU(str:Bool)(a:AV):Bool:=match a with
 |.str _=>str
 |.int _=> !str
 |_=>false
noncomputable def cS(str:Bool){α:Type}:List (AV×α)→Bool
 |[]=>true
 |q::l=>cond (jU str q.1) (cS str l) false
theorem xz{a b:Bool}{G:Prop}(h:cond a b false=true)(k:a=true→b=true→G):G:=by
 cases a
 ·exact nB h
 ·exact k rfl h
structure DK(w:World)(K:Type)[DecidableEq K](str:Bool) where
 knd:KeyKind pw w K
 av:K→AV
 inj:∀{k j},av k=av j→k=j
 key:∀{e x},hG w.params e x→jU str x=true→∃k,x=av k∧knd.is k e.key=true∧e.hash=knd.hash k
 back:∀{e k},knd.is k e.key=true→e.hash=knd.hash k→hG w.params e (av k)
 eq:∀{e x k},hG w.params e x→knd.is k e.key=fU x (av k)
theorem hG.on{P:Params}{e:DictEntry}{x:AV}{C:AV→DictEntry→Prop}(r:hG P e x)(s:∀l s t v,s.cps.toList=l→C (.str l) ⟨PyData.keyHash P s,.str s t,v⟩)(i:∀i t v,C (.int i) ⟨hashInt i,.int i t,v⟩):C x e:=by
 cases x<;>first|exact False.elim r|skip
 ·exact th.rec (motive:=λe _=>C (.int _) e) (λt v=>i _ t v) r
 ·exact ti.rec (motive:=λe _=>C (.str _) e) (λx t v q=>s _ x t v q) r
theorem GT{a b:Str}(h:a.cps.toList=b.cps.toList):a=b:=congrArg Str.mk (Array.toList_inj.mp h)
noncomputable def dS(w:World):DK w Str true where
 knd:=PySem.strKind pw w
 av:=λs=>.str s.cps.toList
 inj:=λh=>GT (AV.str.inj h)
 key:=λ{e x} r=>r.on (C:=λx e=>jU true x=true→∃k:Str,x=.str k.cps.toList∧(PySem.strKind pw w).is k e.key=true∧e.hash=(PySem.strKind pw w).hash k) (λl s t v q _=>⟨s,q▸rfl,eQ s,rfl⟩) λi t v q=>nB q
 back:=λ{e k} h1 h2=>by obtain⟨hs,ky,v⟩:=e;obtain⟨t,rfl⟩:=Value.isStrOf_shape h1;rw[show hs=_ from h2];exact ti.mk k t v rfl
 eq:=λ{e x k} r=>r.on (C:=λx e=>(PySem.strKind pw w).is k e.key=fU x _) (λl s t v q=>by show(s==k)=decide (l=k.cps.toList);rw[←q,←str_beq,qj,o7,Cq]) λi t v=>rfl
noncomputable def dI(w:World):DK w Int false where
 knd:=intKind pw w
 av:=.int
 inj:=AV.int.inj
 key:=λ{e x} r=>r.on (C:=λx e=>jU false x=true→∃k:Int,x=.int k∧(intKind pw w).is k e.key=true∧e.hash=(intKind pw w).hash k) (λl s t v q h=>nB h) λi t v _=>⟨i,rfl,eQ i,rfl⟩
 back:=λ{e k} h1 h2=>by obtain⟨hs,ky,v⟩:=e;obtain⟨t,rfl⟩:=Bp h1;rw[show hs=_ from h2];exact th.mk t v
 eq:=λ{e x k} r=>r.on (C:=λx e=>(intKind pw w).is k e.key=fU x _) (λl s t v q=>rfl) λi t v=>by show(i==k)=decide (i=k);rw[qj,o7,Cq]
section
variable{w:World}{K:Type}[DecidableEq K]{str:Bool}(D:DK w K str){h:Heap}{X:Addr→Prop}{M:Sp}
theorem DK.keys{es:List DictEntry}{l:List (AV×RV)}(r:cC w.params h X M es l):cS str l=true→∀e∈es,∃k,D.knd.is k e.key=true∧e.hash=D.knd.hash k:=Z2.rec' (C:=λ(es:List DictEntry)(l:List (AV×RV))=>cS str l=true→∀e∈es,∃k,D.knd.is k e.key=true∧e.hash=D.knd.hash k) (λ_ e m=>nomatch m) (λ{e x es l} a _ ih q=>xz q λq1 q2 y m=>(List.mem_cons.mp m).elim (λc=>c▸(D.key a.1 q1).imp λ_ h=>h.2) (ih q2 y)) r
theorem DK.mapOf{es:List DictEntry}{l:List (AV×RV)}{a:Addr}{n:Nat}(e:h.get? a=some (dictOf es n))(r:cC w.params h X M es l)(q:cS str l=true):h.MapOf D.knd a (λy=>findBy D.knd.is es.toArray y):=⟨_,es.toArray,n,e,⟨rfl,rfl,rfl⟩,rfl,λx m=>D.keys r q x (List.mem_toArray.mp m),λ_=>rfl⟩
theorem DK.find{es:List DictEntry}{l:List (AV×RV)}(r:cC w.params h X M es l)(k:K):(fA (D.av k) l).casesOn (findBy D.knd.is es.toArray k=none) (λx=>∃v,findBy D.knd.is es.toArray k=some v∧RR w.params h X M v x):=Z2.rec' (C:=λ(es:List DictEntry)(l:List (AV×RV))=>(fA (D.av k) l).casesOn (findBy D.knd.is es.toArray k=none) (λx=>∃v,findBy D.knd.is es.toArray k=some v∧RR w.params h X M v x)) rfl (λ{e x es l} a _ ih=>by
  unfold findBy fA;rw[List.find?_toArray,List.find?_cons,D.eq a.1];cases fU x.1 (D.av k) with
  |true=>exact⟨_,rfl,a.2⟩
  |false=>unfold findBy at ih;rw[List.find?_toArray] at ih;exact ih) r
theorem DK.get{es:List DictEntry}{l:List (AV×RV)}(r:cC w.params h X M es l){k:K}{x:RV}(e:fA (D.av k) l=some x):∃v,findBy D.knd.is es.toArray k=some v∧RR w.params h X M v x:=by have:=D.find r k;rw[e] at this;exact this
theorem DK.has{es:List DictEntry}{l:List (AV×RV)}(r:cC w.params h X M es l)(k:K):(findBy D.knd.is es.toArray k).isSome=(fA (D.av k) l).isSome:=by
 have:=D.find r k;revert this;cases fA (D.av k) l with
 |none=>intro (e:_=none);rw[e];rfl
 |some x=>intro ⟨v,e,_⟩;rw[e];rfl
theorem DK.dictOf{es:List DictEntry}{l:List (AV×RV)}(r:cC w.params h X M es l):cS str l=true→∃kvs:List (K×Value),Pairs D.knd es kvs∧a9 w.params h X M (kvs.map (·.2)) (l.map (·.2))∧kvs.map (λq=>D.av q.1)=l.map (·.1):=Z2.rec' (C:=λ(es:List DictEntry)(l:List (AV×RV))=>cS str l=true→∃kvs:List (K×Value),Pairs D.knd es kvs∧a9 w.params h X M (kvs.map λq:K×Value=>q.2) (l.map λq:AV×RV=>q.2)∧kvs.map (λq=>D.av q.1)=l.map λq:AV×RV=>q.1) (λ_=>⟨[],.nil,.nil,rfl⟩)
  (λ{e x es l} a _ ih q=>xz q λq1 q2=>(D.key a.1 q1).elim λk hk=>(ih q2).elim λkvs g=>⟨(k,e.val)::kvs,.cons hk.2.1 rfl g.1,.cons a.2 g.2.1,by rw[gM,gM,←hk.1,g.2.2]⟩) r
theorem uW{α β:Type}{f:α→β}:∀{l:List α},(l.map f).Nodup→l.Nodup
 |[],_=>lS
 |a::l,h=>List.nodup_cons.mpr ⟨λm=>(List.nodup_cons.mp h).1 (wv m),uW (List.nodup_cons.mp h).2⟩
theorem DK.dict{es:List DictEntry}{l:List (AV×RV)}{a:Addr}{n:Nat}(e:h.get? a=some (PySem.W.dictOf es n))(r:cC w.params h X M es l)(q:cS str l=true)(nd:(l.map (·.1)).Nodup):
  ∃kvs,h.DictOf D.knd a kvs∧a9 w.params h X M (kvs.map (·.2)) (l.map (·.2))∧kvs.map (λq=>D.av q.1)=l.map (·.1)∧kvs.length=l.length∧(kvs.map (·.1)).Nodup:=(D.dictOf r q).elim λkvs g=>have nd':(kvs.map (·.1)).Nodup:=uW (f:=D.av) (by rw[dm];show(kvs.map λq=>D.av q.1).Nodup;rw[g.2.2];exact nd)
  ⟨kvs,⟨_,es.toArray,n,e,⟨rfl,rfl,rfl⟩,rfl,λe me=>D.keys r q e (List.mem_toArray.mp me),g.1,nd'⟩,g.2.1,g.2.2,(aU ..).symm.trans ((congrArg List.length g.2.2).trans (aU ..)),nd'⟩
theorem DK.rrd{es:List DictEntry}{kvs:List (K×Value)}(p:Pairs D.knd es kvs):∀{xs:List RV},(∀e∈es,∃k,D.knd.is k e.key=true∧e.hash=D.knd.hash k)→a9 w.params h X M (kvs.map (·.2)) xs→cC w.params h X M es ((kvs.map λq=>D.av q.1).zip xs):=Pairs.rec (motive:=λ(es:List DictEntry)(kvs:List (K×Value)) _=>∀{xs:List RV},(∀e∈es,∃k,D.knd.is k e.key=true∧e.hash=D.knd.hash k)→a9 w.params h X M (kvs.map (·.2)) xs→cC w.params h X M es ((kvs.map λq=>D.av q.1).zip xs)) (λ{xs} _ _=>.nil)
  (λ{e kv es kvs} i v _ ih{xs} hk r=>by
   cases xs with
   |nil=>cases (show _::_=[] from r)
   |cons x xs=>obtain⟨k,h1,h2⟩:=hk e (.head _);have:k=kv.1:=D.knd.inj _ _ _ h1 i;subst this;exact Z2.on (C:=λvs=>vs=kv.2::kvs.map (·.2)→_) r (λu us a b c=>by cases c;exact .cons ⟨D.back h1 h2,show RR w.params h X M e.val x by rw[v];exact a⟩ (ih (λe m=>hk e (.tail _ m)) b)) rfl) p
theorem DK.ofDict{a:Addr}{kvs:List (K×Value)}{xs:List RV}{h1:Heap}(d:h1.DictOf D.knd a kvs)(r:a9 w.params h X M (kvs.map (·.2)) xs){G:Prop}(k:∀es n,h1.get? a=some (PySem.W.dictOf es n)→cC w.params h X M es ((kvs.map λq=>D.av q.1).zip xs)→G):G:=by obtain⟨o,es,ep,e,⟨x1,x2,x3⟩,hd,hk,hp,_⟩:=d;obtain⟨c,dd,dt,sl⟩:=o;cases x1;cases x2;cases x3;cases hd;exact k es.toList ep e (D.rrd hp (λe m=>hk e (Array.mem_toList_iff.mp m)) r)
end
end
section
open PySem.SeqAt
noncomputable abbrev Is(d:Addr):Addr→Prop:=λb=>b=d
theorem cO.snoc{M:Sp}{H:List ac}{a:Addr×Addr}{x:ac}(hl:M.length=H.length){i:Nat}{b:Addr}(z:cO (M++[a]) (H++[x]) i b):cO M H i b∨(i=M.length∧(b=a.1∨b=a.2)):=z.on λp o e1 e2 l e3=>mn e1 (λlt q1=>mn e2 (λ_ q2=>.inl (.mk q1 q2 l e3)) λc _=>absurd lt (by rw[c,hl];exact jF _)) λc q=>.inr ⟨c,q▸e3⟩
theorem bn.snoc{M:Sp}{H:List ac}{a:Addr×Addr}{x:ac}(hl:M.length=H.length){b:Addr}(z:bn (M++[a]) (H++[x]) b):bn M H b∨b=a.1∨b=a.2:=z.elim λi z=>(z.snoc hl).imp (λz=>⟨i,z⟩) And.right
theorem HR.adopt{P:Params}{B:Heap}{X X':Addr→Prop}{h:Heap}{M:Sp}{H:List ac}(G:HR P B X h M H){a:Addr×Addr}{x:ac}(x':∀b,X' b→X b)(w:∀b,(b=a.1∨b=a.2)→X b∧¬cX b∧¬bn M H b)
  (hO:Up h (HA X M H) h (HA X' (M++[a]) (H++[x]))→cY P h (HA X' (M++[a]) (H++[x])) (M++[a]) a x):HR P B X' h (M++[a]) (H++[x])∧Up h (HA X M H) h (HA X' (M++[a]) (H++[x])):=have av:∀b,HA X' (M++[a]) (H++[x]) b→HA X M H b:=λb z=>z.elim (λz=>.inl (x' b z)) λz=>z.elim (λz=>.inr (.inl z)) λz=>(z.snoc G.len).elim (λz=>.inr (.inr z)) λz=>.inl (w b z).1;have u:Up h (HA X M H) h (HA X' (M++[a]) (H++[x])):=⟨λ_ _ e _=>e,λb o e n z=>n (av b z)⟩;have sp:e8 M (M++[a]):=λ_ _ e=>zc e
 ⟨⟨G.base,λb o e n=>⟨λz=>(G.clear b o e n).1 (x' b z),λz=>(z.snoc G.len).elim (G.clear b o e n).2 λz=>(G.clear b o e n).1 (w b z).1⟩,G.tabs.up u λ_ _ _ e=>e,λb z=>G.low b (av b z),by rw[el,el,G.len];rfl,
  λi q e=>mn e (λ_ e=>G.mlt i q e) λ_ e=>e▸⟨G.low _ (.inl (w _ (.inl rfl)).1),G.low _ (.inl (w _ (.inr rfl)).1)⟩,
  λi q o e1 e2=>mn e1 (λlt q1=>mn e2 (λ_ q2=>(G.own i q o q1 q2).up u sp λ_ _ _ _ e=>e) λc _=>absurd lt (by rw[c,G.len];exact jF _))
   λc q1=>mn e2 (λlt _=>absurd lt (by rw[c,G.len];exact jF _)) λ_ q2=>by rw[q1,q2];exact hO u,
  λi j b z y=>(z.snoc G.len).elim (λz=>(y.snoc G.len).elim (G.apart i j b z) λy=>((w b y.2).2.2 ⟨i,z⟩).elim) λz=>(y.snoc G.len).elim (λy=>((w b z.2).2.2 ⟨j,y⟩).elim) λy=>z.1.trans y.1.symm,
  λb z=>(z.snoc G.len).elim (G.offA b) λz=>(w b z).2.1⟩,u⟩
section
variable{cx:Cx}{sl:List Str}{p:Pt}{s:Shared}
theorem SR.adopt{d:Addr}(R:SR (cx.hidS (Is d)) sl p)(w:WO cx p.h p.M p.σ.H d)(hX:¬cx.X0 d){x:ac}(hO:∀{X' M'},Up p.h (HA (cx.hidS (Is d)).X p.M p.σ.H) p.h X'→e8 p.M M'→cY cx.w.params p.h X' M' (d,d) x):
  SR cx sl ⟨p.h,p.M++[(d,d)],⟨p.σ.loc,p.σ.H++[x]⟩⟩:=have sp:e8 p.M (p.M++[(d,d)]):=λ_ _ e=>zc e;have is:∀{b},(b=d∨b=d)→b=d:=λz=>z.elim id id;have g:=R.toHR.adopt (X':=cx.X) (a:=(d,d)) (x:=x) (λb z=>z.imp .inl id) (λb z=>by cases is z;exact⟨.inl (.inr rfl),w.nA,w.nL⟩) λu=>hO u sp
 R.mv (X1:=cx.X0) g.1 g.2 sp (λb o _ e=>e) (λb z=>(z.snoc R.toHR.len).imp id λz=>by cases is z;exact w.nF) λi a c e=>mn e (λ_ e=>⟨λz=>(R.nx i a c e).1 (z.imp .inl id),λz=>(R.nx i a c e).2 (z.imp .inl id)⟩) λ_ e=>e▸⟨λz=>z.elim hX λz=>w.nF (.inl z),λz=>z.elim hX λz=>w.nF (.inl z)⟩
theorem HX.snoc{T:Addr→Prop}{h h':Heap}{M M':Sp}{H H':List ac}{a:Addr×Addr}{x:ac}(e:HX T h M H h' M' H')(hl:M'.length=H'.length)(ha:h.objs.size≤a.1∧h.objs.size≤a.2):HX T h M H h' (M'++[a]) (H'++[x]):=⟨λi p q=>zc (e.sp i p q),e.keep,e.size,λb z=>(z.snoc hl).elim (e.live b) λz=>.inr (z.elim (λz=>z▸ha.1) λz=>z▸ha.2),λi p c q=>mn q (λ_=>e.new i p c) λ_ q=>q▸ha⟩
theorem SR.own(R:SR cx sl p){q:Pt}{h1:Heap}{d:Addr}{x:ac}(k:∀b o,p.h.get? b=some o→h1.get? b=some o)(sz:p.h.objs.size≤h1.objs.size)(hd:p.h.objs.size≤d)(e:HX (λb=>cx.T0 b∨Is d b) h1 p.M p.σ.H q.h q.M q.σ.H)
  (Rq:SR (cx.hidS (Is d)) sl q)(w:WO cx q.h q.M q.σ.H d)(hO:∀{X' M'},Up q.h (HA (cx.hidS (Is d)).X q.M q.σ.H) q.h X'→e8 q.M M'→cY cx.w.params q.h X' M' (d,d) x):
  Ok cx sl p ⟨q.h,q.M++[(d,d)],⟨q.σ.loc,q.σ.H++[x]⟩⟩∧Pt.val cx ⟨q.h,q.M++[(d,d)],⟨q.σ.loc,q.σ.H++[x]⟩⟩ (.ref d) (.loc q.σ.H.length):=⟨⟨(e.lessT k sz λb z=>z.imp id λ(z:b=d)=>by rw[z];exact hd).snoc Rq.toHR.len ⟨hd,hd⟩,Rq.adopt w (λz=>R.toHR.new hd (.inl (.inl z))) hO⟩,RR.loc (p:=(d,d)) (by rw[←Rq.toHR.len];exact EI _ _ _)⟩
noncomputable def bR(n:Nat):Bool:=Nat.ble n 1000
theorem ru{n:Nat}(h:bR n=true):n≤1000:=lT h
theorem gt{n:Nat}(h:bR n=true):n≤sizeLine:=aJ (ru h) (by unfold sizeLine;decide)
noncomputable def fS{α:Type}(g:St→Fm α):Fm α:=λst=>g st st
noncomputable def iR(own:Bool)(l:List RV):Fm RV:=cond own (λst=>.ok (.loc st.H.length) ⟨st.loc,st.H++[.lst l]⟩) (aj (bY l) λr=>aI (.v (.lst r)))
theorem SR.laid(R:SR cx sl p){own:Bool}{l:List RV}{vs:List Value}{Q:Value→Shared→Prop}{E:Value→Shared→Prop}{h':Heap}{c tk:Nat}(hv:p.vals cx vs l)(k:∀b o,p.h.get? b=some o→h'.get? b=some o)(sz:p.h.objs.size≤h'.objs.size)
  (e:h'.get? p.h.objs.size=some (cL vs c))(z:aC cx sl p s (rV cx) (iR own l p.σ) Q E):Q (.ref p.h.objs.size) (Sh s h' tk):=by
 cases own with
 |true=>
  have H:=R.hideS (W:=Is p.h.objs.size) k sz λb(hb:b=p.h.objs.size)=>by rw[hb];exact⟨bw _,b9 e⟩
  have o:=R.own (q:=⟨h',p.M,p.σ⟩) (x:=.lst l) k sz (bw _) HX.refl H.1 (H.2.1 _ rfl) λu sp=>d8.mk e (a9.up u sp (a9.up H.2.2 (λ_ _ e=>e) hv));exact z _ _ _ tk o.1 o.2
 |false=>
  have z:aC cx sl p s (rV cx) (aj (bY l) (λr=>aI (.v (.lst r))) p.σ) Q E:=z;cases q:bY l with
  |none=>rw[q] at z;exact False.elim z
  |some r=>rw[q] at z;have o:=R.grow k sz;exact z _ _ _ tk o (VR.lst e R.fresh (pU (qt q▸oH o.e hv)))
theorem SR.laidT(R:SR cx sl p){l:List AV}{vs:List Value}{Q:Value→Shared→Prop}{E:Value→Shared→Prop}{tk:Tok}(hv:bj cx.w.params p.h (p.av cx) vs l)(z:aC cx sl p s (rV cx) (.ok (.v (.tup l)) p.σ) Q E):Q (.ref p.h.objs.size) (Sh s (p.h.push (eg vs 0)) tk):=have o:=R.push (eg vs 0)
 z _ _ _ tk o (VR.tup (ej _ rfl) R.fresh (hv.up (c8.av o.e)))
end
section
variable{α β ε:Type}{cx:Cx}{sl:List Str}{p:Pt}{rel:Pt→α→β→Prop}{t:Sem α}
noncomputable def jR(o:Option ε)(f:ε→Fm β)(g:Fm β):Fm β:=o.casesOn g f
theorem aZ.els{o:Option ε}{f:ε→Fm β}{g:Fm β}(h:∀x,o=some x→aZ cx sl p rel t (f x))(k:aZ cx sl p rel t g):aZ cx sl p rel t (jR o f g):=by
 cases o with
 |none=>exact k
 |some x=>exact h x rfl
end
noncomputable def bJ{α:Type}(f:AV→Option α)(a:RV):Option α:=(sm a).bind f
theorem di{α:Type}{f:AV→Option α}{a:RV}{y:α}{c:α→AV}(k:∀{x y},f x=some y→x=c y)(h:bJ f a=some y):a=.v (c y):=aL h λx e1 e2=>(j8 e1).trans (congrArg RV.v (k e2))
theorem RR.cast{P:Params}{h:Heap}{X:Addr→Prop}{M:Sp}{v:Value}{x y:RV}(q:x=y)(r:RR P h X M v x):RR P h X M v y:=q▸r
noncomputable def qf{β α:Type}(g:AV→Option β)(a b:RV)(f:β→β→α):Option α:=(bJ g a).bind λi=>(bJ g b).map λj=>f i j
noncomputable abbrev iB{α:Type}(a b:RV)(f:Int→Int→α):Option α:=qf eO a b f
theorem qg{β α:Type}{g:AV→Option β}{c:β→AV}(k:∀{x y},g x=some y→x=c y){P:Params}{h:Heap}{X:Addr→Prop}{M:Sp}{v u:Value}{a b:RV}{f:β→β→α}{y:α}{G:Prop}(e:qf g a b f=some y)(hv:RR P h X M v a)(hu:RR P h X M u b)(q:∀i j,f i j=y→VR P h X v (c i)→VR P h X u (c j)→G):G:=aL e λi e1 e=>cz e λj e2 e=>q i j e (RR.cast (di k e1) hv) (RR.cast (di k e2) hu)
noncomputable def Lx(own:Bool)(a b:RV):Fm RV:=jR (iB a b λi j=>i+j) (λc=>aI (.v (.int c)))<|jR (qf kE a b Prod.mk) (λc=>aK (bR (c.1.length+c.2.length)) (aI (.v (.str (c.1++c.2)))))<|
 jR (qf eP a b Prod.mk) (λc=>aK (bR (c.1.length+c.2.length)) (aI (.v (.tup (c.1++c.2)))))<|fS λst=>aj (gW a st.H) λl=>aj (gW b st.H) λr=>aK (bR (l.length+r.length)) (iR own (l++r))
noncomputable def sy(i:Int):Bool:=decide (-4611686018427387904<i)&&decide (i<4611686018427387904)
noncomputable def lb(i j:Int):Bool:=sy i||sy j
theorem aF{a b c:Bool}(h:(a&&b&&c)=true):a=true∧b=true∧c=true:=by cases a<;>cases b<;>cases c<;>first|exact⟨rfl,rfl,rfl⟩|exact nB h
theorem aA{a b:Bool}(h:(a&&b)=true):a=true∧b=true:=by cases a<;>cases b<;>first|exact⟨rfl,rfl⟩|exact nB h
theorem cy{a:Bool}(h:(!a)=true):a=false:=by cases a<;>first|rfl|exact nB h
theorem bI{p:Prop}[Decidable p](h:decide p=true):p:=zr h
theorem QO{i j:Int}(h:lb i j=true):IntMulOk i j:=by
 cases q:sy i with
 |true=>exact .of_left (PySem.intBits_le_64 (by have:=bI (aA q).1;omega) (by have:=bI (aA q).2;omega))
 |false=>unfold lb at h;rw[q] at h;exact .of_right (PySem.intBits_le_64 (by have:=bI (aA h).1;omega) (by have:=bI (aA h).2;omega))
noncomputable def fP(op:Operator)(own:Bool)(a b:RV):Fm RV:=match op with
 |.Add=>Lx own a b
 |.Sub=>aj (iB a b λi j=>i-j) λc=>aI (.v (.int c))
 |.Mult=>aj (iB a b λi j=>(i,j)) λc=>aK (lb c.1 c.2) (aI (.v (.int (c.1*c.2))))
 |.FloorDiv=>aj (iB a b λi j=>(i,j)) λc=>aK (decide (c.2≠0)&&decide (-1073741824<c.2)&&decide (c.2<1073741824)) (aI (.v (.int (c.1.fdiv c.2))))
 |.Mod=>aj (iB a b λi j=>(i,j)) λc=>aK (decide (c.2≠0)) (aI (.v (.int (c.1.fmod c.2))))
 |_=>λ_=>.bad
noncomputable def uc(a b:RV):Fm RV:=aj (iB a b λi j=>decide (i=10)&&decide (j=18)) λc=>aK c (aI (.v (.int (10^18))))
noncomputable def z9(x:AV):Option Bool:=match x with
 |.bool b=>some b
 |.none=>some false
 |.int i=>some (i !=0)
 |_=>none
noncomputable def cm(a:RV):Fm Bool:=aj (bJ z9 a) aI
noncomputable def pq(a:RV):Fm RV:=λst=>(cm a st).bind λb st'=>.ok (.v (.bool (!b))) st'
noncomputable def pn(a:RV):Fm RV:=aj (bJ eO a) λi=>aI (.v (.int (-i)))
theorem yZ(x:Str):x.length=x.cps.toList.length:=by simp[Str.length]
theorem GZ{α:Type}(vs us:List α):vs.toArray++us.toArray=(vs++us).toArray:=by simp
section
variable{cx:Cx}{sl:List Str}{p:Pt}
theorem aZ.int{t:Sem Value}{i:Int}(h:∀{A s tk}{Q:Value→Shared→Prop}{E:Value→Shared→Prop},Rm cx.n A→(∀t tk,Q (.int i t) (Sh s p.h tk))→wpAny (model pw cx.w) A t Q E (Sh s p.h tk)):aZ cx sl p (rV cx) t (aI (.v (.int i))):=λA s tk Q E ar R z=>h ar.rm λt tk=>z _ _ _ tk (Ok.refl R) (show VR cx.w.params p.h (p.av cx) (.int i t) (.int i) from .int i t)
theorem Jk{op:Operator}{own:Bool}{v u:Value}{a b:RV}(hv:p.val cx v a)(hu:p.val cx u b):aZ cx sl p (rV cx) (binaryOp op v u) (fP op own a b):=by
 have i2:∀{α:Type}{f:Int→Int→α}{k:α→Fm RV},(∀i j t t',aZ cx sl p (rV cx) (binaryOp op (.int i t) (.int j t')) (k (f i j)))→∀c,iB a b f=some c→aZ cx sl p (rV cx) (binaryOp op v u) (k c):=λh c e=>qg fe e hv hu λi j q x y=>q▸VR.onInt x λt=>VR.onInt y λt'=>h i j t t'
 cases op with
 |Add=>
  refine .els (i2 λi j t t'=>.int λ_ k=>add_int (k _ _)) (.els (λc e=>?_) (.els (λc e=>?_) ?_))
  ·refine .gd λg=>qg kG e hv hu λi j q x y=>?_;subst q;refine VR.onStr x λx1 t q1=>VR.onStr y λy1 t' q2 A s tk Q E ar R z=>?_;subst q1;subst q2;exact add_str (λt' k=>z _ _ _ _ (Ok.refl R) (ig.mk (x1++y1) t' Array.toList_append)) (by rw[yZ,yZ];exact gt g)
  ·refine .gd λg=>qg iO e hv hu λi j q x y=>?_;subst q;refine VR.onTup x λc vs k e1 n1 r1=>VR.onTup y λd us m e2 n2 r2 A s tk Q E ar R z=>?_;have l1:=r1.length;have l2:=r2.length;have T:Q (.ref p.h.objs.size) (Sh s (p.h.push ⟨.type "tuple",none,.seq (vs.toArray++us.toArray) 0,#[]⟩) tk):=by rw[GZ];exact R.laidT (pU (M:=p.M) (by rw[eL];exact Z2.append r1.rrs r2.rrs)) z
   have sz:vs.toArray.size+us.toArray.size≤sizeLine:=by rw[bM,bM,l1,l2];exact gt g
   cases vs with
   |nil=>exact xy ⟨_,e1,rfl⟩ ⟨_,e2,rfl⟩ EE F7 Be Bd (Bc _ _) (tuple_addW0 c d #[] us.toArray k m none none #[] #[] rfl) ⟨e1,e2,z _ _ _ _ (Ok.refl R) (by rw[List.length_eq_zero_iff.mp l1.symm];exact .tup e2 n2 r2)⟩
   |cons v vs=>cases us with
    |nil=>exact xy ⟨_,e1,rfl⟩ ⟨_,e2,rfl⟩ EE F7 Be Bd (Bc _ _) (tuple_addW1 c d (v::vs).toArray #[] k m none none #[] #[] (by simp) rfl) ⟨e1,e2,z _ _ _ _ (Ok.refl R) (by rw[List.length_eq_zero_iff.mp l2.symm,eK];exact .tup e1 n1 r1)⟩
    |cons u us=>exact xy ⟨_,e1,rfl⟩ ⟨_,e2,rfl⟩ EE F7 Be Bd (Bc _ _) (tuple_addW2 c d (v::vs).toArray (u::us).toArray k m none none #[] #[] (by simp) (by simp) sz) ⟨e1,e2,T⟩
  ·refine .opt (o:=gW a p.σ.H) λl hl=>.opt (o:=gW b p.σ.H) λr hr=>.gd λg A s tk Q E ar R z=>?_;refine R.onList hv hl λc vs k e1 r1=>R.onList hu hr λd us m e2 r2=>?_;have L:Q (.ref p.h.objs.size) (Sh s (p.h.push ⟨.type "list",none,.seq (vs.toArray++us.toArray) 0,#[]⟩) tk):=by rw[GZ];exact R.laid (own:=own) (tk:=tk) (c:=0) (Z2.append r1 r2) (λb o e=>bc (cL (vs++us) 0) e) (gF _ _) (ej _ rfl) z
   exact xy ⟨_,e1,rfl⟩ ⟨_,e2,rfl⟩ noFill_list_add seq_list_add PySem.F.slot_list_add PySem.F.entry_list_add (PySem.F.args_list_add_2 _ _) (list_addW c d vs.toArray us.toArray k m none none #[] #[] (by rw[bM,bM,Z2.length r1,Z2.length r2];exact gt g)) ⟨e1,e2,L⟩
 |Sub=>exact .opt (i2 λi j t t'=>.int λ_ k=>sub_int (k _ _))
 |Mult=>exact .opt (i2 (k:=λc:Int×Int=>aK (lb c.1 c.2) (aI (.v (.int (c.1*c.2))))) λi j t t'=>.gd λg=>.int λ_ k=>mul_int (k _ _) (QO g))
 |FloorDiv=>exact .opt (i2 (k:=λc:Int×Int=>aK (decide (c.2≠0)&&decide (-1073741824<c.2)&&decide (c.2<1073741824)) (aI (.v (.int (c.1.fdiv c.2))))) λi j t t'=>.gd λg=>.int λ_ k=>floordiv_int (bI (aF g).1) (k _ _) (.inl (PyProof.noPylong_small (by have:=bI (aF g).2.1;have:=bI (aF g).2.2;omega))))
 |Mod=>exact .opt (i2 (k:=λc:Int×Int=>aK (decide (c.2≠0)) (aI (.v (.int (c.1.fmod c.2))))) λi j t t'=>.gd λg=>.int λ_ k=>mod_int' (bI g) (k _ _))
 |_=>exact aZ.bad
theorem SC{v u:Value}{a b:RV}(hv:p.val cx v a)(hu:p.val cx u b):aZ cx sl p (rV cx) (binaryOp .Pow v u) (uc a b):=.opt λc e=>.gd λg=>qg fe e hv hu λi j q x y=>VR.onInt x λt=>VR.onInt y λt'=>by subst g;rw[bI (aA q).1,bI (aA q).2];exact .int λ_ k=>PySem.AutoIntOps.pow_4 (by decide) (by decide) (by decide) (by decide) (by decide) (k _ _)
theorem qe{v:Value}{a:RV}(hv:p.val cx v a):aZ cx sl p rB (truthy v) (cm a):=.opt λb e=>aL e λx e1 e A s tk Q E ar R z=>by
 have hx:VR cx.w.params p.h (p.av cx) v x:=RR.cast (j8 e1) hv;have q:Q b (Sh s p.h tk):=z _ _ _ _ (Ok.refl R) rfl;cases x<;>first|exact nS e|(cases ak e)
 ·rw[show v=.none from hx];exact truthy_none q
 ·rw[show v=.bool _ from hx];exact wpAny_truthy_bool q
 ·exact VR.onInt hx λt=>truthy_int q
theorem QZ{v:Value}{a:RV}(hv:p.val cx v a):aZ cx sl p (rV cx) (unaryOp .Not v) (pq a):=λA s tk Q E ar R z=>not_of (qe hv A s tk _ E ar R (z.bd λa x P tk o r z=>by subst r;exact z _ _ _ _ (Ok.refl o.r) (show _=_ from rfl)))
theorem QS{v:Value}{a:RV}(hv:p.val cx v a):aZ cx sl p (rV cx) (unaryOp .USub v) (pn a):=.opt λi e=>VR.onInt (show VR cx.w.params p.h (p.av cx) v (.int i) from RR.cast (di fe e) hv) λt=>.int λ_ k=>neg_int (k _ _)
end
end
section
open PySem.SeqAt
noncomputable def OR(x:AV):Option Bool:=match x with
 |.none=>some true
 |.glob _=>none
 |_=>some false
noncomputable def yA(a:RV):Option Bool:=match a with
 |.v x=>OR x
 |.loc _=>some false
noncomputable def nn(b:RV)(o:Option Bool):Option Bool:=(bJ lZ b).bind λ_=>o
noncomputable def n8(o:Option Bool):Option Bool:=o.map not
noncomputable def xH(a b:RV)(H:List ac):Option Bool:=(iS a H).bind λx=>(iS b H).bind λy=>cb 8 x y
noncomputable def Pa(x:AV):Option Bool:=match x with
 |.str _=>some true
 |.int _=>some false
 |_=>none
noncomputable def kQ(a b:RV)(H:List ac):Option Bool:=(iS a H).bind λx=>(bJ nf b).casesOn ((iS b H).bind λy=>(eP y).casesOn ((fx y).bind (iq x)) (iq x)) λl=>(Pa x).bind λs=>cond (cS s l) (some (fA x l).isSome) none
noncomputable def B7(op:CmpOp)(a b:RV)(H:List ac):Option Bool:=match op with
 |.Eq=>xH a b H
 |.NotEq=>n8 (xH a b H)
 |.Lt=>iB a b λi j=>decide (i<j)
 |.LtE=>iB a b λi j=>decide (i≤j)
 |.Gt=>iB a b λi j=>decide (i>j)
 |.GtE=>iB a b λi j=>decide (i≥j)
 |.Is=>nn b (yA a)
 |.IsNot=>nn b (n8 (yA a))
 |.In=>kQ a b H
 |.NotIn=>n8 (kQ a b H)
noncomputable def cj(op:CmpOp)(a b:RV):Fm RV:=λst=>aj (B7 op a b st.H) (λt=>aI (.v (.bool t))) st
theorem yB{P:Params}{h:Heap}{X:Addr→Prop}{M:Sp}{v:Value}{a:RV}{t:Bool}(r:RR P h X M v a)(e:yA a=some t):(v==Value.none)=t:=by
 cases a with
 |loc i=>exact RR.onLoc (C:=λv=>(v==Value.none)=t) r λ_ _=>ak e
 |v x=>
  have r:VR P h X v x:=r;cases x<;>first|exact nS e|(rw[←ak e])
  ·rw[show v=.none from r];rfl
  ·rw[show v=.bool _ from r];rfl
  ·exact VR.onInt (C:=λv=>(v==Value.none)=false) r λ_=>rfl
  ·exact VR.onStr (C:=λv=>(v==Value.none)=false) r λ_ _ _=>rfl
  ·exact VR.onTup (C:=λv=>(v==Value.none)=false) r λ_ _ _ _ _ _=>rfl
  ·exact VR.onLst (C:=λv=>(v==Value.none)=false) r λ_ _ _ _ _ _=>rfl
  ·exact VR.onDct (C:=λv=>(v==Value.none)=false) r λ_ _ _ _ _ _=>rfl
  ·exact VR.onInst (C:=λv=>(v==Value.none)=false) r λ_ _ _ _ _ _ _ _ _=>rfl
  ·exact fG.rec (motive:=λv _=>(v==Value.none)=false) (λ_ _ _ _ _ _ _ _ _ _=>rfl) r
theorem CM{P:Params}{h:Heap}{X:Addr→Prop}{v:Value}{l:List Nat}(r:VR P h X v (.str l)):∃s,Value.isStrOf s v=true∧s.cps.toList=l:=ig.on (C:=λv=>∃s,Value.isStrOf s v=true∧s.cps.toList=l) r λs t q=>⟨s,eQ s,q⟩
theorem oY{str:Bool}:∀(l:List (AV×AV)),cS str (vd l)=cS str l
 |[]=>rfl
 |q::l=>congrArg (λx=>cond (jU str q.1) x false) (oY l)
theorem Cj{x:AV}:∀(l:List (AV×AV)),(fA x (vd l)).isSome=(fA x l).isSome
 |[]=>rfl
 |q::l=>by
  show Option.isSome (match fU q.1 x with|true=>some (RV.v q.2)|false=>fA x (vd l))=Option.isSome (match fU q.1 x with|true=>some q.2|false=>fA x l);cases fU q.1 x
  ·exact Cj l
  ·rfl
theorem oC{X:Addr→Prop}{M:Sp}{H:List ac}{a:Addr}(n:¬HA X M H a):(a==sysModules)=false:=beq_eq_false_iff_ne.mpr λe=>n (.inr (.inl (.inr e)))
section
variable{cx:Cx}{sl:List Str}{p:Pt}
noncomputable def td(cx:Cx)(h:Heap)(A:Around)(s:Shared)(tk:Tok)(Q:Value→Shared→Prop)(E:Value→Shared→Prop)(t:Bool)(v u:Value):Prop:=((∀tk,Q (.bool t) (Sh s h tk))→wpAny (model pw cx.w) A (compareOp .In v u) Q E (Sh s h tk))∧((∀tk,Q (.bool (!t)) (Sh s h tk))→wpAny (model pw cx.w) A (compareOp .NotIn v u) Q E (Sh s h tk))
theorem DI{A:Around}{s:Shared}{tk:Tok}{Q:Value→Shared→Prop}{E:Value→Shared→Prop}(ar:AR cx A)(R:SR cx sl p){v u:Value}{a b:RV}{t:Bool}(hv:p.val cx v a)(hu:p.val cx u b)(e:kQ a b p.σ.H=some t):
  td cx p.h A s tk Q E t v u:=by
 refine aL e λx e1 e=>?_;have hx:=R.frozen hv e1;cases q:bJ nf b with
 |none=>
  rw[q] at e;refine aL e λy e2 e=>?_;have hy:=R.frozen hu e2;have line:A.in1.units+8<cLine:=eX (by show A.units+1+8≤A.units+20;omega) ar.rm.line;cases q2:eP y with
  |some l=>rw[q2] at e;refine VR.onTup (VR.cast (iO q2) hy) λd vs n e3 _ r=>?_;have f:=wU (A:=A.in1) (s:=Sh s p.h tk) hx line r.z2 e;unfold td;rw[←f.2,←List.any_toArray];exact⟨λk=>in_tupleAt _ (jW e3) (λy m=>f.1 y (List.mem_toArray.mp m)) (k _),λk=>notIn_tupleAt _ (jW e3) (λy m=>f.1 y (List.mem_toArray.mp m)) (k _)⟩
  |none=>rw[q2] at e;refine aL e λl q3 e=>VR.onLst (VR.cast (iN q3) hy) λd vs n e3 _ r=>?_;have f:=wU (A:=A.in1) (s:=Sh s p.h tk) hx line r.z2 e;unfold td;rw[←f.2,←List.any_toArray];exact⟨λk=>in_listAt _ (dw e3) (λy m=>f.1 y (List.mem_toArray.mp m)) (k _),λk=>notIn_listAt _ (dw e3) (λy m=>f.1 y (List.mem_toArray.mp m)) (k _)⟩
 |some l=>
  rw[q] at e;refine aL e λstr e2 e=>VR.onDct (show VR cx.w.params p.h (p.av cx) u (.dct l) from RR.cast (di qy q) hu) λd es n e3 nx r=>?_
  have go:∀{K:Type}[DecidableEq K](D:DK cx.w K str)(k:K),x=D.av k→D.knd.is k v=true→td cx p.h A s tk Q E t v (.ref d):=λD k c hk=>by
   cases z:cS str l with
   |false=>rw[z] at e;exact nS e
   |true=>rw[z] at e;have r:=r.rrd (M:=p.M);have m:=D.mapOf e3 r ((oY l).trans z);have h:=D.has r k;rw[←c,Cj,ak e] at h;exact⟨λk=>wpAny_in_of hk (oC nx) m (by rw[h];exact k _),λk=>wpAny_notIn_of hk (oC nx) m (by rw[h];exact k _)⟩
  cases x<;>first|exact nS e2|(cases ak e2)
  ·exact hx.elim λt' c=>go (dI cx.w) _ rfl (c▸eQ _)
  ·exact(CM hx).elim λx q=>go (dS cx.w) x (congrArg AV.str q.2.symm) q.1
theorem qG{op:CmpOp}{v u:Value}{a b:RV}(hv:p.val cx v a)(hu:p.val cx u b):aZ cx sl p (rV cx) (compareOp op v u) (cj op a b):=.opt (o:=B7 op a b p.σ.H) λt e A s tk Q E ar R z=>by
 have now:∀tk,Q (.bool t) (Sh s p.h tk):=λtk=>z _ _ _ tk (Ok.refl R) (show VR cx.w.params p.h (p.av cx) (.bool t) (.bool t) from rfl);clear z;have line:A.units+8<cLine:=eX (A1 (by decide) _) ar.rm.line;have nt:∀{o:Option Bool}{G:Prop},n8 o=some t→(∀r,o=some r→t= !r→G)→G:=λe k=>cz e λr q c=>k r q c.symm;have eqs:∀{r:Bool},xH a b p.σ.H=some r→gK A (Sh s p.h tk) v u r:=λe=>aL e λx e1 e=>aL e λy e2 e=>pg (s:=Sh s p.h tk) 8 (R.frozen hv e1) (R.frozen hu e2) e line
 have i2:∀{f:Int→Int→Bool},iB a b f=some t→(∀i j t1 t2,(∀tk,Q (.bool (f i j)) (Sh s p.h tk))→wpAny (model pw cx.w) A (compareOp op (.int i t1) (.int j t2)) Q E (Sh s p.h tk))→wpAny (model pw cx.w) A (compareOp op v u) Q E (Sh s p.h tk):=λe k=>qg fe e hv hu λi j q x y=>VR.onInt x λt1=>VR.onInt y λt2=>k i j t1 t2 (q▸now)
 have nns:∀{o:Option Bool}{G:Prop},nn b o=some t→(u=.none→o=some t→G)→G:=λe k=>aL e λy q e=>k (RR.cast (di (c:=λ_=>AV.none) qz q) hu) e;cases op with
 |Eq=>exact(eqs e).rc pw cx.w E Q (now _)
 |NotEq=>exact nt e λr q c=>(eqs q).ne pw cx.w E Q (c▸now _)
 |Lt=>exact i2 e λ_ _ _ _ k=>lt_int (k _)
 |LtE=>exact i2 e λ_ _ _ _ k=>le_int (k _)
 |Gt=>exact i2 e λ_ _ _ _ k=>gt_int (k _)
 |GtE=>exact i2 e λ_ _ _ _ k=>ge_int (k _)
 |Is=>exact nns e λc e=>by rw[c];exact is_none (by rw[yB hv e];exact now _)
 |IsNot=>exact nns e λc e=>nt e λr q d=>by rw[c];exact isNot_none (by first|(rw[bne,yB hv q,←d];exact now _)|(rw[yB hv q,←d];exact now _))
 |In=>exact(DI ar R hv hu e).1 now
 |NotIn=>exact nt e λr q c=>(DI ar R hv hu q).2 (c▸now)
end
end
section
open PySem.SeqAt
theorem aC.opt{α β ε:Type}{cx:Cx}{sl:List Str}{p:Pt}{s:Shared}{rel:Pt→α→β→Prop}{o:Option ε}{k:ε→Fm β}{σ:St}{Q:α→Shared→Prop}{E:Value→Shared→Prop}{G:Prop}(z:aC cx sl p s rel (aj o k σ) Q E)(h:∀x,o=some x→aC cx sl p s rel (k x σ) Q E→G):G:=by
 cases o with
 |none=>exact False.elim z
 |some x=>exact h x rfl z
theorem aC.gd{α β:Type}{cx:Cx}{sl:List Str}{p:Pt}{s:Shared}{rel:Pt→α→β→Prop}{c:Bool}{f:Fm β}{σ:St}{Q:α→Shared→Prop}{E:Value→Shared→Prop}{G:Prop}(z:aC cx sl p s rel (aK c f σ) Q E)(h:c=true→aC cx sl p s rel (f σ) Q E→G):G:=by
 cases c with
 |false=>exact False.elim z
 |true=>exact h rfl z
noncomputable def bP(f:Fm RV):Fm Bool:=λst=>(f st).bind λv st=>cm v st
noncomputable def uh(i:Nat):Fm RV:=λst=>match ae st.loc i with
 |some (some x)=>.ok x st
 |_=>.bad
noncomputable def qR(r:List RV):Fm RV:=aj (bY r) λt=>aK (bR t.length) (aI (.v (.tup t)))
noncomputable def xR(own:Bool)(r:List RV):Fm RV:=aK (bR r.length) (iR own r)
noncomputable def xx(c:Const):Option AV:=match c with
 |.none=>some .none
 |.bool b=>some (.bool b)
 |.int i=>some (.int i)
 |.str s=>some (.str s.cps.toList)
 |_=>none
section
variable{α β γ δ:Type}{cx:Cx}{sl:List Str}{p:Pt}{l r e x c a b:Expr}{pos:Pos}{op:CmpOp}{f g k:Fm RV}{whole:Sem Value}{rel:Pt→α→β→Prop}
theorem jH.nest{rel':Pt→γ→δ→Prop}{t:Sem α}{m:Fm β}{f:α→Sem γ}{m':β→Fm δ}(h:jH cx sl rel t m)(hf:∀P a x,c8 cx p P→rel P a x→aZ cx sl P rel' (f a) (m' x))
  {A:Around}{s:Shared}{tk:Tok}{Q:γ→Shared→Prop}{E:Value→Shared→Prop}(ar:AR cx A)(R:SR cx sl p)(z:aC cx sl p s rel' ((m p.σ).bind λx st=>m' x st) Q E):
  wpAny (model pw cx.w) A t (λa s₁=>wpAny (model pw cx.w) A (f a) Q E s₁) E (Sh s p.h tk):=h p A s tk _ E ar R (z.bd λa x P tk o r z=>hf P a x o.e r A s tk Q E ar o.r z)
theorem Ti{op:Operator}{own:Bool}(hl:aH cx sl (eval l cx.env) f)(hr:aH cx sl (eval r cx.env) g):aH cx sl (eval (.BinOp l op r pos) cx.env) λst=>(f st).bind λx st=>(g st).bind λy st=>fP op own x y st:=λp A s tk Q E ar R z=>wpAny_BinOp (hl p A s tk _ E ar R (z.bd λa x P tk o va z=>hr.nest (λP' b y e vb=>Jk (cG e va) vb) ar o.r z))
theorem TM(hl:aH cx sl (eval l cx.env) f)(hr:aH cx sl (eval r cx.env) g):aH cx sl (eval (.BinOp l .Pow r pos) cx.env) λst=>(f st).bind λx st=>(g st).bind λy st=>uc x y st:=λp A s tk Q E ar R z=>wpAny_BinOp (hl p A s tk _ E ar R (z.bd λa x P tk o va z=>hr.nest (λP' b y e vb=>SC (cG e va) vb) ar o.r z))
theorem Rs.asc{r:Rs α}{f:α→St→Rs β}{g:β→St→Rs γ}:(r.bind f).bind g=r.bind λa st=>(f a st).bind g:=by cases r<;>rfl
theorem aC.asc{s:Shared}{ε:Type}{rel:Pt→γ→ε→Prop}{r:Rs α}{f:α→St→Rs β}{g:β→St→Rs ε}{Q:γ→Shared→Prop}{E:Value→Shared→Prop}(z:aC cx sl p s rel ((r.bind f).bind g) Q E):aC cx sl p s rel (r.bind λa st=>(f a st).bind g) Q E:=Rs.asc▸z
theorem zO{fc:RV→RV→Fm RV}(hc:∀{P v u x y},Pt.val cx P v x→Pt.val cx P u y→aZ cx sl P (rV cx) (compareOp op v u) (fc x y))(hm:behindInMarks op r=false)(hl:aH cx sl (eval l cx.env) f)(hr:aH cx sl (eval r cx.env) g):
  dM cx sl (isTrue (.Compare l [op] [r] pos) cx.env whole) (bP λst=>(f st).bind λx st=>(g st).bind λy st=>fc x y st):=λp A s tk Q E ar R z=>wpAny_isTrue_Compare1 (hm:=hm) (hl p A s tk _ E ar R ((aC.asc z).bd λa x P tk o va z=>hr P A s tk _ E ar o.r ((aC.asc z).bd λb y P' tk o' vb z=>hc (cG o'.e va) vb A s tk _ E ar o'.r (z.bd λc w P2 tk o2 vc z=>qe vc A s tk Q E ar o2.r z))))
theorem Tl(hm:behindInMarks op r=false)(hl:aH cx sl (eval l cx.env) f)(hr:aH cx sl (eval r cx.env) g):aH cx sl (eval (.Compare l [op] [r] pos) cx.env) λst=>(f st).bind λx st=>(g st).bind λy st=>cj op x y st:=λp A s tk Q E ar R z=>wpAny_Compare1 (hm:=hm) (hl p A s tk _ E ar R (z.bd λa x P tk o va z=>hr P A s tk _ E ar o.r (z.bd λb y P' tk o' vb z=>qG (cG o'.e va) vb A s tk Q E ar o'.r z)))
theorem TF(h:aH cx sl (eval x cx.env) f):aH cx sl (eval (.UnaryOp .Not x pos) cx.env) λst=>(f st).bind λx st=>pq x st:=λp A s tk Q E ar R z=>UnaryOp_ (h.nest (λP a y e va=>QZ va) ar R z)
theorem TE(h:aH cx sl (eval x cx.env) f):aH cx sl (eval (.UnaryOp .USub x pos) cx.env) λst=>(f st).bind λx st=>pn x st:=λp A s tk Q E ar R z=>UnaryOp_ (h.nest (λP a y e va=>QS va) ar R z)
theorem LC{a:RV}{st st':St}{t:Bool}(e:cm a st=.ok t st'):st'=st∧bJ z9 a=some t:=by
 revert e;unfold cm aj;cases bJ z9 a with
 |none=>exactλe=>nomatch e
 |some b=>intro e;cases e;exact⟨rfl,rfl⟩
theorem TG(h:dM cx sl (isTrue x cx.env (eval x cx.env)) (bP f)):dM cx sl (isTrue (.UnaryOp .Not x pos) cx.env whole) (bP λst=>(f st).bind λx st=>pq x st):=λp A s tk Q E ar R z=>
 isTrue_not (h p A s tk _ E ar R (by
  have z:aC cx sl p s rB ((bP f p.σ).bind λt st=>(Rs.ok (RV.v (.bool (!t))) st).bind λv st=>cm v st) Q E:=by unfold bP at z⊢;rw[Rs.asc] at z⊢;refine cast ?_ z;refine congrArg (λg=>aC cx sl p s rB ((f p.σ).bind g) Q E) (funext λx=>funext λst=>?_);unfold pq;rw[Rs.asc]
  exact z.bd λa t P tk o r z=>by subst r;exact z _ _ _ _ (Ok.refl o.r) rfl))
variable{fc:Fm RV}
theorem TA(hc:dM cx sl (isTrue c cx.env (eval c cx.env)) (bP fc))(ha:aH cx sl (eval a cx.env) f)(hb:aH cx sl (eval b cx.env) g):
  aH cx sl (eval (.IfExp c a b pos) cx.env) λst=>(fc st).bind λx st=>(cm x st).bind λt st=>cond t (f st) (g st):=λp A s tk Q E ar R z=>
 IfExp_ (hc p A s tk _ E ar R (aC.bd (k:=λt st=>cond t (f st) (g st)) (by unfold bP;rw[Rs.asc];exact z) λt t' P tk o r z=>by
  subst r;cases t with
  |true=>exact ha P A s tk Q E ar o.r z
  |false=>exact hb P A s tk Q E ar o.r z))
theorem TB(hc:dM cx sl (isTrue c cx.env (eval c cx.env)) (bP fc))(ha:dM cx sl (isTrue a cx.env (eval a cx.env)) (bP f))(hb:dM cx sl (isTrue b cx.env (eval b cx.env)) (bP g)):
  dM cx sl (isTrue (.IfExp c a b pos) cx.env whole) (bP λst=>(fc st).bind λx st=>(cm x st).bind λt st=>cond t (f st) (g st)):=λp A s tk Q E ar R z=>
 isTrue_IfExp (hc p A s tk _ E ar R (aC.bd (k:=λt st=>(cond t (f st) (g st)).bind λv st=>cm v st) (by unfold bP at z⊢;rw[Rs.asc] at z⊢;simp only[Rs.asc] at z;exact z) λt t' P tk o r z=>by
  subst r;cases t with
  |true=>exact ha P A s tk Q E ar o.r z
  |false=>exact hb P A s tk Q E ar o.r z))
theorem TL(he:isTrue x cx.env (eval x cx.env)=(do let v←eval x cx.env;standAt x.pos;holding [v] (truthy v)))(h:aH cx sl (eval x cx.env) f):dM cx sl (isTrue x cx.env (eval x cx.env)) (bP f):=λp A s tk Q E ar R z=>isTrue_plain (h.nest (λP a y e va=>qe va) ar R z) he
variable{rest:List Expr}
noncomputable def jQ(t0:Bool)(f g:Fm RV):Fm RV:=λst=>(f st).bind λx st=>(cm x st).bind λt st=>cond (t==t0) (g st) (.ok x st)
theorem BE{t0:Bool}{v:Value}{x:RV}{Q:Value→Shared→Prop}{E:Value→Shared→Prop}{A:Around}{s:Shared}{tk:Tok}{u:Sem Value}(ar:AR cx A)(R:SR cx sl p)(va:p.val cx v x)(hb:aH cx sl u g)(z:aC cx sl p s (rV cx) ((cm x p.σ).bind λt st=>cond (t==t0) (g st) (.ok x st)) Q E):
  wpAny (model pw cx.w) A (truthy v) (λt s₁=>cond (t==t0) (wpAny (model pw cx.w) A u Q E s₁) (Q v s₁)) E (Sh s p.h tk):=qe va A s tk _ E ar R (z.bd λt t' P tk o r z=>by
  subst r;cases q:t==t0 with
  |true=>rw[q] at z;exact hb P A s tk Q E ar o.r z
  |false=>rw[q] at z;exact z _ _ _ _ (Ok.refl o.r) (cG o.e va))
theorem FO(ha:aH cx sl (eval a cx.env) f)(hb:aH cx sl (eval (.BoolOp .And (b::rest) pos) cx.env) g):aH cx sl (eval (.BoolOp .And (a::b::rest) pos) cx.env) (jQ true f g):=λp A s tk Q E ar R z=>BoolOp_and (ha p A s tk _ E ar R (z.bd λv x P tk o va z=>dZ (BE ar o.r va hb z) (λt s h=>by cases t<;>exact h) λ_ _ h=>h))
theorem FU(ha:aH cx sl (eval a cx.env) f)(hb:aH cx sl (eval (.BoolOp .Or (b::rest) pos) cx.env) g):aH cx sl (eval (.BoolOp .Or (a::b::rest) pos) cx.env) (jQ false f g):=λp A s tk Q E ar R z=>BoolOp_or (ha p A s tk _ E ar R (z.bd λv x P tk o va z=>dZ (BE ar o.r va hb z) (λt s h=>by cases t<;>exact h) λ_ _ h=>h))
theorem FS{op:BoolOp}(h:aH cx sl (eval a cx.env) f):aH cx sl (eval (.BoolOp op [a] pos) cx.env) f:=λp A s tk Q E ar R z=>BoolOp_one (h p A s tk Q E ar R z)
theorem BD{t0:Bool}{s:Shared}{Q:Bool→Shared→Prop}{E:Value→Shared→Prop}(z:aC cx sl p s rB (bP (jQ t0 f g) p.σ) Q E):aC cx sl p s rB ((bP f p.σ).bind λt st=>cond (t==t0) (bP g st) (.ok t st)) Q E:=by
 unfold bP jQ at z;unfold bP;simp only[Rs.asc] at z⊢;refine cast (congrArg (λk=>aC cx sl p s rB ((f p.σ).bind k) Q E) (funext λx=>funext λst=>?_)) z;cases e:cm x st with
 |bad=>rfl
 |err=>rfl
 |ok t st'=>
  obtain⟨rfl,e'⟩:=LC e;show Rs.bind (cond (t==t0) _ _) _=cond (t==t0) _ _;cases t==t0
  ·show cm x st'=_;exact e
  ·rfl
theorem FN(ha:dM cx sl (isTrue a cx.env (eval a cx.env)) (bP f))(hb:dM cx sl (isTrue (.BoolOp .And rest pos) cx.env whole) (bP g)):dM cx sl (isTrue (.BoolOp .And (a::rest) pos) cx.env whole) (bP (jQ true f g)):=λp A s tk Q E ar R z=>
 isTrue_and (ha p A s tk _ E ar R ((BD z).bd λt t' P tk o r z=>by
  subst r;cases t with
  |true=>exact hb P A s tk Q E ar o.r z
  |false=>exact z _ _ _ _ (Ok.refl o.r) rfl))
theorem FT(ha:dM cx sl (isTrue a cx.env (eval a cx.env)) (bP f))(hb:dM cx sl (isTrue (.BoolOp .Or rest pos) cx.env whole) (bP g)):dM cx sl (isTrue (.BoolOp .Or (a::rest) pos) cx.env whole) (bP (jQ false f g)):=λp A s tk Q E ar R z=>
 isTrue_or (ha p A s tk _ E ar R ((BD z).bd λt t' P tk o r z=>by
  subst r;cases t with
  |false=>exact hb P A s tk Q E ar o.r z
  |true=>exact z _ _ _ _ (Ok.refl o.r) rfl))
theorem Tf(ha:dM cx sl (isTrue a cx.env (eval a cx.env)) (bP f)):dM cx sl (isTrue (.BoolOp .And [a] pos) cx.env whole) (bP f):=λp A s tk Q E ar R z=>
 isTrue_and (ha p A s tk _ E ar R (aC.bd (k:=λt st=>.ok t st) (by cases e:bP f p.σ<;>(rw[e] at z;exact z)) λt t' P tk o r z=>by
  subst r;cases t with
  |true=>exact isTrue_and_nil (z _ _ _ _ (Ok.refl o.r) rfl)
  |false=>exact z _ _ _ _ (Ok.refl o.r) rfl))
theorem TH(ha:dM cx sl (isTrue a cx.env (eval a cx.env)) (bP f)):dM cx sl (isTrue (.BoolOp .Or [a] pos) cx.env whole) (bP f):=λp A s tk Q E ar R z=>
 isTrue_or (ha p A s tk _ E ar R (aC.bd (k:=λt st=>.ok t st) (by cases e:bP f p.σ<;>(rw[e] at z;exact z)) λt t' P tk o r z=>by
  subst r;cases t with
  |false=>exact isTrue_or_nil (z _ _ _ _ (Ok.refl o.r) rfl)
  |true=>exact z _ _ _ _ (Ok.refl o.r) rfl))
theorem To{c:Const}{n:Nat}{x:AV}(e:xx c=some x):aH cx sl (eval (.Constant c n pos) cx.env) (aI (.v x)):=λp A s tk Q E ar R z=>by
 cases c<;>first|exact nS e|(cases ak e)
 ·exact Constant_none (z _ _ _ _ (Ok.refl R) (show VR cx.w.params p.h (p.av cx) .none .none from rfl))
 ·exact Constant_bool (z _ _ _ _ (Ok.refl R) (show VR cx.w.params p.h (p.av cx) (.bool _) (.bool _) from rfl))
 ·exact wpAny_Constant_int (z _ _ _ _ (Ok.refl R) (show VR cx.w.params p.h (p.av cx) _ (.int _) from .int _ _))
 ·exact Calls.Constant_str (z _ _ _ _ (Ok.refl R) (show VR cx.w.params p.h (p.av cx) _ (.str _) from .str _ _))
theorem TZ(K0:bq cx){x:Str}{i:Nat}(hn:ae sl i=some x)(hd:(x==("__debug__":Str))=false):aH cx sl (eval (.Name x pos) cx.env) (uh i):=λp A s tk Q E ar R z=>by
 refine sK ?_ hd;unfold uh at z;revert z;cases e:ae p.σ.loc i with
 |none=>exactλz=>False.elim z
 |some y=>cases y with
  |none=>exactλz=>False.elim z
  |some y=>exactλz=>WA K0 R hn e λv hv=>z _ _ _ _ (Ok.refl R) hv
theorem FQ(K0:bq cx){x:Str}{v:Value}{y:AV}(hx:cx.env.kindOf x=some .globalImplicit)(e:fQ (KF cx.w.params) x=some v)(hd:(x==("__debug__":Str))=false)(hv:∀{h X},(KF cx.w.params).In h→(∀a o,(KF cx.w.params).lookup a=some o→¬X a)→VR cx.w.params h X v y):
  aH cx sl (eval (.Name x pos) cx.env) (aI (.v y)):=λp A s tk Q E ar R z=>tz K0.kind hx (q8 K0 (R.K K0) e (z _ _ _ _ (Ok.refl R) (hv (R.K K0) (R.notX K0)))) hd
theorem vH:hZ cx sl (spliced (backTo pos (starEach [] cx.env))) (aI []):=λp A s tk Q E ar R z=>qu (z _ _ _ _ (Ok.refl R) Z2.nil)
theorem sq{e:Expr}{l:Fm (List RV)}(he:starEach (e::rest) cx.env=(false,eval e cx.env)::starEach rest cx.env)(h:aH cx sl (eval e cx.env) f)(hl:hZ cx sl (spliced (backTo pos (starEach rest cx.env))) l):
  hZ cx sl (spliced (backTo pos (starEach (e::rest) cx.env))) λst=>(f st).bind λy st=>(l st).bind λr st=>.ok (y::r) st:=λp A s tk Q E ar R z=>kD (h p A s tk _ E ar R (z.bd λv x P tk o va z=>hl P A s tk _ E ar o.r (z.bd λvs xs P' tk o' vs' z=>z _ _ _ _ (Ok.refl o'.r) (Z2.cons (cG o'.e va) vs')))) he
theorem TY{es:List Expr}{n:Nat}{l:Fm (List RV)}(h:hZ cx sl (spliced (backTo pos (starEach es cx.env))) l):aH cx sl (eval (.Tuple es n pos) cx.env) λst=>(l st).bind λxs st=>qR xs st:=λp A s tk Q E ar R z=>
 Tuple_ (h p A s tk _ E ar R (z.bd λvs xs P tk o va z=>z.opt λt q z=>z.gd λg z=>by have vt:=pU (qt q▸va);refine sM (o.r.laidT (E:=E) vt z) ?_;show vs.toArray.size≤sizeLine;rw[bM,vt.length];exact gt g))
theorem TC{own:Bool}{es:List Expr}{l:Fm (List RV)}(h:hZ cx sl (spliced (backTo pos (starEach es cx.env))) l):aH cx sl (eval (.List es pos) cx.env) λst=>(l st).bind λxs st=>xR own xs st:=λp A s tk Q E ar R z=>
 List_ (h p A s tk _ E ar R (z.bd λvs xs P tk o va z=>z.gd λg z=>by refine sM (o.r.laid (c:=0) va (λb o e=>bc _ e) (gF _ _) (ej _ rfl) z) ?_;show vs.toArray.size≤sizeLine;rw[bM,Z2.length va];exact gt g))
end
end
section
open PySem.SeqAt
noncomputable def xt:List (Addr×List Nat):=[(715,[0]),(743,[0]),(771,[1]),(799,[1,2]),(827,[3,4,5]),(855,[0]),(883,[6,7]),(911,[8,9]),(939,[10,11,7]),
 (1042,[12,13,14,15,16,17,18,19,20]),(1064,[21,1,22,23,0,24,25,26,27]),(1253,[28])]
noncomputable def cV(a:Nat):List Nat→Bool
 |[]=>false
 |b::l=>Nat.beq a b||cV a l
theorem Eu{a b:Nat}{l:List Nat}:cV a (b::l)=(Nat.beq a b||cV a l):=rfl
noncomputable def tS(c:Addr)(i:Nat):Bool:=xt.any λq=>Nat.beq q.1 c&&cV i q.2
theorem Kj(P:Params):(xt.all λq=>plainGet (KF P) q.1 (nm 0)&&hasDictIn (KF P) q.1&&q.2.all λi=>findIn (KF P) (.ref q.1) (nm i)==some none)=true:=by kernel_rfl
theorem kZ{a:Nat}:∀{l:List Nat},cV a l=true→a∈l
 |[],h=>nB h
 |b::l,h=>by
  cases e:Nat.beq a b with
  |true=>rw[em e];exact .head _
  |false=>exact .tail _ (kZ (by rw[Eu,e] at h;exact h))
theorem B6{P:Params}{c:Addr}{i:Nat}(h:tS c i=true):plainGet (KF P) c (nm i)=true∧hasDictIn (KF P) c=true∧findIn (KF P) (.ref c) (nm i)=some none:=by obtain⟨q,m,h⟩:=List.any_eq_true.mp h;have e:q.1=c:=em (aA h).1;have:=aF (List.all_eq_true.mp (Kj P) q m);subst e;exact⟨this.1,this.2.1,beq_iff_eq.mp (List.all_eq_true.mp this.2.2 i (kZ (aA h).2))⟩
theorem QU:(gx.map λs=>(Str.ofString s).cps.toList).Nodup:=by decide+kernel
theorem ED{i:Nat}(h:i<gx.length):(gx.map λs=>(Str.ofString s).cps.toList)[i]? =some (nm i).cps.toList:=by unfold nm;rw[cJ,oS,oR h];rfl
theorem QT{i j:Nat}(hi:i<gx.length)(hj:j<gx.length)(e:nm i=nm j):i=j:=(List.getElem?_inj (by rw[aU];exact hi) QU).mp (by rw[ED hi,ED hj,e])
noncomputable def jY{α:Type}(i:Nat):List (Nat×α)→Option α
 |[]=>none
 |q::l=>cond (Nat.beq q.1 i) (some q.2) (jY i l)
theorem Qr{α:Type}{i:Nat}{q:Nat×α}{l:List (Nat×α)}:jY i (q::l)=cond (Nat.beq q.1 i) (some q.2) (jY i l):=rfl
theorem DW{i j:Nat}{h:Int}{t:Tok}{v:Value}(hi:i<gx.length)(hj:j<gx.length):(⟨h,.str (nm j) t,v⟩:DictEntry).key.isStr (nm i)=Nat.beq j i:=by show(nm j==nm i)=Nat.beq j i;rw[qj,o7,Nat.beq_eq];exact⟨QT hj hi,λe=>by rw[e]⟩
theorem Nx{x:Str}{e:DictEntry}{es:List DictEntry}{b:Bool}(h:e.key.isStr x=b)(hs:(∃s t,e.key=.str s t)):getL x (e::es)=cond b (some (some e.val)) (getL x es):=by
 unfold getL;rw[List.find?_cons,h];cases b with
 |true=>rfl
 |false=>obtain⟨s,t,q⟩:=hs;rw[wn,show e.refKey=false from by unfold DictEntry.refKey;rw[q]];rfl
theorem FL{P:Params}{h:Heap}{X:Addr→Prop}{M:Sp}{i:Nat}(hi:i<gx.length){es:List DictEntry}{fs:List (Nat×RV)}(r:eE P h X M es fs):(jY i fs).casesOn (getL (nm i) es=some none) (λx=>∃v,getL (nm i) es=some (some v)∧RR P h X M v x):=Z2.rec' (C:=λ(es:List DictEntry)(fs:List (Nat×RV))=>(jY i fs).casesOn (getL (nm i) es=some none) (λx=>∃v,getL (nm i) es=some (some v)∧RR P h X M v x)) rfl (λ{e x es l} a _ ih=>by
  obtain⟨hj,r⟩:=a;rw[Nx (DW hi hj) ⟨_,_,rfl⟩,Qr];cases Nat.beq x.1 i with
  |true=>exact⟨_,rfl,r⟩
  |false=>exact ih) r
theorem Td{P:Params}{h:Heap}{X:Addr→Prop}{M:Sp}{i:Nat}(hi:i<gx.length){es:List DictEntry}{fs:List (Nat×RV)}(r:eE P h X M es fs){x:RV}(e:jY i fs=some x):∃v,getL (nm i) es=some (some v)∧RR P h X M v x:=by have:=FL hi r;rw[e] at this;exact this
noncomputable def Ri(x:AV):Bool:=match x with
 |.glob _=>false
 |_=>true
noncomputable def Fa(a:RV):Bool:=match a with
 |.v x=>Ri x
 |.loc _=>true
theorem rg{h:Heap}{x c d:Addr}{es:List DictEntry}{k:Nat}(e1:h.get? x=some (fR c d))(e2:h.get? d=some (dictOf es k)):InstAt h x (fR c d) c (some (dictOf es k)):=⟨e1,rfl,rfl,e2⟩
theorem Rr{P:Params}{h:Heap}{X:Addr→Prop}{M:Sp}{v:Value}{a:RV}(r:RR P h X M v a)(o:Fa a=true):handedIn v=true:=by
 cases a with
 |loc i=>exact RR.onLoc (C:=λv=>handedIn v=true) r λ_ _=>rfl
 |v x=>
  have r:VR P h X v x:=r;cases x<;>first|exact nB o|skip
  ·rw[show v=.none from r];rfl
  ·rw[show v=.bool _ from r];rfl
  ·exact VR.onInt (C:=λv=>handedIn v=true) r λ_=>rfl
  ·exact VR.onStr (C:=λv=>handedIn v=true) r λ_ _ _=>rfl
  ·exact VR.onTup (C:=λv=>handedIn v=true) r λ_ _ _ _ _ _=>rfl
  ·exact VR.onLst (C:=λv=>handedIn v=true) r λ_ _ _ _ _ _=>rfl
  ·exact VR.onDct (C:=λv=>handedIn v=true) r λ_ _ _ _ _ _=>rfl
  ·exact VR.onInst (C:=λv=>handedIn v=true) r λ_ _ _ _ _ _ _ _ _=>rfl
  ·exact fG.rec (motive:=λv _=>handedIn v=true) (λ_ _ _ _ _ _ _ _ _ _=>rfl) r
noncomputable def t5(i:Nat)(a:RV):Fm RV:=λst=>aj (nV a st.H) (λq=>aj (jY i q.2) λx=>aK (tS q.1 i&&Fa x&&Nat.blt i gx.length) (aI x)) st
theorem gv{i n:Nat}(h:Nat.blt i n=true):i<n:=Nat.blt_eq.mp h
noncomputable def xX(str:Bool)(k:AV)(a:RV):Fm RV:=fS λst=>aj (pc a st.H) λl=>aK (cS str l) (aj (fA k l) aI)
noncomputable def bH(a i:RV):Fm RV:=jR (bJ eO i) (λk=>fS λst=>jR (oA a st.H) (λl=>aK (decide (0≤k)&&decide (k<1000000)) (aj (ae l k.toNat) aI)) (xX false (.int k) a)) (aj (bJ kE i) λs=>xX true (.str s) a)
theorem UK(slice:Expr)(o i:Value):∃ops,subscripted slice false o i=operate ops (getItem o i):=by
 cases slice with
 |Slice _ _ st _=>cases st<;>exact⟨_,rfl⟩
 |_=>exact⟨_,rfl⟩
theorem vR{w:World}{A:Around}{s:Shared}{value slice:Expr}{o i:Value}{T id:String}{E:Value→Shared→Prop}{Q:Value→Shared→Prop}(hT:s.TypeIs o T)
  (hl:typeLookup (.type T) "__getitem__"=pure (some (.builtin id)))(hg:wpAny (model pw w) A (getItem o i) Q E s):wpAny (model pw w) A (subscriptTail value slice o i) Q E s:=(UK slice o i).elim λ_ h=>tail_any hT hl hg h
theorem Z2.nth'{α β:Type}{R:α→β→Prop}{vs:List α}{l:List β}(r:Z2 R vs l){j:Nat}{x:β}(e:ae l j=some x):∃v,vs[j]? =some v∧R v x:=by rw[cJ] at e;obtain⟨lt,e⟩:=List.getElem?_eq_some_iff.mp e;have lt':j<vs.length:=r.length▸lt;exact⟨vs[j],oR lt',e▸r.at j lt' lt⟩
noncomputable def RT(x:AV):Option (Option Int):=match x with
 |.none=>some none
 |.int i=>some (some i)
 |_=>none
noncomputable def lg(a:RV):Option (Option Int):=bJ RT a
theorem zB{P:Params}{h:Heap}{X:Addr→Prop}{M:Sp}{v:Value}{a:RV}{k:Option Int}(r:RR P h X M v a)(e:lg a=some k):IsPart v k:=aL e λx e1 e=>by
 have r:VR P h X v x:=RR.cast (j8 e1) r;cases x<;>first|exact nS e|(rw[←ak e])
 ·rw[show v=.none from r];exact .none
 ·exact VR.onInt (C:=λv=>IsPart v (some _)) r λt=>.int _ _
noncomputable def vM{α:Type}(l:List α)(lo hi z:Option Int):Option (List α):=z.casesOn
 (some ((l.drop (lo.elim 0 (clipAt l.length))).take (hi.elim l.length (clipAt l.length)-lo.elim 0 (clipAt l.length))))
 λk=>lo.casesOn (hi.casesOn (cond (decide (k= -1)) (some l.reverse) none) λ_=>none) λ_=>none
theorem Uq{P:Params}{h:Heap}{X:Addr→Prop}{M:Sp}{vs:List Value}{l r:List RV}{x y z:Option Int}(rr:a9 P h X M vs l)(e:vM l x y z=some r):a9 P h X M (slicePick vs.toArray x y z).toList r∧∀k,z=some k→k= -1:=by
 cases z with
 |none=>refine⟨?_,λk e=>nS e⟩;rw[←ak e,slicePick_plain,bM,Z2.length rr];exact(rr.drop _).take _
 |some k=>
  cases x with
  |some _=>exact nS e
  |none=>cases y with
   |some _=>exact nS e
   |none=>
    have e:cond (decide (k= -1)) (some l.reverse) none=some r:=e;cases q:decide (k= -1) with
    |false=>rw[q] at e;exact nS e
    |true=>rw[q] at e;have q:=bI q;refine⟨?_,λ_ e=>ak e▸q⟩;rw[←ak e,q,krv_pick];exact rr.reverse
noncomputable def l6(own:Bool)(a lo hi st:RV):Fm RV:=λσ=>aj (gW a σ.H) (λl=>aj (lg lo) λx=>aj (lg hi) λy=>aj (lg st) λz=>aj (vM l x y z) λr=>aK (bR l.length) (iR own r)) σ
section
variable{cx:Cx}{sl:List Str}{p:Pt}{e i:Expr}{pos sp:Pos}{f g:Fm RV}
theorem Jj(K0:bq cx){i:Nat}{v:Value}{a:RV}(hv:p.val cx v a):aZ cx sl p (rV cx) (getAttr v (nm i) true) (t5 i a):=.opt (o:=nV a p.σ.H) λq hq=>.opt λx hx=>.gd λo A s tk Q E ar R z=>R.onInst hv hq λb d es n e1 e2 r=>
  (Td (gv (aF o).2.2) r hx).elim λu g=>have c:=B6 (P:=cx.w.params) (aF o).1
   get_value (s:=Sh s p.h tk) (R.K K0) (rg e1 e2) (Fg c.1).1 (findObj_own c.2.1 c.2.2 rfl ((lookIn_dict _ _ _).trans g.1)) (Rr g.2 (aF o).2.1) (z _ _ _ _ (Ok.refl R) g.2)
theorem Tg(K0:bq cx){i:Nat}(he:attributeBase e (nm i) cx.env (eval e cx.env)=eval e cx.env)
  (h:aH cx sl (eval e cx.env) f):aH cx sl (eval (.Attribute e (nm i) pos) cx.env) λst=>(f st).bind λx st=>t5 i x st:=λp A s tk Q E ar R z=>by
 have he':eval (.Attribute e (nm i) pos) cx.env=(do
   let o←attributeBase e (nm i) cx.env (eval e cx.env)
   standAt pos.atName
   let r←holding [o] (getAttr o (nm i) true)
   letTemporaryGo e o r
   pure r):=rfl
 rw[he] at he';exact Attribute_any_ (he:=he') (h.nest (λP a y e va=>Jj K0 va) ar R z)
theorem GU{value slice:Expr}{K:Type}[DecidableEq K]{str:Bool}(D:DK cx.w K str){k:K}{v u:Value}{a:RV}(hv:p.val cx v a)(hu:D.knd.is k u=true):aZ cx sl p (rV cx) (subscriptTail value slice v u) (xX str (D.av k) a):=.opt (o:=pc a p.σ.H) λl hl=>.gd λg=>.opt λx hx A s tk Q E ar R z=>R.onDict hv hl λb es n e r _=>(D.get r hx).elim λy h=>
  have m:=D.mapOf (h:=(Sh s p.h tk).heap) e r g
  vR m.typeIs slot_dict_getitem.lookup (wpAny_getItem_of hu m h.1 (z _ _ _ _ (Ok.refl R) h.2))
theorem OV{value slice:Expr}{v u:Value}{a i:RV}(hv:p.val cx v a)(hu:p.val cx u i):aZ cx sl p (rV cx) (subscriptTail value slice v u) (bH a i):=.els (o:=bJ eO i) (λk hk=>VR.onInt (C:=λu=>aZ cx sl p (rV cx) (subscriptTail value slice v u) _) (show VR cx.w.params p.h (p.av cx) u (.int k) from RR.cast (di fe hk) hu) λt=>
  .els (o:=oA a p.σ.H) (λl hl=>.gd λg=>.opt λx hx A s tk Q E ar R z=>by
   refine R.onSeq hv hl λb vs j e1 r=>?_;obtain⟨y,hy,ry⟩:=r.nth' hx;have k0:0≤k:=bI (aA g).1;have k1:k<1000000:=bI (aA g).2;have q:=z _ _ _ tk (Ok.refl R) ry;rcases e1 with e1|e1
   ·have L:(Sh s p.h tk).heap.IsList b vs.toArray:=dw e1;refine vR L.typeIs slot_list_getitem.lookup ?_;exact wpAny_getItem_list L k0 (by omega) (by rw[km];exact hy) q
   ·have L:IsTup (Sh s p.h tk).heap b vs.toArray:=by first|exact⟨_,e1,rfl,j,rfl⟩|exact⟨_,e1,rfl,rfl⟩|(refine⟨_,e1,?_⟩;exact⟨rfl,j,rfl⟩)
    refine vR L.typeIs slot_tuple_getitem.lookup ?_;have lt:k.toNat<vs.length:=(List.getElem?_eq_some_iff.mp hy).1;refine getItem_tuple L (by omega) (by omega) (j:=k.toNat) ?_ (by rw[km];exact hy) q
    have:(0≤k&&k<(vs.toArray.size:Int))=true:=by rw[bM,gJ,tX,tX];omega
    unfold seqIndex?;rw[bQ (Int.not_lt.mpr k0)];exact bF this)
   (GU (dI cx.w) hv (eQ k)))
 (.opt λw hw=>(CM (show VR cx.w.params p.h (p.av cx) u (.str w) from RR.cast (di kG hw) hu)).elim λx q=>by rw[←q.2];exact GU (dS cx.w) hv q.1)
theorem TX(h:aH cx sl (eval e cx.env) f)(hi:aH cx sl (eval i cx.env) g):aH cx sl (eval (.Subscript e i pos) cx.env) λst=>(f st).bind λx st=>(g st).bind λy st=>bH x y st:=λp A s tk Q E ar R z=>Subscript_ (h p A s tk _ E ar R (z.bd λa x P tk o va z=>hi.nest (λP' b y e vb=>OV (cG e va) vb) ar o.r z))
theorem TJ:aH cx sl (evalPart none cx.env) (aI (.v .none)):=λp A s tk Q E ar R z=>by rw[evalPart_none];exact aQ (z _ _ _ _ (Ok.refl R) (show VR cx.w.params p.h (p.av cx) .none .none from rfl))
theorem TK(h:aH cx sl (eval e cx.env) f):aH cx sl (evalPart (some e) cx.env) f:=h
theorem TW{own:Bool}{lo hi st:Option Expr}{f1 f2 f3:Fm RV}(h:aH cx sl (eval e cx.env) f)(h1:aH cx sl (evalPart lo cx.env) f1)(h2:aH cx sl (evalPart hi cx.env) f2)(h3:aH cx sl (evalPart st cx.env) f3):
  aH cx sl (eval (.Subscript e (.Slice lo hi st sp) pos) cx.env) λs=>(f s).bind λx s=>(f1 s).bind λl s=>(f2 s).bind λh s=>(f3 s).bind λz s=>l6 own x l h z s:=λp A s tk Q E ar R z=>
 Subscript_ (h p A s tk _ E ar R (z.bd λv a P0 tk0 o0 va z=>wpAny_Slice (h1 P0 A s tk0 _ E ar o0.r (z.bd λv1 x P1 tk1 o1 vx z=>h2 P1 A s tk1 _ E ar o1.r (z.bd λv2 y P2 tk2 o2 vy z=>h3 P2 A s tk2 _ E ar o2.r (z.bd λv3 w P3 tk3 o3 vw z=>
  aC.opt (o:=gW a P3.σ.H) z λl hl z=>z.opt λi hi z=>z.opt λj hj z=>z.opt λk hk z=>z.opt λr hr z=>z.gd λg z=>by
   have va:=cG o3.e (cG o2.e (cG o1.e va));refine o3.r.onList va hl λb vs c q1 q2=>?_;have PS:=o3.r.push {cls:=.type "slice",data:=.fields #[v1,v2,v3]};have L:(P3.h.push {cls:=.type "slice",data:=.fields #[v1,v2,v3]}).IsList b vs.toArray:=dw (bc _ q1);have rr:=Uq (oH PS.e q2) hr;refine vR L.typeIs slot_list_getitem.lookup ?_;refine wpAny_getItem_list_slice L (Heap.IsSliceOf.new ..) (zB (cG o3.e (cG o2.e vx)) hi) (zB (cG o3.e vy) hj) (zB vw hk) ?_ ?_ (by rw[bM,Z2.length q2];exact gt g)
   ·intro c;exact absurd (rr.2 _ c) (by decide)
   ·have:=PS.r.laid (own:=own) (tk:=tk3) (c:=0) (s:=s) (Q:=Q) (E:=E) rr.1 (λb o e=>bc (cL _ 0) e) (gF _ _) (ej _ rfl) (z.mv PS.e);simpa only[cL,Il] using this))))))
end
end
section
open PySem.SeqAt
noncomputable def RV.below(m:Nat)(a:RV):Bool:=match a with
 |.v _=>true
 |.loc i=>Nat.blt i m
noncomputable def ac.belowB(m:Nat)(o:ac):Bool:=match o with
 |.lst l=>l.all (RV.below m)
 |.dct l=>l.all λq=>RV.below m q.2
 |.inst _ l=>l.all λq=>RV.below m q.2
 |.gone=>true
theorem Z2.monoB{α β:Type}{R R':α→β→Prop}{f:β→Bool}(k:∀{v x},f x=true→R v x→R' v x){vs:List α}{l:List β}(r:Z2 R vs l):l.all f=true→Z2 R' vs l:=Z2.rec' (C:=λvs l=>l.all f=true→Z2 R' vs l) (λ_=>.nil) (λa _ ih q=>.cons (k (aA q).1 a) (ih (aA q).2)) r
section
variable{P:Params}{B h h':Heap}{X X':Addr→Prop}{M M':Sp}{H H':List ac}{m i:Nat}{b:Addr}
theorem RR.low(u:Up h X h' X'){v:Value}{x:RV}(b:x.below m=true)(r:RR P h X M v x):RR P h' X' (M.take m) v x:=by
 cases x with
 |v x=>exact VR.up u r
 |loc i=>exact RR.onLoc r λp e=>RR.loc (by rw[pG,bF (gv b)];exact e)
theorem cY.low(u:Up h X h X'){p:Addr×Addr}{o:ac}:o.belowB m=true→cY P h X M p o→cY P h X' (M.take m) p o:=ac.casesOn (motive:=λo=>o.belowB m=true→cY P h X M p o→cY P h X' (M.take m) p o) o
  (λl b x=>d8.on (C:=λp=>cY P h X' (M.take m) p (.lst l)) x λ_ _ _ e r=>d8.mk e (Z2.monoB (RR.low u) r b))
  (λl b x=>d8.on (C:=λp=>cY P h X' (M.take m) p (.dct l)) x λ_ _ _ e r=>d8.mk e (Z2.monoB (f:=λq:AV×RV=>RV.below m q.2) (λb r=>⟨r.1,RR.low u b r.2⟩) r b))
  (λc l b x=>hU.on (C:=λp=>cY P h X' (M.take m) p (.inst c l)) x λ_ _ _ _ e e' n r=>hU.mk e e' n (Z2.monoB (f:=λq:Nat×RV=>RV.below m q.2) (λb r=>fu.up (RR.low u b) r) r b))
  (λ_ _=>trivial)
theorem mo{α:Type}{l:List α}{a:α}(e:ae (l.take m) i=some a):i<m∧ae l i=some a:=by
 rw[pG] at e;by_cases c:i<m
 ·rw[bF c] at e;exact⟨c,e⟩
 ·rw[bQ c] at e;cases e
theorem cO.take(x:cO (M.take m) (H.take m) i b):cO M H i b∧i<m:=x.on λp o e1 e2 l e3=>⟨.mk (mo e1).2 (mo e2).2 l e3,(mo e1).1⟩
theorem bn.take(x:bn (M.take m) (H.take m) b):bn M H b:=x.imp λ_ x=>x.take.1
theorem HR.sub(G:HR P B X h M H)(len:M'.length=H'.length)(sp:e8 M' M)(lv:∀i b,cO M' H' i b→cO M H i b)(x2:∀b,X' b→X b∨bn M H b)
  (own:Up h (HA X M H) h (HA X' M' H')→∀i a o,ae M' i=some a→ae H' i=some o→cY P h (HA X' M' H') M' a o):HR P B X' h M' H'∧Up h (HA X M H) h (HA X' M' H'):=have lv':∀b,bn M' H' b→bn M H b:=λb z=>z.imp λi=>lv i b;have to:∀b,HA X' M' H' b→HA X M H b:=λb z=>z.elim (λz=>(x2 b z).imp id .inr) λz=>.inr (z.imp id (lv' b));have u:Up h (HA X M H) h (HA X' M' H'):=⟨λ_ _ e _=>e,λb _ _ n z=>n (to b z)⟩
 ⟨⟨G.base,λb o e n=>⟨λz=>(x2 b z).elim (G.clear b o e n).1 (G.clear b o e n).2,λz=>(G.clear b o e n).2 (lv' b z)⟩,G.tabs.up u λ_ _ _ e=>e,λb z=>G.low b (to b z),len,λi a e=>G.mlt i a (sp i a e),own u,
  λi j b x y=>G.apart i j b (lv i b x) (lv j b y),λb z=>G.offA b (lv' b z)⟩,u⟩
theorem HR.taken(G:HR P B X h M H)(ab:(H.take m).all (ac.belowB m)=true)(x2:∀b,X' b→X b∨bn M H b):HR P B X' h (M.take m) (H.take m)∧Up h (HA X M H) h (HA X' (M.take m) (H.take m)):=G.sub (by rw[tm,tm,G.len]) (λi a e=>(mo e).2) (λi b x=>x.take.1) x2 λu i a o e1 e2=>(G.own i a o (mo e1).2 (mo e2).2).low u (List.all_eq_true.mp ab o (AS ((cJ _ i).symm.trans e2)))
theorem Vf(sp:e8 (M.take m) M')(hl:M'.length=(M.take m).length):M'=M.take m:=List.ext_getElem? λi=>by
 rw[←cJ,←cJ];cases e:ae (M.take m) i with
 |some p=>exact sp i p e
 |none=>
  cases e':ae M' i with
  |none=>rfl
  |some q=>exact(jm (l:=M.take m) (n:=i) (hl▸gh e')).elim λa ha=>nS (e.symm.trans ha)
theorem EL{α:Type}{l r:List α}{a:α}(hl:l.length=m)(e:ae (l++r.drop m) i=some a):(i<m∧ae l i=some a)∨(m≤i∧ae r i=some a):=by
 rw[n9,hl] at e;by_cases c:i<m
 ·rw[bF c] at e;exact .inl ⟨c,e⟩
 ·have c':=Nat.not_lt.mp c;rw[bQ c,cJ,List.getElem?_drop,A2 c'] at e;exact .inr ⟨c',(cJ _ _).trans e⟩
theorem HR.back(G:HR P B X h M H)(lm:m<H.length)(e:HX cA h (M.take m) (H.take m) h' M' H')(G':HR P B (λb=>X b∨bn M H b) h' M' H')(kl:H'.length=m):
  HR P B X h' M (H'++H.drop m)∧HX cA h M H h' M (H'++H.drop m)∧Up h' (HA (λb=>X b∨bn M H b) M' H') h' (HA X M (H'++H.drop m))∧e8 M' M:=have lt:(M.take m).length=m:=by rw[tm,G.len];exact A5 (f8 lm)
 have hM:M'=M.take m:=Vf e.sp (by rw[G'.len,kl,lt]);have spM:e8 M' M:=λi q e1=>(mo (hM▸e1)).2;have mM:∀{i a},i<m→ae M i=some a→ae M' i=some a:=λc e=>by rw[hM,pG,bF c];exact e
 have mix:∀{i b},cO M (H'++H.drop m) i b→cO M' H' i b∨(m≤i∧cO M H i b):=λx=>x.on λp o e1 e2 l e3=>(EL kl e2).imp (λz=>.mk (mM z.1 e1) z.2 l e3) λz=>⟨z.1,.mk e1 z.2 l e3⟩;have mix':∀{b},bn M (H'++H.drop m) b→bn M' H' b∨bn M H b:=λz=>z.elim λi x=>(mix x).imp (λx=>⟨i,x⟩) λx=>⟨i,x.2⟩;have back:∀b,HA X M (H'++H.drop m) b→HA (λb=>X b∨bn M H b) M' H' b:=λb z=>z.elim (λz=>.inl (.inl z)) λz=>z.elim (λz=>.inr (.inl z)) λz=>(mix' z).elim (λz=>.inr (.inr z)) λz=>.inl (.inr z);have far:∀{i b},m≤i→cO M H i b→¬bn (M.take m) (H.take m) b:=λc x y=>y.elim λj y=>absurd y.take.2 (Nat.not_lt.mpr (G.apart _ _ _ x y.take.1▸c));have keep:∀b o,h.get? b=some o→¬Tc cA M H b→h'.get? b=some o:=λb o q n=>e.keep b o q λz=>n (z.imp id λz=>z.imp id bn.take);have lv:∀b,bn M (H'++H.drop m) b→bn M H b∨h.objs.size≤b:=λb z=>(mix' z).elim (λz=>(e.live b z).imp bn.take id) .inl;have e2:HX cA h M H h' M (H'++H.drop m):=⟨λ_ _ e=>e,keep,e.size,lv,ml⟩;have u2:=e2.up (X:=X) λ_ z=>z.elim;have u3:Up h' (HA (λb=>X b∨bn M H b) M' H') h' (HA X M (H'++H.drop m)):=⟨λ_ _ e _=>e,λb o _ n z=>n (back b z)⟩;have no:∀{i j b},cO M' H' i b→m≤j→cO M H j b→i=j:=λx c y=>((e.live _ ⟨_,x⟩).elim (far c y) λq=>absurd (G.low _ (.inr (.inr ⟨_,y⟩))) (Nat.not_lt.mpr q)).elim
 ⟨⟨G'.base,λb o q n=>⟨λz=>(G'.clear b o q n).1 (.inl z),λz=>(mix' z).elim (G'.clear b o q n).2 λz=>(G'.clear b o q n).1 (.inr z)⟩,G'.tabs.up u3 λ_ _ _ e=>e,λb z=>G'.low b (back b z),
   by rw[el,AO,kl,G.len,A2 (f8 lm)],λi a q=>⟨dK (G.mlt i a q).1 e.size,dK (G.mlt i a q).2 e.size⟩,
   λi a o e1 e2=>(EL kl e2).elim (λz=>(G'.own i a o (mM z.1 e1) z.2).up u3 spM λ_ _ _ _ e=>e) λz=>(G.own i a o e1 z.2).up u2 (λ_ _ e=>e) λl b o' hb q=>e.keep b o' q λy=>y.elim id λy=>y.elim (G.offA b ⟨i,.mk e1 z.2 l hb⟩) (far z.1 (.mk e1 z.2 l hb)),
   λi j b x y=>(mix x).elim (λx=>(mix y).elim (G'.apart i j b x) λy=>no x y.1 y.2) λx=>(mix y).elim (λy=>(no y x.1 x.2).symm) λy=>G.apart i j b x.2 y.2,
   λb z=>(mix' z).elim (G'.offA b) (G.offA b)⟩,e2,u3,spM⟩
end
noncomputable def g9(B:Heap)(fr:List Env)(h:Heap)(M:Sp)(H:List ac):Prop:=∀env∈fr,env.scope.kind≠.module∧∃L,env.frame=some L∧B.get? L=none∧¬Tc cA M H L∧oW h L
noncomputable def lB(Q:Value→Shared→Prop)(E:Value→Shared→Prop):Result→Shared→Prop:=λr s'=>match r with|.ok (.ret v)=>Q v s'|.ok _=>False|.error e=>E e s'
noncomputable def fH(P:Params)(B:Heap)(X:Addr→Prop)(fr:List Env)(h:Heap)(M:Sp)(H:List ac)(s:Shared)(r:Rc)(Q:Value→Shared→Prop)(E:Value→Shared→Prop):Prop:=Rc.casesOn r False (∀e h' tk,s8 B fr e h'→E e (Sh s h' tk)) (λx H'=>∀v h' M' tk,HX cA h M H h' M' H'→HR P B X h' M' H'→RR P h' (HA X M' H') M' v x→Q v (Sh s h' tk))
noncomputable def eY(w:World)(B:Heap)(n:Nat)(fo:Fo):Prop:=∀(X:Addr→Prop)(s:Shared)(h:Heap)(tk:Tok)(M:Sp)(H:List ac)(fr:List Env)(A:Around)(f:AV)(fv:Value)(args:List RV)(vs:List Value)
  (Q:Value→Shared→Prop)(E:Value→Shared→Prop),Rm n A→A.frames=some fr→g9 B fr h M H→HR w.params B X h M H→VR w.params h (HA X M H) fv f→a9 w.params h (HA X M H) M vs args→fH w.params B X fr h M H s (fo f args H) Q E→
 codeAny (model pw w) A (.call fv ⟨vs,[]⟩) (lB Q E) (Sh s h tk)
noncomputable def C5:List Nat:=[30,37,45,52,59,66,73,80,87,94,101,108,115,179,186,193,198,205,210,217,224,231,238,245,252,257,264,269,276,283,325,355,362,418,482,489,508,522,529,536,543,611,618,625,646,653,660,665,672,679,686,715,743,771,799,827,855,883,911,939,951,958,963,970,977,982,989,996,1003,1042,1064,1253,1264,1271,1278,1285,1292,1299,1306,1311,1316,1321,1328,1333,1340,1347,1025,1032,1089,1096,1103,1110,1117,1124,1145,1152,1173,1201,1208,1215,1236]
noncomputable def uQ:List (Nat×Nat×Nat):=[⟨1042,39,1025⟩,⟨1042,40,1032⟩,⟨1253,31,1089⟩,⟨1253,30,1096⟩,⟨1253,32,1103⟩,⟨1253,33,1110⟩,⟨1253,34,1117⟩,⟨1253,35,1124⟩,⟨1253,36,1145⟩,⟨1253,37,1152⟩,⟨1253,21,1173⟩,⟨1253,0,1201⟩,⟨1253,24,1208⟩,⟨1253,25,1215⟩,⟨1253,38,1236⟩]
noncomputable def uj(a:Addr):Bool:=cV a C5
theorem LR(P:Params):(C5.all λa=>keepIn (KF P) (.ref a))=true:=by kernel_rfl
theorem C6{P:Params}{a:Addr}(h:uj a=true):keepIn (KF P) (.ref a)=true:=List.all_eq_true.mp (LR P) a (kZ h)
noncomputable def n4(c:Addr)(j:Nat):List (Nat×Nat×Nat)→Option Nat
 |[]=>none
 |q::l=>cond (Nat.beq q.1 c&&Nat.beq q.2.1 j) (some q.2.2) (n4 c j l)
theorem QF{c j:Nat}{q:Nat×Nat×Nat}{l:List (Nat×Nat×Nat)}:n4 c j (q::l)=cond (Nat.beq q.1 c&&Nat.beq q.2.1 j) (some q.2.2) (n4 c j l):=rfl
theorem QE(P:Params):(uQ.all λq=>(plainGet (KF P) q.1 (nm 0)&&findIn (KF P) (.ref q.1) (nm q.2.1)==some (some (.ref q.2.2))&&isFn (KF P) (.ref q.2.2))&&Nat.blt q.2.1 gx.length)=true:=by kernel_rfl
theorem Ev{c j f:Nat}:∀{l:List (Nat×Nat×Nat)},n4 c j l=some f→(c,j,f)∈l
 |[],h=>nS h
 |(c',j',f')::l,h=>by
  rw[QF] at h;cases q:Nat.beq c' c&&Nat.beq j' j with
  |true=>rw[q] at h;rw[←em (aA q).1,←em (aA q).2,←ak h];exact .head _
  |false=>rw[q] at h;exact .tail _ (Ev h)
noncomputable def SZ(v:Value):Bool:=match v with
 |.ref a=>uj a
 |_=>false
noncomputable def jL(g:AV):Bool:=match g with
 |.glob v=>SZ v
 |.clos _=>true
 |_=>false
noncomputable def Rc.rs(r:Rc)(f:RV→List ac→Rs RV):Rs RV:=match r with
 |.bad=>.bad
 |.err=>.err
 |.ok x H=>f x H
noncomputable def jj(fo:Fo)(m:Nat)(f:RV)(args:List RV):Fm RV:=aj (sm f) λg=>aK (jL g) λst=>aK (Nat.ble st.H.length m||(args.all (RV.below m)&&(st.H.take m).all (ac.belowB m)))
 (λst=>(fo g args (st.H.take m)).rs λx H'=>aK (Nat.ble st.H.length m||Nat.beq H'.length m) (λ_=>.ok x ⟨st.loc,H'++st.H.drop m⟩) st) st
noncomputable def xT(fo:Fo)(j m:Nat)(l:Fm (List RV))(a:RV):Fm RV:=λst=>aj (nV a st.H) (λq=>aj (n4 q.1 j uQ) λf=>aK (jY j q.2).isNone λst=>(l st).bind λxs st'=>jj fo m (.v (.glob (.ref f))) (a::xs) st') st
noncomputable def gC(es:List Expr)(env:Env):Prop:=starEach es env=es.map λe=>(false,eval e env)
section
variable{fo:Fo}{cx:Cx}{sl:List Str}{p:Pt}{f o:Expr}{es:List Expr}{pos pos' apos:Pos}{ff:Fm RV}{l:Fm (List RV)}{m:Nat}
theorem SR.after(R:SR cx sl p){h':Heap}{M':Sp}{H':List ac}(e:HX cA p.h p.M p.σ.H h' M' H')(G:HR cx.w.params cx.B cx.X h' M' H'):Ok cx sl p ⟨h',M',⟨p.σ.loc,H'⟩⟩:=⟨e.wide,R.mv (X1:=cx.X0) G (e.up λ_ z=>z.elim) e.sp (λb o f q=>e.keep b o q λz=>z.elim id λz=>z.elim (R.c.offA b (R.fk f)) λz=>R.off b z (R.fk f)) (λb z=>(e.live b z).imp id λq f=>absurd (R.faLt f) (Nat.not_lt.mpr q)) λi a c q=>
  (mW i p.M.length).elim (λc'=>(jm c').elim λq' hq=>by cases (e.sp i q' hq).symm.trans q;exact R.nx i a c hq) λc'=>have n:=e.new i a c' q
   ⟨λt=>absurd (R.toHR.low _ (.inl t)) (Nat.not_lt.mpr n.1),λt=>absurd (R.toHR.low _ (.inl t)) (Nat.not_lt.mpr n.2)⟩⟩
theorem SR.frsO(R:SR cx sl p)(m:Nat):g9 cx.B cx.fr p.h (p.M.take m) (p.σ.H.take m):=λenv me=>
 have k:=R.c.frK env me
 ⟨k.1,k.2.elim λL q=>have f:FA cx.T0 cx.env cx.fr L:=.inr (.inr ⟨env,me,q.1⟩)
  ⟨L,q.1,q.2,λz=>z.elim id λz=>z.elim (R.c.offA L f) λz=>R.off L z.take f,R.frs env me L q.1⟩⟩
theorem aC.call{s:Shared}{r:Rc}{k:RV→List ac→Rs RV}{X:Addr→Prop}{h:Heap}{M:Sp}{H:List ac}{Q:Value→Shared→Prop}{E:Value→Shared→Prop}(z:aC cx sl p s (rV cx) (r.rs k) Q E)
  (hk:∀x H' v h' M' tk,aC cx sl p s (rV cx) (k x H') Q E→HX cA h M H h' M' H'→HR cx.w.params cx.B X h' M' H'→RR cx.w.params h' (HA X M' H') M' v x→Q v (Sh s h' tk)):fH cx.w.params cx.B X cx.fr h M H s r Q E:=by
 cases r with
 |bad=>exact z
 |err=>exactλe h' tk fl=>z e h' tk (.fly fl)
 |ok x H'=>exactλv h' M' tk e g r=>hk x H' v h' M' tk z e g r
theorem J1(O:eY cx.w cx.B cx.n fo){fv:Value}{f:RV}{vs:List Value}{args:List RV}(hf:p.val cx fv f)(ha:p.vals cx vs args):aZ cx sl p (rV cx) (call fv vs) (jj fo m f args):=.opt λg hg=>.gd λ_ A s tk Q E ar R z=>aC.gd (c:=Nat.ble p.σ.H.length m||_) z λc z=>by
  have hf:VR cx.w.params p.h (p.av cx) fv g:=RR.cast (j8 hg) hf;cases b:Nat.ble p.σ.H.length m with
  |true=>
   have lm:=lT b;have F:=R.frsO m;rw[tu lm,tu (R.toHR.len▸lm)] at F;rw[tu lm] at z;exact lK (O cx.X s p.h tk p.M p.σ.H cx.fr A g fv args vs Q E ar.rm ar.fr F R.toHR hf ha (aC.call z λx H' v h' M' tk z e G r=>aC.gd z λ_ z=>z v h' M' tk (by rw[Iy lm,eK];exact R.after e G) (by
    rw[Iy lm,eK];exact r)))
  |false=>
   rw[b] at c;have lm:m<p.σ.H.length:=Nat.lt_of_not_le λq=>by rw[f6 q] at b;cases b
   have g1:=R.toHR.taken (X':=λb=>cx.X b∨bn p.M p.σ.H b) (aA c).2 λ_=>id;exact lK (O _ s p.h tk (p.M.take m) (p.σ.H.take m) cx.fr A g fv args vs Q E ar.rm ar.fr (R.frsO m) g1.1 (hf.up g1.2) (Z2.monoB (RR.low g1.2) ha (aA c).1) (aC.call z λx H' v h' M' tk z e G r=>aC.gd z λk z=>by rw[b] at k;have g2:=R.toHR.back lm e G (em k);exact z v h' p.M tk (R.after g2.2.1 g2.1) (RR.up g2.2.2.1 g2.2.2.2 r)))
theorem kH(h:gC es cx.env):backTo pos (starEach es cx.env)=es.map λe=>(false,eval e cx.env):=by rw[h];unfold backTo;rw[dm];rfl
theorem kM{M:Model}{A:Around}{s:Shared}{E:Value→Shared→Prop}(h:gC es cx.env){f:Value}{Q:Args→Shared→Prop}
  (hq:wpAny M A (spliced (backTo pos (starEach es cx.env))) (λvs s'=>Q ⟨vs,[]⟩ s') E s):wpAny M A (evalArgs f true (backTo pos (starEach es cx.env)) []) Q E s:=by
 rw[kH h] at hq⊢;cases es with
 |nil=>exact ah (dZ hq (λvs s' h=>ah (aQ (fZ (ah (aQ (ah (aQ (aQ h)))))))) λ_ _ z=>z)
 |cons e rest=>exact evalArgs_plain hq
noncomputable def wl(w:World)(fv:Value)(Pr:Heap→Prop):Prop:=∀h,Pr h→∃k,(k=Keeper.frame∨k=Keeper.machine∨k=Keeper.boundFrame)∧Looks (model pw w) h (keeperOf fv) k
theorem Pb(K0:bq cx){fv:Value}{g:AV}(hf:VR cx.w.params p.h (p.av cx) fv g):∃Pr,wl cx.w fv Pr∧∀P,c8 cx p P→SR cx sl P→jL g=true→Pr P.h:=by
 have n:jL g=false→∃Pr,wl cx.w fv Pr∧∀P,c8 cx p P→SR cx sl P→jL g=true→Pr P.h:=λc=>⟨λ_=>False,λ_ z=>False.elim z,λP _ _ t=>nB (c.symm.trans t)⟩;cases g<;>first|exact n rfl|skip
 ·rename_i v;have hv:fv=v:=hf;cases v<;>first|exact n rfl|skip
  rename_i a;rw[hv];exact⟨λh=>(KF cx.w.params).In h∧uj a=true,λh X=>keeps_K (C6 X.2) h X.1,λP _ R1 c=>⟨R1.K K0,c⟩⟩
 ·exact fG.rec (motive:=λfv _=>∃Pr,wl cx.w fv Pr∧∀P,c8 cx p P→SR cx sl P→true=true→Pr P.h) (λe1 n1 _ _ _ _ _ _ _ _=>⟨λh=>FnAt _ h,λh X=>keeps_F h X,λP e _ _=>⟨_,_,_,_,(c8.av e).keep _ _ e1 n1⟩⟩) hf
theorem BX(K0:bq cx)(O:eY cx.w cx.B cx.n fo){fv:Value}{f:RV}{us:List Value}{first:List RV}(hpl:gC es cx.env)
  (hl:hZ cx sl (spliced (backTo pos (starEach es cx.env))) l)(hf:p.val cx fv f)(hu:p.vals cx us first):
  aZ cx sl p (rV cx) (callWith pos' fv us (backTo pos (starEach es cx.env)) []) λst=>(l st).bind λxs st=>jj fo m f (first++xs) st:=λA s tk Q E ar R z=>by
 have hplain:((backTo pos (starEach es cx.env)).any (·.1)||([]:List (Option Str×Sem Value)).any (·.1.isNone))=false:=(sW _).trans (List.any_eq_false.mpr λx m=>by rw[kH hpl] at m;obtain⟨e,_,rfl⟩:=List.mem_map.mp m;exact jy)
 cases f with
 |loc i=>exact BV (P:=λ_=>False) hplain (λ_ z=>False.elim z) (kM hpl (hl p A s tk _ E ar R (z.bd λvs xs P tk o vv z=>False.elim z)))
 |v g=>exact(Pb K0 (sl:=sl) (show VR cx.w.params p.h (p.av cx) fv g from hf)).elim λPr k=>BV hplain k.1 (kM hpl (hl p A s tk _ E ar R (z.bd λvs xs P tk o vv z=>⟨aC.gd z λc _=>k.2 P o.e o.r c,J1 O (cG o.e hf) (Z2.append (oH o.e hu) vv) A s tk Q E ar o.r z⟩)))
theorem Tk(K0:bq cx)(O:eY cx.w cx.B cx.n fo)(hpl:gC es cx.env)
  (he:eval (.Call f es [] pos) cx.env=(do callWith pos (←eval f cx.env) [] (backTo pos (starEach es cx.env)) (backToKw pos (keywordEach [] cx.env))))(hf:aH cx sl (eval f cx.env) ff)(hl:hZ cx sl (spliced (backTo pos (starEach es cx.env))) l):
  aH cx sl (eval (.Call f es [] pos) cx.env) λst=>(ff st).bind λx st=>(l st).bind λxs st=>jj fo m x xs st:=λp A s tk Q E ar R z=>Call_ (hf.nest (m':=λx st=>(l st).bind λxs st=>jj fo m x xs st) (λP a y e va=>BX (first:=[]) K0 O hpl hl va Z2.nil) ar R z) he
theorem TD(K0:bq cx)(O:eY cx.w cx.B cx.n fo){j:Nat}(hpl:gC es cx.env)(hbase:attributeBase o (nm j) cx.env (eval o cx.env)=eval o cx.env)
  (hline:(apos.endLine==pos.line)=true)(hlen:es.length<25)(ho:aH cx sl (eval o cx.env) ff)(hl:hZ cx sl (spliced (backTo pos (starEach es cx.env))) l):
  aH cx sl (eval (.Call (.Attribute o (nm j) apos) es [] pos) cx.env) λst=>(ff st).bind λx st=>xT fo j m l x st:=λp A s tk Q E ar R z=>by
 rw[arm_eval_Call,hbase]
 have hform:methodCallForm (es.length+([]:List Keyword).length) (backTo pos (starEach es cx.env)) (backToKw pos (keywordEach [] cx.env))=true:=by rw[kH hpl];unfold methodCallForm;rw[AM,show(es.all ((λx=> !x.1)∘λe=>((false,eval e cx.env):Bool×Sem Value)))=true from List.all_eq_true.mpr λ_ _=>rfl];exact cD (dK hlen (by decide))
 have hpos:methodCallPos true o cx.env apos pos=pure pos:=by unfold methodCallPos;simp[hline]
 refine ah (ho p A s tk _ E ar R (z.bd λv a P tk o va z=>?_));refine ah (iJ ?_);unfold methodCall;rw[hform];refine aC.opt (o:=nV a P.σ.H) z λq hq z=>z.opt λf hf z=>z.gd λhfs z=>?_;have va':=va;revert va';refine o.r.onInst va hq λy d es' kk e1 e2 r va'=>?_;have c:=aA (List.all_eq_true.mp (QE cx.w.params) _ (Ev hf));have c1:=aF c.1;have g:=FL (gv c.2) r;rw[Option.isNone_iff_eq_none.mp hfs] at g;refine ah (fZ (method_fn (s:=Sh s P.h tk) (f:=f) (o.r.K K0) (rg e1 e2) (Fg c1.1).1 (Fg c1.1).2 (beq_iff_eq.mp c1.2.1) (beq_iff_eq.mp c1.2.2) (by show(lookIn (nm j) (PySem.W.dictOf es' kk)).map _=_;rw[lookIn_dict,g];rfl) ?_));refine ah (H8 hpos ?_);exact BX K0 O hpl hl (show P.val cx (.ref f) (.v (.glob (.ref f))) from rfl) (Z2.cons va' .nil) A s tk Q E ar o.r z
end
end
section
open PySem.SeqAt
inductive aY where
 |next
 |brk
 |cont
 |ret (x:RV)
noncomputable def ft(cx:Cx)(p:Pt)(f:Flow)(fl:aY):Prop:=aY.casesOn (motive:=λ_=>Prop) fl (f=.next) (f=.brk) (f=.cont) (λx=>∃v,f=.ret v∧p.val cx v x)
abbrev df(cx:Cx)(sl:List Str)(t:Sem Flow)(m:Fm aY):Prop:=jH cx sl (ft cx) t m
noncomputable def l9(f:RV→Option AV):List RV→Option (List AV)
 |[]=>some []
 |x::l=>(f x).bind λy=>(l9 f l).bind λr=>some (y::r)
noncomputable def kP{α:Type}(f:RV→Option AV):List (α×RV)→Option (List (α×AV))
 |[]=>some []
 |x::l=>(f x.2).bind λy=>(kP f l).bind λr=>some ((x.1,y)::r)
noncomputable def q7(f:RV→Option AV)(o:ac):Option AV:=match o with
 |.lst l=>(l9 f l).map .lst
 |.dct l=>(kP f l).map .dct
 |.inst c l=>(kP f l).map (.inst c)
 |.gone=>none
noncomputable def L6(f:RV→Option AV)(H:List ac)(g:Nat)(x:RV):Option AV:=match x with
 |.v y=>some y
 |.loc i=>cond (Nat.blt i g) none ((ae H i).bind (q7 f))
noncomputable def gT(H:List ac)(g:Nat):Nat→RV→Option AV
 |0=>sm
 |n+1=>L6 (gT H g n) H g
noncomputable def nO(g:Nat)(x:RV)(H:List ac):Option RV:=match x with
 |.v x=>some (.v x)
 |.loc i=>cond (Nat.blt i g) (some (.loc i)) ((gT H g 9 (.loc i)).map .v)
noncomputable def l7(whole:Bool)(g:Nat)(x:RV)(H:List ac):Rc:=cond whole (.ok x H) ((nO g x H).casesOn .bad λy=>cond ((H.take g).all (ac.belowB g)) (.ok y (H.take g)) .bad)
noncomputable def LL(whole:Bool)(g:Nat)(fl:aY)(H:List ac):Rc:=match fl with
 |.ret x=>l7 whole g x H
 |.next=>l7 whole g (.v .none) H
 |_=>.bad
noncomputable def gQ(whole:Bool)(g:Nat)(r:Rs aY):Rc:=match r with
 |.bad=>.bad
 |.err=>.err
 |.ok fl st=>LL whole g fl st.H
section
variable{P:Params}{B h:Heap}{X X':Addr→Prop}{M:Sp}{H:List ac}{g:Nat}{f:RV→Option AV}
theorem L7(hf:∀{v x y},RR P h X M v x→f x=some y→VR P h X' v y){vs:List Value}{l:List RV}(z:a9 P h X M vs l):∀{r:List AV},l9 f l=some r→bj P h X' vs r:=Z2.rec' (C:=λvs l=>∀{r:List AV},l9 f l=some r→bj P h X' vs r) (λ{r} e=>ak e▸rfl) (λ{v x vs l} a _ ih{r} e=>aL (o:=f x) e λy e1 e=>aL (o:=l9 f l) e λr' e2 e=>ak e▸.cons (hf a e1) (ih e2)) z
theorem L1(hf:∀{v x y},RR P h X M v x→f x=some y→VR P h X' v y){es:List DictEntry}{l:List (AV×RV)}(z:cC P h X M es l):∀{r:List (AV×AV)},kP f l=some r→ii P h X' es r:=Z2.rec' (C:=λes(l:List (AV×RV))=>∀{r:List (AV×AV)},kP f l=some r→ii P h X' es r) (λ{r} e=>ak e▸rfl) (λ{v x vs l} a _ ih{r} e=>aL (o:=f x.2) e λy e1 e=>aL (o:=kP f l) e λr' e2 e=>ak e▸bA.mk (a:=λe=>hG P e x.1∧VR P h X' e.val y) (b:=λes=>ii P h X' es r') ⟨a.1,hf a.2 e1⟩ (ih e2)) z
theorem L2(hf:∀{v x y},RR P h X M v x→f x=some y→VR P h X' v y){es:List DictEntry}{l:List (Nat×RV)}(z:eE P h X M es l):∀{r:List (Nat×AV)},kP f l=some r→jf P h X' es r:=Z2.rec' (C:=λes(l:List (Nat×RV))=>∀{r:List (Nat×AV)},kP f l=some r→jf P h X' es r) (λ{r} e=>ak e▸rfl) (λ{v x vs l} a _ ih{r} e=>aL (o:=f x.2) e λy e1 e=>aL (o:=kP f l) e λr' e2 e=>ak e▸bA.mk (a:=λe=>fu P x.1 (λv=>VR P h X' v y) e) (b:=λes=>jf P h X' es r') (fu.up (λr=>hf r e1) a) (ih e2)) z
theorem L8(u:Up h X h X')(hf:∀{v x y},RR P h X M v x→f x=some y→VR P h X' v y){o:ac}{y:AV}:∀{p:Addr×Addr},cY P h X M p o→(o.live→∀b,(b=p.1∨b=p.2)→¬X' b)→q7 f o=some y→VR P h X' (.ref p.1) y:=ac.casesOn (motive:=λo=>∀{p:Addr×Addr},cY P h X M p o→(o.live→∀b,(b=p.1∨b=p.2)→¬X' b)→q7 f o=some y→VR P h X' (.ref p.1) y) o
  (λl{p} O n e=>cz e λr e1 e=>e▸d8.on (C:=λp=>(∀b,(b=p.1∨b=p.2)→¬X' b)→VR P h X' (.ref p.1) (.lst r)) O (λa vs k q z n=>.lst q (n a (.inl rfl)) (L7 hf z e1)) (n trivial))
  (λl{p} O n e=>cz e λr e1 e=>e▸d8.on (C:=λp=>(∀b,(b=p.1∨b=p.2)→¬X' b)→VR P h X' (.ref p.1) (.dct r)) O (λa vs k q z n=>.dct q (n a (.inl rfl)) (L1 hf z e1)) (n trivial))
  (λc l{p} O n e=>cz e λr e1 e=>e▸hU.on (C:=λp=>(∀b,(b=p.1∨b=p.2)→¬X' b)→VR P h X' (.ref p.1) (.inst c r)) O (λa d vs k q q' _ z n=>.inst q q' (n a (.inl rfl)) (n d (.inr rfl)) (L2 hf z e1)) (n trivial))
  (λ{p} _ _ e=>nS e)
theorem ya(u:Up h X h X')(own:∀i a o,ae M i=some a→ae H i=some o→cY P h X M a o)(off:∀i b,g≤i→cO M H i b→¬X' b):∀(n:Nat){v:Value}{x:RV}{y:AV},RR P h X M v x→gT H g n x=some y→VR P h X' v y
 |0,v,x,y,r,e=>VR.up u (RR.tree (RR.cast (j8 e) r))
 |n+1,v,x,y,r,e=>by
  cases x with
  |v x=>exact ak e▸VR.up u r
  |loc i=>
   have e:cond (Nat.blt i g) none ((ae H i).bind (q7 (gT H g n)))=some y:=e;cases c:Nat.blt i g with
   |true=>rw[c] at e;exact nS e
   |false=>
    rw[c] at e;have gi:g≤i:=Nat.le_of_not_lt λq=>by rw[Nat.blt_eq.mpr q] at c;cases c
    exact aL e λo ho e=>RR.onLoc r λp hm=>L8 u (ya u own off n) (own i p o hm ho) (λl b hb=>off i b gi (.mk hm ho l hb)) e
theorem xZ{T0:Addr→Prop}{h0 h1:Heap}{M1:Sp}{H1:List ac}(G:HR P B X h M H)(e0:∀b o,h.get? b=some o→h0.get? b=some o)(z0:h.objs.size≤h0.objs.size)
  (t0:∀b,T0 b→h.objs.size≤b)(e1:HX T0 h0 M H h1 M1 H1)(G1:HR P B (λb=>X b∨T0 b) h1 M1 H1){whole:Bool}{v:Value}{x:RV}(r:RR P h1 (HA (λb=>X b∨T0 b) M1 H1) M1 v x)
  {fr:List Env}{s:Shared}{Q:Value→Shared→Prop}{E:Value→Shared→Prop}(z:fH P B X fr h M H s (l7 whole H.length x H1) Q E)(tk:Tok):Q v (Sh s h1 tk):=by
 have e:=e1.lessT (T:=cA) e0 z0 λb t=>.inr (t0 b t);have W:=G1.sub (X':=X) G1.len (λ_ _ e=>e) (λ_ _ x=>x) (λb z=>.inl (.inl z)) λu i a o e1 e2=>(G1.own i a o e1 e2).up u (λ_ _ e=>e) λ_ _ _ _ e=>e;have r:=RR.up W.2 (λ_ _ e=>e) r;cases whole with
 |true=>exact z v h1 M1 tk e W.1 r
 |false=>
  have z:fH P B X fr h M H s ((nO H.length x H1).casesOn .bad λy=>cond ((H1.take H.length).all (ac.belowB H.length)) (.ok y (H1.take H.length)) .bad) Q E:=z;cases hy:nO H.length x H1 with
  |none=>rw[hy] at z;exact False.elim z
  |some y=>
   rw[hy] at z;have z:fH P B X fr h M H s (cond ((H1.take H.length).all (ac.belowB H.length)) (.ok y (H1.take H.length)) .bad) Q E:=z;cases ab:(H1.take H.length).all (ac.belowB H.length) with
   |false=>rw[ab] at z;exact False.elim z
   |true=>
    rw[ab] at z;have F:=W.1.taken ab λb z=>.inl z;have il:∀{i a},ae (M1.take H.length) i=some a→i<H.length:=λe=>(mo e).1;refine z v h1 _ tk ⟨λi p q=>?_,e.keep,e.size,λb z=>e.live b z.take,λi p c q=>absurd (il q) (by rw[←G.len];exact Nat.not_lt.mpr c)⟩ F.1 ?_
    ·rw[pG,bF (G.len▸gh q)];exact e.sp i p q
    ·cases x with
     |v x=>rw[←ak hy];exact VR.up F.2 r
     |loc i=>
      have hy:cond (Nat.blt i H.length) (some (.loc i)) ((gT H1 H.length 9 (.loc i)).map .v)=some y:=hy;cases c:Nat.blt i H.length with
      |true=>rw[c] at hy;rw[←ak hy];exact RR.onLoc r λp hm=>RR.loc (by rw[pG,bF (gv c)];exact hm)
      |false=>
       rw[c] at hy;exact cz hy λt ht e'=>e'▸show VR P h1 _ v t from ya F.2 W.1.own (λi b c l z=>by have nb:h.objs.size≤b:=l.on λp o a1 _ _ hb=>have n:=e.new i p (by rw[G.len];exact c) a1;hb.elim (λq=>q▸n.1) λq=>q▸n.2;exact z.elim (λz=>G.new nb (.inl z)) λz=>z.elim (λz=>G.new nb (.inr (.inl z))) λz=>z.elim λj y=>absurd y.take.2 (Nat.not_lt.mpr (W.1.apart _ _ _ l y.take.1▸c))) 9 r ht
end
theorem Qd{M:Model}{A:Around}{B:Heap}{env:Env}{fr:List Env}{L:Addr}{e:Value}{s:Shared}{h:Heap}{Q:Unit→Shared→Prop}{E:Value→Shared→Prop}(hfr:A.frames=some (env::fr))(hf:env.frame=some L)
  (F:lO B (env::fr) e h){tk:Tok}(hQ:∀h',s8 B fr e h'→Q () (Sh s h' tk)):wpAny M A (leaving env e) Q E (Sh s h tk):=by
 cases F with
 |fly F=>obtain⟨c,k1,k2,F⟩:=F;rw[c];exact wpAny_leaves_onW hfr hf F λh' F' _=>hQ h' (.mk c k1 k2 F')
 |new c k1 k2 k3 k4 k5 k6 k7 k8 k9 k10=>rw[c];exact wpAny_leaving_firstW (s:=Sh s h tk) hfr k4 hf k6 k3 k5 k8 k9 k10 λh' l=>hQ h' (.mk c k1 k2 ⟨l.1,k5,l.2.1.2.2,k7▸l.2.2.1⟩)
theorem BP{kindOf:Str→Option NameKind}{x:Str}:∀{binds:List (Str×Value)}{m:Str→Option Value},x∉binds.map (·.1)→bindL kindOf binds m x=m x
 |[],_,_=>rfl
 |(n,v)::r,m,h=>by
  rw[bindL,BP λq=>h (.tail _ q)];by_cases c:kindOf n=some .local
  ·rw[bF c];exact bQ λ(e:x=n)=>h (e▸.head _)
  ·rw[bQ c]
theorem BO{kindOf:Str→Option NameKind}{x:Str}:∀{binds:List (Str×Value)}{m:Str→Option Value},x∉binds.map (·.1)→bindC kindOf binds m x=m x
 |[],_,_=>rfl
 |(n,v)::r,m,h=>by
  rw[bindC,BO λq=>h (.tail _ q)];by_cases c:kindOf n=some .local
  ·rw[bF c]
  ·rw[bQ c];exact bQ λ(e:x=n)=>h (e▸.head _)
theorem tJ{kindOf:Str→Option NameKind}{x:Str}{v:Value}(hk:kindOf x=some .local):∀{binds:List (Str×Value)}{m:Str→Option Value},(binds.map (·.1)).Nodup→(x,v)∈binds→bindL kindOf binds m x=some v
 |(n,u)::r,m,nd,h=>by
  have nd:=List.nodup_cons.mp nd;rcases List.mem_cons.mp h with h|h
  ·cases h;rw[bindL,BP nd.1,bF hk];exact bF rfl
  ·exact tJ (binds:=r) hk nd.2 h
theorem BN{kindOf:Str→Option NameKind}{x:Str}{v:Value}(hk:kindOf x≠some .local):∀{binds:List (Str×Value)}{m:Str→Option Value},(binds.map (·.1)).Nodup→(x,v)∈binds→bindC kindOf binds m x=some v
 |(n,u)::r,m,nd,h=>by
  have nd:=List.nodup_cons.mp nd;rcases List.mem_cons.mp h with h|h
  ·cases h;rw[bindC,BO nd.1,bQ hk];exact bF rfl
  ·exact BN (binds:=r) hk nd.2 h
theorem xh:∀(names:List (Str×NameKind))(k:Nat)(acc:List (Str×Addr))(x:Str),((x,NameKind.cell)∈names∨(acc.lookup x).isSome=true)→((cellsFrom k names acc).lookup x).isSome=true
 |[],_,acc,x,h=>h.elim (λh=>nomatch h) id
 |(n,kd)::r,k,acc,x,h=>by
  unfold cellsFrom;by_cases q:(kd==NameKind.cell)=true
  ·rw[bF q];refine xh r _ _ x (h.elim (λh=>(List.mem_cons.mp h).elim (λh=>.inr ?_) .inl) λh=>.inr ?_)
   ·cases h;rw[jE,eQ];rfl
   ·rw[jE];cases x==n with
    |true=>rfl
    |false=>exact h
  ·rw[bQ q];exact xh r _ _ x (h.imp (λh=>(List.mem_cons.mp h).elim (λh=>by cases h;exact absurd rfl q) id) id)
theorem B9{prog:Program}{w:World}{A:Around}{s:Shared}{R:Result→Shared→Prop}{a:Addr}{o:Obj}{fd:FuncData}{body:List Stmt}{vals:List Value}{binds:List (Str×Value)}
  (hroom:A.depth<recursionLimit)(ho:s.heap.get? a=some o)(hdata:o.data=.func fd)(hlim:s.heap.NoLimit)(hcd:s.heap.CodeRec fd.code fd.qualname)
  (hbody:fd.body=.stmts body)(hbind:BindsTo s fd ⟨vals,[]⟩ binds)(hclo:fd.closure=[])
  (hkind:∀x∈binds,fd.scope.names.lookup x.1=some .local∨(fd.scope.names.lookup x.1=some .cell∧((cellsFrom (s.heap.objs.size+1) fd.scope.names []).lookup x.1).isSome=true))
  (h:∀s₁,InCallC s (callEnvC fd s.heap.objs.size a).locals (bindL (callEnvC fd s.heap.objs.size a).kindOf binds λ_=>none) (callEnvC fd s.heap.objs.size a).cells
    (bindC (callEnvC fd s.heap.objs.size a).kindOf binds λ_=>none) s₁→
   wpAny (model prog w) (A.deeper (callEnvC fd s.heap.objs.size a)) (execs body (callEnvC fd s.heap.objs.size a)) (λf s'=>R (.ok (.ret (match f with|.ret v=>v|_=>.none))) s')
    (λe s'=>wpAny (model prog w) (A.deeper (callEnvC fd s.heap.objs.size a)) (leaving (callEnvC fd s.heap.objs.size a) e) (λ_ s''=>R (.error e) s'') (λe' s''=>R (.error e') s'') s') s₁)
  (hco:fd.scope.isCoroutine=false)(hgen:fd.scope.isGenerator=false)(hk:fd.scope.kind=.function):
  codeAny (model prog w) A (.call (.ref a) ⟨vals,[]⟩) R s:=by refine Kr hroom ho hdata hco hgen hbody hcd ?_;refine hbind _ _ _ _ ?_;rw[hclo];refine wpAny_newFunctionEnv_cells hk hkind λenv he s' x=>?_;subst he;exact⟨hlim.keeps x.toInCall.keep,codeAny_func (h s' x)⟩
structure dH(w:World)(B:Heap):Prop where
 says:∀b o,(H1 w.params).get? b=some o→B.get? b=some o
 nolim:B.NoLimit
theorem Rm.deeper{n:Nat}{A:Around}(rm:Rm (n+1) A)(env:Env):Rm n (A.deeper env):=⟨by have:=rm.depth;show A.depth+1+3*n+30≤990;omega,by have:=rm.units;show A.units+3+20*n+100≤9800;omega,rm.hand⟩
theorem Ij{α β:Type}:∀{l:List α}{r:List β}{i:Nat}{a:α}{b:β},ae l i=some a→ae r i=some b→(a,b)∈l.zip r
 |_::_,_::_,0,_,_,e1,e2=>by cases e1;cases e2;exact .head _
 |_::l,_::r,i+1,_,_,e1,e2=>.tail _ (Ij (l:=l) (r:=r) (i:=i) e1 e2)
theorem v7{α β:Type}:∀{l:List α}{r:List β},l.length=r.length→(l.zip r).map (·.1)=l
 |[],[],_=>rfl
 |a::l,b::r,h=>congrArg (a::·) (v7 (oV h))
theorem zd{l:List Str}(h:l.Nodup)(i j:Nat)(n:Str)(e1:ae l i=some n)(e2:ae l j=some n):i=j:=(List.getElem?_inj (gh e1) h).mp (by rw[←cJ,←cJ,e1,e2])
noncomputable def mf(args:List RV)(k:Nat):List (Option RV):=args.map some++List.replicate k none
theorem Qp{args:List RV}{k i:Nat}{x:RV}(q:ae (mf args k) i=some (some x)):ae args i=some x:=by
 unfold mf at q;rw[n9,aU] at q;by_cases c:i<args.length
 ·rw[bF c,cJ,oS] at q;rw[cJ];exact cz q λy e c=>e.trans (by cases c;rfl)
 ·rw[bQ c,cJ,List.getElem?_replicate] at q;by_cases c:i-args.length<k
  ·rw[bF c] at q;cases q
  ·rw[bQ c] at q;cases q
noncomputable abbrev bZ(w:World)(B:Heap)(X:Addr→Prop)(h0 hh:Heap)(env:Env)(fr:List Env)(g n:Nat):Cx:=⟨w,B,X,λx=>h0.objs.size≤x∧x<hh.objs.size,env,env::fr,g,n⟩
structure Ent(cx:Cx)(h1 hh:Heap)(A:Around):Prop where
 fl:cx.env.frame=some cx.env.locals
 keep:∀b o,h1.get? b=some o→hh.get? b=some o
 l1:h1.objs.size≤cx.env.locals
 l2:cx.env.locals<hh.objs.size
 fr:(A.deeper cx.env).frames=some cx.fr
structure wd(cx:Cx)(h1 hh:Heap)(a:Addr)(fd:FuncData)(A:Around):Prop extends Ent cx h1 hh A where
 ek:bq cx
 ci:sY cx
 sc:cx.env.scope=fd.scope
 ce:∃k,cx.env=callEnvC fd k a
noncomputable def LP(f:Flow):Value:=match f with
 |.ret v=>v
 |_=>.none
noncomputable def mO(w:World)(A:Around)(env:Env)(body:List Stmt)(R:Result→Shared→Prop)(s:Shared):Prop:=wpAny (model pw w) (A.deeper env) (execs body env) (λf s'=>R (.ok (.ret (LP f))) s') (λe s'=>wpAny (model pw w) (A.deeper env) (leaving env e) (λ_ s''=>R (.error e) s'') (λe' s''=>R (.error e') s'') s') s
structure AD(w:World)(a:Addr)(fd:FuncData)(body:List Stmt)(sl:List Str):Prop where
 hk:(KF w.params).lookup a=some {cls:=.type "function",data:=.func fd}
 hcd:∀h,(KF w.params).In h→h.CodeRec fd.code fd.qualname
 hb:fd.body=.stmts body
 hclo:fd.closure=[]
 hg:fd.globals=mainGlobals
 hbl:fd.builtins=builtinsNs
 hsc:fd.scope.kind=.function
 hco:fd.scope.isCoroutine=false
 hge:fd.scope.isGenerator=false
 hdup:sl.Nodup
 hns:∀x∈sl,fd.scope.names.lookup x=some .local∨fd.scope.names.lookup x=some .cell
theorem LX{w:World}{B:Heap}(b:dH w B){a:Addr}{fd:FuncData}{body:List Stmt}{sl:List Str}(D:AD w a fd body sl){n:Nat}
  {X:Addr→Prop}{h0:Heap}{s:Shared}{M:Sp}{H:List ac}{fr:List Env}{A:Around}{args:List RV}{vs vs':List Value}{R:Result→Shared→Prop}
  (k0:∀b o,h0.get? b=some o→s.heap.get? b=some o)(z0:h0.objs.size≤s.heap.objs.size)
  (hbind:BindsTo s fd ⟨vs,[]⟩ ((sl.take args.length).zip vs'))(hargs:args.length≤sl.length)
  (rm:A.depth<recursionLimit)(hfr:A.frames=some fr)(F:g9 B fr h0 M H)(G:HR w.params B X h0 M H)(ha:a9 w.params h0 (HA X M H) M vs' args)
  (h:∀(env:Env)(hh:Heap)(tk:Tok),wd (bZ w B X h0 hh env fr H.length n) s.heap hh a fd A→SR (bZ w B X h0 hh env fr H.length n) sl ⟨hh,M,⟨mf args (sl.length-args.length),H⟩⟩→mO w A env body R (Sh s hh tk)):
  codeAny (model pw w) A (.call (.ref a) ⟨vs,[]⟩) R s:=by
 have KI:(KF w.params).In s.heap:=λb' o' e=>k0 _ _ ((lQ b.says G.base:(KF w.params).In h0) b' o' e);have la:args.length=vs'.length:=(Z2.length ha).symm;have names:∀{x},x∈(sl.take args.length).zip vs'→x.1∈sl:=λ{x} mx=>List.mem_of_mem_take (List.of_mem_zip (a:=x.1) (b:=x.2) mx).1;have cellOk:∀{x},fd.scope.names.lookup x=some .cell→((cellsFrom (s.heap.objs.size+1) fd.scope.names []).lookup x).isSome=true:=λhx=>xh _ _ _ _ (.inl (mem_of_lookup hx));have NL:s.heap.NoLimit:=b.nolim.at λo e=>k0 _ _ (G.base _ o e (by rintro(q|q)<;>cases q));refine B9 rm (KI _ _ D.hk) rfl NL (D.hcd _ KI) D.hb hbind D.hclo (λx mx=>(D.hns _ (names mx)).imp id λq=>⟨q,cellOk q⟩) (λs₁ I=>?_) D.hco D.hge D.hsc;have IC:=I.toInCall;obtain⟨hh,tk,rfl⟩:=IC.same;have keep:∀b o,h0.get? b=some o→hh.get? b=some o:=λb o e=>IC.keep b o (k0 b o e);have sz:h0.objs.size≤hh.objs.size:=aJ z0 (aJ IC.fresh (f8 IC.ns.lt));have old:∀{x},h0.objs.size≤x→¬cX x∧¬bn M H x:=λq=>⟨λt=>G.new q (.inr (.inl (.inl t))),λt=>G.new q (.inr (.inr t))⟩
 have Bn:∀{L},h0.objs.size≤L→B.get? L=none:=λ{L} q=>by
  cases e:B.get? L with
  |none=>rfl
  |some o=>exact iE (G.base L o e (old q).1) q
 generalize henv:callEnvC fd s.heap.objs.size a=env at I IC;have cel:∀{x c},env.cells.lookup x=some c→h0.objs.size≤c∧c<hh.objs.size:=λ{x c} q=>⟨aJ z0 (f8 (eX IC.fresh (I.above x c (mem_of_lookup q)))),(I.cell x c q).lt⟩;have loc:h0.objs.size≤env.locals∧env.locals<hh.objs.size:=⟨aJ z0 IC.fresh,IC.ns.lt⟩;have kd:∀x,env.kindOf x=fd.scope.names.lookup x:=λx=>by rw[←henv];rfl
 have cellS:∀{x},fd.scope.names.lookup x=some .cell→∃c,env.cells.lookup x=some c:=λhx=>Option.isSome_iff_exists.mp (by rw[←henv];exact cellOk hx);have lE:env.frame=some env.locals:=by rw[←henv];rfl
 have g:=G.same (X':=(bZ w B X h0 hh env fr H.length n).X) (D:=cA) (λb o _=>keep b o) (λ_ z=>z.elim) sz λ_=>id
 have frm:∀{e L},e∈env::fr→e.frame=some L→(L=env.locals∧e=env)∨(e∈fr∧B.get? L=none∧¬Tc cA M H L∧oW h0 L):=λ{e L} m q=>(List.mem_cons.mp m).elim (λc=>.inl ⟨ak (q.symm.trans (c▸lE)),c⟩) λm=>(F e m).2.elim λL' r=>by cases r.1.symm.trans q;exact .inr ⟨m,r.2⟩
 have fa:∀{b},FA (bZ w B X h0 hh env fr H.length n).T0 env (env::fr) b→h0.objs.size≤b∨¬Tc cA M H b:=λf=>f.elim (λt=>.inl t.1) λf=>f.elim (λ⟨x,q⟩=>.inl (cel q).1) λ⟨e,m,q⟩=>(frm m q).elim (λz=>.inl (z.1▸loc.1)) λz=>.inr z.2.2.1
 have nd:(((sl.take args.length).zip vs').map (·.1)).Nodup:=by rw[v7 (by rw[tm,←la];exact A5 hargs)];exact List.Nodup.sublist (List.take_sublist _ _) D.hdup
 have kF:env.scope.kind=.function:=by rw[←henv];exact D.hsc
 refine cast (by rw[←henv];rfl) (h env hh tk ⟨⟨lE,IC.keep,IC.fresh,IC.ns.lt,by show A.frames.map (env::·)=some (env::fr);rw[hfr];rfl⟩,⟨kF,by rw[←henv];exact D.hg,by rw[←henv];exact D.hbl,b.says⟩,λx hx=>(cellS ((kd x).symm.trans hx)).imp λc hc=>⟨hc,cel hc⟩,by rw[←henv];rfl,⟨_,henv.symm⟩⟩
  ⟨g.1,⟨zd D.hdup,loc,λx y c q1 q2=>name_of_addr I.apart (mem_of_lookup q1) (mem_of_lookup q2),λx f t=>(fa f).elim (λq=>(old q).1 t) λn=>n (.inr (.inl t)),
    λe m=>(List.mem_cons.mp m).elim (λc=>by rw[c];exact⟨λq=>(nomatch kF.symm.trans q),_,lE,Bn loc.1⟩) λm=>⟨(F e m).1,(F e m).2.imp λL r=>⟨r.1,r.2.1⟩⟩,
    λe m L q t=>(frm m q).elim (λz=>z.1) λz=>z.2.2.2.elim λo r=>iE r.1 t.1⟩,
   λi x q=>?_,⟨_,IC.ns⟩,by show(mf _ _).length=_;unfold mf;rw[el,aU,List.length_replicate];exact A2 hargs,λx c q=>⟨_,I.cell x c q⟩,λx l f=>(fa f).elim (λq=>(old q).2 l) λn=>n (.inr (.inr l)),
   λe m L q=>(frm m q).elim (λz=>z.1▸IC.ns.elim λo y=>⟨o,y.elim λes y=>y.elim λep y=>⟨y.1,λvs q=>by rw[y.2.1] at q;cases q⟩⟩) λz=>z.2.2.2.imp λo r=>⟨keep _ _ r.1,r.2⟩,λi q c e=>absurd (gh e) (by rw[G.len];exact Nat.not_lt.mpr c)⟩)
 have hy:=Qp q;obtain⟨v,hv,rv⟩:=ha.nth' hy;obtain⟨nme,hn⟩:=jm (l:=sl) (n:=i) (dK (gh hy) hargs);have mz:(nme,v)∈(sl.take args.length).zip vs':=Ij (i:=i) (by rw[pG,bF (gh hy)];exact hn) ((cJ _ _).trans hv);refine .mk hn ((D.hns nme (names mz)).elim (λhl=>.loc ((kd _).trans hl) IC.ns (tJ ((kd _).trans hl) nd mz)) λhl=>(cellS hl).elim λc hc=>.cell (.inl ((kd _).trans hl)) hc ?_) (RR.up g.2 (λ_ _ e=>e) rv);have:=I.cell nme c hc;rwa[BN (by rw[kd,hl];exactλq=>nomatch q) nd mz] at this
theorem BS{w:World}{B:Heap}{n:Nat}{sl:List Str}{body:List Stmt}{m:Fm aY}{whole:Bool}{X:Addr→Prop}{s:Shared}{h0 hh:Heap}{M:Sp}{H:List ac}{env:Env}{fr:List Env}{A:Around}{h1:Heap}{l:List (Option RV)}
  (I:Ent (bZ w B X h0 hh env fr H.length n) h1 hh A)(k0:∀b o,h0.get? b=some o→h1.get? b=some o)(z0:h0.objs.size≤h1.objs.size)(rm:Rm (n+1) A)(G:HR w.params B X h0 M H)
  (R:SR (bZ w B X h0 hh env fr H.length n) sl ⟨hh,M,⟨l,H⟩⟩)(hs:df (bZ w B X h0 hh env fr H.length n) sl (execs body env) m){tk:Tok}{Q:Value→Shared→Prop}{E:Value→Shared→Prop}
  (z:fH w.params B X fr h0 M H s (gQ whole H.length (m ⟨l,H⟩)) Q E):mO w A env body (lB Q E) (Sh s hh tk):=by
 refine hs ⟨hh,M,⟨l,H⟩⟩ (A.deeper env) s tk _ _ ⟨rm.deeper env,I.fr⟩ R ?_;revert z;show fH w.params B X fr h0 M H s (gQ whole H.length (m ⟨l,H⟩)) Q E→aC _ _ _ s _ (m ⟨l,H⟩) _ _;cases m ⟨l,H⟩ with
 |bad=>exact id
 |err=>exactλz e h' tk fl=>Qd I.fr I.fl fl λh'' fl'=>z e h'' tk fl'
 |ok fl st=>
  intro z f h' M' tk o r
  have done:∀{v x},Pt.val (bZ w B X h0 hh env fr H.length n) ⟨h',M',st⟩ v x→fH w.params B X fr h0 M H s (l7 whole H.length x st.H) Q E→Q v (Sh s h' tk):=λrv z=>xZ G (λb o q=>I.keep b o (k0 b o q)) (aJ z0 (aJ I.l1 (f8 I.l2))) (λb t=>t.1) o.e o.r.toHR rv z tk
  cases fl with
  |next=>rw[show f=.next from r];exact done (v:=.none) (x:=.v .none) rfl z
  |brk=>exact False.elim z
  |cont=>exact False.elim z
  |ret x=>obtain⟨v,rfl,rv⟩:=r;exact done rv z
end
section
open PySem.SeqAt
noncomputable def nM(fl:aY)(k:St→Rs aY)(st:St):Rs aY:=match fl with
 |.next=>k st
 |.brk=>.ok .brk st
 |.cont=>.ok .cont st
 |.ret x=>.ok (.ret x) st
noncomputable def QV(x:AV):Bool:=match x with
 |.none=>true
 |.bool _=>true
 |.int _=>true
 |.str _=>true
 |_=>false
noncomputable def uU(a:RV):Bool:=match a with
 |.v x=>QV x
 |.loc _=>false
noncomputable def dY:List (Option RV)→List Nat→List RV→List (Option RV)
 |loc,i::is,x::xs=>dY (bp loc i (some x)) is xs
 |loc,_,_=>loc
noncomputable def qS(swp:Bool)(is:List Nat)(x:RV):Fm aY:=aj (bJ eP x) λl=>aK (Nat.beq l.length is.length) λst=>.ok .next ⟨cond swp (dY st.loc is.reverse (l.map .v).reverse) (dY st.loc is (l.map .v)),st.H⟩
noncomputable def uf(x a i:RV):Fm aY:=aj (lC a) λj=>aj (bJ eO i) λk st=>aj (fE st.H j) (λl=>aK (decide (0≤k)&&decide (k<l.length)&&decide (k<1000000)) λ_=>.ok .next ⟨st.loc,bp st.H j (.lst (bp l k.toNat x))⟩) st
noncomputable def oB{α:Type}(i:Nat)(x:α):List (Nat×α)→List (Nat×α)
 |[]=>[(i,x)]
 |q::l=>cond (Nat.beq q.1 i) ((q.1,x)::l) (q::oB i x l)
theorem Ue{α:Type}{i:Nat}{x:α}{q:Nat×α}{l:List (Nat×α)}:oB i x (q::l)=cond (Nat.beq q.1 i) ((q.1,x)::l) (q::oB i x l):=rfl
noncomputable def ud(j:Nat)(x a:RV):Fm aY:=aj (lC a) λi st=>aj (r6 st.H i) (λq=>aK (tS q.1 j&&Nat.blt j gx.length&&Nat.ble q.2.length 900) λ_=>.ok .next ⟨st.loc,bp st.H i (.inst q.1 (oB j x q.2))⟩) st
theorem mA{cx:Cx}{p:Pt}{v:Value}{a:RV}{i:Nat}(e:lC a=some i)(h:p.val cx v a):p.val cx v (.loc i):=RR.cast (Te e) h
theorem Z2.set{α β:Type}{R:α→β→Prop}{v:α}{x:β}(a:R v x){vs:List α}{l:List β}(r:Z2 R vs l):∀j:Nat,Z2 R (vs.set j v) (bp l j x):=Z2.rec' (C:=λvs l=>∀j:Nat,Z2 R (vs.set j v) (bp l j x)) (λ_=>.nil) (λc b ih j=>Nat.casesOn (motive:=λj=>Z2 R ((_::_).set j v) (bp (_::_) j x)) j (.cons a b) λj=>.cons c (ih j)) r
theorem QC(f:Array Value→Array Value)(vs:List Value)(m:Nat){us:List Value}(hf:f vs.toArray=us.toArray):∃m',Obj.mapSeq f (cL vs m)=cL us m':=by have:∃m',Obj.mapSeq f (cL vs m)=⟨.type "list",none,.seq (f vs.toArray) m',#[]⟩:=⟨_,rfl⟩;exact this.imp λm' e=>by rw[e,hf]
theorem Af{h:Heap}{b:Addr}{f:Array Value→Array Value}{vs us:List Value}{m:Nat}(e:h.get? b=some (cL vs m))(hf:f vs.toArray=us.toArray):∃m',(h.update b (Obj.mapSeq f)).get? b=some (cL us m'):=(QC f vs m hf).imp λm' q=>by rw[s9 _ e (by rw[q];rfl),q]
theorem Ug{w:World}{A:Around}{s:Shared}{E:Value→Shared→Prop}{l:Addr}{vs:List Value}{m:Nat}{k:Int}{t:Tok}{v:Value}{Q:Unit→Shared→Prop}(ho:s.heap.get? l=some (cL vs m))(h0:0≤k)(hfit:k<2^63)(hn:k<vs.length)
  (hQ:∀h' m',h'.get? l=some (cL (vs.set k.toNat v) m')→Heap.SameBut l s.heap h'→Q () {s with heap:=h'}):
  wpAny (model pw w) A (setItem (.ref l) (.int k t) v) Q E s:=by
 have hl:=dw ho;unfold setItem;try with_reducible refine fZ ?_
 first|refine ah (aQ ?_)|skip
 refine ah (wpAny_sequenceKey hl.typeIs (by decide) ?_);refine ah (wpAny_callSpecial?_slot (name:=Str.ofString "__setitem__") hl.typeIs IK
  (wpAny_call_entry IK hl.typeIs PySem.entry_list_setitem ?_ (PySem.args_list_setitem _ _ _)))
 show wpAny _ _ (Builtin.List.listSubscript? (.int k t)>>=_) _ _ s;refine ah (wpAny_listSubscript_int (fitsIndex_of h0 hfit) ?_);clear hfit;obtain⟨j,rfl⟩:=te h0;have hx':vs.toArray[j]? =some _:=Array.getElem?_eq_getElem (Int.ofNat_lt.mp hn);show wpAny _ _ ((seqItemAt l j>>=λr=>pure (r.map (j,·)))>>=_) _ _ s;refine ah (ah (wpAny_seqItemAt ho rfl (aQ ?_)));rw[hx'];show wpAny _ _ (setSeqItemAt l j v>>=_) _ _ s;obtain⟨m',hfin⟩:=Af (f:=(·.setIfInBounds j v)) (us:=vs.set j v) ho (by simp);refine ah (wpAny_setSeqItemAt ho rfl ?_)
 first
  |exact ah (aQ (aQ ⟨.none,rfl,aQ (hQ _ _ hfin (mT ..))⟩))
  |exact aQ ⟨.none,rfl,aQ (hQ _ _ hfin (mT ..))⟩
theorem Kl(P:Params):(xt.all λq=>findIn (KF P) (.ref q.1) "__setattr__"==some (some (.builtin "object.__setattr__"))&&plainOver (KF P) q.1&&q.2.all λi=>takerIn (KF P) q.1 (nm i)==some none)=true:=by kernel_rfl
theorem Kk{P:Params}{c:Addr}{i:Nat}(h:tS c i=true):findIn (KF P) (.ref c) "__setattr__"=some (some (.builtin "object.__setattr__"))∧plainOver (KF P) c=true∧takerIn (KF P) c (nm i)=some none:=by obtain⟨q,m,h⟩:=List.any_eq_true.mp h;have e:q.1=c:=em (aA h).1;have:=aF (List.all_eq_true.mp (Kl P) q m);subst e;exact⟨beq_iff_eq.mp this.1,this.2.1,beq_iff_eq.mp (List.all_eq_true.mp this.2.2 i (kZ (aA h).2))⟩
theorem I1{K:Frag}{C:Addr}{f:ClassData→Bool}(h:(clsIn K C).any f=true):∃cd,clsIn K C=some cd∧f cd=true:=by
 cases e:clsIn K C with
 |none=>rw[e] at h;exact nB h
 |some cd=>rw[e] at h;exact⟨cd,rfl,h⟩
section
variable{P:Params}{h:Heap}{X:Addr→Prop}{M:Sp}
theorem eE.put{i:Nat}(hi:i<gx.length){t:Tok}{v:Value}{x:RV}(a:RR P h X M v x){es:List DictEntry}{fs:List (Nat×RV)}(r:eE P h X M es fs):eE P h X M (PySem.W.putL (nm i) (PyData.keyHash P (nm i)) (.str (nm i) t) v es) (oB i x fs):=Z2.rec' (C:=λ(es:List DictEntry)(fs:List (Nat×RV))=>eE P h X M (PySem.W.putL (nm i) (PyData.keyHash P (nm i)) (.str (nm i) t) v es) (oB i x fs)) (.cons (.mk hi a) .nil) (λ{e q es l} b c ih=>by
  obtain⟨hj,b⟩:=b;rw[PySem.W.putL,Ue,DW hi hj];cases Nat.beq q.1 i with
  |true=>exact .cons (.mk hj a) c
  |false=>exact .cons (.mk hj b) ih) r
theorem eE.noRef{es:List DictEntry}{fs:List (Nat×RV)}(r:eE P h X M es fs):es.any (·.refKey)=false:=Z2.rec' (C:=λ(es:List DictEntry)(_:List (Nat×RV))=>es.any (·.refKey)=false) rfl (λ{e x es l} a _ ih=>by rw[wn,ih,sW];cases a;rfl) r
end
theorem Ft{name:Str}{k:Int}{kv v:Value}:∀{es:List DictEntry},(PySem.W.putL name k kv v es).length≤es.length+1
 |[]=>bw _
 |e::r=>by
  rw[PySem.W.putL];cases e.key.isStr name
  ·exact A9 Ft
  ·exact kn _
theorem Ub{w:World}{A:Around}{s:Shared}{E:Value→Shared→Prop}{K:Frag}{C x d:Addr}{name:Str}{v:Value}{es:List DictEntry}{k:Nat}{Q:Unit→Shared→Prop}(X:K.In s.heap)(e1:s.heap.get? x=some (fR C d))(e2:s.heap.get? d=some (PySem.W.dictOf es k))
  (hs:findIn K (.ref C) "__setattr__"=some (some (.builtin "object.__setattr__")))(hp:plainOver K C=true)(ht:takerIn K C name=some none)(hh:hasDictIn K C=true)(hnr:es.any (·.refKey)=false)(hz:es.length≤900)
  (hQ:∀h' t k',h'.get? d=some (PySem.W.dictOf (PySem.W.putL name (PyData.keyHash w.params name) (.str name t) v es) k')→Heap.SameBut d s.heap h'→∀tk,Q () {s with heap:=h',toks:=tk}):
  wpAny (model pw w) A (setAttr (.ref x) name v) Q E s:=by
 have I:=rg e1 e2;refine set_plain X I hs (osa_open (s:={s with toks:=s.toks+1}) X I hp ht λb=>?_);obtain⟨cd,hc,hd'⟩:=I1 hh
 have D':(s.heap.update d (Obj.putName name (PyData.keyHash w.params name) (.str name (s.toks+1)) v)).get? d=some (PySem.W.dictOf (PySem.W.putL name (PyData.keyHash w.params name) (.str name (s.toks+1)) v es) (putN name es k)):=by rw[s9 _ e2 (by rw[zD];rfl),zD]
 refine ah (aQ (ah (ah (HY e1 (ah (mU (s:={s with toks:=s.toks+1}) (looks_clsIn X hc) ?_))))));rw[hd'];refine aQ (a:=some d) (ah (aQ (ah ?_)));unfold nsSet;refine ah (ah (Am (aQ (ah (HZ (ah (HY e2 ?_)))))))
 have c:(!(es.toArray).any (·.key.isStr name)&&(es.toArray).any (·.refKey))=false:=by rw[←v9,←v9];show(!es.any _&&es.any _)=false;rw[hnr,Ay]
 dsimp only;rw[IY,c];refine wpAny_updatePart e2 ?_;refine ah (wpAny_lookBehind D' (by
  refine pastItsLine_dict ?_;rw[bM,lH];exact aJ Ft (aJ (A9 hz) (by decide))) ?_)
 exact aQ (hQ _ _ _ D' (mT ..) _)
section
variable{cx:Cx}{sl:List Str}{p:Pt}{st:Stmt}{rest a b:List Stmt}{c e o i:Expr}{pos pos':Pos}{m m1 m2:Fm aY}{f g k:Fm RV}
theorem Tt:df cx sl (execs [] cx.env) (aI .next):=λp A s tk Q E ar R z=>Ao (z _ _ _ _ (Ok.refl R) (show Flow.next=.next from rfl))
theorem TP(h1:df cx sl (exec st cx.env) m1)(h2:df cx sl (execs rest cx.env) m2):df cx sl (execs (st::rest) cx.env) λst=>(m1 st).bind λfl st=>nM fl m2 st:=λp A s tk Q E ar R z=>
 kg (h1 p A s tk _ E ar R (z.bd λf fl P tk o r z=>by
  cases fl with
  |next=>rw[show f=.next from r];exact h2 P A s tk Q E ar o.r z
  |brk=>rw[show f=.brk from r];exact z _ _ _ _ (Ok.refl o.r) (show Flow.brk=.brk from rfl)
  |cont=>rw[show f=.cont from r];exact z _ _ _ _ (Ok.refl o.r) (show Flow.cont=.cont from rfl)
  |ret x=>obtain⟨v,rfl,rv⟩:=r;exact z _ _ _ _ (Ok.refl o.r) ⟨v,rfl,rv⟩))
theorem Sy(K0:sY cx){x:Str}(h:cx.env.kindOf x=some .local∨cx.env.kindOf x=some .cell):hY cx x:=h.imp id λq=>⟨q,K0 x q⟩
theorem TQ(K0:bq cx){x:Str}{i:Nat}(hs0:swapsWith e (some (.Name x pos')) pos.line cx.env=pure false)(hn:ae sl i=some x)(hk:hY cx x)
  (h:aH cx sl (eval e cx.env) f):df cx sl (exec (.Assign [.Name x pos'] e pos) cx.env) λst=>(f st).bind λv st=>.ok .next ⟨bp st.loc i (some v),st.H⟩:=λp A s tk Q E ar R z=>wpAny_Assign_Name (hs:=hs0) (h p A s tk _ E ar R (z.bd λv a P tk o va z=>qb K0 o.r hn hk va λh' tk' o'=>z _ _ _ _ o' (show Flow.next=.next from rfl)))
theorem Tw{fc:Fm RV}(hc:dM cx sl (isTrue c cx.env (eval c cx.env)) (bP fc))(ha:df cx sl (execs a cx.env) m1)(hb:df cx sl (execs b cx.env) m2):
  df cx sl (exec (.If c a b pos) cx.env) λst=>(fc st).bind λt st=>(cm t st).bind λt st=>cond t (m1 st) (m2 st):=λp A s tk Q E ar R z=>
 wpAny_If (hc p A s tk _ E ar R (aC.bd (k:=λt st=>cond t (m1 st) (m2 st)) (by unfold bP;rw[Rs.asc];exact z) λt t' P tk o r z=>by
  subst r;cases t with
  |true=>exact ha P A s tk Q E ar o.r z
  |false=>exact hb P A s tk Q E ar o.r z))
theorem TO(h:aH cx sl (eval e cx.env) f):df cx sl (exec (.Return (some e) pos) cx.env) λst=>(f st).bind λv st=>.ok (.ret v) st:=λp A s tk Q E ar R z=>vW (h p A s tk _ E ar R (z.bd λv a P tk o va z=>z _ _ _ _ (Ok.refl o.r) ⟨v,rfl,va⟩))
theorem QW{P:Params}{h:Heap}{X:Addr→Prop}{M:Sp}{v:Value}{a:RV}(r:RR P h X M v a)(o:uU a=true):(mL v).isNone=true:=by
 cases a with
 |loc i=>exact nB o
 |v x=>
  have r:VR P h X v x:=r;cases x<;>first|exact nB o|skip
  ·rw[show v=.none from r];rfl
  ·rw[show v=.bool _ from r];rfl
  ·exact VR.onInt (C:=λv=>(mL v).isNone=true) r λ_=>rfl
  ·exact VR.onStr (C:=λv=>(mL v).isNone=true) r λ_ _ _=>rfl
theorem Tu(hi:interactive cx.env=false)(hs0:swapsWith e none pos.line cx.env=pure false)(h:aH cx sl (eval e cx.env) f):df cx sl (exec (.Expr e pos) cx.env) λst=>(f st).bind λv st=>aK (uU v) (aI .next) st:=λp A s tk Q E ar R z=>
 wpAny_Expr (hi:=hi) (hs:=hs0) (h p A s tk _ E ar R (z.bd λv a P tk o va z=>z.gd λc z=>by
  have n:=QW va c;have q:Q .next (Sh s P.h tk):=z _ _ _ _ (Ok.refl o.r) (show Flow.next=.next from rfl)
  cases v<;>first|exact q|exact nB n))
abbrev wI(env:Env)(x:Str)(f:Value→Sem Unit):Prop:=∀(M:Model)(A:Around)(E:Value→Shared→Prop)(Q:Unit→Shared→Prop)(s:Shared)(v:Value),wpAny M A (storeName env x v) Q E s→wpAny M A (f v) Q E s
abbrev lU(cx:Cx)(sl:List Str)(ts:List (Str×Pos))(is:List Nat):Prop:=Z2 (λ(t:Str×Pos) i=>ae sl i=some t.1∧hY cx t.1) ts is
theorem GR(K0:bq cx){A:Around}{s:Shared}{E:Value→Shared→Prop}(g:Str×Pos→Value→Sem Unit)(hg:∀q,wI cx.env q.1 (g q)){ts:List (Str×Pos)}{is:List Nat}(hts:lU cx sl ts is):
  ∀(vs:List Value)(xs:List RV)(p:Pt)(tk:Tok)(Q:Unit→Shared→Prop),SR cx sl p→ts.length=vs.length→p.vals cx vs xs→
  (∀h' tk,Ok cx sl p ⟨h',p.M,⟨dY p.σ.loc is xs,p.σ.H⟩⟩→Q () (Sh s h' tk))→wpAny (model pw cx.w) A (assignInOrder (ts.map g) vs) Q E (Sh s p.h tk):=Z2.rec' (C:=λ(ts:List (Str×Pos))(is:List Nat)=>∀(vs:List Value)(xs:List RV)(p:Pt)(tk:Tok)(Q:Unit→Shared→Prop),SR cx sl p→ts.length=vs.length→p.vals cx vs xs→
  (∀h' tk,Ok cx sl p ⟨h',p.M,⟨dY p.σ.loc is xs,p.σ.H⟩⟩→Q () (Sh s h' tk))→wpAny (model pw cx.w) A (assignInOrder (ts.map g) vs) Q E (Sh s p.h tk))
  (λvs xs p tk Q R hl hv hQ=>by
   cases vs with
   |nil=>exact aQ (hQ p.h tk (Ok.refl R))
   |cons _ _=>cases hl)
  (λ{t i ts is} h _ ih vs xs p tk Q R hl hv hQ=>by
   cases xs with
   |nil=>rw[show vs=[] from hv] at hl;cases hl
   |cons x xs=>refine Z2.on (C:=λvs=>(t::ts).length=vs.length→wpAny (model pw cx.w) A (assignInOrder ((t::ts).map g) vs) Q E (Sh s p.h tk)) hv (λv vs a b hl=>?_) hl;exact ah (fZ (hg t _ _ _ _ _ _ (qb K0 R h.1 h.2 a λh' tk' o=>ih vs xs ⟨h',p.M,⟨bp p.σ.loc i (some x),p.σ.H⟩⟩ tk' Q o.r (oV hl) (oH o.e b) λh2 tk2 o2=>hQ h2 tk2 (o2.tr o.e))))) hts
noncomputable def dT(ts:List (Str×Pos)):List Expr:=ts.map λq=>.Name q.1 q.2
theorem tH{env:Env}:∀ts:List (Str×Pos),assignEach (dT ts) env=ts.map λq=>(false,assign (.Name q.1 q.2) env)
 |[]=>rfl
 |q::ts=>congrArg (_::·) (tH ts)
theorem UD{env:Env}(q:Str×Pos):wI env q.1 (assign (.Name q.1 q.2) env):=λM A E Q s v h=>by rw[arm_assign_Name];exact ah (iJ (wpAny_bindName h))
theorem UE{env:Env}(q:Str×Pos):wI env q.1 (bindName env q.1):=λM A E Q s v h=>wpAny_bindName h
theorem D9{A:Around}(ar:A.handled=none)(R:SR cx sl p){s:Shared}{tk:Tok}{E:Value→Shared→Prop}{n:Nat}{T:Addr}{vs:List Value}{xs:List RV}(hT:p.h.IsTuple T vs.toArray)(hv:p.vals cx vs xs)(hn:n=xs.length){Q:List Value→Shared→Prop}
  (h:∀h',Ok cx sl p ⟨h',p.M,p.σ⟩→Q vs (Sh s h' tk)):wpAny (model pw cx.w) A (unpackItems (.ref T) n none) Q E (Sh s p.h tk):=by
 have hn:n=vs.toArray.size:=by rw[bM,Z2.length hv,hn]
 rw[hn];exact gE (wpAny_unpackItems_tuple (s:=Sh s p.h tk) ar hT λh' ex sz=>h h' (R.grow (h':=h') (λb o e=>ex b o (c9 (b9 e)) e) sz))
@[elab_as_elim] theorem VR.onTupR{v:Value}{l:List AV}{C:Value→Prop}(hv:p.val cx v (.v (.tup l)))(k:∀T vs,p.h.IsTuple T vs.toArray→p.vals cx vs (l.map .v)→C (.ref T)):C v:=VR.onTup (show VR cx.w.params p.h (p.av cx) v (.tup l) from hv) λa vs n e1 _ r=>k a vs (jW e1) r.rrs
theorem HC(K0:bq cx){ts:List (Str×Pos)}{is:List Nat}{k:Nat}{tpos:Pos}{T:Addr}{vs:List Value}{xs:List RV}(hts:lU cx sl ts is)(hT:p.h.IsTuple T vs.toArray)(hv:p.vals cx vs xs)(hb:Nat.beq xs.length is.length=true)
  {A:Around}{s:Shared}{tk:Tok}{Q:Unit→Shared→Prop}{E:Value→Shared→Prop}(ar:A.handled=none)(R:SR cx sl p)(hQ:∀h' tk,Ok cx sl p ⟨h',p.M,⟨dY p.σ.loc is xs,p.σ.H⟩⟩→Q () (Sh s h' tk)):
  wpAny (model pw cx.w) A (assign (.Tuple (dT ts) k tpos) cx.env (.ref T)) Q E (Sh s p.h tk):=by
 have hl:ts.length=xs.length:=hts.length.trans (em hb).symm;have hn:(assignEach (dT ts) cx.env).length=xs.length:=by rw[tH,aU,hl]
 have hst:(assignEach (dT ts) cx.env).findIdx? (·.1)=none:=by rw[tH,List.findIdx?_map,List.findIdx?_eq_none_iff];intro x _;rfl
 rw[arm_assign_Tuple];refine ah (iJ ?_);unfold unpack;rw[hn,hst];refine ah (fZ (D9 ar R hT hv rfl λh' o=>?_));rw[tH,dm];exact GR K0 _ UD hts vs xs ⟨h',p.M,p.σ⟩ tk Q o.r (hl.trans (Z2.length hv).symm) (oH o.e hv) λh2 tk2 o2=>hQ h2 tk2 (o2.tr o.e)
theorem TV(K0:bq cx){swp:Bool}{ts:List (Str×Pos)}{is:List Nat}{k:Nat}{tpos:Pos}(hts:lU cx sl ts is)
  (hs0:swapsWithSole [.Tuple (dT ts) k tpos] e pos.line cx.env=pure false)(hw:swappedStores [.Tuple (dT ts) k tpos] e cx.env=pure (cond swp (some (ts.map (·.1))) none))
  (h:aH cx sl (eval e cx.env) f):df cx sl (exec (.Assign [.Tuple (dT ts) k tpos] e pos) cx.env) λst=>(f st).bind λv st=>qS swp is v st:=λp A s tk Q E ar R z=>by
 cases swp with
 |false=>exact Assign_Tuple (hs:=hs0) (hw:=hw) (h p A s tk _ E ar R (z.bd λv a P tk o va z=>z.opt λl e z=>z.gd λg z=>VR.onTupR (C:=λv=>wpAny _ _ (assign _ _ v) _ _ _) (RR.cast (di iO e) va) λT vs hT r=>HC K0 hts hT r (by rw[aU];exact g) ar.rm.hand o.r λh' tk' o'=>z _ _ _ _ o' (show Flow.next=.next from rfl)))
 |true=>
  refine Assign_Tuple_swapped (hs:=hs0) (hw:=hw) (h p A s tk _ E ar R (z.bd λv a P tk o va z=>z.opt λl e z=>z.gd λg z=>VR.onTupR (C:=λv=>wpAny _ _ (unpackItems v _ _) _ _ _) (RR.cast (di iO e) va) λT vs hT r=>?_));have hl:ts.length=(l.map RV.v).length:=by rw[aU];exact hts.length.trans (em g).symm
  refine D9 ar.rm.hand o.r hT r (by rw[aU,hl]) λh' o'=>?_;have e3:((ts.map (·.1)).reverse.map λn=>bindName cx.env n)=ts.reverse.map λq=>bindName cx.env q.1:=by rw[←List.map_reverse,dm];rfl
  show wpAny _ _ (assignInOrder ((ts.map (·.1)).reverse.map λn=>bindName cx.env n) vs.reverse) _ _ _;rw[e3];exact GR K0 _ UE (Z2.reverse hts) vs.reverse (l.map .v).reverse ⟨h',P.M,P.σ⟩ tk _ o'.r (by rw[List.length_reverse,List.length_reverse,hl,Z2.length r]) (Z2.reverse (oH o'.e r)) λh2 tk2 o2=>z _ _ _ _ (o2.tr o'.e) (show Flow.next=.next from rfl)
theorem SR.putL(R:SR cx sl p){i:Nat}{b:Addr}{l l':List RV}{us:List Value}(hm:ae p.M i=some (b,b))(ho:ae p.σ.H i=some (.lst l)){h':Heap}(hs:Heap.SameBut b p.h h'){k:Nat}(e:h'.get? b=some (cL us k))(r:p.vals cx us l'):
  Ok cx sl p ⟨h',p.M,⟨p.σ.loc,bp p.σ.H i (.lst l')⟩⟩:=R.write hm ho trivial (.inl rfl) hs λu=>d8.mk e (a9.up u (λ_ _ e=>e) r)
theorem aC.unit{s:Shared}{r:Rs aY}{Q:Flow→Shared→Prop}{E:Value→Shared→Prop}(z:aC cx sl p s (ft cx) r Q E):aC cx sl p s (λP(_:Unit) fl=>ft cx P .next fl) r (λ_=>Q .next) E:=by
 cases r with
 |bad=>exact z
 |err=>exact z
 |ok x σ=>exactλ_ h' M' tk o r=>z _ h' M' tk o r
abbrev wG(cx:Cx)(sl:List Str)(p:Pt)(t:Sem Unit)(m:Fm aY):Prop:=aZ cx sl p (λP(_:Unit) fl=>ft cx P .next fl) t m
theorem Uf{v u w:Value}{x a i:RV}(hx:p.val cx w x)(hv:p.val cx v a)(hu:p.val cx u i):wG cx sl p (setItem v u w) (uf x a i):=.opt λj hj=>.opt λk hk=>.opt (o:=fE p.σ.H j) λl hl=>.gd λc A s tk Q E ar R z=>R.onOwnL (mA hj hv) hl λb us m hm ho e1 r=>VR.onInt (show VR cx.w.params p.h (p.av cx) u (.int k) from RR.cast (di fe hk) hu) λt=>by have c:=aF c;refine Ug (s:=Sh s p.h tk) e1 (bI c.1) (Int.lt_trans (bI c.2.2) (by decide)) (by rw[Z2.length r];exact bI c.2.1) λh' m' e hsb=>?_;exact z () h' _ tk (R.putL hm ho hsb e (r.set hx k.toNat)) (show Flow.next=.next from rfl)
theorem TU(hs0:swapsWith e (some (.Subscript o i pos')) pos.line cx.env=pure false)(he:aH cx sl (eval e cx.env) f)(ho:aH cx sl (eval o cx.env) g)(hi:aH cx sl (eval i cx.env) k):
  df cx sl (exec (.Assign [.Subscript o i pos'] e pos) cx.env) λst=>(f st).bind λv st=>(g st).bind λo st=>(k st).bind λk st=>uf v o k st:=λp A s tk Q E ar R z=>
 WR (hs:=hs0) (he p A s tk _ E ar R (z.bd λv x P tk o1 vx z=>ho P A s tk _ E ar o1.r (z.bd λv2 a P2 tk2 o2 va z=>hi P2 A s tk2 _ E ar o2.r (z.bd λv3 i P3 tk3 o3 vi z=>Uf (cG o3.e (cG o2.e vx)) (cG o3.e va) vi A s tk3 _ E ar o3.r z.unit))))
theorem Ua(K0:bq cx){j:Nat}{v w:Value}{x a:RV}(hx:p.val cx w x)(hv:p.val cx v a):wG cx sl p (setAttr v (nm j) w) (ud j x a):=.opt λi hi=>.opt (o:=r6 p.σ.H i) λq hq=>.gd λc A s tk Q E ar R z=>R.onOwnI (mA hi hv) hq λb d es n hm ho e1 e2 ne r=>by have c:=aF c;have d1:=B6 (P:=cx.w.params) c.1;have d2:=Kk (P:=cx.w.params) c.1;refine Ub (s:=Sh s p.h tk) (R.K K0) e1 e2 d2.1 d2.2.1 d2.2.2 d1.2.1 (eE.noRef r) (by rw[Z2.length r];exact lT c.2.2) λh' t k' e hsb tk=>?_;exact z () h' _ tk (R.write hm ho trivial (.inr rfl) hsb (o':=.inst q.1 (oB j x q.2)) λu=>hU.mk (fW hsb ne e1) e ne (eE.up u (λ_ _ e=>e) (eE.put (gv c.2.1) hx r))) (show Flow.next=.next from rfl)
theorem TR(K0:bq cx){j:Nat}(hs0:swapsWith e (some (.Attribute o (nm j) pos')) pos.line cx.env=pure false)(he:aH cx sl (eval e cx.env) f)(ho:aH cx sl (eval o cx.env) g):
  df cx sl (exec (.Assign [.Attribute o (nm j) pos'] e pos) cx.env) λst=>(f st).bind λv st=>(g st).bind λo st=>ud j v o st:=λp A s tk Q E ar R z=>Sz (hs:=hs0) (he p A s tk _ E ar R (z.bd λv x P tk o1 vx z=>ho P A s tk _ E ar o1.r (z.bd λv2 a P2 tk2 o2 va z=>Ua K0 (cG o2.e vx) va A s tk2 _ E ar o2.r z.unit)))
end
theorem vP(P:Params):((H1 P).get? 1).isSome=true:=by kernel_rfl
noncomputable def tF:List ac→List ac
 |[]=>[]
 |_::l=>.gone::tF l
noncomputable def fD:Nat→List ac→List ac
 |_,[]=>[]
 |0,l=>tF l
 |n+1,o::l=>o::fD n l
noncomputable def ix(g:Nat)(H:List ac):List Nat→List (Option RV)→Option (List (Option RV))
 |[],loc=>some loc
 |i::is,loc=>((ae loc i).bind id).bind λx=>(gT H g 9 x).bind λy=>ix g H is (bp loc i (some (.v y)))
noncomputable def xQ{α:Type}(g:Nat)(is:List Nat)(m:Fm α):Fm α:=λst=>aj (ix g st.H is st.loc) (λloc' _=>m ⟨loc',fD g st.H⟩) st
theorem BA:∀{l:List ac}{i:Nat}{o:ac},ae (tF l) i=some o→o=.gone
 |[],_,_,e=>nS e
 |_::_,0,_,e=>(ak e).symm
 |_::l,i+1,_,e=>BA (l:=l) (i:=i) e
theorem Bz:∀l:List ac,(tF l).length=l.length
 |[]=>rfl
 |_::l=>congrArg (·+1) (Bz l)
theorem Dm:∀(g:Nat)(l:List ac),(fD g l).length=l.length
 |0,[]=>rfl
 |_+1,[]=>rfl
 |0,o::l=>Bz _
 |g+1,o::l=>congrArg (·+1) (Dm g l)
theorem yj:∀{g:Nat}{l:List ac}{i:Nat}{o:ac},ae (fD g l) i=some o→o=.gone∨(i<g∧ae l i=some o)
 |0,[],_,_,e=>nS e
 |_+1,[],_,_,e=>nS e
 |0,_::_,_,_,e=>.inl (BA e)
 |g+1,_::_,0,_,e=>.inr ⟨wC _,e⟩
 |g+1,_::l,i+1,_,e=>(yj (g:=g) (l:=l) (i:=i) e).imp id λh=>⟨Ba h.1,h.2⟩
section
variable{cx:Cx}{sl:List Str}{p:Pt}
noncomputable def Bk(cx:Cx)(sl:List Str)(p:Pt)(X:Addr→Prop)(i:Nat)(x:RV):Prop:=ku cx sl p.h (p.av cx) p.M i x∨∃y,x=.v y∧ku cx sl p.h X p.M i (.v y)
theorem Gi{X:Addr→Prop}{g:Nat}{H:List ac}(fz:∀{v x y},p.val cx v x→gT H g 9 x=some y→VR cx.w.params p.h X v y):∀{is:List Nat}{l l':List (Option RV)},(∀i x,ae l i=some (some x)→Bk cx sl p X i x)→ix g H is l=some l'→
  l'.length=l.length∧∀i x,ae l' i=some (some x)→Bk cx sl p X i x
 |[],l,l',h,e=>ak e▸⟨rfl,h⟩
 |i::is,l,l',h,e=>aL (o:=(ae l i).bind id) e λx e1 e=>aL (o:=ae l i) e1 λx' e2 e3=>aL (o:=gT H g 9 x) e λy e4 e=>by
  rw[show x'=some x from e3] at e2
  have ih:=Gi fz (l:=bp l i (some (.v y))) (λj z q=>(Nat.decEq i j).casesOn (λc=>h j z ((uX c).symm.trans q)) λc=>by subst c;cases (ze e2).symm.trans q;exact .inr ⟨y,rfl,(h i x e2).elim (λr=>r.of λn v a b c=>.mk a b (fz c e4)) λ⟨y',c,r⟩=>by rw[c] at e4;cases (show some y'=some y from e4);exact r⟩) e
  exact⟨ih.1.trans (zU ..),ih.2⟩
theorem SR.fz(K0:bq cx)(R:SR cx sl p){g:Nat}(hg:cx.g≤g){is:List Nat}{loc':List (Option RV)}(e:ix g p.σ.H is p.σ.loc=some loc'):Ok cx sl p ⟨p.h,p.M,⟨loc',fD g p.σ.H⟩⟩:=have lv:∀{i b},cO p.M (fD g p.σ.H) i b→i<g∧cO p.M p.σ.H i b:=λx=>x.on λq o e1 e2 l e3=>(yj e2).elim (λc=>by rw[c] at l;exact False.elim l) λz=>⟨z.1,.mk e1 z.2 l e3⟩;have c:=R.toHR.chg (h':=p.h) (Dm g p.σ.H) (λi b x=>(lv x).2) (λ_ _ _ e=>e) (bw _) λu i a o e1 e2=>(yj e2).elim (λc=>by rw[c];exact trivial) λz=>(R.toHR.own i a o e1 z.2).up u (λ_ _ e=>e) λ_ _ _ _ e=>e;have u:Up p.h (p.av cx) p.h (HA cx.X p.M (fD g p.σ.H)):=c.2.up λ_ z=>z.elim
 have fz:∀{v x y},p.val cx v x→gT p.σ.H g 9 x=some y→VR cx.w.params p.h (HA cx.X p.M (fD g p.σ.H)) v y:=λr e=>ya u R.toHR.own (λi b gi l z=>z.elim (λz=>l.on λq o e1 _ _ hb=>have n:=R.nx i q (aJ hg gi) e1;hb.elim (λc=>n.1 (c▸z)) λc=>n.2 (c▸z))
  λz=>z.elim (λz=>z.elim (R.toHR.offA b ⟨i,l⟩) λz=>(Option.isSome_iff_exists.mp (vP cx.w.params)).elim λoo ho=>(R.toHR.clear sysModules oo (K0.says _ _ ho) (λq=>q.elim (λq=>nomatch q) λq=>nomatch q)).2 (z▸⟨i,l⟩)) λz=>z.elim λj y=>absurd (lv y).1 (Nat.not_lt.mpr (R.toHR.apart _ _ _ l (lv y).2▸gi))) 9 r e
 have s:=Gi fz (λi x q=>.inl (R.vars i x q)) e
 ⟨c.2.wide,R.mv' (X1:=cx.X0) c.1 (λb o _ e=>e) (λb z=>.inl (z.imp λi x=>(lv x).2)) R.nx (s.1.trans R.slen) λi x q=>(s.2 i x q).elim (λr=>r.of λn v a b c=>.mk a b (RR.up u (λ_ _ e=>e) c)) λ⟨y,e,r⟩=>e▸r⟩
theorem Tv(K0:bq cx){g:Nat}(hg:cx.g≤g){is:List Nat}{α β:Type}{rel:Pt→α→β→Prop}{t:Sem α}{m:Fm β}(h:jH cx sl rel t m):jH cx sl rel t (xQ g is m):=λp A s tk Q E ar R z=>aC.opt (o:=ix g p.σ.H is p.σ.loc) z λloc' e z=>have o:=R.fz K0 hg e;h ⟨p.h,p.M,⟨loc',fD g p.σ.H⟩⟩ A s tk Q E ar o.r (aC.mv o.e z)
end
end
section
open PySem.SeqAt
noncomputable def DV(a:RV)(H:List ac):Bool:=(gW a H).isSome
noncomputable def DZ(a:RV)(_:List ac):Bool:=(bJ kE a).isSome
noncomputable def DU(a:RV)(H:List ac):Bool:=(pc a H).isSome
inductive Bm where
 |append|extend|pop|index|join|update
noncomputable def Bm.ok(k:Bm):RV→List ac→Bool:=match k with
 |.join=>DZ
 |.update=>DU
 |_=>DV
noncomputable def nI{α:Type}:List α→Nat→List α
 |[],_=>[]
 |x::l,n=>match n with
  |0=>l
  |n+1=>x::nI l n
noncomputable def pt(i:Nat)(o:ac)(x:RV):Fm RV:=λst=>.ok x ⟨st.loc,bp st.H i o⟩
noncomputable def xN(a:RV)(xs:List RV):Fm RV:=aj (lC a) λi=>aj (one xs) λx=>fS λst=>aj (fE st.H i) λl=>aK (bR l.length) (pt i (.lst (l++[x])) (.v .none))
noncomputable def xP(a:RV)(xs:List RV):Fm RV:=aj (lC a) λi=>aj (one xs) λx=>fS λst=>aj (fE st.H i) λl=>aj (gW x st.H) λr=>aK (bR (l.length+r.length)) (pt i (.lst (l++r)) (.v .none))
noncomputable def xU(a:RV)(xs:List RV):Fm RV:=aj (lC a) λi=>fS λst=>aj (fE st.H i) λl=>jR (one xs) (λk=>aj (bJ eO k) λk=>aj (ae l 0) λx=>aK (decide (k=0)&&bR l.length) (pt i (.lst (nI l 0)) x))
 (aK xs.isEmpty (aj (ae l (l.length-1)) λx=>aK (bR l.length) (pt i (.lst (nI l (l.length-1))) x)))
noncomputable def uz(x:AV):List AV→Option Nat
 |[]=>none
 |y::l=>(cb 8 y x).bind λb=>cond b (some 0) ((uz x l).map (·+1))
noncomputable def wP(x:AV):List AV→Bool
 |[]=>true
 |y::l=>(cb 8 y x).isSome&&wP x l
noncomputable def CR(a:RV)(xs:List RV):Fm RV:=aj (one xs) λx=>fS λst=>aj ((iS a st.H).bind fx) λl=>aj (iS x st.H) λx=>aj (uz x l) λj=>aK (wP x l&&bR l.length) (aI (.v (.int j)))
noncomputable def sA:List RV→Option (List (List Nat))
 |[]=>some []
 |x::l=>(bJ kE x).bind λs=>(sA l).bind λr=>some (s::r)
noncomputable def CT(a:RV)(xs:List RV):Fm RV:=aj (bJ kE a) λg=>aj (one xs) λx=>fS λst=>aj (gW x st.H) λl=>aj (sA l) λss=>aK (g.isEmpty&&bR ((ss.map List.length).sum+ss.length)) (aI (.v (.str ss.flatten)))
noncomputable def yE(k:AV)(l:List AV):Bool:=l.all λx=> !fU k x
noncomputable def gg:List AV→Bool
 |[]=>true
 |k::l=>yE k l&&gg l
noncomputable def CY(a:RV)(xs:List RV):Fm RV:=aj (lC a) λi=>aj ((one xs).bind (bJ nf)) λr=>fS λst=>aj (oj st.H i) λl=>aK (cS true l&&cS true r&&(bR (l.length+r.length)&&gg (l.map (·.1)++r.map (·.1)))) (pt i (.dct (l++vd r)) (.v .none))
noncomputable def Bm.f(k:Bm):RV→List RV→Fm RV:=match k with
 |.append=>xN
 |.extend=>xP
 |.pop=>xU
 |.index=>CR
 |.join=>CT
 |.update=>CY
theorem VR.non{P:Params}{h:Heap}{X:Addr→Prop}{M:Sp}:RR P h X M .none (.v .none):=rfl
theorem Pc{str:Bool}{k:AV}(h:jU str k=true):fU k k=true:=by cases k<;>first|exact nB h|exact cD rfl
theorem mj{str:Bool}:∀{l:List AV},(∀k∈l,jU str k=true)→gg l=true→l.Nodup
 |[],_,_=>lS
 |k::l,a,h=>List.nodup_cons.mpr ⟨λm=>nB ((congrArg not (Pc (a k (.head _)))).symm.trans (List.all_eq_true.mp (aA h).1 k m)),mj (λx hx=>a x (.tail _ hx)) (aA h).2⟩
theorem lY{α:Type}{b:Bool}:∀{l:List (AV×α)},cS b l=true→∀k∈l.map (·.1),jU b k=true
 |[],_,_,m=>nomatch m
 |q::l,h,y,hy=>xz h λh1 h2=>(List.mem_cons.mp hy).elim (λe=>e▸h1) (lY h2 y)
theorem Z2.erase{α β:Type}{R:α→β→Prop}{vs:List α}{l:List β}(r:Z2 R vs l):∀j:Nat,Z2 R (vs.eraseIdx j) (nI l j):=Z2.rec' (C:=λvs l=>∀j:Nat,Z2 R (vs.eraseIdx j) (nI l j)) (λ_=>.nil) (λc b ih j=>Nat.casesOn (motive:=λj=>Z2 R ((_::_).eraseIdx j) (nI (_::_) j)) j b λj=>.cons c (ih j)) r
theorem v6{α β:Type}:∀l:List (α×β),(l.map (·.1)).zip (l.map (·.2))=l
 |[]=>rfl
 |q::l=>congrArg (q::·) (v6 l)
theorem lJ{α:Type}(l:List (α×AV)):(vd l).map (·.1)=l.map (·.1):=dm ..
theorem OH{P:Params}{h:Heap}{X:Addr→Prop}{x:AV}{vs:List Value}{l:List AV}(z:Z2 (λv a=>VR P h X v a) vs l):∀{j:Nat},uz x l=some j→
  ∃lt:j<vs.length,(ec h 8 vs[j] x).getD false=true∧∀m(hm:m<vs.length),m<j→(ec h 8 vs[m] x).getD false=false:=Z2.rec' (C:=λvs l=>∀{j:Nat},uz x l=some j→∃lt:j<vs.length,(ec h 8 vs[j] x).getD false=true∧∀m(hm:m<vs.length),m<j→(ec h 8 vs[m] x).getD false=false) (λ{j} e=>nS e)
  (λ{v a vs l} r _ ih{j} e=>aL (o:=cb 8 a x) e λb e1 e=>by
   have d:(ec h 8 v x).getD false=b:=by rw[qN 8 r e1];rfl
   cases b with
   |true=>rw[←ak e];exact⟨wC _,d,λm _ c=>absurd c (A7 _)⟩
   |false=>exact cz e λi e2 e=>e▸(ih e2).elim λlt q=>⟨Ba lt,q.1,λm hm c=>by
     cases m with
     |zero=>exact d
     |succ m=>exact q.2 m (ko hm) (ko c)⟩) z
theorem By{x:AV}:∀{l:List AV},wP x l=true→∃r,iq x l=some r
 |[],_=>⟨false,rfl⟩
 |y::l,h=>(Option.isSome_iff_exists.mp (aA h).1).elim λb hb=>(By (aA h).2).elim λr hr=>⟨b||r,by rw[I0,hb,hr];rfl⟩
theorem UH{P:Params}{h:Heap}{X:Addr→Prop}{M:Sp}{vs:List Value}{l:List RV}(z:a9 P h X M vs l):∀{q:List (List Nat)},sA l=some q→∃ys:List Str,StrsAre vs ys∧ys.map (λs=>s.cps.toList)=q:=Z2.rec' (C:=λvs l=>∀{q:List (List Nat)},sA l=some q→∃ys:List Str,StrsAre vs ys∧ys.map (λs=>s.cps.toList)=q) (λ{q} e=>⟨[],.nil,ak e⟩) (λ{v x vs l} a _ ih{q} e=>aL (o:=bJ kE x) e λs e1 e=>aL (o:=sA l) e λr e2 e=>VR.onStr (C:=λv=>∃ys:List Str,StrsAre (v::vs) ys∧ys.map (λs=>s.cps.toList)=q) (show VR P h X v (.str s) from RR.cast (di kG e1) a) λw t c=>(ih e2).elim λys k=>⟨w::ys,.cons w t k.1,by rw[←ak e,gM,k.2,c]⟩) z
theorem NC(g:Str)(hg:g.cps= #[]):∀ys:List Str,(Txt.join g ys).cps.toList=(ys.map λs=>s.cps.toList).flatten:=by
 have go:∀(ys:List Str)(acc:Array Nat),(ys.foldl (λacc p=>acc++g.cps++p.cps) acc).toList=acc.toList++(ys.map λs=>s.cps.toList).flatten:=by
  intro ys;induction ys with
  |nil=>intro acc;exact(eK _).symm
  |cons y ys ih=>intro acc;rw[List.foldl_cons,ih,hg,Array.append_empty,Array.toList_append,hJ];rfl
 intro ys;cases ys with
 |nil=>rfl
 |cons y ys=>exact go ys y.cps
structure kt(h:Heap)(v:Value)(T:String):Prop where
 ty:∀g d t os,Shared.TypeIs ⟨h,g,d,t,os⟩ v T
 nd:∀b,v=.ref b→∃ob,h.get? b=some ob∧ob.dict=none
theorem kt.ref{h:Heap}{b:Addr}{o:Obj}{T:String}(e:h.get? b=some o)(c:o.cls=.type T)(d:o.dict=none):kt h (.ref b) T:=⟨λ_ _ _ _=>⟨o,e,c⟩,λ_ q=>by cases q;exact⟨o,e,d⟩⟩
section
variable{cx:Cx}{sl:List Str}{p:Pt}
@[elab_as_elim] theorem gG{C:List Value→Prop}{vs:List Value}{xs:List RV}{x:RV}(e:one xs=some x)(hx:p.vals cx vs xs)(k:∀v,p.val cx v x→C [v]):C vs:=by cases Rt e;exact Z2.on (C:=C) hx λv us a b=>by rw[show us=[] from b];exact k v a
theorem SR.notSys(K0:bq cx)(R:SR cx sl p){b:Addr}(n:¬p.av cx b∨bn p.M p.σ.H b):(b==sysModules)=false:=n.elim oC λl=>beq_eq_false_iff_ne.mpr λc=>(Option.isSome_iff_exists.mp (vP cx.w.params)).elim λoo ho=>(R.toHR.clear sysModules oo (K0.says _ _ ho) (λq=>q.elim (λq=>nomatch q) λq=>nomatch q)).2 (c▸l)
theorem SR.putD(R:SR cx sl p){i:Nat}{b:Addr}{l l':List (AV×RV)}{es:List DictEntry}(hm:ae p.M i=some (b,b))(ho:ae p.σ.H i=some (.dct l)){h':Heap}(hs:Heap.SameBut b p.h h'){k:Nat}(e:h'.get? b=some (dictOf es k))(r:cC cx.w.params p.h (p.av cx) p.M es l'):
  Ok cx sl p ⟨h',p.M,⟨p.σ.loc,bp p.σ.H i (.dct l')⟩⟩:=R.write hm ho trivial (.inl rfl) hs (o':=.dct l') λu=>d8.mk e (cC.up u (λ_ _ e=>e) r)
variable{v:Value}{a:RV}{vs:List Value}{xs:List RV}
theorem I3(hv:p.val cx v a)(hx:p.vals cx vs xs):aZ cx sl p (rV cx) (call (.builtin "list.append") (v::vs)) (xN a xs):=.opt λi hi=>.opt λx h1=>.opt (o:=fE p.σ.H i) λl hl=>.gd λg A s tk Q E ar R z=>gG (C:=λvs=>wpAny _ _ (call _ (v::vs)) _ _ _) h1 hx λu hu=>R.onOwnL (C:=λv=>wpAny _ _ (call _ [v,u]) _ _ _) (mA hi hv) hl λb us k hm ho e1 r=>by refine WS (s:=Sh s p.h tk) ⟨k,e1⟩ (λh' hp hsb=>?_) (by rw[bM,Z2.length r];exact gt g);obtain⟨k',e'⟩:=hp;exact z .none h' _ tk (R.putL hm ho hsb (us:=us++[u]) (k:=k') (e'.trans (by rw[List.push_toArray])) (r.append (.cons hu .nil))) VR.non
theorem Fi{s:Shared}{tk:Tok}{Q:Value→Shared→Prop}{E:Value→Shared→Prop}(R:SR cx sl p){i:Nat}{l:List RV}{b:Addr}{us:List Value}{k:Nat}(hm:ae p.M i=some (b,b))(ho:ae p.σ.H i=some (.lst l))(e1:p.h.get? b=some (cL us k))(r:p.vals cx us l)
  {j:Nat}{y:Value}{x:RV}(hy:us[j]? =some y)(ry:p.val cx y x)(z:aC cx sl p s (rV cx) (pt i (.lst (nI l j)) x p.σ) Q E):Q y (Sh s (p.h.update b (Obj.mapSeq λxs=>xs.eraseIdxIfInBounds j)) tk):=by have lt:j<us.length:=(List.getElem?_eq_some_iff.mp hy).1;obtain⟨m',e⟩:=Af (f:=λxs=>xs.eraseIdxIfInBounds j) (us:=us.eraseIdx j) e1 (by simp[Array.eraseIdxIfInBounds,lt]);have o:=R.putL hm ho (mT ..) e (r.erase j);exact z y _ _ tk o (cG o.e ry)
theorem SB(hv:p.val cx v a)(hx:p.vals cx vs xs):aZ cx sl p (rV cx) (call (.builtin "list.pop") (v::vs)) (xU a xs):=.opt λi hi=>.opt (o:=fE p.σ.H i) λl hl=>.els (λw hw=>.opt λk hk=>.opt λx hx'=>.gd λg A s tk Q E ar R z=>gG (C:=λvs=>wpAny _ _ (call _ (v::vs)) _ _ _) hw hx λu hu=>VR.onInt (C:=λu=>wpAny _ _ (call _ [v,u]) _ _ _) (show VR cx.w.params p.h (p.av cx) u (.int k) from RR.cast (di fe hk) hu) λt=>R.onOwnL (C:=λv=>wpAny _ _ (call _ [v,_]) _ _ _) (mA hi hv) hl λb us m hm ho e1 r=>by rw[bI (aA g).1];obtain⟨y,hy,ry⟩:=r.nth' hx';have lt:0<us.length:=(List.getElem?_eq_some_iff.mp hy).1;refine qC (s:=Sh s p.h tk) IG ⟨_,e1,rfl⟩ IF (PySem.F.args_list_pop_2 _ _) (PySem.MeetsSeq.list_pop_at b us.toArray m 0 t 0 y (by decide) ?_ (by rw[km];exact hy) (by rw[bM,Z2.length r];exact gt (aA g).2)) ⟨e1,Fi (s:=s) (tk:=tk) R hm ho e1 r hy ry z⟩;unfold seqIndex?;rw[bQ (show¬(0:Int)<0 from by decide)];exact bF (Bool.and_eq_true_iff.mpr ⟨rfl,cD (by rw[bM];exact Int.ofNat_lt.mpr lt)⟩))
 (.gd λc=>.opt λx hx'=>.gd λg A s tk Q E ar R z=>R.onOwnL (C:=λv=>wpAny _ _ (call _ (v::vs)) _ _ _) (mA hi hv) hl λb us m hm ho e1 r=>by have hx:p.vals cx vs []:=List.isEmpty_iff.mp c▸hx;rw[show vs=[] from hx];have len:=Z2.length r;obtain⟨y,hy,ry⟩:=r.nth' hx';rw[←len] at hy z;refine qC (s:=Sh s p.h tk) IG ⟨_,e1,rfl⟩ IF (PySem.F.args_list_pop_1 _) (PySem.MeetsSeq.list_pop_last b us.toArray m y (by rw[bM,km];exact hy) (by rw[bM,len];exact gt g)) ⟨e1,?_⟩;rw[bM];exact Fi (s:=s) (tk:=tk) R hm ho e1 r hy ry z)
theorem Lw(hv:p.val cx v a)(hx:p.vals cx vs xs):aZ cx sl p (rV cx) (call (.builtin "list.extend") (v::vs)) (xP a xs):=.opt λi hi=>.opt λx h1=>.opt (o:=fE p.σ.H i) λl hl=>.opt (o:=gW x p.σ.H) λl2 hl2=>.gd λg A s tk Q E ar R z=>gG (C:=λvs=>wpAny _ _ (call _ (v::vs)) _ _ _) h1 hx λu hu=>R.onOwnL (C:=λv=>wpAny _ _ (call _ [v,u]) _ _ _) (mA hi hv) hl λb us k hm ho e1 r=>R.onList (C:=λu=>wpAny _ _ (call _ [.ref b,u]) _ _ _) hu hl2 λc ws j e2 r2=>by
  have len:=Z2.length r;have len2:=Z2.length r2;have b1:us.length+ws.length≤1000:=by rw[len,len2];exact ru g
  have eu:us.length+ws.length≤sizeLine:=by rw[len,len2];exact gt g
  refine qC (s:=Sh s p.h tk) PySem.F.slot_list_extend ⟨_,e1,rfl⟩ PySem.F.entry_list_extend (PySem.F.args_list_extend_2 _ _) (PySem.AutoSeq1.list_extend_list_list_0 b us.toArray k c ws.toArray j ?_ (by rw[bM];exact aJ (eM _ _) eu) (by rw[bM,bM];exact A4 eu)) ⟨e1,e2,?_⟩
  ·have:Builtin.List.listTooLong (us.length+ws.length)=false:=by unfold Builtin.List.listTooLong;simp;unfold sizeLine;omega
   rw[bM,bM,this];simp
  ·obtain⟨m',e⟩:=Af (f:=λx=>x++ws.toArray) (us:=us++ws) e1 (by simp);exact z .none _ _ tk (R.putL hm ho (mT ..) e (r.append r2)) VR.non
theorem OJ(hv:p.val cx v a)(hx:p.vals cx vs xs):aZ cx sl p (rV cx) (call (.builtin "list.index") (v::vs)) (CR a xs):=.opt λx h1=>.opt (o:=(iS a p.σ.H).bind fx) λl hl=>.opt (o:=iS x p.σ.H) λy hy=>.opt λj hj=>.gd λg A s tk Q E ar R z=>aL hl λal e1 e2=>gG (C:=λvs=>wpAny _ _ (call _ (v::vs)) _ _ _) h1 hx λu hu=>VR.onLst (C:=λv=>wpAny _ _ (call _ [v,u]) _ _ _) (VR.cast (iN e2) (R.frozen hv e1)) λax us k e1 _ r=>by obtain⟨rr,hr⟩:=By (aA g).1;have f:=wU (A:=A.in1) (s:=Sh s p.h tk) (R.frozen hu hy) (eX (by show A.units+1+8≤A.units+20;omega) ar.rm.line) r.z2 hr;obtain⟨lt,h1,h2⟩:=OH r.z2 hj;refine qC (s:=Sh s p.h tk) PySem.F.slot_list_index ⟨_,e1,rfl⟩ PySem.F.entry_list_index (PySem.F.args_list_index_2 _ _) (list_indexAt ax us.toArray k none #[] _ (λy'=>(ec p.h 8 y' y).getD false) j lt (by have:=bj.length r;have:=ru (aA g).2;omega) h1 (λm hm c=>h2 m hm c)) ⟨e1,λz hz=>f.1 z (List.mem_toArray.mp hz),?_⟩;exact z _ _ _ _ (Ok.refl R) (show VR cx.w.params p.h (p.av cx) _ (.int _) from .int _ _)
theorem O9(hv:p.val cx v a)(hx:p.vals cx vs xs):aZ cx sl p (rV cx) (call (.builtin "str.join") (v::vs)) (CT a xs):=.opt λg hg=>.opt λx h1=>.opt (o:=gW x p.σ.H) λl hl=>.opt λss hss=>.gd λc A s tk Q E ar R z=>gG (C:=λvs=>wpAny _ _ (call _ (v::vs)) _ _ _) h1 hx λu hu=>VR.onStr (C:=λv=>wpAny _ _ (call _ [v,u]) _ _ _) (show VR cx.w.params p.h (p.av cx) v (.str g) from RR.cast (di kG hg) hv) λw t q=>R.onList (C:=λu=>wpAny _ _ (call _ [_,u]) _ _ _) hu hl λb us k e1 r=>by
  obtain⟨ys,h1,h2⟩:=UH r hss;have hw:w.cps= #[]:=Array.toList_inj.mp (q.trans (List.isEmpty_iff.mp (aA c).1));refine join_listW (s:=Sh s p.h tk) (dw e1) h1 (by show w.cps.size≤16;rw[hw];decide) ?_ λt' tk=>?_
  ·have e2:ys.map (·.length)=ss.map List.length:=by rw[←h2,dm];exact List.map_congr_left λs _=>yZ s
   rw[e2,show ys.length=ss.length by rw[←h2,aU]];have:=ru (aA c).2;omega
  ·exact z _ _ _ _ (Ok.refl R) (ig.mk (Txt.join w ys) t' ((NC w hw ys).trans (by rw[h2])))
theorem QX{str:Bool}{l r:List AV}(h1:∀k∈l,jU str k=true)(h2:∀k∈r,jU str k=true)(h:gg (l++r)=true):(l++r).Nodup:=mj (λk m=>(List.mem_append.mp m).elim (h1 k) (h2 k)) h
theorem VL(hv:p.val cx v a)(hx:p.vals cx vs xs):aZ cx sl p (rV cx) (call (.builtin "dict.update") (v::vs)) (CY a xs):=.opt λi hi=>.opt λr hr=>.opt (o:=oj p.σ.H i) λl hl=>.gd λg A s tk Q E ar R z=>aL hr λx h1 hr=>gG (C:=λvs=>wpAny _ _ (call _ (v::vs)) _ _ _) h1 hx λu hu=>R.onOwnD (C:=λv=>wpAny _ _ (call _ [v,u]) _ _ _) (mA hi hv) hl λb es m hm ho e1 rr=>VR.onDct (C:=λu=>wpAny _ _ (call _ [_,u]) _ _ _) (show VR cx.w.params p.h (p.av cx) u (.dct r) from RR.cast (di qy hr) hu) λax es2 k2 e2 n2 r2=>by
  have g:=aF g;have nd:=QX (lY g.1) (lY g.2.1) (aA g.2.2).2;obtain⟨kvs,D,rs,hk,ln,_⟩:=(dS cx.w).dict e1 rr g.1 (List.nodup_append.mp nd).1;obtain⟨more,D2,rs2,hk2,ln2,_⟩:=(dS cx.w).dict (M:=p.M) e2 r2.rrd ((oY r).trans g.2.1) (by rw[lJ];exact(List.nodup_append.mp nd).2.1);have ln2:more.length=r.length:=ln2.trans (aU ..);have ne:b≠ax:=λz=>n2 (z▸.inr (.inr ⟨i,.mk hm ho trivial (.inl rfl)⟩));refine call_meetsIn (s:=Sh s p.h tk) PySem.F.slot_dict_update D.typeIs PySem.F.entry_dict_update (PySem.F.args_dict_update_2 _ _) (meets_dict_update (PySem.strKind pw cx.w) b ax ne (oC n2))
   ⟨kvs,more,D,D2,(by rw[ln,ln2];exact gt (aA g.2.2).1),λh' D' _ hsb=>?_⟩
  have ee:(kvs++more).map (λq=>(dS cx.w).av q.1)=(l++vd r).map (·.1):=by rw[eL,hk,hk2,eL]
  rw[merged_append_of_fresh _ _ (uW (f:=(dS cx.w).av) (by rw[dm];show(List.map (λq:Str×Value=>(dS cx.w).av q.1) _).Nodup;rw[ee,eL,lJ];exact nd))] at D';refine(dS cx.w).ofDict (h:=p.h) (X:=p.av cx) (M:=p.M) (xs:=(l++vd r).map (·.2)) D' (by rw[eL,eL];exact Z2.append rs rs2) λes' m' e' r'=>?_;rw[ee,v6] at r';exact z .none _ _ tk (R.putD hm ho hsb e' r') VR.non
theorem uM(R:SR cx sl p)(va:p.val cx v a)(ok:DV a p.σ.H=true):kt p.h v "list":=(Option.isSome_iff_exists.mp ok).elim λl hl=>R.onList (C:=λv=>kt p.h v "list") va hl λb vs k e1 _=>.ref e1 rfl rfl
theorem KO(R:SR cx sl p)(va:p.val cx v a)(ok:DU a p.σ.H=true):kt p.h v "dict":=(Option.isSome_iff_exists.mp ok).elim λl hl=>R.onDict (C:=λv=>kt p.h v "dict") va hl λb vs k e1 _ _=>.ref e1 rfl rfl
theorem UF(R:SR cx sl p)(va:p.val cx v a)(ok:DZ a p.σ.H=true):kt p.h v "str":=(Option.isSome_iff_exists.mp ok).elim λl hl=>VR.onStr (C:=λv=>kt p.h v "str") (show VR cx.w.params p.h (p.av cx) v (.str l) from RR.cast (di kG hl) va) λs t _=>⟨λ_ _ _ _=>rfl,λb q=>nomatch q⟩
theorem pV{T id:String}{nme:Str}{o:Expr}{es:List Expr}{apos pos:Pos}{ok:RV→List ac→Bool}{F:RV→List RV→Fm RV}{f:Fm RV}{l:Fm (List RV)}(pa:PlainAttrs T)(slot:Slot T nme id)(hty:typeOf (.builtin id)=pure (.type "method_descriptor"))
  (hT:∀(P:Pt)(v:Value)(a:RV),SR cx sl P→P.val cx v a→ok a P.σ.H=true→kt P.h v T)
  (hF:∀{P:Pt}{v:Value}{a:RV}{vs:List Value}{xs:List RV},P.val cx v a→P.vals cx vs xs→aZ cx sl P (rV cx) (call (.builtin id) (v::vs)) (F a xs))
  (hpl:gC es cx.env)(hbase:attributeBase o nme cx.env (eval o cx.env)=eval o cx.env)(hline:(apos.endLine==pos.line)=true)(hlen:es.length<25)
  (ho:aH cx sl (eval o cx.env) f)(hl:hZ cx sl (spliced (backTo pos (starEach es cx.env))) l):
  aH cx sl (eval (.Call (.Attribute o nme apos) es [] pos) cx.env) λst=>(f st).bind λx st=>aK (ok x st.H) (λst=>(l st).bind λxs st=>F x xs st) st:=λp A s tk Q E ar R z=>by
 have hform:((backTo pos (starEach es cx.env)).all (λx=> !x.1)&&(backToKw pos (keywordEach [] cx.env)).all (λx=>x.1.isSome)&&decide (es.length+([]:List Keyword).length+(if ([]:List Keyword).isEmpty then 0 else 1)<30))=true:=by rw[kH hpl,AM,show(es.all ((λx=> !x.1)∘λe=>((false,eval e cx.env):Bool×Sem Value)))=true from List.all_eq_true.mpr λ_ _=>rfl];exact cD (dK hlen (by decide))
 refine wpAny_Call_method_late hbase hform hline rfl (ho p A s tk _ E ar R (z.bd λv a P tk o va z=>z.gd λk1 z=>?_));have t:=hT P v a o.r va k1;refine⟨T,id,pa,slot,hty,t.ty _ _ _ _,t.nd,?_⟩;have hplain:(backTo pos (starEach es cx.env)).any (·.1)=false:=List.any_eq_false.mpr λx m=>by rw[kH hpl] at m;obtain⟨e,_,rfl⟩:=List.mem_map.mp m;exact jy
 exact tN hplain (kM hpl (hl P A s tk _ E ar o.r (z.bd λvs xs P' tk' o' vv z=>hF (cG o'.e va) vv A s tk' Q E ar o'.r z)))
end
end
section
open PySem.SeqAt
noncomputable def mq(k:Int)(x:RV):List (AV×RV)→List (AV×RV)
 |[]=>[(.int k,x)]
 |q::l=>cond (fU q.1 (.int k)) ((.int k,x)::l) (q::mq k x l)
noncomputable def ue(x a i:RV):Fm aY:=aj (lC a) λj=>aj (bJ eO i) λk st=>aj (oj st.H j) (λl=>aK (cS false l&&bR l.length&&gg (l.map (·.1))) λ_=>.ok .next ⟨st.loc,bp st.H j (.dct (mq k x l))⟩) st
theorem UB{K:Type}[DecidableEq K](q:K×Value)(kvs:List (K×Value))(k:K)(v:Value)(hn:((q::kvs).map (·.1)).Nodup):stored (q::kvs) k v=cond (decide (q.1=k)) ((k,v)::kvs) (q::stored kvs k v):=by
 have hn:=List.nodup_cons.mp hn;unfold stored;rw[wn];by_cases c:q.1=k
 ·subst c;rw[cD rfl,Bool.true_or,bF rfl,gM,bF rfl];exact congrArg (_::·) (map_store_of_not_mem kvs _ v hn.1)
 ·rw[bW c,Bool.false_or,gM,bQ c];cases kvs.any λkv=>decide (kv.1=k)<;>rfl
theorem GQ{P:Params}{h:Heap}{X:Addr→Prop}{M:Sp}{k:Int}{v:Value}{x:RV}(rx:RR P h X M v x):∀{kvs:List (Int×Value)}{l:List (AV×RV)},kvs.map (λq=>AV.int q.1)=l.map (·.1)→a9 P h X M (kvs.map (·.2)) (l.map (·.2))→(kvs.map (·.1)).Nodup→
  ∃ys,a9 P h X M ((stored kvs k v).map (·.2)) ys∧((stored kvs k v).map λq=>AV.int q.1).zip ys=mq k x l
 |[],[],_,_,_=>⟨[x],.cons rx .nil,rfl⟩
 |[],_::_,e,_,_=>nomatch e
 |_::_,[],e,_,_=>nomatch e
 |(j,u)::kvs,(a,y)::l,e,r,hn=>by
  obtain⟨e1,e2⟩:=oQ (show AV.int j::kvs.map (λq=>AV.int q.1)=a::l.map (·.1) from e);subst e1;rw[UB _ _ _ _ hn];obtain⟨ry,rs⟩:RR P h X M u y∧a9 P h X M (kvs.map (·.2)) (l.map (·.2)):=bA.rec (motive:=λvs _=>vs=u::kvs.map (·.2)→_) (λa b c=>by cases c;exact⟨a,b⟩) r rfl;have hp:mq k x ((AV.int j,y)::l)=cond (decide (j=k)) ((.int k,x)::l) ((AV.int j,y)::mq k x l):=rfl;rw[hp];cases c:decide (j=k) with
  |true=>refine⟨x::l.map (·.2),.cons rx rs,?_⟩;show(AV.int k,x)::(kvs.map λq=>AV.int q.1).zip (l.map (·.2))=_;rw[e2,v6];rfl
  |false=>exact(GQ rx e2 rs (List.nodup_cons.mp hn).2).elim λys h=>⟨y::ys,.cons ry h.1,congrArg ((AV.int j,y)::·) h.2⟩
inductive Bf where
 |len|abs|max|int|list (own:Bool)|dict
noncomputable def vk{α:Type}(l:List α):Option (α×α):=match l with
 |[x,y]=>some (x,y)
 |_=>none
theorem zy{α:Type}{l:List α}{x:α×α}(e:vk l=some x):l=[x.1,x.2]:=by rcases l with _|⟨y,_|⟨z,_|⟨w,l⟩⟩⟩<;>first|exact nS e|(rw[←ak e])
noncomputable def CU(xs:List RV):Fm RV:=aj (one xs) λa=>fS λst=>aj (oA a st.H) λl=>aK (Nat.blt l.length 1000000) (aI (.v (.int l.length)))
noncomputable def CN(xs:List RV):Fm RV:=aj ((one xs).bind (bJ eO)) λi=>aI (.v (.int (if i<0 then-i else i)))
noncomputable def CW(xs:List RV):Fm RV:=aj (vk xs) λq=>aj (iB q.1 q.2 λi j=>if j>i then j else i) λc=>aI (.v (.int c))
noncomputable def CS(xs:List RV):Fm RV:=aj ((one xs).bind (bJ xa)) λb=>aI (.v (.int (if b then 1 else 0)))
noncomputable def CV(own:Bool)(xs:List RV):Fm RV:=aj (one xs) λa=>fS λst=>jR (oA a st.H) (λl=>aK (bR l.length) (iR own l)) (aj (pc a st.H) λl=>aK (cS false l&&bR l.length&&gg (l.map (·.1))) (iR own (l.map λq=>.v q.1)))
noncomputable def Hs(x:AV):Option (Int×AV):=(eP x).bind λl=>(vk l).bind λq=>(eO q.1).map λk=>(k,q.2)
noncomputable def sd:List RV→Option (List (Int×AV))
 |[]=>some []
 |x::l=>(bJ Hs x).bind λq=>(sd l).bind λr=>some (q::r)
noncomputable def CQ(xs:List RV):Fm RV:=aj (one xs) λa=>jR (bJ nf a) (λl=>aK (cS true l&&bR l.length&&gg (l.map (·.1))) (aI (.v (.dct l))))
 (fS λst=>aj (gW a st.H) λl=>aj (sd l) λq=>aK (bR q.length&&gg (q.map λz=>.int z.1)) (aI (.v (.dct (q.map λz=>(.int z.1,z.2))))))
noncomputable def Bf.f(k:Bf):List RV→Fm RV:=match k with
 |.len=>CU
 |.abs=>CN
 |.max=>CW
 |.int=>CS
 |.list own=>CV own
 |.dict=>CQ
theorem Pe:typeLookup (.type "list") (Str.ofString "keys")=pure none:=am_miss_of_fast (by kernel_rfl)
theorem Pg:(["__module__","__name__","__qualname__","__doc__","__annotations__"]:List Str).contains (Str.ofString "keys")=false:=by kernel_rfl
theorem CC:entryFor table "dict.update.loop"=some Builtin.«dict.update.loop»:=entryFor_of_tree (by kernel_rfl)
theorem vn:plainId "dict.update.loop"=true:=by decide+kernel
section
variable{prog:Program}{w:World}{A:Around}{E:Value→Shared→Prop}{s:Shared}
theorem Nw{a:Addr}{xs:Array Value}{k:Nat}{Q:Option Value→Shared→Prop}(hx:s.heap.get? a=some {cls:=.type "list",dict:=none,data:=.seq xs k,slots:= #[]})(hA:A.handled=none)
  (h:∀h' tk,(∀b o,s.heap.get? b=some o→h'.get? b=some o)→Q none {s with heap:=h',toks:=tk}):wpAny (model prog w) A (getAttr? (.ref a) (Str.ofString "keys")) Q E s:=by
 obtain⟨hp,g,d,tk,os⟩:=s;have hT:∀tk',(⟨hp,g,d,tk',os⟩:Shared).TypeIs (.ref a) "list":=λ_=>⟨_,hx,rfl⟩;have f1:=sub_AttributeError;have f3:=F.slot_list_getattribute.lookup;have f4:=F.slot_list_getattribute.bind (.ref a);have f5:=am_list_getattr_none;unfold getAttr? getAttrBy? getAttrBy;repeat (any_goals (first|assumption|exact hT _|((with_reducible show wpAny _ _ (call (Value.builtin "list.__getattribute__") _ _) _ _ _);refine qC F.slot_list_getattribute (hT _) am_entry_list_getattribute (F.args_list_getattribute_2 _ _) (meets_getattribute_miss_list a xs k #[] (Str.ofString "keys") _ Pe Pg) ⟨hx,hA,λh' tk' e hx'=>?_⟩)|wp_step))
 obtain⟨t',u',he⟩:=hx'.there;show wpAny _ _ (getattributeRaised _ _ _ _ _ _ _) _ _ _;unfold getattributeRaised;repeat (any_goals (first|assumption|wp_step))
 exact h _ _ hx'.keeps
theorem RO{T:Addr}{vs:Array Value}{Q:List Value→Shared→Prop}(hx:s.heap.IsTuple T vs)(h:Q vs.toList s):wpAny (model prog w) A (Builtin.Dict.pairItems (.ref T)) Q E s:=by obtain⟨o,ho,hc,k,hd⟩:=hx;unfold Builtin.Dict.pairItems;refine ah (Ia (T:="tuple") ⟨o,ho,hc⟩ ?_);rw[bF (by decide)];exact ah (wpAny_seqItems ho hd (aQ h))
noncomputable def Bb(h:Heap)(items:Array Value)(Ts:Nat→Addr)(n:Nat)(rest:List (Int×Value)):Prop:=∀j(hj:j<rest.length),items[n+j]? =some (.ref (Ts (n+j)))∧∃t,h.IsTuple (Ts (n+j)) #[.int rest[j].1 t,rest[j].2]
theorem VK{d I ax:Addr}{items:Array Value}(hdI:d≠I)(hda:d≠ax)(hIa:ax≠I)(hh:A.handled=none){R:Result→Shared→Prop}(Ts:Nat→Addr)(hT:∀j,d≠Ts j∧I≠Ts j):
  ∀(rest done:List (Int×Value))(s:Shared)(t:Tok),items.size=done.length+rest.length→s.heap.IsListIter I ax done.length→s.heap.IsList ax items→Bb s.heap items Ts done.length rest→
   s.heap.DictOf (intKind prog w) d (merged [] done)→done.length+rest.length≤1000→
   (∀h' tk,(∀b o,b≠d→b≠I→s.heap.get? b=some o→h'.get? b=some o)→h'.DictOf (intKind prog w) d (merged [] (done++rest))→R (.ok (.ret .none)) {s with heap:=h',toks:=tk})→
   codeAny (model prog w) A (.builtin "dict.update.loop" ⟨[.ref d,.ref I,.int done.length t,.none],[]⟩) R s:=by
 intro rest;have W:=Walks.list (prog:=prog) (w:=w) (A:=A.in1) hh I ax hIa items;induction rest with
 |nil=>intro done s t hsz hit hl hp hd hlen hR;refine xu CC ?_;rw[v8 vn _];show wpAny _ A.in1 (pyNext (.ref I)>>=_) _ _ s;refine ah (W.done s _ _ ⟨by rw[hsz];exact hit,hl⟩ λh' tk k=>?_);have k:∀b o,b≠I→s.heap.get? b=some o→h'.get? b=some o:=λb o n e=>k b o (λm=>n (List.mem_singleton.mp m)) e;refine aQ (hR h' tk (λb o _ n2 e=>k b o n2 e) ?_);rw[eK];exact hd.extBut (b:=I) k hdI
 |cons q rest ih=>
  intro done s t hsz hit hl hp hd hlen hR;refine xu CC ?_;rw[v8 vn _];show wpAny _ A.in1 (pyNext (.ref I)>>=_) _ _ s;have hlt:done.length<done.length+(q::rest).length:=IE (wC _);refine ah (W.item done.length s _ _ (by rw[hsz];exact hlt) ⟨hit,hl⟩ λv h' tk pv st k=>?_);obtain⟨p1,tt,p2⟩:=hp 0 (wC _);cases (show items[done.length]? =some v from pv).symm.trans p1;have kI:∀b o,b≠I→s.heap.get? b=some o→h'.get? b=some o:=λb o n e=>k b o (λm=>n (List.mem_singleton.mp m)) e;refine ah (fZ (ah (wpAny_tryCatch ?_)));refine RO (p2.elim λo y=>⟨o,kI _ _ (hT _).2.symm y.1,y.2⟩) ?_;show wpAny _ _ (holding _ (dictSet d (.int q.1 tt) q.2)) _ _ _;have hd1:h'.DictOf (intKind prog w) d (merged [] done):=hd.extBut (b:=I) kI hdI;have lz:(merged [] done).length≤sizeLine:=aJ (merged_length_le ([]:List (Int×Value)) done) (by rw[i9,mY];exact aJ (aJ (f8 hlt) hlen) (by unfold sizeLine;decide));refine fZ (wpAny_dictSet_pairs (knd:=intKind prog w) (k:=q.1) (hsz:=lz) (eQ q.1) hd1 λh2 hd2 hs2=>?_);refine aQ ⟨Fh vn _,?_⟩;have k2:∀b o,b≠d→b≠I→s.heap.get? b=some o→h2.get? b=some o:=λb o n1 n2 e=>fW hs2 n1 (kI b o n2 e);have ln:(done++[q]).length=done.length+1:=el;have e2:stored (merged [] done) q.1 q.2=merged [] (done++[q]):=by unfold merged;rw[List.foldl_append];rfl
  have go:=ih (done++[q]) {s with heap:=h2,toks:=tk+1} 0 (by rw[hsz,ln,bV];omega) (by
    rw[ln];exact st.1.elim λo r=>⟨o,fW hs2 hdI.symm r.1,r.2⟩) (st.2.elim λo r=>⟨o,fW hs2 hda.symm r.1,r.2⟩) (λj hj=>by
    have:=hp (j+1) (Ba hj);rw[ln,AY,AZ 1 j];exact⟨this.1,this.2.imp λt r=>r.elim λo y=>⟨o,k2 _ _ (hT _).1.symm (hT _).2.symm y.1,y.2⟩⟩) (e2▸hd2) (by rw[ln];rw[bV] at hlen;omega) (λh3 tk3 k3 D3=>by rw[hJ] at D3;exact hR h3 tk3 (λb o n1 n2 e=>k3 b o n1 n2 (k2 b o n1 n2 e)) D3)
  rw[ln,Int.natCast_add] at go;exact go
theorem J0{ax:Addr}{items:Array Value}{m:Nat}{prs:List (Int×Value)}{Ts:Nat→Addr}{Q:Value→Shared→Prop}(hl:s.heap.get? ax=some {cls:=.type "list",dict:=none,data:=.seq items m,slots:= #[]})(hh:A.handled=none)
  (hp:Bb s.heap items Ts 0 prs)(hTs:∀j,Ts j<s.heap.objs.size)(hsz:items.size=prs.length)(hlen:prs.length≤1000)(hn:(prs.map (·.1)).Nodup)
  (h:∀h' tk,(∀b o,s.heap.get? b=some o→h'.get? b=some o)→h'.DictOf (intKind prog w) s.heap.objs.size prs→Q (.ref s.heap.objs.size) {s with heap:=h',toks:=tk}):
  wpAny (model prog w) A (call (.type "dict") [.ref ax]) Q E s:=by
 refine callType_codes (Q₁:=λobj s₁=>obj=.ref s.heap.objs.size∧s₁={s with heap:=s.heap.push {cls:=.type "dict",data:=.dict #[]}}) F.kt_called_dict (F.kt_typeCall_dict_1 _) F.entry_dict_init (kt_code_dict_new _ ⟨rfl,rfl⟩) ?_;rintro obj s₁ ⟨rfl,rfl⟩;have hnew:(s.heap.push {cls:=.type "dict",data:=.dict #[]}).DictOf (intKind prog w) s.heap.objs.size []:=Heap.DictOf.new s.heap;refine⟨hnew.typeIs,F.args_dict_init_2 _ _,?_⟩;have kp:∀b o,s.heap.get? b=some o→(s.heap.push {cls:=.type "dict",data:=.dict #[]}).get? b=some o:=λb o e=>bc _ e;unfold Builtin.«dict.__init__»;refine ah ?_;unfold Builtin.Dict.selfAndRest;refine ah (wpAny_notOrdered_dict hnew.typeIs ?_);show wpAny _ _ (pure (s.heap.objs.size,[Value.ref ax])) _ _ _;refine aQ ?_;show wpAny _ _ (Builtin.Dict.updateFrom "dict.__init__" s.heap.objs.size (.ref ax) [] .none) _ _ _;unfold Builtin.Dict.updateFrom;refine ah (Ia (T:="list") ⟨_,kp _ _ hl,rfl⟩ ?_);rw[bF (by decide)];refine ah (Nw (kp _ _ hl) hh λh1 tk1 k1=>?_);refine ah (sN ?_);have hl1:h1.get? ax=some {cls:=.type "list",dict:=none,data:=.seq items m,slots:= #[]}:=k1 _ _ (kp _ _ hl);refine ah (H9 (items:=items) ⟨_,hl1,rfl,_,rfl⟩ ?_);refine aQ ⟨Fh vn _,?_⟩;have dlt:s.heap.objs.size<h1.objs.size:=b9 (k1 _ _ (ej _ rfl));have hd1:h1.DictOf (intKind prog w) s.heap.objs.size []:=hnew.extBut (b:=h1.objs.size) (λb o _ e=>k1 b o e) (c9 dlt);have alt:ax<s.heap.objs.size:=b9 hl;have k2:∀b o,h1.get? b=some o→(h1.push {cls:=.type "list_iterator",data:=.fields #[.ref ax,.int 0 0]}).get? b=some o:=λb o e=>bc _ e;refine VK (prog:=prog) (w:=w) (A:=A.in1) (ax:=ax) (items:=items) (c9 dlt) (mX alt) (c9 (ja alt dlt)) hh Ts (λj=>⟨mX (hTs j),mX (ja (hTs j) dlt)⟩) prs [] {s with heap:=h1.push {cls:=.type "list_iterator",data:=.fields #[.ref ax,.int 0 0]},toks:=tk1} 0 (hsz.trans (mY _).symm) ⟨_,ej _ rfl,rfl,rfl⟩ ⟨_,k2 _ _ hl1,rfl,m,rfl⟩
  (λj hj=>(hp j hj).imp id λq=>q.imp λt r=>r.elim λo y=>⟨o,k2 _ _ (k1 _ _ (kp _ _ y.1)),y.2⟩) (show Heap.DictOf _ _ _ [] from hd1.push _) (aJ (f7 (mY _)) hlen) (λh' tk k D=>?_)
 rw[ww,merged_nil_of_nodup _ hn] at D;exact⟨rfl,h h' tk (λb o e=>k b o (c9 (b9 e)) (c9 (ja (b9 e) dlt)) (k2 _ _ (k1 _ _ (kp _ _ e)))) D⟩
end
section
variable{P:Params}{h:Heap}{X:Addr→Prop}{M:Sp}
noncomputable def wJ(h:Heap)(us:List Value)(T:Nat→Addr)(prs:List (Int×Value)):Prop:=∀j(hj:j<prs.length),us[j]? =some (.ref (T j))∧∃t,h.IsTuple (T j) #[.int prs[j].1 t,prs[j].2]
theorem SM{vs:List Value}{l:List RV}(z:a9 P h X M vs l):∀{q:List (Int×AV)},sd l=some q→∃prs:List (Int×Value),vs.length=prs.length∧(∃T,wJ h vs T prs)∧prs.map (λx=>x.1)=q.map (λx=>x.1)∧bj P h X (prs.map (·.2)) (q.map (·.2)):=Z2.rec' (C:=λvs l=>∀{q:List (Int×AV)},sd l=some q→∃prs:List (Int×Value),vs.length=prs.length∧(∃T,wJ h vs T prs)∧prs.map (λx=>x.1)=q.map (λx=>x.1)∧bj P h X (prs.map (·.2)) (q.map (·.2)))
  (λ{q} e=>⟨[],rfl,⟨λ_=>0,λj hj=>absurd hj (A7 _)⟩,by rw[←ak e];rfl,by rw[←ak e];rfl⟩)
  (λ{v x vs l} a _ ih{q} e=>aL (o:=bJ Hs x) e λc e1 e=>aL (o:=sd l) e λr e2 e=>aL e1 λx' e3 e1=>aL e1 λl' e4 e1=>aL e1 λy e5 e1=>cz e1 λk e6 e1=>
   VR.onTup (C:=λv=>∃prs:List (Int×Value),(v::vs).length=prs.length∧(∃T,wJ h (v::vs) T prs)∧prs.map (λx=>x.1)=q.map (λx=>x.1)∧bj P h X (prs.map (·.2)) (q.map (·.2))) (show VR P h X v (.tup l') from VR.cast (iO e4) (RR.cast (j8 e3) a)) λT us n g1 _ rr=>by
    obtain⟨prs,h1,⟨Ts,h2⟩,h3,h4⟩:=ih e2;rw[←ak e,←e1];rw[zy e5] at rr;have rr:bj P h X us [.int k,y.2]:=fe e6▸rr;refine bA.on (C:=λus=>h.get? T=some (eg us n)→_) rr (λv1 us1 a1 b1=>bA.on (C:=λus=>h.get? T=some (eg (v1::us) n)→_) b1 λv2 us2 a2 b2 g1=>?_) g1;rw[show us2=[] from b2] at g1;obtain⟨t,ht⟩:=(show∃t,v1=.int k t from a1);refine⟨(k,v2)::prs,congrArg (·+1) h1,⟨λj=>Nat.casesOn j T Ts,λj hj=>by
     cases j with
     |zero=>exact⟨rfl,t,_,g1,rfl,n,by rw[ht];rfl⟩
     |succ j=>exact h2 j (ko hj)⟩,congrArg (k::·) h3,.cons a2 h4⟩) z
end
section
variable{cx:Cx}{sl:List Str}{p:Pt}{vs:List Value}{xs:List RV}
theorem aZ.int'{t:Sem Value}{i:Int}(h:∀{A s tk}{Q:Value→Shared→Prop}{E:Value→Shared→Prop},Rm cx.n A→(∀h' t tk,(∀b o,p.h.get? b=some o→h'.get? b=some o)→p.h.objs.size≤h'.objs.size→Q (.int i t) (Sh s h' tk))→wpAny (model pw cx.w) A t Q E (Sh s p.h tk)):aZ cx sl p (rV cx) t (aI (.v (.int i))):=λA s tk Q E ar R z=>h ar.rm λh' t tk k sz=>z _ h' _ tk (R.grow k sz) (show VR cx.w.params h' (HA cx.X p.M p.σ.H) _ (.int i) from .int i t)
theorem Ud{v u w:Value}{x a i:RV}(hx:p.val cx w x)(hv:p.val cx v a)(hu:p.val cx u i):wG cx sl p (setItem v u w) (ue x a i):=.opt λj hj=>.opt λk hk=>.opt (o:=oj p.σ.H j) λl hl=>.gd λc A s tk Q E ar R z=>R.onOwnD (mA hj hv) hl λb es m hm ho e1 r=>VR.onInt (show VR cx.w.params p.h (p.av cx) u (.int k) from RR.cast (di fe hk) hu) λt=>by have c:=aF c;obtain⟨kvs,D,rs,hk,ln,nd⟩:=(dI cx.w).dict e1 r c.1 (mj (lY c.1) c.2.2);refine wpAny_setItem_pairs (s:=Sh s p.h tk) (knd:=intKind pw cx.w) (kvs:=kvs) (k:=k) (eQ k) D (λh' D' hsb=>?_) (by rw[ln];exact gt c.2.1);obtain⟨ys,h1,h2⟩:=GQ hx hk rs nd;refine(dI cx.w).ofDict (h:=p.h) (X:=p.av cx) (M:=p.M) D' h1 λes' m' e' r'=>?_;exact z () h' _ _ (R.putD hm ho hsb e' (h2▸r')) (show Flow.next=.next from rfl)
theorem TT{e o i:Expr}{pos pos':Pos}{f g k:Fm RV}(hs0:swapsWith e (some (.Subscript o i pos')) pos.line cx.env=pure false)(he:aH cx sl (eval e cx.env) f)(ho:aH cx sl (eval o cx.env) g)(hi:aH cx sl (eval i cx.env) k):
  df cx sl (exec (.Assign [.Subscript o i pos'] e pos) cx.env) λst=>(f st).bind λv st=>(g st).bind λo st=>(k st).bind λk st=>ue v o k st:=λp A s tk Q E ar R z=>
 WR (hs:=hs0) (he p A s tk _ E ar R (z.bd λv x P tk o1 vx z=>ho P A s tk _ E ar o1.r (z.bd λv2 a P2 tk2 o2 va z=>hi P2 A s tk2 _ E ar o2.r (z.bd λv3 i P3 tk3 o3 vi z=>Ud (cG o3.e (cG o2.e vx)) (cG o3.e va) vi A s tk3 _ E ar o3.r z.unit))))
theorem Qe(hx:p.vals cx vs xs):aZ cx sl p (rV cx) (call (.builtin "len") vs) (CU xs):=.opt λa h1=>.opt (o:=oA a p.σ.H) λl hl=>.gd λg A s tk Q E ar R z=>gG (C:=λvs=>wpAny _ _ (call _ vs) _ _ _) h1 hx λu hu=>R.onSeq (C:=λu=>wpAny _ _ (call _ [u]) _ _ _) hu hl λb us k e1 r=>by
  have len:=Z2.length r
  have go:∀tk',Q (.int (us.toArray.size:Nat) (tk+1)) (Sh s p.h tk'):=λtk'=>by rw[bM,len];exact z _ _ _ _ (Ok.refl R) (show VR cx.w.params p.h (p.av cx) _ (.int _) from .int _ _)
  have fit:((us.toArray.size:Nat):Int)<2^63:=Int.ofNat_lt.mpr (ja (by rw[bM,len];exact gv g) (by decide:1000000<2^63));rcases e1 with e1|e1
  ·exact Calls.call_len_list (s:=Sh s p.h tk) (dw e1) fit (go _)
  ·exact PyProof.Rows.len_tuple (s:=Sh s p.h tk) ⟨_,e1,rfl,k,rfl⟩ fit (go _)
theorem IZ(hx:p.vals cx vs xs):aZ cx sl p (rV cx) (call (.builtin "abs") vs) (CN xs):=.opt λi hi=>aL hi λa h1 hi=>gG (C:=λvs=>aZ cx sl p (rV cx) (call _ vs) _) h1 hx λu hu=>VR.onInt (C:=λu=>aZ cx sl p (rV cx) (call _ [u]) _) (show VR cx.w.params p.h (p.av cx) u (.int i) from RR.cast (di fe hi) hu) λt=>.int λ_ k=>call_abs_int λu tk=>k u tk
theorem QD(hx:p.vals cx vs xs):aZ cx sl p (rV cx) (call (.builtin "max") vs) (CW xs):=.opt λq hq=>.opt λc e=>by
  cases zy hq;refine Z2.on (C:=λvs=>aZ cx sl p (rV cx) (call _ vs) _) hx λv us hv hx=>Z2.on (C:=λus=>aZ cx sl p (rV cx) (call _ (v::us)) _) hx λu us hu hx=>?_;rw[show us=[] from hx];refine qg fe e hv hu λi j q x y=>VR.onInt (C:=λv=>aZ cx sl p (rV cx) (call _ [v,u]) _) x λt=>VR.onInt (C:=λu=>aZ cx sl p (rV cx) (call _ [_,u]) _) y λt'=>?_;refine .int' λrm k=>gE (max_two_ints rm.hand λh' tk kk sz=>?_);subst q;by_cases c:j>i
  ·have k:=k h' t' tk kk sz;rw[bF c] at k⊢;exact k
  ·have k:=k h' t tk kk sz;rw[bQ c] at k⊢;exact k
theorem OM(hx:p.vals cx vs xs):aZ cx sl p (rV cx) (call (.type "int") vs) (CS xs):=.opt λb hb=>aL hb λa h1 hb=>gG (C:=λvs=>aZ cx sl p (rV cx) (call _ vs) _) h1 hx λu hu=>by rw[show u=.bool b from(RR.cast (di tI hb) hu:RR cx.w.params p.h (p.av cx) p.M u (.v (.bool b)))];exact .int λ_ k=>call_int_bool (k _ _)
theorem Eg:∀{ks:List (Int×Value)}{us:List Value}{l:List (AV×RV)},ks.map (λq=>AV.int q.1)=l.map (·.1)→us.length=ks.length→(∀(j:Nat)(v:Value),us[j]? =some v→∃k x,ks[j]? =some (k,x)∧(intKind pw cx.w).is k v=true)→p.vals cx us (l.map λq=>.v q.1)
 |[],[],[],_,_,_=>.nil
 |[],_::_,_,_,e,_=>nomatch e
 |[],[],_::_,e,_,_=>nomatch e
 |_::_,[],_,_,e,_=>nomatch e
 |_::_,_::_,[],e,_,_=>nomatch e
 |q::ks,u::us,y::l,e1,e2,h=>by obtain⟨e3,e4⟩:=oQ (show AV.int q.1::ks.map (λq=>AV.int q.1)=y.1::l.map (·.1) from e1);refine .cons ?_ (Eg e4 (oV e2) λj v hv=>h (j+1) v hv);obtain⟨k,x,h1,h2⟩:=h 0 u rfl;cases h1;obtain⟨t,rfl⟩:=Bp h2;exact VR.cast e3 (.int _ _)
theorem Qh(K0:bq cx){own:Bool}(hx:p.vals cx vs xs):aZ cx sl p (rV cx) (call (.type "list") vs) (CV own xs):=.opt λa h1=>.els (o:=oA a p.σ.H) (λl hl=>.gd λg A s tk Q E ar R z=>gG (C:=λvs=>wpAny _ _ (call _ vs) _ _ _) h1 hx λu hu=>R.onSeq (C:=λu=>wpAny _ _ (call _ [u]) _ _ _) hu hl λb us k e1 r=>by
   have go:∀T(hT:T="list"∨T="tuple")(o:Obj),p.h.get? b=some o→o.cls=.type T→o.data=.seq us.toArray k→wpAny (model pw cx.w) A (call (.type "list") [.ref b]) Q E (Sh s p.h tk):=λT hT o ho hc hd=>gE (call_list_seq (s:=Sh s p.h tk) b hT ho hc hd (λh' c' kk e' sz=>R.laid (s:=s) (c:=c') (tk:=tk) r kk sz e' z) (by rw[bM,Z2.length r];exact gt g))
   rcases e1 with e1|e1
   ·exact go "list" (.inl rfl) _ e1 rfl rfl
   ·exact go "tuple" (.inr rfl) _ e1 rfl rfl)
  (.opt (o:=pc a p.σ.H) λl hl=>.gd λg A s tk Q E ar R z=>gG (C:=λvs=>wpAny _ _ (call _ vs) _ _ _) h1 hx λu hu=>R.onDict (C:=λu=>wpAny _ _ (call _ [u]) _ _ _) hu hl λb es k e1 r nx=>by
   have g:=aF g;obtain⟨kvs,D,rs,hk,ln,_⟩:=(dI cx.w).dict e1 r g.1 (mj (lY g.1) g.2.2);obtain⟨ep,hat⟩:=D.dictAt;exact gE (kdl_call (s:=Sh s p.h tk) (kdl_dict (knd:=intKind pw cx.w) (kvs:=kvs) (ep:=ep) (R.notSys K0 nx)) ar.rm.hand hat (by rw[ln];exact gt g.2.1) λh' tk acc' c' kk e' hacc sz=>R.laid (s:=s) (c:=c') (tk:=tk) (Eg hk (by rw[Aw];exact hacc.1) λj v e=>hacc.2 j v (by rw[←Av];exact e)) kk sz e' z))
theorem EC{K:Type}[DecidableEq K]{str:Bool}(D:DK cx.w K str)(R:SR cx sl p){s:Shared}{tk:Tok}{Q:Value→Shared→Prop}{E:Value→Shared→Prop}{kvs:List (K×Value)}{l:List (AV×AV)}{h':Heap}(kk:∀b o,p.h.get? b=some o→h'.get? b=some o)(sz:p.h.objs.size≤h'.objs.size)
  (D':h'.DictOf D.knd p.h.objs.size kvs)(hk:kvs.map (λq=>D.av q.1)=l.map (·.1))(rs:p.vals cx (kvs.map (·.2)) ((vd l).map (·.2)))(z:aC cx sl p s (rV cx) (aI (.v (.dct l)) p.σ) Q E):Q (.ref p.h.objs.size) (Sh s h' tk):=have o:=R.grow kk sz
 D.ofDict (h:=h') (X:=p.av cx) (M:=p.M) D' (oH o.e rs) λes' m' e' r'=>z _ _ _ tk o (VR.dct e' R.fresh (cC.frzAll (M:=p.M) (by rw[hk,←lJ,v6] at r';exact r')))
theorem KQ(hx:p.vals cx vs xs):aZ cx sl p (rV cx) (call (.type "dict") vs) (CQ xs):=.opt λa h1=>.els (λl hl=>.gd λg A s tk Q E ar R z=>gG (C:=λvs=>wpAny _ _ (call _ vs) _ _ _) h1 hx λu hu=>VR.onDct (C:=λu=>wpAny _ _ (call _ [u]) _ _ _) (show VR cx.w.params p.h (p.av cx) u (.dct l) from RR.cast (di qy hl) hu) λax es k e1 n1 r=>by have g:=aF g;obtain⟨kvs,D,rs,hk,ln,_⟩:=(dS cx.w).dict (M:=p.M) e1 r.rrd ((oY l).trans g.1) (by rw[lJ];exact mj (lY g.1) g.2.2);refine gE (kt_call_dict (s:=Sh s p.h tk) (knd:=PySem.strKind pw cx.w) (more:=kvs) (oC n1) D (by rw[ln.trans (aU ..)];exact gt g.2.1) λh' D' hsb sz=>?_);exact EC (s:=s) (tk:=tk) (dS cx.w) R (λb o e=>fW hsb (c9 (b9 e)) (bc _ e)) sz D' (hk.trans (lJ l)) rs z)
  (.opt (o:=gW a p.σ.H) λl hl=>.opt λq hq=>.gd λg A s tk Q E ar R z=>gG (C:=λvs=>wpAny _ _ (call _ vs) _ _ _) h1 hx λu hu=>R.onList (C:=λu=>wpAny _ _ (call _ [u]) _ _ _) hu hl λax us k e1 r=>by
   obtain⟨prs,h1,⟨T,h2⟩,h3,h4⟩:=SM r hq;have ln:prs.length=q.length:=(aU ..).symm.trans ((congrArg List.length h3).trans (aU ..))
   have hk:prs.map (λx=>AV.int x.1)=(q.map λz=>(AV.int z.1,z.2)).map (·.1):=by have:=congrArg (List.map AV.int) h3;rw[dm,dm] at this;rw[dm];exact this
   have lt:∀{j},j<prs.length→T j<p.h.objs.size:=λhj=>(h2 _ hj).2.elim λ_ y=>y.elim λ_ y=>b9 y.1;refine gE (J0 (s:=Sh s p.h tk) (items:=us.toArray) (m:=k) (prs:=prs) (Ts:=λj=>if j<prs.length then T j else ax) e1 ar.rm.hand (λj hj=>?_) (λj=>?_) h1 (by rw[ln];exact ru (aA g).1) (uW (f:=AV.int) ?_) λh' tk kk D' sz=>?_)
   ·rw[mY];show us.toArray[j]? =some (.ref (if j<prs.length then T j else ax))∧∃t,p.h.IsTuple (if j<prs.length then T j else ax) _;rw[bF hj,km];exact h2 j hj
   ·by_cases c:j<prs.length
    ·exact eX (f7 (bF c)) (lt c)
    ·exact eX (f7 (bQ c)) (b9 e1)
   ·rw[dm];show(List.map (λx:Int×Value=>AV.int x.1) _).Nodup;rw[hk,dm];exact mj (str:=false) (λk m=>by obtain⟨z,_,rfl⟩:=List.mem_map.mp m;rfl) (aA g).2
   ·exact EC (s:=s) (tk:=tk) (dI cx.w) R kk sz D' hk (by
     have:=bj.rrs (M:=p.M) h4;unfold vd;rw[dm,dm];rwa[dm] at this) z)
theorem Th(K0:bq cx){id:String}{x:Str}{npos pos:Pos}{es:List Expr}{F:List RV→Fm RV}{l:Fm (List RV)}(hx:cx.env.kindOf x=some .globalImplicit)(hg:fQ (KF cx.w.params) x=some (.builtin id))(hd:(x==("__debug__":Str))=false)(hpl:gC es cx.env)
  (hF:∀{P:Pt}{vs:List Value}{xs:List RV},P.vals cx vs xs→aZ cx sl P (rV cx) (call (.builtin id) vs) (F xs))(hl:hZ cx sl (spliced (backTo pos (starEach es cx.env))) l)
  (he:eval (.Call (.Name x npos) es [] pos) cx.env=(do callWith pos (←eval (.Name x npos) cx.env) [] (backTo pos (starEach es cx.env)) (backToKw pos (keywordEach [] cx.env)))):aH cx sl (eval (.Call (.Name x npos) es [] pos) cx.env) λst=>(l st).bind λxs st=>F xs st:=λp A s tk Q E ar R z=>by
 have hplain:(backTo pos (starEach es cx.env)).any (·.1)=false:=List.any_eq_false.mpr λx m=>by rw[kH hpl] at m;obtain⟨e,_,rfl⟩:=List.mem_map.mp m;exact jy
 exact Call_ (tz K0.kind hx (q8 K0 (s:=Sh s p.h tk) (R.K K0) hg (tN hplain (kM hpl (hl p A s tk _ E ar R (z.bd λvs xs P tk o vv z=>hF vv A s tk Q E ar o.r z))))) hd) he
theorem Tj(K0:bq cx){T:String}{x:Str}{npos pos:Pos}{e:Expr}{rest:List Expr}{F:List RV→Fm RV}{l:Fm (List RV)}(hx:cx.env.kindOf x=some .globalImplicit)(hg:fQ (KF cx.w.params) x=some (.type T))(hd:(x==("__debug__":Str))=false)(hpr:gC rest cx.env)
  (hF:∀{P:Pt}{vs:List Value}{xs:List RV},P.vals cx vs xs→aZ cx sl P (rV cx) (call (.type T) vs) (F xs))(hl:hZ cx sl (spliced (backTo pos (starEach (e::rest) cx.env))) l)
  (he:eval (.Call (.Name x npos) (e::rest) [] pos) cx.env=(do callWith pos (←eval (.Name x npos) cx.env) [] (backTo pos (starEach (e::rest) cx.env)) (backToKw pos (keywordEach [] cx.env))))(hse:starEach (e::rest) cx.env=(false,eval e cx.env)::starEach rest cx.env):
  aH cx sl (eval (.Call (.Name x npos) (e::rest) [] pos) cx.env) λst=>(l st).bind λxs st=>F xs st:=λp A s tk Q E ar R z=>by
 have hplain:(backTo pos (starEach rest cx.env)).any (·.1)=false:=List.any_eq_false.mpr λx m=>by rw[kH hpr] at m;obtain⟨e,_,rfl⟩:=List.mem_map.mp m;exact jy
 exact Call_ (tz K0.kind hx (q8 K0 (s:=Sh s p.h tk) (R.K K0) hg (callWith_type1 (hl p A s tk _ E ar R (z.bd λvs xs P tk o vv z=>hF vv A s tk Q E ar o.r z)) hse hplain)) hd) he
end
end
section
open PySem.SeqAt
noncomputable def t8(own:Bool)(keys:List (List Nat))(xs:List RV):Fm RV:=cond own (λst=>.ok (.loc st.H.length) ⟨st.loc,st.H++[.dct ((keys.map AV.str).zip xs)]⟩) (aj (bY xs) λr=>aI (.v (.dct ((keys.map AV.str).zip r))))
theorem WC{α:Type}(ks:List α)(r:List AV):ks.zip (r.map .v)=vd (ks.zip r):=List.zip_map_right ..
section
variable{α β γ δ:Type}{cx cx':Cx}{sl sl':List Str}{p p':Pt}{s:Shared}{rel:Pt→α→β→Prop}{rel':Pt→γ→δ→Prop}{Q:γ→Shared→Prop}{Q':α→Shared→Prop}{E:Value→Shared→Prop}
theorem aC.via{r:Rs β}{k:β→St→Rs δ}(z:aC cx sl p s rel' (r.bind k) Q E)(hE:∀e h,lO cx'.B cx'.fr e h→lO cx.B cx.fr e h)
  (h:∀a x σ h' M' tk,Ok cx' sl' p' ⟨h',M',σ⟩→rel ⟨h',M',σ⟩ a x→aC cx sl p s rel' (k x σ) Q E→Q' a (Sh s h' tk)):aC cx' sl' p' s rel r Q' E:=by
 cases r with
 |bad=>exact z
 |err=>exactλe h' tk f=>z e h' tk (hE e h' f)
 |ok x σ=>exactλa h' M' tk o r=>h a x σ h' M' tk o r z
end
section
variable{cx:Cx}{sl:List Str}{p:Pt}{pos:Pos}
abbrev rD(cx:Cx)(ks:List Str)(P:Pt)(vs:List (Value×Value))(xs:List RV):Prop:=∃us,Carries (PySem.strKind pw cx.w) vs (ks.zip us)∧us.length=ks.length∧P.vals cx us xs
abbrev jc(cx:Cx)(sl:List Str)(pairs:List (Sem Value×Sem Value))(ks:List Str)(m:Fm (List RV)):Prop:=jH cx sl (rD cx ks) (evalPairs pairs) m
theorem KH:jc cx sl [] [] (aI []):=λp A s tk Q E ar R z=>evalPairs_nil (z _ _ _ _ (Ok.refl R) ⟨[],trivial,rfl,Z2.nil⟩)
theorem KG{k:Str}{kk:Nat}{kp:Pos}{e:Expr}{prs:List (Sem Value×Sem Value)}{ks:List Str}{f:Fm RV}{l:Fm (List RV)}(h:aH cx sl (eval e cx.env) f)(hl:jc cx sl prs ks l):
  jc cx sl ((eval (.Constant (.str k) kk kp) cx.env,(do let x←eval e cx.env;standAt pos;pure x))::prs) (k::ks) λst=>(f st).bind λy st=>(l st).bind λr st=>.ok (y::r) st:=λp A s tk Q E ar R z=>
 evalPairs_cons (Calls.Constant_str (ah (h p A s _ _ E ar R (z.bd λv x P tk o va z=>ah (iJ (aQ (hl P A s tk _ E ar o.r (z.bd λvs xs P2 tk2 o2 r z=>r.elim λus r=>z _ _ _ _ (Ok.refl o2.r) ⟨v::us,⟨eQ k,rfl,r.1⟩,congrArg (·+1) r.2.1,.cons (cG o2.e va) r.2.2⟩))))))))
theorem Tp{own:Bool}{keys:List (Option Expr)}{values:List Expr}{pairs:List (Sem Value×Sem Value)}{ks:List Str}{l:Fm (List RV)}
  (hshape:(evalEachOpt keys cx.env).zip ((evalEach values cx.env).map λv=>do let x←v;standAt pos;pure x)=pairs.map λp=>(some p.1,p.2))(h0:pairs≠[])(hlen:pairs.length≤15)(hnd:ks.Nodup)
  (hp:∀X1,jc (cx.st X1) sl pairs ks l):aH cx sl (eval (.Dict keys values pos) cx.env) λst=>(l st).bind λxs st=>t8 own (ks.map λs=>s.cps.toList) xs st:=λp A s tk Q E ar R z=>by
 have kp:∀b o',p.h.get? b=some o'→(p.h.push (dictOf [] 0)).get? b=some o':=λb o' e=>bc _ e;have H:=R.hideS (W:=Is p.h.objs.size) kp (gF _ _) λb(hb:b=p.h.objs.size)=>by rw[hb,dk];exact⟨bw _,eN _⟩
 refine wpAny_Dict_pairs (knd:=PySem.strKind pw cx.w) hshape h0 hlen ?_;refine hp (cx.hidS (Is p.h.objs.size)).X0 ⟨p.h.push (dictOf [] 0),p.M,p.σ⟩ A s tk _ E ⟨ar.rm,ar.fr⟩ H.1 (z.via (λ_ _ f=>f) λvs xs σ h1 M1 tk1 o r z=>?_);obtain⟨us,hc,lu,r⟩:=r;have w2:gn cx (Is p.h.objs.size) h1 M1 σ.H:=H.2.1.up o.e;have D0:h1.get? p.h.objs.size=some (dictOf [] 0):=o.e.keep _ _ (ej _ rfl) (H.2.1 _ rfl).nT;refine⟨ks.zip us,hc,⟨_,#[],0,D0,⟨rfl,rfl,rfl⟩,rfl,λe he=>absurd he (Array.not_mem_empty e),.nil,lS⟩,λh' D hsb=>?_⟩;rw[merged_nil_of_nodup _ (by rw[v7 lu.symm];exact hnd)] at D;have S:=SR.stepS (p:=⟨h1,M1,σ⟩) o.r w2 (h':=h') (V:=Is p.h.objs.size) (λ_ z=>z) (λb o nw z=>fW hsb nw z) (f7 hsb.1.symm);have r3:=a9.up (S.1.up λb z=>z.elim (λz=>.inr z) λz=>.inl (.inr z)) S.1.sp r;refine(dS cx.w).ofDict D (by rw[List.map_snd_zip (f7 lu)];exact r3) λes m he rd=>?_
 have ek:(ks.zip us).map (λq=>(dS cx.w).av q.1)=(ks.map λs=>s.cps.toList).map AV.str:=by have:=congrArg (List.map (dS cx.w).av) (v7 lu.symm);rw[dm] at this;rw[dm];exact this
 rw[ek] at rd;have e4:=(o.e.moreT (T':=λb=>cx.T0 b∨Is p.h.objs.size b) λb t=>.inl t).trans S.1;cases own with
 |true=>have O:=R.own (q:=⟨h',M1,σ⟩) (x:=.dct (((ks.map λs=>s.cps.toList).map AV.str).zip xs)) kp (gF _ _) (bw _) e4 S.2 (w2.up S.1 _ rfl) λu sp=>d8.mk he (cC.up u sp rd);exact z _ h' _ _ O.1 O.2
 |false=>refine aC.opt (o:=bY xs) z λfr q z=>?_;have U:=S.2.unhideS;refine z _ h' M1 _ ⟨e4.lessT kp (gF _ _) λb z=>z.imp id λ(z:b=p.h.objs.size)=>by rw[z];exact bw _,U.1⟩ (VR.dct he (λz=>z.elim (λz=>R.fresh (.inl z)) λz=>z.elim (λz=>R.fresh (.inr (.inl z))) (w2 _ rfl).nL) (cC.frzAll (M:=M1) ?_));rw[←WC,←qt q];exact cC.up U.2 (λ_ _ e=>e) rd
theorem Tq{own:Bool}:aH cx sl (eval (.Dict [] [] pos) cx.env) (t8 own [] []):=λp A s tk Q E ar R z=>by
 refine wpAny_Dict_empty ?_;have e:(p.h.push (dictOf [] 0)).get? p.h.objs.size=some (dictOf [] 0):=ej _ rfl;cases own with
 |true=>
  have H:=R.hideS (W:=Is p.h.objs.size) (h':=p.h.push (dictOf [] 0)) (λb o' e=>bc _ e) (gF _ _) λb(hb:b=p.h.objs.size)=>by rw[hb];exact⟨bw _,b9 e⟩
  have O:=R.own (q:=⟨p.h.push (dictOf [] 0),p.M,p.σ⟩) (x:=.dct []) (λb o' e=>bc _ e) (gF _ _) (bw _) HX.refl H.1 (H.2.1 _ rfl) λu sp=>d8.mk e Z2.nil;exact z _ _ _ _ O.1 O.2
 |false=>exact z _ _ _ _ (R.push (dictOf [] 0)) (VR.dct (P:=cx.w.params) e R.fresh (cC.frzAll (M:=p.M) (l:=[]) Z2.nil))
end
noncomputable def ed:Nat→Value
 |0=>.type "bool"
 |1=>.type "str"
 |2=>.type "tuple"
 |3=>.type "list"
 |4=>.type "int"
 |5=>.type "NoneType"
 |n=>.ref n
noncomputable def nK:List Nat:=[911,715,743,827,799,855,771,883]
noncomputable def sB:List Nat:=[0,1,2,3,4,5,911,715,743,827,799,855,771,883]
noncomputable def ji:List Nat:=[0,1,2,3,911,715,743,827,799,855,771,883]
theorem OU(P:Params):(sB.all λt=>ji.all λc=>kitOne (KF P) (ed t) (ed c)==some (Nat.beq c t))=true:=by kernel_rfl
theorem OK(P:Params):(nK.all λD=>(plainGet (KF P) D "__class__"&&hasDictIn (KF P) D)&&(findIn (KF P) (.ref D) "__class__"==some (some (.builtin "object.__class__")))&&(mroIn (KF P) D (.type "object")==some true))=true:=by kernel_rfl
theorem DJ(P:Params):(specialIn (KF P) (.builtin "object.__class__") "__get__"==some (some (.builtin "getset_descriptor.__get__")))=true∧(takesIn (KF P) (.builtin "object.__class__")==some true)=true:=⟨by kernel_rfl,by kernel_rfl⟩
noncomputable def Hz(x:AV):Option Nat:=match x with
 |.none=>some 5
 |.bool _=>some 0
 |.int _=>some 4
 |.str _=>some 1
 |.tup _=>some 2
 |.lst _=>some 3
 |.inst c _=>cond (cV c nK) (some c) none
 |_=>none
noncomputable def sH(a:RV)(H:List ac):Option Nat:=match a with
 |.v x=>Hz x
 |.loc i=>(fE H i).map λ_=>3
noncomputable def t9(cs:List Nat)(a:RV):Fm RV:=fS λst=>aj (sH a st.H) λt=>aI (.v (.bool (cV t cs)))
theorem tW{α:Type}{c:Bool}{x y:α}(e:cond c (some x) none=some y):c=true∧x=y:=by cases c<;>first|exact nS e|exact⟨rfl,ak e⟩
theorem Hx{a:RV}{H:List ac}{t:Nat}(e:sH a H=some t):cV t sB=true:=by
 cases a with
 |v x=>
  cases x<;>first|exact nS e|(rw[←ak e];rfl)|skip
  have c:=tW e;rw[←c.2];have c:=c.1;unfold cV sB;show(_||(_||(_||(_||(_||(_||cV _ nK))))))=true;rw[c];simp only[sX]
 |loc i=>exact cz e λ_ _ e=>e▸rfl
theorem D8{P:Params}{t c:Nat}(ht:cV t sB=true)(hc:cV c ji=true):kitOne (KF P) (ed t) (ed c)=some (Nat.beq c t):=beq_iff_eq.mp (List.all_eq_true.mp (List.all_eq_true.mp (OU P) t (kZ ht)) c (kZ hc))
theorem EA(a b:Nat):Nat.beq a b=Nat.beq b a:=by rw[qj,Nat.beq_eq,Nat.beq_eq];exact eq_comm
theorem D7{P:Params}{t:Nat}(ht:cV t sB=true):∀{cs:List Nat},(cs.all λc=>cV c ji)=true→kitAny (KF P) (ed t) (cs.map ed)=some (cV t cs)
 |[],_=>rfl
 |c::cs,h=>by
  rw[gM,kitAny,D8 ht (aA h).1,Eu,EA];cases Nat.beq t c with
  |true=>rfl
  |false=>exact D7 ht (aA h).2
theorem RR.bool{P:Params}{h:Heap}{X:Addr→Prop}{M:Sp}{b:Bool}:RR P h X M (.bool b) (.v (.bool b)):=rfl
noncomputable def i8(P:Params)(h:Heap)(t:Nat)(v:Value):Prop:=∃H:Heap→Prop,KitX (KF P) v (ed t) H∧H h∧v≠.builtin "__main__.__loader__#opaque"
theorem i8.ref{P:Params}{h:Heap}{t:Nat}{b:Addr}{H:Heap→Prop}(k:KitX (KF P) (.ref b) (ed t) H)(q:H h):i8 P h t (.ref b):=⟨H,k,q,λc=>nomatch c⟩
theorem PA{P:Params}{h:Heap}{X:Addr→Prop}{v:Value}{x:AV}{t:Nat}(r:VR P h X v x)(e:Hz x=some t):i8 P h t v:=by
 cases x<;>first|exact nS e|skip
 ·rw[←ak e,show v=.none from r];exact⟨_,kitx_none,trivial,λq=>nomatch q⟩
 ·rw[←ak e,show v=.bool _ from r];exact⟨_,kitx_bool,trivial,λq=>nomatch q⟩
 ·rw[←ak e];exact VR.onInt (C:=i8 P h 4) r λ_=>⟨_,kitx_int,trivial,λq=>nomatch q⟩
 ·rw[←ak e];exact VR.onStr (C:=i8 P h 1) r λ_ _ _=>⟨_,kitx_str,trivial,λq=>nomatch q⟩
 ·rw[←ak e];exact VR.onTup (C:=i8 P h 2) r λ_ _ _ e1 _ _=>.ref kitx_tuple ⟨_,e1,rfl⟩
 ·rw[←ak e];exact VR.onLst (C:=i8 P h 3) r λ_ _ _ e1 _ _=>.ref kitx_list ⟨_,e1,rfl⟩
 ·have c:=tW e;rw[←c.2];have k:=aF (List.all_eq_true.mp (OK P) _ (kZ c.1))
  have tv:∀{t},cV t nK=true→ed t=.ref t:=λm=>(by decide:∀t∈nK,6≤t) _ (kZ m)|>λh=>by obtain⟨n,rfl⟩:=Nat.exists_eq_add_of_le' h;rfl
  refine VR.onInst (C:=i8 P h _) r λ_ _ _ _ e1 e2 _ _ _=>?_;unfold i8;rw[tv c.1];exact⟨_,kitx_own (aA k.1).1 (aA k.1).2 (beq_iff_eq.mp k.2.1) (beq_iff_eq.mp (DJ _).1) (beq_iff_eq.mp (DJ _).2) (beq_iff_eq.mp k.2.2),rg e1 e2,λc=>nomatch c⟩
section
variable{cx:Cx}{sl:List Str}{p:Pt}{e:Expr}{f:Fm RV}
theorem Ei(R:SR cx sl p){v:Value}{a:RV}{t:Nat}(hv:p.val cx v a)(e:sH a p.σ.H=some t):i8 cx.w.params p.h t v:=by
 cases a with
 |v x=>exact PA hv e
 |loc i=>exact cz e λl hl e=>e▸R.onOwnL (C:=i8 cx.w.params p.h 3) hv hl λ_ _ _ _ _ e1 _=>.ref kitx_list ⟨_,e1,rfl⟩
theorem vm{es:List Expr}{pos:Pos}(hpl:gC es cx.env):(backTo pos (starEach es cx.env)).any (·.1)=false:=List.any_eq_false.mpr λx m=>by rw[kH hpl] at m;obtain⟨e,_,rfl⟩:=List.mem_map.mp m;exact jy
structure eW(cx:Cx)(x:Str)(v:Value):Prop where
 k:cx.env.kindOf x=some .globalImplicit
 g:fQ (KF cx.w.params) x=some v
 d:(x==("__debug__":Str))=false
theorem j0(K0:bq cx){x:Str}{v:Value}(N:eW cx x v){pos:Pos}{A:Around}{s:Shared}{Q:Value→Shared→Prop}{E:Value→Shared→Prop}(X:(KF cx.w.params).In s.heap)(h:Q v s):wpAny (model pw cx.w) A (eval (.Name x pos) cx.env) Q E s:=tz K0.kind N.k (q8 K0 X N.g h) N.d
theorem Tx(K0:bq cx){x c:Str}{npos cp pos:Pos}{k:Nat}(hx:eW cx x (.builtin "isinstance"))(hc:eW cx c (ed k))(hk:cV k ji=true)(hpl:gC [e,.Name c cp] cx.env)(hse:starEach [e,.Name c cp] cx.env=(false,eval e cx.env)::starEach [.Name c cp] cx.env)
  (he:eval (.Call (.Name x npos) [e,.Name c cp] [] pos) cx.env=(do callWith pos (←eval (.Name x npos) cx.env) [] (backTo pos (starEach [e,.Name c cp] cx.env)) (backToKw pos (keywordEach [] cx.env))))(h:aH cx sl (eval e cx.env) f):
  aH cx sl (eval (.Call (.Name x npos) [e,.Name c cp] [] pos) cx.env) λst=>(f st).bind λa st=>t9 [k] a st:=λp A s tk Q E ar R z=>
 Call_ (j0 K0 hx (s:=Sh s p.h tk) (R.K K0) (tN (vm hpl) (kM hpl (kD (h p A s tk _ E ar R (z.bd λv a P tk o va z=>kD (j0 K0 hc (s:=Sh s P.h tk) (o.r.K K0) (qu
  (aC.opt (o:=sH a P.σ.H) z λt ht z=>by obtain⟨H,Z,hH,nx⟩:=Ei o.r va ht;refine kia_one (s:=Sh s P.h tk) Z (o.r.K K0) hH (D8 (Hx ht) hk) nx λtk'=>?_;rw[EA,←sW (Nat.beq t k)];exact z (.bool (cV t [k])) _ _ tk' (Ok.refl o.r) RR.bool))) rfl)) hse)))) he
theorem Tz(K0:bq cx){x c d:Str}{npos cp dp tp pos:Pos}{kk:Nat}{k j:Nat}(hx:eW cx x (.builtin "isinstance"))(hc:eW cx c (ed k))(hk:cV k ji=true)(hd:eW cx d (ed j))(hj:cV j ji=true)
  (hpl:gC [e,.Tuple [.Name c cp,.Name d dp] kk tp] cx.env)(hse:starEach [e,.Tuple [.Name c cp,.Name d dp] kk tp] cx.env=(false,eval e cx.env)::starEach [.Tuple [.Name c cp,.Name d dp] kk tp] cx.env)
  (he:eval (.Call (.Name x npos) [e,.Tuple [.Name c cp,.Name d dp] kk tp] [] pos) cx.env=(do callWith pos (←eval (.Name x npos) cx.env) [] (backTo pos (starEach [e,.Tuple [.Name c cp,.Name d dp] kk tp] cx.env)) (backToKw pos (keywordEach [] cx.env))))(h:aH cx sl (eval e cx.env) f):
  aH cx sl (eval (.Call (.Name x npos) [e,.Tuple [.Name c cp,.Name d dp] kk tp] [] pos) cx.env) λst=>(f st).bind λa st=>t9 [k,j] a st:=λp A s tk Q E ar R z=>
 Call_ (j0 K0 hx (s:=Sh s p.h tk) (R.K K0) (tN (vm hpl) (kM hpl (kD (h p A s tk _ E ar R (z.bd λv a P tk o va z=>kD (Tuple_ (kD (j0 K0 hc (s:=Sh s P.h tk) (o.r.K K0) (kD (j0 K0 hd (s:=Sh s P.h tk) (o.r.K K0) (qu
  (sM (qu (aC.opt (o:=sH a P.σ.H) z λt ht z=>by have S:=o.r.push (eg [ed k,ed j] 0);obtain⟨H,Z,hH,nx⟩:=Ei (p:=⟨P.h.push (eg [ed k,ed j] 0),P.M,P.σ⟩) S.r (cG S.e va) ht;refine kia_tup (s:=Sh s (P.h.push (eg [ed k,ed j] 0)) tk) (its:=[ed k,ed j]) (dd:=none) (n:=0) (sl:= #[]) Z (S.r.K K0) hH (ej _ rfl) (D7 (cs:=[k,j]) (Hx ht) (by show(cV k ji&&(cV j ji&&true))=true;rw[hk,hj];rfl)) nx λtk'=>?_;exact z (.bool (cV t [k,j])) _ _ tk' S RR.bool)) (by show 2≤sizeLine;unfold sizeLine;decide)))) rfl)) rfl)) rfl)) hse)))) he
end
end
section
open PySem.SeqAt
theorem OI(P:Params):(nK.all λD=>(findIn (KF P) (.ref D) "__eq__"==some (some (.builtin "object.__eq__")))&&(subIn (KF P) (.type "str") (.ref D)==some false)&&(subIn (KF P) (.ref D) (.type "object")==some true))=true:=by kernel_rfl
theorem UG(b:Str)(u:Tok)(l C d:Addr):
  Meets (Builtin.«str.__eq__» ⟨[.str b u,.ref l],[]⟩) (λ_ R s=>s.heap.get? l=some (fR C d)∧R (.ok (.ret .notImplemented)) s):=.of_wp λprog w A R s h=>by obtain⟨hp,g,d,tk,os⟩:=s;obtain⟨hl,h⟩:=h;wp_walk using wpAny_loadPart' hl,wpAny_load hl;exact⟨_,rfl,h⟩
theorem E9{M:Model}{A:Around}{E:Value→Shared→Prop}{s:Shared}{x:Addr}{b:Str}{u:Tok}{Q:Fin→Shared→Prop}(hq:Q (.done (.ret .notImplemented)) s):wpAny M A (Builtin.«object.__eq__» ⟨[.ref x,.str b u],[]⟩) Q E s:=by
 unfold Builtin.«object.__eq__»;repeat (first|with_reducible refine wpAny_isSame_plain rfl ?_|wp_step)
 exact hq
section
variable{prog:Program}{w:World}{A:Around}{E:Value→Shared→Prop}{s:Shared}{K:Frag}{x C d:Addr}
theorem Q8(X:K.In s.heap)(hx:s.heap.get? x=some (fR C d))(I:InstAt s.heap x (fR C d) C od)(hs:subIn K (.ref C) (.type "object")=some true){b:Str}{u:Tok}{Q:Value→Shared→Prop}(hq:Q .notImplemented s):
  wpAny (model prog w) A (call (.builtin "object.__eq__") [.ref x,.str b u]) Q E s:=by
 refine lK (B8 F.cmp_object.eq.plain F.cmpEntry_eq ?_);have LI:Looks (model prog w) s.heap (isInstance (.ref x) (.type "object")) true:=I.type.andThen (looks_subIn X hs);simp only[checkBuiltinCall,F.cmpKind_eq,F.cmpSplit_eq];refine ah (LI.here ?_);simp only[AA,oM,pz];have ha:=F.cmpArgs_eq (.ref x) (.str b u);cases hsig:Manifest.signature? "object.__eq__" with
 |none=>exact aQ (E9 hq)
 |some sig=>simp only[argsOk,hsig] at ha;have h2:Bind.checkArgs "object.__eq__" sig ⟨[.ref x,.str b u],[]⟩=pure ():=ha;show wpAny (model prog w) _ (Bind.checkArgs "object.__eq__" sig ⟨[.ref x,.str b u],[]⟩) _ _ _;rw[h2];exact aQ (E9 hq)
theorem OL(hu:A.units<cLine)(X:K.In s.heap)(hx:s.heap.get? x=some (fR C d))(I:InstAt s.heap x (fR C d) C od)(h1:findIn K (.ref C) "__eq__"=some (some (.builtin "object.__eq__")))(h2:subIn K (.type "str") (.ref C)=some false)(h3:subIn K (.ref C) (.type "object")=some true)
  {b:Str}{u:Tok}{Q:Value→Shared→Prop}(hq:Q (.bool false) s):wpAny (model prog w) A (compareOp .Eq (.ref x) (.str b u)) Q E s:=by
 show wpAny (model prog w) A (richCompare .Eq (.ref x) (.str b u)) Q E s
 have one:∀{R:Option Value→Shared→Prop},R none s→wpAny (model prog w) A (tryCompare (.ref x) "__eq__" (.str b u)) R E s:=λ{R} hr=>by
  unfold tryCompare;refine ah ?_;simp only[callSpecialIfBound?,bindSpecialIfBound?];refine fZ (ah (ah (ah (I.type.here ((rA X h1).here ?_)))));simp only[F.cmp_object.eq.bind];refine ah (Am (wpAny_ite ?_))
  have fin:wpAny (model prog w) A (call (.builtin "object.__eq__") ([.ref x]++[.str b u])>>=λv=>pure (some v)) (λa s=>wpAny (model prog w) A (match a with|some .notImplemented|none=>pure none|some v=>pure (some v)) R E s) E s:=ah (Q8 X hx I h3 (aQ (aQ hr)))
  split
  ·exact ah (aQ (aQ fin))
  ·exact wpAny_tryCatch (ah (aQ (aQ fin)))
 have qf:∀{R:Option Value→Shared→Prop},R none s→wpAny (model prog w) A (tryCompare (.str b u) "__eq__" (.ref x)) R E s:=λ{R} hr=>by unfold tryCompare;refine ah ?_;refine wpAny_callSpecialIfBound?_slot (typeIs_str s b u) F.slot_str_eq ?_;exact qC F.slot_str_eq (typeIs_str s b u) F.entry_str_eq (F.args_str_eq_2 _ _) (UG b u x C d) ⟨hx,aQ hr⟩
 unfold richCompare;refine fZ (ah (wpAny_cRoomFor hu ?_));show wpAny _ _ (typeOf (.ref x)>>=_) _ _ _;refine ah (I.type.here (ah (Ia (typeIs_str s b u) ?_)));rw[bF (by rfl)];refine ah ((looks_subIn X h2).here ?_);simp only[oM,pz];refine ah (one ?_);refine ah (qf ?_);refine ah (sN ?_);refine ah (wpAny_isSame_plain rfl (aQ hq))
end
noncomputable def t7(a b:RV):Fm RV:=jR (bJ xb a) (λq=>aj (bJ kE b) λ_=>aK (cV q.1 nK) (aI (.v (.bool false)))) (cj .Eq a b)
theorem Rm.line0{n:Nat}{A:Around}(rm:Rm n A):A.units<cLine:=eX (eM _ _) rm.line
section
variable{cx:Cx}{sl:List Str}{p:Pt}
theorem Ko(K0:bq cx){v u:Value}{a b:RV}(hv:p.val cx v a)(hu:p.val cx u b):aZ cx sl p (rV cx) (compareOp .Eq v u) (t7 a b):=.els (λq hq=>.opt λt ht=>.gd λg A s tk Q E ar R z=>VR.onInst (C:=λv=>wpAny _ _ (compareOp _ v u) _ _ _) (show VR cx.w.params p.h (p.av cx) v (.inst q.1 q.2) from RR.cast ((aL hq λx e1 e2=>(j8 e1).trans (congrArg RV.v (BM e2)))) hv) λx d es n e1 e2 _ _ _=>VR.onStr (C:=λu=>wpAny _ _ (compareOp _ _ u) _ _ _) (show VR cx.w.params p.h (p.av cx) u (.str t) from RR.cast (di kG ht) hu) λb u _=>by have h:=aF (List.all_eq_true.mp (OI cx.w.params) _ (kZ g));exact OL (s:=Sh s p.h tk) ar.rm.line0 (R.K K0) e1 (rg e1 e2) (beq_iff_eq.mp h.1) (beq_iff_eq.mp h.2.1) (beq_iff_eq.mp h.2.2) (z _ _ _ _ (Ok.refl R) RR.bool)) (qG hv hu)
theorem Tm{l r1 r2:Expr}{op1 op2:CmpOp}{pos:Pos}{whole:Sem Value}{f g k:Fm RV}(hm:lastMarks [op1,op2] [r1,r2]=false)(hl:aH cx sl (eval l cx.env) f)(h1:aH cx sl (eval r1 cx.env) g)(h2:aH cx sl (eval r2 cx.env) k):
  dM cx sl (isTrue (.Compare l [op1,op2] [r1,r2] pos) cx.env whole) (bP λst=>(f st).bind λx st=>(g st).bind λy st=>(cj op1 x y st).bind λt st=>(cm t st).bind λt st=>cond t ((k st).bind λz st=>cj op2 y z st) (.ok (.v (.bool false)) st)):=λp A s tk Q E ar R z=>
 isTrue_chain (hm:=hm) (hl p A s tk _ E ar R ((aC.asc z).bd λa x P tk o va z=>test_link (h1 P A s tk _ E ar o.r ((aC.asc z).bd λb y P2 tk2 o2 vb z=>qG (cG o2.e va) vb A s tk2 _ E ar o2.r ((aC.asc z).bd λc t P3 tk3 o3 vc z=>
  qe vc A s tk3 _ E ar o3.r ((aC.asc z).bd λt t' P4 tk4 o4 r z=>by
   subst r;cases t with
   |true=>exact test_last (h2 P4 A s tk4 _ E ar o4.r ((aC.asc z).bd λd w P5 tk5 o5 vd z=>qG (cG o5.e (cG o4.e (cG o3.e vb))) vd A s tk5 _ E ar o5.r (z.bd λc2 t2 P6 tk6 o6 vc2 z=>qe vc2 A s tk6 Q E ar o6.r z)))
   |false=>exact z false P4.h P4.M tk4 (Ok.refl o4.r) rfl))))))
end
noncomputable def vI:List (AV×AV)→List (AV×AV)→Bool
 |[],[]=>true
 |p::l,q::l'=>fU p.1 q.1&&(cb 8 p.2 q.2).getD false&&vI l l'
 |_,_=>false
noncomputable def d4(l:List AV):Option (Int×Int×Int×List (AV×AV)):=match l with
 |[a,b,c,d]=>(eO a).bind λi=>(eO b).bind λj=>(eO c).bind λk=>(nf d).bind λl=>some (i,j,k,l)
 |_=>none
noncomputable def xD(x:AV):Option (Int×Int×Int×List (AV×AV)):=(eP x).bind d4
noncomputable def qP(a b:RV):Fm RV:=aj (bJ xD a) λx=>aj (bJ xD b) λy=>aK (decide (x.1=y.1)&&decide (x.2.1=y.2.1)&&decide (x.2.2.1=y.2.2.1)&&cS true x.2.2.2&&cS true y.2.2.2&&gg (x.2.2.2.map (·.1))&&gg (y.2.2.2.map (·.1))&&vI x.2.2.2 y.2.2.2) (aI (.v (.bool false)))
noncomputable def mP(prog:Program)(w:World)(A:Around)(s:Shared)(y x:Value):Prop:=∀(E:Value→Shared→Prop)(Q:Bool→Shared→Prop),Q true s→wpAny (model prog w) A (eqBool y x) Q E s
section
variable{prog:Program}{w:World}{A:Around}{E:Value→Shared→Prop}{s:Shared}
theorem C9{f:Value×Value→Option PySem.Fin×Unit→Sem (ForInStep (Option PySem.Fin×Unit))}{Q:Option PySem.Fin×Unit→Shared→Prop}(hf:∀p E Q,mP prog w A s p.1 p.2→Q (.yield (none,())) s→wpAny (model prog w) A (f p (none,())) Q E s):
  ∀(l:List (Value×Value)),(∀p∈l,mP prog w A s p.1 p.2)→Q (none,()) s→wpAny (model prog w) A (forIn l (none,()) f) Q E s
 |[],_,h=>by rw[List.forIn_nil];exact aQ h
 |p::r,k,h=>by rw[List.forIn_cons];exact ah (hf p _ _ (k p (.head _)) (C9 hf r (λq m=>k q (.tail _ m)) h))
theorem QR{l b:Addr}{vs us:List Value}{n m:Nat}(hl:s.heap.get? l=some (eg vs n))(hb:s.heap.get? b=some (eg us m))(hz:vs.length=us.length)(hu:A.units<cLine)
  (he:∀p∈vs.zip us,mP prog w A.in1 s p.1 p.2){Q:Value→Shared→Prop}(h:Q (.bool false) s):wpAny (model prog w) A (compareOp .NotEq (.ref l) (.ref b)) Q E s:=by
 refine wpAny_richCompare_same_room (op:=.NotEq) ⟨_,hl,rfl⟩ ⟨_,hb,rfl⟩ F.slot_tuple_ne (wpAny_call_entry F.slot_tuple_ne ⟨_,hl,rfl⟩ F.entry_tuple_ne ?_ (F.args_tuple_ne_2 _ _)) hu;obtain⟨hp,g,d,tk,os⟩:=s;have f2:=AutoSeq1.sub_tuple_tuple
 wp_walk using Io hl,Io hb
 refine C9 (λp E Q hp h=>?_) (vs.zip us) he ?_
 ·obtain⟨y,x⟩:=p;exact ah (hp _ _ (by simp only[AA,oM,pz];exact aQ h))
 ·refine aQ ⟨_,rfl,λz=>(nomatch z),?_⟩;show Q (.bool (vs.toArray.size !=us.toArray.size)) _;rw[bM,bM,hz];simpa using h
end
inductive jb(A:Around)(s:Shared):List (Str×Value)→List (Str×Value)→Prop
 |nil:jb A s [] []
 |cons {k:Str} {v y:Value} {r r':List (Str×Value)}:EqAt A s v y true→jb A s r r'→jb A s ((k,v)::r) ((k,y)::r')
theorem jb.hits{A:Around}{s:Shared}{kb ka kb':List (Str×Value)}(h:jb A s ka kb'):(∀q∈kb',valueAt kb q.1=some q.2)→KeqHits A s kb ka true:=jb.rec (motive:=λka kb' _=>(∀q∈kb',valueAt kb q.1=some q.2)→KeqHits A s kb ka true) (λ_=>.nil) (λe _ ih h=>.hit (e:=true) (b:=true) (h _ (.head _)) e (ih λq m=>h q (.tail _ m))) h
theorem jb.length{A:Around}{s:Shared}{ka kb:List (Str×Value)}(h:jb A s ka kb):ka.length=kb.length:=jb.rec (motive:=λka kb _=>ka.length=kb.length) rfl (λ_ _ ih=>congrArg (·+1) ih) h
theorem Z2.cut{α β:Type}{R:α→β→Prop}{v:α}{vs:List α}{x:β}{l:List β}(r:Z2 R (v::vs) (x::l)):R v x∧Z2 R vs l:=Z2.on (C:=λus=>us=v::vs→R v x∧Z2 R vs l) r (λu us a b c=>by cases c;exact⟨a,b⟩) rfl
noncomputable abbrev vF(q:Str×Value):AV:=.str q.1.cps.toList
theorem FW{P:Params}{A:Around}{s:Shared}{X X':Addr→Prop}{M:Sp}(hu:A.units+8<cLine):∀{ka kb:List (Str×Value)}{l l':List (AV×AV)},ka.map vF=l.map (·.1)→a9 P s.heap X M (ka.map (·.2)) ((vd l).map (·.2))→kb.map vF=l'.map (·.1)→a9 P s.heap X' M (kb.map (·.2)) ((vd l').map (·.2))→
  vI l l'=true→jb A s ka kb
 |[],[],[],[],_,_,_,_,_=>.nil
 |[],_::_,[],[],_,_,e,_,_=>nomatch e
 |[],_,[],_::_,_,_,_,_,e=>nB e
 |[],_,_::_,_,e,_,_,_,_=>nomatch e
 |_::_,_,[],_,e,_,_,_,_=>nomatch e
 |_::_,_,_::_,[],_,_,_,_,e=>nB e
 |_::_,[],_::_,_::_,_,_,e,_,_=>nomatch e
 |(k,v)::ka,(k',v')::kb,(x1,x2)::l,(y1,y2)::l',e1,r1,e2,r2,e=>by
  have h:=aF e;have a:=oQ (show AV.str k.cps.toList::ka.map vF=x1::l.map (·.1) from e1);have b:=oQ (show AV.str k'.cps.toList::kb.map vF=y1::l'.map (·.1) from e2);have kk:k=k':=GT (bI (by have h1:=h.1;rw[←a.1,←b.1] at h1;exact h1));subst kk;have c:=Z2.cut (x:=.v x2) (l:=(vd l).map (·.2)) r1;have d:=Z2.cut (x:=.v y2) (l:=(vd l').map (·.2)) r2;refine .cons ?_ (FW hu a.2 c.2 b.2 d.2 h.2.2);cases q:cb 8 x2 y2 with
  |none=>have h2:((cb 8 x2 y2).getD false)=true:=h.2.1;rw[q] at h2;exact nB h2
  |some b=>have h2:((cb 8 x2 y2).getD false)=true:=h.2.1;rw[q] at h2;cases (show b=true from h2);exact(pg 8 c.1 d.1 q hu).eq
section
variable{cx:Cx}{sl:List Str}{p:Pt}
theorem KK{A:Around}{s:Shared}{v u:Value}{l l':List (AV×AV)}(hv:VR cx.w.params s.heap (p.av cx) v (.dct l))(hu:VR cx.w.params s.heap (p.av cx) u (.dct l'))
  (q:cS true l=true)(q':cS true l'=true)(nd:gg (l.map (·.1))=true)(nd':gg (l'.map (·.1))=true)(e:vI l l'=true)(hun:A.units+10<cLine):mP pw cx.w A s v u:=VR.onDct hv λa es m e1 n1 r1=>VR.onDct hu λb es' m' e2 n2 r2=>by have N':=mj (lY q') nd';obtain⟨ka,da,ra,ka1,ka2,_⟩:=(dS cx.w).dict (M:=p.M) e1 r1.rrd ((oY l).trans q) (by rw[lJ];exact mj (lY q) nd);obtain⟨kb,db,rb,kb1,kb2,nb⟩:=(dS cx.w).dict (M:=p.M) e2 r2.rrd ((oY l').trans q') (by rw[lJ];exact N');have S:jb A.in1 s ka kb:=FW (by show A.units+1+8<cLine;omega) (ka1.trans (lJ l)) ra (kb1.trans (lJ l')) rb e;intro E Q hq;unfold eqBool;refine fZ ?_;refine wpAny_ite_split (λ_=>ah (sN (aQ hq))) λ_=>?_;refine ah (keq_eq (oC n1) (oC n2) da db (eX (eM _ _) hun) (λ_=>S.hits λq m=>(List.mem_iff_getElem?.mp m).elim λi hi=>valueAt_of_get nb hi) ?_);refine wpAny_truthy_bool ?_;rw[S.length,eQ];exact hq
theorem Kz{l:List AV}{x:Int×Int×Int×List (AV×AV)}(h:d4 l=some x):l=[.int x.1,.int x.2.1,.int x.2.2.1,.dct x.2.2.2]:=by
 rcases l with _|⟨a,_|⟨b,_|⟨c,_|⟨d,_|⟨e,l⟩⟩⟩⟩⟩<;>first|exact nS h|skip
 exact aL h λi h1 h=>aL h λj h2 h=>aL h λk h3 h=>aL h λm h4 h=>by rw[←ak h,fe h1,fe h2,fe h3,qy h4]
theorem Ch{x:AV}{q:Int×Int×Int×List (AV×AV)}(h:xD x=some q):x=.tup [.int q.1,.int q.2.1,.int q.2.2.1,.dct q.2.2.2]:=aL h λl h1 h=>(iO h1).trans (congrArg AV.tup (Kz h))
theorem Kn{v u:Value}{a b:RV}(hv:p.val cx v a)(hu:p.val cx u b):aZ cx sl p (rV cx) (compareOp .NotEq v u) (qP a b):=.opt λx hx=>.opt λy hy=>.gd λg A s tk Q E ar R z=>VR.onTup (C:=λv=>wpAny _ _ (compareOp _ v u) _ _ _) (show VR cx.w.params p.h (p.av cx) v (.tup [.int x.1,.int x.2.1,.int x.2.2.1,.dct x.2.2.2]) from RR.cast (aL hx λx e1 e2=>(j8 e1).trans (congrArg RV.v (Ch e2))) hv) λa1 vs n e1 n1 r1=>VR.onTup (C:=λu=>wpAny _ _ (compareOp _ _ u) _ _ _) (show VR cx.w.params p.h (p.av cx) u (.tup [.int y.1,.int y.2.1,.int y.2.2.1,.dct y.2.2.2]) from RR.cast (aL hy λx e1 e2=>(j8 e1).trans (congrArg RV.v (Ch e2))) hu) λa2 us m e2 n2 r2=>by
  have g:=aF g;have g':=aF g.1;have g'':=aF g'.1;have ln:=ar.rm.line;have line:A.in1.units+10<cLine:=eX (by show A.units+1+10≤A.units+20;omega) ln
  have int:∀{v u:Value}{i j:Int},i=j→VR cx.w.params p.h (p.av cx) v (.int i)→VR cx.w.params p.h (p.av cx) u (.int j)→mP pw cx.w A.in1 (Sh s p.h tk) v u:=λ{v u i j} c x y E Q hq=>by subst c;exact(pg (s:=Sh s p.h tk) 1 x y (show some (decide (i=i))=some true from congrArg some (cD rfl)) (eX (A1 (by decide) _) line)).eq pw cx.w E Q hq
  refine QR (s:=Sh s p.h tk) e1 e2 (by rw[bj.length r1,bj.length r2];rfl) ar.rm.line0 ?_ (z _ _ _ _ (Ok.refl R) RR.bool);refine bA.on (C:=λvs=>∀q∈vs.zip us,mP pw cx.w A.in1 (Sh s p.h tk) q.1 q.2) r1 λv1 vs a1 r1=>bA.on (C:=λus=>∀q∈(v1::vs).zip us,mP pw cx.w A.in1 (Sh s p.h tk) q.1 q.2) r2 λu1 us b1 r2 q m=>(List.mem_cons.mp m).elim (λc=>c▸int (bI (aA g''.1).1) a1 b1) ?_;refine bA.on (C:=λvs=>q∈vs.zip us→_) r1 λv1 vs a1 r1=>bA.on (C:=λus=>q∈(v1::vs).zip us→_) r2 λu1 us b1 r2 m=>(List.mem_cons.mp m).elim (λc=>c▸int (bI (aA g''.1).2) a1 b1) ?_;refine bA.on (C:=λvs=>q∈vs.zip us→_) r1 λv1 vs a1 r1=>bA.on (C:=λus=>q∈(v1::vs).zip us→_) r2 λu1 us b1 r2 m=>(List.mem_cons.mp m).elim (λc=>c▸int (bI g''.2.1) a1 b1) ?_;refine bA.on (C:=λvs=>q∈vs.zip us→_) r1 λv1 vs a1 r1=>bA.on (C:=λus=>q∈(v1::vs).zip us→_) r2 λu1 us b1 r2 m=>(List.mem_cons.mp m).elim (λc=>c▸KK (p:=p) a1 b1 g''.2.2 g'.2.1 g'.2.2 g.2.1 g.2.2 line) λm=>?_;rw[show vs=[] from r1] at m;exact nomatch m
end
end
section
open PySem.SeqAt
noncomputable def pE(fl:aY)(k:St→Rs aY)(st:St):Rs aY:=match fl with
 |.next=>k st
 |.cont=>k st
 |.brk=>.ok .next st
 |.ret v=>.ok (.ret v) st
noncomputable def iz(slot:Nat)(body:Fm aY):List RV→Fm aY
 |[]=>aI .next
 |x::r=>λst=>(body ⟨bp st.loc slot (some x),st.H⟩).bind λfl st'=>pE fl (iz slot body r) st'
noncomputable def iA(is:List Nat)(body:Fm aY):List (List RV)→Fm aY
 |[]=>aI .next
 |x::r=>aK (Nat.beq x.length is.length) λst=>(body ⟨dY st.loc is x,st.H⟩).bind λfl st'=>pE fl (iA is body r) st'
noncomputable def jT(c:Fm RV)(b:Fm aY):Nat→Fm aY
 |0=>λ_=>.bad
 |n+1=>λst=>(c st).bind λt st=>(cm t st).bind λt st=>cond t ((b st).bind λfl st'=>pE fl (jT c b n) st') (.ok .next st)
theorem Dj{slot:Nat}{body:Fm aY}:∀xs:List RV,iz slot body xs=iA [slot] body (xs.map λx=>[x])
 |[]=>rfl
 |x::r=>congrArg (λ(k:Fm aY)(st:St)=>(body ⟨bp st.loc slot (some x),st.H⟩).bind λfl st'=>pE fl k st') (Dj r)
noncomputable def bO{α:Type}(r:Rs α)(G:α→St→Prop):Prop:=Rs.casesOn (motive:=λ_=>Prop) r False False G
section
variable{α β γ δ:Type}{r:Rs α}{G:β→St→Prop}
theorem bO.bd{k:α→St→Rs β}(z:bO (r.bind k) G):bO r λx σ=>bO (k x σ) G:=by cases r<;>exact z
theorem bO.gd{c:Bool}{f:Fm β}{σ:St}(z:bO (aK c f σ) G):c=true∧bO (f σ) G:=by
 cases c with
 |false=>exact False.elim z
 |true=>exact⟨rfl,z⟩
variable{cx:Cx}{sl:List Str}{p:Pt}{s:Shared}{rel:Pt→γ→α→Prop}{rel':Pt→γ→δ→Prop}{Q:γ→Shared→Prop}{E:Value→Shared→Prop}
theorem bO.res{G:α→St→Prop}(z:bO r G)(h:∀a x h' M' σ tk,Ok cx sl p ⟨h',M',σ⟩→rel ⟨h',M',σ⟩ a x→G x σ→Q a (Sh s h' tk)):aC cx sl p s rel r Q E:=by
 cases r with
 |bad=>exact z
 |err=>exact False.elim z
 |ok x σ=>exactλa h' M' tk o r=>h a x h' M' σ tk o r z
theorem aC.toN{k:α→St→Rs δ}(z:aC cx sl p s rel' (r.noErr.bind k) Q E):bO r λx σ=>aC cx sl p s rel' (k x σ) Q E:=by cases r<;>exact z
theorem aC.toN'{r:Rs δ}(z:aC cx sl p s rel' r.noErr Q E):bO r λx σ=>aC cx sl p s rel' (.ok x σ) Q E:=by cases r<;>exact z
end
inductive Wk(w:World)(A:Around)(I:Addr)(fp wr:List Addr)(h0:Heap)(X:Addr→Prop)(M:Sp)(xs:List (List RV))(Sv:Nat→Heap→Prop):Expr→List (Str×Pos)→Prop
 |name {x:Str} {xpos:Pos} {Pv:Nat→Value→Prop}:Walks pw w A I fp wr xs.length Pv Sv→(∀i v,Pv i v→∃y,ae xs i=some [y]∧RR w.params h0 X M v y)→Wk w A I fp wr h0 X M xs Sv (.Name x xpos) [(x,xpos)]
 |tup {ts:List (Str×Pos)} {k:Nat} {tpos:Pos} {Pv:Nat→Array Value→Prop} {Mid:Nat→Addr→Heap→Prop}:WalksU pw w A I fp wr xs.length Pv Sv Mid→(∀i vals,Pv i vals→∃y,ae xs i=some y∧a9 w.params h0 X M vals.toList y)→
   Wk w A I fp wr h0 X M xs Sv (.Tuple (dT ts) k tpos) ts
section
variable{w:World}{A:Around}{I:Addr}{fp wr:List Addr}{h0:Heap}{X:Addr→Prop}{M:Sp}{xs:List (List RV)}{Sv:Nat→Heap→Prop}{t:Expr}{ts:List (Str×Pos)}
theorem Wk.frame(W:Wk w A I fp wr h0 X M xs Sv t ts):∀i h h',Sv i h→(∀b∈fp,∀o,h.get? b=some o→h'.get? b=some o)→Sv i h':=Wk.rec (λW _=>W.frame) (λW _=>W.frame) W
theorem Wk.done(W:Wk w A I fp wr h0 X M xs Sv t ts):∀(s:Shared)(Q:Option Value→Shared→Prop)(E:Value→Shared→Prop),Sv xs.length s.heap→
  (∀h' tk,(∀b o,b∉wr→s.heap.get? b=some o→h'.get? b=some o)→Q none {s with heap:=h',toks:=tk})→wpAny (model pw w) A (pyNext (.ref I)) Q E s:=Wk.rec (λW _=>W.done) (λW _=>W.done) W
theorem Wk.self(W:Wk w A I fp wr h0 X M xs Sv t ts):∀i(s:Shared)(Q:Value→Shared→Prop)(E:Value→Shared→Prop),Sv i s.heap→Q (.ref I) s→wpAny (model pw w) A (pyIter (.ref I)) Q E s:=Wk.rec (λW _=>W.self) (λW _=>W.self) W
end
noncomputable def ki(cx:Cx)(W:Addr→Prop)(h:Heap)(M:Sp)(H:List ac)(fp:List Addr):Prop:=∀b∈fp,W b∨(¬Tc cx.T0 M H b∧b<h.objs.size)
theorem ki.up{cx:Cx}{W T:Addr→Prop}{h h':Heap}{M M':Sp}{H H':List ac}{fp:List Addr}(f:ki cx W h M H fp)(e:HX T h M H h' M' H'):ki cx W h' M' H' fp:=λb m=>(f b m).imp id λz=>⟨λt=>z.1 (t.imp id λt=>t.imp id λt=>(e.live b t).elim id λq=>absurd z.2 (Nat.not_lt.mpr q)),dK z.2 e.size⟩
theorem ki.no{cx:Cx}{W:Addr→Prop}{h:Heap}{M:Sp}{H:List ac}{fp:List Addr}(f:ki cx W h M H fp)(w:gn cx W h M H){b:Addr}(m:b∈fp):¬Tc cx.T0 M H b:=(f b m).elim (λz=>(w b z).nT) (·.1)
structure Lp(cx:Cx)(sl:List Str)(W V:Addr→Prop)(p:Pt)(fp:List Addr)(Sv:Nat→Heap→Prop)(n:Nat)(q:Pt)(i:Nat):Prop where
 r:SR (cx.hidS W) sl q
 w:gn cx W q.h q.M q.σ.H
 e:HX (λb=>cx.T0 b∨V b) p.h p.M p.σ.H q.h q.M q.σ.H
 st:Sv i q.h
 f:i<n→ki cx W q.h q.M q.σ.H fp
 le:i≤n
theorem bq.st{cx:Cx}(K:bq cx)(X1:Addr→Prop):bq (cx.st X1):=⟨K.kind,K.glob,K.bltn,K.says⟩
theorem xF{α:Type}{xs:List α}{i:Nat}{y:α}(hy:ae xs i=some y):xs.drop i=y::xs.drop (i+1):=by have c:=gh hy;rw[Ix c];rw[cJ,oR c] at hy;rw[ak hy]
section
variable{cx:Cx}{sl:List Str}{W V:Addr→Prop}{p q:Pt}{fp wr:List Addr}{Sv:Nat→Heap→Prop}{n i:Nat}{A:Around}{s:Shared}{tk:Tok}
theorem Lp.ext{q':Pt}(L:Lp cx sl W V p fp Sv n q i)(f:ki cx W q.h q.M q.σ.H fp)(fr:∀i h h',Sv i h→(∀b∈fp,∀o,h.get? b=some o→h'.get? b=some o)→Sv i h')(o:Ok (cx.hidS W) sl q q'):Lp cx sl W V p fp Sv n q' i:=⟨o.r,L.w.up o.e,L.e.trans (o.e.moreT λ_=>.inl),fr i _ _ L.st λb m o' e=>o.e.keep b o' e (f.no L.w m),λ_=>f.up o.e,L.le⟩
theorem Lp.step(L:Lp cx sl W V p fp Sv n q i){V':Addr→Prop}{h':Heap}{j:Nat}(vw:∀b,V' b→W b)(vv:∀b,V' b→V b)(k:∀b o,¬V' b→q.h.get? b=some o→h'.get? b=some o)(sz:q.h.objs.size≤h'.objs.size)(st:Sv j h')(le:j≤n)(f:j<n→i<n):
  Lp cx sl W V p fp Sv n ⟨h',q.M,q.σ⟩ j∧HX (λb=>cx.T0 b∨V' b) q.h q.M q.σ.H h' q.M q.σ.H:=have S:=L.r.stepS L.w vw k sz
 ⟨⟨S.2,L.w.up S.1,L.e.trans (S.1.moreT λb z=>z.imp id (vv b)),st,λc=>(L.f (f c)).up S.1,le⟩,S.1⟩
theorem iW{h h':Heap}{M M':Sp}{H H':List ac}(vw:∀b,V b→W b)(e:HX (λb=>cx.T0 b∨V b) h M H h' M' H'):Up h (HA (cx.hidS W).X M H) h' (HA (cx.hidS W).X M' H'):=e.up λb z=>z.elim .inr λz=>.inl (.inr (vw b z))
theorem Lp.turn(K0:bq cx)(hh:A.handled=none){I:Addr}{h0:Heap}{X:Addr→Prop}{M:Sp}{xs:List (List RV)}{t:Expr}{ts:List (Str×Pos)}{is:List Nat}(Wv:Wk cx.w A I fp wr h0 X M xs Sv t ts)(hts:lU cx sl ts is)(hW:∀b∈wr,W b)(hV:∀b∈wr,V b)
  (u:Up h0 X q.h (HA (cx.hidS W).X q.M q.σ.H))(m:e8 M q.M)(L:Lp cx sl W V p fp Sv xs.length q i)(c:i<xs.length)(hb:∀y,ae xs i=some y→Nat.beq y.length is.length=true){N:Shared→Prop}{E1 E2 E3:Value→Shared→Prop}{Q:Unit→Shared→Prop}
  (hQ:∀y h' tk,ae xs i=some y→Lp cx sl W V p fp Sv xs.length ⟨h',q.M,⟨dY q.σ.loc is y,q.σ.H⟩⟩ (i+1)→ki cx W h' q.M q.σ.H fp→HX (λb=>cx.T0 b∨b∈wr) q.h q.M q.σ.H h' q.M q.σ.H→Q () (Sh s h' tk)):
  wpAny (model pw cx.w) A (pyNext (.ref I)) (λr s₁=>match r with
   |none=>N s₁
   |some v=>wpAny (model pw cx.w) A (letOwnedTupleGo t (.ref I) v) (λ_ s₁'=>wpAny (model pw cx.w) A (assign t cx.env v) Q E1 s₁') E2 s₁) E3 (Sh s q.h tk):=by
 have KW:=K0.st (cx.hidS W).X0;have frame:=Wv.frame;have f:=L.f c;cases Wv with
 |name Wv hP=>
  rename_i x xpos Pv;refine gE (Wv.item i _ _ _ c L.st λv h' tk' pv st' keep sz'=>?_);have S:=L.step (V':=λb=>b∈wr) (j:=i+1) hW hV (λb o nw e=>keep b o nw e) sz' st' c λ_=>c;obtain⟨y,hy,ry⟩:=hP i v pv;have ry':RR cx.w.params h' (HA (cx.hidS W).X q.M q.σ.H) q.M v y:=RR.up (u.trans (iW hW S.2)) m ry;refine aQ ?_;cases is with
  |nil=>cases (show(_::_:List (Str×Pos))=[] from hts)
  |cons j is=>
   have d:=Z2.cut hts;cases is with
   |cons _ _=>exact bA.rec (motive:=λvs _=>vs=[]→_) (λ_ _ c=>nomatch c) d.2 rfl
   |nil=>refine HU (qb KW S.1.r d.1.1 d.1.2 ry' λh3 tk3 o3=>?_);exact hQ [y] h3 tk3 hy (S.1.ext (f.up S.2) frame o3) ((f.up S.2).up o3.e) (S.2.trans (o3.e.moreT λ_=>.inl))
 |tup Wv hP=>
  rename_i k tpos Pv Mid;refine gE (Wv.item i _ _ _ c L.st λT vals h' tk' pv hT hM keep sz'=>?_);obtain⟨y,hy,ry⟩:=hP i vals pv;refine gE (Wv.go (dT ts) k tpos i T _ _ _ hM λh2 st' keep2 sz2=>?_);have S:=L.step (V':=λb=>b∈wr) (h':=h2) (j:=i+1) hW hV (λb o nw e=>keep2 b o nw (keep b o nw e)) (aJ sz' sz2) st' c λ_=>c
  have hT2:h2.IsTuple T vals.toList.toArray:=by rw[Il];exact hT.at λo e=>keep2 T o (Wv.apart _ _ _ hM) e
  have ry':a9 cx.w.params h2 (HA (cx.hidS W).X q.M q.σ.H) q.M vals.toList y:=a9.up (u.trans (iW hW S.2)) m ry;exact HC KW (p:=⟨h2,q.M,q.σ⟩) (cx:=cx.hidS W) hts hT2 ry' (hb y hy) hh S.1.r λh3 tk3 o3=>hQ y h3 tk3 hy (S.1.ext (f.up S.2) frame o3) ((f.up S.2).up o3.e) (S.2.trans (o3.e.moreT λ_=>.inl))
structure mZ(cx:Cx)(p:Pt)(A:Around)(I:Addr)(h1:Heap)(xs:List (List RV))(t:Expr)(ts:List (Str×Pos))(fp wr:List Addr)(Sv:Nat→Heap→Prop):Prop where
 k1:∀b o,p.h.get? b=some o→h1.get? b=some o
 sz:p.h.objs.size≤h1.objs.size
 wk:Wk cx.w A I fp wr p.h (p.av cx) p.M xs Sv t ts
 hW:∀b∈wr,p.h.objs.size≤b∧b<h1.objs.size
 hfp:0<xs.length→∀b∈fp,b∈wr∨(¬p.av cx b∧b<h1.objs.size)
 st:Sv 0 h1
noncomputable def dL(cx:Cx)(sl:List Str)(p:Pt)(s:Shared)(A:Around)(t:Expr)(ts:List (Str×Pos))(r:Rs (List (List RV)))(Q E:Value→Shared→Prop):Prop:=Rs.casesOn (motive:=λ_=>Prop) r False (∀e h' tk,lO cx.B cx.fr e h'→E e (Sh s h' tk)) (λxs σ=>∀I h1 h' M' tk fp wr Sv,Ok cx sl p ⟨h',M',σ⟩→mZ cx ⟨h',M',σ⟩ A I h1 xs t ts fp wr Sv→Q (.ref I) (Sh s h1 tk))
noncomputable def h8(cx:Cx)(sl:List Str)(iter:Expr)(m:Fm (List (List RV)))(t:Expr)(ts:List (Str×Pos)):Prop:=∀(p:Pt)(A:Around)(s:Shared)(tk:Tok)(Q E:Value→Shared→Prop),AR cx A→SR cx sl p→dL cx sl p s A t ts (m p.σ) Q E→
 wpAny (model pw cx.w) A (eval iter cx.env) (λv s1=>wpAny (model pw cx.w) A (pyIter v) Q E s1) E (Sh s p.h tk)
theorem mZ.lp{I:Addr}{h1:Heap}{xs:List (List RV)}{t:Expr}{ts:List (Str×Pos)}(S:mZ cx p A I h1 xs t ts fp wr Sv)(R:SR cx sl p):Lp cx sl (·∈wr) (·∈wr) ⟨h1,p.M,p.σ⟩ fp Sv xs.length ⟨h1,p.M,p.σ⟩ 0∧Up p.h (p.av cx) h1 (HA (cx.hidS (·∈wr)).X p.M p.σ.H):=have H:=R.hideS (W:=(·∈wr)) S.k1 S.sz S.hW
 ⟨⟨H.1,H.2.1,HX.refl,S.st,λc b hb=>(S.hfp c b hb).imp id λz=>⟨λt=>z.1 (t.elim (λt=>.inl (.inr t)) λt=>.inr (t.imp .inl id)),z.2⟩,f9 _⟩,H.2.2⟩
theorem aC.fin{I:Addr}{h1:Heap}{xs:List (List RV)}{t:Expr}{ts:List (Str×Pos)}{h':Heap}{M':Sp}{σ:St}(S:mZ cx ⟨h',M',σ⟩ A I h1 xs t ts fp wr Sv)(o:Ok cx sl p ⟨h',M',σ⟩)(R:SR (cx.hidS (·∈wr)) sl q)(e:HX (λb=>cx.T0 b∨b∈wr) h1 M' σ.H q.h q.M q.σ.H)
  {f:Flow}{y:aY}(r:ft (cx.hidS (·∈wr)) q f y){Q:Flow→Shared→Prop}{E:Value→Shared→Prop}(z:aC cx sl p s (ft cx) (.ok y q.σ) Q E)(tk:Tok):Q f (Sh s q.h tk):=by
 have U:=R.unhideS;refine z f q.h q.M tk (Ok.tr o.e ⟨HX.lessT (h:=h') e S.k1 S.sz λb z=>z.imp id λw=>(S.hW b w).1,U.1⟩) ?_;cases y with
 |ret x=>obtain⟨v,e,rv⟩:=r;exact⟨v,e,RR.up U.2 (λ_ _ e=>e) rv⟩
 |_=>exact r
theorem FP(K0:bq cx){pos:Pos}{iter t:Expr}{ts:List (Str×Pos)}{is:List Nat}{body:List Stmt}{mu:Fm (List (List RV))}{mb:Fm aY}(hf:∀v,foldedSetIterable iter cx.env v=pure v)(hts:lU cx sl ts is)
  (hu:h8 cx sl iter mu t ts)(hb:∀X1,df (cx.st X1) sl (execs body cx.env) mb):df cx sl (exec (.For t iter body [] pos) cx.env) λst=>(mu st).bind λxs st=>(iA is mb xs st).noErr:=λp A s tk Q E ar R z=>by
 refine wpAny_For (hs:=hf) (hu p A s tk _ E ar R ?_);revert z;show aC cx sl p s (ft cx) ((mu p.σ).bind λxs st=>(iA is mb xs st).noErr) Q E→dL cx sl p s A t ts (mu p.σ) _ E;cases mu p.σ with
 |bad=>exact id
 |err=>exact id
 |ok xs σ=>
  intro z I h1 h' M' tk1 fp wr Sv o S;have z:bO (iA is mb xs σ) λx σ'=>aC cx sl p s (ft cx) (.ok x σ') Q E:=aC.toN' z;have L0:=S.lp o.r;have Wv:=S.wk;have frame:=Wv.frame;refine codeAny_forLoop_any (λm s'=>∃(q:Pt)(tk:Tok)(i:Nat),s'=Sh s q.h tk∧Lp cx sl (·∈wr) (·∈wr) ⟨h1,M',σ⟩ fp Sv xs.length q i∧m=xs.length-i∧bO (iA is mb (xs.drop i) q.σ) λx σ'=>aC cx sl p s (ft cx) (.ok x σ') Q E)
   (λm s' hI=>?_) xs.length ⟨⟨h1,M',σ⟩,tk1,0,rfl,L0.1,rfl,z⟩
  obtain⟨q,tk,i,rfl,L,rfl,zq⟩:=hI;rcases mW i xs.length with c|c
  ·have g:∀{y},ae xs i=some y→_:=λ{y} hy=>bO.gd (c:=Nat.beq y.length is.length) (f:=λst=>(mb ⟨dY st.loc is y,st.H⟩).bind λfl st'=>pE fl (iA is mb (xs.drop (i+1))) st') (xF hy▸zq);refine Lp.turn K0 ar.rm.hand Wv hts (λ_ z=>z) (λ_ z=>z) (L0.2.trans (iW (λ_ z=>z) L.e)) L.e.sp L c (λy hy=>(g hy).1) λy h3 tk3 hy L3 f3 e3=>?_;refine hb (cx.hidS (·∈wr)).X0 ⟨h3,q.M,⟨dY q.σ.loc is y,q.σ.H⟩⟩ A s tk3 _ _ ⟨ar.rm,ar.fr⟩ L3.r ((g hy).2.bd.res λf fl h4 M4 σ4 tk4 o4 r z4=>?_);have L4:=L3.ext f3 frame o4;have dn:xs.length-(i+1)<xs.length-i:=A8 c (eN i);cases fl with
   |next=>rw[show f=.next from r];exact⟨_,dn,⟨h4,M4,σ4⟩,tk4,i+1,rfl,L4,rfl,z4⟩
   |cont=>rw[show f=.cont from r];exact⟨_,dn,⟨h4,M4,σ4⟩,tk4,i+1,rfl,L4,rfl,z4⟩
   |brk=>rw[show f=.brk from r];exact aC.fin (E:=E) S o L4.r L4.e (y:=.next) (show Flow.next=.next from rfl) z4 tk4
   |ret x=>obtain⟨v,rfl,rv⟩:=r;exact aC.fin (E:=E) S o L4.r L4.e (y:=.ret x) ⟨v,rfl,rv⟩ z4 tk4
  ·cases tA L.le c;refine gE (Wv.done _ _ _ L.st λh2 tk' keep sz'=>Ao ?_);have T:=L.r.stepS L.w (V:=(·∈wr)) (h':=h2) (λ_ z=>z) (λb o nw e=>keep b o nw e) sz';rw[wo] at zq;exact aC.fin (E:=E) S o (q:=⟨h2,q.M,q.σ⟩) T.2 (L.e.trans T.1) (y:=.next) (show Flow.next=.next from rfl) zq tk'
theorem T2{c:Expr}{body:List Stmt}{pos:Pos}{mc:Fm RV}{mb:Fm aY}{N:Nat}(hc:dM cx sl (isTrue c cx.env (eval c cx.env)) (bP mc))(hb:df cx sl (execs body cx.env) mb):df cx sl (exec (.While c body [] pos) cx.env) λst=>(jT mc mb N st).noErr:=λp A s tk Q E ar R z=>by
 have z:bO (jT mc mb N p.σ) λx σ'=>aC cx sl p s (ft cx) (.ok x σ') Q E:=aC.toN' z;refine wpAny_While (codeAny_whileLoop (λm s'=>∃(q:Pt)(tk:Tok),s'=Sh s q.h tk∧Ok cx sl p q∧bO (jT mc mb m q.σ) λx σ'=>aC cx sl p s (ft cx) (.ok x σ') Q E) (λm s' hI=>?_) N ⟨p,tk,rfl,Ok.refl R,z⟩);obtain⟨q,tk,rfl,o,zq⟩:=hI;cases m with
 |zero=>exact False.elim zq
 |succ m=>
  have zq:bO ((bP mc q.σ).bind λt st=>cond t ((mb st).bind λfl st'=>pE fl (jT mc mb m) st') (.ok .next st)) λx σ'=>aC cx sl p s (ft cx) (.ok x σ') Q E:=by unfold bP;rw[Rs.asc];exact zq
  refine hc q A s tk _ _ ar o.r (zq.bd.res λt t' h1 M1 σ1 tk1 o1 r z1=>?_);subst r;cases t with
  |true=>
   refine hb ⟨h1,M1,σ1⟩ A s tk1 _ _ ar o1.r (z1.bd.res λf fl h2 M2 σ2 tk2 o2 r z2=>?_);have o2:=(o2.tr o1.e).tr o.e;cases fl with
   |next=>rw[show f=.next from r];exact⟨m,eN m,⟨h2,M2,σ2⟩,tk2,rfl,o2,z2⟩
   |cont=>rw[show f=.cont from r];exact⟨m,eN m,⟨h2,M2,σ2⟩,tk2,rfl,o2,z2⟩
   |brk=>rw[show f=.brk from r];exact z2 .next h2 M2 tk2 o2 (show Flow.next=.next from rfl)
   |ret x=>obtain⟨v,rfl,rv⟩:=r;exact z2 _ h2 M2 tk2 o2 ⟨v,rfl,rv⟩
  |false=>exact Ao (z1 .next h1 M1 tk1 (o1.tr o.e) (show Flow.next=.next from rfl))
end
end
section
open PySem.SeqAt
noncomputable def nE(e:Fm RV)(acc:List RV)(k:List RV→Fm (List RV)):Fm (List RV):=λst=>(e st).bind λy dC=>aK (Nat.blt acc.length 1000) (k (acc++[y])) dC
noncomputable def fC(is:List Nat)(test:Option (Fm RV))(e:Fm RV):List (List RV)→List RV→Fm (List RV)
 |[],acc=>aI acc
 |x::r,acc=>aK (Nat.beq x.length is.length) λst=>test.casesOn (nE e acc (fC is test e r) ⟨dY st.loc is x,st.H⟩) λc=>(bP c ⟨dY st.loc is x,st.H⟩).bind λt st'=>cond t (nE e acc (fC is test e r) st') (fC is test e r acc st')
noncomputable def iU(is is2:List Nat)(u:Fm (List (List RV)))(e:Fm RV):List (List RV)→List RV→Fm (List RV)
 |[],acc=>aI acc
 |x::r,acc=>aK (Nat.beq x.length is.length) λst=>(u ⟨dY st.loc is x,st.H⟩).bind λys st'=>(fC is2 none e ys acc st').bind λacc' dC=>iU is is2 u e r acc' dC
inductive eC(cx:Cx)(W:Addr→Prop)(D:Addr)(q:Pt)(acc:List RV):Prop
 |mk {us:List Value} {k:Nat}:q.h.get? D=some (cL us k)→a9 cx.w.params q.h (HA (cx.hidS W).X q.M q.σ.H) q.M us acc→eC cx W D q acc
theorem eC.up{cx:Cx}{W V:Addr→Prop}{D:Addr}{q q':Pt}{acc:List RV}(d:eC cx W D q acc)(vw:∀b,V b→W b)(e:HX (λb=>cx.T0 b∨V b) q.h q.M q.σ.H q'.h q'.M q'.σ.H)(w:WO cx q.h q.M q.σ.H D)(n:¬V D):eC cx W D q' acc:=eC.rec (motive:=λ_=>eC cx W D q' acc) (λa b=>.mk (e.keep D _ a λz=>z.elim (λz=>z.elim (λz=>w.nF (.inl z)) n) λz=>z.elim w.nA w.nL) (a9.up (iW vw e) e.sp b)) d
theorem eC.ext{cx:Cx}{sl:List Str}{W:Addr→Prop}{D:Addr}{q q':Pt}{acc:List RV}(d:eC cx W D q acc)(o:Ok (cx.hidS W) sl q q')(w:WO cx q.h q.M q.σ.H D):eC cx W D q' acc:=d.up (V:=cA) (λ_ z=>z.elim) (o.e.moreT λ_=>.inl) w id
noncomputable def mV(cx:Cx)(sl:List Str)(e:Expr)(d:Nat)(target:Expr)(ts:List (Str×Pos))(m:List (List RV)→List RV→Fm (List RV)):Prop:=∀(A:Around)(p:Pt)(s:Shared)(tk:Tok)(I D:Addr)(W:Addr→Prop)(fp wr:List Addr)(Sv:Nat→Heap→Prop)(xs:List (List RV))(h0:Heap)(X:Addr→Prop)(M:Sp)(acc0:List RV)(G:List RV→St→Prop)(R':Result→Shared→Prop),
 AR cx A→Lp cx sl W (λb=>b∈wr∨b=D) p fp Sv xs.length p 0→Wk cx.w A I fp wr h0 X M xs Sv target ts→Up h0 X p.h (HA (cx.hidS W).X p.M p.σ.H)→e8 M p.M→(∀b∈wr,W b)→W D→(0<xs.length→D∉fp)→D∉wr→eC cx W D p acc0→bO (m xs acc0 p.σ) G→
 (∀(q:Pt)(tk:Tok)(acc:List RV),SR (cx.hidS W) sl q→gn cx W q.h q.M q.σ.H→HX (λb=>cx.T0 b∨(b∈wr∨b=D)) p.h p.M p.σ.H q.h q.M q.σ.H→eC cx W D q acc→G acc q.σ→R' (.ok .next) (Sh s q.h tk))→
 codeAny (model pw cx.w) A (.compLoop e d (.ref I) (.ref D) cx.env) R' (Sh s p.h tk)
theorem Hv{A:Around}{s:Shared}{w:World}{elt target:Expr}{ifs:List Expr}{ip:Pos}{it acc:Value}{env:Env}{c:Code}{Q:Fin→Shared→Prop}{G:Shared→Prop}{E:Value→Shared→Prop}(hend:∀s',Q (.done .next) s'↔G s'){J:Shared→Prop}(hag:∀s',J s'→Q (.again c) s')
  (turn:wpAny (model pw w) A (pyNext it) (λr s₁=>match r with
   |none=>G s₁
   |some v=>wpAny (model pw w) A (letOwnedTupleGo target it v) (λ_ s₁'=>wpAny (model pw w) A (assign target env v) (λ_ s₂=>
     wpAny (model pw w) A (forIn ifs true λc r=>if r=true then do let ok←isTrue c env (eval c env);pure (ForInStep.yield ok) else pure (ForInStep.yield r)) (λok s₃=>
      if ok=true then wpAny (model pw w) A (eval elt env) (λx s₄=>wpAny (model pw w) A (call (.builtin "list.append") [acc,x]) (λ_ s₅=>J s₅) E s₄) E s₃
      else J s₃) E s₂) E s₁') E s₁) E s):
  wpAny (model pw w) A (do
   standAt ip
   match←pyNext it with
   |none=>pure (.done .next)
   |some v=>
    letOwnedTupleGo target it v
    assign target env v
    let mut ok:=true
    for c in ifs do
     if ok then ok←isTrue c env (eval c env)
    if ok then
     (do let _←call (.builtin "list.append") [acc,←eval elt env])
    again c) Q E s:=by
 refine ah (iJ (ah (dZ turn (λr s₁ h₁=>?_) λ_ _ h'=>h')));cases r with
 |none=>exact aQ ((hend _).mpr h₁)
 |some v=>
  refine ah (dZ h₁ (λ_ s₁' h₁'=>?_) λ_ _ h'=>h');refine ah (dZ h₁' (λ_ s₂ h₂=>ah (dZ h₂ (λok s₃ h₃=>?_) λ_ _ h'=>h')) λ_ _ h'=>h');cases ok with
  |false=>exact aQ (hag _ h₃)
  |true=>exact ah (ah (dZ h₃ (λx s₄ h₄=>ah (dZ h₄ (λ_ s₅ h₅=>aQ (aQ (hag _ h₅))) λ_ _ h'=>h')) λ_ _ h'=>h'))
abbrev IN(A:Around)(w:World)(elt target:Expr)(ifs:List Expr)(it acc:Value)(env:Env)(R:Result→Shared→Prop)(I:Nat→Shared→Prop):Prop:=∀n s,I n s→wpAny (model pw w) A (pyNext it) (λr s₁=>match r with
   |none=>R (.ok .next) s₁
   |some v=>wpAny (model pw w) A (letOwnedTupleGo target it v) (λ_ s₁'=>wpAny (model pw w) A (assign target env v) (λ_ s₂=>
     wpAny (model pw w) A (forIn ifs true λc r=>if r=true then do let ok←isTrue c env (eval c env);pure (ForInStep.yield ok) else pure (ForInStep.yield r)) (λok s₃=>
      if ok=true then wpAny (model pw w) A (eval elt env) (λx s₄=>wpAny (model pw w) A (call (.builtin "list.append") [acc,x]) (λ_ s₅=>∃m,m<n∧I m s₅) (notedBy (model pw w) A env λe s'=>R (.error e) s') s₄) (notedBy (model pw w) A env λe s'=>R (.error e) s') s₃
      else∃m,m<n∧I m s₃) (notedBy (model pw w) A env λe s'=>R (.error e) s') s₂) (notedBy (model pw w) A env λe s'=>R (.error e) s') s₁') (notedBy (model pw w) A env λe s'=>R (.error e) s') s₁) (notedBy (model pw w) A env λe s'=>R (.error e) s') s
noncomputable def wm(e:Expr)(d:Nat)(elt target:Expr)(ifs:List Expr):Prop:=∀(A:Around)(w:World)(it acc:Value)(env:Env)(R:Result→Shared→Prop)(I:Nat→Shared→Prop),IN A w elt target ifs it acc env R I→∀n s,I n s→codeAny (model pw w) A (.compLoop e d it acc env) R s
theorem El{elt target iter:Expr}{ifs:List Expr}{scope:Scope}{pos:Pos}:wm (.ListComp elt [⟨target,iter,ifs,0⟩] scope pos) 0 elt target ifs:=λA w it acc env R I turn n s h=>by refine Ca rfl I (λn s hI=>?_) n h;show wpAny _ A ((compTurn (.ListComp elt [⟨target,iter,ifs,0⟩] scope pos) 0 it acc env).onRaise (λx=>do noteFrame x env;theTreesLotGoes x)) _ _ s;refine H0 ?_;rw[compTurn_list];exact Hv (c:=.compLoop (.ListComp elt [⟨target,iter,ifs,0⟩] scope pos) 0 it acc env) (G:=λs'=>R (.ok .next) s') (J:=λs'=>∃m,m<n∧I m s') (λ_=>Iff.rfl) (λ_ h=>⟨rfl,h⟩) (turn n s hI)
theorem Kx(elt target iter t0 i0:Expr)(ifs:List Expr)(scope:Scope)(pos:Pos)(it acc:Value)(env:Env):
  compTurn (.ListComp elt [⟨t0,i0,[],0⟩,⟨target,iter,ifs,0⟩] scope pos) 1 it acc env=(do
   standAt iter.pos
   match←pyNext it with
   |none=>pure (.done .next)
   |some v=>
    letOwnedTupleGo target it v
    assign target env v
    let mut ok:=true
    for c in ifs do
     if ok then ok←isTrue c env (eval c env)
    if ok then
     (do let _←call (.builtin "list.append") [acc,←eval elt env])
    again (.compLoop (.ListComp elt [⟨t0,i0,[],0⟩,⟨target,iter,ifs,0⟩] scope pos) 1 it acc env)):=by rfl
theorem PU{elt target iter t0 i0:Expr}{ifs:List Expr}{scope:Scope}{pos:Pos}:wm (.ListComp elt [⟨t0,i0,[],0⟩,⟨target,iter,ifs,0⟩] scope pos) 1 elt target ifs:=λA w it acc env R I turn n s h=>by refine Ca rfl I (λn s hI=>?_) n h;show wpAny _ A ((compTurn (.ListComp elt [⟨t0,i0,[],0⟩,⟨target,iter,ifs,0⟩] scope pos) 1 it acc env).onRaise (λx=>do noteFrame x env;theTreesLotGoes x)) _ _ s;refine H0 ?_;rw[Kx];exact Hv (c:=.compLoop (.ListComp elt [⟨t0,i0,[],0⟩,⟨target,iter,ifs,0⟩] scope pos) 1 it acc env) (G:=λs'=>R (.ok .next) s') (J:=λs'=>∃m,m<n∧I m s') (λ_=>Iff.rfl) (λ_ h=>⟨rfl,h⟩) (turn n s hI)
inductive jz(cx:Cx)(sl:List Str)(W V:Addr→Prop)(p:Pt)(fp:List Addr)(Sv:Nat→Heap→Prop)(D:Addr)(s:Shared)(m:List (List RV)→List RV→Fm (List RV))(xs:List (List RV))(G:List RV→St→Prop):Nat→Shared→Prop
 |mk {q:Pt} {tk:Tok} {i:Nat} {acc:List RV}:Lp cx sl W V p fp Sv xs.length q i→eC cx W D q acc→bO (m (xs.drop i) acc q.σ) G→jz cx sl W V p fp Sv D s m xs G (xs.length-i) (Sh s q.h tk)
section
variable{cx:Cx}{sl:List Str}{W V:Addr→Prop}{p q:Pt}{fp wr:List Addr}{Sv:Nat→Heap→Prop}{D:Addr}{s:Shared}{m:List (List RV)→List RV→Fm (List RV)}{xs:List (List RV)}{G:List RV→St→Prop}{i:Nat}{A:Around}
theorem jz.next{tk:Tok}{acc:List RV}(c:i<xs.length)(L:Lp cx sl W V p fp Sv xs.length q (i+1))(d:eC cx W D q acc)(z:bO (m (xs.drop (i+1)) acc q.σ) G):∃k,k<xs.length-i∧jz cx sl W V p fp Sv D s m xs G k (Sh s q.h tk):=⟨_,A8 c (eN i),.mk L d z⟩
theorem CB{elt:Expr}{me:Fm RV}(he:∀X1,aH (cx.st X1) sl (eval elt cx.env) me)(ar:AR cx A)(hV:∀b,V b→W b)(hVD:V D)(hDf:D∉fp)(fr:∀i h h',Sv i h→(∀b∈fp,∀o,h.get? b=some o→h'.get? b=some o)→Sv i h')(c:i<xs.length)
  (L:Lp cx sl W V p fp Sv xs.length q (i+1))(f:ki cx W q.h q.M q.σ.H fp){acc:List RV}(d:eC cx W D q acc)(z:bO (nE me acc (m (xs.drop (i+1))) q.σ) G){tk:Tok}{E1 E2:Value→Shared→Prop}:
  wpAny (model pw cx.w) A (eval elt cx.env) (λx s₄=>wpAny (model pw cx.w) A (call (.builtin "list.append") [.ref D,x]) (λ_ s₅=>∃k,k<xs.length-i∧jz cx sl W V p fp Sv D s m xs G k s₅) E1 s₄) E2 (Sh s q.h tk):=by
 refine he (cx.hidS W).X0 q A s tk _ _ ⟨ar.rm,ar.fr⟩ L.r (z.bd.res λa x h5 M5 σ5 tk5 o5 r5 z5=>?_);have L5:=L.ext f fr o5;have f5:=f.up o5.e;have d5:=d.ext o5 (L.w D (hV D hVD));have z5:=z5.gd;cases d5 with
 |mk D5 rD=>refine WS (s:=Sh s h5 tk5) ⟨_,D5⟩ (λh6 hp hsb=>?_) (by rw[bM,Z2.length rD];exact aJ (f8 (gv z5.1)) (by unfold sizeLine;decide));obtain⟨k',e'⟩:=hp;have S:=L5.step (h':=h6) (j:=i+1) hV (λ_ z=>z) (λb o nw e=>fW hsb (λz=>nw (z▸hVD)) e) (f7 hsb.1.symm) (fr _ _ _ L5.st λb hb o e=>fW hsb (λz=>hDf (z▸hb)) e) L5.le id;exact jz.next (q:=⟨h6,M5,σ5⟩) c S.1 (.mk (e'.trans (by rw[List.push_toArray])) (a9.up (iW hV S.2) (λ_ _ e=>e) (Z2.append rD (.cons r5 .nil)))) z5.2
theorem eC.turn{acc:List RV}{i:Nat}{is:List Nat}{y:List RV}{h3:Heap}(d:eC cx W D q acc)(hwr:∀b∈wr,W b)(w:WO cx q.h q.M q.σ.H D)(n:D∉wr)(e3:HX (λb=>cx.T0 b∨b∈wr) q.h q.M q.σ.H h3 q.M q.σ.H):eC cx W D ⟨h3,q.M,⟨dY q.σ.loc is y,q.σ.H⟩⟩ acc:=d.up (q':=⟨h3,q.M,⟨dY q.σ.loc is y,q.σ.H⟩⟩) hwr e3 w n
theorem y0(K0:bq cx){e elt target:Expr}{d:Nat}{ifs:List Expr}(L:wm e d elt target ifs){ts:List (Str×Pos)}{is:List Nat}{me:Fm RV}{mt:Option (Fm RV)}(hts:lU cx sl ts is)
  (he:∀X1,aH (cx.st X1) sl (eval elt cx.env) me)
  (ht:(ifs=[]∧mt=none)∨∃c t,ifs=[c]∧mt=some t∧∀X1,dM (cx.st X1) sl (isTrue c cx.env (eval c cx.env)) (bP t)):mV cx sl e d target ts (fC is mt me):=by
 intro A p s tk I D W fp wr Sv xs h0 X M acc0 G R' ar L0 Wv u0 m0 hwr hWD hDf hDw D0 z hR;have hV:∀b,(b∈wr∨b=D)→W b:=λb z=>z.elim (hwr b) λz=>z▸hWD;refine L A cx.w (.ref I) (.ref D) cx.env R' (jz cx sl W (λb=>b∈wr∨b=D) p fp Sv D s (fC is mt me) xs G) (λm s' hI=>?_) xs.length _ (.mk L0 D0 z);cases hI with
 | @mk q tk i acc Lq Dq zq=>
  rcases mW i xs.length with c|c
  ·have hDf:=hDf (eX (f9 _) c);have g:∀{y},ae xs i=some y→_:=λ{y} hy=>bO.gd (c:=Nat.beq y.length is.length) (f:=λst=>mt.casesOn (nE me acc (fC is mt me (xs.drop (i+1))) ⟨dY st.loc is y,st.H⟩) λc=>(bP c ⟨dY st.loc is y,st.H⟩).bind λt st'=>cond t (nE me acc (fC is mt me (xs.drop (i+1))) st') (fC is mt me (xs.drop (i+1)) acc st')) (xF hy▸zq);refine Lp.turn K0 ar.rm.hand Wv hts hwr (λb=>.inl) (u0.trans (iW hV Lq.e)) (λi a e=>Lq.e.sp i a (m0 i a e)) Lq c (λy hy=>(g hy).1) λy h3 tk3 hy L3 f3 e3=>?_;have D3:=Dq.turn (i:=i) (is:=is) (y:=y) hwr (Lq.w D hWD) hDw e3;have z3:=(g hy).2;rcases ht with⟨rfl,rfl⟩|⟨cc,t,rfl,rfl,ht⟩
   ·refine wpAny_tests_nil ?_;rw[bF rfl];exact CB he ar hV (.inr rfl) hDf Wv.frame c L3 f3 D3 z3
   ·refine wpAny_tests_one ?_;refine ht (cx.hidS W).X0 _ A s tk3 _ _ ⟨ar.rm,ar.fr⟩ L3.r (bO.res (bO.bd z3) λb b' h4 M4 σ4 tk4 o4 rb z4=>?_);subst rb;have L4:=L3.ext f3 Wv.frame o4;have D4:=D3.ext o4 (L3.w D hWD);cases b with
    |true=>rw[bF rfl];exact CB (q:=⟨h4,M4,σ4⟩) he ar hV (.inr rfl) hDf Wv.frame c L4 (f3.up o4.e) D4 z4
    |false=>rw[bQ (by decide)];exact jz.next (q:=⟨h4,M4,σ4⟩) c L4 D4 z4
  ·cases tA Lq.le c;refine gE (Wv.done _ _ _ Lq.st λh' tk' keep sz'=>?_);have S:=Lq.r.stepS Lq.w (V:=(·∈wr)) (h':=h') hwr (λb o nw e=>keep b o nw e) sz';rw[wo] at zq;exact hR ⟨h',q.M,q.σ⟩ tk' acc S.2 (Lq.w.up S.1) (Lq.e.trans (S.1.moreT λb z=>z.imp id .inl)) (Dq.up hwr S.1 (Lq.w D hWD) hDw) zq
theorem Kw(elt target iter t0 i0:Expr)(ifs:List Expr)(scope:Scope)(pos:Pos)(it acc:Value)(env:Env):
  compTurn (.ListComp elt [⟨t0,i0,[],0⟩,⟨target,iter,ifs,0⟩] scope pos) 0 it acc env=(do
   standAt i0.pos
   match←pyNext it with
   |none=>pure (.done .next)
   |some v=>
    letOwnedTupleGo t0 it v
    assign t0 env v
    let x←eval iter env
    standAt iter.pos
    let x←foldedSetIterable iter env x;let _←runOwn (.compStart (.ListComp elt [⟨t0,i0,[],0⟩,⟨target,iter,ifs,0⟩] scope pos) 1 (←holding [x] (pyIter x)) acc env) env
    again (.compLoop (.ListComp elt [⟨t0,i0,[],0⟩,⟨target,iter,ifs,0⟩] scope pos) 0 it acc env)):=by rfl
theorem Kv{A:Around}{s:Shared}{w:World}{R:Result→Shared→Prop}{elt target iter t0 i0:Expr}{ifs:List Expr}{scope:Scope}{pos:Pos}{it acc:Value}{env:Env}
  (h0:codeAny (model pw w) A (.compLoop (.ListComp elt [⟨t0,i0,[],0⟩,⟨target,iter,ifs,0⟩] scope pos) 1 it acc env) R s)
  (h:wpAny (model pw w) A (pyIter it) (λit' s'=>codeAny (model pw w) A (.compLoop (.ListComp elt [⟨t0,i0,[],0⟩,⟨target,iter,ifs,0⟩] scope pos) 1 it' acc env) R s')
   (notedBy (model pw w) A env λx s'=>R (.error x) s') s):
  codeAny (model pw w) A (.compStart (.ListComp elt [⟨t0,i0,[],0⟩,⟨target,iter,ifs,0⟩] scope pos) 1 it acc env) R s:=by
 refine codeAny_of_tree ?_;show wpAny _ _ ((compStart (.ListComp elt [⟨t0,i0,[],0⟩,⟨target,iter,ifs,0⟩] scope pos) 1 it acc env).onRaise (λx=>do noteFrame x env;standAt theWindowsPlace)) _ _ s;refine wpAny_notedAt ?_;unfold compStart;show wpAny _ _ (ask>>=_) _ _ s;refine ah (Am (wpAny_ite ?_));split
 ·first
   |exact ah (aQ (aQ (au rfl h0)))
   |exact aQ (au rfl h0)
 ·first
   |exact ah (sN (ah (iJ (ah (dZ h (λit' s' h'=>aQ (au rfl h')) λ_ _ x=>x)))))
   |(refine ah (sN ?_);show wpAny _ _ (standAt iter.pos>>=_) _ _ s;exact ah (iJ (ah (dZ h (λit' s' h'=>aQ (au rfl h')) λ_ _ x=>x))))
abbrev IP(A:Around)(w:World)(e target t1 i1:Expr)(it acc:Value)(env:Env)(R:Result→Shared→Prop)(I:Nat→Shared→Prop):Prop:=∀n s,I n s→wpAny (model pw w) A (pyNext it) (λr s₁=>match r with
   |none=>R (.ok .next) s₁
   |some v=>wpAny (model pw w) A (letOwnedTupleGo target it v) (λ_ s₁'=>wpAny (model pw w) A (assign target env v) (λ_ s₂=>
     wpAny (model pw w) A (eval i1 env) (λx s₃=>wpAny (model pw w) A (pyIter x) (λit' s₄=>codeAny (model pw w) A (.compStart e 1 it' acc env) (λr s₅=>r=.ok .next∧∃m,m<n∧I m s₅) s₄)
      (notedBy (model pw w) A env λe s'=>R (.error e) s') s₃) (notedBy (model pw w) A env λe s'=>R (.error e) s') s₂)
     (notedBy (model pw w) A env λe s'=>R (.error e) s') s₁') (notedBy (model pw w) A env λe s'=>R (.error e) s') s₁) (notedBy (model pw w) A env λe s'=>R (.error e) s') s
theorem QI{elt t1 i1 t0 i0:Expr}{ifs:List Expr}{scope:Scope}{pos:Pos}{A:Around}{w:World}{it acc:Value}{env:Env}{R:Result→Shared→Prop}{I:Nat→Shared→Prop}(hf:∀v,foldedSetIterable i1 env v=pure v)
  (turn:IP A w (.ListComp elt [⟨t0,i0,[],0⟩,⟨t1,i1,ifs,0⟩] scope pos) t0 t1 i1 it acc env R I):∀n s,I n s→codeAny (model pw w) A (.compLoop (.ListComp elt [⟨t0,i0,[],0⟩,⟨t1,i1,ifs,0⟩] scope pos) 0 it acc env) R s:=λn s h=>by
 refine Ca rfl I (λn s hI=>?_) n h;show wpAny _ A ((compTurn (.ListComp elt [⟨t0,i0,[],0⟩,⟨t1,i1,ifs,0⟩] scope pos) 0 it acc env).onRaise (λx=>do noteFrame x env;theTreesLotGoes x)) _ _ s;refine H0 ?_;rw[Kw];refine ah (iJ (ah (dZ (turn n s hI) (λr s₁ h₁=>?_) λ_ _ h'=>h')));cases r with
 |none=>exact aQ h₁
 |some v=>refine ah (dZ h₁ (λ_ s₁' h₁'=>?_) λ_ _ h'=>h');refine ah (dZ h₁' (λ_ s₂ h₂=>?_) λ_ _ h'=>h');refine ah (dZ h₂ (λx s₃ h₃=>?_) λ_ _ h'=>h');refine ah (iJ (ah (H8 (hf x) ?_)));refine ah (fZ (dZ h₃ (λit' s₄ h₄=>?_) λ_ _ h'=>h'));refine ah (wpAny_runOwn (Cb h₄ λr s₅ h₅=>?_));obtain⟨rfl,h₅⟩:=h₅;exact aQ ⟨rfl,h₅⟩
theorem uy(cx:Cx)(W V:Addr→Prop):(cx.hidS W).hidS V=cx.hidS λb=>W b∨V b:=congrArg cx.st (funext λb=>propext or_assoc)
theorem bO.resW{t:Expr}{ts:List (Str×Pos)}{r:Rs (List (List RV))}{G:List (List RV)→St→Prop}{Q E:Value→Shared→Prop}(z:bO r G)
  (h:∀xs σ I h1 h' M' tk fp wr Sv,Ok cx sl p ⟨h',M',σ⟩→mZ cx ⟨h',M',σ⟩ A I h1 xs t ts fp wr Sv→G xs σ→Q (.ref I) (Sh s h1 tk)):dL cx sl p s A t ts r Q E:=by
 cases r with
 |bad=>exact z
 |err=>exact False.elim z
 |ok xs σ=>exactλI h1 h' M' tk fp wr Sv o S=>h xs σ I h1 h' M' tk fp wr Sv o S z
theorem Qt(K0:bq cx){elt t1 i1 t0 i0:Expr}{scope:Scope}{pos:Pos}{ts ts1:List (Str×Pos)}{is is1:List Nat}{me:Fm RV}{mu:Fm (List (List RV))}(hf:∀v,foldedSetIterable i1 cx.env v=pure v)(hts:lU cx sl ts is)
  (hu:∀X1,h8 (cx.st X1) sl i1 mu t1 ts1)(hin:mV cx sl (.ListComp elt [⟨t0,i0,[],0⟩,⟨t1,i1,[],0⟩] scope pos) 1 t1 ts1 (fC is1 none me)):
  mV cx sl (.ListComp elt [⟨t0,i0,[],0⟩,⟨t1,i1,[],0⟩] scope pos) 0 t0 ts (iU is is1 mu me):=by
 intro A p s tk I D W fp wr Sv xs h0 X M acc0 G R' ar L0 Wv u0 m0 hwr hWD hDf hDw D0 z hR;have hV:∀b,(b∈wr∨b=D)→W b:=λb z=>z.elim (hwr b) λz=>z▸hWD;refine QI (I:=jz cx sl W (λb=>b∈wr∨b=D) p fp Sv D s (iU is is1 mu me) xs G) hf (λm s' hI=>?_) xs.length _ (.mk L0 D0 z);cases hI with
 | @mk q tk i acc Lq Dq zq=>
  rcases mW i xs.length with c|c
  ·have hDf:=hDf (eX (f9 _) c);have g:∀{y},ae xs i=some y→_:=λ{y} hy=>bO.gd (c:=Nat.beq y.length is.length) (f:=λst=>(mu ⟨dY st.loc is y,st.H⟩).bind λys st'=>(fC is1 none me ys acc st').bind λacc' dC=>iU is is1 mu me (xs.drop (i+1)) acc' dC) (xF hy▸zq);refine Lp.turn K0 ar.rm.hand Wv hts hwr (λb=>.inl) (u0.trans (iW hV Lq.e)) (λi a e=>Lq.e.sp i a (m0 i a e)) Lq c (λy hy=>(g hy).1) λy h3 tk3 hy L3 f3 e3=>?_;have D3:=Dq.turn (i:=i) (is:=is) (y:=y) hwr (Lq.w D hWD) hDw e3;refine hu (cx.hidS W).X0 _ A s tk3 _ _ ⟨ar.rm,ar.fr⟩ L3.r ((g hy).2.bd.resW λys σ4 I2 h1 h4 M4 tk4 fp2 wr2 Sv2 o4 S z4=>?_);have L4:=L3.ext f3 Wv.frame o4;have f4:=f3.up o4.e;have w4:WO cx h4 M4 σ4.H D:=L4.w D hWD;have D4:=D3.ext o4 (L3.w D hWD);have H:=L4.r.hideS (W:=(·∈wr2)) S.k1 S.sz S.hW;have R5:SR (cx.hidS λb=>W b∨b∈wr2) sl ⟨h1,M4,σ4⟩:=uy cx W (·∈wr2)▸H.1;have u5:Up h4 (HA (cx.hidS W).X M4 σ4.H) h1 (HA (cx.hidS λb=>W b∨b∈wr2).X M4 σ4.H):=uy cx W (·∈wr2)▸H.2.2;have w5:gn cx (λb=>W b∨b∈wr2) h1 M4 σ4.H:=λb z=>z.elim (λz=>have w:=L4.w b z;⟨dK w.lt S.sz,w.nF,w.nA,w.nL⟩) λz=>have w:=H.2.1 b z;⟨w.lt,w.nF,w.nA,w.nL⟩;have nw:D∉wr2:=λz=>absurd w4.lt (Nat.not_lt.mpr (S.hW D z).1)
   have loop:codeAny (model pw cx.w) A (.compLoop (.ListComp elt [⟨t0,i0,[],0⟩,⟨t1,i1,[],0⟩] scope pos) 1 (.ref I2) (.ref D) cx.env) (λr s₅=>r=.ok .next∧∃k,k<xs.length-i∧jz cx sl W (λb=>b∈wr∨b=D) p fp Sv D s (iU is is1 mu me) xs G k s₅) (Sh s h1 tk4):=by
    refine hin A ⟨h1,M4,σ4⟩ s tk4 I2 D (λb=>W b∨b∈wr2) fp2 wr2 Sv2 ys h4 (HA (cx.hidS W).X M4 σ4.H) M4 acc _ _ ar ⟨R5,w5,HX.refl,S.st,λc b hb=>(S.hfp c b hb).imp .inr λz=>⟨λt=>z.1 (t.elim (λt=>.inl (.inr t)) λt=>.inr (t.imp .inl id)),z.2⟩,f9 _⟩ S.wk u5 (λ_ _ e=>e) (λb z=>.inr z) (.inl hWD) (λc z=>(S.hfp c D z).elim nw λz=>z.1 (.inl (.inl (.inr hWD)))) nw
     (eC.rec (motive:=λ_=>eC cx _ D ⟨h1,M4,σ4⟩ acc) (λa b=>.mk (S.k1 _ _ a) (a9.up u5 (λ_ _ e=>e) b)) D4) z4.bd λq6 tk6 acc6 R6 w6 e6 D6 z6=>?_
    ·have U:=SR.unhideS (cx:=cx.hidS W) (W:=(·∈wr2)) (p:=q6) ((uy cx W (·∈wr2)).symm▸R6);have e7:HX (λb=>cx.T0 b∨b=D) h4 M4 σ4.H q6.h q6.M q6.σ.H:=e6.lessT S.k1 S.sz λb z=>z.elim (λz=>.inl (.inl z)) λz=>z.elim (λz=>.inr (S.hW b z).1) λz=>.inl (.inr z);have u7:Up q6.h (HA (cx.hidS λb=>W b∨b∈wr2).X q6.M q6.σ.H) q6.h (HA (cx.hidS W).X q6.M q6.σ.H):=uy cx W (·∈wr2)▸U.2;exact⟨rfl,jz.next c ⟨U.1,λb z=>w6 b (.inl z),L4.e.trans (e7.moreT λb z=>z.imp id .inr),Wv.frame _ _ _ L4.st λb hb o e=>e7.keep b o e λz=>z.elim (λz=>z.elim (λz=>f4.no L4.w hb (.inl z)) λz=>hDf (z▸hb)) λz=>f4.no L4.w hb (.inr z),λ_=>f4.up e7,L4.le⟩
      (eC.rec (motive:=λ_=>eC cx W D q6 acc6) (λa b=>.mk a (a9.up u7 (λ_ _ e=>e) b)) D6) z6⟩
   exact Kv loop (S.wk.self 0 _ _ _ S.st loop)
  ·cases tA Lq.le c;refine gE (Wv.done _ _ _ Lq.st λh' tk' keep sz'=>?_);have S:=Lq.r.stepS Lq.w (V:=(·∈wr)) (h':=h') hwr (λb o nw e=>keep b o nw e) sz';rw[wo] at zq;exact hR ⟨h',q.M,q.σ⟩ tk' acc S.2 (Lq.w.up S.1) (Lq.e.trans (S.1.moreT λb z=>z.imp id .inl)) (Dq.up hwr S.1 (Lq.w D hWD) hDw) zq
end
end
section
open PySem.SeqAt
noncomputable abbrev eB(cx:Cx)(C:Addr)(env:Env):Cx:={cx with X0:=λb=>cx.X b,T0:=λb=>b=C,env:=env}
noncomputable def d9(loc:List (Option RV)):List Nat→List (Option RV)
 |[]=>[]
 |i::is=>(ae loc i).getD none::d9 loc is
theorem xf(loc:List (Option RV)):∀is,(d9 loc is).length=is.length
 |[]=>rfl
 |_::is=>congrArg (·+1) (xf loc is)
theorem xg{loc:List (Option RV)}:∀{is:List Nat}{j:Nat}{x:RV},ae (d9 loc is) j=some (some x)→∃i,ae is j=some i∧ae loc i=some (some x)
 |[],_,_,e=>nS e
 |i::is,0,x,e=>⟨i,rfl,by
  have e:(ae loc i).getD none=some x:=ak e;cases q:ae loc i with
  |none=>rw[q] at e;exact nS e
  |some y=>rw[q] at e;exact congrArg some e⟩
 |_::is,j+1,x,e=>xg (is:=is) (j:=j) e
noncomputable def gy:Nat→List (Option RV)→List (Option RV)
 |0,l=>l
 |k+1,l=>none::gy k l
theorem za:∀(k:Nat)(l:List (Option RV)),(gy k l).length=k+l.length
 |0,l=>(mY _).symm
 |k+1,l=>(congrArg (·+1) (za k l)).trans (Nat.add_right_comm k l.length 1)
theorem zb:∀{k:Nat}{l:List (Option RV)}{j:Nat}{x:RV},ae (gy k l) j=some (some x)→k≤j∧ae l (j-k)=some (some x)
 |0,_,_,_,e=>⟨f9 _,e⟩
 |k+1,l,0,x,e=>nS (ak e)
 |k+1,l,j+1,x,e=>
  have:=zb (k:=k) (l:=l) (j:=j) (x:=x) e
  ⟨A9 this.1,by rw[Nat.succ_sub_succ];exact this.2⟩
noncomputable def fj(k:Nat)(caps:List Nat)(go:List (List RV)→List RV→Fm (List RV))(xs:List (List RV)):Fm RV:=λst=>(go xs [] ⟨gy k (d9 st.loc caps),st.H⟩).noErr.bind λacc st'=>aj (bY acc) (λr _=>.ok (.v (.lst r)) ⟨st.loc,st'.H⟩) st'
section
variable{cx:Cx}{sl sl':List Str}{p q:Pt}{W:Addr→Prop}{C:Addr}{env':Env}
theorem SR.inner(R:SR (cx.hidS W) sl p)(w:gn cx W p.h p.M p.σ.H){h1:Heap}(k:∀b o,p.h.get? b=some o→h1.get? b=some o)(sz:p.h.objs.size≤h1.objs.size)(hC:p.h.objs.size≤C∧C<h1.objs.size){m0:Str→Option Value}(hns:h1.Ns C m0)(hl:env'.locals=C)
  (hcells:∀x c,env'.cells.lookup x=some c→∃y,cx.env.cells.lookup y=some c)(hapart:∀x y c,env'.cells.lookup x=some c→env'.cells.lookup y=some c→x=y)(hdup:∀i j nm,ae sl' i=some nm→ae sl' j=some nm→i=j)
  {loc':List (Option RV)}(hlen:loc'.length=sl'.length)
  (hvars:∀i x,ae loc' i=some (some x)→∃nm j c,ae sl' i=some nm∧ae sl j=some nm∧ae p.σ.loc j=some (some x)∧(env'.kindOf nm=some .cell∨(env'.kindOf nm=some .free∧(nm==("__classdict__":Str))=false))∧env'.cells.lookup nm=some c∧cx.env.cells.lookup nm=some c∧cx.env.kindOf nm≠some .local):
  SR ((eB cx C env').hidS W) sl' ⟨h1,p.M,⟨loc',p.σ.H⟩⟩∧gn (eB cx C env') W h1 p.M p.σ.H∧Up p.h (HA (cx.hidS W).X p.M p.σ.H) h1 (HA ((eB cx C env').hidS W).X p.M p.σ.H):=have g:=R.toHR.same (X':=((eB cx C env').hidS W).X) (D:=cA) (λb o _=>k b o) (λ_ z=>z.elim) sz λb z=>z.elim (λz=>z.elim (λz=>.inl (z.imp .inl id)) λz=>.inl (.inl (.inr z))) λ(z:b=C)=>.inr (z▸hC);have fa:∀{b},FA (eB cx C env').T0 env' cx.fr b→b=C∨FA cx.T0 cx.env cx.fr b:=λf=>f.imp id λf=>.inr (f.imp (λ⟨x,e⟩=>hcells x _ e) id);have old:∀{b},b<p.h.objs.size→b≠C:=λl z=>absurd l (Nat.not_lt.mpr (z▸hC.1));have nx:∀{a},a<p.h.objs.size→¬(cx.hidS W).X a→¬((eB cx C env').hidS W).X a:=λl n z=>z.elim (λz=>n (z.elim (λz=>z.imp .inl id) λz=>.inl (.inr z))) (old l)
 ⟨⟨g.1,⟨hdup,hl,hapart,λb f=>(fa f).elim (λz=>z▸λt=>R.toHR.new hC.1 (.inr (.inl (.inl t)))) (R.c.offA b),R.c.frK,λe m L q t=>Eq.trans (show L=C from t) hl.symm⟩,
  λi x q=>(hvars i x q).elim λnm z=>z.elim λj z=>z.elim λc z=>(R.vars j x z.2.2.1).of λnm' v f1 f2 f3=>by
   cases z.2.1.symm.trans f1;refine .mk z.1 (.cell z.2.2.2.1 z.2.2.2.2.1 ?_) (RR.up g.2 (λ_ _ e=>e) f3);cases f2 with
   |loc a _ _=>exact absurd a z.2.2.2.2.2.2
   |cell _ g1 g2=>cases z.2.2.2.2.2.1.symm.trans g1;exact uC (λo=>k _ o) g2,
  ⟨m0,hl.symm▸hns⟩,hlen,λx c e=>(hcells x c e).elim λy e=>(R.cells y c e).imp λv hv=>uC (λo=>k _ o) hv,λb l f=>(fa f).elim (λz=>R.toHR.new (z▸hC.1) (.inr (.inr l))) (R.off b l),
  λe m L q=>(R.frs e m L q).imp λo h=>⟨k _ _ h.1,h.2⟩,λi a c e=>⟨nx (R.toHR.mlt i a e).1 (R.nx i a c e).1,nx (R.toHR.mlt i a e).2 (R.nx i a c e).2⟩⟩,
  λb z=>have w:=w b z;⟨dK w.lt sz,λf=>(fa f).elim (old w.lt) w.nF,w.nA,w.nL⟩,g.2⟩
theorem SR.outer(R:SR (cx.hidS W) sl p)(w:gn cx W p.h p.M p.σ.H){h1:Heap}(k:∀b o,p.h.get? b=some o→h1.get? b=some o)(sz:p.h.objs.size≤h1.objs.size)(hC:p.h.objs.size≤C∧C<h1.objs.size)(Rq:SR ((eB cx C env').hidS W) sl' q)
  (e:HX (λb=>b=C∨W b) h1 p.M p.σ.H q.h q.M q.σ.H):
  SR (cx.hidS (Is C)) sl ⟨q.h,q.M,⟨p.σ.loc,q.σ.H⟩⟩∧gn cx (Is C) q.h q.M q.σ.H∧Up q.h (HA ((eB cx C env').hidS W).X q.M q.σ.H) q.h (HA (cx.hidS (Is C)).X q.M q.σ.H):=have xi:∀b,(cx.hidS (Is C)).X b→((eB cx C env').hidS W).X b:=λb z=>z.elim (λz=>z.elim (λz=>.inl (.inl (.inl z))) .inr) λz=>.inl (.inl (.inr z));have g:=Rq.toHR.same (X':=(cx.hidS (Is C)).X) (D:=cA) (λb o _ e=>e) (λ_ z=>z.elim) (bw _) λb z=>.inl (xi b z);have old:∀{b},b<p.h.objs.size→b≠C:=λl z=>absurd l (Nat.not_lt.mpr (z▸hC.1));have keep:∀b o,p.h.get? b=some o→¬W b→¬cX b→¬bn p.M p.σ.H b→q.h.get? b=some o:=λb o q1 nw na nl=>e.keep b o (k b o q1) λz=>z.elim (λz=>z.elim (old (b9 q1)) nw) λz=>z.elim na nl;have lv:∀b,bn q.M q.σ.H b→bn p.M p.σ.H b∨p.h.objs.size≤b:=λb z=>(e.live b z).imp id (aJ sz)
 have u:Up p.h (HA (cx.hidS W).X p.M p.σ.H) q.h (HA (cx.hidS (Is C)).X q.M q.σ.H):=⟨λb o q1 n=>keep b o q1 (λz=>n (.inl (.inl (.inr z)))) (λz=>n (.inr (.inl (.inl z)))) λz=>n (.inr (.inr z)),
  λb o q1 n z=>z.elim (λz=>z.elim (λz=>z.elim (λz=>n (.inl (.inl (.inl z)))) (old (b9 q1))) λz=>n (.inl (.inr z))) λz=>z.elim (λz=>n (.inr (.inl z))) λz=>(lv b z).elim (λz=>n (.inr (.inr z))) (iE q1)⟩
 ⟨R.mv (X1:=(cx.hidS (Is C)).X0) g.1 u e.sp (λb o f q1=>keep b o q1 (λz=>(w b z).nF (R.fk f)) (R.c.offA b (R.fk f)) λz=>R.off b z (R.fk f)) (λb z=>(lv b z).imp id λz f=>absurd (R.faLt f) (Nat.not_lt.mpr z)) λi a c z=>⟨λt=>(Rq.nx i a c z).1 (xi _ t),λt=>(Rq.nx i a c z).2 (xi _ t)⟩,
  λb z=>by cases (show b=C from z);exact⟨dK hC.2 e.size,λf=>absurd (R.faLt f) (Nat.not_lt.mpr hC.1),λt=>R.toHR.new hC.1 (.inr (.inl (.inl t))),λl=>Rq.off C l (.inl rfl)⟩,g.2⟩
structure jA(cx:Cx)(sl:List Str)(scope:Scope)(cl:List (Str×Addr))(own:List Str)(caps:List Nat)(names:List Str):Prop where
 kind:scope.kind=.function
 noCell:∀y∈scope.names,y.2≠.cell
 locs:∀y∈scope.names,y.2=.local→scope.names.lookup y.1=some .local
 ownL:∀x∈own,scope.names.lookup x=some .local
 clos:closureFor scope cx.env=pure cl
 cells:∀y c,cl.lookup y=some c→∃z,cx.env.cells.lookup z=some c
 apart:∀y z c,cl.lookup y=some c→cl.lookup z=some c→y=z
 dup:∀i j nm,ae (own++names) i=some nm→ae (own++names) j=some nm→i=j
 len:caps.length=names.length
 cap:∀j i nm,ae caps j=some i→ae names j=some nm→ae sl i=some nm∧((relabel scope cx.env).names.lookup nm=some .cell∨((relabel scope cx.env).names.lookup nm=some .free∧(nm==("__classdict__":Str))=false))∧(∃c,cl.lookup nm=some c∧cx.env.cells.lookup nm=some c)∧cx.env.kindOf nm≠some .local
variable{scope:Scope}{cl:List (Str×Addr)}{own names:List Str}{caps:List Nat}{A:Around}{s:Shared}{elt t0 i0:Expr}{ifs0:List Expr}{gs:List Comprehension}{pos:Pos}{ts:List (Str×Pos)}{mgo:List (List RV)→List RV→Fm (List RV)}{mu:Fm (List (List RV))}
theorem jA.inner(CO:jA cx sl scope cl own caps names)(K0:bq cx)(C:Addr):bq (eB cx C (compEnvC scope cl C cx.env)):=⟨CO.kind,K0.glob,K0.bltn,K0.says⟩
structure Ip(cx:Cx)(sl:List Str)(p q:Pt)(C D:Addr)(r:List AV):Prop where
 sr:SR (cx.hidS (Is C)) sl q
 w:WO cx q.h q.M q.σ.H C
 e:c8 cx p q
 le:p.h.objs.size≤C
 ns:∃m,q.h.Ns C m
 v:VR cx.w.params q.h (HA (cx.hidS (Is C)).X q.M q.σ.H) (.ref D) (.lst r)
theorem Cd(K0:bq cx)(CO:jA cx sl scope cl own caps names)
  (hloop:∀C,mV (eB cx C (compEnvC scope cl C cx.env)) (own++names) (.ListComp elt (⟨t0,i0,ifs0,0⟩::gs) scope pos) 0 t0 ts mgo)
  {E:Value→Shared→Prop}(ar:AR cx A)(R:SR cx sl p){I:Addr}{h0:Heap}{xs:List (List RV)}{fp wr:List Addr}{Sv:Nat→Heap→Prop}(S:mZ cx p A I h0 xs t0 ts fp wr Sv){tk:Tok}{G:List AV→List ac→Prop}(z:bO (mgo xs [] ⟨gy own.length (d9 p.σ.loc caps),p.σ.H⟩) λacc σ=>∃r,bY acc=some r∧G r σ.H)
  {RR':Value→Addr→Result→Shared→Prop}
  (hR:∀(h':Heap)(M':Sp)(H':List ac)(C D:Addr)(tk:Tok)(r:List AV),Ip cx sl p ⟨h',M',⟨p.σ.loc,H'⟩⟩ C D r→G r H'→RR' (.ref D) C (.ok .next) (Sh s h' tk)):
  wpAny (model pw cx.w) A (newList []) (λacc s₃=>wpAny (model pw cx.w) A (newFunctionEnv scope cx.env.globals cl [] cx.env.qual none .none (some cx.env)) (λcenv s₄=>codeAny (model pw cx.w) A (.compStart (.ListComp elt (⟨t0,i0,ifs0,0⟩::gs) scope pos) 0 (.ref I) acc {cenv with scope:=relabel scope cx.env}) (RR' acc cenv.locals) s₄) E s₃) E (Sh s h0 tk):=by
 refine sM (Ap CO.noCell (λy hy=>nomatch hy) (λh1 hns hsb=>?_) CO.kind);dsimp only at hns hsb⊢;have D3:(h0.push {cls:=.type "list",dict:=none,data:=.seq ([]:List Value).toArray}).get? h0.objs.size=some (cL [] 0):=ej _ rfl;have z3:(h0.push {cls:=.type "list",dict:=none,data:=.seq ([]:List Value).toArray}).objs.size=h0.objs.size+1:=dk ..;have k2:∀b o',h0.get? b=some o'→(h0.push {cls:=.type "list",dict:=none,data:=.seq ([]:List Value).toArray}).get? b=some o':=λb o' e=>bc _ e;generalize h0.push {cls:=.type "list",dict:=none,data:=.seq ([]:List Value).toArray}=H3 at hns hsb D3 z3 k2⊢;have z1:h1.objs.size=H3.objs.size+1:=hsb.1.trans (dk ..);have k1:∀b o',H3.get? b=some o'→h1.get? b=some o':=λb o' e=>hsb.extBut b o' (c9 (b9 e)) (bc _ e);have sz3:p.h.objs.size≤H3.objs.size:=by rw[z3];exact A4 S.sz
 have hC:H3.objs.size≤H3.objs.size∧H3.objs.size<h1.objs.size:=⟨bw _,by rw[z1];exact eN _⟩;have sz31:H3.objs.size≤h1.objs.size:=f8 hC.2;have k3:∀b o',p.h.get? b=some o'→H3.get? b=some o':=λb o' e=>k2 b o' (S.k1 b o' e)
 have hW:∀b,(b∈wr∨b=h0.objs.size)→p.h.objs.size≤b∧b<H3.objs.size:=λb w=>by rw[z3];exact w.elim (λw=>⟨(S.hW b w).1,jG (S.hW b w).2⟩) λw=>by rw[w];exact⟨S.sz,eN _⟩
 have H:=R.hideS (W:=λb=>b∈wr∨b=h0.objs.size) k3 sz3 hW;have lcap:(gy own.length (d9 p.σ.loc caps)).length=(own++names).length:=by rw[za,xf,CO.len,el]
 have J:=SR.inner (C:=H3.objs.size) (env':=compEnvC scope cl H3.objs.size cx.env) (sl':=own++names) (loc':=gy own.length (d9 p.σ.loc caps)) H.1 H.2.1 k1 sz31 hC hns rfl CO.cells CO.apart CO.dup lcap (λj y hy=>by obtain⟨lj,hy⟩:=zb hy;obtain⟨i,hi,hl⟩:=xg (is:=caps) hy;obtain⟨nme,hnm⟩:=jm (l:=names) (n:=j-own.length) (by rw[←CO.len];exact gh hi);obtain⟨c1,c2,⟨c,c3,c4⟩,c5⟩:=CO.cap _ i nme hi hnm;exact⟨nme,i,c,by rw[n9,bQ (Nat.not_lt.mpr lj)];exact hnm,c1,hl,c2,c3,c4,c5⟩)
 have eH:Sv 0 h1:=S.wk.frame _ _ _ S.st λb _ o' e=>k1 b o' (k2 b o' e);have lt0:h0.objs.size<H3.objs.size:=by rw[z3];exact eN _
 have loop:codeAny (model pw cx.w) A (.compLoop (.ListComp elt (⟨t0,i0,ifs0,0⟩::gs) scope pos) 0 (.ref I) (.ref h0.objs.size) (compEnvC scope cl H3.objs.size cx.env)) (RR' (.ref h0.objs.size) H3.objs.size) (Sh s h1 (tk+([]:List (Str×Value)).length)):=by
  refine hloop H3.objs.size A ⟨h1,p.M,⟨gy own.length (d9 p.σ.loc caps),p.σ.H⟩⟩ s _ I h0.objs.size _ fp wr Sv xs p.h (p.av cx) p.M [] _ _ ⟨ar.rm,ar.fr⟩ ⟨J.1,J.2.1,HX.refl,eH,λc b hb=>(S.hfp c b hb).imp .inl λz=>⟨λt=>t.elim (λt=>absurd (ja z.2 lt0) (Nat.not_lt.mpr (f7 (show b=_ from t).symm))) λt=>t.elim (λt=>z.1 (.inr (.inl (.inl t)))) λt=>z.1 (.inr (.inr t)),ja z.2 (ja lt0 hC.2)⟩,f9 _⟩
   S.wk (H.2.2.trans J.2.2) (λ_ _ e=>e) (λb z=>.inl z) (.inr rfl) (λc z=>(S.hfp c _ z).elim (λz=>absurd (S.hW _ z).2 (jF _)) λz=>absurd z.2 (jF _)) (λz=>absurd (S.hW _ z).2 (jF _)) (.mk (k1 _ _ D3) Z2.nil) z λq tk acc Rq wq e d g=>?_
  have O:=SR.outer H.1 H.2.1 k1 sz31 hC Rq e;obtain⟨r,hr,g⟩:=g;have e':HX (λb=>b=H3.objs.size∨(b∈wr∨b=h0.objs.size)) h1 p.M p.σ.H q.h q.M q.σ.H:=e;cases d with
  |mk eD rD=>
   refine hR q.h q.M q.σ.H H3.objs.size h0.objs.size tk r ⟨O.1,O.2.1 _ rfl,e'.lessT (λb o e=>k1 b o (k3 b o e)) (aJ sz3 sz31) λb z=>.inr (z.elim (λz=>by rw[z];exact sz3) λz=>(hW b z).1),sz3,Rq.ns,
    VR.lst eD (λz=>z.elim (λz=>z.elim (λz=>z.elim (λz=>R.toHR.new S.sz (.inl (.inl z))) (c9 lt0)) λz=>R.toHR.new S.sz (.inl (.inr z))) λz=>z.elim (λz=>R.toHR.new S.sz (.inr (.inl z))) (wq _ (.inr rfl)).nL) (a9.frozen (a9.up O.2.2 (λ_ _ e=>e) rD) hr)⟩ g
 exact codeAny_compStart_list loop (S.wk.self 0 _ _ _ eH loop)
theorem zs{r:Pt}(e:c8 cx p q)(hC:p.h.objs.size≤C)(f:HX (λb=>cx.T0 b∨Is C b) q.h q.M q.σ.H r.h r.M r.σ.H):c8 cx p r:=HX.lessT (HX.trans (HX.moreT (T':=λb=>cx.T0 b∨Is C b) e λ_=>.inl) f) (λ_ _ e=>e) (bw _) λb z=>z.imp id λ(z:b=C)=>z▸hC
theorem aC.comp{Q:Value→Shared→Prop}{E:Value→Shared→Prop}{k:Nat}{xs:List (List RV)}(z:aC cx sl p s (rV cx) (fj k caps mgo xs p.σ) Q E):bO (mgo xs [] ⟨gy k (d9 p.σ.loc caps),p.σ.H⟩) λacc σ=>∃r,bY acc=some r∧aC cx sl p s (rV cx) (.ok (.v (.lst r)) ⟨p.σ.loc,σ.H⟩) Q E:=by
 have z:=aC.toN z;revert z;cases mgo xs [] ⟨gy k (d9 p.σ.loc caps),p.σ.H⟩ with
 |bad=>exact id
 |err=>exact id
 |ok acc σ=>exactλz=>aC.opt (o:=bY acc) z λr e z=>⟨r,e,z⟩
theorem Tn(K0:bq cx)(CO:jA cx sl scope cl own caps names)
  (hf:∀v,foldedSetIterable i0 cx.env v=pure v)(hi:h8 cx sl i0 mu t0 ts)
  (hloop:∀C,mV (eB cx C (compEnvC scope cl C cx.env)) (own++names) (.ListComp elt (⟨t0,i0,ifs0,0⟩::gs) scope pos) 0 t0 ts mgo):
  aH cx sl (eval (.ListComp elt (⟨t0,i0,ifs0,0⟩::gs) scope pos) cx.env) λst=>(mu st).bind λxs st=>fj own.length caps mgo xs st:=λp A s tk Q E ar R z=>by
 rw[eval_ListComp];refine HW (use:=none) rfl hf CO.clos CO.kind CO.locs (hi p A s tk _ E ar R ?_);revert z;show aC cx sl p s (rV cx) ((mu p.σ).bind λxs st=>fj own.length caps mgo xs st) Q E→dL cx sl p s A t0 ts (mu p.σ) _ E;cases mu p.σ with
 |bad=>exact id
 |err=>exact id
 |ok xs σ=>intro z I h1 h' M' tk fp wr Sv o S;refine Cd (p:=⟨h',M',σ⟩) (G:=λr H'=>aC cx sl ⟨h',M',σ⟩ s (rV cx) (.ok (.v (.lst r)) ⟨σ.loc,H'⟩) Q E) K0 CO hloop ar o.r S (aC.comp (p:=⟨h',M',σ⟩) (z.mv o.e)) (RR':=λacc C=>compPost (model pw cx.w) A E none Q acc C) λh2 M2 H2 C D tk2 r d z=>?_;refine d.ns.imp λm hn=>⟨hn,λh3 hsb=>?_⟩;have T:=d.sr.stepS (V:=Is C) (h':=h3) (λb(z:b=C)=>z▸d.w) (λ_ z=>z) (λb o nw z=>fW hsb nw z) (f7 hsb.1.symm);have U:=T.2.unhideS;exact z (.ref D) h3 M2 tk2 ⟨zs d.e d.le T.1,U.1⟩ (VR.up U.2 (VR.up (T.1.up λb z=>z.elim .inr λz=>.inl (.inr z)) d.v))
theorem TS(K0:bq cx){y:Str}{i:Nat}{py spos:Pos}(CO:jA cx sl scope cl own caps names)
  (hsw:swapsWith (.ListComp elt (⟨t0,i0,ifs0,0⟩::gs) scope pos) (some (.Name y py)) spos.line cx.env=pure true)(hn:ae sl i=some y)(hk:hY cx y)
  (hf:∀v,foldedSetIterable i0 cx.env v=pure v)(hi:h8 cx sl i0 mu t0 ts)
  (hloop:∀C,mV (eB cx C (compEnvC scope cl C cx.env)) (own++names) (.ListComp elt (⟨t0,i0,ifs0,0⟩::gs) scope pos) 0 t0 ts mgo):
  df cx sl (exec (.Assign [.Name y py] (.ListComp elt (⟨t0,i0,ifs0,0⟩::gs) scope pos) spos) cx.env) λst=>((mu st).bind λxs st=>fj own.length caps mgo xs st).bind λv st=>.ok .next ⟨bp st.loc i (some v),st.H⟩:=λp A s tk Q E ar R z=>by
 rw[exec_Assign_Name_used _ _ _ _ hsw];refine ah (iJ (ah ?_));show wpAny _ A (do let _←comprehension (.ListComp elt (⟨t0,i0,ifs0,0⟩::gs) scope pos) scope cx.env _ (newList []) false (eval i0 cx.env) (some (assign (.Name y py) cx.env))) _ _ _;refine ah (dZ (HW (use:=some (assign (.Name y py) cx.env)) (Q:=λ_ s'=>Q .next s') rfl hf CO.clos CO.kind CO.locs
  (hi p A s tk _ E ar R ?_)) (λ_ s' hq=>aQ (aQ hq)) λ_ _ e=>e)
 have z:=z.asc;revert z;show aC cx sl p s (ft cx) ((mu p.σ).bind λxs st=>(fj own.length caps mgo xs st).bind λv st=>.ok .next ⟨bp st.loc i (some v),st.H⟩) Q E→dL cx sl p s A t0 ts (mu p.σ) _ E;cases mu p.σ with
 |bad=>exact id
 |err=>exact id
 |ok xs σ=>
  intro z I h1 h' M' tk fp wr Sv o S
  have z:bO (mgo xs [] ⟨gy own.length (d9 σ.loc caps),σ.H⟩) λacc σ'=>∃r,bY acc=some r∧aC cx sl p s (ft cx) (.ok .next ⟨bp σ.loc i (some (.v (.lst r))),σ'.H⟩) Q E:=by
   have z:aC cx sl p s (ft cx) (((mgo xs [] ⟨gy own.length (d9 σ.loc caps),σ.H⟩).noErr.bind λacc st'=>aj (bY acc) (λr _=>.ok (.v (.lst r)) ⟨σ.loc,st'.H⟩) st').bind λv st=>.ok .next ⟨bp st.loc i (some v),st.H⟩) Q E:=z;rw[Rs.asc] at z;have z:=aC.toN z;revert z;cases mgo xs [] ⟨gy own.length (d9 σ.loc caps),σ.H⟩ with
   |bad=>exact id
   |err=>exact id
   |ok acc σ'=>
    show aC cx sl p s (ft cx) ((aj (bY acc) (λr _=>Rs.ok (RV.v (AV.lst r)) ⟨σ.loc,σ'.H⟩) σ').bind λv st=>.ok .next ⟨bp st.loc i (some v),st.H⟩) Q E→∃r,bY acc=some r∧aC cx sl p s (ft cx) (.ok .next ⟨bp σ.loc i (some (.v (.lst r))),σ'.H⟩) Q E;cases e:bY acc with
    |none=>exact False.elim
    |some r=>exactλz=>⟨r,rfl,z⟩
  refine Cd (p:=⟨h',M',σ⟩) (G:=λr H'=>aC cx sl p s (ft cx) (.ok .next ⟨bp σ.loc i (some (.v (.lst r))),H'⟩) Q E) K0 CO hloop ar o.r S z (RR':=λacc C=>compPost (model pw cx.w) A E (some (assign (.Name y py) cx.env)) (λ_ s'=>Q .next s') acc C) λh2 M2 H2 C D tk2 r d z=>?_;show wpAny _ A (assign (.Name y py) cx.env (.ref D)) _ _ _;refine HU (qb (K0.st _) d.sr hn hk (x:=.v (.lst r)) d.v λh3 tk3 o3=>?_);have w3:=d.w.up o3.e;refine d.ns.imp λm hm=>⟨uD (λo e=>o3.e.keep C o e d.w.nT) hm,λh4 hsb=>?_⟩;have T:=o3.r.stepS (V:=Is C) (h':=h4) (λb(z:b=C)=>z▸w3) (λ_ z=>z) (λb o nw z=>fW hsb nw z) (f7 hsb.1.symm);have U:=T.2.unhideS;exact z .next h4 M2 tk3 (Ok.tr o.e ⟨zs (q:=⟨h2,M2,⟨σ.loc,H2⟩⟩) (r:=⟨h4,M2,⟨bp σ.loc i (some (.v (.lst r))),H2⟩⟩) d.e d.le ((o3.e.moreT λ_=>.inl).trans T.1),U.1⟩) (show Flow.next=.next from rfl)
end
end
section
open PySem.SeqAt
noncomputable def sG:List AV→Option (List (List RV))
 |[]=>some []
 |x::r=>(eP x).bind λl=>(sG r).bind λq=>some (l.map .v::q)
noncomputable def nG(i:Nat):List RV→List (List RV)
 |[]=>[]
 |x::r=>[.v (.int i),x]::nG (i+1) r
noncomputable def sT:List RV→List RV→List (List RV)
 |x::r,y::q=>[x,y]::sT r q
 |_,_=>[]
noncomputable def rh(i:Int):Nat→List (List RV)
 |0=>[]
 |k+1=>[.v (.int i)]::rh (i+1) k
noncomputable def LY(a:RV):Option (List RV):=(sm a).bind λx=>(eP x).casesOn ((fx x).map (·.map .v)) λl=>some (l.map .v)
noncomputable def jS(a:RV)(H:List ac):Option (List RV):=match a with
 |.v x=>(eP x).casesOn ((fx x).map (·.map .v)) λl=>some (l.map .v)
 |.loc i=>(fE H i).bind λl=>cond l.isEmpty (some []) none
noncomputable def xY(a:RV):Fm (List (List RV)):=aj (bJ fx a) λl=>aj (sG l) aI
noncomputable def ua(a:RV):Fm (List (List RV)):=aj (LY a) λxs=>aI (xs.map λx=>[x])
noncomputable def CX(a:RV):Fm (List (List RV)):=fS λst=>aj (jS a st.H) λxs=>aI (xs.map λx=>[x])
noncomputable def xO(a:RV):Fm (List (List RV)):=aj (bJ fx a) λl=>aI (nG 0 (l.map .v))
noncomputable def ui(a b:RV):Fm (List (List RV)):=aj (bJ fx a) λl=>aj (bJ fx b) λr=>aI (sT (l.map .v) (r.map .v))
noncomputable def xV(a:RV):Fm (List (List RV)):=aj (bJ eO a) λi=>aK (decide (0≤i)&&decide (i≤1000)) (aI (rh 0 i.toNat))
theorem CD:∀(l:List RV)(i:Nat),(nG i l).length=l.length
 |[],_=>rfl
 |_::l,i=>congrArg (·+1) (CD l (i+1))
theorem CE:∀{l:List RV}{i j:Nat}{x:RV},ae l j=some x→ae (nG i l) j=some [.v (.int (i+j:Nat)),x]
 |[],_,_,_,e=>nS e
 |_::l,i,0,_,e=>congrArg (λx=>some [RV.v (.int (i:Nat)),x]) (ak e)
 |_::l,i,j+1,_,e=>(CE (l:=l) (i:=i+1) (j:=j) e).trans (by rw[AY,AZ 1])
theorem Ih:∀(l r:List RV),(sT l r).length=min l.length r.length
 |[],_=>(Nat.zero_min _).symm
 |_::_,[]=>(Nat.min_zero _).symm
 |_::l,_::r=>(congrArg (·+1) (Ih l r)).trans (Nat.succ_min_succ ..).symm
theorem Ii:∀{l r:List RV}{j:Nat}{x y:RV},ae l j=some x→ae r j=some y→ae (sT l r) j=some [x,y]
 |[],_,_,_,_,e,_=>nS e
 |_::_,[],_,_,_,_,e=>nS e
 |_::l,_::r,0,_,_,e,f=>by rw[←ak e,←ak f];rfl
 |_::l,_::r,j+1,_,_,e,f=>Ii (l:=l) (r:=r) (j:=j) e f
theorem yt:∀(k:Nat)(i:Int),(rh i k).length=k
 |0,_=>rfl
 |k+1,i=>congrArg (·+1) (yt k (i+1))
theorem DL:∀{k:Nat}{i:Int}{j:Nat},j<k→ae (rh i k) j=some [.v (.int (i+j))]
 |0,_,_,h=>absurd h (A7 _)
 |k+1,i,0,_=>congrArg (λi=>some [RV.v (.int i)]) (Int.add_zero i).symm
 |k+1,i,j+1,h=>(DL (k:=k) (i:=i+1) (j:=j) (ko h)).trans (congrArg (λi=>some [RV.v (.int i)]) (by rw[Int.natCast_add,Int.add_assoc,Int.add_comm 1];rfl))
theorem Q2{α β:Type}(f:α→β){l:List α}{i:Nat}{a:α}(h:ae l i=some a):ae (l.map f) i=some (f a):=by rw[cJ,oS,←cJ,h];rfl
theorem WalksU.len{prog:Program}{w:World}{A:Around}{I:Addr}{fp wr:List Addr}{n m:Nat}{Pt:Nat→Array Value→Prop}{St:Nat→Heap→Prop}{Mid:Nat→Addr→Heap→Prop}(e:n=m)(W:WalksU prog w A I fp wr n Pt St Mid):WalksU prog w A I fp wr m Pt St Mid:=e▸W
theorem Walks.len{prog:Program}{w:World}{A:Around}{I:Addr}{fp wr:List Addr}{n m:Nat}{Pt:Nat→Value→Prop}{St:Nat→Heap→Prop}(e:n=m)(W:Walks prog w A I fp wr n Pt St):Walks prog w A I fp wr m Pt St:=e▸W
section
variable{cx:Cx}{sl:List Str}{p:Pt}{A:Around}{s:Shared}{tk:Tok}{t:Expr}{ts:List (Str×Pos)}{Q E:Value→Shared→Prop}
theorem dL.bd{α:Type}{r:Rs α}{k:α→St→Rs (List (List RV))}{γ:Type}{rel:Pt→γ→α→Prop}{Q':γ→Shared→Prop}(z:dL cx sl p s A t ts (r.bind k) Q E)(h:∀a x P tk,Ok cx sl p P→rel P a x→dL cx sl P s A t ts (k x P.σ) Q E→Q' a (Sh s P.h tk)):aC cx sl p s rel r Q' E:=by
 cases r with
 |bad=>exact z
 |err=>exact z
 |ok x σ=>
  refineλa h' M' tk o r=>h a x ⟨h',M',σ⟩ tk o r ?_
  have z:dL cx sl p s A t ts (k x σ) Q E:=z;revert z;show dL cx sl p s A t ts (k x σ) Q E→dL cx sl _ s A t ts (k x σ) Q E;cases k x σ with
  |bad=>exact id
  |err=>exact id
  |ok xs σ=>exactλz I h1 h' M' tk fp wr Sv o'=>z I h1 h' M' tk fp wr Sv (o'.tr o.e)
theorem dL.opt{ε:Type}{o:Option ε}{k:ε→Fm (List (List RV))}{σ:St}{G:Prop}(z:dL cx sl p s A t ts (aj o k σ) Q E)(h:∀x,o=some x→dL cx sl p s A t ts (k x σ) Q E→G):G:=by
 cases o with
 |none=>exact False.elim z
 |some x=>exact h x rfl z
theorem dL.gd{c:Bool}{f:Fm (List (List RV))}{σ:St}{G:Prop}(z:dL cx sl p s A t ts (aK c f σ) Q E)(h:c=true→dL cx sl p s A t ts (f σ) Q E→G):G:=by
 cases c with
 |false=>exact False.elim z
 |true=>exact h rfl z
theorem Da{v:Value}{x:AV}{xs:List RV}(hv:VR cx.w.params p.h (p.av cx) v x)(e:(eP x).casesOn ((fx x).map (·.map .v)) (λl=>some (l.map .v))=some xs){C:Value→Prop}
  (k:∀a vs n,(p.h.get? a=some (cL vs n)∨p.h.get? a=some (eg vs n))→¬p.av cx a→p.vals cx vs xs→C (.ref a)):C v:=by
 cases q:eP x with
 |some t=>exact VR.onTup (VR.cast (iO q) hv) λb vs n e2 x r=>k b vs n (.inr e2) x (by rw[q] at e;rw[←ak e];exact r.rrs)
 |none=>exact cz (by rw[q] at e;exact e) λr e1 e=>VR.onLst (VR.cast (iN e1) hv) λb vs n e2 x r=>k b vs n (.inl e2) x (by rw[←e];exact r.rrs)
theorem zv{ax:Addr}{vs:List Value}{n:Nat}{xs:List RV}{x:Str}{xpos:Pos}(ar:AR cx A)(R:SR cx sl p)(e1:p.h.get? ax=some (cL vs n)∨p.h.get? ax=some (eg vs n))(nx:0<xs.length→¬p.av cx ax)(rv:p.vals cx vs xs)
  (z:dL cx sl p s A (.Name x xpos) [(x,xpos)] (.ok (xs.map λx=>[x]) p.σ) Q E):wpAny (model pw cx.w) A (pyIter (.ref ax)) Q E (Sh s p.h tk):=by
 have len:=Z2.length rv;have lt:ax<p.h.objs.size:=e1.elim b9 b9;have ne:ax≠p.h.objs.size:=c9 lt
 have go:∀{o:Obj}{Sv:Nat→Heap→Prop},Walks pw cx.w A p.h.objs.size [p.h.objs.size,ax] [p.h.objs.size] vs.toArray.size (λi v=>vs.toArray[i]? =some v) Sv→Sv 0 (p.h.push o)→Q (.ref p.h.objs.size) (Sh s (p.h.push o) tk):=λ{o Sv} Wv st=>by
  refine z p.h.objs.size (p.h.push o) p.h p.M tk _ _ _ (Ok.refl R) ⟨λb o' e=>bc _ e,gF _ _,.name (Walks.len (show vs.toArray.size=(xs.map λx=>[x]).length by rw[bM,aU,len]) Wv) (λi v hv=>?_),λb hb=>?_,λc b hb=>?_,st⟩
  ·have hv:vs[i]? =some v:=by rw[←km];exact hv
   obtain⟨y,hy⟩:=jm (l:=xs) (n:=i) (len▸(List.getElem?_eq_some_iff.mp hv).1);obtain⟨v',hv',ry⟩:=rv.nth' hy;cases hv.symm.trans hv';exact⟨y,Q2 (λx=>[x]) hy,ry⟩
  ·rw[List.mem_singleton.mp hb,dk];exact⟨bw _,eN _⟩
  ·rw[aU] at c;rw[dk];exact(List.mem_cons.mp hb).elim (λc=>.inl (c▸.head _)) λhb=>.inr (by rw[List.mem_singleton.mp hb];exact⟨nx c,jG lt⟩)
 exact e1.elim (λe1=>H9 (s:=Sh s p.h tk) (dw e1) (go (Walks.list ar.rm.hand p.h.objs.size ax ne vs.toArray) ⟨⟨_,ej _ rfl,rfl,rfl⟩,dw (bc _ e1)⟩))
  λe1=>wpAny_pyIter_tuple (s:=Sh s p.h tk) (jW e1) (go (Walks.tuple ar.rm.hand p.h.objs.size ax ne vs.toArray) ⟨⟨_,ej _ rfl,rfl,rfl⟩,jW (bc _ e1)⟩)
theorem WH{iter:Expr}{mi:Fm RV}{x:Str}{xpos:Pos}(h:aH cx sl (eval iter cx.env) mi):h8 cx sl iter (λst=>(mi st).bind λy st=>ua y st) (.Name x xpos) [(x,xpos)]:=λp A s tk Q E ar R z=>h p A s tk _ E ar R (z.bd λv a P tk o va z=>z.opt λxs hx z=>aL hx λy e1 e=>Da (C:=λv=>wpAny _ _ (pyIter v) _ _ _) (show VR cx.w.params P.h (P.av cx) v y from RR.cast (j8 e1) va) e λax vs n e1 nx rv=>zv ar o.r e1 (λ_=>nx) rv z)
theorem WI{iter:Expr}{mi:Fm RV}{x:Str}{xpos:Pos}(h:aH cx sl (eval iter cx.env) mi):h8 cx sl iter (λst=>(mi st).bind λy st=>CX y st) (.Name x xpos) [(x,xpos)]:=λp A s tk Q E ar R z=>
 h p A s tk _ E ar R (z.bd λv a P tk o va z=>dL.opt (o:=jS a P.σ.H) z λxs hx z'=>by
  clear z;cases a with
  |v y=>exact Da (C:=λv=>wpAny _ _ (pyIter v) _ _ _) (show VR cx.w.params P.h (P.av cx) v y from va) hx λax vs n e1 nx rv=>zv ar o.r e1 (λ_=>nx) rv z'
  |loc i=>refine aL (o:=fE P.σ.H i) hx λl hl e=>o.r.onOwnL (C:=λv=>wpAny _ _ (pyIter v) _ _ _) va hl λb vs n _ _ e1 rv=>?_;have c:=tW e;rw[List.isEmpty_iff.mp c.1] at rv;rw[←c.2] at z';exact zv ar o.r (xs:=[]) (.inl e1) (λc=>absurd c (jF 0)) rv z')
theorem uP{α:Type}{a b:α}(h:a∈[b]):a=b:=List.mem_singleton.mp h
noncomputable def wK(h:Heap)(X:Addr→Prop)(M:Sp)(P:Params)(v:Value)(us:List Value)(y:List RV):Prop:=∃T n,v=.ref T∧h.get? T=some (eg us n)∧¬X T∧a9 P h X M us y
theorem VA{P:Params}{h:Heap}{X:Addr→Prop}{M:Sp}{vs:List Value}{l:List AV}(z:Z2 (λv a=>VR P h X v a) vs l):∀{q:List (List RV)},sG l=some q→q.length=vs.length∧∀j v,vs[j]? =some v→∃us y,ae q j=some y∧wK h X M P v us y:=Z2.rec' (C:=λvs l=>∀{q:List (List RV)},sG l=some q→q.length=vs.length∧∀j v,vs[j]? =some v→∃us y,ae q j=some y∧wK h X M P v us y) (λ{q} e=>by rw[←ak e];exact⟨rfl,λj v e=>nS e⟩)
  (λ{v a vs l} r _ ih{q} e=>aL (o:=eP a) e λt e1 e=>aL (o:=sG l) e λq' e2 e=>by
   rw[←ak e];refine⟨congrArg (·+1) (ih e2).1,λj u hu=>?_⟩;cases j with
   |zero=>cases (show some v=some u from hu);exact VR.onTup (C:=λv=>∃us y,ae (t.map .v::q') 0=some y∧wK h X M P v us y) (VR.cast (iO e1) r) λT us n e1 n1 rr=>⟨us,_,rfl,T,n,rfl,e1,n1,rr.rrs⟩
   |succ j=>exact(ih e2).2 j u hu) z
theorem WJ{iter:Expr}{mi:Fm RV}{k:Nat}{tpos:Pos}(h:aH cx sl (eval iter cx.env) mi):h8 cx sl iter (λst=>(mi st).bind λy st=>xY y st) (.Tuple (dT ts) k tpos) ts:=λp A s tk Q E ar R z=>
 h p A s tk _ E ar R (z.bd λv a P tk o va z=>z.opt λl hl z=>z.opt λq hq z=>VR.onLst (C:=λv=>wpAny _ _ (pyIter v) _ _ _) (show VR cx.w.params P.h (P.av cx) v (.lst l) from RR.cast (di iN hl) va) λax vs n e1 n1 r=>by
  have lt:=b9 e1;have ht:=VA (M:=P.M) r.z2 hq;have hx:∀j,∃T us,j<vs.length→∃n y,vs[j]? =some (.ref T)∧P.h.get? T=some (eg us n)∧¬P.av cx T∧ae q j=some y∧P.vals cx us y:=λj=>(mW j vs.length).elim (λc=>(ht.2 j _ (oR c)).elim λus z=>z.elim λy z=>z.2.elim λT w=>w.elim λn w=>⟨T,us,λ_=>⟨n,y,(oR c).trans (congrArg some w.1),w.2.1,w.2.2.1,z.1,w.2.2.2⟩⟩) λc=>⟨0,[],λd=>absurd d (Nat.not_lt.mpr c)⟩;obtain⟨Ts,hx⟩:=Classical.skolem.mp hx;obtain⟨us,hx⟩:=Classical.skolem.mp hx;have hT0:∀{j},j<vs.length→Ts j<P.h.objs.size:=λhj=>(hx _ hj).elim λ_ z=>z.elim λ_ z=>b9 z.2.1;have Wv:=WalksU.len (show vs.toArray.size=q.length by rw[bM,ht.1]) (WalksU.listOfTuples (prog:=pw) (w:=cx.w) (A:=A) ar.rm.hand P.h.objs.size ax (c9 lt) vs.toArray Ts (λj=>(us j).toArray) (λj hj=>(hx j hj).elim λ_ z=>z.elim λ_ z=>by rw[km];exact z.1) (λj hj=>c9 (hT0 hj))).bound;refine H9 (s:=Sh s P.h tk) (dw e1) (z P.h.objs.size _ P.h P.M tk _ _ _ (Ok.refl o.r) ⟨λb o' e=>bc _ e,gF _ _,.tup Wv (λi ws hP=>?_),λb hb=>?_,λc b hb=>?_,?_⟩)
  ·obtain⟨hi,rfl⟩:=hP;exact(hx i hi).elim λ_ z=>z.elim λy z=>⟨y,z.2.2.2.1,z.2.2.2.2⟩
  ·rw[uP hb,dk];exact⟨bw _,eN _⟩
  ·rw[dk];refine(List.mem_cons.mp hb).elim (λc=>.inl (c▸.head _)) λhb=>.inr ((List.mem_cons.mp hb).elim (λc=>c▸⟨n1,jG lt⟩) λhb=>?_);obtain⟨j,hj,rfl⟩:=List.mem_map.mp hb;have hj:=List.mem_range.mp hj;exact(hx j hj).elim λ_ z=>z.elim λ_ z=>⟨z.2.2.1,jG (hT0 hj)⟩
  ·exact⟨⟨_,ej _ rfl,rfl,rfl⟩,dw (bc _ e1),λj hj=>(hx j hj).elim λ_ z=>z.elim λ_ z=>(jW z.2.1).at λo e=>bc _ e⟩)
theorem Ae(K0:bq cx){T:String}{x:Str}{npos pos:Pos}{e:Expr}{rest:List Expr}{F:List RV→Fm (List (List RV))}{l:Fm (List RV)}(hx:eW cx x (.type T))(hpr:gC rest cx.env)
  (hF:∀{P:Pt}{vs:List Value}{xs:List RV}{s:Shared}{tk:Tok},AR cx A→SR cx sl P→P.vals cx vs xs→dL cx sl P s A t ts (F xs P.σ) Q E→wpAny (model pw cx.w) A (call (.type T) vs) (λv s1=>wpAny (model pw cx.w) A (pyIter v) Q E s1) E (Sh s P.h tk))
  (hl:hZ cx sl (spliced (backTo pos (starEach (e::rest) cx.env))) l)
  (he:eval (.Call (.Name x npos) (e::rest) [] pos) cx.env=(do callWith pos (←eval (.Name x npos) cx.env) [] (backTo pos (starEach (e::rest) cx.env)) (backToKw pos (keywordEach [] cx.env))))(hse:starEach (e::rest) cx.env=(false,eval e cx.env)::starEach rest cx.env)
  (ar:AR cx A)(R:SR cx sl p)(z:dL cx sl p s A t ts ((l p.σ).bind λxs st=>F xs st) Q E):wpAny (model pw cx.w) A (eval (.Call (.Name x npos) (e::rest) [] pos) cx.env) (λv s1=>wpAny (model pw cx.w) A (pyIter v) Q E s1) E (Sh s p.h tk):=Call_ (j0 K0 hx (s:=Sh s p.h tk) (R.K K0) (callWith_type1 (hl p A s tk _ E ar R (z.bd λvs xs P tk o vv z=>hF ar o.r vv z)) hse (vm hpr))) he
noncomputable abbrev wY(F:RV→Fm (List (List RV)))(xs:List RV):Fm (List (List RV)):=aj (one xs) F
theorem K6{vs:List Value}{xs:List RV}{k:Nat}{tpos:Pos}(ar:AR cx A)(R:SR cx sl p)(hx:p.vals cx vs xs)(z:dL cx sl p s A (.Tuple (dT ts) k tpos) ts (wY xO xs p.σ) Q E):wpAny (model pw cx.w) A (call (.type "enumerate") vs) (λv s1=>wpAny (model pw cx.w) A (pyIter v) Q E s1) E (Sh s p.h tk):=z.opt λa h1 z=>z.opt λl hl z=>gG (C:=λvs=>wpAny _ _ (call _ vs) _ _ _) h1 hx λu hu=>VR.onLst (C:=λu=>wpAny _ _ (call _ [u]) _ _ _) (show VR cx.w.params p.h (p.av cx) u (.lst l) from RR.cast (di iN hl) hu) λax us kk e1 n1 r=>by
  have lt:=b9 e1;have lv:=bj.length r;refine call_enumerate_list (s:=Sh s p.h tk) (items:=us.toArray) (dw e1) λh' g1 g2 g3 g4=>?_;have Wv:=WalksU.len (show us.toArray.size=(nG 0 (l.map RV.v)).length by rw[bM,CD,aU,←lv]) (WalksT.enumerate (prog:=pw) (w:=cx.w) (A:=A) ar.rm.hand (p.h.objs.size+1) p.h.objs.size ax (Nat.succ_ne_self _) (c9 (jG lt)) (c9 lt) us.toArray).toU;have g3:h'.objs.size=p.h.objs.size+2:=g3;refine wpAny_pyIter_enum g1 (z _ h' p.h p.M tk _ _ _ (Ok.refl R) ⟨g4,by rw[g3];exact eM _ _,.tup Wv (λi ws hP=>?_),λb hb=>?_,λc b hb=>?_,⟨_,g1⟩,g2,dw (g4 _ _ e1)⟩)
  ·obtain⟨t,x,hx,rfl⟩:=hP;have hx:us[i]? =some x:=by rw[←km];exact hx
   obtain⟨y,hy⟩:=jm (l:=l.map RV.v) (n:=i) (by rw[aU,←lv];exact(List.getElem?_eq_some_iff.mp hx).1);obtain⟨v',hv',ry⟩:=Z2.nth' (bj.rrs (M:=p.M) r) hy;cases hx.symm.trans hv';refine⟨_,CE (i:=0) hy,?_⟩;rw[mY];exact .cons (show VR cx.w.params p.h (p.av cx) _ (.int _) from .int _ _) (.cons ry .nil)
  ·rw[g3];exact(List.mem_cons.mp hb).elim (λc=>c▸⟨kn _,eN _⟩) λhb=>uP hb▸⟨bw _,jG (eN _)⟩
  ·rw[g3];exact(List.mem_cons.mp hb).elim (λc=>.inl (c▸.head _)) λhb=>(List.mem_cons.mp hb).elim (λc=>.inl (c▸.tail _ (.head _))) λhb=>.inr (uP hb▸⟨n1,jG (jG lt)⟩)
noncomputable def Ig(xs:List RV):Fm (List (List RV)):=aj (vk xs) λq=>ui q.1 q.2
theorem YD{vs:List Value}{xs:List RV}{k:Nat}{tpos:Pos}(ar:AR cx A)(R:SR cx sl p)(hx:p.vals cx vs xs)(z:dL cx sl p s A (.Tuple (dT ts) k tpos) ts (Ig xs p.σ) Q E):wpAny (model pw cx.w) A (call (.type "zip") vs) (λv s1=>wpAny (model pw cx.w) A (pyIter v) Q E s1) E (Sh s p.h tk):=z.opt λq hq z1=>z1.opt λl hl z1=>z1.opt λr0 hr z1=>by
  clear z;cases zy hq;refine Z2.on (C:=λvs=>wpAny _ _ (call _ vs) _ _ _) hx λv us hv hx=>Z2.on (C:=λus=>wpAny _ _ (call _ (v::us)) _ _ _) hx λu us hu hx=>?_;rw[show us=[] from hx];refine VR.onLst (C:=λv=>wpAny _ _ (call _ [v,u]) _ _ _) (show VR cx.w.params p.h (p.av cx) v (.lst l) from RR.cast (di iN hl) hv) λax us kk e1 n1 r=>VR.onLst (C:=λu=>wpAny _ _ (call _ [_,u]) _ _ _) (show VR cx.w.params p.h (p.av cx) u (.lst r0) from RR.cast (di iN hr) hu) λbx us2 kk2 e2 n2 r2=>?_;have lt: @LT.lt Nat _ ax p.h.objs.size:=b9 e1;have lt2: @LT.lt Nat _ bx p.h.objs.size:=b9 e2;have lv:=bj.length r;have lv2:=bj.length r2;refine call_zip_2 (s:=Sh s p.h tk) (xs:=us.toArray) (ys:=us2.toArray) (dw e1) (dw e2) λh' g1 g2 g3 g4 g5 g6 g7=>?_
  have D:ZipApart (p.h.objs.size+4) (p.h.objs.size+2) (p.h.objs.size+3) p.h.objs.size (p.h.objs.size+1) ax bx:=by constructor<;>exactλ(h: @Eq Nat _ _)=>by omega
  have g6:h'.objs.size=p.h.objs.size+5:=g6;have Wv:=WalksU.len (show min us.toArray.size us2.toArray.size=(sT (l.map RV.v) (r0.map RV.v)).length by rw[bM,bM,Ih,aU,aU,←lv,←lv2]) (WalksT.zip2 (prog:=pw) (w:=cx.w) (A:=A) ar.rm.hand _ _ _ _ _ _ _ D us.toArray us2.toArray).toU;have nw:∀{b:Addr},@LE.le Nat _ p.h.objs.size b→@LT.lt Nat _ b (p.h.objs.size+5)→¬p.av cx b∧b<p.h.objs.size+5:=λa b=>⟨R.toHR.new a,b⟩;refine wpAny_pyIter_zip g1 (z1 _ h' p.h p.M tk _ _ _ (Ok.refl R) ⟨g7,by rw[g6];exact eM _ _,.tup Wv (λi ws hP=>?_),λb hb=>?_,λc b hb=>?_,g1,g2,⟨_,_,g3⟩,g4,g5,dw (g7 _ _ e1),dw (g7 _ _ e2)⟩)
  ·obtain⟨x,y,hx,hy,rfl⟩:=hP;have hx:us[i]? =some x:=by rw[←km];exact hx
   have hy:us2[i]? =some y:=by rw[←km];exact hy
   obtain⟨y1,hy1⟩:=jm (l:=l.map RV.v) (n:=i) (by rw[aU,←lv];exact(List.getElem?_eq_some_iff.mp hx).1);obtain⟨y2,hy2⟩:=jm (l:=r0.map RV.v) (n:=i) (by rw[aU,←lv2];exact(List.getElem?_eq_some_iff.mp hy).1);obtain⟨v1,hv1,ry1⟩:=Z2.nth' (bj.rrs (M:=p.M) r) hy1;obtain⟨v2,hv2,ry2⟩:=Z2.nth' (bj.rrs (M:=p.M) r2) hy2;cases hx.symm.trans hv1;cases hy.symm.trans hv2;exact⟨_,Ii hy1 hy2,.cons ry1 (.cons ry2 .nil)⟩
  ·rw[g6];simp at hb;rcases hb with rfl|rfl|rfl|rfl<;>first|exact⟨eM _ _,Nat.add_lt_add_left (by decide) _⟩|exact⟨bw _,IE (by decide)⟩
  ·rw[g6];simp at hb;rcases hb with rfl|rfl|rfl|rfl|rfl|rfl|rfl
   ·exact .inl (by simp)
   ·exact .inr (nw (eM _ _) (Nat.add_lt_add_left (by decide) _))
   ·exact .inl (by simp)
   ·exact .inl (by simp)
   ·exact .inl (by simp)
   ·exact .inr ⟨n1,Nat.lt_add_right 5 lt⟩
   ·exact .inr ⟨n2,Nat.lt_add_right 5 lt2⟩
theorem SV{vs:List Value}{xs:List RV}{y:Str}{ypos:Pos}(ar:AR cx A)(R:SR cx sl p)(hx:p.vals cx vs xs)(z:dL cx sl p s A (.Name y ypos) [(y,ypos)] (wY xV xs p.σ) Q E):wpAny (model pw cx.w) A (call (.type "range") vs) (λv s1=>wpAny (model pw cx.w) A (pyIter v) Q E s1) E (Sh s p.h tk):=z.opt λa h1 z=>z.opt λi hi z=>z.gd λg z=>gG (C:=λvs=>wpAny _ _ (call _ vs) _ _ _) h1 hx λu hu=>VR.onInt (C:=λu=>wpAny _ _ (call _ [u]) _ _ _) (show VR cx.w.params p.h (p.av cx) u (.int i) from RR.cast (di fe hi) hu) λt=>by
  have i1:=bI (aA g).1;have i2:=bI (aA g).2;refine call_range_1 (s:=Sh s p.h tk) ?_;refine wpAny_pyIter_range (IsRange.new ..) (small_one (by omega) (by omega) (by omega) (by omega)) ?_
  have hn:Builtin.Range.rangeSize 0 i 1=((i.toNat:Nat):Int):=by rw[rangeSize_one];split<;>omega
  rw[hn];dsimp only;rw[show((p.h.push {cls:=.type "range",data:=.fields #[.int 0 tk,.int i t,.int 1 (tk+1)]}).objs.size)=p.h.objs.size+1 from dk ..];have Wv:=Walks.len (show i.toNat=(rh 0 i.toNat).length from(yt _ _).symm) (Walks.range (prog:=pw) (w:=cx.w) (A:=A) ar.rm.hand (p.h.objs.size+1) 0 1 i.toNat);have hz:∀o o':Obj,((p.h.push o).push o').objs.size=p.h.objs.size+2:=λo o'=>by rw[dk,dk]
  refine z _ _ p.h p.M _ _ _ _ (Ok.refl R) ⟨λb o' e=>bc _ (bc _ e),?_,.name Wv.bound (λj v hv=>?_),λb hb=>?_,λc b hb=>.inl hb,?_⟩
  ·show p.h.objs.size≤((p.h.push _).push _).objs.size;rw[hz];exact eM _ _
  ·obtain⟨hj,t',rfl⟩:=hv;rw[yt] at hj;refine⟨_,DL hj,?_⟩;rw[wj];exact(show VR cx.w.params p.h (p.av cx) _ (.int _) from .int _ _)
  ·rw[uP hb];refine⟨kn _,?_⟩;show _<((p.h.push _).push _).objs.size;rw[hz];exact eN _
  ·show IsRangeIter ((p.h.push _).push _) (p.h.objs.size+1) (0+((0:Nat):Int)*1) (((i.toNat:Nat):Int)-((0:Nat):Int)) 1;have:=ej (p.h.push {cls:=.type "range",data:=.fields #[.int 0 tk,.int i t,.int 1 (tk+1)]}) (o:={cls:=.type "range_iterator",data:=.fields #[rawInt 0,rawInt ((i.toNat:Nat):Int),rawInt 1]}) rfl;rw[dk] at this;simpa using this
end
end
section
open PySem.SeqAt
theorem HQ(c:Addr)(vs:List Value):(Code.builtin "type.__call__" ⟨.ref c::vs,[]⟩).weight=1:=rfl
theorem VI(c:Addr)(vs:List Value):(Code.builtin "type.__call__" ⟨.ref c::vs,[]⟩).cUnits=1:=rfl
theorem g9.lay{B:Heap}{fr:List Env}{h h':Heap}{M M':Sp}{H H':List ac}(F:g9 B fr h M H)(e:HX cA h M H h' M' H'):g9 B fr h' M' H':=λenv m=>⟨(F env m).1,(F env m).2.imp λL q=>⟨q.1,q.2.1,q.2.2.2.elim λo r=>e.ofT r.1 q.2.2.1,q.2.2.2.imp λo r=>⟨e.keep _ _ r.1 q.2.2.1,r.2⟩⟩⟩
theorem Rv{X:Addr→Prop}:(λb=>X b∨cA b)=X:=funext λb=>propext ⟨λh=>h.elim id False.elim,.inl⟩
theorem HR.lay{P:Params}{B:Heap}{X:Addr→Prop}{h h':Heap}{M:Sp}{H:List ac}(G:HR P B X h M H)(k:∀b o,h.get? b=some o→h'.get? b=some o)(sz:h.objs.size≤h'.objs.size){a:Addr×Addr}{x:ac}
  (ha:∀b,(b=a.1∨b=a.2)→h.objs.size≤b∧b<h'.objs.size)(hO:cY P h' (HA X (M++[a]) (H++[x])) (M++[a]) a x):
  HR P B X h' (M++[a]) (H++[x])∧HX cA h M H h' (M++[a]) (H++[x]):=have g:=G.same (X':=λb=>X b∨(b=a.1∨b=a.2)) (D:=cA) (λb o _=>k b o) (λ_ z=>z.elim) sz λb z=>z.imp id (ha b)
 ⟨(g.1.adopt (X':=X) (a:=a) (x:=x) (λb z=>.inl z) (λb z=>⟨.inr z,λt=>G.new (ha b z).1 (.inr (.inl (.inl t))),λl=>G.new (ha b z).1 (.inr (.inr l))⟩) λ_=>hO).1,(HX.grow k sz).snoc G.len ⟨(ha _ (.inl rfl)).1,(ha _ (.inr rfl)).1⟩⟩
noncomputable def Rc.cls(whole:Bool)(g:Nat)(r:Rc):Rc:=match r with
 |.bad=>.bad
 |.err=>.err
 |.ok x H'=>(bJ lZ x).casesOn .bad λ_=>l7 whole g (.loc g) H'
noncomputable def qF(f:Fo)(whole:Bool)(fI c:Addr)(args:List RV)(H:List ac):Rc:=(f (.glob (.ref fI)) (.loc H.length::args) (H++[.inst c []])).cls whole H.length
theorem J6{w:World}{B:Heap}(b:dH w B){n:Nat}{fo:Fo}(O:eY w B n fo){whole:Bool}{c fI:Addr}(hm:makesIn (KF w.params) c=true)(hi:findIn (KF w.params) (.ref c) "__init__"=some (some (.ref fI)))
  (hf:typeIn (KF w.params) (.ref fI)=some (.type "function"))
  {X:Addr→Prop}{s:Shared}{hh:Heap}{tk:Tok}{M:Sp}{H:List ac}{fr:List Env}{A:Around}{args:List RV}{vs:List Value}{Q:Value→Shared→Prop}{E:Value→Shared→Prop}
  (rm:Rm (n+1) A)(hfr:A.frames=some fr)(F:g9 B fr hh M H)(G:HR w.params B X hh M H)(ha:a9 w.params hh (HA X M H) M vs args)(z:fH w.params B X fr hh M H s (qF fo whole fI c args H) Q E):
  codeAny (model pw w) A (.call (.ref c) ⟨vs,[]⟩) (lB Q E) (Sh s hh tk):=by
 have KI:(KF w.params).In hh:=lQ b.says G.base;obtain⟨h0,g,d,t,os⟩:=s;have z1:((hh.push emptyDict).push (instObj c hh.objs.size)).objs.size=hh.objs.size+2:=by rw[dk,dk]
 have k1:∀b o,hh.get? b=some o→((hh.push emptyDict).push (instObj c hh.objs.size)).get? b=some o:=λb o e=>bc _ (bc _ e);have gd:((hh.push emptyDict).push (instObj c hh.objs.size)).get? hh.objs.size=some (PySem.W.dictOf [] 0):=bc _ (ej _ rfl)
 have gi:((hh.push emptyDict).push (instObj c hh.objs.size)).get? (hh.objs.size+1)=some (fR c hh.objs.size):=by have:=ej (hh.push emptyDict) (o:=instObj c hh.objs.size) rfl;rwa[dk] at this
 have L:=G.lay (h':=(hh.push emptyDict).push (instObj c hh.objs.size)) k1 (by rw[z1];exact eM _ _) (a:=(hh.objs.size+1,hh.objs.size)) (x:=.inst c [])
  (λb z=>by rw[z1];exact z.elim (λz=>by rw[z];exact⟨kn _,eN _⟩) λz=>by rw[z];exact⟨bw _,jG (eN _)⟩)
  (hU.mk gi gd (Nat.succ_ne_self hh.objs.size) Z2.nil)
 have hl:ae (M++[((hh.objs.size+1,hh.objs.size):Addr×Addr)]) H.length=some (hh.objs.size+1,hh.objs.size):=by rw[←G.len];exact EI _ _ _
 have hA:A.under (.builtin "type.__call__" ⟨.ref c::vs,[]⟩)={A with depth:=A.depth+1,frames:=pushEnvs (Code.builtin "type.__call__" ⟨.ref c::vs,[]⟩).envs A.frames,guards:=pushGuards (Code.builtin "type.__call__" ⟨.ref c::vs,[]⟩).guards A.guards,units:=A.units+1}:=by unfold Around.under;rw[HQ,VI]
 refine make_core (makes_of KI hm) (rA KI hi) (λself=>bind_fn KI self hf) (.inl rfl) ?_
 have rm':Rm n (A.under (.builtin "type.__call__" ⟨.ref c::vs,[]⟩)):=by rw[hA];exact⟨by have:=rm.depth;show A.depth+1+3*n+30≤990;omega,by have:=rm.units;show A.units+1+20*n+100≤9800;omega,rm.hand⟩
 have fr':(A.under (.builtin "type.__call__" ⟨.ref c::vs,[]⟩)).frames=some fr:=by rw[hA];dsimp only;rw[hfr];rfl
 refine Cb (O X ⟨h0,g,d,t,os⟩ _ tk _ _ fr _ (.glob (.ref fI)) (.ref fI) (.loc H.length::args) (.ref (hh.objs.size+1)::vs)
  (λv s'=>v=.none∧Q (.ref (hh.objs.size+1)) s') E rm' fr' (F.lay L.2) L.1 rfl (.cons (RR.loc hl) (a9.up (L.2.up λ_ z=>z.elim) L.2.sp ha)) ?_) λr s' z=>?_
 ·revert z;show fH _ _ _ _ _ _ _ _ ((fo (.glob (.ref fI)) (.loc H.length::args) (H++[.inst c []])).cls whole H.length) _ _→_;cases fo (.glob (.ref fI)) (.loc H.length::args) (H++[.inst c []]) with
  |bad=>exact id
  |err=>exact id
  |ok x H'=>
   intro z v h' M' tk e2 G2 r2;have z:fH w.params B X fr hh M H ⟨h0,g,d,t,os⟩ ((bJ lZ x).casesOn .bad λ_=>l7 whole H.length (.loc H.length) H') Q E:=z;cases q:bJ lZ x with
   |none=>rw[q] at z;exact False.elim z
   |some u=>rw[q] at z;refine⟨show v=.none from(RR.cast (di (c:=λ_=>AV.none) qz q) r2:RR w.params h' _ M' v (.v .none)),?_⟩;exact xZ (T0:=cA) (h0:=hh) G (λb o e=>e) (bw _) (λb t=>t.elim) (L.2.trans e2) (by rw[Rv];exact G2) (v:=.ref (hh.objs.size+1)) (x:=.loc H.length) (RR.loc (e2.sp _ _ hl)) z tk
 ·rcases r with e|(v|_|_|_)<;>first|exact z|exact z.elim
noncomputable def fy:List Value:=[.ref 300,.type "Exception",.type "BaseException",.type "object"]
noncomputable def J2(o:Option Obj):ClassData:=o.elim default λo=>match o.data with
 |.cls c=>c
 |_=>default
noncomputable def qJ(o:Option Obj)(j:Nat):Option Value:=o.elim none λo=>o.slots.toList.getD j none
theorem CK(P:Params):∃nm q N bs sn sub ab col dd k0 k1 k2 k3 k5,(KF P).lookup 325=some (excClassObj nm q 325 N bs fy true sn sub ab col dd k0 k1 k2 k3 k5 "Exception.__new__"):=let o:=(KF P).lookup 325;let c:=J2 o
 ⟨c.name,c.qualname,c.ns,c.bases,c.slotNames,c.subclasses,c.abstract,c.collection,o.elim none (·.dict),qJ o 0,qJ o 1,qJ o 2,qJ o 3,qJ o 5,by kernel_rfl⟩
theorem Lg(P:Params):findIn (KF P) (.ref 325) "__init__"=some (some (.ref 297)):=by kernel_rfl
theorem Li(P:Params):findIn (KF P) (.ref 325) "__setattr__"=some (some (.builtin "object.__setattr__")):=by kernel_rfl
theorem Lh(P:Params):findIn (KF P) (.ref 325) (nm 29)=some none:=by kernel_rfl
theorem Lc(P:Params):findCls (KF P) (.type "Exception") (.type "type") "__init__"=some (.val (.builtin "Exception.__init__")):=by kernel_rfl
theorem Ld(P:Params):typeIn (KF P) (.ref 297)=some (.type "function"):=by kernel_rfl
noncomputable abbrev fi(t:Addr)(d:Option Addr):Obj:={cls:=.ref 325,dict:=d,data:=.fields #[.ref t,.none,.none,.none,.bool false,.none]}
section
variable{w:World}{A:Around}{E:Value→Shared→Prop}{R:Result→Shared→Prop}{h:Heap}{g:Array GenState}{d:Drawn}{t:Nat}{os:OsState}
variable{nmC q:Str}{N:Addr}{bs:List Value}{sn:List Str}{sub:List Value}{ab:Bool}{col:Option Bool}{dd:Option Addr}{k0 k1 k2 k3 k5:Option Value}
theorem Lr{v:Value}(hC:h.get? 325=some (excClassObj nmC q 325 N bs fy true sn sub ab col dd k0 k1 k2 k3 k5 "Exception.__new__"))
  (hq:R (.ok (.ret (.ref (h.objs.size+1)))) ⟨(h.push {cls:=.type "tuple",data:=.seq #[v]}).push (fi h.objs.size none),g,d,t,os⟩):
  codeAny (model pw w) A (.builtin "Exception.__new__" ⟨[.ref 325,v],[]⟩) R ⟨h,g,d,t,os⟩:=by
 have F:=wD;have hends:=F.ends;have hcB:(Value.ref 325::fy).contains (.type "Exception")=true:=by decide
 have hcA:(Value.ref 325::fy).contains (.type "AttributeError")=false:=by decide
 have hcN:(Value.ref 325::fy).contains (.type "NameError")=false:=by decide
 have hrest:([v]:List Value).length≤sizeLine:=by rw[lH];show 1≤_;decide
 refine codeAny_builtinAt F.entry ?_;unfold Builtin.«BaseException.__new__»;refine PySem.wpAt_bind ?_;show PySem.wpAt _ _ _ (stack>>=_) _ _ _;refine PySem.wpAt_bind (PySem.wpAt_stack λp below=>PySem.wpAt_of_wpAny ?_)
 wp_walk
 refine PySem.wpAt_of_wpAny ?_;rw[F.owner];repeat (first|with_reducible refine wpAny_madeHere_exc F.canon hC ?_|with_reducible refine lM hC ?_|(with_reducible refine vX hC ?_;first|rw[hcB]|rw[hcA]|rw[hcN])|wp_step)
 show R _ _;rw[dk];exact hq
theorem Lm{e:Addr}{oe:Obj}{rest:List Value}{Q:Unit→Shared→Prop}
  (hC:h.get? 325=some (excClassObj nmC q 325 N bs fy true sn sub ab col dd k0 k1 k2 k3 k5 "Exception.__new__"))(he:h.get? e=some oe)(hcls:oe.cls=.ref 325)(hq:Q () ⟨h,g,d,t,os⟩):
  wpAny (model pw w) A (checkBuiltinCall "Exception.__init__" ⟨.ref e::rest,[]⟩) Q E ⟨h,g,d,t,os⟩:=by
 have F:=wD;have hcB:(Value.ref 325::fy).contains (.type "Exception")=true:=by decide
 have hshort:=F.noStar;simp only[checkBuiltinCall,F.initKind,F.initSplit,F.initRow];repeat (first|(with_reducible refine lM he ?_;rw[hcls])|with_reducible refine lM hC ?_|(with_reducible refine vX hC ?_;rw[hcB])|wp_step)
 refine wpAny_onRaise ?_;rw[show∀(a b:String)(n:Nat),Bind.check ⟨.positional,"*","Exception",.self,[⟨"args",.varPos,false⟩]⟩ a b n (List.map (λx=>x.fst) ({pos:=Value.ref e::rest}:Args).kw)=pure () from
  λa b n=>check_star_args _ _ _ _ _ _]
 exact aQ hq
theorem Ln{e t0:Addr}{dx:Option Addr}{v:Value}{Q:Value→Shared→Prop}(hC:h.get? 325=some (excClassObj nmC q 325 N bs fy true sn sub ab col dd k0 k1 k2 k3 k5 "Exception.__new__"))(he:h.get? e=some (fi t0 dx))
  (hq:∀h' tk,(∀b o,b≠e→h.get? b=some o→h'.get? b=some o)→h.objs.size≤h'.objs.size→h'.get? e=some (fi h.objs.size dx)→Q .none ⟨h',g,d,tk,os⟩):
  wpAny (model pw w) A (call (.builtin "Exception.__init__") [.ref e,v]) Q E ⟨h,g,d,t,os⟩:=by
 have F:=wD;have hrest:([v]:List Value).length≤sizeLine:=by rw[lH];show 1≤_;decide
 refine lK (B8 F.init.plain F.initEntry (Lm hC he rfl ?_))
 wp_walk
 refine hq _ _ (λb o nb hb=>?_) ?_ ?_
 ·rw[Heap.get?_update_other _ _ (Ne.symm nb)];exact bc _ hb
 ·rw[wg,dk];exact kn _
 ·rw[s9 _ (bc _ he) rfl];rfl
theorem Ls{e t0:Addr}{v:Value}{tk:Tok}(X:(KF w.params).In h)(hC:h.get? 325=some (excClassObj nmC q 325 N bs fy true sn sub ab col dd k0 k1 k2 k3 k5 "Exception.__new__"))(he:h.get? e=some (fi t0 none))
  (hq:∀h' tk dx,(∀b o,b≠e→h.get? b=some o→h'.get? b=some o)→h.objs.size≤h'.objs.size→h'.get? e=some (fi t0 (some dx))→R (.ok (.ret .none)) ⟨h',g,d,tk,os⟩):
  codeAny (model pw w) A (.call (.builtin "object.__setattr__") ⟨[.ref e,.str (nm 29) tk,v],[]⟩) R ⟨h,g,d,t,os⟩:=by
 have SF:=PySem.F.store_Exception;have T:Looks (model pw w) h (typeOf (.ref e)) (.ref 325):=(Looks.ld (part:=none) he).andThen .now
 have hmro:Looks (model pw w) h (mroOf (.ref 325)) (.ref 325::fy):=λA Q E s k q=>by obtain⟨h2,g2,d2,t2,os2⟩:=s;exact wpAny_mroOf_exc (k _ _ hC) q
 have sub:Looks (model pw w) h (isInstance (.ref e) (.type "object")) true:=T.andThen λA Q E s k q=>by obtain⟨h2,g2,d2,t2,os2⟩:=s;exact vX (k _ _ hC) (by rw[show(Value.ref 325::fy).contains (.type "object")=true by decide];exact q)
 refine B8 SF.slot.plain SF.entry (@check_slot (model pw w) _ _ ⟨h,g,d,t,os⟩ "object.__setattr__" "object" "__setattr__" (.ref e) [.str (nm 29) tk,v] [] _ SF.kind SF.split sub (SF.args (.ref e) (.str (nm 29) tk) v) ?_);rw[osa_eq,refuse_eq];refine ah (ah (mU (s:=⟨h,g,d,t,os⟩) T (ah (mU (s:=⟨h,g,d,t,os⟩) hmro ?_))));rw[refuseLoop_ref,show fy=.ref 300::[.type "Exception",.type "BaseException",.type "object"] from rfl,refuseLoop_ref,SF.passes];refine aQ (ah (mU (s:=⟨h,g,d,t,os⟩) T (ah (mU (s:=⟨h,g,d,t,os⟩) (rA X (Lh w.params)) (ah (aQ ?_))))));show wpAny _ _ (Builtin.ObjectAttr.storeInOwnDict _ _ _ _ _ _) _ _ _;unfold Builtin.ObjectAttr.storeInOwnDict;refine ah (aQ ?_);repeat (first|with_reducible refine lM he ?_|with_reducible refine lM hC ?_|wp_step)
 have nz:e≠h.objs.size:=c9 (b9 he);let h1:Heap:=(h.push {cls:=.type "dict",data:=.dict #[]}).update e λo=>{cls:=o.cls,dict:=some h.objs.size,data:=o.data,slots:=o.slots};have gd:h1.get? h.objs.size=some (PySem.W.dictOf [] 0):=(wf _ _ _ _ nz.symm).trans (Heap.get?_push_at rfl rfl);have ge:h1.get? e=some (fi t0 (some h.objs.size)):=s9 _ (bc _ he) rfl;have ex:∀b o,b≠e→h.get? b=some o→h1.get? b=some o:=λb o nb hb=>(wf _ _ _ _ nb).trans (bc _ hb);have z1:h1.objs.size=h.objs.size+1:=by show((h.push _).update _ _).objs.size=_;rw[wg,dk]
 refine Am (aQ (ah (HZ (ah (HY gd ?_)))));have c:(!([]:List DictEntry).toArray.any (·.key.isStr (nm 29))&&([]:List DictEntry).toArray.any (·.refKey))=false:=by rw[←v9,←v9];rfl
 dsimp only;rw[IY,c];refine wpAny_updatePart gd ?_
 have D':(h1.update h.objs.size (Obj.putName (nm 29) (PyData.keyHash w.params (nm 29)) (.str (nm 29) t) v)).get? h.objs.size=some (PySem.W.dictOf (PySem.W.putL (nm 29) (PyData.keyHash w.params (nm 29)) (.str (nm 29) t) v []) (putN (nm 29) [] 0)):=by rw[s9 _ gd (by rw[zD];rfl),zD]
 refine ah (wpAny_lookBehind D' (pastItsLine_dict (by rw[bM,lH];show 1≤_;decide)) ?_);refine aQ (hq _ _ h.objs.size (λb o nb hb=>?_) ?_ ?_)
 ·exact(wf _ _ _ _ (c9 (b9 hb))).trans (ex b o nb hb)
 ·rw[wg,z1];exact kn _
 ·exact(wf _ _ _ _ nz).trans ge
theorem Lu{e t0:Addr}{v:Value}{Q:Unit→Shared→Prop}(X:(KF w.params).In h)(hC:h.get? 325=some (excClassObj nmC q 325 N bs fy true sn sub ab col dd k0 k1 k2 k3 k5 "Exception.__new__"))(he:h.get? e=some (fi t0 none))
  (hq:∀h' tk dx,(∀b o,b≠e→h.get? b=some o→h'.get? b=some o)→h.objs.size≤h'.objs.size→h'.get? e=some (fi t0 (some dx))→Q () ⟨h',g,d,tk,os⟩):
  wpAny (model pw w) A (setAttr (.ref e) (nm 29) v) Q E ⟨h,g,d,t,os⟩:=by have T:Looks (model pw w) h (typeOf (.ref e)) (.ref 325):=(Looks.ld (part:=none) he).andThen .now;refine ah (HZ (ah (ah (ah (T _ _ _ _ (λ_ _ e=>e) (rA X (Li w.params) _ _ _ _ (λ_ _ e=>e) (fZ ?_)))))));rw[PySem.F.store_object.slot.bind];refine ah (aQ (ah (lK (Ls X hC he λh' tk dx k1 k2 k3=>aQ (aQ (hq h' tk dx k1 k2 k3))))))
theorem Ll{v:Value}{Q:Value→Shared→Prop}(X:(KF w.params).In h)(hC:h.get? 325=some (excClassObj nmC q 325 N bs fy true sn sub ab col dd k0 k1 k2 k3 k5 "Exception.__new__"))
  (hq:∀h2,(∀b o,h.get? b=some o→h2.get? b=some o)→h2.objs.size=h.objs.size+2→h2.get? (h.objs.size+1)=some (fi h.objs.size none)→
   codeAny (model pw w) (A.under (.builtin "type.__call__" ⟨[.ref 325,v],[]⟩)) (.call (.ref 297) ⟨[.ref (h.objs.size+1),v],[]⟩) (λr s'=>match r with|.ok (.ret x)=>x=.none∧Q (.ref (h.objs.size+1)) s'|.ok _=>False|.error e=>E e s') ⟨h2,g,d,t,os⟩):
  wpAny (model pw w) A (call (.ref 325) [v]) Q E ⟨h,g,d,t,os⟩:=by
 have F:=wD;have f1:=tc_lookup;have f2:=tc_bind (.ref 325);have hT:(⟨h,g,d,t,os⟩:Shared).TypeIs (.ref 325) "type":=⟨_,hC,rfl⟩;refine lK (codeAny_of_tree ?_);show wpAny _ _ (callAny (.ref 325) _) _ _ _;repeat (any_goals (first|assumption|with_reducible refine lM hC ?_|wp_step))
 refine⟨rfl,?_⟩;refine codeAny_call_builtin_at (Code.quiet_builtin _ (by decide+kernel)) entry_typeCall (wpAny_check_type_call_sub hC ?_);repeat (first|with_reducible refine lM hC ?_|with_reducible refine wpAny_madeBy_exc hC ?_|wp_step)
 refine codeAny_call_builtin_code (Code.quiet_builtin _ F.quiet) (wpAny_check_new_subU F (bmB:=fy) (by decide) .base hC ?_);refine Lr hC ?_;show wpAny _ _ _ _ _ _;have hC₁:=bc (fi h.objs.size none) (bc {cls:=.type "tuple",data:=.seq #[v]} hC);have hget:((h.push {cls:=.type "tuple",data:=.seq #[v]}).push (fi h.objs.size none)).get? (h.objs.size+1)=some (fi h.objs.size none):=by heap_get
 have k2:∀b o,h.get? b=some o→((h.push {cls:=.type "tuple",data:=.seq #[v]}).push (fi h.objs.size none)).get? b=some o:=λb o e=>bc _ (bc _ e);have X₁:(KF w.params).In ((h.push {cls:=.type "tuple",data:=.seq #[v]}).push (fi h.objs.size none)):=λb o e=>k2 _ _ (X b o e);have hcC:(Value.ref 325::fy).contains (.ref 325)=true:=by decide
 unfold isInstance;repeat (first|with_reducible refine lM hget ?_|(with_reducible refine vX hC₁ ?_;rw[hcC])|wp_step)
 refine mU (s:=⟨(h.push {cls:=.type "tuple",data:=.seq #[v]}).push (fi h.objs.size none),g,d,_,os⟩) (rA X₁ (Lg w.params)) ?_;refine fZ (ah (mU (s:=⟨(h.push {cls:=.type "tuple",data:=.seq #[v]}).push (fi h.objs.size none),g,d,_,os⟩) (bind_fn X₁ _ (Ld w.params)) (ah (lK (Cb (hq _ k2 (by rw[dk,dk]) hget) λr s' z=>?_)))));rcases r with e|(x|_|_|_)<;>first|exact z|exact z.elim|skip
 obtain⟨rfl,z⟩:=z;exact aQ (aQ z)
end
noncomputable def kN:FuncData:=bX "__init__" "MarkupError.__init__" (mp 47 0) 3 N N N (S "markupmill.errors" 541) (R 296) N 0
theorem LD(P:Params):(KF P).lookup 297=some {cls:=.type "function",data:=.func kN}:=by kernel_rfl
theorem LG(P:Params):codeIn (KF P) kN.code kN.qualname=true:=by kernel_rfl
theorem LF(P:Params)(a b:Value):∀S,peek (KF P) S (bindArgs kN ⟨[a,b],[]⟩)=some [(Str.ofString "self",a),(Str.ofString "message",b)]:=λS=>by kernel_rfl
theorem LJ:∃p1 p2 p3 p4 p5 p6 p7 p8 p9 p10,(p2.endLine==p5.line)=true∧(mp 47 0).body=[.Expr (.Call (.Attribute (.Name (Str.ofString "Exception") p1) (Str.ofString "__init__") p2) [.Name (Str.ofString "self") p3,.Name (Str.ofString "message") p4] [] p5) p6,.Assign [.Attribute (.Name (Str.ofString "self") p7) (nm 29) p8] (.Name (Str.ofString "message") p9) p10]:=⟨⟨239,8,239,17⟩,⟨239,8,239,26⟩,⟨239,27,239,31⟩,⟨239,33,239,40⟩,⟨239,8,239,41⟩,⟨239,8,239,41⟩,⟨240,8,240,12⟩,⟨240,8,240,20⟩,⟨240,23,240,30⟩,⟨240,8,240,30⟩,rfl,by kernel_rfl⟩
theorem LH:kN.scope.names.lookup (Str.ofString "self")=some .local∧kN.scope.names.lookup (Str.ofString "message")=some .local∧kN.scope.names.lookup (Str.ofString "Exception")=some .globalImplicit:=⟨by kernel_rfl,by kernel_rfl,by kernel_rfl⟩
theorem Le(P:Params):fQ (KF P) (Str.ofString "Exception")=some (.type "Exception"):=by kernel_rfl
theorem Lk:typeOf (.type "Exception")=pure (.type "type"):=by kernel_rfl
theorem Lf:handedIn (.builtin "Exception.__init__")=true:=by kernel_rfl
theorem Lj:Manifest.isStub "Exception"=false:=by decide+kernel
theorem QG{prog:Program}{w:World}{A:Around}{E:Value→Shared→Prop}{s:Shared}{K:Frag}{name:Str}{v:Value}{T:String}{pl:Sem Bool}{Q:Value×List Value→Shared→Prop}(X:K.In s.heap)(ht:typeOf (.type T)=pure (.type "type"))(hs:Manifest.isStub T=false)
  (e:findCls K (.type T) (.type "type") name=some (.val v))(hh:handedIn v=true)(h:Q (v,[]) {s with toks:=s.toks+1}):wpAny (model prog w) A (getMethod (.type T) name pl) Q E s:=by
 have hstub:opaqueClassAbove (.type T)=pure none:=by unfold opaqueClassAbove;dsimp only;rw[hs];rfl
 have L0:Looks (model prog w) s.heap (typeOf (.type T)) (.type "type"):=Looks.of_pure ht;have hg:findIn K (.type "type") "__getattribute__"=some (some (.builtin "type.__getattribute__")):=type_tga;unfold getMethod specialOf;refine ah (ah (L0.here ((rA X hg).here ?_)));dsimp only;rw[bF canon_tga];refine ah (dZ (Q:=λv=>Q (v,[])) (E:=E) ?_ (λ_ _ z=>aQ z) λ_ _ z=>z);have LO:Looks (model prog w) s.heap (opaqueClassAbove (.type T)) none:=Looks.of_pure hstub;refine cls_open X LO L0 hg (looks_hook X (r:=none) (by rfl)) (by show subIn K _ _=_;rfl) e
  (aQ (by show wpAny _ _ (handedOut v) _ _ _;rw[handedOut_of hh];exact aQ h))
section
variable{cx:Cx}{sl:List Str}{p:Pt}{A:Around}
theorem Lo(K0:bq cx)(b:dH cx.w cx.B){n:Nat}(rm:Rm n A)(R:SR cx sl p){s:Shared}{tk0:Tok}{v:Value}{Q:Value→Shared→Prop}{E:Value→Shared→Prop}
  (hQ:∀e h' tk t0 dx,(∀b o,p.h.get? b=some o→h'.get? b=some o)→p.h.objs.size≤e→h'.get? e=some (fi t0 dx)→Q (.ref e) (Sh s h' tk)):wpAny (model pw cx.w) A (call (.ref 325) [v]) Q E (Sh s p.h tk0):=by
 obtain⟨h,g,d,t,os⟩:=s;show wpAny _ _ _ _ _ ⟨p.h,g,d,tk0,os⟩;have X:=R.K K0;obtain⟨nm,q,N,bs,sn,sub,ab,col,dd,k0,k1,k2,k3,k5,ho⟩:=CK cx.w.params;have hC:=X _ _ ho;refine Ll X hC λh2 e2 z2 ge=>?_;have X2:(KF cx.w.params).In h2:=λb o e=>e2 _ _ (X b o e);have NL:h2.NoLimit:=b.nolim.at λo e=>e2 _ _ (R.toHR.base _ o e (by rintro(q|q)<;>cases q));obtain⟨p1,p2,p3,p4,p5,p6,p7,p8,p9,p10,hline,hbody⟩:=LJ
 have hroom:(A.under (.builtin "type.__call__" ⟨[.ref 325,v],[]⟩)).depth<recursionLimit:=by show A.depth+(Code.builtin "type.__call__" ⟨[.ref 325,v],[]⟩).weight<recursionLimit;rw[HQ];have:=rm.depth;unfold recursionLimit;omega
 have lk:=LH;refine B9 (s:=⟨h2,g,d,tk0,os⟩) (fd:=kN) hroom (X2 _ _ (LD cx.w.params)) rfl NL (codeRec_of X2 (LG cx.w.params)) rfl (yU (s:=⟨h2,g,d,tk0,os⟩) X2 (LF cx.w.params (.ref (p.h.objs.size+1)) v)) rfl ?_ (λs1 I=>?_) rfl rfl (by kernel_rfl)
 ·intro x hx;rcases List.mem_cons.mp hx with rfl|hx
  ·exact .inl lk.1
  ·rcases List.mem_cons.mp hx with rfl|hx
   ·exact .inl lk.2.1
   ·cases hx
 ·have IC:=I.toInCall;obtain⟨hh,tk,rfl⟩:=IC.same;have keep:∀b o,h2.get? b=some o→hh.get? b=some o:=IC.keep;have z3:h2.objs.size≤hh.objs.size:=aJ IC.fresh (f8 IC.ns.lt);let env:=callEnvC kN h2.objs.size 297;have hL:h2.objs.size≤env.locals:=IC.fresh;have hl:env.locals<hh.objs.size:=IC.ns.lt;have nd:([(Str.ofString "self",Value.ref (p.h.objs.size+1)),(Str.ofString "message",v)].map (·.1)).Nodup:=by show [Str.ofString "self",Str.ofString "message"].Nodup;decide+kernel
  have m1:bindL env.kindOf [(Str.ofString "self",Value.ref (p.h.objs.size+1)),(Str.ofString "message",v)] (λ_=>none) (Str.ofString "self")=some (.ref (p.h.objs.size+1)):=tJ lk.1 nd (.head _);have m2:bindL env.kindOf [(Str.ofString "self",Value.ref (p.h.objs.size+1)),(Str.ofString "message",v)] (λ_=>none) (Str.ofString "message")=some v:=tJ lk.2.1 nd (.tail _ (.head _));obtain⟨om,es,ep,n1,n2⟩:=IC.ns
  have y8:env.locals≠p.h.objs.size+1:=λq=>by
   have: @LT.lt Nat _ env.locals h2.objs.size:=by rw[q,z2];exact eN _
   exact absurd this (Nat.not_lt.mpr hL)
  have hk:env.scope.kind=.function:=rfl
  have self:∀{A:Around}{E:Value→Shared→Prop}{Q:Value→Shared→Prop}{h3:Heap}{t3:Tok}{ps:Pos},h3.get? env.locals=some om→Q (.ref (p.h.objs.size+1)) ⟨h3,g,d,t3,os⟩→wpAny (model pw cx.w) A (eval (.Name (Str.ofString "self") ps) env) Q E ⟨h3,g,d,t3,os⟩:=λ{A E Q h3 t3 ps} k q=>sK (vY hk lk.1 ⟨om,es,ep,k,n2⟩ m1 q) (by decide+kernel)
  have msg:∀{A:Around}{E:Value→Shared→Prop}{Q:Value→Shared→Prop}{h3:Heap}{t3:Tok}{ps:Pos},h3.get? env.locals=some om→Q v ⟨h3,g,d,t3,os⟩→wpAny (model pw cx.w) A (eval (.Name (Str.ofString "message") ps) env) Q E ⟨h3,g,d,t3,os⟩:=λ{A E Q h3 t3 ps} k q=>sK (vY hk lk.2.1 ⟨om,es,ep,k,n2⟩ m2 q) (by decide+kernel)
  have X3:(KF cx.w.params).In hh:=λb o e=>keep _ _ (X2 b o e);show wpAny _ _ (execs (mp 47 0).body env) _ _ _;rw[hbody];have hC3:=X3 _ _ ho;have K3:bq {cx with env:=env}:=⟨rfl,rfl,rfl,K0.says⟩;refine kg (wpAny_Expr ?_);rw[arm_eval_Call,show attributeBase (.Name (Str.ofString "Exception") p1) (Str.ofString "__init__") env (eval (.Name (Str.ofString "Exception") p1) env)=eval (.Name (Str.ofString "Exception") p1) env from rfl];refine ah (tz hk lk.2.2 (q8 (cx:={cx with env:=env}) K3 X3 (Le cx.w.params) ?_) (by decide+kernel));refine ah (iJ ?_);unfold methodCall;rw[show methodCallForm (([.Name (Str.ofString "self") p3,.Name (Str.ofString "message") p4]:List Expr).length+([]:List Keyword).length) (backTo p5 (starEach [.Name (Str.ofString "self") p3,.Name (Str.ofString "message") p4] env)) (backToKw p5 (keywordEach [] env))=true from rfl];have hpos:methodCallPos true (.Name (Str.ofString "Exception") p1) env p2 p5=pure p5:=by unfold methodCallPos;simp[hline]
  refine ah (fZ ?_);show wpAny _ _ (getMethod (.type "Exception") (Str.ofString "__init__") _) _ _ _;refine QG (w:=cx.w) (K:=KF cx.w.params) (T:="Exception") (name:=Str.ofString "__init__") (v:=.builtin "Exception.__init__") X3 Lk Lj (Lc cx.w.params) Lf ?_;refine ah (H8 hpos ?_);refine tN (by rfl) (kM (cx:={cx with env:=env}) (es:=[.Name (Str.ofString "self") p3,.Name (Str.ofString "message") p4]) (by rfl) (kD (self n1 (kD (msg n1 (qu ?_)) (by rfl))) (by rfl)));refine Ln hC3 (keep _ _ ge) λh4 tk4 e4 z4 ge4=>?_;have nL4:h4.get? env.locals=some om:=e4 _ _ y8 n1
  have X4:(KF cx.w.params).In h4:=λb o e=>e4 _ _ (λq=>by have:=b9 (X _ _ e);rw[q] at this;exact absurd this (Nat.not_lt.mpr (kn _))) (X3 _ _ e)
  refine kg (Sz (msg nL4 (self nL4 (Lu X4 (X4 _ _ ho) ge4 λh5 tk5 dx e5 z5 ge5=>Ao ⟨rfl,?_⟩))));refine hQ _ h5 tk5 _ _ (λb o e=>?_) (kn _) ge5;have ne:b≠p.h.objs.size+1:=λq=>absurd (q▸b9 e) (Nat.not_lt.mpr (kn _));exact e5 _ _ ne (e4 _ _ ne (keep _ _ (e2 _ _ e)))
theorem SR.flt(R:SR cx sl p){h':Heap}{e t0:Addr}{dx:Option Addr}(k:∀b o,p.h.get? b=some o→h'.get? b=some o)(he:p.h.objs.size≤e)(ge:h'.get? e=some (fi t0 dx)):lO cx.B cx.fr (.ref e) h':=by
 have G:=R.toHR
 have inL:∀L,L∈cx.fr.filterMap (·.frame)→cx.B.get? L=none∧¬cX L∧oW p.h L:=λL hm=>(List.mem_filterMap.mp hm).elim λenv q=>(R.c.frK env q.1).2.elim λL' w=>by cases q.2.symm.trans w.1;exact⟨w.2,R.c.offA _ (.inr (.inr ⟨env,q.1,w.1⟩)),R.frs env q.1 _ w.1⟩
 have ff:∀l:List Env,(∀env∈l,env∈cx.fr)→h'.FunFrames (hideAll p.h (cx.fr.filterMap (·.frame))) l:=by
  intro l;induction l with
  |nil=>exactλ_=>trivial
  |cons env r ih=>intro hm;have kf:=R.c.frK env (hm _ (.head _));obtain⟨L,f1,_⟩:=kf.2;obtain⟨o,g1,n1⟩:=R.frs env (hm _ (.head _)) L f1;exact⟨kf.1,⟨L,o,f1,hideAll_none _ (List.mem_filterMap.mpr ⟨env,hm _ (.head _),f1⟩),k _ _ g1,n1⟩,ih λe he=>hm e (.tail _ he)⟩
 have tb:∀{P q ps},cX P→eF p.h (HA cx.X p.M p.σ.H) P q ps→eF (hideAll p.h (cx.fr.filterMap (·.frame))) (λ_=>False) P q ps:=λ{P q ps} t x=>by
  have gP:∀o,p.h.get? P=some o→(hideAll p.h (cx.fr.filterMap (·.frame))).get? P=some o:=λo q=>DG _ q λm=>(inL _ m).2.1 t;cases x with
  |nil x=>exact .nil (gP _ x)
  |one e1 e2 _ e3 e4=>refine .one (gP _ e1) (DG _ e2 λm=>?_) id e3 e4;obtain⟨o',g1,n1⟩:=(inL _ m).2.2;cases e2.symm.trans g1;exact n1 _ e3
 refine .new rfl (λb o q nt=>DG _ (G.base b o q nt) λm=>nS ((inL _ m).1.symm.trans q)) ⟨tb (.inl rfl) G.tabs.t0,tb (.inr rfl) G.tabs.t1⟩ (λb o q=>k _ _ (of_hideAll _ q)) (ff cx.fr λ_ h=>h) ?_ ge rfl rfl rfl rfl;cases q:(hideAll p.h (cx.fr.filterMap (·.frame))).get? e with
 |none=>rfl
 |some o=>exact iE (of_hideAll _ q) he
end
section
variable{M:Model}{A:Around}{E:Value→Shared→Prop}{env:Env}
variable{nmC q:Str}{N:Addr}{bs:List Value}{sn:List Str}{sub:List Value}{ab:Bool}{col:Option Bool}{dd:Option Addr}{k0 k1 k2 k3 k5:Option Value}
theorem SU{s:Shared}{x:Sem Value}{Q:Flow→Shared→Prop}(hh:A.handled=none)
  (h:wpAny M A x (λv s₁=>∃e t dx,v=.ref e∧s₁.heap.get? 325=some (excClassObj nmC q 325 N bs fy true sn sub ab col dd k0 k1 k2 k3 k5 "Exception.__new__")∧s₁.heap.get? e=some (fi t dx)∧E (.ref e) s₁) E s):
  wpAny M A (raiseStmt env (some x) none) Q E s:=by
 have hcB:(Value.ref 325::fy).contains (.type "BaseException")=true:=by decide
 unfold raiseStmt;refine ah (dZ h (λv s₁ h₁=>?_) λ_ _ x=>x);obtain⟨e,t,dx,rfl,hC,he,hE⟩:=h₁;obtain⟨hp,g,d,tk,os⟩:=s₁;repeat (first|with_reducible refine lM he ?_|with_reducible refine lM hC ?_|(with_reducible refine vX hC ?_;rw[hcB])|wp_step)
 exact wpAny_raiseNew_none hh hE
end
section
variable{cx:Cx}{sl:List Str}{p:Pt}
theorem TN(K0:bq cx)(b:dH cx.w cx.B){x:Str}{np cpos pos:Pos}{e:Expr}{f:Fm RV}(hx:eW cx x (.ref 325))
  (hse:starEach [e] cx.env=(false,eval e cx.env)::starEach [] cx.env)(h:aH cx sl (eval e cx.env) f):df cx sl (exec (.Raise (some (.Call (.Name x np) [e] [] cpos)) none pos) cx.env) λst=>(f st).bind λ_ _=>.err:=λp A s tk Q E ar R z=>by obtain⟨nm,q,N,bs,sn,sub,ab,col,dd,k0,k1,k2,k3,k5,ho⟩:=CK cx.w.params;have hpl:gC [e] cx.env:=hse;rw[arm_exec_Raise];refine ah (iJ (SU (nmC:=nm) (q:=q) (N:=N) (bs:=bs) (sn:=sn) (sub:=sub) (ab:=ab) (col:=col) (dd:=dd) (k0:=k0) (k1:=k1) (k2:=k2) (k3:=k3) (k5:=k5) ar.rm.hand ?_));refine ah (dZ (wpAny_Call_ofName (j0 K0 hx (s:=Sh s p.h tk) (R.K K0) ?_)) (λv s₃ h₃=>ah (iJ (aQ h₃))) λ_ _ x=>x);unfold callWith;refine ah (fZ (kM hpl (kD (h p A s tk _ E ar R (z.bd λv y P tk o va z=>qu (ah (iJ ?_)))) hse)));simp only[vm hpl];have hC:=(o.r.K K0) _ _ ho;refine ah (wpAny_keeperOf_exc hC ?_);refine ah (Lo (s:=s) (tk0:=tk) K0 b ar.rm o.r λe' h' tk' t0 dx k1' z1 ge=>ah (fZ (wpAny_point (aQ ?_))));exact⟨e',t0,dx,rfl,k1' _ _ hC,ge,z _ _ _ (o.r.flt k1' z1 ge)⟩
end
end
section
open PySem.SeqAt
mutual
inductive X where
 |bad
 |var (i:Nat)
 |con (x:AV)
 |glf (a:Nat)
 |glc (i:Nat)
 |bin (op:Operator) (own:Bool) (a b:X)
 |pow (a b:X)
 |cmp (op:CmpOp) (a b:X)
 |cmpI (a b:X)
 |cmpD (a b:X)
 |cmp2 (o1 o2:CmpOp) (a b c:X)
 |no (a:X)
 |neg (a:X)
 |ite (c a b:X)
 |and (a b:X)
 |or (a b:X)
 |attr (j:Nat) (a:X)
 |sub (a i:X)
 |sli (own:Bool) (a lo hi st:X)
 |call (m:Nat) (f:X) (l:XL)
 |meth (j m:Nat) (o:X) (l:XL)
 |bm (k:Bm) (o:X) (l:XL)
 |bf (k:Bf) (l:XL)
 |isi (cs:List Nat) (a:X)
 |tup (l:XL)
 |lst (own:Bool) (l:XL)
 |dct (own:Bool) (ks:List (List Nat)) (l:XL)
 |comp (k:Nat) (caps is:List Nat) (u:XU) (e:X)
 |compc (k:Nat) (caps is:List Nat) (u:XU) (c e:X)
 |comp2 (k:Nat) (caps is is2:List Nat) (u u2:XU) (e:X)
inductive XL where
 |nil
 |cons (x:X) (l:XL)
inductive XU where
 |ones (x:X)
 |tups (x:X)
 |enum (x:X)
 |zip (a b:X)
 |range (x:X)
end
inductive XS where
 |done
 |bad
 |seq (a b:XS)
 |set (i:Nat) (x:X)
 |setT (swp:Bool) (is:List Nat) (x:X)
 |setI (x a i:X)
 |setD (x a i:X)
 |setA (j:Nat) (x a:X)
 |ifs (c:X) (a b:XS)
 |ret (x:X)
 |expr (x:X)
 |raise (x:X)
 |for1 (i:Nat) (x:X) (b:XS)
 |forT (is:List Nat) (u:XU) (b:XS)
 |whl (c:X) (b:XS)
 |fz (g:Nat) (is:List Nat) (s:XS)
noncomputable def ul:Nat→AV
 |0=>.tup [.int 0,.int 0]
 |1=>.tup [.int 0,.int 1]
 |2=>.tup [.str e9,.str ik,.str lX,.str [105,100],.str IQ,.str IR,.str [110,97,109,101],.str [115,117,109],.str [108,97,110,103]]
 |3=>.tup [.str lW,.str qn,.str fL,.str ij]
 |4=>.tup [.str [110,117,109,98,101,114],.str [102,108,111,111,114],.str [99,101,105,108,105,110,103],.str [114,111,117,110,100]]
 |5=>.tup [.str gp,.str Bv,.str IT,.str IX,.str IV,.str IU,.str Bt,.str Bs,.str Bq,.str Bu]
 |6=>.tup [.str e9,.str ik,.str fL,.str ij]
 |7=>.tup [.str IQ,.str IR,.str [110,97,109,101],.str gp,.str [110,117,109,98,101,114],.str Bs,.str Bq]
 |8=>.tup [.str IT,.str IX,.str IV,.str IU]
 |9=>.int 1000
 |10=>.tup [.str [61],.str fw,.str [60],.str fM,.str [62],.str ga]
 |11=>.tup [.str fb,.str ql]
 |_=>.none
section
variable(fo:Fo)
mutual
noncomputable def ev:X→Fm RV
 |.bad=>λ_=>.bad
 |.var i=>uh i
 |.con x=>aI (.v x)
 |.glf a=>aI (.v (.glob (.ref a)))
 |.glc i=>aI (.v (ul i))
 |.bin op own a b=>λst=>(ev a st).bind λx st=>(ev b st).bind λy st=>fP op own x y st
 |.pow a b=>λst=>(ev a st).bind λx st=>(ev b st).bind λy st=>uc x y st
 |.cmp op a b=>λst=>(ev a st).bind λx st=>(ev b st).bind λy st=>cj op x y st
 |.cmpI a b=>λst=>(ev a st).bind λx st=>(ev b st).bind λy st=>t7 x y st
 |.cmpD a b=>λst=>(ev a st).bind λx st=>(ev b st).bind λy st=>qP x y st
 |.cmp2 o1 o2 a b c=>λst=>(ev a st).bind λx st=>(ev b st).bind λy st=>(cj o1 x y st).bind λt st=>(cm t st).bind λt st=>cond t ((ev c st).bind λz st=>cj o2 y z st) (.ok (.v (.bool false)) st)
 |.no a=>λst=>(ev a st).bind λx st=>pq x st
 |.neg a=>λst=>(ev a st).bind λx st=>pn x st
 |.ite c a b=>λst=>(ev c st).bind λx st=>(cm x st).bind λt st=>cond t (ev a st) (ev b st)
 |.and a b=>jQ true (ev a) (ev b)
 |.or a b=>jQ false (ev a) (ev b)
 |.attr j a=>λst=>(ev a st).bind λx st=>t5 j x st
 |.sub a i=>λst=>(ev a st).bind λx st=>(ev i st).bind λy st=>bH x y st
 |.sli own a lo hi z=>λst=>(ev a st).bind λx st=>(ev lo st).bind λl st=>(ev hi st).bind λh st=>(ev z st).bind λz st=>l6 own x l h z st
 |.call m f l=>λst=>(ev f st).bind λx st=>(cK l st).bind λxs st=>jj fo m x xs st
 |.meth j m o l=>λst=>(ev o st).bind λx st=>xT fo j m (cK l) x st
 |.bm k o l=>λst=>(ev o st).bind λx st=>aK (k.ok x st.H) (λst=>(cK l st).bind λxs st=>k.f x xs st) st
 |.bf k l=>λst=>(cK l st).bind λxs st=>k.f xs st
 |.isi cs a=>λst=>(ev a st).bind λx st=>t9 cs x st
 |.tup l=>λst=>(cK l st).bind λxs st=>qR xs st
 |.lst own l=>λst=>(cK l st).bind λxs st=>xR own xs st
 |.dct own ks l=>λst=>(cK l st).bind λxs st=>t8 own ks xs st
 |.comp k caps is u e=>λst=>(gR u st).bind λxs st=>fj k caps (fC is none (ev e)) xs st
 |.compc k caps is u c e=>λst=>(gR u st).bind λxs st=>fj k caps (fC is (some (ev c)) (ev e)) xs st
 |.comp2 k caps is is2 u u2 e=>λst=>(gR u st).bind λxs st=>fj k caps (iU is is2 (gR u2) (ev e)) xs st
noncomputable def cK:XL→Fm (List RV)
 |.nil=>aI []
 |.cons x l=>λst=>(ev x st).bind λy st=>(cK l st).bind λr st=>.ok (y::r) st
noncomputable def gR:XU→Fm (List (List RV))
 |.ones x=>λst=>(ev x st).bind λy st=>ua y st
 |.tups x=>λst=>(ev x st).bind λy st=>xY y st
 |.enum x=>λst=>(ev x st).bind λy st=>xO y st
 |.zip a b=>λst=>(ev a st).bind λx st=>(ev b st).bind λy st=>ui x y st
 |.range x=>λst=>(ev x st).bind λy st=>xV y st
end
end
noncomputable def mQ:Nat:=1099511627776
noncomputable def aP(fo:Fo):XS→Fm aY
 |.done=>aI .next
 |.bad=>λ_=>.bad
 |.seq a b=>λst=>(aP fo a st).bind λfl st=>nM fl (aP fo b) st
 |.set i x=>λst=>(ev fo x st).bind λv st=>.ok .next ⟨bp st.loc i (some v),st.H⟩
 |.setT swp is x=>λst=>(ev fo x st).bind λv st=>qS swp is v st
 |.setI x a i=>λst=>(ev fo x st).bind λv st=>(ev fo a st).bind λo st=>(ev fo i st).bind λk st=>uf v o k st
 |.setD x a i=>λst=>(ev fo x st).bind λv st=>(ev fo a st).bind λo st=>(ev fo i st).bind λk st=>ue v o k st
 |.setA j x a=>λst=>(ev fo x st).bind λv st=>(ev fo a st).bind λo st=>ud j v o st
 |.ifs c a b=>λst=>(ev fo c st).bind λt st=>(cm t st).bind λt st=>cond t (aP fo a st) (aP fo b st)
 |.ret x=>λst=>(ev fo x st).bind λv st=>.ok (.ret v) st
 |.expr x=>λst=>(ev fo x st).bind λv st=>aK (uU v) (aI .next) st
 |.raise x=>λst=>(ev fo x st).bind λ_ _=>.err
 |.for1 i x b=>λst=>(ev fo x st).bind λv st=>aj (jS v st.H) (λxs st=>(iz i (aP fo b) xs st).noErr) st
 |.forT is u b=>λst=>(gR fo u st).bind λxs st=>(iA is (aP fo b) xs st).noErr
 |.whl c b=>λst=>(jT (ev fo c) (aP fo b) mQ st).noErr
 |.fz g is s=>xQ g is (aP fo s)
end
section
open PySem.SeqAt
noncomputable def nW(n:Nat)(e:Expr):Bool:=Nat.beq e.ctorIdx n
noncomputable def kU(e:Expr):Bool:=nW 22 e
theorem lI{e:Expr}{rest:List Expr}{env:Env}(h:kU e=false):starEach (e::rest) env=(false,eval e env)::starEach rest env:=by cases e<;>first|rfl|exact nB h.symm
noncomputable def j2:List Expr→Bool
 |[]=>true
 |e::l=> !kU e&&j2 l
theorem j6{env:Env}:∀{es:List Expr},j2 es=true→gC es env
 |[],_=>rfl
 |e::l,h=>(lI (cy (aA h).1)).trans (congrArg (_::·) (j6 (aA h).2))
noncomputable def uE(e:Expr):Bool:=if h:e.ctorIdx=16 then Expr.Call.elim (motive_1:=λ_=>Bool) e h (λ_ l _ _=>l.isEmpty) else false
theorem w0{e:Expr}{a:Str}{env:Env}{whole:Sem Value}(h:uE e=false):attributeBase e a env whole=whole:=by
 cases e<;>first|rfl|skip
 rename_i f l k p;cases l with
 |nil=>exact nB h.symm
 |cons x l=>cases f<;>rfl
noncomputable def DS(e:Expr):Bool:=nW 20 e
theorem l4{f:Expr}{es:List Expr}{pos:Pos}{env:Env}(h:DS f=false):eval (.Call f es [] pos) env=(do callWith pos (←eval f env) [] (backTo pos (starEach es env)) (backToKw pos (keywordEach [] env))):=by cases f<;>first|with_unfolding_all rfl|exact nB h.symm
noncomputable def iC(e:Expr):Bool:=nW 7 e
theorem nN{e:Expr}{env:Env}(h:iC e=false):∀v,foldedSetIterable e env v=pure v:=λv=>by cases e<;>first|rfl|exact nB h.symm
theorem rf{op:CmpOp}{e:Expr}(h:iC e=false):behindInMarks op e=false:=by cases e<;>first|rfl|exact nB h.symm
noncomputable def kR(e:Expr):Bool:=nW 8 e||nW 9 e||nW 10 e
theorem qc{e:Expr}{t:Option Expr}{l:Nat}{env:Env}(h:kR e=false):swapsWith e t l env=pure false:=by cases e<;>first|rfl|exact nB h.symm
noncomputable def D1(e:Expr):Bool:=nW 25 e
theorem UV{ts:List Expr}{k:Nat}{tp:Pos}{e:Expr}{env:Env}(h:D1 e=false):swappedStores [.Tuple ts k tp] e env=pure none:=by cases e<;>first|rfl|exact nB h.symm
noncomputable def rz(kd:Str→Option NameKind)(l:Nat):List (Str×Pos)→Bool
 |[]=>true
 |q::r=>kd q.1==some .local&&q.2.line==l&&rz kd l r
theorem Qq{kd:Str→Option NameKind}{l:Nat}{q:Str×Pos}{r:List (Str×Pos)}:rz kd l (q::r)=(kd q.1==some .local&&q.2.line==l&&rz kd l r):=rfl
noncomputable def uV:List (Str×Pos)→Bool
 |[]=>true
 |q::r=> !(r.any λz=>z.1==q.1)&&uV r
noncomputable def GP(vs:List Expr):Bool:=vs.any λ|.Starred .. =>true|_=>false
noncomputable def vO(kd:Str→Option NameKind)(ts:List (Str×Pos))(e:Expr):Option Bool:=match e with
 |.Tuple vs _ _=>match(ts.length==2||ts.length==3)&&vs.length==ts.length&& !GP vs,ts with
  |true,q::_=>match rz kd q.2.line ts&&uV ts with
   |true=>match vs.all (foldedForSure 8) with
    |true=>some false
    |false=>match vs.all (constantsAlone 8) with
     |true=>none
     |false=>some true
   |false=>none
  |_,_=>none
 |_=>some false
theorem EH:∀{ts:List (Str×Pos)},uV ts=true→(ts.map (·.1)).eraseDups.length=(ts.map (·.1)).length
 |[],_=>rfl
 |q::r,h=>by
  rw[uV,gJ,Bool.not_eq_true'] at h;rw[gM,List.eraseDups_cons]
  have:(r.map (·.1)).filter (λb=> !b==q.1)=r.map (·.1):=by rw[List.filter_eq_self];intro a ha;obtain⟨z,hz,rfl⟩:=List.mem_map.mp ha;have:=List.any_eq_false.mp h.1 z hz;simpa using this
  rw[this,bV,bV,EH h.2]
theorem Eo{kd:Str→Option NameKind}{env:Env}(hk:∀x,env.kindOf x=kd x){l:Nat}:∀{ts:List (Str×Pos)},rz kd l ts=true→
  (dT ts).filterMap (λ|.Name id pos=>if env.kindOf id==some .local&&pos.line==l then some id else none|_=>none)=ts.map (·.1)
 |[],_=>rfl
 |q::r,h=>by rw[Qq,gJ,gJ] at h;show List.filterMap _ (Expr.Name q.1 q.2::dT r)=_;rw[List.filterMap_cons,Eo hk h.2];simp only[hk,h.1.1,h.1.2,Bool.and_self,if_true,gM]
theorem y6(ts:List (Str×Pos)):(dT ts).length=ts.length:=aU ..
noncomputable def UT(ts:List (Str×Pos)):Bool→Option (List Str)
 |true=>some (ts.map (·.1))
 |false=>none
theorem US{kd:Str→Option NameKind}{env:Env}(hf:env.scope.kind=.function)(hk:∀x,env.kindOf x=kd x){ts:List (Str×Pos)}{e:Expr}{k:Nat}{tp:Pos}{b:Bool}(h:vO kd ts e=some b):
  swappedStores [.Tuple (dT ts) k tp] e env=pure (UT ts b):=by
 have hb:env.blockKind=.function:=by unfold Env.blockKind;rw[hf];rfl
 cases hq:D1 e with
 |false=>
  have q:vO kd ts e=some false:=by cases e<;>first|rfl|exact nB hq.symm
  rw[q] at h;cases h;exact UV hq
 |true=>
  obtain⟨vs,k',p',rfl⟩:∃vs k' p',e=.Tuple vs k' p':=by cases e<;>first|exact⟨_,_,_,rfl⟩|exact nB hq
  unfold vO at h;dsimp only at h;split at h
  ·rename_i q r hc;split at h
   ·rename_i hl;simp only[gJ,Bool.not_eq_true',o7] at hc;rw[gJ] at hl;have l1:=Eo hk hl.1;have l2:=EH hl.2;have hne:(vs.length !=(dT (q::r)).length)=false:=by rw[y6,hc.1.2];simp
    have h0:(!((dT (q::r)).length==2||(dT (q::r)).length==3))=false:=by rw[y6,hc.1.1];rfl
    have hbk:(env.blockKind !=ScopeKind.function)=false:=by rw[hb];rfl
    unfold swappedStores;dsimp only;simp only[h0,hne,hbk,Bool.or_self,oM,pz];refine(bQ (λz=>absurd ((show GP vs=true from z).symm.trans hc.2) (by decide))).trans ?_;have hln:(((dT (q::r)).head?.map (·.pos.line)).getD 0)=q.2.line:=rfl;simp only[hln];have l3:List.filterMap _ (dT (q::r))=_:=l1
    have h1:((((q::r).map (·.1)).length !=(dT (q::r)).length)||((q::r).map (·.1)).eraseDups.length !=((q::r).map (·.1)).length)=false:=by rw[l2,y6,aU];simp
    erw[l3];simp only[h1,oM,pz];split at h
    ·rename_i hfs;cases h;simp only[hfs,if_true];rfl
    ·rename_i hfs;split at h
     ·cases h
     ·rename_i hca;cases h;simp only[hfs,hca,oM,pz];rfl
   ·cases h
  ·cases h
noncomputable abbrev Kd:=Str→Option NameKind
noncomputable def fT(kd:Kd)(names:List (Str×NameKind)):Kd:=λx=>match names.lookup x with
 |some .free=>(match kd x with
  |some .cell=>some .cell
  |_=>some .free)
 |r=>r
theorem Ep{β:Type}(f:Str×β→Str×β)(h:∀q,(f q).1=q.1)(x:Str):∀l:List (Str×β),(l.map f).lookup x=(l.lookup x).map λk=>(f (x,k)).2
 |[]=>rfl
 |(n,k)::r=>by
  rw[gM];have h1:=h (n,k);by_cases e:x=n
  ·subst e;generalize hz:f (x,k)=z at h1;obtain⟨z1,z2⟩:=z;have h1:z1=x:=h1;subst h1;rw[jE,jE,eQ];show some z2=some (f (z1,k)).2;rw[hz]
  ·generalize hz:f (n,k)=z at h1;obtain⟨z1,z2⟩:=z;have h1:z1=n:=h1;subst h1;have ne:(x==z1)=false:=by simpa using e
   rw[jE,jE,ne];exact Ep f h x r
theorem FJ{kd:Kd}{env:Env}{scope:Scope}(hf:env.scope.kind=.function)(hk:∀x,env.kindOf x=kd x)(x:Str):(relabel scope env).names.lookup x=fT kd scope.names x:=by
 unfold relabel fT;dsimp only;refine(Ep _ (λq=>by(try dsimp only);split<;>rfl) x _).trans ?_;cases scope.names.lookup x with
 |none=>rfl
 |some k=>
  dsimp only[Option.map];rw[hf,hk x];cases k<;>first|rfl|skip
  cases kd x with
  |none=>rfl
  |some z=>cases z<;>rfl
noncomputable def gO(cells:List (Str×Addr)):List (Str×NameKind)→List (Str×Addr)→List (Str×Addr)
 |[],acc=>acc
 |q::r,acc=>gO cells r (match q.2 with
  |.free=>(q.1,(cells.lookup q.1).getD 0)::acc
  |_=>acc)
theorem xr{env:Env}:∀(names:List (Str×NameKind))(acc:List (Str×Addr)),(∀q∈names,q.2=.free→∃c,env.cells.lookup q.1=some c)→
  (forIn names acc (λ(q:Str×NameKind)(cs:List (Str×Addr))=>(if (q.2==.free)=true then(do let c←cellOf env q.1;pure (ForInStep.yield ((q.1,c)::cs))) else pure (ForInStep.yield cs):Sem (ForInStep (List (Str×Addr))))):Sem (List (Str×Addr)))=pure (gO env.cells names acc)
 |[],acc,_=>rfl
 |(n,k)::r,acc,h=>by
  rw[List.forIn_cons];cases k with
  |free=>
   obtain⟨c,hc⟩:=h _ (.head _) rfl;have hc:env.cells.lookup n=some c:=hc;have:cellOf env n=pure c:=by unfold cellOf;rw[hc]
   simp only[this,pure_bind,eQ,if_true];rw[xr r _ λq m=>h q (.tail _ m)];show _=pure (gO env.cells r ((n,(env.cells.lookup n).getD 0)::acc));rw[hc];rfl
  |_=>simp only[show∀a b:NameKind,(a==b)=decide (a=b) fromλa b=>by cases a<;>cases b<;>rfl];rw[bQ (by decide)];simp only[pure_bind];have:=xr (env:=env) r acc λq m=>h q (.tail _ m);simp only[show∀a b:NameKind,(a==b)=decide (a=b) fromλa b=>by cases a<;>cases b<;>rfl] at this;exact this
theorem xq{env:Env}{scope:Scope}(h:∀q∈scope.names,q.2=.free→∃c,env.cells.lookup q.1=some c):closureFor scope env=pure (gO env.cells scope.names []):=by have:=xr (env:=env) scope.names [] h;simp only[closureFor];rw[←this];simp only[bind_pure_comp,bind_pure]
theorem xk{cells:List (Str×Addr)}{x:Str}{c:Addr}(hc:cells.lookup x=some c):∀(names:List (Str×NameKind))(acc:List (Str×Addr)),((x,NameKind.free)∈names∨acc.lookup x=some c)→(gO cells names acc).lookup x=some c
 |[],acc,h=>h.elim (λh=>nomatch h) id
 |(n,k)::r,acc,h=>by
  show(gO cells r _).lookup x=some c;refine xk hc r _ ?_;rcases h with h|h
  ·rcases List.mem_cons.mp h with h|h
   ·injection h with h1 h2
    subst h1;subst h2;refine .inr ?_;dsimp only;rw[jE,eQ,hc];rfl
   ·exact .inl h
  ·refine .inr ?_;cases k with
   |free=>
    dsimp only;rw[jE];by_cases e:x=n
    ·subst e;rw[eQ,hc];rfl
    ·rw[show(x==n)=false by simpa using e];exact h
   |_=>exact h
theorem B2{cells:List (Str×Addr)}{y:Str}{c:Addr}:∀(names:List (Str×NameKind))(acc:List (Str×Addr)),(∀q∈names,q.2=.free→∃c,cells.lookup q.1=some c)→(∀y c,acc.lookup y=some c→cells.lookup y=some c)→(gO cells names acc).lookup y=some c→cells.lookup y=some c
 |[],acc,_,h,e=>h y c e
 |(n,k)::r,acc,hn,h,e=>by
  have e:(gO cells r _).lookup y=some c:=e;refine B2 r _ (λq m=>hn q (.tail _ m)) (λy c e=>?_) e;cases k with
  |free=>
   dsimp only at e;rw[jE] at e;by_cases z:y=n
   ·subst z;rw[eQ] at e;obtain⟨c',hc'⟩:=hn _ (.head _) rfl;have hc':cells.lookup y=some c':=hc';rw[hc'] at e⊢;exact e
   ·rw[show(y==n)=false by simpa using z] at e;exact h y c e
  |_=>exact h y c e
end
section
open PySem.SeqAt
noncomputable def uo:List (Nat×String):=[(30,"common_divisor"),(37,"sign_of"),(45,"number_of"),(52,"is_nan"),(59,"negated"),(66,"plus"),(73,"minus"),(80,"times"),(87,"divided"),(94,"cut_whole"),(101,"modulo"),(108,"order_of"),(115,"compared_numbers"),(179,"lines_down"),(186,"place_among"),(193,"place_of"),(198,"in_order"),(205,"beneath"),(210,"string_value"),(217,"as_text"),(224,"as_number"),(231,"as_truth"),(238,"is_equality"),(245,"compared_texts"),(252,"compared_plain"),(257,"as_compared"),(264,"some_pair"),(269,"texts_of"),(276,"listed"),(283,"compared"),(355,"nodes_of"),(362,"counted"),(418,"call_of_sets"),(482,"told_value"),(489,"call_of_truths"),(508,"call_of_texts"),(522,"is_core"),(529,"bounds_of"),(536,"check_many"),(543,"call_core"),(611,"short_axis"),(618,"axis"),(625,"principal_kind"),(646,"passes"),(653,"holds"),(660,"kept"),(665,"step_from"),(672,"unlike"),(679,"after_step"),(686,"steps_from"),(715,"Literal"),(743,"NumberNode"),(771,"VariableNode"),(799,"Call"),(827,"Binary"),(855,"Negated"),(883,"Filter"),(911,"Path"),(939,"Step"),(951,"needs_nodes"),(958,"reckoned"),(963,"united"),(970,"asker"),(977,"of_binary"),(982,"of_call"),(989,"of_filter"),(996,"of_path"),(1003,"evaluate"),(1042,"Context"),(1064,"NodeRow"),(1253,"Tree"),(1264,"_law_pool"),(1271,"_law_take"),(1278,"_law_one"),(1285,"_law_lowest"),(1292,"_law_number"),(1299,"_law_truth"),(1306,"_law_text"),(1311,"_law_ordered"),(1316,"_law_sieve"),(1321,"_law_nodes"),(1328,"_law_own_call"),(1333,"_law_world"),(1340,"_law_refused")]
noncomputable def un:List (Nat×String×Value):=[(0,"NAN",.ref 22),(1,"ZERO",.ref 23),(2,"SETS",.ref 509),(3,"TRUTHS",.ref 510),(4,"NUMBERS",.ref 511),(5,"TEXTS",.ref 512),(6,"NONE_LET",.ref 513),(7,"ONE_AT_MOST",.ref 514),(8,"TWO_WANTED",.ref 515),(9,"MANY",.int 1000 899),(10,"COMPARISONS",.ref 944),(11,"PARENTS",.ref 1047)]
noncomputable def vT:List (Nat×String):=[(0,"bool"),(1,"str"),(2,"tuple"),(3,"list"),(911,"Path"),(715,"Literal"),(743,"NumberNode"),(827,"Binary"),(799,"Call"),(855,"Negated"),(771,"VariableNode"),(883,"Filter")]
noncomputable def o8:List (String×Value):=[("len",.builtin "len"),("abs",.builtin "abs"),("max",.builtin "max"),("isinstance",.builtin "isinstance"),("int",.type "int"),("list",.type "list"),("dict",.type "dict"),("enumerate",.type "enumerate"),("zip",.type "zip"),("range",.type "range"),("PathFault",.ref 325)]
noncomputable def Hy(v:Value):Option String:=match v with
 |.type t=>some t
 |_=>none
noncomputable def F6(d:Data):Option (List Value×Nat):=match d with
 |.seq vs n=>some (vs.toList,n)
 |_=>none
theorem VB{v:Value}{t:String}(e:Hy v=some t):v=.type t:=by cases v<;>first|exact nS e|exact congrArg Value.type (ak e)
theorem T9{d:Data}{q:List Value×Nat}(e:F6 d=some q):d=.seq q.1.toArray q.2:=by cases d<;>first|exact nS e|(rw[←ak e])
theorem VO{v:Value}{a:Addr}(q:mL v=some a):v=.ref a:=by cases v<;>first|exact nS q|exact congrArg Value.ref (ak q)
noncomputable def Ht(o:Obj):Option (List Value):=(Hy o.cls).bind λt=>(F6 o.data).bind λq=>cond (t=="tuple"&&o.dict.isNone&&o.slots.isEmpty) (some q.1) none
noncomputable def um(K:Frag)(v:Value):Option AV:=(mL v).casesOn (su v) λa=>((K.lookup a).bind Ht).bind λl=>(lG l).map .tup
theorem Vz{o:Obj}{l:List Value}(h:Ht o=some l):∃n,o=eg l n:=aL h λt e1 h=>aL h λq e2 h=>by have cc:=tW h;have c1:=aF cc.1;obtain⟨c,d,dt,sl⟩:=o;have h1:c=.type t:=VB e1;have h2:dt=.seq q.1.toArray q.2:=T9 e2;have h3:d=none:=Option.isNone_iff_eq_none.mp c1.2.1;have h4:sl= #[]:=Array.isEmpty_iff.mp c1.2.2;exact⟨q.2,by rw[h1,h2,h3,h4,fN c1.1,←cc.2]⟩
theorem Nu{P:Params}{K:Frag}{h:Heap}{X:Addr→Prop}(I:K.In h)(n:∀a o,K.lookup a=some o→¬X a){v:Value}{x:AV}(e:um K v=some x):VR P h X v x:=by
 unfold um at e;cases q:mL v with
 |none=>rw[q] at e;exact FX e
 |some a=>rw[q] at e;refine aL e λl e1 e=>aL e1 λo e2 e1=>cz e λr e3 e=>?_;obtain⟨k,c⟩:=Vz e1;have hv:v=.ref a:=VO q;rw[hv,←e];exact .tup (by rw[←c];exact I _ _ e2) (n _ _ e2) (zQ e3)
theorem Nz(P:Params):(uo.map λq=>fQ (KF P) (Str.ofString q.2))=uo.map λq=>some (.ref q.1):=by kernel_rfl
theorem Ny(P:Params):(un.map λq=>(fQ (KF P) (Str.ofString q.2.1),um (KF P) q.2.2))=un.map λq=>(some q.2.2,some (ul q.1)):=by kernel_rfl
theorem Vm(P:Params):(vT.map λq=>(fQ (KF P) (Str.ofString q.2),cV q.1 ji))=vT.map λq=>(some (ed q.1),true):=by kernel_rfl
theorem Jm(P:Params):(o8.map λq=>fQ (KF P) (Str.ofString q.1))=o8.map λq=>some q.2:=by kernel_rfl
noncomputable def gS{α:Type}(a:Nat):List (Nat×α)→Option α
 |[]=>none
 |q::l=>cond (Nat.beq q.1 a) (some q.2) (gS a l)
noncomputable def l8{α:Type}(s:String):List (String×α)→Option α
 |[]=>none
 |q::l=>cond (decide (q.1=s)) (some q.2) (l8 s l)
theorem LM{α:Type}{a:Nat}{q:Nat×α}{l:List (Nat×α)}:gS a (q::l)=cond (Nat.beq q.1 a) (some q.2) (gS a l):=rfl
theorem LN{α:Type}{s:String}{q:String×α}{l:List (String×α)}:l8 s (q::l)=cond (decide (q.1=s)) (some q.2) (l8 s l):=rfl
theorem qX{α:Type}{a:Nat}{x:α}:∀{l:List (Nat×α)},gS a l=some x→(a,x)∈l
 |[],h=>nS h
 |q::l,h=>by
  rw[LM] at h;cases e:Nat.beq q.1 a with
  |true=>rw[e] at h;rw[←em e,←ak h];exact .head _
  |false=>rw[e] at h;exact .tail _ (qX h)
theorem C3{α:Type}{s:String}{x:α}:∀{l:List (String×α)},l8 s l=some x→(s,x)∈l
 |[],h=>nS h
 |q::l,h=>by
  rw[LN] at h;cases e:decide (q.1=s) with
  |true=>rw[e] at h;rw[←bI e,←ak h];exact .head _
  |false=>rw[e] at h;exact .tail _ (C3 h)
theorem rF{α β:Type}{f g:α→β}:∀{l:List α}{x:α},l.map f=l.map g→x∈l→f x=g x:=λe m=>by
 induction m with
 |head=>exact(oQ e).1
 |tail _ _ ih=>exact ih (oQ e).2
noncomputable def j1(x:Str)(s:String):Bool:=x==Str.ofString s
noncomputable def OQ(o:Option NameKind):Bool:=decide (o=some .globalImplicit)
noncomputable def gr(o:Option NameKind):Bool:=decide (o=some .local)
noncomputable def ma(o:Option NameKind):Bool:=decide (o=some .cell)
noncomputable def yx(o:Option NameKind):Bool:=decide (o=some .free)
theorem jV{k:Option NameKind}(h:gr k=true):k=some .local:=bI h
theorem uA{k:Option NameKind}(h:ma k=true):k=some .cell:=bI h
noncomputable def nd(x:Str):Bool:= !(x==("__debug__":Str))
noncomputable def iy(kd:Kd)(x:Str):Bool:=OQ (kd x)&&nd x
noncomputable def gj{α:Type}(o:Option α)(f:α→Bool):Bool:=o.casesOn false f
theorem gA{α:Type}{o:Option α}{f:α→Bool}(h:gj o f=true):∃x,o=some x∧f x=true:=by
 cases o with
 |none=>exact nB h
 |some x=>exact⟨x,rfl,h⟩
noncomputable def n5(o:Option String)(x:Str):Bool:=gj o (j1 x)
noncomputable def sw(sl:List Str)(i:Nat)(x:Str):Bool:=gj (ae sl i) (·==x)
noncomputable def pL(k:Option NameKind):Bool:=gr k||ma k
noncomputable def Ce(v:AV)(c:Const):Bool:=gj (xx c) λu=>(cb 1 v u).getD false
noncomputable def uR(e:Expr):Option (Str×Pos):=if h:e.ctorIdx=23 then Expr.Name.elim (motive_1:=λ_=>Option (Str×Pos)) e h (λx p=>some (x,p)) else none
noncomputable def Vx(e:Expr):Option (List Expr):=if h:e.ctorIdx=25 then Expr.Tuple.elim (motive_1:=λ_=>Option (List Expr)) e h (λl _ _=>some l) else none
theorem jp{c:Prop}[Decidable c]{α:Type}{g:c→Option α}{x:α}{G:Prop}(h:dite c g (λ_=>none)=some x)(k:∀q,g q=some x→G):G:=if q:c then k q (by rwa[dif_pos q] at h) else nS (by rwa[dif_neg q] at h)
theorem QP{e:Expr}{q:Str×Pos}(h:uR e=some q):e=.Name q.1 q.2:=jp h λc h=>Expr.Name.elim (motive_1:=λe=>∀c,Expr.Name.elim (motive_1:=λ_=>Option (Str×Pos)) e c (λx p=>some (x,p))=some q→e=.Name q.1 q.2) e c (λx p _ h=>by rw[←ak (show some (x,p)=some q from h)]) c h
noncomputable def oE:List Expr→Option (List (Str×Pos))
 |[]=>some []
 |e::r=>(uR e).bind λq=>(oE r).map (q::·)
theorem z8:∀{es:List Expr}{ts:List (Str×Pos)},oE es=some ts→es=dT ts
 |[],ts,e=>by rw[←ak e];rfl
 |x::r,ts,e=>aL (o:=uR x) e λq e1 e=>cz (o:=oE r) e λl e2 e=>by rw[←e,z8 e2,QP e1];rfl
noncomputable def oF(e:Expr):Option (List (Str×Pos)):=(uR e).casesOn ((Vx e).bind oE) λq=>some [q]
noncomputable def nh(sl:List Str):List Nat→Option (List Str)
 |[]=>some []
 |i::r=>(ae sl i).bind λx=>(nh sl r).map (x::·)
noncomputable def n7:List Str→Bool
 |[]=>true
 |x::l=> !(l.any λy=>y==x)&&n7 l
noncomputable def mH(pl:Option NameKind→Bool)(kd:Kd)(sl:List Str):List (Str×Pos)→List Nat→Bool
 |[],[]=>true
 |q::r,i::is=>sw sl i q.1&&pl (kd q.1)&&mH pl kd sl r is
 |_,_=>false
noncomputable def rH(kd:Kd)(names:List (Str×NameKind))(q:Str×NameKind):Bool:=match q.2 with
 |.cell=>false
 |.local=>gr (names.lookup q.1)
 |.free=>ma (kd q.1)
 |_=>true
noncomputable def yy(k:ScopeKind):Bool:=k==.function
noncomputable def qH(kd:Kd)(scope:Scope)(own nms:List Str):Bool:=yy scope.kind&&scope.names.all (rH kd scope.names)&&own.all (λx=>gr (scope.names.lookup x))&&n7 (own++nms)&&nms.all (λx=>yx (scope.names.lookup x)&&ma (kd x))
noncomputable def Bm.nm(k:Bm):String:=match k with
 |.append=>"append"
 |.extend=>"extend"
 |.pop=>"pop"
 |.index=>"index"
 |.join=>"join"
 |.update=>"update"
noncomputable def Bf.nm(k:Bf):String:=match k with
 |.len=>"len"
 |.abs=>"abs"
 |.max=>"max"
 |.int=>"int"
 |.list _=>"list"
 |.dict=>"dict"
noncomputable def Cf(c:Const):Option Str:=match c with
 |.str s=>some s
 |_=>none
noncomputable def xe(e:Expr):Option Str:=if h:e.ctorIdx=19 then Expr.Constant.elim (motive_1:=λ_=>Option Str) e h (λc _ _=>Cf c) else none
theorem Jr{e:Expr}{s:Str}(h:xe e=some s):∃k p,e=.Constant (.str s) k p:=jp h λq h=>Expr.Constant.elim (motive_1:=λe=>∀q,Expr.Constant.elim (motive_1:=λ_=>Option Str) e q (λc _ _=>Cf c)=some s→∃k p,e=.Constant (.str s) k p) e q (λc k p _ h=>⟨k,p,congrArg (λc=>Expr.Constant c k p) (by cases c<;>first|exact nS h|exact congrArg Const.str (ak h))⟩) q h
noncomputable def jX:List (Option Expr)→Option (List Str)
 |[]=>some []
 |k::r=>(k.bind xe).bind λs=>(jX r).map (s::·)
theorem yF{k:Option Expr}{r:List (Option Expr)}{ss:List Str}(h:jX (k::r)=some ss):∃s a p l,k=some (.Constant (.str s) a p)∧ss=s::l∧jX r=some l:=aL (o:=k.bind xe) h λs e1 h=>cz (o:=jX r) h λl e2 h=>aL e1 λe e3 e1=>(Jr e1).elim λa z=>z.elim λp z=>⟨s,a,p,l,by rw[e3,z],h.symm,e2⟩
noncomputable def DX(x:AV):Bool:=(lZ x).isSome
noncomputable def rj(x:X):Bool:=if h:x.ctorIdx=2 then X.con.elim (motive_1:=λ_=>Bool) x h DX else false
noncomputable def vo(c:Bool)(f:Expr→Bool)(o:Option Expr):Bool:=o.casesOn c f
noncomputable def y8(l:List Expr):Bool:= !l.isEmpty
noncomputable def EP(e:Expr)(f:Const→Nat→Pos→Bool):Bool:=if h:e.ctorIdx=19 then Expr.Constant.elim (motive_1:=λ_=>Bool) e h f else false
@[elab_as_elim] theorem OZ{P:Expr→Prop}{e:Expr}{f:Const→Nat→Pos→Bool}(h:EP e f=true)(k:∀x k p,f x k p=true→P (.Constant x k p)):P e:=jd h λq h=>Expr.Constant.elim (motive_1:=λe=>∀q,Expr.Constant.elim (motive_1:=λ_=>Bool) e q f=true→P e) e q (λx1 k1 p1 _ h=>k x1 k1 p1 h) q h
noncomputable def zk(e:Expr)(f:Expr→Operator→Expr→Pos→Bool):Bool:=if h:e.ctorIdx=2 then Expr.BinOp.elim (motive_1:=λ_=>Bool) e h f else false
@[elab_as_elim] theorem Ea{P:Expr→Prop}{e:Expr}{f:Expr→Operator→Expr→Pos→Bool}(h:zk e f=true)(k:∀l q r p,f l q r p=true→P (.BinOp l q r p)):P e:=jd h λq h=>Expr.BinOp.elim (motive_1:=λe=>∀q,Expr.BinOp.elim (motive_1:=λ_=>Bool) e q f=true→P e) e q (λl1 q1 r1 p1 _ h=>k l1 q1 r1 p1 h) q h
noncomputable def zm(e:Expr)(f:Expr→List CmpOp→List Expr→Pos→Bool):Bool:=if h:e.ctorIdx=15 then Expr.Compare.elim (motive_1:=λ_=>Bool) e h f else false
@[elab_as_elim] theorem Ec{P:Expr→Prop}{e:Expr}{f:Expr→List CmpOp→List Expr→Pos→Bool}(h:zm e f=true)(k:∀l q r p,f l q r p=true→P (.Compare l q r p)):P e:=jd h λq h=>Expr.Compare.elim (motive_1:=λe=>∀q,Expr.Compare.elim (motive_1:=λ_=>Bool) e q f=true→P e) e q (λl1 q1 r1 p1 _ h=>k l1 q1 r1 p1 h) q h
noncomputable def zo(e:Expr)(f:UnaryOp→Expr→Pos→Bool):Bool:=if h:e.ctorIdx=3 then Expr.UnaryOp.elim (motive_1:=λ_=>Bool) e h f else false
@[elab_as_elim] theorem Ee{P:Expr→Prop}{e:Expr}{f:UnaryOp→Expr→Pos→Bool}(h:zo e f=true)(k:∀q x p,f q x p=true→P (.UnaryOp q x p)):P e:=jd h λq h=>Expr.UnaryOp.elim (motive_1:=λe=>∀q,Expr.UnaryOp.elim (motive_1:=λ_=>Bool) e q f=true→P e) e q (λq1 x1 p1 _ h=>k q1 x1 p1 h) q h
noncomputable def ET(e:Expr)(f:Expr→Expr→Expr→Pos→Bool):Bool:=if h:e.ctorIdx=5 then Expr.IfExp.elim (motive_1:=λ_=>Bool) e h f else false
@[elab_as_elim] theorem O3{P:Expr→Prop}{e:Expr}{f:Expr→Expr→Expr→Pos→Bool}(h:ET e f=true)(k:∀c x y p,f c x y p=true→P (.IfExp c x y p)):P e:=jd h λq h=>Expr.IfExp.elim (motive_1:=λe=>∀q,Expr.IfExp.elim (motive_1:=λ_=>Bool) e q f=true→P e) e q (λc1 x1 y1 p1 _ h=>k c1 x1 y1 p1 h) q h
noncomputable def EN(e:Expr)(f:BoolOp→List Expr→Pos→Bool):Bool:=if h:e.ctorIdx=0 then Expr.BoolOp.elim (motive_1:=λ_=>Bool) e h f else false
@[elab_as_elim] theorem OX{P:Expr→Prop}{e:Expr}{f:BoolOp→List Expr→Pos→Bool}(h:EN e f=true)(k:∀q l p,f q l p=true→P (.BoolOp q l p)):P e:=jd h λq h=>Expr.BoolOp.elim (motive_1:=λe=>∀q,Expr.BoolOp.elim (motive_1:=λ_=>Bool) e q f=true→P e) e q (λq1 l1 p1 _ h=>k q1 l1 p1 h) q h
noncomputable def rW(e:Expr)(f:Expr→Str→Pos→Bool):Bool:=if h:e.ctorIdx=20 then Expr.Attribute.elim (motive_1:=λ_=>Bool) e h f else false
@[elab_as_elim] theorem uF{P:Expr→Prop}{e:Expr}{f:Expr→Str→Pos→Bool}(h:rW e f=true)(k:∀x y p,f x y p=true→P (.Attribute x y p)):P e:=jd h λq h=>Expr.Attribute.elim (motive_1:=λe=>∀q,Expr.Attribute.elim (motive_1:=λ_=>Bool) e q f=true→P e) e q (λx1 y1 p1 _ h=>k x1 y1 p1 h) q h
noncomputable def rZ(e:Expr)(f:Expr→Expr→Pos→Bool):Bool:=if h:e.ctorIdx=21 then Expr.Subscript.elim (motive_1:=λ_=>Bool) e h f else false
@[elab_as_elim] theorem uI{P:Expr→Prop}{e:Expr}{f:Expr→Expr→Pos→Bool}(h:rZ e f=true)(k:∀x k p,f x k p=true→P (.Subscript x k p)):P e:=jd h λq h=>Expr.Subscript.elim (motive_1:=λe=>∀q,Expr.Subscript.elim (motive_1:=λ_=>Bool) e q f=true→P e) e q (λx1 k1 p1 _ h=>k x1 k1 p1 h) q h
noncomputable def EX(e:Expr)(f:Option Expr→Option Expr→Option Expr→Pos→Bool):Bool:=if h:e.ctorIdx=26 then Expr.Slice.elim (motive_1:=λ_=>Bool) e h f else false
@[elab_as_elim] theorem O7{P:Expr→Prop}{e:Expr}{f:Option Expr→Option Expr→Option Expr→Pos→Bool}(h:EX e f=true)(k:∀l r x p,f l r x p=true→P (.Slice l r x p)):P e:=jd h λq h=>Expr.Slice.elim (motive_1:=λe=>∀q,Expr.Slice.elim (motive_1:=λ_=>Bool) e q f=true→P e) e q (λl1 r1 x1 p1 _ h=>k l1 r1 x1 p1 h) q h
noncomputable def EO(e:Expr)(f:Expr→List Expr→List Keyword→Pos→Bool):Bool:=if h:e.ctorIdx=16 then Expr.Call.elim (motive_1:=λ_=>Bool) e h f else false
@[elab_as_elim] theorem OY{P:Expr→Prop}{e:Expr}{f:Expr→List Expr→List Keyword→Pos→Bool}(h:EO e f=true)(k:∀g l k p,f g l k p=true→P (.Call g l k p)):P e:=jd h λq h=>Expr.Call.elim (motive_1:=λe=>∀q,Expr.Call.elim (motive_1:=λ_=>Bool) e q f=true→P e) e q (λg1 l1 k1 p1 _ h=>k g1 l1 k1 p1 h) q h
noncomputable def pK(e:Expr)(f:List Expr→Nat→Pos→Bool):Bool:=if h:e.ctorIdx=25 then Expr.Tuple.elim (motive_1:=λ_=>Bool) e h f else false
@[elab_as_elim] theorem rn{P:Expr→Prop}{e:Expr}{f:List Expr→Nat→Pos→Bool}(h:pK e f=true)(k:∀l k p,f l k p=true→P (.Tuple l k p)):P e:=jd h λq h=>Expr.Tuple.elim (motive_1:=λe=>∀q,Expr.Tuple.elim (motive_1:=λ_=>Bool) e q f=true→P e) e q (λl1 k1 p1 _ h=>k l1 k1 p1 h) q h
noncomputable def EU(e:Expr)(f:List Expr→Pos→Bool):Bool:=if h:e.ctorIdx=24 then Expr.List.elim (motive_1:=λ_=>Bool) e h f else false
@[elab_as_elim] theorem O4{P:Expr→Prop}{e:Expr}{f:List Expr→Pos→Bool}(h:EU e f=true)(k:∀l p,f l p=true→P (.List l p)):P e:=jd h λq h=>Expr.List.elim (motive_1:=λe=>∀q,Expr.List.elim (motive_1:=λ_=>Bool) e q f=true→P e) e q (λl1 p1 _ h=>k l1 p1 h) q h
noncomputable def EQ(e:Expr)(f:List (Option Expr)→List Expr→Pos→Bool):Bool:=if h:e.ctorIdx=6 then Expr.Dict.elim (motive_1:=λ_=>Bool) e h f else false
@[elab_as_elim] theorem O0{P:Expr→Prop}{e:Expr}{f:List (Option Expr)→List Expr→Pos→Bool}(h:EQ e f=true)(k:∀k l p,f k l p=true→P (.Dict k l p)):P e:=jd h λq h=>Expr.Dict.elim (motive_1:=λe=>∀q,Expr.Dict.elim (motive_1:=λ_=>Bool) e q f=true→P e) e q (λk1 l1 p1 _ h=>k k1 l1 p1 h) q h
noncomputable def pJ(e:Expr)(f:Expr→List Comprehension→Scope→Pos→Bool):Bool:=if h:e.ctorIdx=8 then Expr.ListComp.elim (motive_1:=λ_=>Bool) e h f else false
@[elab_as_elim] theorem uH{P:Expr→Prop}{e:Expr}{f:Expr→List Comprehension→Scope→Pos→Bool}(h:pJ e f=true)(k:∀x l q p,f x l q p=true→P (.ListComp x l q p)):P e:=jd h λq h=>Expr.ListComp.elim (motive_1:=λe=>∀q,Expr.ListComp.elim (motive_1:=λ_=>Bool) e q f=true→P e) e q (λx1 l1 q1 p1 _ h=>k x1 l1 q1 p1 h) q h
noncomputable def EM(e:Stmt)(f:List Expr→Expr→Pos→Bool):Bool:=if h:e.ctorIdx=5 then Stmt.Assign.elim (motive_2:=λ_=>Bool) e h f else false
@[elab_as_elim] theorem OW{P:Stmt→Prop}{e:Stmt}{f:List Expr→Expr→Pos→Bool}(h:EM e f=true)(k:∀l x p,f l x p=true→P (.Assign l x p)):P e:=jd h λq h=>Stmt.Assign.elim (motive_2:=λe=>∀q,Stmt.Assign.elim (motive_2:=λ_=>Bool) e q f=true→P e) e q (λl1 x1 p1 _ h=>k l1 x1 p1 h) q h
noncomputable def ES(e:Stmt)(f:Expr→List Stmt→List Stmt→Pos→Bool):Bool:=if h:e.ctorIdx=12 then Stmt.If.elim (motive_2:=λ_=>Bool) e h f else false
@[elab_as_elim] theorem O2{P:Stmt→Prop}{e:Stmt}{f:Expr→List Stmt→List Stmt→Pos→Bool}(h:ES e f=true)(k:∀c x y p,f c x y p=true→P (.If c x y p)):P e:=jd h λq h=>Stmt.If.elim (motive_2:=λe=>∀q,Stmt.If.elim (motive_2:=λ_=>Bool) e q f=true→P e) e q (λc1 x1 y1 p1 _ h=>k c1 x1 y1 p1 h) q h
noncomputable def EW(e:Stmt)(f:Option Expr→Pos→Bool):Bool:=if h:e.ctorIdx=3 then Stmt.Return.elim (motive_2:=λ_=>Bool) e h f else false
@[elab_as_elim] theorem O6{P:Stmt→Prop}{e:Stmt}{f:Option Expr→Pos→Bool}(h:EW e f=true)(k:∀x p,f x p=true→P (.Return x p)):P e:=jd h λq h=>Stmt.Return.elim (motive_2:=λe=>∀q,Stmt.Return.elim (motive_2:=λ_=>Bool) e q f=true→P e) e q (λx1 p1 _ h=>k x1 p1 h) q h
noncomputable def ER(e:Stmt)(f:Expr→Pos→Bool):Bool:=if h:e.ctorIdx=24 then Stmt.Expr.elim (motive_2:=λ_=>Bool) e h f else false
@[elab_as_elim] theorem O1{P:Stmt→Prop}{e:Stmt}{f:Expr→Pos→Bool}(h:ER e f=true)(k:∀x p,f x p=true→P (.Expr x p)):P e:=jd h λq h=>Stmt.Expr.elim (motive_2:=λe=>∀q,Stmt.Expr.elim (motive_2:=λ_=>Bool) e q f=true→P e) e q (λx1 p1 _ h=>k x1 p1 h) q h
noncomputable def EV(e:Stmt)(f:Option Expr→Option Expr→Pos→Bool):Bool:=if h:e.ctorIdx=16 then Stmt.Raise.elim (motive_2:=λ_=>Bool) e h f else false
@[elab_as_elim] theorem O5{P:Stmt→Prop}{e:Stmt}{f:Option Expr→Option Expr→Pos→Bool}(h:EV e f=true)(k:∀x y p,f x y p=true→P (.Raise x y p)):P e:=jd h λq h=>Stmt.Raise.elim (motive_2:=λe=>∀q,Stmt.Raise.elim (motive_2:=λ_=>Bool) e q f=true→P e) e q (λx1 y1 p1 _ h=>k x1 y1 p1 h) q h
noncomputable def zn(e:Stmt)(f:Expr→Expr→List Stmt→List Stmt→Pos→Bool):Bool:=if h:e.ctorIdx=9 then Stmt.For.elim (motive_2:=λ_=>Bool) e h f else false
@[elab_as_elim] theorem Ed{P:Stmt→Prop}{e:Stmt}{f:Expr→Expr→List Stmt→List Stmt→Pos→Bool}(h:zn e f=true)(k:∀x y l r p,f x y l r p=true→P (.For x y l r p)):P e:=jd h λq h=>Stmt.For.elim (motive_2:=λe=>∀q,Stmt.For.elim (motive_2:=λ_=>Bool) e q f=true→P e) e q (λx1 y1 l1 r1 p1 _ h=>k x1 y1 l1 r1 p1 h) q h
noncomputable def EY(e:Stmt)(f:Expr→List Stmt→List Stmt→Pos→Bool):Bool:=if h:e.ctorIdx=11 then Stmt.While.elim (motive_2:=λ_=>Bool) e h f else false
@[elab_as_elim] theorem O8{P:Stmt→Prop}{e:Stmt}{f:Expr→List Stmt→List Stmt→Pos→Bool}(h:EY e f=true)(k:∀x l r p,f x l r p=true→P (.While x l r p)):P e:=jd h λq h=>Stmt.While.elim (motive_2:=λe=>∀q,Stmt.While.elim (motive_2:=λ_=>Bool) e q f=true→P e) e q (λx1 l1 r1 p1 _ h=>k x1 l1 r1 p1 h) q h
noncomputable def j4{α:Type}(l:List α)(f:α→Bool):Bool:=match l with
 |[x]=>f x
 |_=>false
@[elab_as_elim] theorem kY{α:Type}{P:List α→Prop}{l:List α}{f:α→Bool}(h:j4 l f=true)(k:∀x,f x=true→P [x]):P l:=by rcases l with _|⟨x,_|⟨y,l⟩⟩<;>first|exact k _ h|exact absurd h jy
noncomputable def oi{α:Type}(l:List α)(f:α→α→Bool):Bool:=match l with
 |[x,y]=>f x y
 |_=>false
@[elab_as_elim] theorem pB{α:Type}{P:List α→Prop}{l:List α}{f:α→α→Bool}(h:oi l f=true)(k:∀x y,f x y=true→P [x,y]):P l:=by rcases l with _|⟨x,_|⟨y,_|⟨z,l⟩⟩⟩<;>first|exact k _ _ h|exact absurd h jy
noncomputable def lc{α:Type}(l:List α)(c:Bool):Bool:=match l with
 |[]=>c
 |_=>false
@[elab_as_elim] theorem kX{α:Type}{P:List α→Prop}{l:List α}{c:Bool}(h:lc l c=true)(k:c=true→P []):P l:=by cases l<;>first|exact k h|exact absurd h jy
noncomputable def rX{α:Type}(l:List α)(f:α→List α→Bool):Bool:=match l with
 |x::r=>f x r
 |_=>false
@[elab_as_elim] theorem rl{α:Type}{P:List α→Prop}{l:List α}{f:α→List α→Bool}(h:rX l f=true)(k:∀x r,f x r=true→P (x::r)):P l:=by cases l<;>first|exact k _ _ h|exact absurd h jy
noncomputable def j3(e:Expr)(f:Expr→List Expr→Pos→Bool):Bool:=EO e λg l k p=>lc k (f g l p)
@[elab_as_elim] theorem kW{P:Expr→Prop}{e:Expr}{f:Expr→List Expr→Pos→Bool}(h:j3 e f=true)(k:∀g l p,f g l p=true→P (.Call g l [] p)):P e:=OY h λg l _ p h=>kX h (k g l p)
noncomputable def ve(e:Expr)(f:Expr→CmpOp→Expr→Bool):Bool:=zm e λl q r _=>j4 q λo=>j4 r λr=>f l o r
@[elab_as_elim] theorem yC{P:Expr→Prop}{e:Expr}{f:Expr→CmpOp→Expr→Bool}(h:ve e f=true)(k:∀l o r p,f l o r=true→P (.Compare l [o] [r] p)):P e:=Ec h λl _ _ p h=>kY h λo h=>kY h λr h=>k l o r p h
noncomputable def zl(e:Expr)(f:BoolOp→Expr→Expr→List Expr→Pos→Bool):Bool:=EN e λq l p=>rX l λx l=>rX l λy r=>f q x y r p
@[elab_as_elim] theorem Eb{P:Expr→Prop}{e:Expr}{f:BoolOp→Expr→Expr→List Expr→Pos→Bool}(h:zl e f=true)(k:∀q x y r p,f q x y r p=true→P (.BoolOp q (x::y::r) p)):P e:=OX h λq _ p h=>rl h λx _ h=>rl h λy r h=>k q x y r p h
noncomputable def BR(q:BoolOp)(y:Expr)(r:List Expr)(p:Pos):Expr:=match r with
 |[]=>y
 |z::r=>.BoolOp q (y::z::r) p
noncomputable def pI(e:Stmt)(f:Expr→Expr→Pos→Bool):Bool:=EM e λl x p=>j4 l λt=>f t x p
@[elab_as_elim] theorem rk{P:Stmt→Prop}{e:Stmt}{f:Expr→Expr→Pos→Bool}(h:pI e f=true)(k:∀t x p,f t x p=true→P (.Assign [t] x p)):P e:=OW h λ_ x p h=>kY h λt h=>k t x p h
noncomputable def rY(g:Comprehension)(f:Expr→Expr→List Expr→Bool):Bool:=decide (g.is_async=0)&&f g.target g.iter g.ifs
@[elab_as_elim] theorem uG{P:Comprehension→Prop}{g:Comprehension}{f:Expr→Expr→List Expr→Bool}(h:rY g f=true)(k:∀t i l,f t i l=true→P ⟨t,i,l,0⟩):P g:=by obtain⟨t,i,l,a⟩:=g;cases bI (aA h).1;exact k t i l (aA h).2
noncomputable def vS(kd:Kd)(k:Nat)(e:Expr):Bool:=gz e λy _=>n5 (gS k vT) y&&iy kd y
noncomputable def OT(kd:Kd)(e:Expr):List Nat→Bool
 |[k]=>vS kd k e
 |[k,j]=>pK e λes _ _=>oi es λy z=>vS kd k y&&vS kd j z
 |_=>false
noncomputable def Ck(ks:List (List Nat))(vs:List Expr)(o:Option (List Str)):Bool:=gj o λss=>decide (ss.map (λs=>s.cps.toList)=ks)&&n7 ss&&Nat.beq vs.length ss.length&&Nat.ble vs.length 15
theorem KJ{ks:List (List Nat)}{vs:List Expr}{o:Option (List Str)}(h:Ck ks vs o=true):∃ss,o=some ss∧(decide (ss.map (λs=>s.cps.toList)=ks)&&n7 ss&&Nat.beq vs.length ss.length&&Nat.ble vs.length 15)=true:=gA h
noncomputable def vU(t:Expr):Bool:=pK t λ_ _ _=>true
mutual
noncomputable def chk(kd:Kd)(sl:List Str)(t:Bool):X→Expr→Bool
 |.bad,_=>true
 |.var i,e=>gz e λx _=>sw sl i x&&nd x
 |.con v,e=>EP e λc _ _=>Ce v c
 |.glf a,e=>gz e λx _=>n5 (gS a uo) x&&iy kd x
 |.glc i,e=>gz e λx _=>n5 ((gS i un).map (·.1)) x&&iy kd x
 |.bin op _ a b,e=>zk e λl op' r _=>decide (op=op')&&chk kd sl false a l&&chk kd sl false b r
 |.pow a b,e=>zk e λl op r _=>decide (op=.Pow)&&chk kd sl false a l&&chk kd sl false b r
 |.cmp op a b,e=>ve e λl op' r=>decide (op=op')&& !iC r&&chk kd sl false a l&&chk kd sl false b r
 |.cmpI a b,e=>ve e λl op' r=>t&&decide (.Eq=op')&& !iC r&&chk kd sl false a l&&chk kd sl false b r
 |.cmpD a b,e=>ve e λl op' r=>t&&decide (.NotEq=op')&& !iC r&&chk kd sl false a l&&chk kd sl false b r
 |.cmp2 o1 o2 a b c,e=>zm e λl q r _=>oi q λp1 p2=>oi r λr s=>t&&decide (o1=p1)&&decide (o2=p2)&& !iC s&&chk kd sl false a l&&chk kd sl false b r&&chk kd sl false c s
 |.no a,e=>zo e λop x _=>decide (op=.Not)&&chk kd sl t a x
 |.neg a,e=>zo e λop x _=>decide (op=.USub)&&chk kd sl false a x
 |.ite c a b,e=>ET e λz x y _=>chk kd sl true c z&&chk kd sl t a x&&chk kd sl t b y
 |.and a b,e=>zl e λop x y r p=>decide (op=.And)&&chk kd sl t a x&&chk kd sl t b (BR .And y r p)
 |.or a b,e=>zl e λop x y r p=>decide (op=.Or)&&chk kd sl t a x&&chk kd sl t b (BR .Or y r p)
 |.attr j a,e=>rW e λo x _=>x==nm j&& !uE o&&chk kd sl false a o
 |.sub a i,e=>rZ e λo k _=>chk kd sl false a o&&chk kd sl false i k
 |.sli _ a lo hi st,e=>rZ e λo k _=>EX k λl h s _=>chk kd sl false a o&&vo (rj lo) (chk kd sl false lo) l&&vo (rj hi) (chk kd sl false hi) h&&vo (rj st) (chk kd sl false st) s
 |.call _ f l,e=>j3 e λg es _=> !DS g&&j2 es&&chk kd sl false f g&&ir kd sl l es
 |.meth j _ o l,e=>j3 e λg es pos=>rW g λq x ap=>x==nm j&& !uE q&&ap.endLine==pos.line&&Nat.blt es.length 25&&j2 es&&chk kd sl false o q&&ir kd sl l es
 |.bm k o l,e=>j3 e λg es pos=>rW g λq x ap=>j1 x k.nm&& !uE q&&ap.endLine==pos.line&&Nat.blt es.length 25&&j2 es&&chk kd sl false o q&&ir kd sl l es
 |.bf k l,e=>j3 e λg es _=>gz g λx _=>j1 x k.nm&&iy kd x&&j2 es&&ir kd sl l es&&y8 es
 |.isi cs a,e=>j3 e λg es _=>gz g λx _=>oi es λy c=>j1 x "isinstance"&&iy kd x&& !kU y&&chk kd sl false a y&&OT kd c cs
 |.tup l,e=>pK e λes _ _=>ir kd sl l es
 |.lst _ l,e=>EU e λes _=>ir kd sl l es
 |.dct _ ks l,e=>EQ e λkeys vs _=>Ck ks vs (jX keys)&&ir kd sl l vs
 |.comp k caps is u x,e=>pJ e λelt gs scope _=>j4 gs λg=>rY g λt0 i0 l0=>lc l0 (gj (oF t0) λts=>gj (nh sl caps) λnms=>Nat.beq k ts.length&&qH kd scope (ts.map (·.1)) nms&& !iC i0&&nj kd sl u i0 t0&&mH gr (fT kd scope.names) (ts.map (·.1)++nms) ts is&&chk (fT kd scope.names) (ts.map (·.1)++nms) false x elt)
 |.compc k caps is u c x,e=>pJ e λelt gs scope _=>j4 gs λg=>rY g λt0 i0 l0=>j4 l0 λi1=>gj (oF t0) λts=>gj (nh sl caps) λnms=>Nat.beq k ts.length&&qH kd scope (ts.map (·.1)) nms&& !iC i0&&nj kd sl u i0 t0&&mH gr (fT kd scope.names) (ts.map (·.1)++nms) ts is&&chk (fT kd scope.names) (ts.map (·.1)++nms) true c i1&&chk (fT kd scope.names) (ts.map (·.1)++nms) false x elt
 |.comp2 k caps is is2 u u2 x,e=>pJ e λelt gs scope _=>oi gs λg g2=>rY g λt0 i0 l0=>lc l0 (rY g2 λt1 i1 l1=>lc l1 (gj (oF t0) λts=>gj (oF t1) λts1=>gj (nh sl caps) λnms=>Nat.beq k (ts++ts1).length&&qH kd scope ((ts++ts1).map (·.1)) nms&& !iC i0&&nj kd sl u i0 t0&&mH gr (fT kd scope.names) ((ts++ts1).map (·.1)++nms) ts is&&
   !iC i1&&nj (fT kd scope.names) ((ts++ts1).map (·.1)++nms) u2 i1 t1&&mH gr (fT kd scope.names) ((ts++ts1).map (·.1)++nms) ts1 is2&&chk (fT kd scope.names) ((ts++ts1).map (·.1)++nms) false x elt))
noncomputable def ir(kd:Kd)(sl:List Str):XL→List Expr→Bool
 |.nil,es=>lc es true
 |.cons x l,es=>rX es λe r=> !kU e&&chk kd sl false x e&&ir kd sl l r
noncomputable def nj(kd:Kd)(sl:List Str):XU→Expr→Expr→Bool
 |.ones x,e,t=>gz t λ_ _=>chk kd sl false x e
 |.tups x,e,t=>vU t&&chk kd sl false x e
 |.enum x,e,t=>j3 e λg es _=>gz g λf _=>j4 es λy=>vU t&&j1 f "enumerate"&&iy kd f&& !kU y&&chk kd sl false x y
 |.zip a b,e,t=>j3 e λg es _=>gz g λf _=>oi es λy z=>vU t&&j1 f "zip"&&iy kd f&& !kU y&& !kU z&&chk kd sl false a y&&chk kd sl false b z
 |.range x,e,t=>j3 e λg es _=>gz g λf _=>j4 es λy=>gz t λ_ _=>j1 f "range"&&iy kd f&& !kU y&&chk kd sl false x y
end
noncomputable def yz(x:X):Bool:=Nat.beq x.ctorIdx 27||Nat.beq x.ctorIdx 28||Nat.beq x.ctorIdx 29
noncomputable def Uc(kd:Kd)(y:Str)(py:Pos)(line:Nat)(x:X)(e:Expr):Bool:=cond (kR e) (pJ e λ_ _ scope pos=>yz x&&gr (kd y)&&py.line==pos.line&& !(scope.names.any λq=>q.1==y&&(q.2==.local||q.2==.cell))) true
mutual
noncomputable def jg(gm:Nat)(kd:Kd)(sl:List Str):XS→List Stmt→Bool
 |.done,l=>l.isEmpty
 |.bad,_=>true
 |.seq a b,l=>rX l λst rest=>tR gm kd sl a st&&jg gm kd sl b rest
 |_,_=>false
noncomputable def tR(gm:Nat)(kd:Kd)(sl:List Str):XS→Stmt→Bool
 |.bad,_=>true
 |.fz g _ s,st=>Nat.ble gm g&&tR gm kd sl s st
 |.set i x,st=>pI st λt e pos=>gz t λy py=>sw sl i y&&pL (kd y)&&Uc kd y py pos.line x e&&chk kd sl false x e
 |.setT swp is x,st=>pI st λt e _=>pK t λes _ _=>gj (oE es) λts=>mH pL kd sl ts is&& !kR e&&decide (vO kd ts e=some swp)&&chk kd sl false x e
 |.setI x a i,st=>pI st λt e _=>rZ t λo k _=> !kR e&&chk kd sl false x e&&chk kd sl false a o&&chk kd sl false i k
 |.setD x a i,st=>pI st λt e _=>rZ t λo k _=> !kR e&&chk kd sl false x e&&chk kd sl false a o&&chk kd sl false i k
 |.setA j x a,st=>pI st λt e _=>rW t λo y _=>y==nm j&& !kR e&&chk kd sl false x e&&chk kd sl false a o
 |.ifs c a b,st=>ES st λt x y _=>chk kd sl true c t&&jg gm kd sl a x&&jg gm kd sl b y
 |.ret x,st=>EW st λo _=>gj o λe=>chk kd sl false x e
 |.expr x,st=>ER st λe _=> !kR e&&chk kd sl false x e
 |.raise x,st=>EV st λo c _=>gj o λe=>j3 e λg es _=>gz g λf _=>j4 es λy=>c.isNone&&j1 f "PathFault"&&iy kd f&& !kU y&&chk kd sl false x y
 |.for1 i x b,st=>zn st λt it body els _=>lc els (gz t λy _=>sw sl i y&&pL (kd y)&& !iC it&&chk kd sl false x it&&jg gm kd sl b body)
 |.forT is u b,st=>zn st λt it body els _=>lc els (pK t λes k p=>gj (oE es) λts=>mH pL kd sl ts is&& !iC it&&nj kd sl u it (.Tuple es k p)&&jg gm kd sl b body)
 |.whl c b,st=>EY st λt body els _=>lc els (chk kd sl true c t&&jg gm kd sl b body)
 |_,_=>false
end
end
section
open PySem.SeqAt
structure Gd(fo:Fo)(cx:Cx)(kd:Kd):Prop where
 K0:bq cx
 kk:∀x,cx.env.kindOf x=kd x
 O:eY cx.w cx.B cx.n fo
 cells:∀x,kd x=some .cell→∃c,cx.env.cells.lookup x=some c
abbrev SE(fo:Fo)(cx:Cx)(sl:List Str)(e:Expr)(x:X):Prop:=aH cx sl (eval e cx.env) (ev fo x)
abbrev SL(fo:Fo)(cx:Cx)(sl:List Str)(es:List Expr)(l:XL):Prop:=∀pos,hZ cx sl (spliced (backTo pos (starEach es cx.env))) (cK fo l)
noncomputable def Cn(fo:Fo)(cx:Cx)(sl:List Str)(t:Bool)(e:Expr)(x:X):Prop:=match t with
 |false=>SE fo cx sl e x
 |true=>dM cx sl (isTrue e cx.env (eval e cx.env)) (bP (ev fo x))
abbrev aT(fo:Fo)(cx:Cx)(kd:Kd)(sl:List Str)(a:X):Prop:=∀{e:Expr}{t:Bool},chk kd sl t a e=true→Cn fo cx sl t e a
abbrev jC(fo:Fo)(cx:Cx)(kd:Kd)(sl:List Str)(l:XL):Prop:=∀{es:List Expr},ir kd sl l es=true→SL fo cx sl es l
abbrev jD(fo:Fo)(cx:Cx)(kd:Kd)(sl:List Str)(u:XU):Prop:=∀{it t:Expr},nj kd sl u it t=true→∀ts,oF t=some ts→h8 cx sl it (gR fo u) t ts
section
variable{fo:Fo}{cx:Cx}{kd:Kd}{sl:List Str}{e:Expr}{x a b c:X}{l:XL}{t:Bool}{pos:Pos}
theorem Gd.x0(G:Gd fo cx kd)(X1:Addr→Prop):Gd fo (cx.st X1) kd:=⟨G.K0.st X1,G.kk,G.O,G.cells⟩
theorem eu(h:SE fo cx sl e x)(hp:isTrue e cx.env (eval e cx.env)=(do let v←eval e cx.env;standAt e.pos;holding [v] (truthy v))):Cn fo cx sl t e x:=by
 cases t with
 |false=>exact h
 |true=>exact TL hp h
theorem sx{i:Nat}{x:Str}(h:sw sl i x=true):ae sl i=some x:=(gA h).elim λy z=>z.1.trans (congrArg some (fN z.2))
theorem EB{x:Str}(h:nd x=true):(x==("__debug__":Str))=false:=cy h
theorem iT(G:Gd fo cx kd){x:Str}{v:Value}(h:iy kd x=true)(g:fQ (KF cx.w.params) x=some v):eW cx x v:=⟨(G.kk x).trans (bI (aA h).1),g,EB (aA h).2⟩
theorem y5{o:Option String}{x:Str}(h:n5 o x=true):∃s,o=some s∧x=Str.ofString s:=(gA h).imp λs z=>⟨z.1,fN z.2⟩
theorem uO{α:Type}{o:Option α}{f:α→Bool}(h:(o.map f).getD false=true):∃x,o=some x∧f x=true:=by
 cases o with
 |none=>exact nB h
 |some x=>exact⟨x,rfl,h⟩
theorem Ky{v:AV}{c:Const}(h:Ce v c=true):xx c=some v:=(gA h).elim λu z=>by
 cases c<;>first|exact nS z.1|skip
 ·rw[←ak z.1] at z;exact(uO z.2).elim λ_ w=>congrArg some (qz w.1).symm
 ·rw[←ak z.1] at z;exact(uO z.2).elim λ_ w=>congrArg some ((tI w.1).trans (congrArg AV.bool (fN w.2))).symm
 ·rw[←ak z.1] at z;exact(uO z.2).elim λ_ w=>congrArg some ((fe w.1).trans (congrArg AV.int (bI w.2))).symm
 ·rw[←ak z.1] at z;exact(uO z.2).elim λ_ w=>congrArg some ((kG w.1).trans (congrArg AV.str (bI w.2))).symm
theorem NB(P:Params){a:Nat}{x:Str}(h:n5 (gS a uo) x=true):fQ (KF P) x=some (.ref a):=(y5 h).elim λs z=>by rw[z.2];exact rF (Nz P) (qX z.1)
theorem NA(P:Params){i:Nat}{x:Str}(h:n5 ((gS i un).map (·.1)) x=true):∃v,fQ (KF P) x=some v∧um (KF P) v=some (ul i):=(y5 h).elim λs z=>cz z.1 λq e1 e2=>by have m:=rF (Ny P) (qX e1);rw[z.2,←e2];exact⟨_,congrArg Prod.fst m,congrArg Prod.snd m⟩
theorem Vn(P:Params){k:Nat}{x:Str}(h:n5 (gS k vT) x=true):fQ (KF P) x=some (ed k)∧cV k ji=true:=(y5 h).elim λs z=>by have m:=rF (Vm P) (qX z.1);rw[z.2];exact⟨congrArg Prod.fst m,congrArg Prod.snd m⟩
theorem ng(P:Params){s:String}{v:Value}{x:Str}(e:l8 s o8=some v)(h:j1 x s=true):fQ (KF P) x=some v:=by rw[show x=Str.ofString s from fN h];exact rF (Jm P) (C3 e)
theorem OP{x:X}(h:rj x=true):x=.con .none:=jd h λq h=>X.con.elim (motive_1:=λx=>∀q,X.con.elim (motive_1:=λ_=>Bool) x q DX=true→x=.con .none) x q (λv _ h=>(Option.isSome_iff_exists.mp (show(lZ v).isSome=true from h)).elim λu w=>by rw[qz w]) q h
theorem xM{o:Option Expr}{x:X}(h:vo (rj x) (chk kd sl false x) o=true)(ih:aT fo cx kd sl x):aH cx sl (evalPart o cx.env) (ev fo x):=by
 cases o with
 |none=>rw[OP h];exact TJ
 |some e=>exact TK (ih (t:=false) h)
theorem JW(G:Gd fo cx kd){i:Nat}:aT fo cx kd sl (.var i):=λ{e t} h=>gV h λx p h=>eu (TZ G.K0 (sx (aA h).1) (EB (aA h).2)) (by with_unfolding_all rfl)
theorem JH{v:AV}:aT fo cx kd sl (.con v):=λ{e t} h=>OZ h λc k p h=>eu (x:=.con v) (To (Ky h)) (by with_unfolding_all rfl)
theorem JK(G:Gd fo cx kd){a:Nat}:aT fo cx kd sl (.glf a):=λ{e t} h=>gV h λx p h=>have N:=iT G (aA h).2 (NB cx.w.params (aA h).1)
 eu (x:=.glf a) (FQ G.K0 N.k N.g N.d λ_ _=>rfl) (by with_unfolding_all rfl)
theorem JJ(G:Gd fo cx kd){i:Nat}:aT fo cx kd sl (.glc i):=λ{e t} h=>gV h λx p h=>(NA cx.w.params (aA h).1).elim λv z=>have N:=iT G (aA h).2 z.1
 eu (x:=.glc i) (FQ G.K0 N.k N.g N.d λI n=>Nu I n z.2) (by with_unfolding_all rfl)
theorem JA(ia:aT fo cx kd sl a)(ib:aT fo cx kd sl b){op:Operator}{own:Bool}:aT fo cx kd sl (.bin op own a b):=λ{e t} h=>Ea h λl op' r p h=>by have h:=aF h;rw[←bI h.1];exact eu (x:=.bin op own a b) (Ti (ia (t:=false) h.2.1) (ib (t:=false) h.2.2)) (by with_unfolding_all rfl)
theorem JS(ia:aT fo cx kd sl a)(ib:aT fo cx kd sl b):aT fo cx kd sl (.pow a b):=λ{e t} h=>Ea h λl op' r p h=>by have h:=aF h;rw[bI h.1];exact eu (x:=.pow a b) (TM (ia (t:=false) h.2.1) (ib (t:=false) h.2.2)) (by with_unfolding_all rfl)
theorem JD(ia:aT fo cx kd sl a)(ib:aT fo cx kd sl b){op:CmpOp}:aT fo cx kd sl (.cmp op a b):=λ{e t} h=>yC h λl op' r p g=>by
 have g:=aF g;have h1:=aA g.1;rw[←bI h1.1];clear h;cases t with
 |false=>exact Tl (rf (cy h1.2)) (ia (t:=false) g.2.1) (ib (t:=false) g.2.2)
 |true=>exact zO (fc:=cj op) qG (rf (cy h1.2)) (ia (t:=false) g.2.1) (ib (t:=false) g.2.2)
theorem JG(G:Gd fo cx kd)(ia:aT fo cx kd sl a)(ib:aT fo cx kd sl b):aT fo cx kd sl (.cmpI a b):=λ{e t} h=>yC h λl op' r p h=>by
 have h:=aF h;have h1:=aF h.1;rw[←bI h1.2.1];cases t with
 |false=>exact nB h1.1
 |true=>exact zO (fc:=t7) (Ko G.K0) (rf (cy h1.2.2)) (ia (t:=false) h.2.1) (ib (t:=false) h.2.2)
theorem JF(ia:aT fo cx kd sl a)(ib:aT fo cx kd sl b):aT fo cx kd sl (.cmpD a b):=λ{e t} h=>yC h λl op' r p h=>by
 have h:=aF h;have h1:=aF h.1;rw[←bI h1.2.1];cases t with
 |false=>exact nB h1.1
 |true=>exact zO (fc:=qP) Kn (rf (cy h1.2.2)) (ia (t:=false) h.2.1) (ib (t:=false) h.2.2)
theorem JE(ia:aT fo cx kd sl a)(ib:aT fo cx kd sl b)(ic:aT fo cx kd sl c){o1 o2:CmpOp}:aT fo cx kd sl (.cmp2 o1 o2 a b c):=λ{e t} h=>Ec h λl ops rs p h=>pB h λp1 p2 h=>pB h λr s h=>by
 have h:=aF h;have h1:=aF h.1;have h2:=aF h1.1;rw[←bI h2.2.1,←bI h2.2.2];cases t with
 |false=>exact nB h2.1
 |true=>exact Tm (show lastMarks [o1,o2] [r,s]=false from rf (cy h1.2.1)) (ia (t:=false) h1.2.2) (ib (t:=false) h.2.1) (ic (t:=false) h.2.2)
theorem JQ(ia:aT fo cx kd sl a):aT fo cx kd sl (.no a):=λ{e t} h=>Ee h λop x p h=>by
 rw[bI (aA h).1];cases t with
 |false=>exact TF (ia (t:=false) (aA h).2)
 |true=>exact TG (ia (t:=true) (aA h).2)
theorem JP(ia:aT fo cx kd sl a):aT fo cx kd sl (.neg a):=λ{e t} h=>Ee h λop x p h=>by rw[bI (aA h).1];exact eu (x:=.neg a) (TE (ia (t:=false) (aA h).2)) (by with_unfolding_all rfl)
theorem JM(ia:aT fo cx kd sl a)(ib:aT fo cx kd sl b)(ic:aT fo cx kd sl c):aT fo cx kd sl (.ite c a b):=λ{e t} h=>O3 h λe x y p h=>by
 have h:=aF h;cases t with
 |false=>exact TA (ic (t:=true) h.1) (ia (t:=false) h.2.1) (ib (t:=false) h.2.2)
 |true=>exact TB (ic (t:=true) h.1) (ia (t:=true) h.2.1) (ib (t:=true) h.2.2)
theorem Jw(ia:aT fo cx kd sl a)(ib:aT fo cx kd sl b):aT fo cx kd sl (.and a b):=λ{e t} h=>Eb h λop x y r p h=>by
 have h:=aF h;rw[bI h.1];cases r with
 |nil=>cases t with
  |false=>exact FO (ia (t:=false) h.2.1) (FS (ib (t:=false) h.2.2))
  |true=>exact FN (ia (t:=true) h.2.1) (Tf (ib (t:=true) h.2.2))
 |cons z r=>cases t with
  |false=>exact FO (ia (t:=false) h.2.1) (ib (t:=false) h.2.2)
  |true=>exact FN (ia (t:=true) h.2.1) (ib (t:=true) h.2.2)
theorem JR(ia:aT fo cx kd sl a)(ib:aT fo cx kd sl b):aT fo cx kd sl (.or a b):=λ{e t} h=>Eb h λop x y r p h=>by
 have h:=aF h;rw[bI h.1];cases r with
 |nil=>cases t with
  |false=>exact FU (ia (t:=false) h.2.1) (FS (ib (t:=false) h.2.2))
  |true=>exact FT (ia (t:=true) h.2.1) (TH (ib (t:=true) h.2.2))
 |cons z r=>cases t with
  |false=>exact FU (ia (t:=false) h.2.1) (ib (t:=false) h.2.2)
  |true=>exact FT (ia (t:=true) h.2.1) (ib (t:=true) h.2.2)
theorem Jx(G:Gd fo cx kd)(ia:aT fo cx kd sl a){j:Nat}:aT fo cx kd sl (.attr j a):=λ{e t} h=>uF h λe x p h=>by have h:=aF h;rw[show x=nm j from fN h.1];exact eu (x:=.attr j a) (Tg G.K0 (w0 (cy h.2.1)) (ia (t:=false) h.2.2)) (by with_unfolding_all rfl)
theorem JU(ia:aT fo cx kd sl a)(ib:aT fo cx kd sl b):aT fo cx kd sl (.sub a b):=λ{e t} h=>uI h λe k p h=>eu (x:=.sub a b) (TX (ia (t:=false) (aA h).1) (ib (t:=false) (aA h).2)) (by with_unfolding_all rfl)
theorem JT{b1 b2 b3:X}(ia:aT fo cx kd sl a)(i1:aT fo cx kd sl b1)(i2:aT fo cx kd sl b2)(i3:aT fo cx kd sl b3){own:Bool}:aT fo cx kd sl (.sli own a b1 b2 b3):=λ{e t} h=>uI h λe k p h=>O7 h λl hh s sp h=>
 have h4:=aA h;have h:=aF h4.1
 eu (x:=.sli own a b1 b2 b3) (TW (own:=own) (ia (t:=false) h.1) (xM h.2.1 i1) (xM h.2.2 i2) (xM h4.2 i3)) (by with_unfolding_all rfl)
theorem PD:jC fo cx kd sl .nil:=λ{es} h=>kX h λ_ pos=>vH
theorem PC(ia:aT fo cx kd sl a)(il:jC fo cx kd sl l):jC fo cx kd sl (.cons a l):=λ{es} h=>rl h λe r h pos=>sq (lI (cy (aF h).1)) (ia (t:=false) (aF h).2.1) (il (aF h).2.2 pos)
theorem JC(G:Gd fo cx kd)(ia:aT fo cx kd sl a)(il:jC fo cx kd sl l){m:Nat}:aT fo cx kd sl (.call m a l):=λ{e t} h=>kW h λg es p h=>
 have h:=aF h;have h1:=aA h.1
 eu (x:=.call m a l) (Tk G.K0 G.O (j6 h1.2) (l4 (cy h1.1)) (ia (t:=false) h.2.1) (il h.2.2 p)) (by with_unfolding_all rfl)
theorem JO(G:Gd fo cx kd)(ia:aT fo cx kd sl a)(il:jC fo cx kd sl l){j m:Nat}:aT fo cx kd sl (.meth j m a l):=λ{e t} h=>kW h λg es p h=>uF h λo x ap h=>by have h:=aF h;have h1:=aF h.1;have h2:=aF h1.1;rw[show x=nm j from fN h2.1];exact eu (x:=.meth j m a l) (TD G.K0 G.O (j6 h1.2.2) (w0 (cy h2.2.1)) h2.2.2 (gv h1.2.1) (ia (t:=false) h.2.1) (il h.2.2 p)) (by with_unfolding_all rfl)
theorem JB(ia:aT fo cx kd sl a)(il:jC fo cx kd sl l){k:Bm}:aT fo cx kd sl (.bm k a l):=λ{e t} h=>kW h λg es p h=>uF h λo x ap h=>by
 have h:=aF h;have h1:=aF h.1;have h2:=aF h1.1;rw[show x=Str.ofString k.nm from fN h2.1];have pl:=j6 (env:=cx.env) h1.2.2;have ab:∀y,attributeBase o y cx.env (eval o cx.env)=eval o cx.env:=λy=>w0 (cy h2.2.1);refine eu (x:=.bm k a l) ?_ (by with_unfolding_all rfl);cases k with
 |append=>exact pV we F.slot_list_append F.type_list_append (λ_ _ _=>uM) I3 pl (ab _) h2.2.2 (gv h1.2.1) (ia (t:=false) h.2.1) (il h.2.2 p)
 |extend=>exact pV we F.slot_list_extend F.type_list_extend (λ_ _ _=>uM) Lw pl (ab _) h2.2.2 (gv h1.2.1) (ia (t:=false) h.2.1) (il h.2.2 p)
 |pop=>exact pV we F.slot_list_pop F.type_list_pop (λ_ _ _=>uM) SB pl (ab _) h2.2.2 (gv h1.2.1) (ia (t:=false) h.2.1) (il h.2.2 p)
 |index=>exact pV we F.slot_list_index F.type_list_index (λ_ _ _=>uM) OJ pl (ab _) h2.2.2 (gv h1.2.1) (ia (t:=false) h.2.1) (il h.2.2 p)
 |join=>exact pV F.plainAttrs_str F.slot_str_join F.type_str_join (λ_ _ _=>UF) O9 pl (ab _) h2.2.2 (gv h1.2.1) (ia (t:=false) h.2.1) (il h.2.2 p)
 |update=>exact pV F.plainAttrs_dict F.slot_dict_update F.type_dict_update (λ_ _ _=>KO) VL pl (ab _) h2.2.2 (gv h1.2.1) (ia (t:=false) h.2.1) (il h.2.2 p)
theorem Jz(G:Gd fo cx kd)(il:jC fo cx kd sl l){k:Bf}:aT fo cx kd sl (.bf k l):=λ{e t} h=>kW h λg es p h=>gV h λx np h=>by
 have h:=aF h;have h1:=aF h.1;have pl:=j6 (env:=cx.env) h1.2.2;refine eu (x:=.bf k l) ?_ (by with_unfolding_all rfl);cases es with
 |nil=>exact nB h.2.2
 |cons e1 r=>
  have h2:=aA h1.2.2;have pr:=j6 (env:=cx.env) h2.2;have hs:=lI (env:=cx.env) (rest:=r) (cy h2.1);have N:∀{v},l8 k.nm o8=some v→eW cx x v:=λe=>iT G h1.2.1 (ng _ e h1.1)
  have bf:∀{id:String}{F:List RV→Fm RV},l8 k.nm o8=some (.builtin id)→(∀{P:Pt}{vs:List Value}{xs:List RV},P.vals cx vs xs→aZ cx sl P (rV cx) (call (.builtin id) vs) (F xs))→aH cx sl (eval (.Call (.Name x np) (e1::r) [] p) cx.env) λst=>(cK fo l st).bind λxs st=>F xs st:=λq f=>Th G.K0 (N q).k (N q).g (N q).d pl f (il h.2.1 p) (l4 rfl)
  have bt:∀{id:String}{F:List RV→Fm RV},l8 k.nm o8=some (.type id)→(∀{P:Pt}{vs:List Value}{xs:List RV},P.vals cx vs xs→aZ cx sl P (rV cx) (call (.type id) vs) (F xs))→aH cx sl (eval (.Call (.Name x np) (e1::r) [] p) cx.env) λst=>(cK fo l st).bind λxs st=>F xs st:=λq f=>Tj G.K0 (N q).k (N q).g (N q).d pr f (il h.2.1 p) (l4 rfl) hs
  cases k with
  |len=>exact bf rfl Qe
  |abs=>exact bf rfl IZ
  |max=>exact bf rfl QD
  |int=>exact bt rfl OM
  |list own=>exact bt rfl (Qh G.K0)
  |dict=>exact bt rfl KQ
theorem z7(G:Gd fo cx kd){k:Nat}{e:Expr}(h:vS kd k e=true):∃y p,e=.Name y p∧eW cx y (ed k)∧cV k ji=true:=gV h λy p h=>have z:=Vn cx.w.params (aA h).1;⟨y,p,rfl,iT G (aA h).2 z.1,z.2⟩
theorem JL(G:Gd fo cx kd)(ia:aT fo cx kd sl a){cs:List Nat}:aT fo cx kd sl (.isi cs a):=λ{e t} h=>kW h λg es p h=>gV h λx np h=>pB h λe c h=>by
 have h:=aF h;have h1:=aF h.1;have N:eW cx x (.builtin "isinstance"):=iT G h1.2.1 (ng _ rfl h1.1);have hs:∀{c},starEach [e,c] cx.env=(false,eval e cx.env)::starEach [c] cx.env:=lI (cy h1.2.2);refine eu (x:=.isi cs a) ?_ (by with_unfolding_all rfl);rcases cs with _|⟨k,_|⟨j,_|⟨_,_⟩⟩⟩
 ·exact nB h.2.2
 ·obtain⟨y,yp,rfl,N1,m1⟩:=z7 G h.2.2;exact Tx G.K0 N N1 m1 (j6 (by rw[j2,h1.2.2];rfl)) hs (l4 rfl) (ia (t:=false) h.2.1)
 ·refine rn h.2.2 λes _ tp h5=>pB h5 λy z h5=>?_;obtain⟨y,yp,rfl,N1,m1⟩:=z7 G (aA h5).1;obtain⟨z,zp,rfl,N2,m2⟩:=z7 G (aA h5).2;exact Tz G.K0 N N1 m1 N2 m2 (j6 (by rw[j2,h1.2.2];rfl)) hs (l4 rfl) (ia (t:=false) h.2.1)
 ·exact nB h.2.2
theorem JV(il:jC fo cx kd sl l):aT fo cx kd sl (.tup l):=λ{e t} h=>rn h λes k p h=>eu (x:=.tup l) (TY (il h p)) (by with_unfolding_all rfl)
theorem JN(il:jC fo cx kd sl l){own:Bool}:aT fo cx kd sl (.lst own l):=λ{e t} h=>O4 h λes p h=>eu (x:=.lst own l) (TC (own:=own) (il h p)) (by with_unfolding_all rfl)
theorem rI:∀{l:List Str},n7 l=true→l.Nodup
 |[],_=>lS
 |x::l,h=>List.nodup_cons.mpr ⟨λm=>List.any_eq_false.mp (cy (aA h).1) x m (eQ x),rI (aA h).2⟩
noncomputable def iY(cx:Cx)(pos:Pos)(keys:List (Option Expr))(vs:List Expr):List (Sem Value×Sem Value):=(keys.zip vs).filterMap λq=>q.1.map λk=>(eval k cx.env,do let x←eval q.2 cx.env;standAt pos;pure x)
theorem Fq(pos:Pos):∀{keys:List (Option Expr)}{vs:List Expr}{ss:List Str},jX keys=some ss→vs.length=ss.length→
  (evalEachOpt keys cx.env).zip ((evalEach vs cx.env).map λv=>do let x←v;standAt pos;pure x)=(iY cx pos keys vs).map (λp=>(some p.1,p.2))∧(iY cx pos keys vs).length=ss.length
 |[],[],ss,e,l=>⟨rfl,l⟩
 |[],_::_,ss,e,l=>by rw[←ak e] at l;cases l
 |k::r,vs,ss,e,l=>by
  obtain⟨s,a,p,l',rfl,rfl,q⟩:=yF e;cases vs with
  |nil=>cases l
  |cons v vs=>have ih:=Fq pos q (oV l);exact⟨congrArg (_::·) ih.1,congrArg (·+1) ih.2⟩
theorem SK(pos:Pos){keys:List (Option Expr)}{ss:List Str}(l:([]:List Expr).length=ss.length):jc cx sl (iY cx pos keys []) ss (cK fo .nil):=by rw[List.length_eq_zero_iff.mp l.symm,show iY cx pos keys []=[] by unfold iY;rw[List.zip_nil_right];rfl];exact KH
theorem SJ(pos:Pos){keys:List (Option Expr)}{ss:List Str}{v:Expr}{vs:List Expr}(e:jX keys=some ss)(hl:(v::vs).length=ss.length)(hv:SE fo cx sl v a)
  (ih:∀{keys:List (Option Expr)}{ss:List Str},jX keys=some ss→vs.length=ss.length→jc cx sl (iY cx pos keys vs) ss (cK fo l)):jc cx sl (iY cx pos keys (v::vs)) ss (cK fo (.cons a l)):=by
 cases keys with
 |nil=>rw[←ak e] at hl;cases hl
 |cons k r=>obtain⟨s,a',p,l',rfl,rfl,q⟩:=yF e;exact KG hv (ih q (oV hl))
theorem JI(id:∀(X1:Addr→Prop)(pos:Pos){keys:List (Option Expr)}{ss:List Str}{vs:List Expr},jX keys=some ss→vs.length=ss.length→ir kd sl l vs=true→jc (cx.st X1) sl (iY cx pos keys vs) ss (cK fo l))
  {own:Bool}{ks:List (List Nat)}:aT fo cx kd sl (.dct own ks l):=λ{e t} h=>O0 h λkeys vs p h=>by
 obtain⟨ss,e,hh⟩:=KJ (aA h).1;have h5:=(aA h).2;have hh:=aF hh;have h1:=aA hh.1;have hl:=em hh.2.1;refine eu (x:=.dct own ks l) ?_ (by with_unfolding_all rfl);rw[←bI h1.1];cases vs with
 |nil=>
  rw[List.length_eq_zero_iff.mp hl.symm] at e⊢;cases keys with
  |nil=>cases l with
   |nil=>exact Tq
   |cons=>exact nB h5
  |cons k r=>obtain⟨_,_,_,_,_,e,_⟩:=yF e;cases e
 |cons v vs=>
  have S:=Fq (cx:=cx) p e hl;refine Tp (pairs:=iY cx p keys (v::vs)) S.1 (λz=>?_) ?_ (rI h1.2) λX1=>id X1 p e hl h5
  ·have:=S.2;rw[z,←hl] at this;cases this
  ·rw[S.2,←hl];exact lT hh.2.2
theorem Aa{it t:Expr}{m:Fm (List (List RV))}(h:vU t=true)(k:∀{ts:List (Str×Pos)}{k p},h8 cx sl it m (.Tuple (dT ts) k p) ts):∀ts,oF t=some ts→h8 cx sl it m t ts:=rn (P:=λt=>∀ts,oF t=some ts→h8 cx sl it m t ts) h λes n p _ ts e=>by rw[z8 (show oE es=some ts from e)];exact k
theorem VD(ia:aT fo cx kd sl a):jD fo cx kd sl (.ones a):=λ{it t} h=>gV h λx p h ts e=>by rw[←ak (show some [(x,p)]=some ts from e)];exact WH (ia (t:=false) h)
theorem VG(ia:aT fo cx kd sl a):jD fo cx kd sl (.tups a):=λ{it t} h=>Aa (aA h).1 (WJ (ia (t:=false) (aA h).2))
theorem BH{r:Rs RV}{F:RV→Fm (List (List RV))}:((r.bind λy st=>(aI [] st).bind λr st=>.ok (y::r) st).bind λxs st=>wY F xs st)=r.bind λy st=>F y st:=by cases r<;>rfl
theorem VC(G:Gd fo cx kd)(ia:aT fo cx kd sl a):jD fo cx kd sl (.enum a):=λ{it t} h=>kW h λg es p h=>gV h λf np h=>kY h λe h=>by have h:=aF h;have h1:=aF h.1;have N:eW cx f (.type "enumerate"):=iT G h1.2.2 (ng _ rfl h1.2.1);have hs:=lI (env:=cx.env) (rest:=[]) (cy h.2.1);exact Aa h1.1 λ{ts k p'} p A s tk Q E ar R z=>Ae G.K0 N rfl (λar R vv z=>K6 ar R vv z) (sq hs (ia (t:=false) h.2.2) vH) (l4 rfl) hs ar R (by rw[BH];exact z)
theorem YC{r:Rs RV}{f:Fm RV}:((r.bind λy st=>((f st).bind λy st=>(aI [] st).bind λr st=>.ok (y::r) st).bind λr st=>.ok (y::r) st).bind λxs st=>Ig xs st)=r.bind λx st=>(f st).bind λy st=>ui x y st:=by
 cases r with
 |ok x σ=>show(((f σ).bind _).bind _).bind _=(f σ).bind _;cases f σ<;>rfl
 |_=>rfl
theorem VH(G:Gd fo cx kd)(ia:aT fo cx kd sl a)(ib:aT fo cx kd sl b):jD fo cx kd sl (.zip a b):=λ{it t} h=>kW h λg es p h=>gV h λf np h=>pB h λe g h=>by have h:=aF h;have h1:=aF h.1;have h2:=aF h1.1;have N:eW cx f (.type "zip"):=iT G h2.2.2 (ng _ rfl h2.2.1);have hs:=lI (env:=cx.env) (rest:=[g]) (cy h1.2.1);have hs2:=lI (env:=cx.env) (rest:=[]) (cy h1.2.2);exact Aa h2.1 λ{ts k p'} p A s tk Q E ar R z=>Ae G.K0 N (j6 (by rw[j2,h1.2.2];rfl)) (λar R vv z=>YD ar R vv z) (sq hs (ia (t:=false) h.2.1) (sq hs2 (ib (t:=false) h.2.2) vH)) (l4 rfl) hs ar R (by rw[YC];exact z)
theorem VF(G:Gd fo cx kd)(ia:aT fo cx kd sl a):jD fo cx kd sl (.range a):=λ{it t} h=>kW h λg es p h=>gV h λf np h=>kY h λe h=>gV h λx xp h ts et=>by
 have h:=aF h;have h1:=aA h.1;rw[←ak (show some [(x,xp)]=some ts from et)];have N:eW cx f (.type "range"):=iT G h1.2 (ng _ rfl h1.1);have hs:=lI (env:=cx.env) (rest:=[]) (cy h.2.1)
 exactλp A s tk Q E ar R z=>Ae G.K0 N rfl (λar R vv z=>SV ar R vv z) (sq hs (ia (t:=false) h.2.2) vH) (l4 rfl) hs ar R (by rw[BH];exact z)
end
end
section
open PySem.SeqAt
section
variable{fo:Fo}{cx:Cx}{kd:Kd}{sl:List Str}{e:Expr}{x c:X}{u u2:XU}{t:Bool}{p:Pt}{pos:Pos}
theorem BY:∀{caps:List Nat}{nms:List Str},nh sl caps=some nms→caps.length=nms.length∧∀j i nm,ae caps j=some i→ae nms j=some nm→ae sl i=some nm
 |[],nms,e=>⟨by rw[←ak e];rfl,λj i nm e=>nS e⟩
 |i::r,nms,e=>aL (o:=ae sl i) e λx e1 e=>cz (o:=nh sl r) e λl e2 e=>by
  have ih:=BY e2;rw[←e];exact⟨congrArg (·+1) ih.1,λj i' nm a b=>by
   cases j with
   |zero=>cases a;cases b;exact e1
   |succ j=>exact ih.2 j i' nm a b⟩
theorem EJ{α:Type}{l:List α}{i:Nat}{a:α}(h:ae l i=some a):a∈l:=AS ((cJ l i).symm.trans h)
theorem tV(G:Gd fo cx kd)(R:SR cx sl p){scope:Scope}{own nms:List Str}{caps:List Nat}(h:qH kd scope own nms=true)(hc:nh sl caps=some nms):
  jA cx sl scope (gO cx.env.cells scope.names []) own caps nms:=by
 have h:=aF h;have h1:=aF h.1;have nk:∀{q},q∈scope.names→rH kd scope.names q=true:=λm=>List.all_eq_true.mp h1.2.1 _ m;have free:∀q∈scope.names,q.2=.free→∃c,cx.env.cells.lookup q.1=some c:=λq m e=>G.cells _ (uA (by have:=nk m;unfold rH at this;rw[e] at this;exact this));have from':∀y c,(gO cx.env.cells scope.names []).lookup y=some c→cx.env.cells.lookup y=some c:=λy c e=>B2 _ [] free (λ_ _ e=>nomatch e) e;have cn:=BY hc;refine⟨fN h1.1,λy m e=>?_,λy m e=>?_,λx m=>jV (List.all_eq_true.mp h1.2.2 x m),xq free,λy c e=>⟨y,from' y c e⟩,λy z c e1 e2=>R.c.apartC _ _ _ (from' y c e1) (from' z c e2),
  zd (rI h.2.1),cn.1,λj i nm e1 e2=>?_⟩
 ·have:=nk m;unfold rH at this;rw[e] at this;exact nB this
 ·have:=nk m;unfold rH at this;rw[e] at this;exact jV this
 ·have f:=aA (List.all_eq_true.mp h.2.2 nm (EJ e2));have fk:scope.names.lookup nm=some .free:=bI f.1;have ck:=uA f.2;obtain⟨c,hcell⟩:=G.cells _ ck;refine⟨cn.2 j i nm e1 e2,.inl ?_,⟨c,xk hcell _ _ (.inl (mem_of_lookup fk)),hcell⟩,by rw[G.kk,ck];exactλh=>nomatch h⟩;rw[FJ G.K0.kind G.kk];unfold fT;rw[fk,ck]
theorem Gd.inner(G:Gd fo cx kd){scope:Scope}{own nms:List Str}{caps:List Nat}(CO:jA cx sl scope (gO cx.env.cells scope.names []) own caps nms)(C:Addr):Gd fo (eB cx C (compEnvC scope (gO cx.env.cells scope.names []) C cx.env)) (fT kd scope.names):=by
 refine⟨CO.inner G.K0 C,FJ G.K0.kind G.kk,G.O,λx e=>?_⟩;unfold fT at e;split at e
 ·rename_i fk;split at e
  ·rename_i ck;exact(G.cells _ ck).imp λc hc=>xk hc _ _ (.inl (mem_of_lookup fk))
  ·cases e
 ·exact absurd rfl (CO.noCell _ (mem_of_lookup e))
theorem n6{pl:Option NameKind→Bool}(hpl:∀x,pl (kd x)=true→hY cx x):∀{ts:List (Str×Pos)}{is:List Nat},mH pl kd sl ts is=true→lU cx sl ts is
 |[],[],_=>Z2.nil
 |[],_::_,h=>nB h
 |_::_,[],h=>nB h
 |q::r,i::is,h=>.cons ⟨sx (aF h).1,hpl _ (aF h).2.1⟩ (n6 hpl (aF h).2.2)
theorem r9(G:Gd fo cx kd)(x:Str)(h:gr (kd x)=true):hY cx x:=.inl ((G.kk x).trans (jV h))
inductive sZ(fo:Fo)(cx:Cx)(sl:List Str)(elt t0 i0:Expr)(ifs0:List Expr)(gs:List Comprehension)(pos:Pos)(scope:Scope)(x:X):Prop
 |mk {cl:List (Str×Addr)} {caps:List Nat} {own names:List Str} {ts:List (Str×Pos)} {mu:Fm (List (List RV))} {mgo:List (List RV)→List RV→Fm (List RV)}:jA cx sl scope cl own caps names→(∀v,foldedSetIterable i0 cx.env v=pure v)→h8 cx sl i0 mu t0 ts→(∀C,mV (eB cx C (compEnvC scope cl C cx.env)) (own++names) (.ListComp elt (⟨t0,i0,ifs0,0⟩::gs) scope pos) 0 t0 ts mgo)→
  (ev fo x=λst=>(mu st).bind λxs st=>fj own.length caps mgo xs st)→sZ fo cx sl elt t0 i0 ifs0 gs pos scope x
inductive i6(fo:Fo)(cx:Cx)(sl:List Str)(x:X):Expr→Prop
 |mk {elt t0 i0:Expr} {ifs0:List Expr} {gs:List Comprehension} {pos:Pos} {scope:Scope}:(∀p,SR cx sl p→sZ fo cx sl elt t0 i0 ifs0 gs pos scope x)→i6 fo cx sl x (.ListComp elt (⟨t0,i0,ifs0,0⟩::gs) scope pos)
theorem i6.snd(G:Gd fo cx kd)(h:i6 fo cx sl x e):Cn fo cx sl t e x:=i6.rec (motive:=λe _=>Cn fo cx sl t e x) (λh=>eu (λp A s tk Q E ar R z=>sZ.rec (motive:=λ_=>wpAny _ _ _ _ _ _) (λCO h1 h2 h3 im=>Tn G.K0 CO h1 h2 h3 p A s tk Q E ar R (im▸z)) (h p R)) (by with_unfolding_all rfl)) h
theorem i6.set(G:Gd fo cx kd)(h:i6 fo cx sl x e){y:Str}{py:Pos}{i:Nat}(hn:ae sl i=some y)(hk:hY cx y)(hs0:swapsWith e (some (.Name y py)) pos.line cx.env=pure true):
  df cx sl (exec (.Assign [.Name y py] e pos) cx.env) λst=>(ev fo x st).bind λv st=>.ok .next ⟨bp st.loc i (some v),st.H⟩:=i6.rec (motive:=λe _=>swapsWith e (some (.Name y py)) pos.line cx.env=pure true→df cx sl (exec (.Assign [.Name y py] e pos) cx.env) λst=>(ev fo x st).bind λv st=>.ok .next ⟨bp st.loc i (some v),st.H⟩)
 (λh hs0 p A s tk Q E ar R z=>sZ.rec (motive:=λ_=>wpAny _ _ _ _ _ _) (λCO h1 h2 h3 im=>TS G.K0 CO hs0 hn hk h1 h2 h3 p A s tk Q E ar R (by rw[im] at z;exact z)) (h p R)) h hs0
theorem Fb(G:Gd fo cx kd)(iu:jD fo cx kd sl u)(ie:∀{cx kd sl},Gd fo cx kd→aT fo cx kd sl x){k:Nat}{caps is:List Nat}(h:chk kd sl t (.comp k caps is u x) e=true):i6 fo cx sl (.comp k caps is u x) e:=uH h λelt gs scope pos h=>kY h λg h=>uG h λt0 i0 l0 h=>kX h λh=>by
 obtain⟨ts,e1,h⟩:=gA h;obtain⟨nms,e2,h⟩:=gA h;have h:=aF h;have h1:=aF h.1;have h2:=aA h1.1;refine .mk λp R=>?_;have CO:=tV G R h2.2 e2;refine .mk (mgo:=fC is none (ev fo x)) CO (nN (cy h1.2.1)) (iu h1.2.2 ts e1) (λC=>?_) ?_
 ·have GI:=G.inner CO C;exact y0 GI.K0 El (n6 (r9 GI) h.2.1) (λX1=>ie (t:=false) (GI.x0 X1) h.2.2) (.inl ⟨rfl,rfl⟩)
 ·rw[aU,←em h2.1];rfl
theorem Fd(G:Gd fo cx kd)(iu:jD fo cx kd sl u)(ic:∀{cx kd sl},Gd fo cx kd→aT fo cx kd sl c)(ie:∀{cx kd sl},Gd fo cx kd→aT fo cx kd sl x){k:Nat}{caps is:List Nat}(h:chk kd sl t (.compc k caps is u c x) e=true):i6 fo cx sl (.compc k caps is u c x) e:=uH h λelt gs scope pos h=>kY h λg h=>uG h λt0 i0 l0 h=>kY h λi1 h=>by
 obtain⟨ts,e1,h⟩:=gA h;obtain⟨nms,e2,h⟩:=gA h;have h:=aF h;have h1:=aF h.1;have h2:=aF h1.1;refine .mk λp R=>?_;have CO:=tV G R h2.2.1 e2;refine .mk (mgo:=fC is (some (ev fo c)) (ev fo x)) CO (nN (cy h2.2.2)) (iu h1.2.1 ts e1) (λC=>?_) ?_
 ·have GI:=G.inner CO C;exact y0 GI.K0 El (n6 (r9 GI) h1.2.2) (λX1=>ie (t:=false) (GI.x0 X1) h.2.2) (.inr ⟨_,_,rfl,rfl,λX1=>ic (t:=true) (GI.x0 X1) h.2.1⟩)
 ·rw[aU,←em h2.1];rfl
theorem Fc(G:Gd fo cx kd)(iu:jD fo cx kd sl u)(iu2:∀{cx kd sl},Gd fo cx kd→jD fo cx kd sl u2)(ie:∀{cx kd sl},Gd fo cx kd→aT fo cx kd sl x){k:Nat}{caps is is2:List Nat}(h:chk kd sl t (.comp2 k caps is is2 u u2 x) e=true):i6 fo cx sl (.comp2 k caps is is2 u u2 x) e:=uH h λelt gs scope pos h=>pB h λg g2 h=>uG h λt0 i0 l0 h=>kX h λh=>uG h λt1 i1 l1 h=>kX h λh=>by
 obtain⟨ts,e1,h⟩:=gA h;obtain⟨ts1,e1',h⟩:=gA h;obtain⟨nms,e2,h⟩:=gA h;have h:=aF h;have h1:=aF h.1;have h2:=aF h1.1;have h3:=aF h2.1;refine .mk λp R=>?_;have CO:=tV G R h3.2.1 e2;refine .mk (mgo:=iU is is2 (gR fo u2) (ev fo x)) CO (nN (cy h3.2.2)) (iu h2.2.1 ts e1) (λC=>?_) ?_
 ·have GI:=G.inner CO C;exact Qt GI.K0 (nN (cy h1.2.1)) (n6 (r9 GI) h2.2.2) (λX1=>iu2 (GI.x0 X1) h1.2.2 ts1 e1') (y0 GI.K0 PU (n6 (r9 GI) h.2.1) (λX1=>ie (t:=false) (GI.x0 X1) h.2.2) (.inl ⟨rfl,rfl⟩))
 ·rw[aU,←em h3.1];rfl
theorem Jy:aT fo cx kd sl .bad:=λ{e t} h=>by cases t<;>exactλp A s tk Q E ar R z=>False.elim z
end
section
variable{fo:Fo}
mutual
theorem sE:∀(x:X){cx:Cx}{kd:Kd}{sl:List Str},Gd fo cx kd→aT fo cx kd sl x
 |.bad,_,_,_,G=>Jy
 |.var i,_,_,_,G=>JW G
 |.con v,_,_,_,G=>JH
 |.glf a,_,_,_,G=>JK G
 |.glc a,_,_,_,G=>JJ G
 |.bin op own a b,_,_,_,G=>JA (sE a G) (sE b G)
 |.pow a b,_,_,_,G=>JS (sE a G) (sE b G)
 |.cmp op a b,_,_,_,G=>JD (sE a G) (sE b G)
 |.cmpI a b,_,_,_,G=>JG G (sE a G) (sE b G)
 |.cmpD a b,_,_,_,G=>JF (sE a G) (sE b G)
 |.cmp2 o1 o2 a b c,_,_,_,G=>JE (sE a G) (sE b G) (sE c G)
 |.no a,_,_,_,G=>JQ (sE a G)
 |.neg a,_,_,_,G=>JP (sE a G)
 |.ite c a b,_,_,_,G=>JM (sE a G) (sE b G) (sE c G)
 |.and a b,_,_,_,G=>Jw (sE a G) (sE b G)
 |.or a b,_,_,_,G=>JR (sE a G) (sE b G)
 |.attr j a,_,_,_,G=>Jx G (sE a G)
 |.sub a i,_,_,_,G=>JU (sE a G) (sE i G)
 |.sli own a lo hi st,_,_,_,G=>JT (sE a G) (sE lo G) (sE hi G) (sE st G)
 |.call m f l,_,_,_,G=>JC G (sE f G) (sL l G)
 |.meth j m o l,_,_,_,G=>JO G (sE o G) (sL l G)
 |.bm k o l,_,_,_,G=>JB (sE o G) (sL l G)
 |.bf k l,_,_,_,G=>Jz G (sL l G)
 |.isi cs a,_,_,_,G=>JL G (sE a G)
 |.tup l,_,_,_,G=>JV (sL l G)
 |.lst own l,_,_,_,G=>JN (sL l G)
 |.dct own ks l,_,_,_,G=>JI λX1 pos{keys ss vs} e hl hc=>sD l (G.x0 X1) pos e hl hc
 |.comp k caps is u e,_,_,_,G=>λh=>(Fb G (sU u G) (sE e) h).snd G
 |.compc k caps is u c e,_,_,_,G=>λh=>(Fd G (sU u G) (sE c) (sE e) h).snd G
 |.comp2 k caps is is2 u u2 e,_,_,_,G=>λh=>(Fc G (sU u G) (sU u2) (sE e) h).snd G
theorem sL:∀(l:XL){cx:Cx}{kd:Kd}{sl:List Str},Gd fo cx kd→jC fo cx kd sl l
 |.nil,_,_,_,G=>PD
 |.cons x l,_,_,_,G=>PC (sE x G) (sL l G)
theorem sD:∀(l:XL){cx:Cx}{kd:Kd}{sl:List Str},Gd fo cx kd→∀(pos:Pos){keys:List (Option Expr)}{ss:List Str}{vs:List Expr},jX keys=some ss→vs.length=ss.length→ir kd sl l vs=true→jc cx sl (iY cx pos keys vs) ss (cK fo l)
 |.nil,cx,_,sl,G,pos,keys,ss,vs,e,hl,h=>kX (P:=λvs=>vs.length=ss.length→jc cx sl (iY cx pos keys vs) ss (cK fo .nil)) h (λ_ hl=>SK pos hl) hl
 |.cons x l,cx,_,sl,G,pos,keys,ss,vs,e,hl,h=>rl (P:=λvs=>vs.length=ss.length→jc cx sl (iY cx pos keys vs) ss (cK fo (.cons x l))) h (λv vs h hl=>SJ pos e hl (sE x G (t:=false) (aF h).2.1) λe' hl'=>sD l G pos e' hl' (aF h).2.2) hl
theorem sU:∀(u:XU){cx:Cx}{kd:Kd}{sl:List Str},Gd fo cx kd→jD fo cx kd sl u
 |.ones x,_,_,_,G=>VD (sE x G)
 |.tups x,_,_,_,G=>VG (sE x G)
 |.enum x,_,_,_,G=>VC G (sE x G)
 |.zip a b,_,_,_,G=>VH G (sE a G) (sE b G)
 |.range x,_,_,_,G=>VF G (sE x G)
end
end
end
section
open PySem.SeqAt
structure dJ(fo:Fo)(gm:Nat)(cx:Cx)(kd:Kd):Prop extends Gd fo cx kd where
 ci:sY cx
 hg:cx.g≤gm
 b:dH cx.w cx.B
abbrev oO(fo:Fo)(gm:Nat)(cx:Cx)(kd:Kd)(sl:List Str)(s:XS):Prop:=∀{l:List Stmt},jg gm kd sl s l=true→df cx sl (execs l cx.env) (aP fo s)
abbrev hB(fo:Fo)(gm:Nat)(cx:Cx)(kd:Kd)(sl:List Str)(s:XS):Prop:=∀{st:Stmt},tR gm kd sl s st=true→df cx sl (exec st cx.env) (aP fo s)
section
variable{gm:Nat}{fo:Fo}{cx:Cx}{kd:Kd}{sl:List Str}{x a i c:X}{b b':XS}{u:XU}
theorem dJ.x0(G:dJ fo gm cx kd)(X1:Addr→Prop):dJ fo gm (cx.st X1) kd:=⟨G.toGd.x0 X1,G.ci,G.hg,G.b⟩
theorem dJ.pl(G:dJ fo gm cx kd)(x:Str)(h:pL (kd x)=true):hY cx x:=Sy G.ci (by rw[G.kk];exact(Bool.or_eq_true_iff.mp h).imp jV uA)
theorem Gk{α β:Type}{rel:Pt→α→β→Prop}{t:Sem α}:jH cx sl rel t λ_=>(.bad:Rs β):=λp A s tk Q E ar R z=>False.elim z
theorem UU(K0:bq cx)(kk:∀x,cx.env.kindOf x=kd x){elt:Expr}{gs:List Comprehension}{scope:Scope}{p py:Pos}{y:Str}{l:Nat}(h5:gr (kd y)=true)(h6:(py.line==p.line)=true)(h7:(!(scope.names.any λq=>q.1==y&&(q.2==.local||q.2==.cell)))=true):swapsWith (.ListComp elt gs scope p) (some (.Name y py)) l cx.env=pure true:=by
 have hb:cx.env.blockKind=.function:=by unfold Env.blockKind;rw[K0.kind];rfl
 show pure (cx.env.blockKind==.function&&cx.env.kindOf y==some .local&&py.line==p.line&& !(scope.names.any λ(n,k)=>n==y&&(k==.local||k==.cell)))=_;rw[hb,kk,jV h5,h6];have h7:(!(scope.names.any λ(n,k)=>n==y&&(k==.local||k==.cell)))=true:=h7;rw[h7];rfl
theorem Qc(G:Gd fo cx kd){e:Expr}(hx:yz x=true)(h:chk kd sl false x e=true):i6 fo cx sl x e:=by
 cases x with
 |comp k caps is u c=>exact Fb G (sU u G) (sE c) h
 |compc k caps is u c e=>exact Fd G (sU u G) (sE c) (sE e) h
 |comp2 k caps is is2 u u2 c=>exact Fc G (sU u G) (sU u2) (sE c) h
 |_=>exact nB hx
theorem U3(G:dJ fo gm cx kd){i:Nat}:hB fo gm cx kd sl (.set i x):=λ{st} h=>rk h λt e pos h=>gV h λy py h=>by
 have h:=aF h;have h1:=aA h.1;cases hc:kR e with
 |false=>exact TQ G.K0 (qc hc) (sx h1.1) (G.pl _ h1.2) (sE x G.toGd (t:=false) h.2.2)
 |true=>have h3:cond (kR e) (pJ e λ_ _ scope p=>yz x&&gr (kd y)&&py.line==p.line&& !(scope.names.any λq=>q.1==y&&(q.2==.local||q.2==.cell))) true=true:=h.2.1;rw[hc] at h3;refine uH (P:=λe=>chk kd sl false x e=true→df cx sl (exec (.Assign [.Name y py] e pos) cx.env) _) h3 (λelt gs scope p h3 h4=>?_) h.2.2;have h3:=aF h3;have h5:=aA h3.1;exact(Qc G.toGd h5.1 h4).set G.toGd (sx h1.1) (G.pl _ h1.2) (UU G.K0 G.kk h5.2 h3.2.1 h3.2.2)
theorem U7(G:dJ fo gm cx kd){swp:Bool}{is:List Nat}:hB fo gm cx kd sl (.setT swp is x):=λ{st} h=>rk h λt e pos h=>rn h λes k tp h=>by obtain⟨ts,q,h⟩:=gA h;have h:=aF h;have h1:=aA h.1;rw[z8 q];refine TV G.K0 (n6 G.pl h1.1) (by unfold swapsWithSole;exact qc (cy h1.2)) ?_ (sE x G.toGd (t:=false) h.2.2);rw[US G.K0.kind G.kk (bI h.2.1)];cases swp<;>rfl
theorem U6(G:dJ fo gm cx kd):hB fo gm cx kd sl (.setI x a i):=λ{st} h=>rk h λt e pos h=>uI h λo k tp h=>
 have h:=aF h;have h1:=aA h.1
 TU (qc (cy h1.1)) (sE x G.toGd (t:=false) h1.2) (sE a G.toGd (t:=false) h.2.1) (sE i G.toGd (t:=false) h.2.2)
theorem U5(G:dJ fo gm cx kd):hB fo gm cx kd sl (.setD x a i):=λ{st} h=>rk h λt e pos h=>uI h λo k tp h=>
 have h:=aF h;have h1:=aA h.1
 TT (qc (cy h1.1)) (sE x G.toGd (t:=false) h1.2) (sE a G.toGd (t:=false) h.2.1) (sE i G.toGd (t:=false) h.2.2)
theorem U4(G:dJ fo gm cx kd){j:Nat}:hB fo gm cx kd sl (.setA j x a):=λ{st} h=>rk h λt e pos h=>uF h λo y tp h=>by have h:=aF h;have h1:=aA h.1;rw[show y=nm j from fN h1.1];exact TR G.K0 (qc (cy h1.2)) (sE x G.toGd (t:=false) h.2.1) (sE a G.toGd (t:=false) h.2.2)
theorem U0(G:dJ fo gm cx kd)(ia:oO fo gm cx kd sl b)(ib:oO fo gm cx kd sl b'):hB fo gm cx kd sl (.ifs c b b'):=λ{st} h=>O2 h λt x y pos h=>Tw (sE c G.toGd (t:=true) (aF h).1) (ia (aF h).2.1) (ib (aF h).2.2)
theorem U2(G:dJ fo gm cx kd):hB fo gm cx kd sl (.ret x):=λ{st} h=>O6 h λo pos h=>(gA h).elim λe z=>by rw[z.1];exact TO (sE x G.toGd (t:=false) z.2)
theorem UX(G:dJ fo gm cx kd):hB fo gm cx kd sl (.expr x):=λ{st} h=>O1 h λe pos h=>Tu (by unfold interactive;rw[G.K0.kind];rfl) (qc (cy (aA h).1)) (sE x G.toGd (t:=false) (aA h).2)
theorem U1(G:dJ fo gm cx kd):hB fo gm cx kd sl (.raise x):=λ{st} h=>O5 h λo c pos h=>(gA h).elim λe z=>by rw[z.1];refine kW z.2 λg es p h=>gV h λf np h=>kY h λe h=>?_;have h:=aF h;have h1:=aF h.1;rw[Option.isNone_iff_eq_none.mp h1.1];exact TN G.K0 G.b (iT G.toGd h1.2.2 (ng _ rfl h1.2.1)) (lI (cy h.2.1)) (sE x G.toGd (t:=false) h.2.2)
theorem LU{i:Nat}:aP fo (.for1 i x b)=λst=>((ev fo x st).bind λy st=>CX y st).bind λxs st=>(iA [i] (aP fo b) xs st).noErr:=funext λst=>by
 rw[Rs.asc];refine congrArg (λk=>(ev fo x st).bind k) (funext λv=>funext λst=>?_);show aj (jS v st.H) (λxs st=>(iz i (aP fo b) xs st).noErr) st=(aj (jS v st.H) (λxs=>aI (xs.map λx=>[x])) st).bind _;cases jS v st.H with
 |none=>rfl
 |some xs=>show(iz i (aP fo b) xs st).noErr=_;rw[Dj];rfl
theorem UY(G:dJ fo gm cx kd){i:Nat}(ib:∀X1,oO fo gm (cx.st X1) kd sl b):hB fo gm cx kd sl (.for1 i x b):=λ{st} h=>Ed h λt it body els pos h=>kX h λh=>gV h λy py h=>by have h:=aF h;have h1:=aF h.1;rw[LU];exact FP G.K0 (nN (cy h1.2.2)) (.cons ⟨sx h1.1,G.pl _ h1.2.1⟩ .nil) (WI (sE x G.toGd (t:=false) h.2.1)) λX1=>ib X1 h.2.2
theorem UZ(G:dJ fo gm cx kd){is:List Nat}(ib:∀X1,oO fo gm (cx.st X1) kd sl b):hB fo gm cx kd sl (.forT is u b):=λ{st} h=>Ed h λt it body els pos h=>kX h λh=>rn h λes k tp h=>by obtain⟨ts,q,h⟩:=gA h;have h:=aF h;have h1:=aA h.1;exact FP G.K0 (nN (cy h1.2)) (n6 G.pl h1.1) (sU u G.toGd h.2.1 ts q) λX1=>ib X1 h.2.2
theorem U8(G:dJ fo gm cx kd)(ib:oO fo gm cx kd sl b):hB fo gm cx kd sl (.whl c b):=λ{st} h=>O8 h λt body els pos h=>kX h λh=>T2 (sE c G.toGd (t:=true) (aA h).1) (ib (aA h).2)
end
section
variable{gm:Nat}{fo:Fo}
mutual
theorem sS:∀(s:XS){cx:Cx}{kd:Kd}{sl:List Str},dJ fo gm cx kd→oO fo gm cx kd sl s
 |.done,_,_,_,G,l,h=>by rw[List.isEmpty_iff.mp h];exact Tt
 |.bad,_,_,_,G,l,h=>Gk
 |.seq a b,_,_,_,G,l,h=>rl h λst r h=>TP (s1 a G (aA h).1) (sS b G (aA h).2)
 |.set ..,_,_,_,G,_,h=>nB h
 |.setT ..,_,_,_,G,_,h=>nB h
 |.setI ..,_,_,_,G,_,h=>nB h
 |.setD ..,_,_,_,G,_,h=>nB h
 |.setA ..,_,_,_,G,_,h=>nB h
 |.ifs ..,_,_,_,G,_,h=>nB h
 |.ret ..,_,_,_,G,_,h=>nB h
 |.expr ..,_,_,_,G,_,h=>nB h
 |.raise ..,_,_,_,G,_,h=>nB h
 |.for1 ..,_,_,_,G,_,h=>nB h
 |.forT ..,_,_,_,G,_,h=>nB h
 |.whl ..,_,_,_,G,_,h=>nB h
 |.fz ..,_,_,_,G,_,h=>nB h
theorem s1:∀(s:XS){cx:Cx}{kd:Kd}{sl:List Str},dJ fo gm cx kd→hB fo gm cx kd sl s
 |.done,_,_,_,G,_,h=>nB h
 |.seq ..,_,_,_,G,_,h=>nB h
 |.bad,_,_,_,G,st,h=>Gk
 |.set i x,_,_,_,G,_,h=>U3 G h
 |.setT swp is x,_,_,_,G,_,h=>U7 G h
 |.setI x a i,_,_,_,G,_,h=>U6 G h
 |.setD x a i,_,_,_,G,_,h=>U5 G h
 |.setA j x a,_,_,_,G,_,h=>U4 G h
 |.ifs c a b,_,_,_,G,_,h=>U0 G (sS a G) (sS b G) h
 |.ret x,_,_,_,G,_,h=>U2 G h
 |.expr x,_,_,_,G,_,h=>UX G h
 |.raise x,_,_,_,G,_,h=>U1 G h
 |.for1 i x b,_,_,_,G,_,h=>UY G (λX1=>sS b (G.x0 X1)) h
 |.forT is u b,_,_,_,G,_,h=>UZ G (λX1=>sS b (G.x0 X1)) h
 |.whl c b,_,_,_,G,_,h=>U8 G (sS b G) h
 |.fz g is s,_,_,_,G,_,h=>Tv G.K0 (aJ G.hg (lT (aA h).1)) (s1 s G (aA h).2)
end
end
end
section
open PySem.SeqAt
noncomputable def xL:List X→XL
 |[]=>.nil
 |a::l=>.cons a (xL l)
noncomputable def xS:List XS→XS
 |[]=>.done
 |a::l=>.seq a (xS l)
noncomputable def aE:X:=.con (.int 0)
noncomputable def aa:X:=.var 0
noncomputable def eI:X:=.var 10
noncomputable def gH:X:=.var 11
noncomputable def oJ:X:=.var 12
noncomputable def jx:X:=.var 13
noncomputable def sO:X:=.var 14
noncomputable def WW:X:=.var 15
noncomputable def az:X:=.con (.int 1)
noncomputable def ad:X:=.var 1
noncomputable def dE:X:=.con (.int 2)
noncomputable def an:X:=.var 2
noncomputable def iK:X:=.con (.int 3)
noncomputable def aD:X:=.var 3
noncomputable def mN:X:=.con (.int 4)
noncomputable def cB:X:=.var 4
noncomputable def qi:X:=.con (.int 5)
noncomputable def bU:X:=.var 5
noncomputable def Ib:X:=.con (.int 6)
noncomputable def eT:X:=.var 6
noncomputable def sP:X:=.con (.int 7)
noncomputable def eJ:X:=.var 7
noncomputable def WX:X:=.con (.int 8)
noncomputable def eU:X:=.var 8
noncomputable def d6:X:=.var 9
noncomputable def eV:X→X→X:=.bin .Add false
noncomputable def aW:Nat→X→X:=.attr
noncomputable def eh(k:Bf)(l:List X):X:=.bf k (xL l)
noncomputable def gI(k:Bm)(o:X)(l:List X):X:=.bm k o (xL l)
noncomputable def ag(a:Nat)(l:List X):X:=.call 0 (.glf a) (xL l)
noncomputable def bz(n a:Nat)(l:List X):X:=.call n (.glf a) (xL l)
noncomputable def aG:X→X→X:=.cmp .Eq
noncomputable def lN:X→X→X:=.cmp .Gt
noncomputable def bK(c:X):XS:=.ifs c .bad .done
noncomputable def Ic(c:X)(l r:List XS):XS:=.ifs c (xS l) (xS r)
noncomputable def aN(c:X)(l:List XS):XS:=.ifs c (xS l) .done
noncomputable def gZ:X→X→X:=.cmp .In
noncomputable def bu(o:Bool)(l:List X):X:=.lst o (xL l)
noncomputable def vZ:X→X→X:=.cmp .Lt
noncomputable def cH(j m:Nat)(o:X)(l:List X):X:=.meth j m o (xL l)
noncomputable def cM:X→X→X:=.bin .Mult false
noncomputable def gl:X→X→X:=.cmp .NotEq
noncomputable def cf:X:=.con .none
noncomputable def ai:X→XS:=.ret
noncomputable def cg:Nat→X→X→XS:=.setA
noncomputable def am:X→X→X:=.sub
noncomputable def aM:Nat→X→XS:=.set
noncomputable def af(l:List Nat):X:=.con (.str l)
noncomputable def ei:X→X→X:=.bin .Sub false
noncomputable def aq(l:List X):X:=.tup (xL l)
noncomputable def Aq:XS:=(.seq (.setT true [2,3] (.tup (.cons (.bf .abs (.cons (.var 0) .nil)) (.cons (.var 1) .nil)))) (.seq (.whl (.cmp .Gt (.var 3) (.con (.int 0))) (.seq (.setT true [2,3] (.tup (.cons (.var 3) (.cons (.bin .Mod false (.var 2) (.var 3)) .nil)))) .done)) (.seq (.ret (.var 2)) .done)))
noncomputable def Au:XS:=(.seq (.ifs (.cmp .Gt (.var 0) (.con (.int 0))) (.seq (.ret (.con (.int 1))) .done) .done) (.seq (.ifs (.cmp .Lt (.var 0) (.con (.int 0))) (.seq (.ret (.neg (.con (.int 1)))) .done) .done) (.seq (.ret (.con (.int 0))) .done)))
noncomputable def Ie:XS:=xS [bK (aG ad aE),aN (vZ ad aE) [.setT true [0,1] (aq [.neg aa,.neg ad])],aM 2 (ag 30 [aa,ad]),ai (aq [.bin .FloorDiv false aa an,.bin .FloorDiv false ad an])]
noncomputable def Ar:XS:=(.seq (.ret (.and (.cmp .Eq (.sub (.var 0) (.con (.int 1))) (.con (.int 0))) (.cmp .Eq (.sub (.var 0) (.con (.int 0))) (.con (.int 0))))) .done)
noncomputable def At:XS:=(.seq (.ret (.tup (.cons (.neg (.sub (.var 0) (.con (.int 0)))) (.cons (.sub (.var 0) (.con (.int 1))) .nil)))) .done)
noncomputable def Yp:XS:=xS [bK (.or (ag 52 [aa]) (ag 52 [ad])),bK (.and (aG (am aa az) aE) (aG (am ad az) aE)),bK (aG (am aa az) aE),bK (aG (am ad az) aE),ai (ag 45 [eV (cM (am aa aE) (am ad az)) (cM (am ad aE) (am aa az)),cM (am aa az) (am ad az)])]
noncomputable def Yc:XS:=xS [ai (ag 66 [aa,ag 59 [ad]])]
noncomputable def Yy:XS:=xS [bK (.or (ag 52 [aa]) (ag 52 [ad])),bK (.or (aG (am aa az) aE) (aG (am ad az) aE)),ai (ag 45 [cM (am aa aE) (am ad aE),cM (am aa az) (am ad az)])]
noncomputable def XI:XS:=xS [bK (.or (ag 52 [aa]) (ag 52 [ad])),bK (aG (am ad az) aE),bK (aG (am aa az) aE),bK (aG (am ad aE) aE),ai (ag 45 [cM (am aa aE) (am ad az),cM (am aa az) (am ad aE)])]
noncomputable def XH:XS:=xS [aM 1 (.bin .FloorDiv false (eh .abs [am aa aE]) (am aa az)),ai (.ite (.cmp .GtE (am aa aE) aE) ad (.neg ad))]
noncomputable def Yd:XS:=xS [bK (.or (ag 52 [aa]) (.or (ag 52 [ad]) (.or (aG (am aa az) aE) (aG (am ad aE) aE)))),bK (aG (am ad az) aE),aM 2 (ag 94 [ag 87 [aa,ad]]),ai (ag 73 [aa,ag 80 [ag 45 [an],ad]])]
noncomputable def Yl:XS:=xS [bK (.or (aG (am aa az) aE) (aG (am ad az) aE)),ai (ag 37 [ei (cM (am aa aE) (am ad az)) (cM (am ad aE) (am aa az))])]
noncomputable def XD:XS:=xS [bK (.or (ag 52 [ad]) (ag 52 [an])),aM 3 (ag 108 [ad,an]),aN (aG aa (af [61])) [ai (aG aD aE)],aN (aG aa (af fw)) [ai (gl aD aE)],aN (aG aa (af [60])) [ai (vZ aD aE)],aN (aG aa (af fM)) [ai (.cmp .LtE aD aE)],aN (aG aa (af [62])) [ai (lN aD aE)],ai (.cmp .GtE aD aE)]
noncomputable def X9:XS:=xS [aM 2 (bu true []),.whl (.cmp .IsNot ad cf) (xS [.expr (gI .append an [ad]),aM 1 (cH 24 0 aa [ad])]),ai (.sli false an cf cf (.neg az))]
noncomputable def Yn:XS:=xS [aM 3 (cH 21 0 aa [an]),bK (aG aD (af IS)),bK (aG aD (af wO)),ai (aq [dE,gI .index (cH 25 0 aa [ad]) [an]])]
noncomputable def Yo:XS:=xS [aM 2 (ag 179 [aa,ad]),aM 3 (aq [am an aE]),.forT [4,5] (.zip an (.sli false an az cf cf)) (xS [aM 3 (eV aD (ag 186 [aa,cB,bU]))]),ai aD]
noncomputable def Xv:XS:=xS [aM 2 (bu true []),aM 3 (.sli true (cH 25 0 aa [ad]) cf cf (.neg az)),.whl (gl aD (bu false [])) (xS [aM 4 (gI .pop aD []),.expr (gI .append an [cB]),aM 3 (.bin .Add true aD (.sli false (cH 25 0 aa [cB]) cf cf (.neg az)))]),ai an]
noncomputable def Yw:XS:=xS [bK (.cmp .NotIn (cH 21 0 aa [ad]) (aq [af fb,af ql])),ai (gI .join (af []) [.compc 1 [0] [0] (.ones (ag 205 [aa,ad])) (aG (cH 21 0 ad [aa]) (af wN)) (cH 0 0 ad [aa])])]
noncomputable def Xr:XS:=xS [bK (.isi [1] aa),aN (.isi [0] aa) [ai (.ite aa (af fL) (af ij))],bK (.isi [2] aa),ai (.ite (gl aa (bu false [])) (ag 210 [ad,am aa aE]) (af []))]
noncomputable def Xq:XS:=.seq (aN (.isi [2] aa) [ai aa]) .bad
noncomputable def Xs:XS:=xS [aN (.isi [0] aa) [ai aa],bK (.isi [2] aa),bK (.isi [1] aa),ai (gl aa (bu false []))]
noncomputable def XN:XS:=xS [ai (.or (aG aa (af [61])) (aG aa (af fw)))]
noncomputable def XF:XS:=xS [ai (aG (aG ad an) (aG aa (af [61])))]
noncomputable def XE:XS:=xS [aN (ag 238 [aa]) [bK (.or (.isi [0] ad) (.isi [0] an)),bK (.and (.isi [1] ad) (.isi [1] an))],ai (ag 115 [aa,ag 224 [ad,aD],ag 224 [an,aD]])]
noncomputable def Xp:XS:=.seq (aN (.and (ag 238 [aa]) (.no (.isi [2] an))) [ai ad]) .bad
noncomputable def Yt:XS:=xS [.for1 3 ad (xS [.for1 4 an (xS [.ifs (.isi [1] aD) (xS [aN (ag 245 [aa,aD,cB]) [ai (.con (.bool true))]]) .bad])]),ai (.con (.bool false))]
noncomputable def Yx:XS:=xS [ai (.comp 1 [0] [0] (.ones ad) (ag 210 [ad,aa]))]
noncomputable def Yb:XS:=.seq (aN (.isi [3] ad) [ai (ag 257 [aa,ag 269 [aD,ad],an])]) (.seq (aN (ag 238 [aa]) [ai (bu false [ad])]) .bad)
noncomputable def XC:XS:=xS [aN (.and (.no (.isi [3] ad)) (.no (.isi [3] an))) [ai (ag 252 [aa,ad,an,aD])],bK (.or (.isi [0] ad) (.isi [0] an)),ai (ag 264 [aa,ag 276 [aa,ad,an,aD],ag 276 [aa,an,ad,aD]])]
noncomputable def Yg:XS:=xS [aN (.no (.isi [3] aa)) [.raise (af IW)],ai aa]
noncomputable def XG:XS:=xS [ai (ag 45 [eh .len [ag 355 [aa]]])]
noncomputable def Xy:XS:=.seq (aN (aG aa (af e9)) [ai (ag 45 [aW 15 an])]) (.seq (aN (aG aa (af ik)) [ai (ag 45 [aW 14 an])]) (.seq (aN (aG aa (af lX)) [ai (ag 362 [am ad aE])]) .bad))
noncomputable def Yz:XS:=xS [ai (.ite (gl aa (bu false [])) (am aa aE) (bu false [aW 13 ad]))]
noncomputable def XA:XS:=xS [aN (.or (aG aa (af fL)) (aG aa (af ij))) [ai (aG aa (af fL))],aM 3 (ag 231 [am ad aE,an]),ai (.ite (aG aa (af lW)) aD (.no aD))]
noncomputable def Xz:XS:=xS [aM 3 (aW 12 an),bK (aG aa (af Bt)),aM 5 (.comp 1 [3] [0] (.ones ad) (ag 217 [aa,ad])),bK (aG aa (af Bv)),bK (aG aa (af Bu)),bK (aG (eh .len [bU]) dE),aM 6 (ag 217 [ag 482 [ad,an],aD]),bK (aG aa (af Bs)),ai (.ite (aG aa (af Bq)) .bad eT)]
noncomputable def XM:XS:=xS [ai (.or (gZ aa (.glc 2)) (.or (gZ aa (.glc 3)) (.or (gZ aa (.glc 4)) (gZ aa (.glc 5)))))]
noncomputable def Xw:XS:=xS [aN (gZ aa (.glc 6)) [ai (aq [aE,aE])],aN (gZ aa (.glc 7)) [ai (aq [aE,az])],bK (gZ aa (.glc 8)),bK (aG aa (af Bt)),bK (aG aa (af Bu)),ai (.ite (aG aa (af Bv)) (aq [dE,.glc 9]) (aq [az,az]))]
noncomputable def XB:XS:=xS [.setT false [2,3] (ag 529 [aa]),bK (.no (.cmp2 .LtE .LtE an (eh .len [ad]) aD))]
noncomputable def Xx:XS:=xS [bK (.no (ag 522 [aa])),.expr (ag 536 [aa,ad]),aN (gZ aa (.glc 2)) [ai (ag 418 [aa,ad,an])],aN (gZ aa (.glc 3)) [ai (ag 489 [aa,ad,aW 12 an])],bK (gZ aa (.glc 4)),ai (ag 508 [aa,ad,an])]
noncomputable def Ys:XS:=.seq (aN (aG an (af dg)) [ai (eh (.list false) [cH 25 0 aa [ad]])]) (.seq (aN (aG an (af eG)) [ai (bu false [ad])]) (.seq (aN (aG an (af fK)) [aM 3 (cH 24 0 aa [ad]),ai (.ite (.cmp .Is aD cf) (bu false []) (bu false [aD]))]) .bad))
noncomputable def Xu:XS:=.seq (aM 3 (ag 611 [aa,ad,an])) (.seq (aN (.cmp .IsNot aD cf) [ai aD]) .bad)
noncomputable def Yq:XS:=xS [ai (.ite (gZ aa (aq [af wO,af IS])) aa (af ql))]
noncomputable def Ym:XS:=.seq (aM 5 (cH 21 0 aa [ad])) (.seq (aN (aG (am aD aE) (af dP)) [ai (.con (.bool true))]) (.seq (bK (gZ (am aD aE) (aq [af wN,af [99,111,109,109,101,110,116]]))) (.seq (bK (aG (am aD aE) (af [105,110,115,116,114,117,99,116,105,111,110]))) (.seq (aN (aG (am aD aE) (af gN)) [ai (aG bU (ag 625 [an]))]) .bad))))
noncomputable def XK:XS:=.seq (aN (.isi [2] aa) [ai (aG aa (aq [ad,az]))]) (.seq (aN (.isi [0] aa) [ai aa]) .bad)
noncomputable def XO:XS:=xS [.for1 3 ad (xS [aM 4 (eh .len [aa]),aM 5 (bu true []),.forT [6,7] (.enum aa) (xS [aN (ag 653 [.call 0 an (xL [aD,eJ,eV eT az,cB]),eV eT az]) [.expr (gI .append bU [eJ])]]),.fz 0 [5] (aM 0 bU)]),ai aa]
noncomputable def Yu:XS:=xS [aM 5 (.compc 1 [0,2,3] [0] (.ones (ag 618 [aa,ad,aW 10 an])) (ag 646 [ad,aa,aW 10 an,aW 11 an,aD]) aa),ai (ag 660 [bU,aW 7 an,cB])]
noncomputable def YB:XS:=xS [aM 1 (.dct true [] .nil),.for1 2 aa (xS [.setD (.con (.bool true)) ad an]),ai (eh (.list false) [ad])]
noncomputable def Xo:XS:=xS [aM 5 (bu true []),.for1 6 ad (xS [.expr (gI .extend bU [ag 665 [aa,eT,an,aD,cB]])]),.fz 0 [5] (ai (ag 198 [aa,ag 672 [bU]]))]
noncomputable def Yv:XS:=xS [.for1 5 an (xS [aM 1 (ag 679 [aa,ad,bU,aD,cB])]),ai ad]
noncomputable def W3:XS:=xS [cg 0 ad aa]
noncomputable def W6:XS:=xS [cg 0 ad aa]
noncomputable def Xn:XS:=xS [cg 1 ad aa]
noncomputable def WZ:XS:=xS [cg 1 ad aa,cg 2 an aa]
noncomputable def WY:XS:=xS [cg 3 ad aa,cg 4 an aa,cg 5 aD aa]
noncomputable def W4:XS:=xS [cg 0 ad aa]
noncomputable def W2:XS:=xS [cg 6 ad aa,cg 7 an aa]
noncomputable def W7:XS:=xS [cg 8 ad aa,cg 9 an aa]
noncomputable def W8:XS:=xS [cg 10 ad aa,cg 11 an aa,cg 7 aD aa]
noncomputable def Ye:XS:=xS [aN (.no (.isi [3] aa)) [.raise (af IW)],ai aa]
noncomputable def Yr:XS:=xS [aN (aG aa (af [43])) [ai (ag 66 [ad,an])],aN (aG aa (af [45])) [ai (ag 73 [ad,an])],aN (aG aa (af [42])) [ai (ag 80 [ad,an])],ai (.ite (aG aa (af dN)) (ag 87 [ad,an]) (ag 101 [ad,an]))]
noncomputable def YA:XS:=xS [ai (ag 198 [aa,eV ad (.compc 1 [1] [0] (.ones an) (.cmp .NotIn aa ad) aa)])]
noncomputable def Yh:XS:=xS [.setT true [2,3] (aq [aW 3 aa,aW 12 ad]),aN (.or (aG an (af jI)) (aG an (af jJ))) [aN (aG (ag 231 [ag 1003 [aW 4 aa,ad],aD]) (aG an (af jI))) [ai (aG an (af jI))],ai (ag 231 [ag 1003 [aW 5 aa,ad],aD])],aM 4 (ag 1003 [aW 4 aa,ad]),aM 5 (ag 1003 [aW 5 aa,ad]),aN (aG an (af [124])) [ai (ag 963 [aD,ag 951 [cB],ag 951 [bU]])],aN (gZ an (.glc 10)) [ai (ag 283 [an,cB,bU,aD])],ai (ag 958 [an,ag 224 [cB,aD],ag 224 [bU,aD]])]
noncomputable def Yi:XS:=xS [aM 2 (.comp 1 [1] [0] (.ones (aW 2 aa)) (ag 1003 [aa,ad])),aN (ag 522 [aW 1 aa]) [ai (ag 543 [aW 1 aa,an,ad])],aN (.cmp .NotIn (aW 1 aa) (aW 18 ad)) [.raise (eV (af [110,111,32,102,117,110,99,116,105,111,110,32]) (aW 1 aa))],ai (.call 0 (am (aW 18 ad) (aW 1 aa)) (xL [an,ad]))]
noncomputable def Yj:XS:=xS [aM 2 (ag 951 [ag 1003 [aW 6 aa,ad]]),ai (ag 660 [an,aW 7 aa,ag 970 [ad]])]
noncomputable def Yk:XS:=xS [aM 2 (aW 12 ad),Ic (.cmp .Is (aW 8 aa) cf) [aM 3 (bu false [aW 13 ad])] [Ic (.cmpI (aW 8 aa) (af fb)) [aM 3 (bu false [cH 38 0 an [aW 13 ad]])] [aM 3 (ag 951 [ag 1003 [aW 8 aa,ad]])]],ai (ag 686 [an,aD,aW 9 aa,aW 17 ad,ag 970 [ad]])]
noncomputable def XJ:XS:=.seq (aN (.isi [911] aa) [ai (ag 996 [aa,ad])]) (.seq (aN (.isi [715,743] aa) [ai (aW 0 aa)]) (.seq (aN (.isi [827] aa) [ai (ag 977 [aa,ad])]) (.seq (aN (.isi [799] aa) [ai (ag 982 [aa,ad])]) (.seq (aN (.isi [855] aa) [ai (ag 59 [ag 224 [ag 1003 [aW 0 aa,ad],aW 12 ad]])]) (.seq (aN (.isi [771] aa) [ai (cH 40 0 ad [aW 1 aa])]) (.seq (aN (.isi [883] aa) [ai (ag 989 [aa,ad])]) .bad))))))
noncomputable def Id:XS:=xS [cg 12 ad aa,cg 13 an aa,cg 14 aD aa,cg 15 cB aa,cg 16 (.ite (.cmp .Is bU cf) (.dct false [] .nil) bU) aa,cg 17 (.ite (.cmp .Is eT cf) (.dct false [] .nil) eT) aa,cg 18 (.ite (.cmp .Is eJ cf) (.dct false [] .nil) eJ) aa,cg 19 (.ite (.cmp .Is eU cf) an eU) aa,cg 20 (.ite (.cmp .Is d6 cf) (.dct false [] .nil) d6) aa]
noncomputable def W0:XS:=xS [ai (ag 1042 [aW 12 aa,ad,an,aD,aW 16 aa,aW 17 aa,aW 18 aa,aW 19 aa,aW 20 aa])]
noncomputable def W1:XS:=xS [aN (.cmp .NotIn ad (aW 16 aa)) [.raise (eV (af [110,111,32,118,97,114,105,97,98,108,101,32]) ad)],ai (am (aW 16 aa) ad)]
noncomputable def W5:XS:=xS [cg 21 ad aa,cg 1 an aa,cg 22 aD aa,cg 23 cB aa,cg 0 bU aa,cg 24 eT aa,cg 25 (bu true []) aa,cg 26 (bu true []) aa,cg 27 (bu true []) aa]
noncomputable def Xe:XS:=xS [cg 28 (bu true []) aa]
noncomputable def Xh:XS:=xS [.expr (gI .append (aW 28 aa) [bz 1000 1064 [ad,an,aD,cB,bU,eT]]),ai (ei (eh .len [aW 28 aa]) az)]
noncomputable def Xk:XS:=xS [bK (.no (.cmp2 .LtE .Lt aE ad (eh .len [aW 28 aa]))),ai (am (aW 28 aa) ad)]
noncomputable def Xg:XS:=xS [ai (cH 31 1000 aa [af fb,af [],af [],af [],af [],cf])]
noncomputable def W9:XS:=xS [bK (.and (.cmp .IsNot ad cf) (.cmp .NotIn (aW 21 (cH 30 1000 aa [ad])) (.glc 11))),aM 7 (cH 31 1000 aa [an,aD,cB,bU,eT,ad]),aN (.cmp .IsNot ad cf) [.expr (gI .append (aW 25 (am (aW 28 aa) ad)) [eJ])],ai eJ]
noncomputable def Xa:XS:=xS [ai (cH 33 1000 aa [ad,af ql,an,aD,cB,af []])]
noncomputable def Xb:XS:=xS [ai (cH 33 1000 aa [ad,af wN,af [],af [],af [],an])]
noncomputable def Xd:XS:=xS [aM 2 (cH 30 1000 aa [ad]),bK (gl (aW 21 an) (af ql)),ai an]
noncomputable def Xl:XS:=xS [aM 6 (cH 36 1000 aa [ad]),.for1 7 (aW 26 eT) .bad,aM 7 (cH 31 1000 aa [af wO,an,aD,cB,bU,ad]),.expr (gI .append (aW 26 eT) [eJ]),ai eJ]
noncomputable def Xf:XS:=xS [ai (aW 21 (cH 30 1000 aa [ad]))]
noncomputable def Xm:XS:=xS [ai (aW 0 (cH 30 1000 aa [ad]))]
noncomputable def Xi:XS:=xS [ai (aW 24 (cH 30 1000 aa [ad]))]
noncomputable def Xc:XS:=xS [ai (eh (.list false) [aW 25 (cH 30 1000 aa [ad])])]
noncomputable def Xj:XS:=xS [.whl (.cmp .IsNot (aW 24 (cH 30 1000 aa [ad])) cf) (xS [aM 1 (aW 24 (am (aW 28 aa) ad))]),ai ad]
noncomputable def XY:XS:=xS [aM 2 (.ite (gl aa (bu false [])) (am aa aE) aE),aM 3 (eh .max [an,ei (.neg az) an]),aM 4 (.bin .Mod false (cM (eV (.bin .Mod false aD (.con (.int 2147483629))) (.con (.int 17))) (.con (.int 48271))) (.con (.int 2147483647))),ai (bu true [cM aD (eh .int [.cmp .GtE aD (.pow (.con (.int 10)) (.con (.int 18)))]),cB,.ite (aG aa (bu false [])) ad (bu false [])])]
noncomputable def X5:XS:=xS [aN (gl (am aa dE) (bu false [])) [ai (.bin .Mod false (gI .pop (am aa dE) [aE]) ad)],aN (lN (am aa aE) aE) [aM 2 (.bin .Mod false (am aa aE) ad),.setI (.bin .FloorDiv false (am aa aE) ad) aa aE,ai an],.setI (.bin .Mod false (eV (cM (am aa az) (.con (.int 39373))) sP) (.con (.int 2147483647))) aa az,ai (.bin .Mod false (.bin .FloorDiv false (.bin .Mod false (cM (am aa az) (am aa az)) (.con (.int 2147483629))) (.con (.int 32))) ad)]
noncomputable def XV:XS:=xS [ai (am ad (bz 2 1271 [aa,eh .len [ad]]))]
noncomputable def As:XS:=(.seq (.setT true [2,3] (.tup (.cons (.bf .abs (.cons (.var 0) .nil)) (.cons (.var 1) .nil)))) (.seq (.whl (.cmp .Gt (.var 3) (.con (.int 0))) (.seq (.setT true [2,3] (.tup (.cons (.var 3) (.cons (.bin .Mod false (.var 2) (.var 3)) .nil)))) .done)) (.seq (.ret (.tup (.cons (.bin .FloorDiv false (.var 0) (.var 2)) (.cons (.bin .FloorDiv false (.var 1) (.var 2)) .nil)))) .done)))
noncomputable def XT:XS:=xS [aM 3 (.ite (lN an aE) (bz 2 1271 [aa,WX]) (bz 2 1271 [aa,mN])),aN (aG aD aE) [aM 4 (bz 2 1278 [aa,bu false [aq [aE,az],aq [az,az],aq [dE,az],aq [qi,dE],aq [.neg iK,az]]]),ai (aq [ag 743 [cB],cB])],aN (vZ aD mN) [aM 5 (bu true [aq [ag 771 [af [110]],aq [sP,dE]],aq [ag 799 [af ik,aq []],aq [am ad (af wM),az]]]),.expr (gI .append bU [aq [ag 799 [af e9,aq []],aq [am ad (af Br),az]]]),ai (am bU (ei aD az))],aN (aG aD mN) [.setT false [6,7] (bz 2 1321 [aa,ad,ei an az]),ai (aq [ag 799 [af lX,aq [eT]],aq [eh .len [eJ],az]])],aN (aG aD qi) [.setT false [6,4] (bz 2 1292 [aa,ad,ei an az]),ai (aq [ag 855 [eT],aq [.neg (am cB aE),am cB az]])],.setT false [8,9] (bz 2 1292 [aa,ad,ei an az]),aN (aG aD Ib) [.setT true [10,11] (aq [bz 2 1278 [aa,bu false [aq [dE,az],aq [.neg iK,az],aq [az,dE]]],bz 2 1278 [aa,bu false [af dN,af co]]]),aM 5 (ag 1285 [cM (cM (am d6 aE) (am eI az)) (.ite (lN (am eI aE) aE) az (.neg az)),cM (am d6 az) (eh .abs [am eI aE])]),aN (aG gH (af co)) [aM 12 (cM (.bin .FloorDiv false (eh .abs [am bU aE]) (am bU az)) (.ite (lN (am bU aE) aE) az (.neg az))),aM 5 (ag 1285 [ei (cM (am d6 aE) (am eI az)) (cM (cM oJ (am eI aE)) (am d6 az)),cM (am d6 az) (am eI az)])],ai (aq [ag 827 [gH,eU,ag 743 [eI]],bU])],.setT false [13,10] (bz 2 1292 [aa,ad,ei an az]),aM 11 (bz 2 1278 [aa,bu false [af [43],af [45],af [42]]]),aN (aG gH (af [42])) [ai (aq [ag 827 [gH,eU,jx],ag 1285 [cM (am d6 aE) (am eI aE),cM (am d6 az) (am eI az)]])],aM 14 (.ite (aG gH (af [43])) (cM (am eI aE) (am d6 az)) (cM (.neg (am eI aE)) (am d6 az))),ai (aq [ag 827 [gH,eU,jx],ag 1285 [eV (cM (am d6 aE) (am eI az)) sO,cM (am d6 az) (am eI az)]])]
noncomputable def X7:XS:=xS [aM 3 (.ite (lN an aE) (bz 2 1271 [aa,Ib]) aE),aN (aG aD aE) [aM 4 (aG (bz 2 1271 [aa,dE]) aE),ai (aq [ag 799 [.ite cB (af fL) (af ij),aq []],cB])],aN (aG aD az) [.setT false [5,6] (bz 2 1321 [aa,ad,ei an az]),ai (aq [ag 799 [af lW,aq [bU]],gl eT (bu false [])])],aN (aG aD dE) [.setT false [5,4] (bz 2 1299 [aa,ad,ei an az]),ai (aq [ag 799 [af qn,aq [bU]],.no cB])],aN (aG aD iK) [.setT false [7,8] (bz 2 1292 [aa,ad,ei an az]),.setT false [9,10] (bz 2 1292 [aa,ad,ei an az]),.setT true [11,12] (aq [ei (cM (am eU aE) (am eI az)) (cM (am eI aE) (am eU az)),bz 2 1278 [aa,bu false [af [60],af fM,af [62],af ga,af [61],af fw]]]),aM 13 (.dct false [[60],fM,[62],ga,[61],fw] (xL [vZ gH aE,.cmp .LtE gH aE,lN gH aE,.cmp .GtE gH aE,aG gH aE,gl gH aE])),ai (aq [ag 827 [oJ,eJ,d6],am jx oJ])],.setT false [7,8] (bz 2 1299 [aa,ad,ei an az]),.setT false [9,10] (bz 2 1299 [aa,ad,ei an az]),aM 12 (am (bu false [af jI,af jJ]) (ei aD mN)),aN (aG eU (aG oJ (af jI))) [.setT true [9,10] (aq [bz 2 1278 [aa,bu false [d6,ag 771 [af eo],ag 799 [af eo,aq []]]],eU])],ai (aq [ag 827 [oJ,eJ,d6],eI])]
noncomputable def X6:XS:=xS [aM 3 (.ite (lN an aE) (bz 2 1271 [aa,qi]) (bz 2 1271 [aa,dE])),aN (aG aD aE) [aM 4 (bz 2 1278 [aa,bu false [af [],af [120],af [49],af [97,32,98]]]),ai (aq [ag 715 [cB],cB])],aN (aG aD az) [ai (aq [ag 771 [af [116]],af oX])],aN (aG aD dE) [.setT false [5,6] (bz 2 1321 [aa,ad,ei an az]),ai (aq [ag 799 [af gp,aq [bU]],.ite (gl eT (bu false [])) (am (am ad (af qp)) (am eT aE)) (af [])])],aN (aG aD iK) [.setT false [5,4] (bz 2 1299 [aa,ad,ei an az]),ai (aq [ag 799 [af gp,aq [bU]],.ite cB (af fL) (af ij)])],.setT false [7,8] (bz 2 1306 [aa,ad,ei an az]),.setT false [9,10] (bz 2 1306 [aa,ad,ei an az]),ai (aq [ag 799 [af qo,aq [eJ,d6]],eV eI eU])]
noncomputable def XW:XS:=xS [ai (.compc 1 [1] [0] (.ones (am aa (af tE))) (gZ aa ad) aa)]
noncomputable def XZ:XS:=xS [aM 3 (bz 2 1271 [aa,qi]),aN (aG aD aE) [ai (aq [ag 743 [aq [dE,az]],.sli false an az dE cf])],aN (aG aD az) [ai (aq [ag 799 [af e9,aq []],.sli false an (.neg az) cf cf])],aN (aG aD dE) [ai (aq [ag 827 [af [62],ag 799 [af ik,aq []],ag 743 [aq [az,az]]],.sli false an az cf cf])],aN (aG aD iK) [aM 4 (ag 911 [cf,aq [ag 939 [af eG,aq [af dP],aq []]]]),ai (aq [ag 827 [af [61],cB,ag 715 [af [49]]],.compc 1 [1] [0] (.ones an) (aG (am (am ad (af qp)) aa) (af [49])) aa])],ai (aq [ag 827 [af [61],ag 771 [af [110]],ag 743 [aq [sP,dE]]],eh (.list false) [an]])]
noncomputable def XR:XS:=xS [aM 3 (.ite (lN an aE) (bz 2 1271 [aa,sP]) (bz 2 1271 [aa,mN])),aN (aG aD aE) [ai (aq [ag 771 [af [115]],am ad (af qm)])],aN (aG aD az) [ai (aq [ag 911 [af fb,aq []],.sli false (am ad (af tE)) cf az cf])],aN (aG aD dE) [.setT true [4,5] (aq [aG (bz 2 1271 [aa,dE]) aE,.sli false (am ad (af tE)) dE cf cf]),.setT false [6,7] (.ite cB (aq [aq [],bU]) (aq [aq [ag 799 [af e9,aq []]],.sli false bU (.neg az) cf cf])),ai (aq [ag 911 [af fb,aq [ag 939 [af dg,aq [af gN],aq []],ag 939 [af dg,aq [af gN],eT]]],eJ])],aN (aG aD iK) [.setT true [3,8] (aq [bz 2 1278 [aa,bu false [af dg,af fK,af eG]],am ad (af dP)]),aM 7 (am (.dct false [dg,fK,eG] (xL [am (am ad (af lV)) eU,am (am ad (af iM)) eU,bu false [eU]])) aD),ai (aq [ag 911 [cf,aq [ag 939 [aD,.ite (aG aD (af dg)) (aq [af gN]) (aq [af dP]),aq []]]],eJ])],.setT false [9,10] (bz 2 1321 [aa,ad,ei an az]),aN (aG aD mN) [.setT false [11,12] (bz 2 1321 [aa,ad,ei an az]),ai (aq [ag 827 [af [124],d6,gH],ag 1311 [ad,eV eI oJ]])],aN (aG aD qi) [.setT false [13,14] (bz 2 1316 [aa,ad,eI]),aN (gl (bz 2 1271 [aa,iK]) az) [ai (aq [ag 883 [d6,aq [jx]],sO])],.setT false [11,14] (bz 2 1316 [aa,ad,sO]),ai (aq [ag 883 [d6,aq [jx,gH]],sO])],aM 7 (.comp2 2 [1] [0] [1] (.ones eI) (.ones (am (am an (af iM)) aa)) ad),ai (aq [ag 911 [d6,aq [ag 939 [af fK,aq [af dP],aq []]]],ag 1311 [ad,eJ]])]
noncomputable def XX:XS:=xS [ai (eV (am aa az) (am aa aE))]
noncomputable def X8:XS:=xS [aM 1 (bz 1000 1253 []),aM 2 (cH 32 1000 ad []),aM 3 (cH 34 1000 ad [an,af [114],af [],af [114]]),aM 4 (bu false [af [49],af [50],af [49],af []]),aM 5 (.comp 1 [1,3,0,4] [0] (.range (eV az (bz 2 1271 [aa,mN]))) (aq [cH 34 1000 ad [an,af [101],af [],af [101]],bz 2 1278 [aD,cB]])),.forT [6,7] (.tups bU) (xS [.expr (cH 37 1000 ad [eT,af [107],af [],af [107],eJ])]),aM 8 (af []),.forT [6,7] (.tups bU) (xS [aN (gl eJ (af [])) [.expr (cH 35 1000 ad [eT,eJ])],aM 8 (eV eU eJ)]),.fz 2 [1] (aM 9 (eV (bu false [an,aD]) (.comp 2 [] [0,1] (.tups bU) aa))),aM 10 (eh .dict [eV (.comp 2 [] [0,1] (.tups bU) (aq [aa,ad])) (bu false [aq [an,eU],aq [aD,eU]])]),aM 11 (eh .dict [eV (.comp 2 [3] [0,1] (.tups bU) (aq [aa,bu false [an]])) (bu false [aq [an,bu false []],aq [aD,bu false [an]]])]),aM 12 (eh .dict [eV (.comp 2 [] [0,1] (.tups bU) (aq [aa,bu false []])) (bu false [aq [an,bu false [aD]],aq [aD,.sli false d6 dE cf cf]])]),aM 13 (.dct true [tE,qp,iM,lV,dP] (xL [d6,eI,gH,oJ,bz 2 1278 [aa,d6]])),.expr (gI .update jx [.dct false [wM,Br,qm] (xL [eV az (bz 2 1271 [aa,iK]),iK,bz 1000 1311 [jx,bu false [aD,am (am bU aE) aE]]])]),.fz 2 [13] (aM 14 (.dct false [[110],[116],[115]] (xL [aq [sP,dE],af oX,eh (.list false) [am jx (af qm)]]))),aM 15 (ag 1042 [ad,am jx (af dP),am jx (af wM),iK,sO,.dct false [] .nil,.dct false [qo] (xL [.glf 1328])]),ai (aq [jx,WW])]
noncomputable def XQ:XS:=xS [aM 1 (bz 1000 1264 [aa,bu true [dE,az,aE,az,az,aE,iK,qi,dE,aE,iK,aE]]),.setT false [2,3] (bz 2 1333 [ad]),.setT false [4,5] (.call 2 (am (bu false [.glf 1292,.glf 1299,.glf 1306,.glf 1321]) (bz 2 1271 [ad,mN])) (xL [ad,an,iK])),aM 6 (aq [aW 13 aD,aW 14 aD,aW 15 aD,eh .dict [aW 16 aD]]),aM 7 (ag 1003 [cB,aD]),bK (.or (gl eJ bU) (gl (.isi [0] eJ) (.isi [0] bU))),bK (gl (am (aW 16 aD) (af [115])) (am an (af qm))),bK (.cmpD (aq [aW 13 aD,aW 14 aD,aW 15 aD,eh .dict [aW 16 aD]]) eT),aM 8 (bu true [ag 771 [af eo],ag 799 [af eo,aq []],ag 827 [af [124],ag 771 [af [115]],ag 771 [af [116]]]]),aM 8 (.bin .Add true eU (bu false [ag 883 [ag 743 [aq [az,az]],aq []],ag 911 [ag 715 [af [120]],aq [ag 939 [af eG,aq [af dP],aq []]]]])),.expr (gI .append eU [ag 799 [af lX,aq [ag 715 [af []]]]]),.expr (gI .append eU [ag 827 [af jJ,ag 799 [af fL,aq []],ag 771 [af eo]]]),.fz 2 [8] (ai (ag 1340 [bz 2 1278 [ad,eU],aD]))]
structure Df where
 a:Nat
 fd:FuncData
 sl:List String
 n:Nat
 dv:List Value
 body:XS
 whole:Bool
 gm:Nat
noncomputable def dG(n q:String)(f:Fp)(dv md:Value)(a:Addr)(sl:List String)(c:Nat)(ds:List Value)(x:XS)(b:Bool)(g:Nat):Df:=⟨a,bX n q f 3 dv N N md (R (a-1)) N 0,sl,c,ds,x,b,g⟩
noncomputable def dF(n:String)(k:Nat)(md:Value)(a:Addr)(sl:List String)(c:Nat)(x:XS):Df:=dG n n (fp k) N md a sl c [] x true 1000
noncomputable def Df.names(d:Df):List Str:=d.sl.map Str.ofString
noncomputable def Df.kd(d:Df):Kd:=λx=>d.fd.scope.names.lookup x
noncomputable def iP(f:FuncBody):List Stmt:=match f with
 |.stmts l=>l
 |_=>[]
noncomputable def tab:List Df:=[
 dF "common_divisor" 6 m1 30 ["one","other","first","second"] 2 Aq,
 dF "sign_of" 7 m1 37 ["number"] 1 Au,
 dG "number_of" "number_of" (fp 8) (R 38) m1 45 ["top","bottom","common"] 1 [I 1 223] Ie true 1000,
 dG "number_of" "number_of" (fp 8) (R 38) m1 45 ["top","bottom","common"] 2 [] Ie true 1000,
 dF "is_nan" 9 m1 52 ["a"] 1 Ar,
 dF "negated" 10 m1 59 ["a"] 1 At,
 dF "plus" 11 m1 66 ["a","b"] 2 Yp,
 dF "minus" 12 m1 73 ["a","b"] 2 Yc,
 dF "times" 13 m1 80 ["a","b"] 2 Yy,
 dF "divided" 14 m1 87 ["a","b"] 2 XI,
 dF "cut_whole" 15 m1 94 ["a","whole"] 1 XH,
 dF "modulo" 16 m1 101 ["a","b","many"] 2 Yd,
 dF "order_of" 17 m1 108 ["a","b"] 2 Yl,
 dF "compared_numbers" 18 m1 115 ["op","a","b","order"] 3 XD,
 dG "lines_down" "lines_down" (fp 28) N m2 179 ["tree","node","found"] 2 [] X9 false 1000,
 dF "place_among" 29 m2 186 ["tree","parent","node","kind"] 3 Yn,
 dF "place_of" 30 m2 193 ["tree","node","line","found","above","below"] 2 Yo,
 dG "beneath" "beneath" (fp 32) N m2 205 ["tree","node","found","left","here"] 2 [] Xv false 1000,
 dF "string_value" 33 m2 210 ["tree","node"] 2 Yw,
 dF "as_text" 35 m3 217 ["value","tree"] 2 Xr,
 dF "as_number" 36 m3 224 ["value","tree"] 2 Xq,
 dF "as_truth" 37 m3 231 ["value","tree"] 2 Xs,
 dF "is_equality" 38 m3 238 ["op"] 1 XN,
 dF "compared_texts" 39 m3 245 ["op","one","other"] 3 XF,
 dF "compared_plain" 40 m3 252 ["op","left","right","tree"] 4 XE,
 dF "as_compared" 41 m3 257 ["op","texts","other"] 3 Xp,
 dF "some_pair" 42 m3 264 ["op","lefts","rights","left","right"] 3 Yt,
 dF "texts_of" 43 m3 269 ["tree","nodes"] 2 Yx,
 dF "listed" 44 m3 276 ["op","value","other","tree"] 4 Yb,
 dF "compared" 45 m3 283 ["op","left","right","tree"] 4 XC,
 dF "nodes_of" 56 m6 355 ["value"] 1 Yg,
 dF "counted" 57 m6 362 ["value"] 1 XG,
 dF "call_of_sets" 65 m6 418 ["name","arguments","context"] 3 Xy,
 dF "told_value" 76 m8 482 ["arguments","context"] 2 Yz,
 dF "call_of_truths" 77 m8 489 ["name","arguments","tree","truth"] 3 XA,
 dF "call_of_texts" 80 m8 508 ["name","arguments","context","tree","length","texts","text"] 3 Xz,
 dF "is_core" 90 m9 522 ["name"] 1 XM,
 dF "bounds_of" 91 m9 529 ["name"] 1 Xw,
 dF "check_many" 92 m9 536 ["name","arguments","least","most"] 2 XB,
 dF "call_core" 93 m9 543 ["name","arguments","context"] 3 Xx,
 dF "short_axis" 104 iD 611 ["tree","node","name","parent"] 3 Ys,
 dF "axis" 105 iD 618 ["tree","node","name","found"] 3 Xu,
 dF "principal_kind" 107 pF 625 ["axis"] 1 Yq,
 dF "passes" 110 pF 646 ["tree","node","axis","test","names","kind","uri"] 5 Ym,
 dF "holds" 112 jk 653 ["value","position"] 2 XK,
 dG "kept" "kept" (fp 113) N jk 660 ["nodes","predicates","value_of","predicate","size","found","at","node"] 3 [] XO false 0,
 dF "step_from" 114 jk 665 ["tree","node","step","names","value_of","along"] 5 Yu,
 dG "unlike" "unlike" (fp 115) N jk 672 ["nodes","met","node"] 1 [] YB false 1000,
 dG "after_step" "after_step" (fp 116) N jk 679 ["tree","nodes","step","names","value_of","found","node"] 5 [] Xo false 0,
 dF "steps_from" 117 jk 686 ["tree","nodes","steps","names","value_of","step"] 5 Yv,
 dG "__init__" "Literal.__init__" (mp 120 0) N bk 705 ["self","value"] 2 [] W3 true 1000,
 dG "__init__" "NumberNode.__init__" (mp 121 0) N bk 733 ["self","value"] 2 [] W6 true 1000,
 dG "__init__" "VariableNode.__init__" (mp 122 0) N bk 761 ["self","name"] 2 [] Xn true 1000,
 dG "__init__" "Call.__init__" (mp 123 0) N bk 789 ["self","name","arguments"] 3 [] WZ true 1000,
 dG "__init__" "Binary.__init__" (mp 124 0) N bk 817 ["self","op","left","right"] 4 [] WY true 1000,
 dG "__init__" "Negated.__init__" (mp 125 0) N bk 845 ["self","value"] 2 [] W4 true 1000,
 dG "__init__" "Filter.__init__" (mp 126 0) N bk 873 ["self","base","predicates"] 3 [] W2 true 1000,
 dG "__init__" "Path.__init__" (mp 127 0) N bk 901 ["self","start","steps"] 3 [] W7 true 1000,
 dG "__init__" "Step.__init__" (mp 128 0) N bk 929 ["self","axis","test","predicates"] 4 [] W8 true 1000,
 dF "needs_nodes" 131 gw 951 ["value"] 1 Ye,
 dF "reckoned" 132 gw 958 ["op","left","right"] 3 Yr,
 dF "united" 133 gw 963 ["tree","left","right"] 3 YA,
 dF "of_binary" 135 gw 977 ["expr","context","op","tree","left","right"] 2 Yh,
 dF "of_call" 136 gw 982 ["expr","context","arguments"] 2 Yi,
 dF "of_filter" 137 gw 989 ["expr","context","nodes"] 2 Yj,
 dF "of_path" 138 gw 996 ["expr","context","tree","nodes"] 2 Yk,
 dF "evaluate" 139 gw 1003 ["expr","context"] 2 XJ,
 dG "__init__" "Context.__init__" (mp 141 0) (R 1011) jl 1018 ["self","tree","node","position","size","variables","names","calls","current","ids"] 10 [] Id true 1000,
 dG "__init__" "Context.__init__" (mp 141 0) (R 1011) jl 1018 ["self","tree","node","position","size","variables","names","calls","current","ids"] 8 [N,N] Id true 1000,
 dG "at" "Context.at" (mp 141 1) N jl 1025 ["self","node","position","size"] 4 [] W0 true 1000,
 dG "variable" "Context.variable" (mp 141 2) N jl 1032 ["self","name"] 2 [] W1 true 1000,
 dG "__init__" "NodeRow.__init__" (mp 144 0) N bB 1061 ["self","kind","name","uri","local","value","parent"] 7 [] W5 true 1000,
 dG "__init__" "Tree.__init__" (mp 145 0) N bB 1082 ["self"] 1 [] Xe true 1000,
 dG "new_row" "Tree.new_row" (mp 145 1) N bB 1089 ["self","kind","name","uri","local","value","parent"] 7 [] Xh true 1000,
 dG "row" "Tree.row" (mp 145 2) N bB 1096 ["self","node"] 2 [] Xk true 1000,
 dG "new_root" "Tree.new_root" (mp 145 3) N bB 1103 ["self"] 1 [] Xg true 1000,
 dG "add_child" "Tree.add_child" (mp 145 4) N bB 1110 ["self","parent","kind","name","uri","local","value","node"] 7 [] W9 true 1000,
 dG "add_element" "Tree.add_element" (mp 145 5) N bB 1117 ["self","parent","name","uri","local"] 5 [] Xa true 1000,
 dG "add_text" "Tree.add_text" (mp 145 6) N bB 1124 ["self","parent","value"] 3 [] Xb true 1000,
 dG "element_row" "Tree.element_row" (mp 145 9) N bB 1145 ["self","element","row"] 2 [] Xd true 1000,
 dG "set_attribute" "Tree.set_attribute" (mp 145 10) N bB 1152 ["self","element","name","uri","local","value","row","node","known"] 6 [] Xl true 1000,
 dG "kind" "Tree.kind" (mp 145 13) N bB 1173 ["self","node"] 2 [] Xf true 1000,
 dG "value" "Tree.value" (mp 145 17) N bB 1201 ["self","node"] 2 [] Xm true 1000,
 dG "parent" "Tree.parent" (mp 145 18) N bB 1208 ["self","node"] 2 [] Xi true 1000,
 dG "children" "Tree.children" (mp 145 19) N bB 1215 ["self","node"] 2 [] Xc true 1000,
 dG "root_of" "Tree.root_of" (mp 145 22) N bB 1236 ["self","node"] 2 [] Xj true 1000,
 dF "_law_pool" 147 dz 1264 ["script","row","cell","big","blend"] 2 XY,
 dF "_law_take" 148 dz 1271 ["source","top","figure"] 2 X5,
 dF "_law_one" 149 dz 1278 ["source","things"] 2 XV,
 dF "_law_lowest" 150 dz 1285 ["top","bottom","one","other"] 2 As,
 dG "_law_number" "_law_number" (fp 151) N dz 1292 ["source","world","deep","way","value","tells","expr","nodes","left","a","b","op","whole","right","top"] 3 [] XT false 1000,
 dG "_law_truth" "_law_truth" (fp 152) N dz 1299 ["source","world","deep","way","value","expr","nodes","left","a","right","b","apart","op","tells"] 3 [] X7 false 1000,
 dF "_law_text" 153 dz 1306 ["source","world","deep","way","value","expr","nodes","left","a","right","b"] 3 X6,
 dF "_law_ordered" 154 dz 1311 ["world","nodes"] 2 XW,
 dF "_law_sieve" 155 dz 1316 ["source","world","nodes","way","here"] 3 XZ,
 dF "_law_nodes" 156 dz 1321 ["source","world","deep","way","is_whole","rows","sieves","found","node","expr","nodes","other","more","sieve","kept_now"] 3 XR,
 dF "_law_own_call" 157 dz 1328 ["arguments","context"] 2 XX,
 dG "_law_world" "_law_world" (fp 158) N dz 1333 ["source","tree","root","top","some","rows","node","text","whole","order","texts","above","below","world","names_told","context"] 1 [] X8 false 2,
 dG "law" "law" (fp 160) N dz 1347 ["script","source","world","context","expr","due","ahead","tells","odds"] 1 [] XQ false 2]
end
section
open PySem.SeqAt
noncomputable def DY:FuncBody→Bool
 |.stmts _=>true
 |_=>false
noncomputable def B1(d:Df):Bool:=jg d.gm d.kd d.names d.body (iP d.fd.body)&&DY d.fd.body&&d.fd.closure.isEmpty&&Nat.beq d.fd.globals mainGlobals&&Nat.beq d.fd.builtins builtinsNs&&yy d.fd.scope.kind&& !d.fd.scope.isCoroutine&& !d.fd.scope.isGenerator&&
 n7 d.names&&d.names.all (λx=>pL (d.kd x))&&(lG d.dv).isSome&&Nat.ble (d.n+d.dv.length) d.sl.length
noncomputable def xd(P:Params)(d:Df)(vs:List Value):Prop:=∀S,peek (KF P) S (bindArgs d.fd ⟨vs,[]⟩)=some ((d.names.take (vs++d.dv).length).zip (vs++d.dv))
noncomputable def qA(P:Params)(d:Df):Nat→List Value→Prop
 |0,vs=>xd P d vs
 |k+1,vs=>∀a,qA P d k (vs++[a])
noncomputable def xc(P:Params):List Df→Prop
 |[]=>True
 |d::l=>qA P d d.n []∧xc P l
theorem BQ{P:Params}{d:Df}:∀{k:Nat}{vs us:List Value},qA P d k vs→us.length=k→xd P d (vs++us)
 |0,vs,us,h,e=>by rw[List.length_eq_zero_iff] at e;subst e;rw[eK];exact h
 |k+1,vs,[],h,e=>nomatch e
 |k+1,vs,u::us,h,e=>by have:=BQ (h u) (oV e);rwa[hJ] at this
noncomputable abbrev C7(fd:FuncData):Obj:={cls:=.type "function",data:=.func fd}
theorem Vc:tab.all B1=true:=by kernel_rfl
theorem Ve(P:Params):(tab.map λd=>(KF P).lookup d.a)=tab.map λd=>some (C7 d.fd):=by kernel_rfl
theorem Vd(P:Params):tab.all (λd=>codeIn (KF P) d.fd.code d.fd.qualname)=true:=by kernel_rfl
theorem Vb(P:Params):xc P tab:=by
 unfold tab;repeat' (first|exact trivial|refine au ?_ ?_)
 all_goals (repeat intro _)
 all_goals kernel_rfl
end
section
open PySem.SeqAt
noncomputable def de(w:World)(B:Heap)(n:Nat)(g:AV)(args:List RV)(H:List ac)(r:Rc):Prop:=∀(X:Addr→Prop)(s:Shared)(h:Heap)(tk:Tok)(M:Sp)(fr:List Env)(A:Around)(fv:Value)(vs:List Value)
  (Q:Value→Shared→Prop)(E:Value→Shared→Prop),Rm n A→A.frames=some fr→g9 B fr h M H→HR w.params B X h M H→VR w.params h (HA X M H) fv g→a9 w.params h (HA X M H) M vs args→fH w.params B X fr h M H s r Q E→
 codeAny (model pw w) A (.call fv ⟨vs,[]⟩) (lB Q E) (Sh s h tk)
theorem de.all{w:World}{B:Heap}{n:Nat}{f:Fo}(h:∀g args H,de w B n g args H (f g args H)):eY w B n f:=λX s hh tk M H fr A g fv args vs Q E=>h g args H X s hh tk M fr A fv vs Q E
theorem de.bad{w:World}{B:Heap}{n:Nat}{g:AV}{args:List RV}{H:List ac}:de w B n g args H .bad:=λ_ _ _ _ _ _ _ _ _ _ _ _ _ _ _ _ _ z=>False.elim z
noncomputable def Df.da(d:Df):List RV:=((lG d.dv).getD []).map .v
noncomputable def sj(f:Fo)(d:Df)(args:List RV)(H:List ac):Rc:=cond (Nat.ble H.length d.gm) (gQ d.whole H.length (aP f d.body ⟨mf (args++d.da) (d.sl.length-(args++d.da).length),H⟩)) .bad
theorem FY:∀{vs:List Value}{l:List AV},lG vs=some l→vs.length=l.length
 |[],l,e=>by rw[←ak e];rfl
 |v::vs,l,e=>aL (o:=su v) e λx _ e=>aL (o:=lG vs) e λr e2 e=>by rw[←ak e];exact congrArg (·+1) (FY e2)
structure jB(P:Params)(d:Df):Prop where
 look:(KF P).lookup d.a=some (C7 d.fd)
 code:codeIn (KF P) d.fd.code d.fd.qualname=true
 binds:qA P d d.n []
 chk:B1 d=true
theorem Jl{P:Params}{d:Df}:∀{l:List Df},xc P l→d∈l→qA P d d.n []:=λh m=>by
 induction m with
 |head=>exact h.1
 |tail _ _ ih=>exact ih h.2
theorem jB.of(P:Params){d:Df}(m:d∈tab):jB P d:=⟨rF (Ve P) m,List.all_eq_true.mp (Vd P) d m,Jl (Vb P) m,List.all_eq_true.mp Vc d m⟩
theorem UA{b:FuncBody}(h:DY b=true):b=.stmts (iP b):=by cases b<;>first|rfl|exact nB h
theorem LZ{k:ScopeKind}(h:yy k=true):k=.function:=fN h
structure s0(w:World)(d:Df):Prop where
 chk:jg d.gm d.kd d.names d.body (iP d.fd.body)=true
 ok:AD w d.a d.fd (iP d.fd.body) d.names
 da:∃l,lG d.dv=some l
 le:d.n+d.dv.length≤d.names.length
theorem s0.of{w:World}{d:Df}(D:jB w.params d):s0 w d:=have g1:=aF D.chk;have g2:=aF g1.1;have g3:=aF g2.1;have g4:=aF g3.1;have g5:=aF g4.1;have g6:=aA g5.1
 ⟨g6.1,⟨D.look,λh X=>codeRec_of X D.code,UA g6.2,List.isEmpty_iff.mp g5.2.1,em g5.2.2,em g4.2.1,LZ g4.2.2,cy g3.2.1,cy g3.2.2,rI g2.2.1,λx m=>(Bool.or_eq_true_iff.mp (List.all_eq_true.mp g2.2.2 x m)).imp jV uA⟩,
  Option.isSome_iff_exists.mp g1.2.1,by rw[show d.names.length=d.sl.length from aU ..];exact lT g1.2.2⟩
theorem qY{w:World}{B:Heap}(b:dH w B){d:Df}(D:jB w.params d){args:List RV}(hn:args.length=d.n){n:Nat}{X:Addr→Prop}{s:Shared}{h0:Heap}{tk:Tok}{M:Sp}{H:List ac}{fr:List Env}{A:Around}{vs:List Value}{R:Result→Shared→Prop}
  (rm:Rm (n+1) A)(hfr:A.frames=some fr)(F:g9 B fr h0 M H)(G:HR w.params B X h0 M H)(ha:a9 w.params h0 (HA X M H) M vs args)
  (h:∀(env:Env)(hh:Heap)(tk:Tok),wd (bZ w B X h0 hh env fr H.length n) h0 hh d.a d.fd A→SR (bZ w B X h0 hh env fr H.length n) d.names ⟨hh,M,⟨mf (args++d.da) (d.sl.length-(args++d.da).length),H⟩⟩→mO w A env (iP d.fd.body) R (Sh s hh tk)):
  codeAny (model pw w) A (.call (.ref d.a) ⟨vs,[]⟩) R (Sh s h0 tk):=by
 have C:=s0.of D;obtain⟨da,eda⟩:=C.da;have hda:d.da=da.map .v:=by unfold Df.da;rw[eda];rfl
 have KI:(KF w.params).In h0:=lQ b.says G.base;have lv:vs.length=args.length:=Z2.length ha;have lda:d.dv.length=d.da.length:=by rw[hda,aU];exact FY eda
 have hb:BindsTo (Sh s h0 tk) d.fd ⟨vs,[]⟩ ((d.names.take (args++d.da).length).zip (vs++d.dv)):=by have:=BQ D.binds (lv.trans hn);rw[ww] at this;unfold xd at this;rw[show(vs++d.dv).length=(args++d.da).length by rw[el,el,lv,lda]] at this;exact yU KI this
 have ha':a9 w.params h0 (HA X M H) M (vs++d.dv) (args++d.da):=by rw[hda];exact Z2.append ha (zQ eda).rrs
 have hnl:d.names.length=d.sl.length:=aU ..;exact LX b C.ok (s:=Sh s h0 tk) (λ_ _ e=>e) (bw _) hb (by rw[el,hn,←lda];exact C.le) (eX (aJ (aJ (eM _ _) (eM _ 30)) rm.depth) (by unfold recursionLimit;decide)) hfr F G ha' λenv hh tk' I R0=>h env hh tk' I (by rw[←hnl];exact R0)
theorem Df.gds{w:World}{B:Heap}(b:dH w B){n:Nat}{f:Fo}(O:eY w B n f){d:Df}{X:Addr→Prop}{h0 h1 hh:Heap}{env:Env}{fr:List Env}{g:Nat}{A:Around}(I:wd (bZ w B X h0 hh env fr g n) h1 hh d.a d.fd A)(hgm:g≤d.gm):dJ f d.gm (bZ w B X h0 hh env fr g n) d.kd:=have kk:∀x,env.kindOf x=d.kd x:=λx=>by unfold Env.kindOf;rw[show env.scope=d.fd.scope from I.sc];rfl
 ⟨⟨I.ek,kk,O,λx h=>(I.ci x ((kk x).trans h)).imp λc z=>z.1⟩,I.ci,hgm,b⟩
theorem Jh{w:World}{B:Heap}(b:dH w B){n:Nat}{f:Fo}(O:eY w B n f){d:Df}(D:jB w.params d){args:List RV}(hn:args.length=d.n){H:List ac}:de w B (n+1) (.glob (.ref d.a)) args H (sj f d args H):=by
 intro X s h tk M fr A fv vs Q E rm hfr F G hg ha z;rw[show fv=.ref d.a from hg];unfold sj at z;cases gm:Nat.ble H.length d.gm with
 |false=>rw[gm] at z;exact False.elim z
 |true=>rw[gm] at z;exact qY b D hn rm hfr F G ha λenv hh tk' I R0=>BS I.toEnt (λ_ _ e=>e) (bw _) rm G R0 (sS d.body (Df.gds b O I (lT gm)) (s0.of D).chk) z
noncomputable def pb:List (Nat×Nat×Bool):=[(715,705,false),(743,733,false),(771,761,false),(799,789,false),(827,817,false),(855,845,false),(883,873,false),(911,901,false),(939,929,false),(1042,1018,false),(1064,1061,true),(1253,1082,true)]
theorem Km(P:Params):pb.all (λq=>makesIn (KF P) q.1&&(findIn (KF P) (.ref q.1) "__init__"==some (some (.ref q.2.1)))&&(typeIn (KF P) (.ref q.2.1)==some (.type "function")))=true:=by kernel_rfl
theorem Jg{w:World}{B:Heap}(b:dH w B){n:Nat}{f:Fo}(O:eY w B n f){c fI:Addr}{whole:Bool}(hm:(c,fI,whole)∈pb){args:List RV}{H:List ac}:de w B (n+1) (.glob (.ref c)) args H (qF f whole fI c args H):=by intro X s h tk M fr A fv vs Q E rm hfr F G hg ha z;rw[show fv=.ref c from hg];have C:=aF (List.all_eq_true.mp (Km w.params) _ hm);exact J6 b O C.1 (fN C.2.1) (fN C.2.2) rm hfr F G ha z
end
section
open PySem.SeqAt
theorem HR.tab{P:Params}{B:Heap}{X:Addr→Prop}{h h':Heap}{M:Sp}{H:List ac}(G:HR P B X h M H){T:Addr}(tT:cX T)(k:∀b o,b≠T→h.get? b=some o→h'.get? b=some o)(sz:h.objs.size≤h'.objs.size)
  (tb:kr h' (HA X M H)):HR P B X h' M H∧HX cA h M H h' M H:=have nT:∀b,bn M H b→b≠T:=λb l e=>G.offA b l (e▸tT);have u:Up h (HA X M H) h' (HA X M H):=⟨λb o e n=>k b o (λz=>n (.inr (.inl (.inl (z▸tT))))) e,λb o e n=>n⟩
 ⟨⟨λb o e n=>k b o (λz=>n (z▸tT)) (G.base b o e n),G.clear,tb,λb x=>dK (G.low b x) sz,G.len,λi a e=>⟨dK (G.mlt i a e).1 sz,dK (G.mlt i a e).2 sz⟩,
   λi a o e1 e2=>(G.own i a o e1 e2).up u (λ_ _ e=>e) λl b o' hb=>k b o' (nT b ⟨i,.mk e1 e2 l hb⟩),G.apart,G.offA⟩,
  ⟨λ_ _ e=>e,λb o e n=>k b o (λz=>n (.inr (.inl (z▸tT)))) e,sz,λ_ h=>.inl h,ml⟩⟩
theorem Q0(P:Params):nsOkIn (KF P) mainGlobals=true:=by kernel_rfl
theorem QH{w:World}{h:Heap}{mg:Str→Option Value}(Y:(KF w.params).In h)(G:h.Ns mainGlobals mg):mg (Str.ofString "__builtins__")=some (.ref 4):=by obtain⟨o,es,ep,ho,hd,hk,hf⟩:=G;have e:h.get? mainGlobals=some (gD w.params 152 (S "law_on0202_01" 1953) 153):=Y _ _ (by kernel_rfl);rw[ho] at e;cases e;cases hd;rw[←hf];kernel_rfl
theorem QL(P:Params):∃o,(H1 P).get? 4=some o∧o.cls=.type "module"∧o.dict=some builtinsNs∧o.data=.plain:=have e:(H1 P).get? 4=some ⟨.type "module",some builtinsNs,.plain,(((H1 P).get? 4).getD default).slots⟩:=by kernel_rfl
 ⟨_,e,rfl,rfl,rfl⟩
theorem Et{w:World}{B:Heap}(b:dH w B){X:Addr→Prop}{h:Heap}{M:Sp}{H:List ac}(G:HR w.params B X h M H){T:Addr}(tT:cX T):∃mg,h.Ns mainGlobals mg∧h.BuiltinsAt mg T∧mainGlobals≠T:=by have KI:(KF w.params).In h:=lQ b.says G.base;have Ns:=Heap.Ns.of_isNs (isNs_of_in KI (Q0 w.params));obtain⟨o,e,q⟩:=QL w.params;exact⟨_,Ns,⟨4,o,QH KI Ns,by decide,by decide,by rcases tT with rfl|rfl<;>decide,G.base _ _ (b.says _ _ e) (by rintro(z|z)<;>cases z),q⟩,by rcases tT with rfl|rfl<;>decide⟩
noncomputable def OS(v:Option Value)(T:Addr):Bool:=match v with
 |some (.ref b)=>Nat.beq b T
 |_=>false
noncomputable def nX:Value→Nat
 |.str _ _=>1
 |.int _ _=>2
 |.bool _=>3
 |_=>0
noncomputable def Ks(o:Option Obj)(T:Addr):Bool:=match o with
 |some ⟨.type t,_,.fields vs,_⟩=>t=="code"&&OS vs[11]? T&&Nat.beq (nX (vs.getD 18 .none)) 1&&Nat.beq (nX (vs.getD 7 .none)) 2&&Nat.beq (nX (vs.getD 9 .none)) 3&&Nat.beq (nX (vs.getD 10 .none)) 2
 |_=>false
theorem Py{v:Value}(h:Nat.beq (nX v) 1=true):∃s t,v=.str s t:=by cases v<;>first|exact⟨_,_,rfl⟩|cases h
theorem Eh{v:Value}(h:Nat.beq (nX v) 2=true):∃s t,v=.int s t:=by cases v<;>first|exact⟨_,_,rfl⟩|cases h
theorem Pz{v:Value}(h:Nat.beq (nX v) 3=true):∃s,v=.bool s:=by cases v<;>first|exact⟨_,rfl⟩|cases h
theorem Cc{h:Heap}{c T:Addr}(e:Ks (h.get? c) T=true)(n:c≠T):CodeHd h c T:=by
 revert e;cases e0:h.get? c with
 |none=>exactλe=>nB e
 |some o=>
 obtain⟨cls,d,data,sl⟩:=o;cases cls with
 |type t=>
  cases data with
  |fields vs=>
  intro e;obtain⟨e,h5,h6⟩:=aF e;obtain⟨e,h3,h4⟩:=aF e;obtain⟨h1,h2⟩:=aA e;obtain⟨file,tf,k1⟩:=Py h3;obtain⟨fl,tg,k2⟩:=Eh h4;obtain⟨kQ,k3⟩:=Pz h5;obtain⟨tx,tt,k4⟩:=Eh h6
  have r:vs[11]? =some (.ref T):=by
   revert h2;cases vs[11]? with
   |none=>exactλh=>nB h
   |some v=>cases v<;>first|exactλh=>nB h|exactλh=>congrArg (some∘Value.ref) (em h)
  exact⟨_,vs,file,tf,fl,tg,kQ,tx,tt,e0,by rw[fN h1],rfl,r,by rw[Array.getD_eq_getD_getElem?,r];rfl,k1,k2,k3,k4,n⟩
  |_=>exactλe=>nB e
 |_=>exactλe=>nB e
theorem xv(P:Params):CodeHd (H1 P) 197 195:=Cc (by kernel_rfl) (by decide)
theorem xw(P:Params):CodeHd (H1 P) 969 965:=Cc (by kernel_rfl) (by decide)
section
variable{M0:Model}{A:Around}{E:Value→Shared→Prop}{s:Shared}{h0:Heap}{tk0:Tok}{name qual:Str}{params:Arguments}{body:List Stmt}{scope:Scope}{env:Env}{c T:Addr}{pos:Pos}{firstLine:Nat}{clos:List (Str×Addr)}
inductive wb(h:Heap)(X:Addr→Prop)(q:Str)(c:Addr):Prop
 |mk {o:Obj} {vs:Array Value} {t:Tok}:h.get? c=some o→¬X c→o.data=.fields vs→vs[1]? =some (.str q t)→wb h X q c
structure tw(X:Addr→Prop)(M:Sp)(H:List ac)(T:Addr)(qual:Str)(pos:Pos)(h h':Heap)(a c':Addr)(o:Obj):Prop where
 keep:∀b o,b≠T→h.get? b=some o→h'.get? b=some o
 new:h.objs.size≤a
 at':h'.get? a=some o
 tab:eF h' (HA X M H) T qual pos
 code:wb h' (HA X M H) qual c'
 size:h.objs.size≤h'.objs.size
theorem BC(pos:Pos)(v:Value):codeAmong pos [rawInt pos.line,rawInt pos.col,v]=some v:=codeAmong_snoc (pos:=pos) (c:=v) [] trivial rfl
theorem QJ{w:World}{B:Heap}(b:dH w B){X:Addr→Prop}{M:Sp}{H:List ac}(G:HR w.params B X h0 M H)(tT:cX T)(T1:eF h0 (HA X M H) T qual pos)(C0:CodeHd (H1 w.params) c T)(nc:¬cX c)(hcl:closureFor scope env=pure clos)
  (hge0:env.globals=mainGlobals)(hcode:env.code=.ref c){Q:Value→Shared→Prop}
  (h:∀a c' ctv doc pm h' tk,tw X M H T qual pos h0 h' a c' (fnMade name qual params body scope clos doc pm c' ctv)→Q (.ref a) (Sh s h' tk)):
  wpAny M0 A (makeFunction name qual params (.stmts body) scope env [] [] [] pos firstLine) Q E (Sh s h0 tk0):=by
 obtain⟨mg,hg,hb,hgT⟩:=Et b G tT
 have C:CodeHd h0 c T:=by obtain⟨o,vs,file,tf,flags,tg,kQ,text,tt,e,r⟩:=C0;exact⟨o,vs,file,tf,flags,tg,kQ,text,tt,G.base _ _ (b.says _ _ e) nc,r⟩
 refine eF.rec (motive:=λ_=>_) (λe0=>?_) (λ{c0 o0 vs0 t0} e0 e1 n0 d0 q0=>?_) T1
 ·refine makeFunction_K (s:=Sh s h0 tk0) hcl hge0 hg hcode C e0 trivial rfl hgT hb λc' ctv doc h' tk hx hge hlt hrec htab=>?_;obtain⟨cc,oc,vs,t,hc,hoc,hdc,hq⟩:=hrec;cases hc;have sz:h0.objs.size≤h'.objs.size:=aJ hge (f8 hlt);exact h _ c' ctv doc _ _ _ ⟨λb o n e=>bc _ (hx b o n e),sz,ej _ rfl,.one (bc _ htab) (bc _ hoc) (G.new hge) hdc hq,.mk (bc _ hoc) (G.new hge) hdc hq,aJ sz (gF _ _)⟩
 ·refine makeFunction_hit (s:=Sh s h0 tk0) (cv:=.ref c0) hcl hge0 hg hcode C e0 trivial (BC pos _) hb λctv doc h' tk k sz=>?_;exact h _ c0 ctv doc _ _ _ ⟨λb o n e=>bc _ (k b o e),sz,ej _ rfl,.one (bc _ (k _ _ e0)) (bc _ (k _ _ e1)) n0 d0 q0,.mk (bc _ (k _ _ e1)) n0 d0 q0,aJ sz (gF _ _)⟩
end
noncomputable def jN:Df:=⟨970,bX "asker" "asker" (fp 134) 3 N N N (S "markupmill.evaluate" 1495) (R 969) N 0,["context","value_of"],1,[],.bad,true,1000⟩
theorem KA(P:Params):jB P jN:=⟨by kernel_rfl,by kernel_rfl,λ_ _=>by kernel_rfl,by kernel_rfl⟩
noncomputable def BJ:Pos×Pos:=(⟨691,11,691,19⟩,⟨691,4,691,19⟩)
theorem I6:iP jN.fd.body=[.FunctionDef (Str.ofString "value_of") (gq (fp 134)).params (gq (fp 134)).body [] none [] (gq (fp 134)).scope none (Str.ofString "value_of") sa,.Return (some (.Name (Str.ofString "value_of") BJ.1)) BJ.2]:=by kernel_rfl
theorem I8(cells:List (Str×Addr)):gO cells (gq (fp 134)).scope.names []=[(Str.ofString "context",(cells.lookup (Str.ofString "context")).getD 0)]:=by kernel_rfl
theorem I9:(gq (fp 134)).scope.names.all (λq=> !(yx (some q.2))||q.1==Str.ofString "context")=true:=by kernel_rfl
theorem Ja(k:Nat):qualnameIn (callEnvC jN.fd k 970) (Str.ofString "value_of") (Str.ofString "value_of")=ou:=by kernel_rfl
theorem tG:jN.kd (Str.ofString "context")=some .cell∧jN.kd (Str.ofString "value_of")=some .local:=⟨by kernel_rfl,by kernel_rfl⟩
theorem BK:(gq (fp 134)).params.defaults=[]∧(gq (fp 134)).params.kw_defaults=[]:=⟨by kernel_rfl,by kernel_rfl⟩
theorem I5(env:Env):annTrees (gq (fp 134)).params none env=[]:=by kernel_rfl
end
section
open PySem.SeqAt
theorem HA.wide{X T0:Addr→Prop}{M:Sp}{H:List ac}{b:Addr}(z:HA X M H b):HA (λb=>X b∨T0 b) M H b:=z.imp .inl id
theorem Ns.but{h h':Heap}{a T:Addr}{m:Str→Option Value}(x:h.Ns a m)(n:a≠T)(k:∀b o,b≠T→h.get? b=some o→h'.get? b=some o):h'.Ns a m:=uD (λo e=>k _ o n e) x
inductive Ax(P:Params)(hh:Heap)(T0 Y:Addr→Prop)(env:Env)(c:AV):Prop
 |mk {cc:Addr} {o:Obj} {v:Value}:env.cells.lookup (Str.ofString "context")=some cc→hh.get? cc=some o→o.data=.cell (some v)→T0 cc→VR P hh Y v c→Ax P hh T0 Y env c
theorem I7{cx:Cx}{p:Pt}{c:AV}{l:List (Option RV)}(R:SR cx jN.names p)(e:ae p.σ.loc 0=some (some (.v c)))(kd:∀x,cx.env.kindOf x=jN.kd x)(CI:sY cx):Ax cx.w.params p.h cx.T0 (p.av cx) cx.env c:=(R.vars 0 _ e).of λnm v e1 e2 e3=>by
  rw[←ak (show some (Str.ofString "context")=some nm from e1)] at e2;obtain⟨cc',hcc',tcc⟩:=CI (Str.ofString "context") ((kd _).trans tG.1);cases e2 with
  |loc q _ _=>exact nomatch((kd _).symm.trans q).symm.trans tG.1
  |cell _ hc hv=>exact hv.elim λo y=>.mk hc y.1 y.2 (ak (hc.symm.trans hcc')▸tcc) (RR.tree e3)
theorem Jb{env:Env}{cc:Addr}(h:env.cells.lookup (Str.ofString "context")=some cc):closureFor (gq (fp 134)).scope env=pure [(Str.ofString "context",cc)]:=by
 rw[xq λq m e=>?_,I8,h]
 ·rfl
 ·have:=List.all_eq_true.mp I9 q m;rw[e] at this;exact fN this▸⟨cc,h⟩
structure Im(P:Params)(B:Heap)(X:Addr→Prop)(h0:Heap)(M:Sp)(H:List ac)(h2:Heap)(a:Addr)(c:AV):Prop where
 e:HX cA h0 M H h2 M H
 g:HR P B X h2 M H
 v:VR P h2 (HA X M H) (.ref a) (.clos c)
theorem Jc{w:World}{B:Heap}{X:Addr→Prop}{h0 hh h' h2:Heap}{M:Sp}{H:List ac}{L cc:Addr}{v:Value}{o:Obj}{c:AV}{a c':Addr}{doc pm ctv:Value}{m0:Str→Option Value}(G:HR w.params B X h0 M H)(keep:∀b o,h0.get? b=some o→hh.get? b=some o)(l1:h0.objs.size≤L)(l2:L<hh.objs.size)
  (hm:hh.Ns L m0)(ho1:hh.get? cc=some o)(ho2:o.data=.cell (some v))(tcc:h0.objs.size≤cc)(rv:VR w.params hh (HA (λb=>X b∨(h0.objs.size≤b∧b<hh.objs.size)) M H) v c)
  (MF:tw (λb=>X b∨(h0.objs.size≤b∧b<hh.objs.size)) M H 965 ou sa hh h' a c' (wZ cc doc pm c' ctv))(sb:Heap.SameBut L h' h2):Im w.params B X h0 M H h2 a c:=have n965:∀x,h0.objs.size≤x→x≠965:=λx q z=>G.new q (.inr (.inl (.inl (.inr z))));have keep2:∀b o,b≠965→b≠L→hh.get? b=some o→h2.get? b=some o:=λb o n1 n2 e=>(sb.2 b n2).trans (MF.keep b o n1 e);have lh:h0.objs.size≤hh.objs.size:=aJ l1 (f8 l2);have old:∀b o,b≠965→h0.get? b=some o→h2.get? b=some o:=λb o n1 e=>keep2 b o n1 (λz=>iE e (z▸l1)) (keep b o e);have nloc:∀{x},¬HA (λb=>X b∨(h0.objs.size≤b∧b<hh.objs.size)) M H x→x≠L:=λq z=>q (.inl (.inr (z▸⟨l1,l2⟩)));have lsz:h0.objs.size≤h2.objs.size:=sb.1.symm▸aJ lh MF.size;have g2:∀{x o},x≠L→h'.get? x=some o→h2.get? x=some o:=λn e=>(sb.2 _ n).trans e;have up0:Up h0 (HA X M H) h2 (HA X M H):=⟨λb o e q=>old b o (λz=>q (.inr (.inl (.inl (.inr z))))) e,λb o e q=>q⟩;have t1:eF h2 (HA X M H) 965 ou sa:=eF.rec (motive:=λ_=>eF h2 (HA X M H) 965 ou sa) (λe=>.nil (g2 (λz=>n965 _ l1 z.symm) e)) (λq1 q2 q3 q4 q5=>.one (g2 (λz=>n965 _ l1 z.symm) q1) (g2 (nloc q3) q2) (λz=>q3 z.wide) q4 q5) MF.tab;have g:=G.tab (T:=965) (.inr rfl) old lsz ⟨G.tabs.t0.up up0 λo=>old _ o (by decide),t1⟩;have upv:Up hh (HA (λb=>X b∨(h0.objs.size≤b∧b<hh.objs.size)) M H) h2 (HA X M H):=⟨λb o e q=>keep2 b o (λz=>q (.inr (.inl (.inl (.inr z))))) (nloc q) e,λb o e q z=>q z.wide⟩
 ⟨g.2,g.1,wb.rec (motive:=λ_=>VR w.params h2 (HA X M H) (.ref a) (.clos c)) (λq1 q2 q3 q4=>fG.mk (g2 (λz=>absurd (z▸l2) (Nat.not_lt.mpr MF.new)) MF.at') (G.new (aJ lh MF.new)) (keep2 cc o (n965 _ tcc) (IsCell.ne_ns ⟨o,ho1,ho2⟩ hm) ho1) ho2 (G.new tcc) (g2 (nloc q2) q1) (λz=>q2 z.wide) q3 q4 (VR.up upv rv)) MF.code⟩
theorem Je{w:World}{B:Heap}(b:dH w B){n:Nat}{c:AV}{H:List ac}:de w B (n+1) (.glob (.ref 970)) [.v c] H (.ok (.v (.clos c)) H):=by
 intro X s h tk M fr A fv vs Q E rm hfr F G hg ha z;rw[show fv=.ref 970 from hg];refine qY b (d:=jN) (KA _) rfl rm hfr F G ha λenv hh tk I R0=>?_;have kd:∀x,env.kindOf x=jN.kd x:=λx=>by unfold Env.kindOf;rw[show env.scope=jN.fd.scope from I.sc];rfl
 have ce:qualnameIn env (Str.ofString "value_of") (Str.ofString "value_of")=ou∧env.code=.ref 969:=I.ce.elim λk e=>by rw[show env=_ from e];exact⟨Ja k,rfl⟩
 cases I7 (l:=[]) R0 rfl kd I.ci with
 |mk hcc ho1 ho2 tcc rv=>obtain⟨m0,hm0⟩:=R0.ns;have hm0:hh.Ns env.locals m0:=hm0;unfold mO;rw[I6];refine kg (nestDef_K BK.1 BK.2 (I5 env) ?_);rw[ce.1];refine QJ b R0.toHR (.inr rfl) R0.toHR.tabs.t1 (xw _) (by rintro(z|z)<;>cases z) (Jb hcc) I.ek.glob ce.2 λa c' ctv doc pm h' tk' MF=>?_;refine WU ((kd _).trans tG.2) (Ns.but hm0 (λz=>G.new I.l1 (.inr (.inl (.inl (.inr z))))) MF.keep) (λh2 hn2 sb2=>?_) (by rw[show env.scope.kind=_ from I.ek.kind];rfl);refine kg (vW (sK (vY I.ek.kind ((kd _).trans tG.2) hn2 (bF rfl) ?_) rfl));have K:=Jc G I.keep I.l1 I.l2 hm0 ho1 ho2 tcc.1 rv MF sb2;exact z (.ref a) h2 M _ K.e K.g K.v
end
section
open PySem.SeqAt
noncomputable def oK:XS:=.seq (.ret (.call 0 (.glf 1003) (.cons (.var 0) (.cons (.meth 39 0 (.var 4) (.cons (.var 1) (.cons (.var 2) (.cons (.var 3) .nil)))) .nil)))) .done
noncomputable def nq:List Str:=["expr","node","position","size","context"].map Str.ofString
noncomputable abbrev qD:Scope:=(gq (fp 134)).scope
noncomputable def o9:Kd:=λx=>qD.names.lookup x
theorem Ka(gm:Nat):jg gm o9 nq oK (gq (fp 134)).body=true:=by kernel_rfl
theorem B5:qD.names.all (λq=> !(ma (some q.2)))=true:=by kernel_rfl
theorem xo:qD.kind=.function:=by kernel_rfl
theorem Kb:qD.isCoroutine=false:=by kernel_rfl
theorem Ke:qD.isGenerator=false:=by kernel_rfl
theorem B4:(nq.take 4).all (λx=>gr (o9 x))=true:=by kernel_rfl
theorem Kc:o9 (Str.ofString "context")=some .free:=by kernel_rfl
theorem Kf:n7 nq=true:=by kernel_rfl
noncomputable abbrev jh(cc:Addr)(doc pm:Value)(c':Addr)(ctv:Value):FuncData:=fnX (Str.ofString "value_of") ou (gq (fp 134)).params (gq (fp 134)).body (gq (fp 134)).scope [(Str.ofString "context",cc)] .none .none doc pm none (.ref c') ctv
noncomputable abbrev xn(a b c d:Value):List (Str×Value):=[(Str.ofString "expr",a),(Str.ofString "node",b),(Str.ofString "position",c),(Str.ofString "size",d)]
theorem J8(P:Params)(cc:Addr)(doc pm ctv:Value)(c':Addr)(a b c d:Value):∀S,peek (KF P) S (bindArgs (jh cc doc pm c' ctv) ⟨[a,b,c,d],[]⟩)=some (xn a b c d):=λS=>by kernel_rfl
noncomputable def qE(f:Fo)(c:AV)(args:List RV)(H:List ac):Rc:=cond (Nat.beq args.length 4) (gQ true H.length (aP f oK ⟨args.map some++[some (.v c)],H⟩)) .bad
theorem Ef{x:Str}:o9 x≠some .cell:=λe=>nomatch List.all_eq_true.mp B5 _ (mem_of_lookup e)
theorem LV{R:Value→RV→Prop}{C:List Value→List RV→Prop}(k:∀v1 v2 v3 v4 x1 x2 x3 x4,R v1 x1→R v2 x2→R v3 x3→R v4 x4→C [v1,v2,v3,v4] [x1,x2,x3,x4]):∀{args:List RV}{vs:List Value},args.length=4→Z2 R vs args→C vs args
 |[x1,x2,x3,x4],vs,_,r=>Z2.on (C:=λvs=>C vs [x1,x2,x3,x4]) r λv1 _ r1 r=>Z2.on (C:=λvs=>C (v1::vs) [x1,x2,x3,x4]) r λv2 _ r2 r=>Z2.on (C:=λvs=>C (v1::v2::vs) [x1,x2,x3,x4]) r λv3 _ r3 r=>Z2.on (C:=λvs=>C (v1::v2::v3::vs) [x1,x2,x3,x4]) r λv4 us r4 r=>(show us=[] from r)▸k _ _ _ _ _ _ _ _ r1 r2 r3 r4
theorem Q1{x1 x2 x3 x4 x5:RV}{C:Nat→RV→Prop}(k1:C 0 x1)(k2:C 1 x2)(k3:C 2 x3)(k4:C 3 x4)(k5:C 4 x5):∀i x,ae [some x1,some x2,some x3,some x4,some x5] i=some (some x)→C i x
 |0,_,e=>ak (ak e)▸k1
 |1,_,e=>ak (ak e)▸k2
 |2,_,e=>ak (ak e)▸k3
 |3,_,e=>ak (ak e)▸k4
 |4,_,e=>ak (ak e)▸k5
 |n+5,_,e=>absurd (gh e) (Nat.not_lt.mpr (Nat.le_add_left 5 n))
noncomputable abbrev jM(fd:FuncData)(L a:Addr):Env:=newEnv fd.scope L fd.globals fd.closure (fd.qualname++".<locals>.") (some a) fd.code none fd.builtins
theorem B3{cc:Addr}{doc pm:Value}{c':Addr}{ctv:Value}{L a:Addr}{x:Str}:(jM (jh cc doc pm c' ctv) L a).kindOf x=o9 x:=by kernel_rfl
theorem Kg{w:World}{B:Heap}(b:dH w B){n:Nat}{X:Addr→Prop}{h0 hh:Heap}{M:Sp}{H:List ac}{fr:List Env}{a cc c':Addr}{doc pm ctv v:Value}{oc:Obj}{v1 v2 v3 v4:Value}{x1 x2 x3 x4:RV}{c:AV}(F:g9 B fr h0 M H)(G:HR w.params B X h0 M H)
  (hns:hh.Ns h0.objs.size λx=>(xn v1 v2 v3 v4).reverse.lookup x)(keep:∀b o,h0.get? b=some o→hh.get? b=some o)(lt:h0.objs.size<hh.objs.size)(e1:h0.get? cc=some oc)(d1:oc.data=.cell (some v))(n1:¬HA X M H cc)(rc:VR w.params h0 (HA X M H) v c)
  (r1:RR w.params h0 (HA X M H) M v1 x1)(r2:RR w.params h0 (HA X M H) M v2 x2)(r3:RR w.params h0 (HA X M H) M v3 x3)(r4:RR w.params h0 (HA X M H) M v4 x4):
  SR (bZ w B X h0 hh (jM (jh cc doc pm c' ctv) h0.objs.size a) fr H.length n) nq ⟨hh,M,⟨[some x1,some x2,some x3,some x4,some (.v c)],H⟩⟩:=have old:∀{x},h0.objs.size≤x→¬cX x∧¬bn M H x:=λq=>⟨λt=>G.new q (.inr (.inl (.inl t))),λt=>G.new q (.inr (.inr t))⟩;have g:=G.same (X':=(bZ w B X h0 hh (jM (jh cc doc pm c' ctv) h0.objs.size a) fr H.length n).X) (D:=cA) (λb o _=>keep b o) (λ_ z=>z.elim) (f8 lt) λ_=>id
 have hcel:∀{x d:_},List.lookup x [(Str.ofString "context",cc)]=some d→x=Str.ofString "context"∧d=cc:=λ{x d} e=>by
  rw[jE] at e;cases q:x==Str.ofString "context" with
  |true=>rw[q] at e;exact⟨fN q,(ak e).symm⟩
  |false=>rw[q] at e;cases e
 have Bn:∀{L},h0.objs.size≤L→B.get? L=none:=λ{L} q=>by
  cases e:B.get? L with
  |none=>rfl
  |some o=>exact iE (G.base L o e (old q).1) q
 have frm:∀{e L},e∈jM (jh cc doc pm c' ctv) h0.objs.size a::fr→e.frame=some L→(L=h0.objs.size)∨(e∈fr∧B.get? L=none∧¬Tc cA M H L∧oW h0 L):=λ{e L} m q=>(List.mem_cons.mp m).elim (λc=>.inl (by rw[c] at q;exact(ak q).symm)) λm=>(F e m).2.elim λL' r=>by cases r.1.symm.trans q;exact .inr ⟨m,r.2⟩
 have fa:∀{b},FA (bZ w B X h0 hh (jM (jh cc doc pm c' ctv) h0.objs.size a) fr H.length n).T0 (jM (jh cc doc pm c' ctv) h0.objs.size a) (jM (jh cc doc pm c' ctv) h0.objs.size a::fr) b→¬cX b∧¬bn M H b:=λf=>f.elim (λt=>old t.1) λf=>f.elim (λ⟨x,q⟩=>(hcel q).2▸⟨λt=>n1 (.inr (.inl (.inl t))),λt=>n1 (.inr (.inr t))⟩) λ⟨e,m,q⟩=>(frm m q).elim (λz=>old (f7 z.symm)) λz=>⟨λt=>z.2.2.1 (.inr (.inl t)),λt=>z.2.2.1 (.inr (.inr t))⟩
 have lo:∀{i nm v x},ae (nq.take 4) i=some nm→ae nq i=some nm→(xn v1 v2 v3 v4).reverse.lookup nm=some v→RR w.params h0 (HA X M H) M v x→ku (bZ w B X h0 hh (jM (jh cc doc pm c' ctv) h0.objs.size a) fr H.length n) nq hh (HA (bZ w B X h0 hh (jM (jh cc doc pm c' ctv) h0.objs.size a) fr H.length n).X M H) M i x:=λe e2 q r=>.mk e2 (.loc (jV (List.all_eq_true.mp B4 _ (EJ e))) hns q) (RR.up g.2 (λ_ _ e=>e) r)
 ⟨g.1,⟨zd (rI Kf),⟨bw _,lt⟩,λx y c e1 e2=>(hcel e1).1.trans (hcel e2).1.symm,λx f=>(fa f).1,
   λe m=>(List.mem_cons.mp m).elim (λc=>by rw[c];exact⟨λq=>(nomatch xo.symm.trans q),_,rfl,Bn (bw _)⟩) λm=>⟨(F e m).1,(F e m).2.imp λL r=>⟨r.1,r.2.1⟩⟩,
   λe m L q t=>(frm m q).elim id λz=>z.2.2.2.elim λo r=>iE r.1 t.1⟩,
  Q1 (lo (i:=0) rfl rfl (by kernel_rfl) r1) (lo (i:=1) rfl rfl (by kernel_rfl) r2) (lo (i:=2) rfl rfl (by kernel_rfl) r3) (lo (i:=3) rfl rfl (by kernel_rfl) r4)
   (.mk (n:=Str.ofString "context") rfl (.cell (.inr ⟨Kc,by decide⟩) (by kernel_rfl) ⟨oc,keep _ _ e1,d1⟩) (VR.up g.2 rc)),
  ⟨_,hns⟩,rfl,λx c q=>⟨some v,by rw[(hcel q).2];exact⟨oc,keep _ _ e1,d1⟩⟩,λx l f=>(fa f).2 l,
  λe m L q=>(frm m q).elim (λz=>z▸hns.elim λo y=>⟨o,y.elim λes y=>y.elim λep y=>⟨y.1,λvs q=>by rw[y.2.1] at q;cases q⟩⟩) λz=>z.2.2.2.imp λo r=>⟨keep _ _ r.1,r.2⟩,
  λi q c e=>absurd (gh e) (by rw[G.len];exact Nat.not_lt.mpr c)⟩
theorem J9{w:World}{B:Heap}(b:dH w B){n:Nat}{f:Fo}(O:eY w B n f){c:AV}{H:List ac}{X:Addr→Prop}{s:Shared}{h:Heap}{tk:Tok}{M:Sp}{fr:List Env}{A:Around}{Q E:Value→Shared→Prop}(rm:Rm (n+1) A)(hfr:A.frames=some fr)(F:g9 B fr h M H)(G:HR w.params B X h M H)
  {a cc c':Addr}{doc pm ctv v:Value}{oc oc':Obj}{cvs:Array Value}{t:Tok}(e0:h.get? a=some (wZ cc doc pm c' ctv))(e1:h.get? cc=some oc)(d1:oc.data=.cell (some v))(n1:¬HA X M H cc)(e2:h.get? c'=some oc')(d2:oc'.data=.fields cvs)(q2:cvs[1]? =some (.str (Str.ofString "asker.<locals>.value_of") t))(rc:VR w.params h (HA X M H) v c)
  {v1 v2 v3 v4:Value}{x1 x2 x3 x4:RV}(r1:RR w.params h (HA X M H) M v1 x1)(r2:RR w.params h (HA X M H) M v2 x2)(r3:RR w.params h (HA X M H) M v3 x3)(r4:RR w.params h (HA X M H) M v4 x4)
  (z:fH w.params B X fr h M H s (gQ true H.length (aP f oK ⟨[some x1,some x2,some x3,some x4,some (.v c)],H⟩)) Q E):codeAny (model pw w) A (.call (.ref a) ⟨[v1,v2,v3,v4],[]⟩) (lB Q E) (Sh s h tk):=by
 have KI:(KF w.params).In h:=lQ b.says G.base;have NL:h.NoLimit:=b.nolim.at λo e=>G.base _ o e (by rintro(q|q)<;>cases q);refine Kr (s:=Sh s h tk) (eX (aJ (aJ (eM _ _) (eM _ 30)) rm.depth) (by unfold recursionLimit;decide)) e0 rfl Kb Ke rfl ⟨c',oc',cvs,t,rfl,e2,d2,q2⟩ ?_;refine(yU (s:=Sh s h tk) KI (J8 w.params cc doc pm ctv c' v1 v2 v3 v4)) _ _ _ _ ?_;refine Ap (λq m z=>?_) (λq m=>?_) (λhh hns hsb=>?_) xo
 ·exact nomatch(z▸List.all_eq_true.mp B5 q m:(!(ma (some NameKind.cell)))=true)
 ·exact jV (List.all_eq_true.mp B4 _ (wv (f:=(·.1)) m))
 ·have hsb:Heap.SameBut h.objs.size (h.push {cls:=.type "frame",data:=.dict #[]}) hh:=hsb;have ksz:hh.objs.size=h.objs.size+1:=hsb.1.trans (dk _ _);have keep:∀b o,h.get? b=some o→hh.get? b=some o:=λb o e=>(hsb.2 b (c9 (b9 e))).trans (bc _ e);have lt:h.objs.size<hh.objs.size:=ksz▸eN _;refine⟨NL.keeps keep,codeAny_func ?_⟩;have R:=Kg (n:=n) (a:=a) (c':=c') (doc:=doc) (pm:=pm) (ctv:=ctv) b F G hns keep lt e1 d1 n1 rc r1 r2 r3 r4;have GS:dJ f H.length (bZ w B X h hh (jM (jh cc doc pm c' ctv) h.objs.size a) fr H.length n) o9:=⟨⟨⟨xo,rfl,rfl,b.says⟩,λ_=>B3,O,λx e=>absurd e Ef⟩,λx e=>absurd (B3.symm.trans e) Ef,bw _,b⟩;have S:=sS oK GS (Ka H.length);exact BS (s:=s) (tk:=_) (Q:=Q) (E:=E) (A:=A) (h1:=h) ⟨rfl,keep,bw _,lt,congrArg (Option.map (_::·)) hfr⟩ (λ_ _ e=>e) (bw _) rm G R S z
theorem Jf{w:World}{B:Heap}(b:dH w B){n:Nat}{f:Fo}(O:eY w B n f){c:AV}{args:List RV}{H:List ac}:de w B (n+1) (.clos c) args H (qE f c args H):=by
 intro X s h tk M fr A fv vs Q E rm hfr F G hg ha z;have hg:fG h (HA X M H) (λv=>VR w.params h (HA X M H) v c) fv:=hg;unfold qE at z;cases e:Nat.beq args.length 4 with
 |false=>rw[e] at z;exact False.elim z
 |true=>
  rw[e] at z;exact LV (C:=λvs args=>∀l,l=args.map some++[some (.v c)]→fH w.params B X fr h M H s (gQ true H.length (aP f oK ⟨l,H⟩)) Q E→codeAny (model pw w) A (.call fv ⟨vs,[]⟩) (lB Q E) (Sh s h tk)) (λv1 v2 v3 v4 x1 x2 x3 x4 r1 r2 r3 r4 l e z=>by rw[show l=[some x1,some x2,some x3,some x4,some (.v c)] from e] at z;exact fG.rec (motive:=λfv _=>codeAny (model pw w) A (.call fv ⟨[v1,v2,v3,v4],[]⟩) (lB Q E) (Sh s h tk)) (λe0 n0 e1 d1 n1 e2 n2 d2 q2 rc=>J9 b O rm hfr F G e0 e1 d1 n1 e2 d2 q2 rc r1 r2 r3 r4 z) hg) (em e) ha _ rfl z
end
section
open PySem.SeqAt
noncomputable def WB(B h:Heap):Prop:=∃base,(∀b o,B.get? b=some o→¬cX b→base.get? b=some o)∧kr base (λ_=>False)∧base.StaysIn h
noncomputable def iQ:Df:=⟨1340,bX "_law_refused" "_law_refused" (fp 159) 3 N N N (S "law_on0202_01" 1953) (R 1339) N 0,["expr","context"],2,[],.bad,true,1000⟩
theorem KD(P:Params):jB P iQ:=⟨by kernel_rfl,by kernel_rfl,λ_ _ _=>by kernel_rfl,by kernel_rfl⟩
noncomputable def g8:XS:=.seq (.expr (.call 0 (.glf 1003) (.cons (.var 0) (.cons (.var 1) .nil)))) .done
noncomputable def Vw(l:List Stmt):List Stmt:=match l with
 |.Try b _ _ _ _::_=>b
 |_=>[]
noncomputable def FI:List Stmt:=Vw (iP iQ.fd.body)
theorem S0:∃p1 p2 p3 p4 p5 st,iP iQ.fd.body=[.Try FI [.ExceptHandler (some (.Name (Str.ofString "PathFault") p1)) none [.Return (some (.Constant (.bool true) 0 p2)) p3] p4] [] [] p5,st]:=⟨⟨1033,11,1033,20⟩,⟨1034,15,1034,19⟩,⟨1034,8,1034,19⟩,⟨1033,4,1034,19⟩,⟨1031,4,1034,19⟩,.Return (some (.Constant (.bool false) 0 ⟨1035,11,1035,16⟩)) ⟨1035,4,1035,16⟩,by kernel_rfl⟩
theorem S4(gm:Nat):(iy iQ.kd (Str.ofString "PathFault")&&jg gm iQ.kd iQ.names g8 FI)=true:=by kernel_rfl
theorem S7:iQ.fd.scope.names.all (λq=> !(ma (some q.2)))=true:=by kernel_rfl
theorem S5(P:Params):exmOne (KF P) (.ref 325) (.ref 325)=some true:=by kernel_rfl
theorem WT{M:Model}{A:Around}{E:Value→Shared→Prop}{s:Shared}{base:Heap}{env:Env}{outer:List Env}{L e:Addr}{oe:Obj}{vs:Array Value}{a0:Value}{Q:Unit→Shared→Prop}
  (hfr:A.frames=some (env::outer))(hl:s.heap.FunFrames base (env::outer))(hf:env.frame=some L)
  (he:s.heap.get? e=some oe)(hkb:base.StaysIn s.heap)(hen:base.get? e=none)(hd:oe.data=.fields vs)(h1:vs[1]? =some .none)(h0:vs[0]? =some a0)
  (h:∀h',Heap.NotedW base (env::outer) e oe.cls a0 (rawInt L) s.heap h'→Q () {s with heap:=h'}):wpAny M A (noteFrame (.ref e) env) Q E s:=by have sz:1<vs.size:=(Array.getElem?_eq_some_iff.mp h1).1;unfold noteFrame;simp only[hf];refine ah (wpAny_field he hd h1 ?_);rw[bQ (show¬((Value.none !=Value.none)=true) by decide)];exact wpAny_entryW hfr hl hf he hkb hen hd sz h0 h
theorem BZ{cx:Cx}(EK:bq cx){A:Around}{base:Heap}{l:List Env}{a:Addr}{a0 fl:Value}{s:Shared}{x:Str}{np cp rp hp:Pos}{k:Nat}{Q:Flow→Shared→Prop}{E:Value→Shared→Prop}(N:eW cx x (.ref 325))
  (kb:∀b o,cx.B.get? b=some o→¬cX b→base.get? b=some o)(hn:base.get? a=none)(n1:base.StaysIn s.heap)(n2:s.heap.FunFrames base l)(n3:s.heap.TracedAtW base a (.ref 325) a0 fl)(hq:∀h4,base.StaysIn h4→Q (.ret (.bool true)) {s with heap:=h4}):
  wpAny (model pw cx.w) A (setFlight (.ref a) none) (λ_ s₃=>wpAny (model pw cx.w) A (handleBy (.ref a) cx.env [.ExceptHandler (some (.Name x np)) none [.Return (some (.Constant (.bool true) k cp)) rp] hp]) Q E s₃) E s:=by
 refine wpAny_setFlight_noneW n1 n2 n3 λh4 m1 m2 m3 _=>?_;have KI:(KF cx.w.params).In h4:=lQ EK.says λb o e n=>m1 b o (kb b o e n);refine wpAny_handleBy_cons (codeAny_handlers_test ?_) (by intro q;cases q);refine j0 EK N KI ?_
 have LT:Looks (model pw cx.w) h4 (typeOf (.ref a)) (.ref 325):=m3.elim λoe y=>by obtain⟨_,_,_,_,he,hc,_⟩:=y;exact(hc.1:oe.cls=.ref 325)▸(Looks.ld he).andThen .now
 refine mU (s:={s with heap:=h4}) (exm_one KI LT (S5 cx.w.params)) ?_;show codeAny (model pw cx.w) _ (.handlers (.ref a) [.ExceptHandler none none [.Return (some (.Constant (.bool true) k cp)) rp] hp] cx.env) _ _;refine codeAny_handlers_suite (lands_againW (base:=base) (l:=l) (cls:=.ref 325) (a0:=a0) ⟨m1,hn,m2,m3⟩ λh5 fl5 _=>?_);exact kg (vW (Constant_bool (hq h5 fl5.1)))
theorem S1{w:World}{B:Heap}(b:dH w B){n:Nat}{f:Fo}(O:eY w B n f){X:Addr→Prop}{s:Shared}{h:Heap}{tk:Tok}{M:Sp}{H:List ac}{fr:List Env}{A:Around}{vs:List Value}{x1 x2:RV}{Q E:Value→Shared→Prop}(rm:Rm (n+1) A)(hfr:A.frames=some fr)
  (F:g9 B fr h M H)(G:HR w.params B X h M H)(ha:a9 w.params h (HA X M H) M vs [x1,x2])(aw:aP f g8 ⟨[some x1,some x2],H⟩=.err)(hQ:∀h' tk,WB B h'→Q (.bool true) (Sh s h' tk)):
  codeAny (model pw w) A (.call (.ref 1340) ⟨vs,[]⟩) (lB Q E) (Sh s h tk):=by
 refine qY b (d:=iQ) (KD _) rfl rm hfr F G ha λenv hh tk I R0=>?_;have kk:∀x,env.kindOf x=iQ.kd x:=λx=>by unfold Env.kindOf;rw[show env.scope=iQ.fd.scope from I.sc];rfl
 have noCell:∀{x:Str},iQ.kd x≠some .cell:=λ{x} e=>nomatch List.all_eq_true.mp S7 _ (mem_of_lookup e);have GS:dJ f H.length (bZ w B X h hh env fr H.length n) iQ.kd:=⟨⟨I.ek,kk,O,λx e=>absurd e noCell⟩,I.ci,bw _,b⟩;have c:=aA (S4 H.length);have N:eW (bZ w B X h hh env fr H.length n) (Str.ofString "PathFault") (.ref 325):=iT GS.toGd c.1 (ng _ (s:="PathFault") rfl (show j1 (Str.ofString "PathFault") "PathFault"=true from eQ _));obtain⟨p1,p2,p3,p4,p5,st,eb⟩:=S0;unfold mO;rw[eb];refine kg (wpAny_Try_except (sS g8 GS c.2 ⟨hh,M,⟨[some x1,some x2],H⟩⟩ (A.deeper env) s tk _ _ ⟨rm.deeper env,I.fr⟩ R0 ?_));show aC _ _ _ s _ (aP f g8 ⟨[some x1,some x2],H⟩) _ _;rw[aw];intro e h' tk' fl;cases fl with
 |fly F=>obtain⟨c,k1,k2,F⟩:=F;rw[c];exact wpAny_noteFrame_onW (s:=Sh s h' tk') I.fr F.2.2.1 I.fl F.2.2.2 F.1 F.2.1 λh3 n=>BZ I.ek (s:=Sh s h3 tk') N k1 F.2.1 n.1 n.2.1 n.2.2.1 λh4 st=>hQ h4 tk' ⟨_,k1,k2,st⟩
 |new c k1 k2 k3 k4 k5 k6 k7 k8 k9 k10=>rw[c];exact WT (s:=Sh s h' tk') I.fr k4 I.fl k6 k3 k5 k8 k9 k10 λh3 n=>BZ I.ek (s:=Sh s h3 tk') N k1 k5 n.1 n.2.1 (k7▸n.2.2.1) λh4 st=>hQ h4 tk' ⟨_,k1,k2,st⟩
end
section
open PySem.SeqAt
noncomputable def sk{α:Type}(lt:Nat→Nat→Bool):KasT α→α
 |.ret a=>a
 |.ask i j k=>sk lt (k (lt i j))
noncomputable def nZ:List Int→List Int→Bool
 |[],l=> !l.isEmpty
 |a::l,r=>List.casesOn r false λb r=>cond (decide (a=b)) (nZ l r) (decide (a<b))
noncomputable def iX:List AV→Option (List Int)
 |[]=>some []
 |x::l=>(eO x).bind λi=>(iX l).bind λr=>some (i::r)
noncomputable def mm:List Int→Bool
 |[]=>true
 |i::l=>l.all (λj=>decide (j≠i))&&mm l
noncomputable def sC(r:Rc):Option (List Int):=Rc.casesOn r none none λx H=>cond H.isEmpty ((bJ eP x).bind iX) none
noncomputable def gX(f:Fo)(tree:RV):List Int→Option (List (List Int))
 |[]=>some []
 |i::l=>(sC (f (.glob (.ref 193)) [tree,.v (.int i)] [])).bind λk=>(gX f tree l).bind λr=>cond k.isEmpty none (some (k::r))
noncomputable def gB(ks:List (List Int)):List Nat:=cond (Nat.blt ks.length 2) (List.range ks.length) (sk (λi j=>nZ (ks.getD i []) (ks.getD j [])) (kas_sort ks.length)).toList
noncomputable def zw(f:Fo)(tree:AV)(is:List Int)(H:List ac):Rc:=cond (mm is&&Nat.blt is.length 7) ((gX f (.v tree) is).casesOn .bad λks=>.ok (.v (.lst ((gB ks).map λj=>.int (is.getD j 0)))) H) .bad
noncomputable def lf(f:Fo)(args:List RV)(H:List ac):Rc:=match args with
 |[.v tree,.v nodes]=>((fx nodes).bind iX).casesOn .bad λis=>zw f tree is H
 |_=>.bad
noncomputable def BI(args:List RV)(H:List ac):Rc:=match args with
 |[.v c]=>.ok (.v (.clos c)) H
 |_=>.bad
noncomputable def tM(f:Fo)(a:Addr)(args:List RV)(H:List ac):Rc:=cond (Nat.beq a 970) (BI args H) (cond (Nat.beq a 198) (lf f args H) .bad)
noncomputable def qB(f:Fo)(a:Addr)(args:List RV)(H:List ac):Rc:=(tab.find? λd=>Nat.beq d.a a&&Nat.beq d.n args.length).casesOn ((gS a pb).casesOn (tM f a args H) λq=>qF f q.2 q.1 a args H) λd=>sj f d args H
noncomputable def LS(f:Fo):Fo:=λg args H=>match g with
 |.glob v=>(mL v).casesOn .bad λa=>qB f a args H
 |.clos c=>qE f c args H
 |_=>.bad
noncomputable def fo:Nat→Fo
 |0=>λ_ _ _=>.bad
 |n+1=>LS (fo n)
theorem JZ{w:World}{B:Heap}(b:dH w B){n:Nat}{f:Fo}(hord:∀args H,de w B (n+1) (.glob (.ref 198)) args H (lf f args H)){a:Addr}{args:List RV}{H:List ac}:de w B (n+1) (.glob (.ref a)) args H (tM f a args H):=by
 unfold tM;cases h:Nat.beq a 970 with
 |true=>
  rw[em h];show de w B (n+1) _ args H (BI args H);exact match args with
   |[.v c]=>Je b
   |[]=>de.bad
   |[.loc _]=>de.bad
   |.v _::_::_=>de.bad
   |.loc _::_::_=>de.bad
 |false=>
  show de w B (n+1) _ args H (cond (Nat.beq a 198) (lf f args H) .bad);cases h:Nat.beq a 198 with
  |true=>rw[em h];exact hord _ _
  |false=>exact de.bad
theorem JY{w:World}{B:Heap}(b:dH w B){n:Nat}{f:Fo}(O:eY w B n f)(hord:∀args H,de w B (n+1) (.glob (.ref 198)) args H (lf f args H)){a:Addr}{args:List RV}{H:List ac}:de w B (n+1) (.glob (.ref a)) args H (qB f a args H):=by
 unfold qB;cases hd:tab.find? λd=>Nat.beq d.a a&&Nat.beq d.n args.length with
 |some d=>have h:=aA (List.find?_some (p:=λd:Df=>Nat.beq d.a a&&Nat.beq d.n args.length) hd);rw[←em h.1];exact Jh b O (jB.of w.params (List.mem_of_find?_eq_some hd)) (em h.2).symm
 |none=>
  cases hq:gS a pb with
  |some q=>exact Jg b O (qX hq)
  |none=>exact JZ b hord
theorem C8{w:World}{B:Heap}(b:dH w B)(hord:∀(n:Nat)(f:Fo),eY w B n f→∀args H,de w B (n+1) (.glob (.ref 198)) args H (lf f args H)):∀n,eY w B n (fo n)
 |0=>de.all λ_ _ _=>de.bad
 |n+1=>de.all λg args H=>by
  have O:=C8 b hord n;cases g with
  |glob v=>
   cases v with
   |ref a=>exact JY b O (hord n _ O)
   |_=>exact de.bad
  |clos c=>exact Jf b O
  |_=>exact de.bad
end
section
open PySem.SeqAt
abbrev Kp(h h':Heap):Prop:=∀b o,h.get? b=some o→h'.get? b=some o
section
variable{w:World}{A:Around}{E:Value→Shared→Prop}{s:Shared}
theorem Kt{knd:KeyKind pw w Int}{d:Addr}{kvs:List (Int×Value)}{ep:Nat}{R:Result→Shared→Prop}(hh:A.handled=none)(hd:s.heap.DictAt knd d kvs ep)(lo:(d==sysModules)=false)(hn:kvs.length≤sizeLine)
  (h:∀(h':Heap)(tk:Tok)(acc':Array Value)(c':Nat),Kp s.heap h'→h'.get? s.heap.objs.size=some {cls:=.type "list",dict:=none,data:=.seq acc' c',slots:= #[]}→ItemsOf (λi v=>∃k x,kvs[i]? =some (k,x)∧knd.is k v=true) acc' kvs.length→R (.ok (.ret (.ref s.heap.objs.size))) {s with heap:=h',toks:=tk}):
  codeAny (model pw w) A (.builtin "proto.collect" ⟨[.ref d],[]⟩) R s:=by
 have K:=kdl_dict (prog:=pw) (w:=w) (knd:=knd) (kvs:=kvs) (ep:=ep) lo;have hlt:=K.there _ hd;refine xu F.entry_proto_collect ?_;rw[v8 F.plain_proto_collect _];show wpAny _ A.in1 (newList []>>=λl=>again (.builtin "list.__iadd__" ⟨[l,.ref d],[]⟩)) _ _ s;refine ah (sM ?_);refine aQ ⟨Fh F.plain_list_iadd _,xu F.entry_list_iadd ?_⟩;rw[v8 F.plain_list_iadd _];have hS:(s.heap.push {cls:=.type "list",data:=.seq ([]:List Value).toArray}).get? s.heap.objs.size=some {cls:=.type "list",data:=.seq #[]}:=ej _ rfl;show wpAny _ A.in1 (Builtin.List.listExtendWith (.ref s.heap.objs.size) (.ref d) (.ref s.heap.objs.size)) _ _ _;exact kdl_extend (A:=A) (R:=R) (s:={s with heap:=s.heap.push {cls:=.type "list",data:=.seq ([]:List Value).toArray}}) K hh (K.keep _ _ hd λb _ o e=>bc _ e) _ (mX hlt.1) (mX hlt.2) _ 0 hS (λh' tk acc' c' hk hS' hacc=>h h' tk acc' c' (λb o e=>hk b o (c9 (b9 e)) (bc _ e)) hS' hacc) hn
theorem Ku{knd:KeyKind pw w Int}{d:Addr}{kvs:List (Int×Value)}{ep:Nat}{Q:List Value→Shared→Prop}(hh:A.handled=none)(hd:s.heap.DictAt knd d kvs ep)(lo:(d==sysModules)=false)(hn:kvs.length≤sizeLine)
  (h:∀(h':Heap)(tk:Tok)(vs:List Value),Kp s.heap h'→vs.length=kvs.length→(∀(j:Nat)(v:Value),vs[j]? =some v→∃k x,kvs[j]? =some (k,x)∧knd.is k v=true)→Q vs {s with heap:=h',toks:=tk}):
  wpAny (model pw w) A (collect (.ref d)) Q E s:=by unfold collect;refine ah (wpAny_runValue (Kt hh hd lo hn λh' tk acc' c' hk hS' hacc=>?_));show wpAny _ A (load s.heap.objs.size>>=_) _ _ _;refine ah (wpAny_load hS' ?_);exact aQ (h h' tk acc'.toList hk (by rw[Aw];exact hacc.1) λj v e=>hacc.2 j v (by rw[←Av];exact e))
noncomputable def jn(n:Nat):KasT (Array Nat)→Bool
 |.ret p=>p.toList.all λi=>Nat.blt i n
 |.ask i j k=>Nat.blt i n&&Nat.blt j n&&jn n (k true)&&jn n (k false)
theorem Rj:jn 2 (kas_sort 2)=true:=by kernel_rfl
theorem Rk:jn 3 (kas_sort 3)=true:=by kernel_rfl
theorem Rl:jn 4 (kas_sort 4)=true:=by kernel_rfl
theorem Rn:jn 5 (kas_sort 5)=true:=by kernel_rfl
theorem Ro:jn 6 (kas_sort 6)=true:=by kernel_rfl
theorem Rp{n:Nat}(h2:2≤n)(h6:n≤6):jn n (kas_sort n)=true:=by
 have:n=2∨n=3∨n=4∨n=5∨n=6:=by omega
 rcases this with rfl|rfl|rfl|rfl|rfl
 ·exact Rj
 ·exact Rk
 ·exact Rl
 ·exact Rn
 ·exact Ro
theorem tK{i n:Nat}(h:Nat.blt i n=true):i<n:=lT h
theorem FM{n:Nat}{lt:Nat→Nat→Bool}{cmp:Nat→Nat→(Bool→Shared→Prop)→Shared→Prop}{Q:Array Nat→Shared→Prop}(hc:∀i j C,i<n→j<n→C (lt i j) s→cmp i j C s):∀t,jn n t=true→(((sk lt t).toList.all λi=>Nat.blt i n)=true→Q (sk lt t) s)→KasT.kasWp cmp t Q s
 |.ret p,h,q=>q h
 |.ask i j k,h,q=>by
  have h:(Nat.blt i n&&Nat.blt j n&&jn n (k true)&&jn n (k false))=true:=h;simp only[gJ] at h;refine hc i j _ (tK h.1.1.1) (tK h.1.1.2) ?_;show KasT.kasWp cmp (k (lt i j)) Q s;refine FM hc (k (lt i j)) ?_ q;cases lt i j with
  |true=>exact h.1.2
  |false=>exact h.2
noncomputable def Bo(h:Heap)(v:Value)(k:List Int):Prop:=∃a o xs n,v=.ref a∧h.get? a=some o∧o.cls=.type "tuple"∧o.data=.seq xs n∧IntsAre xs.toList k∧k≠[]
theorem Qf{fin:Bool}{Q:Bool→Shared→Prop}{xs ys:List Value}{k l:List Int}{i:Nat}(hk:IntsAre xs k)(hl:IntsAre ys l)(hf:fin=decide (k.length<l.length))(q:Q (nZ k l) s):KatLex pw w A true fin Q (xs.zip ys) i s:=by
 induction hk generalizing ys l i with
 |nil=>
  refine kat_nil ?_;cases hl with
  |nil=>rw[hf];exact q
  |cons m t r=>rw[hf];exact q
 |cons n t r ih=>
  cases hl with
  |nil=>refine kat_nil ?_;rw[hf];exact q
  |cons m u r'=>
   refine kat_cons (wpAny_eqBool_int ?_);by_cases e:n=m
   ·subst e;rw[show(n==n)=true from eQ n];refine kat_yes (ih r' ?_ ?_)
    ·rw[hf];simp only[bV,Nat.add_lt_add_iff_right]
    ·have q:Q (cond (decide (n=n)) (nZ _ _) (decide (n<n))) s:=q;rw[cD rfl] at q;exact q
   ·rw[show(n==m)=false from beq_eq_false_iff_ne.mpr e];refine kat_no ?_;have q:Q (cond (decide (n=m)) (nZ _ _) (decide (n<m))) s:=q;rw[bW e] at q;have q:Q (decide (n<m)) s:=q;cases i with
    |zero=>exact oneLt_int q
    |succ i=>exact kat_one _ _ (P.lt_int q)
end
end
section
open PySem.SeqAt
abbrev Kq(L:Addr)(h h':Heap):Prop:=∀b o,b≠L→h.get? b=some o→h'.get? b=some o
noncomputable def r7(h:Heap)(L:Addr):List (Addr×Obj):=(List.range h.objs.size).filterMap λb=>if b=L then none else(h.get? b).map λo=>(b,o)
theorem zt{h:Heap}{L b:Addr}{o:Obj}(n:b≠L)(e:h.get? b=some o):(b,o)∈r7 h L:=List.mem_filterMap.mpr ⟨b,List.mem_range.mpr (b9 e),by rw[bQ n,e];rfl⟩
theorem zu{h:Heap}{L:Addr}{p:Addr×Obj}(m:p∈r7 h L):p.1≠L∧h.get? p.1=some p.2:=by
 obtain⟨b,_,e⟩:=List.mem_filterMap.mp m;by_cases c:b=L
 ·rw[bF c] at e;cases e
 ·rw[bQ c] at e;cases q:h.get? b with
  |none=>rw[q] at e;cases e
  |some o=>rw[q] at e;cases e;exact⟨c,q⟩
noncomputable def uT(h:Heap):Heap:={h with objs:= #[]}
theorem y9(h:Heap)(a:Addr):(uT h).get? a=none:=Iu (f9 _)
section
variable{w:World}{A:Around}{E:Value→Shared→Prop}{s:Shared}{h₀:Heap}{L a kS:Addr}{m:Str→Option Value}{old:List (Addr×Obj)}{ks vs:List Value}{e e1:Nat}
theorem C2{out:List Value}{C:Shared→Prop}(F:Fr h₀ L s.heap m)(N:News h₀ L s.heap ((kS,seqObj "list" (List.toArray ks) e)::(a,seqObj "list" #[] e1)::old))(hak:a<kS)(ho:∀q∈old,q.1<a)
  (h:∀h' c,Fr h₀ L h' m→News h₀ L h' ((a,PySem.W.listOf (List.toArray out) c)::old)→C {s with heap:=h'}):KatFin h₀ L m kS a ks e e1 out C s:=by
 refine KatFin.intro F N (.head λp hp=>?_) λh1 c F1 N1=>KasFin.intro F1 N1 (.tail (mX hak) (.head λp hp=>c9 (ho p hp))) λh2 c2 F2 N2=>h h2 c2 F2 λp hp=>N2 p (.tail _ hp);rcases List.mem_cons.mp hp with rfl|hp
 ·exact c9 hak
 ·exact c9 (ja (ho p hp) hak)
theorem Pf{lam:Value}{Fin:List Value→Nat→Shared→Prop}(hak:a<kS)(ho:∀q∈old,q.1<a):∀{vs xs ks:List Value}{e:Nat}{s:Shared},vs.length=xs.length→
  (∀(j:Nat)(v x:Value)(h':Heap)(tk:Tok),vs[j]? =some v→xs[j]? =some x→News h₀ L h' old→wpAny (model pw w) A (call lam [v]) (λy s''=>y=x∧∃h'' tk',s''={s with heap:=h'',toks:=tk'}∧Kp h' h'') (λ_ _=>False) {s with heap:=h',toks:=tk})→
  Fr h₀ L s.heap m→News h₀ L s.heap ((kS,seqObj "list" (List.toArray ks) e)::(a,seqObj "list" #[] e1)::old)→
  (∀h' tk e',Fr h₀ L h' m→News h₀ L h' ((kS,seqObj "list" (List.toArray (ks++xs)) e')::(a,seqObj "list" #[] e1)::old)→Fin (ks++xs) e' {s with heap:=h',toks:=tk})→
  KatKeys pw w A h₀ L m kS lam Fin vs ks e s:=by
 intro vs xs ks e s hl hc F N hF;induction vs generalizing xs ks e s with
 |nil=>
  cases xs with
  |cons _ _=>exact nomatch hl
  |nil=>refine KatKeys.nil ?_;have:=hF s.heap s.toks e F (by rw[eK];exact N);rw[eK] at this;exact this
 |cons v vs ih=>
  cases xs with
  |nil=>exact nomatch hl
  |cons x xs=>
  refine KatKeys.cons (dZ (hc 0 v x s.heap s.toks rfl rfl λp hp=>N p (.tail _ (.tail _ hp))) (λy s' hy=>?_) λ_ _ x=>x);obtain⟨rfl,h',tk,rfl,k⟩:=hy;refine KatBack.intro (F.kept k) (N.grown k) (.head λp hp=>?_) λh2 c F2 N2=>?_
  ·rcases List.mem_cons.mp hp with rfl|hp
   ·exact c9 hak
   ·exact c9 (ja (ho p hp) hak)
  ·refine ih (s:={s with heap:=h2,toks:=tk}) (by simpa using hl) (λj v x h' tk' hv hx hn=>hc (j+1) v x h' tk' hv hx hn) F2 N2 λh3 tk3 e3 F3 N3=>?_;rw[hJ] at N3⊢;exact hF h3 tk3 e3 F3 N3
theorem K5{P:PySem.Fin→Shared→Prop}(hl:ks.length=vs.length)(h1:vs.length<2)(h:KatFin h₀ L m kS a ks e e1 vs (λs'=>P (.done (.ret .none)) s') s):wpAny (model pw w) A (ksk_end a false vs.toArray e1 (.ref kS) (List.toArray ks)) P E s:=by
 unfold ksk_end;have hn:vs.toArray.size<2:=by rw[bM];exact h1
 dsimp only;rw[bQ (by decide),bF hn,bF hn];refine ah (aQ ?_);rw[StateT.run_pure];refine ah (aQ ?_);rw[bQ (by decide)];refine kat_tail (b:=false) (out:=vs) (st:=SortSt.mk' general' ((List.toArray ks).zip vs.toArray) #[] 7 none) ?_ (by omega) (by omega) rfl h;show((List.toArray ks).zip vs.toArray).map (·.2)=_;apply Array.toList_inj.mp;rw[Array.toList_map,ksk_zip];show(ks.zip vs).map Prod.snd=vs;exact List.map_snd_zip (by omega)
end
end
section
open PySem.SeqAt
inductive fJ(h:Heap):List Value→List (List Int)→Prop
 |nil:fJ h [] []
 |cons {v k vs ks}:Bo h v k→fJ h vs ks→fJ h (v::vs) (k::ks)
theorem fJ.at{h h':Heap}{L:Addr}{m:Str→Option Value}(hL:h.Ns L m)(e:Kq L h h'):∀{vs ks},fJ h vs ks→fJ h' vs ks
 |_,_,.nil=>.nil
 |_,_,.cons t r=>by obtain⟨a,o,xs,n,h1,h2,h3,h4,r5⟩:=t;refine .cons ⟨a,o,xs,n,h1,e _ _ (λz=>?_) h2,h3,h4,r5⟩ (r.at hL e);obtain⟨o',es,ep,g1,g2,_⟩:=hL;rw[←z,h2] at g1;cases g1;rw[h4] at g2;cases g2
theorem fJ.len{h:Heap}:∀{vs ks},fJ h vs ks→vs.length=ks.length
 |_,_,.nil=>rfl
 |_,_,.cons _ r=>congrArg (·+1) r.len
theorem fJ.get{h:Heap}:∀{vs ks}{i:Nat},fJ h vs ks→i<vs.length→Bo h (vs.getD i Value.none) (ks.getD i []):=λ{vs ks i} t=>by
 induction t generalizing i with
 |nil=>exactλhi=>nomatch hi
 |cons t r ih=>cases i with
  |zero=>exactλ_=>t
  |succ i=>exactλhi=>ih (ko hi)
theorem fJ.firsts{h:Heap}:∀{vs ks},fJ h vs ks→∃fs,KatTups h vs fs∧fs.length=vs.length∧∀f∈fs,∃n t,f=Value.int n t
 |_,_,.nil=>⟨[],KatTups.nil,rfl,λ_ m=>nomatch m⟩
 |_,_,.cons t r=>by
  obtain⟨fs,h1,h2,h3⟩:=r.firsts;obtain⟨a,o,xs,n,rfl,e,c,d,hi,ne⟩:=t;generalize hl:xs.toList=l at hi;cases hi with
  |nil=>exact(ne rfl).elim
  |cons i t r=>
   refine⟨.int i t::fs,KatTups.cons e c d ?_ h1,congrArg (·+1) h2,λf m=>?_⟩
   ·rw[←Av,hl];rfl
   ·rcases List.mem_cons.mp m with rfl|m
    ·exact⟨_,_,rfl⟩
    ·exact h3 f m
theorem DO{w:World}:∀{vs:List Value}{kvs:List (Int×Value)},vs.length=kvs.length→(∀(j:Nat)(v:Value),vs[j]? =some v→∃k x,kvs[j]? =some (k,x)∧(intKind pw w).is k v=true)→IntsAre vs (kvs.map (·.1))
 |[],[],_,_=>.nil
 |[],_::_,hl,_=>nomatch hl
 |_::_,[],hl,_=>nomatch hl
 |v::vs,q::kvs,hl,h=>by obtain⟨k,x,e,hk⟩:=h 0 v rfl;obtain⟨t,rfl⟩:=Bp hk;cases e;exact .cons _ _ (DO (w:=w) (by simpa using hl) λj v e=>h (j+1) v e)
theorem DN:∀{vs:List Value}{is:List Int}{i:Nat},IntsAre vs is→i<vs.length→∃t,vs.getD i Value.none=.int (is.getD i 0) t
 |_,_,_,.nil,hi=>nomatch hi
 |_,_,0,.cons n t _,_=>⟨t,rfl⟩
 |_,_,i+1,.cons _ _ r,hi=>DN (i:=i) r (ko hi)
theorem yv{vs:List Value}{is:List Int}(hi:IntsAre vs is):∀{p:List Nat},(p.all λi=>Nat.blt i vs.length)=true→IntsAre (p.map λi=>vs.getD i Value.none) (p.map λj=>is.getD j 0)
 |[],_=>.nil
 |i::p,h=>by simp only[AL,gJ] at h;obtain⟨t,e⟩:=DN hi (tK h.1);rw[gM,gM,e];exact .cons _ _ (yv hi h.2)
section
variable{w:World}{A:Around}{E:Value→Shared→Prop}{s:Shared}{h₀:Heap}{L a kS:Addr}{m:Str→Option Value}{old:List (Addr×Obj)}{ks vs:List Value}{e e1:Nat}
theorem S8{f:Value}{P:PySem.Fin→Shared→Prop}{Fin:List Value→Nat→Shared→Prop}(hk:s.heap.get? kS=some (seqObj "list" #[] 0))(h64:vs.length<64)(h:KatKeys pw w A h₀ L m kS f Fin vs [] 0 s)
  (hF:∀ks e s',s'.heap.get? kS=some (seqObj "list" (List.toArray ks) e)→ks.length=vs.length→Fin ks e s'→wpAny (model pw w) A (ksk_end a false vs.toArray e1 (.ref kS) (List.toArray ks)) P E s'):wpAny (model pw w) A (ksk_rest a f false vs.toArray e1 (.ref kS)) P E s:=by
 unfold ksk_rest;refine ah (sN ?_);rw[←Array.forIn_toList];refine ah (dZ (kat_fold h64 (λx ks e s' C hz hx=>?_) vs [] 0 s (by simp) hk h) (λ_ s' hd=>?_) λ_ _ x=>x)
 ·refine ah (wpAny_attempt (dZ hx (λk s2 hk=>?_) λ_ _ x=>x.elim));obtain⟨nw,g,F',N',U,c⟩:=hk;obtain⟨pO,post,e0,hg,x1,x2⟩:=U.split;rw[e0] at N';have nk:=N' (kS,seqObj "list" (List.toArray ks) e) (IB _ (.head _));have s1:=mT s2.heap kS (Obj.mapSeq (·.push k));obtain⟨c2,hc2⟩:∃c2,(s2.heap.update kS (Obj.mapSeq (·.push k))).get? kS=some (seqObj "list" (List.toArray (ks++[k])) c2):=⟨_,by rw[show List.toArray (ks++[k])=(List.toArray ks).push k by simp];exact get?_update_seq nk.1 (·.push k)⟩;dsimp only;refine ah (listUpdate_at nk.1 rfl ?_ (by rw[bM,lH];omega) (by rw[Array.size_push,bM,lH];omega));exact aQ ⟨rfl,k,c2,hc2,c _ c2 (kas_fr F' s1 nk.2.1 nk.2.2) (by rw[hg];exact news_set N' x1 x2 s1 hc2)⟩
 ·obtain⟨ks,e,hk',hl,fin⟩:=hd;exact ah (listItems_at hk' rfl (hF ks e s' hk' hl fin))
theorem Vv{f:Value}{n:Nat}{P:PySem.Fin→Shared→Prop}(F:Fr h₀ L s.heap m)(N:News h₀ L s.heap old)(ho:s.heap.get? a=some (seqObj "list" vs.toArray n))(haL:a≠L)(ha0:h₀.get? a=none)(hna:∀p∈old,p.1<a)(h64:vs.length<64)
  (h:∀kS e1 h',Fr h₀ L h' m→News h₀ L h' ((kS,seqObj "list" #[] 0)::(a,seqObj "list" #[] e1)::old)→a<kS→wpAny (model pw w) A (ksk_rest a f false vs.toArray e1 (.ref kS)) P E {s with heap:=h'}):wpAny (model pw w) A (ksk_tree a f false) P E s:=by
 have ha:=b9 ho;have s1:=mT s.heap a (Obj.mapSeq λ_=>(#[]:Array Value));obtain⟨e1,ho1⟩:∃e1,(s.heap.update a (Obj.mapSeq λ_=>(#[]:Array Value))).get? a=some (seqObj "list" #[] e1):=⟨_,get?_update_seq ho λ_=> #[]⟩;have F1:=kas_fr F s1 haL ha0;have N1:=kas_news N s1 λp hp=>c9 (hna p hp);have F2:=F1.push (seqObj "tuple" vs.toArray 0);have hkS:((s.heap.update a (Obj.mapSeq λ_=>(#[]:Array Value))).push (seqObj "tuple" vs.toArray 0)).objs.size=s.heap.objs.size+1:=by rw[dk,wg]
 unfold ksk_tree;refine ah (listItems_at ho rfl ?_);refine ah (listUpdate_at ho rfl ?_ (by rw[bM,lH];omega) (f9 _));refine ah (seqEpoch_at ho1 rfl ?_);refine ah (wpAny_newTuple ?_ (by show vs.length≤_;rw[lH];omega));refine ah (wpAny_newList ?_ (f9 _));refine fZ (h _ e1 _ (F2.push _) (λp hp=>?_) (by rw[hkS];exact jG ha));rcases List.mem_cons.mp hp with rfl|hp
 ·exact⟨ej _ rfl,mX F2.ns.lt,Iu (aJ F.above (f8 F2.ns.lt))⟩
 ·rcases List.mem_cons.mp hp with rfl|hp
  ·exact⟨bc _ (bc _ ho1),haL,ha0⟩
  ·exact⟨bc _ (bc _ (N1 p hp).1),(N1 p hp).2⟩
end
end
section
open PySem.SeqAt
section
variable{w:World}{A:Around}{E:Value→Shared→Prop}{s:Shared}
noncomputable def It(h₀:Heap)(L kS a:Addr)(m:Str→Option Value)(old:List (Addr×Obj))(xs:List Value)(e1:Nat)(s:Shared)(ks:List Value)(e:Nat)(s':Shared):Prop:=ks=xs∧Fr h₀ L s'.heap m∧News h₀ L s'.heap ((kS,seqObj "list" (List.toArray xs) e)::(a,seqObj "list" #[] e1)::old)∧∃h tk,s'={s with heap:=h,toks:=tk}
theorem Us{h₀:Heap}{L kS a:Addr}{m:Str→Option Value}{old:List (Addr×Obj)}{vs xs:List Value}{is:List Int}{ks:List (List Int)}{e e1:Nat}{P:PySem.Fin→Shared→Prop}(hi:IntsAre vs is)(hx:fJ s.heap xs ks)(hl:xs.length=vs.length)(h6:vs.length≤6)(hak:a<kS)(ho:∀q∈old,q.1<a)
  (F:Fr h₀ L s.heap m)(N:News h₀ L s.heap ((kS,seqObj "list" (List.toArray xs) e)::(a,seqObj "list" #[] e1)::old))
  (h:∀h' c us,Fr h₀ L h' m→News h₀ L h' ((a,PySem.W.listOf (List.toArray us) c)::old)→IntsAre us ((gB ks).map λj=>is.getD j 0)→P (.done (.ret .none)) {s with heap:=h'}):
  wpAny (model pw w) A (ksk_end a false vs.toArray e1 (.ref kS) (List.toArray xs)) P E s:=by
 have hkl:ks.length=vs.length:=hx.len.symm.trans hl;by_cases h2:2≤vs.length
 ·refine kat_end (h₀:=h₀) (L:=L) (m:=m) (e:=e) (b:=false) hl h2 (by omega) ?_;obtain⟨fs,t1,t2,t3⟩:=hx.firsts;refine kat_kind (T:=.type "int") t1 (by omega) (λv m=>?_) rfl ?_
  ·obtain⟨n,t,rfl⟩:=t3 v m;exact Looks.now
  ·have hp:gB ks=(sk (λi j=>nZ (ks.getD i []) (ks.getD j [])) (kas_sort vs.length)).toList:=by
    unfold gB;rw[show Nat.blt ks.length 2=false by
     cases q:Nat.blt ks.length 2 with
     |false=>rfl
     |true=>have:=tK q;omega,hkl]
    rfl
   refine FM (n:=vs.length) (lt:=λi j=>nZ (ks.getD i []) (ks.getD j [])) (λi j C hi hj hC=>?_) (kas_sort vs.length) (Rp h2 h6) λhr=>?_
   ·obtain⟨ax,ox,xsx,nx,ex,g1,g2,g3,g4,g5⟩:=hx.get (i:=i) (by omega);obtain⟨ay,oy,xsy,ny,ey,f1,f2,f3,f4,f5⟩:=hx.get (i:=j) (by omega);show wpAny (model pw w) A (keyLt' _ ((katRev false xs).getD i Value.none) ((katRev false xs).getD j Value.none)) C (λ_ _=>False) s;rw[show katRev false xs=xs from rfl,ex,ey];have l1:=g4.length;have l2:=f4.length;rw[Aw] at l1 l2;exact kat_lt g1 g3 f1 f3 (Qf g4 f4 (by rw[l1,l2]) hC)
   ·refine C2 F N hak ho λh' c F' N'=>h h' c _ F' N' ?_;rw[hp];exact yv hi hr
 ·have hp:gB ks=List.range vs.length:=by unfold gB;rw[show Nat.blt ks.length 2=true from f6 (show ks.length+1≤2 by omega),hkl];rfl
  refine K5 hl (by omega) (C2 F N hak ho λh' c F' N'=>h h' c vs F' N' ?_);rw[hp];have e:=yv hi (p:=List.range vs.length) (List.all_eq_true.mpr λi q=>f6 (List.mem_range.mp q));rw[show(List.range vs.length).map (λi=>vs.getD i Value.none)=vs by
   rcases vs with _|⟨x,_|⟨y,r⟩⟩
   ·rfl
   ·rfl
   ·exact(h2 (by simp)).elim] at e
  exact e
theorem Ut{L D:Addr}{lam:Addr}{m:Str→Option Value}{kvs:List (Int×Value)}{ks:List (List Int)}{Q:Value→Shared→Prop}(hh:A.handled=none)(hL:s.heap.Ns L m)(hd:s.heap.DictOf (intKind pw w) D kvs)(lo:(D==sysModules)=false)(h6:kvs.length≤6)(hx:fJ s.heap (kvs.map (·.2)) ks)
  (hcall:∀k x v h' tk,(k,x)∈kvs→(intKind pw w).is k v=true→Kq L s.heap h'→wpAny (model pw w) A.in1.in1 (call (.ref lam) [v]) (λy s''=>y=x∧∃h'' tk',s''={s with heap:=h'',toks:=tk'}∧Kp h' h'') (λ_ _=>False) {s with heap:=h',toks:=tk})
  (hQ:∀D' h' tk us c,Kq L s.heap h'→s.heap.objs.size≤D'→h'.get? D'=some (PySem.W.listOf (List.toArray us) c)→IntsAre us ((gB ks).map λj=>(kvs.map (·.1)).getD j 0)→Q (.ref D') {s with heap:=h',toks:=tk}):
  wpAny (model pw w) A (call (.builtin "sorted") [.ref D] [(Str.ofString "key",.ref lam)]) Q E s:=by
 obtain⟨ep,hd⟩:=hd.dictAt;refine call_function_entry_kw kind_sorted plain_sorted entry_sorted (ksk_s1 _ _) ?_;unfold Builtin.«sorted»;refine ah (m:=checkCount "sorted" 1 1 _) (aQ ?_);refine ah (gE (Ku hh hd lo (by rw[lH];omega) λh1 tk1 vs k1 hl hv sz1=>?_));have hi:=DO hl hv;refine ah (wpAny_newList ?_ (by rw[lH];omega));let h2:=h1.push (seqObj "list" vs.toArray 0);have k2:Kp s.heap h2:=λb o e=>bc _ (k1 b o e);have sz1:s.heap.objs.size≤h1.objs.size:=sz1;let xs:List Value:=kvs.map λq=>q.2;have hoL:h2.get? h1.objs.size=some (seqObj "list" vs.toArray 0):=ej _ rfl;have hLs:L<s.heap.objs.size:=hL.lt;have N0:News (uT s.heap) L h2 (r7 s.heap L):=λp hp=>⟨k2 _ _ (zu hp).2,(zu hp).1,y9 _ _⟩;have F0:Fr (uT s.heap) L h2 m:=⟨hL.keeps k2,λb o e=>(by rw[y9] at e;cases e),f9 _⟩;refine ah (fZ (wpAny_call_entry_kw slot_list_sort ⟨_,hoL,rfl⟩ entry_list_sort ?body (ksk_l1 _ _)));show wpAny (model pw w) A.in1.in1 (Builtin.«list.sort» ⟨[.ref h1.objs.size],[(Str.ofString "key",.ref lam)]⟩) _ _ {s with heap:=h2,toks:=tk1};rw[ksk_t1];have ao:∀p∈r7 s.heap L,p.1<h1.objs.size:=λp hp=>dK (b9 (zu hp).2) sz1;refine Vv F0 N0 hoL (mX (dK hLs sz1)) (y9 _ _) ao (by omega) λkS e1 h3 F3 N3 hak=>?_;refine S8 (Fin:=It (uT s.heap) L kS h1.objs.size m (r7 s.heap L) xs e1 s) (N3 _ (.head _)).1 (by omega) (Pf hak ao (xs:=xs) (by rw[hl];exact(aU ..).symm) (λj v x h' tk hv' hx' hn=>?_) F3 N3 λh' tk e' F' N'=>⟨ww _,F',N',h',tk,rfl⟩) λks' e' s' hk' hl' hf=>?_
 ·obtain⟨k,x',e,hk⟩:=hv j v hv';have hx':(kvs.map λq=>q.2)[j]? =some x:=hx';rw[oS,e] at hx';cases hx';exact hcall k x' v h' tk (AS e) hk λb o n e=>(hn (b,o) (zt n e)).1
 ·obtain⟨rfl,F',N',h',tk',rfl⟩:=hf;have kq:Kq L s.heap h':=λb o n e=>(N' (b,o) (.tail _ (.tail _ (zt n e)))).1;refine Us hi (hx.at hL kq) hl' (by omega) hak ao F' N' λh4 c us F4 N4 hu=>?_;refine⟨_,rfl,aQ ⟨_,rfl,?_⟩⟩;exact hQ _ h4 tk' us c (λb o n e=>(N4 (b,o) (.tail _ (zt n e))).1) sz1 (N4 _ (.head _)).1 hu
end
end
section
open PySem.SeqAt
noncomputable def kK(mk mv:Fm RV):List Int→List RV→Fm (List RV)
 |[],acc=>aI acc
 |i::r,acc=>λst=>(mk ⟨dY st.loc [0] [.v (.int i)],st.H⟩).bind λa eH=>aK (decide (bJ eO a=some i)) (λeH=>(mv eH).bind λy dC=>kK mk mv r (acc++[y]) dC) eH
theorem UC{kvs:List (Int×Value)}{k:Int}{v:Value}(h:k∉kvs.map (·.1)):stored kvs k v=kvs++[(k,v)]:=by
 unfold stored;rw[bQ];simp only[List.any_eq_true,tX,not_exists,not_and]
 exactλq m e=>h (List.mem_map.mpr ⟨q,m,e⟩)
inductive i7(w:World)(X:Addr→Prop)(D:Addr)(q:Pt)(ks:List Int)(acc:List RV):Prop
 |mk {kvs:List (Int×Value)}:q.h.DictOf (intKind pw w) D kvs→kvs.map (·.1)=ks→a9 w.params q.h (HA X q.M q.σ.H) q.M (kvs.map (·.2)) acc→i7 w X D q ks acc
theorem i7.up{w:World}{X X':Addr→Prop}{D:Addr}{q q':Pt}{ks:List Int}{acc:List RV}(d:i7 w X D q ks acc)(k:∀o,q.h.get? D=some o→q'.h.get? D=some o)(u:Up q.h (HA X q.M q.σ.H) q'.h (HA X' q'.M q'.σ.H))(m:e8 q.M q'.M):i7 w X' D q' ks acc:=i7.rec (motive:=λ_=>i7 w X' D q' ks acc) (λa b c=>.mk (a.at k) b (a9.up u m c)) d
inductive AC(cx:Cx)(sl:List Str)(W V:Addr→Prop)(p:Pt)(fp:List Addr)(Sv:Nat→Heap→Prop)(D:Addr)(s:Shared)(mk mv:Fm RV)(is:List Int)(G:List RV→St→Prop):Nat→Shared→Prop
 |mk {q:Pt} {tk:Tok} {i:Nat} {acc:List RV}:Lp cx sl W V p fp Sv is.length q i→i7 cx.w (cx.hidS W).X D q (is.take i) acc→bO (kK mk mv (is.drop i) acc q.σ) G→AC cx sl W V p fp Sv D s mk mv is G (is.length-i) (Sh s q.h tk)
section
variable{cx:Cx}{sl:List Str}{p:Pt}{A:Around}{s:Shared}{tk:Tok}{I D:Addr}{W:Addr→Prop}{fp wr:List Addr}{Sv:Nat→Heap→Prop}{is:List Int}{h0:Heap}{X:Addr→Prop}{M:Sp}{kx vx iter:Expr}{x:Str}{px pos:Pos}{scope:Scope}{mk mv:Fm RV}
theorem Pd{P:Params}{h:Heap}{X:Addr→Prop}{M:Sp}{w:World}{v:Value}{a:RV}{i:Int}(r:RR P h X M v a)(e:bJ eO a=some i):(intKind pw w).is i v=true:=by
 cases a with
 |v x=>exact VR.onInt (P:=P) (h:=h) (X:=X) (C:=λv=>(intKind pw w).is i v=true) (by
   cases x<;>first|(cases e;exact r)|cases e) λt=>eQ _
 |loc i=>cases e
theorem Qs(K0:bq cx)(hx:ae sl 0=some x)(hp:hY cx x)(hk:∀X1,aH (cx.st X1) sl (eval kx cx.env) mk)(hv:∀X1,aH (cx.st X1) sl (eval vx cx.env) mv){G:List RV→St→Prop}{R':Result→Shared→Prop}
  (ar:AR cx A)(L0:Lp cx sl W (λb=>b∈wr∨b=D) p fp Sv is.length p 0)(Wv:Wk cx.w A I fp wr h0 X M (is.map λi=>[.v (.int i)]) Sv (.Name x px) [(x,px)])(u0:Up h0 X p.h (HA (cx.hidS W).X p.M p.σ.H))(m0:e8 M p.M)
  (hwr:∀b∈wr,W b)(hWD:W D)(hDf:0<is.length→D∉fp)(hDw:D∉wr)(hD:p.h.DictOf (intKind pw cx.w) D [])(nd:is.Nodup)(h64:is.length≤64)(z:bO (kK mk mv is [] p.σ) G)
  (hR:∀(q:Pt)(tk:Tok)(acc:List RV),SR (cx.hidS W) sl q→gn cx W q.h q.M q.σ.H→HX (λb=>cx.T0 b∨(b∈wr∨b=D)) p.h p.M p.σ.H q.h q.M q.σ.H→i7 cx.w (cx.hidS W).X D q is acc→G acc q.σ→R' (.ok .next) (Sh s q.h tk)):
  codeAny (model pw cx.w) A (.compLoop (.DictComp kx vx [⟨.Name x px,iter,[],0⟩] scope pos) 0 (.ref I) (.ref D) cx.env) R' (Sh s p.h tk):=by
 have hV:∀b,(b∈wr∨b=D)→W b:=λb z=>z.elim (hwr b) λz=>z▸hWD;have KW:=K0.st (cx.hidS W).X0;have xl:(is.map λi=>[RV.v (.int i)]).length=is.length:=aU ..;refine codeAny_compLoop_testsD (AC cx sl W (λb=>b∈wr∨b=D) p fp Sv D s mk mv is G) (λm s' hI=>?_) is.length (.mk (i:=0) L0 (.mk hD rfl Z2.nil) z) (λ_=>rfl);cases hI with
 | @mk q tk i acc Lq Dq zq=>
  cases Wv with
  | @name _ _ Pv Wv hP=>
  rcases mW i is.length with c|c
  ·have hDf:=hDf (eX (f9 _) c);have f:=Lq.f c;have frame:=Wv.frame;refine gE (Wv.item i _ _ _ (by rw[xl];exact c) Lq.st λv h' tk' pv st' keep sz'=>?_);have S:=Lq.step (V':=λb=>b∈wr) (j:=i+1) hwr (λb=>.inl) (λb o nw e=>keep b o nw e) sz' st' c λ_=>c;obtain⟨y,hy,ry⟩:=hP i v pv
   have hy':RV.v (.int is[i])=y:=by rw[cJ,oS,oR c] at hy;exact(oQ (ak hy)).1
   subst hy';have ry':RR cx.w.params h' (HA (cx.hidS W).X q.M q.σ.H) q.M v (.v (.int is[i])):=RR.up (u0.trans ((iW hV Lq.e).trans (iW hwr S.2))) (λa b e=>Lq.e.sp a b (m0 a b e)) ry;refine HU (qb KW S.1.r hx hp ry' λh3 tk3 o3=>?_);have L3:=S.1.ext (f.up S.2) frame o3;have e3:=S.2.trans (o3.e.moreT λ_=>.inl);have D3:=Dq.up (q':=⟨h3,q.M,⟨bp q.σ.loc 0 (some (.v (.int is[i]))),q.σ.H⟩⟩) (λo e=>e3.keep D o e λz=>z.elim (λz=>z.elim (λz=>(Lq.w D hWD).nF (.inl z)) hDw) λz=>z.elim (Lq.w D hWD).nA (Lq.w D hWD).nL) (iW hwr e3) (λ_ _ e=>e);refine wpAny_tests_nil ?_;rw[bF rfl];rw[Ix c] at zq;have zq:bO ((mk ⟨bp q.σ.loc 0 (some (.v (.int is[i]))),q.σ.H⟩).bind λa eH=>aK (decide (bJ eO a=some is[i])) (λeH=>(mv eH).bind λy dC=>kK mk mv (is.drop (i+1)) (acc++[y]) dC) eH) G:=zq;refine hk (cx.hidS W).X0 _ A s tk3 _ _ ⟨ar.rm,ar.fr⟩ L3.r (zq.bd.res λka a h4 M4 σ4 tk4 o4 ra z4=>?_);have z4:=z4.gd;refine hv (cx.hidS W).X0 ⟨h4,M4,σ4⟩ A s tk4 _ _ ⟨ar.rm,ar.fr⟩ o4.r (z4.2.bd.res λva y h5 M5 σ5 tk5 o5 ry z5=>?_);have o45:=o5.tr o4.e;have L5:=L3.ext ((f.up S.2).up o3.e) frame o45;have D5:=D3.up (q':=⟨h5,M5,σ5⟩) (λo e=>o45.e.keep D o e (L3.w D hWD).nT) (c8.av o45.e) o45.e.sp;have ra:(intKind pw cx.w).is is[i] ka=true:=Pd ra (zr z4.1);cases D5 with
   | @mk kvs d5 ek r5=>
    have kl:kvs.length=i:=by have:=congrArg List.length ek;rw[aU,tm] at this;omega
    have hnew:is[i]∉kvs.map (·.1):=by rw[ek];intro m;obtain⟨j,hj,e⟩:=List.mem_take_iff_getElem.mp m;exact List.pairwise_iff_getElem.mp nd j i (by omega) c (by omega) e
    refine wpAny_dictSet_pairs (hsz:=by rw[kl];unfold sizeLine;omega) ra d5 λh6 hl6 hsb=>?_;rw[UC hnew] at hl6;have S6:=L5.step (V':=λb=>b=D) (h':=h6) (j:=i+1) (λb z=>z▸hWD) (λb z=>.inr z) (λb o nw e=>fW hsb nw e) (f7 hsb.1.symm) (frame _ _ _ L5.st λb hb o e=>fW hsb (λz=>hDf (z▸hb)) e) L5.le id;exact⟨_,A8 c (eN i),.mk (q:=⟨h6,M5,σ5⟩) S6.1 (.mk hl6 (by rw[eL,ek,gM,oU,List.take_succ_eq_append_getElem c]) (by rw[eL];exact a9.up (iW (λb z=>z▸hWD) S6.2) (λ_ _ e=>e) (Z2.append r5 (.cons ry .nil)))) z5⟩
  ·cases tA Lq.le c;refine gE (Wv.done _ _ _ (by rw[xl];exact Lq.st) λh' tk' keep sz'=>?_);have S:=Lq.r.stepS Lq.w (V:=(·∈wr)) (h':=h') hwr (λb o nw e=>keep b o nw e) sz';rw[wo] at zq;rw[AX] at Dq;exact hR ⟨h',q.M,q.σ⟩ tk' acc S.2 (Lq.w.up S.1) (Lq.e.trans (S.1.moreT λb z=>z.imp id .inl)) (Dq.up (λo e=>keep D o hDw e) (iW hwr S.1) λ_ _ e=>e) zq
end
end
section
open PySem.SeqAt
section
variable{cx:Cx}{sl:List Str}{p:Pt}{A:Around}{s:Shared}{tk:Tok}{kx vx i0:Expr}{x:Str}{px pos:Pos}{scope:Scope}{cl:List (Str×Addr)}{caps:List Nat}{names:List Str}{mk mv:Fm RV}{is:List Int}
structure Ir(cx:Cx)(sl:List Str)(p q:Pt)(C D:Addr)(is:List Int)(acc:List RV):Prop where
 sr:SR (cx.hidS (Is C)) sl q
 w:WO cx q.h q.M q.σ.H C
 e:c8 cx p q
 le:p.h.objs.size≤C
 ns:∃m,q.h.Ns C m
 nD:¬HA (cx.hidS (Is C)).X q.M q.σ.H D
 lD:p.h.objs.size≤D
 d:i7 cx.w (cx.hidS (Is C)).X D q is acc
theorem KP(K0:bq cx)(CO:jA cx sl scope cl [x] caps names)(hk:∀C X1,aH ((eB cx C (compEnvC scope cl C cx.env)).st X1) ([x]++names) (eval kx (compEnvC scope cl C cx.env)) mk)(hv:∀C X1,aH ((eB cx C (compEnvC scope cl C cx.env)).st X1) ([x]++names) (eval vx (compEnvC scope cl C cx.env)) mv)
  (hp:∀C,hY (eB cx C (compEnvC scope cl C cx.env)) x){E:Value→Shared→Prop}(ar:AR cx A)(R:SR cx sl p){I:Addr}{h0:Heap}{fp wr:List Addr}{Sv:Nat→Heap→Prop}(S:mZ cx p A I h0 (is.map λi=>[.v (.int i)]) (.Name x px) [(x,px)] fp wr Sv)(nd:is.Nodup)(h64:is.length≤64)
  {G:List RV→List ac→Prop}(z:bO (kK mk mv is [] ⟨none::d9 p.σ.loc caps,p.σ.H⟩) λacc σ=>G acc σ.H){RR':Value→Addr→Result→Shared→Prop}
  (hR:∀(h':Heap)(M':Sp)(H':List ac)(C D:Addr)(tk:Tok)(acc:List RV),Ir cx sl p ⟨h',M',⟨p.σ.loc,H'⟩⟩ C D is acc→G acc H'→RR' (.ref D) C (.ok .next) (Sh s h' tk)):
  wpAny (model pw cx.w) A newDict (λacc s₃=>wpAny (model pw cx.w) A (newFunctionEnv scope cx.env.globals cl [] cx.env.qual none .none (some cx.env)) (λcenv s₄=>codeAny (model pw cx.w) A (.compStart (.DictComp kx vx [⟨.Name x px,i0,[],0⟩] scope pos) 0 (.ref I) acc {cenv with scope:=relabel scope cx.env}) (RR' acc cenv.locals) s₄) E s₃) E (Sh s h0 tk):=by
 have xl:(is.map λi=>[RV.v (.int i)]).length=is.length:=aU ..;refine sM (Ap CO.noCell (λy hy=>nomatch hy) (λh1 hns hsb=>?_) CO.kind);dsimp only at hns hsb⊢;have D3:(h0.push {cls:=.type "dict",dict:=none,data:=.dict #[]}).DictOf (intKind pw cx.w) h0.objs.size []:=Heap.DictOf.new h0;have z3:(h0.push {cls:=.type "dict",dict:=none,data:=.dict #[]}).objs.size=h0.objs.size+1:=dk ..;have k2:∀b o',h0.get? b=some o'→(h0.push {cls:=.type "dict",dict:=none,data:=.dict #[]}).get? b=some o':=λb o' e=>bc _ e;generalize h0.push {cls:=.type "dict",dict:=none,data:=.dict #[]}=H3 at hns hsb D3 z3 k2⊢;have z1:h1.objs.size=H3.objs.size+1:=hsb.1.trans (dk ..);have k1:∀b o',H3.get? b=some o'→h1.get? b=some o':=λb o' e=>hsb.extBut b o' (c9 (b9 e)) (bc _ e);have sz3:p.h.objs.size≤H3.objs.size:=by rw[z3];exact A4 S.sz
 have hC:H3.objs.size≤H3.objs.size∧H3.objs.size<h1.objs.size:=⟨bw _,by rw[z1];exact eN _⟩;have sz31:H3.objs.size≤h1.objs.size:=f8 hC.2;have k3:∀b o',p.h.get? b=some o'→H3.get? b=some o':=λb o' e=>k2 b o' (S.k1 b o' e)
 have hW:∀b,(b∈wr∨b=h0.objs.size)→p.h.objs.size≤b∧b<H3.objs.size:=λb w=>by rw[z3];exact w.elim (λw=>⟨(S.hW b w).1,jG (S.hW b w).2⟩) λw=>by rw[w];exact⟨S.sz,eN _⟩
 have H:=R.hideS (W:=λb=>b∈wr∨b=h0.objs.size) k3 sz3 hW;have lcap:(gy 1 (d9 p.σ.loc caps)).length=([x]++names).length:=by rw[za,xf,CO.len,el];rfl
 have J:=SR.inner (C:=H3.objs.size) (env':=compEnvC scope cl H3.objs.size cx.env) (sl':=[x]++names) (loc':=none::d9 p.σ.loc caps) H.1 H.2.1 k1 sz31 hC hns rfl CO.cells CO.apart CO.dup lcap (λj y hy=>by obtain⟨lj,hy⟩:=zb (k:=1) hy;obtain⟨i,hi,hl⟩:=xg (is:=caps) hy;obtain⟨nme,hnm⟩:=jm (l:=names) (n:=j-1) (by rw[←CO.len];exact gh hi);obtain⟨c1,c2,⟨c,c3,c4⟩,c5⟩:=CO.cap _ i nme hi hnm;exact⟨nme,i,c,by rw[n9,bQ (Nat.not_lt.mpr (show [x].length≤j from lj))];exact hnm,c1,hl,c2,c3,c4,c5⟩)
 have eH:Sv 0 h1:=S.wk.frame _ _ _ S.st λb _ o' e=>k1 b o' (k2 b o' e);have lt0:h0.objs.size<H3.objs.size:=by rw[z3];exact eN _
 have loop:codeAny (model pw cx.w) A (.compLoop (.DictComp kx vx [⟨.Name x px,i0,[],0⟩] scope pos) 0 (.ref I) (.ref h0.objs.size) (compEnvC scope cl H3.objs.size cx.env)) (RR' (.ref h0.objs.size) H3.objs.size) (Sh s h1 (tk+([]:List (Str×Value)).length)):=by
  refine Qs (cx:=eB cx H3.objs.size (compEnvC scope cl H3.objs.size cx.env)) (p:=⟨h1,p.M,⟨none::d9 p.σ.loc caps,p.σ.H⟩⟩) (W:=λb=>b∈wr∨b=h0.objs.size) (sl:=[x]++names) (CO.inner K0 _) rfl (hp _) (hk _) (hv _) ⟨ar.rm,ar.fr⟩
   ⟨J.1,J.2.1,HX.refl,eH,λc b hb=>(S.hfp (by rw[xl];exact c) b hb).imp .inl λz=>⟨λt=>t.elim (λt=>absurd (ja z.2 lt0) (Nat.not_lt.mpr (f7 (show b=_ from t).symm))) λt=>t.elim (λt=>z.1 (.inr (.inl (.inl t)))) λt=>z.1 (.inr (.inr t)),ja z.2 (ja lt0 hC.2)⟩,f9 _⟩
   S.wk (H.2.2.trans J.2.2) (λ_ _ e=>e) (λb z=>.inl z) (.inr rfl) (λc z=>(S.hfp (by rw[xl];exact c) _ z).elim (λz=>absurd (S.hW _ z).2 (jF _)) λz=>absurd z.2 (jF _)) (λz=>absurd (S.hW _ z).2 (jF _)) (D3.at λo e=>k1 _ _ e) nd h64 z λq tk acc Rq wq e d g=>?_
  have O:=SR.outer H.1 H.2.1 k1 sz31 hC Rq e;have e':HX (λb=>b=H3.objs.size∨(b∈wr∨b=h0.objs.size)) h1 p.M p.σ.H q.h q.M q.σ.H:=e;exact hR q.h q.M q.σ.H H3.objs.size h0.objs.size tk acc ⟨O.1,O.2.1 _ rfl,e'.lessT (λb o e=>k1 b o (k3 b o e)) (aJ sz3 sz31) λb z=>.inr (z.elim (λz=>by rw[z];exact sz3) λz=>(hW b z).1),sz3,Rq.ns,
    (λz=>z.elim (λz=>z.elim (λz=>z.elim (λz=>R.toHR.new S.sz (.inl (.inl z))) (c9 lt0)) λz=>R.toHR.new S.sz (.inl (.inr z))) λz=>z.elim (λz=>R.toHR.new S.sz (.inr (.inl z))) (wq _ (.inr rfl)).nL),S.sz,d.up (q':=⟨q.h,q.M,⟨p.σ.loc,q.σ.H⟩⟩) (λ_ e=>e) O.2.2 λ_ _ e=>e⟩ g
 exact codeAny_compStart_dict loop (S.wk.self 0 _ _ _ eH loop)
theorem Tr(K0:bq cx){mu:Fm (List (List RV))}(CO:jA cx sl scope cl [x] caps names)(hf:∀v,foldedSetIterable i0 cx.env v=pure v)(hi:h8 cx sl i0 mu (.Name x px) [(x,px)])
  (hk:∀C X1,aH ((eB cx C (compEnvC scope cl C cx.env)).st X1) ([x]++names) (eval kx (compEnvC scope cl C cx.env)) mk)(hv:∀C X1,aH ((eB cx C (compEnvC scope cl C cx.env)).st X1) ([x]++names) (eval vx (compEnvC scope cl C cx.env)) mv)
  (hp:∀C,hY (eB cx C (compEnvC scope cl C cx.env)) x)(nd:is.Nodup)(h64:is.length≤64){Q E:Value→Shared→Prop}(ar:AR cx A)(R:SR cx sl p){G:List RV→List ac→Prop}
  (aw:mu p.σ=.ok (is.map λi=>[.v (.int i)]) p.σ)(z:bO (kK mk mv is [] ⟨none::d9 p.σ.loc caps,p.σ.H⟩) λacc σ=>G acc σ.H)
  (hQ:∀(D:Addr)(h':Heap)(M':Sp)(H':List ac)(tk:Tok)(acc:List RV),Ok cx sl p ⟨h',M',⟨p.σ.loc,H'⟩⟩→¬HA cx.X M' H' D→i7 cx.w cx.X D ⟨h',M',⟨p.σ.loc,H'⟩⟩ is acc→G acc H'→Q (.ref D) (Sh s h' tk)):
  wpAny (model pw cx.w) A (eval (.DictComp kx vx [⟨.Name x px,i0,[],0⟩] scope pos) cx.env) Q E (Sh s p.h tk):=by rw[arm_eval_DictComp];refine HW (use:=none) rfl hf CO.clos CO.kind CO.locs (hi p A s tk _ E ar R ?_);rw[aw];intro I h1 h' M' tk fp wr Sv o S;refine KP (p:=⟨h',M',p.σ⟩) (G:=G) K0 CO hk hv hp ar o.r S nd h64 z (RR':=λacc C=>compPost (model pw cx.w) A E none Q acc C) λh2 M2 H2 C D tk2 acc d g=>?_;refine d.ns.imp λm hn=>⟨hn,λh3 hsb=>?_⟩;have T:=d.sr.stepS (V:=Is C) (h':=h3) (λb(z:b=C)=>z▸d.w) (λ_ z=>z) (λb o nw z=>fW hsb nw z) (f7 hsb.1.symm);have U:=T.2.unhideS;have hDC:D≠C:=λz=>d.nD (.inl (.inl (.inr z)));exact hQ D h3 M2 H2 tk2 acc (Ok.tr o.e ⟨zs (q:=⟨h2,M2,⟨p.σ.loc,H2⟩⟩) (r:=⟨h3,M2,⟨p.σ.loc,H2⟩⟩) d.e d.le T.1,U.1⟩) (λz=>d.nD (z.elim (λz=>.inl (z.imp .inl id)) .inr)) ((d.d.up (q':=⟨h3,M2,⟨p.σ.loc,H2⟩⟩) (λo e=>fW hsb hDC e) (T.1.up λb z=>z.elim .inr λz=>.inl (.inr z)) λ_ _ e=>e).up (q':=⟨h3,M2,⟨p.σ.loc,H2⟩⟩) (λ_ e=>e) U.2 λ_ _ e=>e) g
end
end
section
open PySem.SeqAt
structure IO where
 pk:Pos
 kx:Expr
 vx:Expr
 it:Expr
 px:Pos
 sc:Scope
 dp:Pos
 ap:Pos
 fp:Pos
 np:Pos
 kp:Pos
 cp:Pos
 rp:Pos
 lam:Expr
noncomputable def jP:Expr:=.Name (Str.ofString "") fF
noncomputable def nJ(e:Expr):Pos:=if h:e.ctorIdx=23 then Expr.Name.elim (motive_1:=λ_=>Pos) e h (λ_ p=>p) else fF
noncomputable def Uz(s:Stmt):List Expr×Expr×Pos:=if h:s.ctorIdx=5 then Stmt.Assign.elim (motive_2:=λ_=>List Expr×Expr×Pos) s h (λt v p=>(t,v,p)) else([],jP,fF)
noncomputable def GO(s:Stmt):Expr×Pos:=if h:s.ctorIdx=3 then Stmt.Return.elim (motive_2:=λ_=>Expr×Pos) s h (λv p=>(v.getD jP,p)) else(jP,fF)
noncomputable def CL(e:Expr):Expr×List Expr×List Keyword×Pos:=if h:e.ctorIdx=16 then Expr.Call.elim (motive_1:=λ_=>Expr×List Expr×List Keyword×Pos) e h (λf l k p=>(f,l,k,p)) else(jP,[],[],fF)
noncomputable def La(e:Expr):Expr×Expr×List Comprehension×Scope×Pos:=if h:e.ctorIdx=10 then Expr.DictComp.elim (motive_1:=λ_=>Expr×Expr×List Comprehension×Scope×Pos) e h (λk v g s p=>(k,v,g,s,p)) else(jP,jP,[],(fp 31).scope,fF)
noncomputable def t4(e:Expr):Arguments×Expr×Scope×Pos:=if h:e.ctorIdx=4 then Expr.Lambda.elim (motive_1:=λ_=>Arguments×Expr×Scope×Pos) e h (λa b s p=>(a,b,s,p)) else((fp 31).params,jP,(fp 31).scope,fF)
noncomputable def Lb(e:Expr):Expr×Expr×Pos:=if h:e.ctorIdx=21 then Expr.Subscript.elim (motive_1:=λ_=>Expr×Expr×Pos) e h (λa b p=>(a,b,p)) else(jP,jP,fF)
noncomputable def qO(l:List Expr)(i:Nat):Expr:=l.getD i jP
noncomputable def yw:List Expr×Expr×Pos:=Uz ((fp 31).body.getD 0 (.Pass fF))
noncomputable def pA:Expr×Expr×List Comprehension×Scope×Pos:=La yw.2.1
noncomputable def DQ:Expr×Pos:=GO ((fp 31).body.getD 1 (.Pass fF))
noncomputable def ri:Expr×List Expr×List Keyword×Pos:=CL DQ.1
noncomputable def io:IO:=⟨nJ (qO yw.1 0),pA.1,pA.2.1,qO (pA.2.2.1.map (·.iter)) 0,nJ (qO (pA.2.2.1.map (·.target)) 0),pA.2.2.2.1,pA.2.2.2.2,yw.2.2,nJ ri.1,nJ (qO ri.2.1 0),(ri.2.2.1.map (·.pos)).getD 0 fF,ri.2.2.2,DQ.2,qO (ri.2.2.1.map (·.value)) 0⟩
noncomputable def fB:Df:=⟨198,bX "in_order" "in_order" (fp 31) 3 N N N (S "markupmill.order" 390) (R 197) N 0,["tree","nodes","known"],2,[],.bad,true,1000⟩
theorem KC(P:Params):jB P fB:=⟨by kernel_rfl,by kernel_rfl,λ_ _ _=>by kernel_rfl,by kernel_rfl⟩
noncomputable abbrev cW:Str:=Str.ofString "known"
noncomputable abbrev js:Str:=Str.ofString "node"
noncomputable abbrev lF:Str:=Str.ofString "tree"
theorem Rw:iP fB.fd.body=[.Assign [.Name cW io.pk] (.DictComp io.kx io.vx [⟨.Name js io.px,io.it,[],0⟩] io.sc io.dp) io.ap,.Return (some (.Call (.Name (Str.ofString "sorted") io.fp) [.Name cW io.np] [⟨some (Str.ofString "key"),io.lam,io.kp⟩] io.cp)) io.rp]:=by kernel_rfl
structure LA where
 pars:Arguments
 p1:Pos
 p2:Pos
 p3:Pos
 sc:Scope
 pos:Pos
noncomputable def yV:Expr×Expr×Pos:=Lb (t4 io.lam).2.1
noncomputable def la:LA:=⟨(t4 io.lam).1,nJ yV.1,nJ yV.2.1,yV.2.2,(t4 io.lam).2.2.1,(t4 io.lam).2.2.2⟩
noncomputable def pC:Expr:=.Subscript (.Name cW la.p1) (.Name js la.p2) la.p3
theorem PP:io.lam=.Lambda la.pars pC la.sc la.pos:=by kernel_rfl
theorem PF:la.pos=ot:=by kernel_rfl
theorem PI:la.sc.isCoroutine=false:=by kernel_rfl
theorem PM:la.sc.isGenerator=false:=by kernel_rfl
theorem yW:la.sc.kind=.function:=by kernel_rfl
theorem PN:la.sc.names.all (λq=> !(ma (some q.2)))=true:=by kernel_rfl
theorem Ek:gr (la.sc.names.lookup js)=true:=by kernel_rfl
theorem PK:la.sc.names.lookup cW=some .free:=by kernel_rfl
theorem PL:la.sc.names.all (λq=> !(yx (some q.2))||q.1==cW)=true:=by kernel_rfl
theorem PH(cells:List (Str×Addr)):gO cells la.sc.names []=[(cW,(cells.lookup cW).getD 0)]:=by kernel_rfl
theorem PJ(env:Env):defaultsOf la.pars env=([],[]):=by kernel_rfl
theorem PO(k:Nat):(callEnvC fB.fd k 198).qual++"<lambda>"=iH:=by kernel_rfl
theorem PG(P:Params)(kc:Addr)(pm ctv:Value)(c':Addr)(a:Value):∀S,peek (KF P) S (bindArgs (kla_fn "<lambda>" iH la.pars pC la.sc [(cW,kc)] pm (.ref c') ctv) ⟨[a],[]⟩)=some [(js,a)]:=λS=>by kernel_rfl
theorem vj:fB.kd cW=some .cell∧fB.kd lF=some .cell:=⟨by kernel_rfl,by kernel_rfl⟩
section
variable{M0:Model}{A:Around}{E:Value→Shared→Prop}{s:Shared}{h0:Heap}{tk:Tok}{env:Env}{clos:List (Str×Addr)}
theorem QK{w:World}{B:Heap}(b:dH w B){X:Addr→Prop}{M:Sp}{H:List ac}(G:HR w.params B X h0 M H)(hcl:closureFor la.sc env=pure clos)
  (hge0:env.globals=mainGlobals)(hcode:env.code=.ref 197)(hq:env.qual++"<lambda>"=iH){Q:Value→Shared→Prop}
  (h:∀a c' ctv pm h' tk,tw X M H 195 iH ot h0 h' a c' (kla_obj "<lambda>" iH la.pars pC la.sc clos pm c' ctv)→Q (.ref a) (Sh s h' tk)):
  wpAny M0 A (eval io.lam env) Q E (Sh s h0 tk):=by
 rw[PP];refine kla_eval (PJ env) ?_;rw[hq,PF];obtain⟨mg,hg,hb,hgT⟩:=Et b G (T:=195) (.inl rfl)
 have C:CodeHd h0 197 195:=by obtain⟨o,vs,file,tf,flags,tg,kQ,text,tt,e,r⟩:=xv w.params;exact⟨o,vs,file,tf,flags,tg,kQ,text,tt,G.base _ _ (b.says _ _ e) (by rintro(z|z)<;>cases z),r⟩
 cases G.tabs.t0 with
 |nil e0=>refine kla_makeFunction (s:=Sh s h0 tk) hcl hge0 hg hcode C e0 trivial rfl hgT hb λc' ctv h' tk hx hge hlt hrec htab=>?_;obtain⟨cc,oc,vs,t,hc,hoc,hdc,hq⟩:=hrec;cases hc;have sz:h0.objs.size≤h'.objs.size:=aJ hge (f8 hlt);exact h _ c' ctv _ _ _ ⟨λb o n e=>bc _ (hx b o n e),sz,ej _ rfl,.one (bc _ htab) (bc _ hoc) (G.new hge) hdc hq,.mk (bc _ hoc) (G.new hge) hdc hq,aJ sz (gF _ _)⟩
 |one e0 e1 n0 d0 q0=>refine kla_makeFunctionHit (s:=Sh s h0 tk) (cv:=.ref _) hcl hge0 hg hcode C e0 trivial (BC ot _) hb λctv h' tk k sz=>?_;exact h _ _ ctv _ _ _ ⟨λb o n e=>bc _ (k b o e),sz,ej _ rfl,.one (bc _ (k _ _ e0)) (bc _ (k _ _ e1)) n0 d0 q0,.mk (bc _ (k _ _ e1)) n0 d0 q0,aJ sz (gF _ _)⟩
end
end
section
open PySem.SeqAt
theorem PQ{w:World}{A:Around}{s:Shared}{lam kc D c':Addr}{pm ctv:Value}{kvs:List (Int×Value)}{k:Int}{x v:Value}(room:A.depth<recursionLimit)(KI:(KF w.params).In s.heap)(NL:s.heap.NoLimit)
  (e0:s.heap.get? lam=some (kla_obj "<lambda>" iH la.pars pC la.sc [(cW,kc)] pm c' ctv))(hc:∃o vs t,s.heap.get? c'=some o∧o.data=.fields vs∧vs[1]? =some (.str iH t))
  (hcell:s.heap.IsCell kc (some (.ref D)))(hd:s.heap.DictOf (intKind pw w) D kvs)(hm:(k,x)∈kvs)(hk:(intKind pw w).is k v=true):
  wpAny (model pw w) A (call (.ref lam) [v]) (λy s''=>y=x∧∃h'' tk',s''={s with heap:=h'',toks:=tk'}∧Kp s.heap h'') (λ_ _=>False) s:=by
 obtain⟨oc,cvs,t,e2,d2,q2⟩:=hc;refine lK (kla_callFunE room e0 rfl PI PM rfl ⟨c',oc,cvs,t,rfl,e2,d2,q2⟩ ?_);refine(yU (s:=s) KI (PG w.params kc pm ctv c' v)) _ _ _ _ ?_;refine Ap (λq m z=>?_) (λq m=>?_) (λhh hns hsb=>?_) yW
 ·have:=List.all_eq_true.mp PN q m;rw[z] at this;cases this
 ·rw[List.mem_singleton.mp m];exact jV Ek
 have hsb:Heap.SameBut s.heap.objs.size (s.heap.push {cls:=.type "frame",data:=.dict #[]}) hh:=hsb;have keep:Kp s.heap hh:=λb o e=>(hsb.2 b (c9 (b9 e))).trans (bc _ e);refine⟨NL.keeps keep,kla_codeExpr ?_⟩;unfold pC;refine Subscript_Name (sK (wpAny_loadName_free yW PK (c:=kc) rfl (hcell.keeps keep) ?_) rfl);refine sK (vY yW (jV Ek) hns rfl ?_) rfl;have D':hh.DictOf (intKind pw w) D kvs:=hd.at λo e=>keep _ _ e;obtain⟨i,hi⟩:=List.getElem?_of_mem hm;have nd:(kvs.map (·.1)).Nodup:=by obtain⟨_,_,_,_,_,_,_,_,nd⟩:=D';exact nd
 refine⟨"dict",_,slot_dict_getitem.lookup,D'.typeIs,?_⟩;exact wpAny_getItem_of hk D'.mapOf (valueAt_of_get nd hi) ⟨rfl,hh,_,rfl,keep⟩
end
section
open PySem.SeqAt
theorem HR.but{P:Params}{B:Heap}{X T:Addr→Prop}{h h':Heap}{M:Sp}{H:List ac}(G:HR P B X h M H){L:Addr}(xL:X L)(bL:B.get? L=none)(lL:¬bn M H L)(tL:T L)(k:∀b o,b≠195→b≠L→h.get? b=some o→h'.get? b=some o)(sz:h.objs.size≤h'.objs.size)
  (tb:kr h' (HA X M H)):HR P B X h' M H∧HX T h M H h' M H:=have u:Up h (HA X M H) h' (HA X M H):=⟨λb o e n=>k b o (λz=>n (.inr (.inl (.inl (.inl z))))) (λz=>n (.inl (z▸xL))) e,λb o e n=>n⟩
 ⟨⟨λb o e n=>k b o (λz=>n (.inl z)) (λz=>by rw[z,bL] at e;cases e) (G.base b o e n),G.clear,tb,λb x=>dK (G.low b x) sz,G.len,λi a e=>⟨dK (G.mlt i a e).1 sz,dK (G.mlt i a e).2 sz⟩,
   λi a o e1 e2=>(G.own i a o e1 e2).up u (λ_ _ e=>e) λl b o' hb=>k b o' (λz=>G.offA b ⟨i,.mk e1 e2 l hb⟩ (.inl z)) λz=>lL (z▸⟨i,.mk e1 e2 l hb⟩),G.apart,G.offA⟩,
  ⟨λ_ _ e=>e,λb o e n=>k b o (λz=>n (.inr (.inl (.inl z)))) (λz=>n (.inl (z▸tL))) e,sz,λ_ h=>.inl h,ml⟩⟩
theorem yu:∀{l:List AV}{is:List Int},iX l=some is→l=is.map .int
 |[],is,e=>ak e▸rfl
 |x::l,is,e=>aL (o:=eO x) e λi e1 e=>aL (o:=iX l) e λr e2 e=>by rw[←ak e,fe e1,yu e2];rfl
theorem EG:∀{l:List Int},mm l=true→l.Nodup
 |[],_=>lS
 |i::l,h=>List.nodup_cons.mpr ⟨λm=>zr (List.all_eq_true.mp (aA h).1 i m) rfl,EG (aA h).2⟩
noncomputable def mJ(k:List Int):AV:=.tup (k.map .int)
theorem Vy{r:Rc}{k:List Int}(h:sC r=some k):r=.ok (.v (mJ k)) []:=by
 cases r with
 |bad=>cases h
 |err=>cases h
 |ok x H=>
  cases H with
  |cons _ _=>cases h
  |nil=>
   cases x with
   |loc i=>cases h
   |v x=>exact aL (o:=eP x) h λt e1 e=>by rw[iO e1,yu e];rfl
theorem Fe{f:Fo}{tree:RV}{i:Int}{l:List Int}{ks:List (List Int)}{G:Prop}(h:gX f tree (i::l)=some ks)(g:∀k r,k≠[]→f (.glob (.ref 193)) [tree,.v (.int i)] []=.ok (.v (mJ k)) []→gX f tree l=some r→ks=k::r→G):G:=aL (o:=sC (f (.glob (.ref 193)) [tree,.v (.int i)] [])) h λk e1 e=>aL (o:=gX f tree l) e λr e2 e=>by
  cases k with
  |nil=>cases e
  |cons a k=>exact g (a::k) r (λc=>nomatch c) (Vy e1) e2 (ak e).symm
theorem JX{f:Fo}{tree:RV}{i:Int}{x:RV}{H:List ac}(h:f (.glob (.ref 193)) [tree,.v (.int i)] []=.ok x [])(ht:RV.below 0 tree=true):
  ev f (.call 0 (.glf 193) (.cons (.var 1) (.cons (.var 0) .nil))) ⟨[some (.v (.int i)),some tree],H⟩=.ok x ⟨[some (.v (.int i)),some tree],H⟩:=by show aK (jL (.glob (.ref 193))) (λst=>aK (Nat.ble st.H.length 0||([tree,.v (.int i)].all (RV.below 0)&&(st.H.take 0).all (ac.belowB 0))) (λst=>(f (.glob (.ref 193)) [tree,.v (.int i)] (st.H.take 0)).rs λx H'=>aK (Nat.ble st.H.length 0||Nat.beq H'.length 0) (λ_=>.ok x ⟨st.loc,H'++st.H.drop 0⟩) st) st) _=_;rw[show jL (.glob (.ref 193))=true by kernel_rfl];show aK (Nat.ble H.length 0||([tree,.v (.int i)].all (RV.below 0)&&([]:List ac).all (ac.belowB 0))) (λst=>(f (.glob (.ref 193)) [tree,.v (.int i)] []).rs (λx H'=>aK (Nat.ble st.H.length 0||Nat.beq H'.length 0) (λ_=>.ok x ⟨st.loc,H'++st.H.drop 0⟩) st)) _=_;rw[h,show([tree,RV.v (.int i)].all (RV.below 0)&&([]:List ac).all (ac.belowB 0))=true by rw[AL,ht];rfl,sX];show aK (Nat.ble H.length 0||true) _ _=_;rw[sX];rfl
theorem Cr{f:Fo}{tree:AV}{G:List RV→List ac→Prop}{H:List ac}:∀{is:List Int}{ks:List (List Int)}{acc:List RV}{x0:Option RV},gX f (.v tree) is=some ks→G (acc++ks.map λk=>.v (mJ k)) H→
  bO (kK (ev f (.var 0)) (ev f (.call 0 (.glf 193) (.cons (.var 1) (.cons (.var 0) .nil)))) is acc ⟨[x0,some (.v tree)],H⟩) λacc σ=>G acc σ.H
 |[],ks,acc,x0,h,k=>by rw[←ak h,oU,eK] at k;exact k
 |i::is,ks,acc,x0,h,k=>Fe h λk1 r hne hf hr e=>by show bO (aK (decide (some i=some i)) (λeH=>(ev f (.call 0 (.glf 193) (.cons (.var 1) (.cons (.var 0) .nil))) eH).bind λy dC=>kK (ev f (.var 0)) (ev f (.call 0 (.glf 193) (.cons (.var 1) (.cons (.var 0) .nil)))) is (acc++[y]) dC) ⟨[some (.v (.int i)),some (.v tree)],H⟩) _;rw[cD rfl];show bO ((ev f (.call 0 (.glf 193) (.cons (.var 1) (.cons (.var 0) .nil))) ⟨[some (.v (.int i)),some (.v tree)],H⟩).bind λy dC=>kK (ev f (.var 0)) (ev f (.call 0 (.glf 193) (.cons (.var 1) (.cons (.var 0) .nil)))) is (acc++[y]) dC) _;rw[JX hf rfl];refine Cr (acc:=acc++[.v (mJ k1)]) hr ?_;rw[e,gM] at k;rw[hJ];exact k
theorem Ej{f:Fo}{tree:RV}:∀{is:List Int}{ks:List (List Int)},gX f tree is=some ks→∀k∈ks,k≠[]
 |[],ks,h=>ak h▸λ_ m=>nomatch m
 |i::is,ks,h=>Fe h λk1 r hne hf hr e=>e▸λk m=>(List.mem_cons.mp m).elim (λe=>e▸hne) (Ej hr k)
theorem HN{P:Params}{h:Heap}{X:Addr→Prop}:∀{k:List Int}{vs:List Value},bj P h X vs (k.map .int)→IntsAre vs k
 |[],vs,r=>(show vs=[] from r)▸.nil
 |i::k,vs,r=>bA.on (C:=λvs=>IntsAre vs (i::k)) (show bA (λv=>VR P h X v (.int i)) (λvs=>bj P h X vs (k.map .int)) vs from r) λv us a b=>VR.onInt (P:=P) (h:=h) (X:=X) (C:=λv=>IntsAre (v::us) (i::k)) a λt=>.cons _ _ (HN b)
theorem Hu{P:Params}{h:Heap}{X:Addr→Prop}{M:Sp}:∀{ks:List (List Int)}{vs:List Value},(∀k∈ks,k≠[])→a9 P h X M vs (ks.map λk=>.v (mJ k))→fJ h vs ks
 |[],vs,_,r=>(show vs=[] from r)▸.nil
 |k::ks,vs,hne,r=>Z2.on (C:=λvs=>fJ h vs (k::ks)) r λv us a b=>VR.onTup (P:=P) (X:=X) (C:=λv=>fJ h (v::us) (k::ks)) (show VR P h X v (.tup (k.map .int)) from a) λa xs n e _ l=>.cons ⟨_,_,_,_,rfl,e,rfl,rfl,HN l,hne k (.head _)⟩ (Hu (λk m=>hne k (.tail _ m)) b)
theorem DP{P:Params}{h:Heap}{X:Addr→Prop}:∀{vs:List Value}{k:List Int},IntsAre vs k→bj P h X vs (k.map .int):=λr=>by
 induction r with
 |nil=>exact rfl
 |cons n t r ih=>exact .cons (.int n t) ih
end
section
open PySem.SeqAt
noncomputable abbrev so:Str:=Str.ofString "nodes"
theorem RI:fB.names=[lF,so,cW]:=by kernel_rfl
theorem RB:qH fB.kd io.sc [js] [lF]=true:=by kernel_rfl
theorem RH:iC io.it=false:=by kernel_rfl
theorem RD:nj fB.kd [lF,so,cW] (.ones (.var 1)) io.it (.Name js io.px)=true:=by kernel_rfl
theorem RE:chk (fT fB.kd io.sc.names) ([js]++[lF]) false (.var 0) io.kx=true:=by kernel_rfl
theorem RM:chk (fT fB.kd io.sc.names) ([js]++[lF]) false (.call 0 (.glf 193) (.cons (.var 1) (.cons (.var 0) .nil))) io.vx=true:=by kernel_rfl
theorem RF:gr (fT fB.kd io.sc.names js)=true:=by kernel_rfl
theorem RA:ir fB.kd [lF,so,cW] (.cons (.var 2) .nil) [.Name cW io.np]=true:=by kernel_rfl
theorem RJ:iy fB.kd (Str.ofString "sorted")=true:=by kernel_rfl
theorem RC(P:Params):fQ (KF P) (Str.ofString "sorted")=some (.builtin "sorted"):=by kernel_rfl
inductive AK(h:Heap)(T0:Addr→Prop)(env:Env)(D:Addr):Prop
 |mk {kc:Addr} {o:Obj}:env.cells.lookup cW=some kc→h.get? kc=some o→o.data=.cell (some (.ref D))→AK h T0 env D
theorem PB{cx:Cx}{p:Pt}{D:Addr}(R:SR cx [lF,so,cW] p)(e:ae p.σ.loc 2=some (some (.v (.glob (.ref D)))))(kd:∀x,cx.env.kindOf x=fB.kd x):AK p.h cx.T0 cx.env D:=(R.vars 2 _ e).of λnm v e1 e2 e3=>by
  rw[←ak (show some cW=some nm from e1),show v=.ref D from e3] at e2;cases e2 with
  |loc q _ _=>exact nomatch((kd _).symm.trans q).symm.trans vj.1
  |cell _ hc hv=>exact hv.elim λo y=>.mk hc y.1 y.2
theorem PT{env:Env}{kc:Addr}(h:env.cells.lookup cW=some kc):closureFor la.sc env=pure [(cW,kc)]:=by
 rw[xq λq m e=>?_,PH,h]
 ·rfl
 ·have:=List.all_eq_true.mp PL q m;rw[e] at this;exact fN this▸⟨kc,h⟩
theorem RL{w:World}{B:Heap}(b:dH w B){n:Nat}{X T0:Addr→Prop}{s:Shared}{h0 h3 h4:Heap}{tk:Tok}{M0 M3:Sp}{H:List ac}{A:Around}{L D kc lam c':Addr}{pm ctv:Value}{o:Obj}{m3:Str→Option Value}{is:List Int}{ks:List (List Int)}{Q E:Value→Shared→Prop}
  (rm:Rm n A)(dp:A.depth<1000)(G:HR w.params B X h0 M0 H)(R3:HR w.params B (λb=>X b∨T0 b) h3 M3 H)(l0:h0.objs.size≤L)(tL:T0 L)(hm:h3.Ns L m3)(nD:¬HA (λb=>X b∨T0 b) M3 H D)
  (d:i7 w (λb=>X b∨T0 b) D ⟨h3,M3,⟨[],H⟩⟩ is (ks.map λk=>.v (mJ k)))(ho1:h3.get? kc=some o)(ho2:o.data=.cell (some (.ref D)))(kc195:kc≠195)(h7:is.length<7)(hne:∀k∈ks,k≠[])(lL:¬bn M3 H L)
  (MF:tw (λb=>X b∨T0 b) M3 H 195 iH ot h3 h4 lam c' (kla_obj "<lambda>" iH la.pars pC la.sc [(cW,kc)] pm c' ctv))
  (hQ:∀D' h5 tk,HX T0 h3 M3 H h5 M3 H→HR w.params B (λb=>X b∨T0 b) h5 M3 H→VR w.params h5 (HA (λb=>X b∨T0 b) M3 H) (.ref D') (.lst ((gB ks).map λj=>.int (is.getD j 0)))→Q (.ref D') (Sh s h5 tk)):
  wpAny (model pw w) A (call (.builtin "sorted") [.ref D] [(Str.ofString "key",.ref lam)]) Q E (Sh s h4 tk):=by
 cases d with
 | @mk kvs D3 ek r3=>
  have old:∀{x},h0.objs.size≤x→¬vQ x:=λq z=>G.new q (.inr (.inl z));have L195:(195:Addr)≠L:=λz=>old l0 (z▸.inl (.inl rfl));have L965:(965:Addr)≠L:=λz=>old l0 (z▸.inl (.inr rfl))
  have bL:B.get? L=none:=by
   cases e:B.get? L with
   |none=>rfl
   |some o=>exact iE (G.base _ o e λz=>old l0 (.inl z)) l0
  have nXL:∀{x},¬HA (λb=>X b∨T0 b) M3 H x→x≠L:=λq z=>q (.inl (.inr (z▸tL)));have D4:h4.DictOf (intKind pw w) D kvs:=D3.at λo e=>MF.keep D o (λz=>nD (.inr (.inl (.inl (.inl z))))) e;have kl:kvs.length=is.length:=(aU _).symm.trans (congrArg List.length ek);have u4:Up h3 (HA (λb=>X b∨T0 b) M3 H) h4 (HA (λb=>X b∨T0 b) M3 H):=⟨λb o e q=>MF.keep b o (λz=>q (.inr (.inl (.inl (.inl z))))) e,λb o e q=>q⟩;have lamL:lam≠L:=λz=>absurd (z▸hm.lt) (Nat.not_lt.mpr MF.new);have kcL:kc≠L:=IsCell.ne_ns ⟨o,ho1,ho2⟩ hm;refine Ut (s:=Sh s h4 tk) (L:=L) (m:=m3) (kvs:=kvs) (ks:=ks) rm.hand (Ns.but hm (λz=>L195 z.symm) MF.keep) D4 ?_ (by omega) (Hu hne (a9.up u4 (λ_ _ e=>e) r3)) (λk x v h5 tk5 hm hk kq=>?_) λD' h5 tk5 us c kq hD' e5 hu=>?_
  ·cases z:D==sysModules with
   |false=>rfl
   |true=>exact(nD (.inr (.inl (.inr (fN z))))).elim
  ·have base5:∀b o,B.get? b=some o→¬cX b→h5.get? b=some o:=λb o e q=>kq b o (λz=>by rw[z,bL] at e;cases e) (MF.keep b o (λz=>q (.inl z)) (R3.base b o e q));cases MF.code with
   |mk c1 c2 c3 c4=>exact PQ (s:=Sh s h5 tk5) (A:=A.in1.in1) dp (lQ b.says base5) (b.nolim.at λo e=>base5 _ o e (by rintro(z|z)<;>cases z)) (kq _ _ lamL MF.at') ⟨_,_,_,kq _ _ (nXL c2) c1,c3,c4⟩ ⟨o,kq _ _ kcL (MF.keep _ _ kc195 ho1),ho2⟩ (D4.at λo e=>kq D o (nXL nD) e) hm hk
  ·have k35:∀b o,b≠195→b≠L→h3.get? b=some o→h5.get? b=some o:=λb o q1 q2 e=>kq b o q2 (MF.keep b o q1 e);have sz35:h3.objs.size≤h5.objs.size:=aJ MF.size (f8 (eX hD' (b9 e5)));have u5:Up h3 (HA (λb=>X b∨T0 b) M3 H) h5 (HA (λb=>X b∨T0 b) M3 H):=⟨λb o e q=>k35 b o (λz=>q (.inr (.inl (.inl (.inl z))))) (nXL q) e,λb o e q=>q⟩;have t0:eF h5 (HA (λb=>X b∨T0 b) M3 H) 195 iH ot:=eF.rec (motive:=λ_=>eF h5 (HA (λb=>X b∨T0 b) M3 H) 195 iH ot) (λe=>.nil (kq _ _ L195 e)) (λq1 q2 q3 q4 q5=>.one (kq _ _ L195 q1) (kq _ _ (nXL q3) q2) q3 q4 q5) MF.tab;have g:=HR.but (T:=T0) R3 (.inr tL) bL lL tL k35 sz35 ⟨t0,R3.tabs.t1.up u5 λo=>k35 _ o (by decide) L965⟩;rw[ek] at hu;have v:=DP (P:=w.params) (h:=h5) (X:=HA (λb=>X b∨T0 b) M3 H) hu;rw[dm] at v;exact hQ D' h5 tk5 g.2 g.1 (VR.lst e5 (R3.new (aJ MF.size hD')) v)
theorem RG{w:World}{B:Heap}(b:dH w B){n:Nat}{f:Fo}(O:eY w B n f){H:List ac}{X:Addr→Prop}{s:Shared}{h:Heap}{tk:Tok}{M:Sp}{fr:List Env}{A:Around}{vs:List Value}{Q E:Value→Shared→Prop}(rm:Rm (n+1) A)(hfr:A.frames=some fr)(F:g9 B fr h M H)(G:HR w.params B X h M H)
  {tree:AV}{is:List Int}{ks:List (List Int)}(hks:gX f (.v tree) is=some ks)(nd:is.Nodup)(h7:is.length<7)(ha:a9 w.params h (HA X M H) M vs [.v tree,.v (.lst (is.map .int))])
  (z:fH w.params B X fr h M H s (.ok (.v (.lst ((gB ks).map λj=>.int (is.getD j 0)))) H) Q E):codeAny (model pw w) A (.call (.ref 198) ⟨vs,[]⟩) (lB Q E) (Sh s h tk):=by
 refine qY b (d:=fB) (KC _) rfl rm hfr F G ha λenv hh tk I R0=>?_;have kk:∀x,env.kindOf x=fB.kd x:=λx=>by unfold Env.kindOf;rw[show env.scope=fB.fd.scope from I.sc];rfl
 have GD:Gd f (bZ w B X h hh env fr H.length n) fB.kd:=⟨I.ek,kk,O,λx e=>(I.ci x ((kk x).trans e)).imp λc z=>z.1⟩;have R0:SR (bZ w B X h hh env fr H.length n) [lF,so,cW] ⟨hh,M,⟨[some (.v tree),some (.v (.lst (is.map .int))),none],H⟩⟩:=by rw[←RI];exact R0
 have CO:=tV GD R0 (caps:=[0]) RB rfl;have hkn:hY (bZ w B X h hh env fr H.length n) cW:=.inr ⟨(kk _).trans vj.1,I.ci cW ((kk _).trans vj.1)⟩;have ce:env.code=.ref 197∧env.qual++"<lambda>"=iH:=I.ce.elim λk e=>by rw[show env=_ from e];exact⟨rfl,PO k⟩
 have hsw:swapsWith (.DictComp io.kx io.vx [⟨.Name js io.px,io.it,[],0⟩] io.sc io.dp) (some (.Name cW io.pk)) io.ap.line env=pure false:=by show(pure (env.blockKind==.function&&env.kindOf cW==some .local&&_&&_):Sem Bool)=pure false;rw[show env.kindOf cW=some .cell from(kk _).trans vj.1,show((some NameKind.cell:Option NameKind)==some .local)=false from rfl,Ay,Az,Az]
 have mu:gR f (.ones (.var 1)) ⟨[some (.v tree),some (.v (.lst (is.map .int))),none],H⟩=.ok (is.map λi=>[.v (.int i)]) ⟨[some (.v tree),some (.v (.lst (is.map .int))),none],H⟩:=by show Rs.ok (((is.map AV.int).map RV.v).map λx=>[x]) _=_;rw[dm,dm];rfl
 unfold mO;rw[Rw];refine kg (wpAny_Assign_Name (hs:=hsw) (Tr (s:=s) (tk:=tk) (A:=A.deeper env) (cx:=bZ w B X h hh env fr H.length n) (p:=⟨hh,M,⟨[some (.v tree),some (.v (.lst (is.map .int))),none],H⟩⟩) (is:=is) (G:=λacc H'=>acc=(ks.map λk=>.v (mJ k))∧H'=H) I.ek CO (nN RH) (sU (.ones (.var 1)) GD RD _ rfl)
  (λC X1=>sE (.var 0) ((GD.inner CO C).x0 X1) (t:=false) RE) (λC X1=>sE (.call 0 (.glf 193) (.cons (.var 1) (.cons (.var 0) .nil))) ((GD.inner CO C).x0 X1) (t:=false) RM) (λC=>r9 (GD.inner CO C) js RF) nd (by omega) ⟨rm.deeper env,I.fr⟩ R0 mu (Cr (G:=λacc H'=>acc=(ks.map λk=>.v (mJ k))∧H'=H) hks ⟨rfl,rfl⟩) λD h1 M1 H1 tk1 acc o nD d hg=>?_))
 obtain⟨rfl,rfl⟩:=hg;refine qb (s:=s) I.ek o.r (i:=2) rfl hkn (x:=.v (.glob (.ref D))) rfl λh2 tk2 o2=>?_;have N:eW (bZ w B X h hh env fr H1.length n) (Str.ofString "sorted") (.builtin "sorted"):=iT GD RJ (RC _);refine kg (vW (wpAny_Call_Name_kw (j0 I.ek (s:=Sh s h2 tk2) N (o2.r.K I.ek) ?_)));refine callWith_kw (e:=.Name cW io.np) (rest:=[]) (kws:=[⟨some (Str.ofString "key"),io.lam,io.kp⟩]) ?_;refine(sL (.cons (.var 2) .nil) GD RA io.cp) ⟨h2,M1,⟨[some (.v tree),some (.v (.lst (is.map .int))),some (.v (.glob (.ref D)))],H1⟩⟩ (A.deeper env) s tk2 _ _ ⟨rm.deeper env,I.fr⟩ o2.r ?_;intro us h3 M3 tk3 o3 uv;have us_eq:us=[.ref D]:=Z2.on (C:=λus=>us=[.ref D]) (x:=RV.v (.glob (.ref D))) (l:=[]) uv λv us a r=>by rw[show v=.ref D from a,show us=[] from r]
 rw[us_eq];have u12:=c8.av o2.e;have u23:=c8.av o3.e;have nT:∀{M'},¬HA (bZ w B X h hh env fr H1.length n).X M' H1 D→¬Tc (bZ w B X h hh env fr H1.length n).T0 M' H1 D:=λq z=>q (z.elim (λz=>.inl (.inr z)) λz=>.inr (z.imp .inl id));have ex:c8 (bZ w B X h hh env fr H1.length n) ⟨h1,M1,⟨[some (.v tree),some (.v (.lst (is.map .int))),none],H1⟩⟩ ⟨h3,M3,⟨[some (.v tree),some (.v (.lst (is.map .int))),some (.v (.glob (.ref D)))],H1⟩⟩:=HX.trans o2.e o3.e;have d3:=d.up (X':=(bZ w B X h hh env fr H1.length n).X) (q':=⟨h3,M3,⟨[],H1⟩⟩) (λo e=>ex.keep D o e (nT nD)) (c8.av ex) ex.sp
 have nD3:¬HA (bZ w B X h hh env fr H1.length n).X M3 H1 D:=by
  cases d with
  |mk dd _ _=>obtain⟨o,_,_,ho,_⟩:=dd;exact(c8.av ex).away D o ho nD
 cases PB o3.r rfl kk with
 | @mk kc ok hkc g1 g2=>obtain⟨m3,hm3⟩:=o3.r.ns;have kc195:kc≠195:=λz=>o3.r.c.offA kc (.inr (.inl ⟨cW,hkc⟩)) (.inl z);refine kws_cons (QK b (s:=s) o3.r.toHR (PT hkc) I.ek.glob ce.1 ce.2 λlam c' ctv pm h4 tk4 MF=>kws_nil ?_);refine RL (s:=s) (h0:=h) (T0:=(bZ w B X h hh env fr H1.length n).T0) (X:=X) b (rm.deeper env) (eX (aJ (aJ (eM _ _) (eM _ 30)) (rm.deeper env).depth) (by decide)) G o3.r.toHR I.l1 ⟨I.l1,I.l2⟩ hm3 nD3 d3 g1 g2 kc195 h7 (Ej hks) (λl=>o3.r.off _ l (.inl ⟨I.l1,I.l2⟩)) MF λD' h5 tk5 e5 r5 v5=>?_;exact xZ (x:=.v (.lst ((gB ks).map λj=>.int (is.getD j 0)))) (whole:=true) (s:=s) G I.keep (aJ I.l1 (f8 I.l2)) (λb t=>t.1) (HX.trans (HX.trans o.e ex) e5) r5 v5 z tk5
theorem RN{f:Fo}{args:List RV}{H:List ac}{C:Rc→Prop}(bad:C .bad)(k:∀tree nodes,args=[.v tree,.v nodes]→C (((fx nodes).bind iX).casesOn .bad λis=>zw f tree is H)):C (lf f args H):=by
 unfold lf;split
 ·exact k _ _ rfl
 ·exact bad
theorem Ji{w:World}{B:Heap}(b:dH w B){n:Nat}{f:Fo}(O:eY w B n f)(args:List RV)(H:List ac):de w B (n+1) (.glob (.ref 198)) args H (lf f args H):=RN .bad λtree nodes ea=>by
  rw[ea];intro X s h tk M fr A fv vs Q E rm hfr F G hg ha z;rw[show fv=.ref 198 from hg];cases his:(fx nodes).bind iX with
  |none=>rw[his] at z;exact False.elim z
  |some is=>
   rw[his] at z;have en:nodes=.lst (is.map .int):=aL (o:=fx nodes) his λl e1 e=>by rw[iN e1,yu e]
   rw[en] at ha;have z:fH w.params B X fr h M H s (cond (mm is&&Nat.blt is.length 7) ((gX f (.v tree) is).casesOn .bad λks=>.ok (.v (.lst ((gB ks).map λj=>.int (is.getD j 0)))) H) .bad) Q E:=z;cases hnd:mm is&&Nat.blt is.length 7 with
   |false=>rw[hnd] at z;exact False.elim z
   |true=>
    rw[hnd] at z;have z:fH w.params B X fr h M H s ((gX f (.v tree) is).casesOn .bad λks=>.ok (.v (.lst ((gB ks).map λj=>.int (is.getD j 0)))) H) Q E:=z;cases hks:gX f (.v tree) is with
    |none=>rw[hks] at z;exact False.elim z
    |some ks=>rw[hks] at z;exact RG b O rm hfr F G hks (EG (aA hnd).1) (gv (aA hnd).2) ha z
end
section
open PySem.SeqAt
noncomputable def ju:List XS→XS
 |[]=>.done
 |a::l=>.seq a (ju l)
noncomputable def kh:List XS:=[(.set 1 (.call 1000 (.glf 1264) (.cons (.var 0) (.cons (.lst true (.cons (.con (.int 2)) (.cons (.con (.int 1)) (.cons (.con (.int 0)) (.cons (.con (.int 1)) (.cons (.con (.int 1)) (.cons (.con (.int 0)) (.cons (.con (.int 3)) (.cons (.con (.int 5)) (.cons (.con (.int 2)) (.cons (.con (.int 0)) (.cons (.con (.int 3)) (.cons (.con (.int 0)) .nil))))))))))))) .nil)))),
 (.setT false [2,3] (.call 2 (.glf 1333) (.cons (.var 1) .nil))),
 (.setT false [4,5] (.call 2 (.sub (.lst false (.cons (.glf 1292) (.cons (.glf 1299) (.cons (.glf 1306) (.cons (.glf 1321) .nil))))) (.call 2 (.glf 1271) (.cons (.var 1) (.cons (.con (.int 4)) .nil)))) (.cons (.var 1) (.cons (.var 2) (.cons (.con (.int 3)) .nil))))),
 (.set 6 (.tup (.cons (.attr 13 (.var 3)) (.cons (.attr 14 (.var 3)) (.cons (.attr 15 (.var 3)) (.cons (.bf .dict (.cons (.attr 16 (.var 3)) .nil)) .nil)))))),
 (.set 7 (.call 0 (.glf 1003) (.cons (.var 4) (.cons (.var 3) .nil)))),
 (.ifs (.or (.cmp .NotEq (.var 7) (.var 5)) (.cmp .NotEq (.isi [0] (.var 7)) (.isi [0] (.var 5)))) .bad .done),
 (.ifs (.cmp .NotEq (.sub (.attr 16 (.var 3)) (.con (.str [115]))) (.sub (.var 2) (.con (.str qm)))) .bad .done),
 (.ifs (.cmpD (.tup (.cons (.attr 13 (.var 3)) (.cons (.attr 14 (.var 3)) (.cons (.attr 15 (.var 3)) (.cons (.bf .dict (.cons (.attr 16 (.var 3)) .nil)) .nil))))) (.var 6)) .bad .done),
 (.set 8 (.lst true (.cons (.call 0 (.glf 771) (.cons (.con (.str eo)) .nil)) (.cons (.call 0 (.glf 799) (.cons (.con (.str eo)) (.cons (.tup .nil) .nil))) (.cons (.call 0 (.glf 827) (.cons (.con (.str [124])) (.cons (.call 0 (.glf 771) (.cons (.con (.str [115])) .nil)) (.cons (.call 0 (.glf 771) (.cons (.con (.str [116])) .nil)) .nil)))) .nil))))),
 (.set 8 (.bin .Add true (.var 8) (.lst false (.cons (.call 0 (.glf 883) (.cons (.call 0 (.glf 743) (.cons (.tup (.cons (.con (.int 1)) (.cons (.con (.int 1)) .nil))) .nil)) (.cons (.tup .nil) .nil))) (.cons (.call 0 (.glf 911) (.cons (.call 0 (.glf 715) (.cons (.con (.str [120])) .nil)) (.cons (.tup (.cons (.call 0 (.glf 939) (.cons (.con (.str eG)) (.cons (.tup (.cons (.con (.str dP)) .nil)) (.cons (.tup .nil) .nil)))) .nil)) .nil))) .nil))))),
 (.expr (.bm .append (.var 8) (.cons (.call 0 (.glf 799) (.cons (.con (.str lX)) (.cons (.tup (.cons (.call 0 (.glf 715) (.cons (.con (.str [])) .nil)) .nil)) .nil))) .nil))),
 (.expr (.bm .append (.var 8) (.cons (.call 0 (.glf 827) (.cons (.con (.str jJ)) (.cons (.call 0 (.glf 799) (.cons (.con (.str fL)) (.cons (.tup .nil) .nil))) (.cons (.call 0 (.glf 771) (.cons (.con (.str eo)) .nil)) .nil)))) .nil)))]
noncomputable def pD:XL:=.cons (.call 2 (.glf 1278) (.cons (.var 1) (.cons (.var 8) .nil))) (.cons (.var 3) .nil)
noncomputable def iv:Df:=⟨1347,bX "law" "law" (fp 160) 3 N N N (S "law_on0202_01" 1953) (R 1346) N 0,["script","source","world","context","expr","due","ahead","tells","odds"],1,[],.bad,false,2⟩
theorem KB(P:Params):jB P iv:=⟨by kernel_rfl,by kernel_rfl,λ_ _=>by kernel_rfl,by kernel_rfl⟩
noncomputable def xj(gm:Nat)(kd:Kd)(sl:List Str):List XS→List Stmt→Bool
 |[],[]=>true
 |a::l,st::r=>tR gm kd sl a st&&xj gm kd sl l r
 |_,_=>false
structure LW where
 args:List Expr
 lp:Pos
 cp:Pos
 rp:Pos
noncomputable def Es:Expr×Pos:=GO ((iP iv.fd.body).getLastD (.Pass fF))
noncomputable def y4:Expr×List Expr×List Keyword×Pos:=CL Es.1
noncomputable def lw:LW:=⟨y4.2.1,nJ y4.1,y4.2.2.2,Es.2⟩
noncomputable def Em:List Stmt:=(iP iv.fd.body).dropLast
theorem PV:iP iv.fd.body=Em++[.Return (some (.Call (.Name (Str.ofString "_law_refused") lw.lp) lw.args [] lw.cp)) lw.rp]:=by kernel_rfl
theorem PX:xj 2 iv.kd iv.names kh Em=true:=by kernel_rfl
theorem PW:(ir iv.kd iv.names pD lw.args&&j2 lw.args)=true:=by kernel_rfl
theorem P9:iy iv.kd (Str.ofString "_law_refused")=true:=by kernel_rfl
theorem Qa(P:Params):fQ (KF P) (Str.ofString "_law_refused")=some (.ref 1340):=by kernel_rfl
theorem P7:uj 1340=true:=by kernel_rfl
section
variable{gm:Nat}{fo:Fo}{cx:Cx}{kd:Kd}{sl:List Str}
theorem Fn:∀(x:List XS){pO:List Stmt}{rest:List Stmt}(G:dJ fo gm cx kd),xj gm kd sl x pO=true→∀{p:Pt}{A:Around}{s:Shared}{tk:Tok}{K:St→Prop}{Q:Flow→Shared→Prop}{E:Value→Shared→Prop},AR cx A→SR cx sl p→
  bO (aP fo (ju x) p.σ) (λfl st=>fl=.next∧K st)→(∀h' M' σ tk,Ok cx sl p ⟨h',M',σ⟩→K σ→wpAny (model pw cx.w) A (execs rest cx.env) Q E (Sh s h' tk))→wpAny (model pw cx.w) A (execs (pO++rest) cx.env) Q E (Sh s p.h tk)
 |[],_::_,_,_,h,_,_,_,_,_,_,_,_,_,_,_=>nomatch h
 |_::_,[],_,_,h,_,_,_,_,_,_,_,_,_,_,_=>nomatch h
 |[],[],rest,G,h,p,A,s,tk,K,Q,E,ar,R,aw,hQ=>hQ p.h p.M p.σ tk (Ok.refl R) aw.2
 |a::b,st::r,rest,G,h,p,A,s,tk,K,Q,E,ar,R,aw,hQ=>by
  have aw:bO ((aP fo a p.σ).bind λfl st=>nM fl (aP fo (ju b)) st) (λfl st=>fl=.next∧K st):=aw;refine kg ((s1 a G (aA h).1) p A s tk _ _ ar R (aw.bd.res λf fl h' M' σ tk' o r1 k=>?_));cases fl with
  |next=>rw[show f=.next from r1];exact Fn b G (aA h).2 (p:=⟨h',M',σ⟩) (s:=s) ar o.r k λh2 M2 σ2 tk2 o2 k2=>hQ h2 M2 σ2 tk2 (o2.tr o.e) k2
  |brk=>exact nomatch k.1
  |cont=>exact nomatch k.1
  |ret x=>exact nomatch k.1
end
end
section
noncomputable abbrev vi(i:Int):RV:=.v (.int i)
noncomputable abbrev vb(b:Bool):RV:=.v (.bool b)
noncomputable abbrev vs(s:List Nat):RV:=.v (.str s)
noncomputable abbrev nu(a b:Int):AV:=.tup [.int a,.int b]
section
variable{f:Fo}{α β:Type}{st:St}{H:List ac}
theorem yd{c:Bool}{x:α}:aK c (aI x) st=cond c (.ok x st) .bad:=by cases c<;>rfl
theorem Ik{a b:Fm RV}:jQ true a b st=(a st).bind λx st=>(cm x st).bind λt st=>cond t (b st) (.ok x st):=by unfold jQ;refine congrArg (Rs.bind _) (funext λx=>funext λst=>congrArg (Rs.bind _) (funext λt=>funext λst=>?_));cases t<;>rfl
theorem V0{x:RV}{l:List (Option RV)}:ev f (.var 0) ⟨some x::l,H⟩=.ok x ⟨some x::l,H⟩:=rfl
theorem V1{a0:Option RV}{x:RV}{l:List (Option RV)}:ev f (.var 1) ⟨a0::some x::l,H⟩=.ok x ⟨a0::some x::l,H⟩:=rfl
theorem V2{a0 a1:Option RV}{x:RV}{l:List (Option RV)}:ev f (.var 2) ⟨a0::a1::some x::l,H⟩=.ok x ⟨a0::a1::some x::l,H⟩:=rfl
theorem S2{a0 a1:Option RV}{x y:Option RV}{l:List (Option RV)}:bp (a0::a1::x::l) 2 y=a0::a1::y::l:=rfl
theorem V3{a0 a1 a2:Option RV}{x:RV}{l:List (Option RV)}:ev f (.var 3) ⟨a0::a1::a2::some x::l,H⟩=.ok x ⟨a0::a1::a2::some x::l,H⟩:=rfl
theorem S3{a0 a1 a2:Option RV}{x y:Option RV}{l:List (Option RV)}:bp (a0::a1::a2::x::l) 3 y=a0::a1::a2::y::l:=rfl
theorem S6{a0 a1 a2 a3 a4 a5:Option RV}{x y:Option RV}{l:List (Option RV)}:bp (a0::a1::a2::a3::a4::a5::x::l) 6 y=a0::a1::a2::a3::a4::a5::y::l:=rfl
theorem dQ{a:α}{g:α→St→Rs β}:(Rs.ok a st).bind g=g a st:=rfl
theorem Ew{a:α}:(Rs.ok a st).noErr=.ok a st:=rfl
theorem pf{x:AV}:ev f (.con x) st=.ok (.v x) st:=rfl
theorem Cv{op:Operator}{own:Bool}{a b:X}:ev f (.bin op own a b) st=(ev f a st).bind λx st=>(ev f b st).bind λy st=>fP op own x y st:=rfl
theorem tY{op:CmpOp}{a b:X}:ev f (.cmp op a b) st=(ev f a st).bind λx st=>(ev f b st).bind λy st=>cj op x y st:=rfl
theorem CA{a b:X}:ev f (.sub a b) st=(ev f a st).bind λx st=>(ev f b st).bind λy st=>bH x y st:=rfl
theorem Cy{a:X}:ev f (.neg a) st=(ev f a st).bind λx st=>pn x st:=rfl
theorem KR{a b:X}:ev f (.and a b) st=(ev f a st).bind λx st=>(cm x st).bind λt st=>cond t (ev f b st) (.ok x st):=Ik
theorem Cu{k:Bf}{l:XL}:ev f (.bf k l) st=(cK f l st).bind λxs st=>k.f xs st:=rfl
theorem qK{l:XL}:ev f (.tup l) st=(cK f l st).bind λxs st=>qR xs st:=rfl
theorem rq:cK f .nil st=.ok [] st:=rfl
theorem ro{x:X}{l:XL}:cK f (.cons x l) st=(ev f x st).bind λy st=>(cK f l st).bind λr st=>.ok (y::r) st:=rfl
theorem qd{b:Bool}:cm (vb b) st=.ok b st:=rfl
theorem Ju{i j:Int}:cj .Lt (vi i) (vi j) st=.ok (vb (decide (i<j))) st:=rfl
theorem BU{i j:Int}:cj .Gt (vi i) (vi j) st=.ok (vb (decide (i>j))) st:=rfl
theorem Js{i j:Int}:cj .Eq (vi i) (vi j) st=.ok (vb (decide (i=j))) st:=rfl
theorem E4{own:Bool}{i j:Int}:fP .Mult own (vi i) (vi j) st=cond (lb i j) (.ok (vi (i*j)) st) .bad:=yd
theorem Q4{own:Bool}{i j:Int}:fP .FloorDiv own (vi i) (vi j) st=cond (decide (j≠0)&&decide (-1073741824<j)&&decide (j<1073741824)) (.ok (vi (i.fdiv j)) st) .bad:=yd
theorem E0{own:Bool}{i j:Int}:fP .Mod own (vi i) (vi j) st=cond (decide (j≠0)) (.ok (vi (i.fmod j)) st) .bad:=yd
theorem E5{i:Int}:pn (vi i) st=.ok (vi (-i)) st:=rfl
theorem EZ{i:Int}:Bf.f .abs [vi i] st=.ok (vi (if i<0 then-i else i)) st:=rfl
theorem Ey{a b:AV}:bH (.v (.tup [a,b])) (vi 0) st=.ok (.v a) st:=rfl
theorem Ez{a b:AV}:bH (.v (.tup [a,b])) (vi 1) st=.ok (.v b) st:=rfl
theorem rE{a b:AV}:qR [.v a,.v b] st=.ok (.v (.tup [a,b])) st:=rfl
theorem vG:aP f .done st=.ok .next st:=rfl
theorem j9{a b:XS}:aP f (.seq a b) st=(aP f a st).bind λfl st=>nM fl (aP f b) st:=rfl
theorem zP{swp:Bool}{is:List Nat}{x:X}:aP f (.setT swp is x) st=(ev f x st).bind λv st=>qS swp is v st:=rfl
theorem FR{c:X}{a b:XS}:aP f (.ifs c a b) st=(ev f c st).bind λt st=>(cm t st).bind λt st=>cond t (aP f a st) (aP f b st):=rfl
theorem ow{x:X}:aP f (.ret x) st=(ev f x st).bind λv st=>.ok (.ret v) st:=rfl
theorem qh{k:St→Rs aY}:nM .next k st=k st:=rfl
theorem oI{v:RV}{k:St→Rs aY}:nM (.ret v) k st=.ok (.ret v) st:=rfl
theorem zx{i j:Nat}{a b:AV}{l:List (Option RV)}:qS true [i,j] (.v (.tup [a,b])) ⟨l,H⟩=.ok .next ⟨bp (bp l j (some (.v b))) i (some (.v a)),H⟩:=rfl
theorem pR{g:Nat}{x:RV}:gQ true g (.ok (.ret x) st)=.ok x st.H:=rfl
end
end
section
structure An where
 k:Nat
 a:Addr
 x:RV
 H:List ac
 b:Bool
 l:List (Option RV)
noncomputable def An.call(a:Addr)(x:RV)(H:List ac):An:=⟨0,a,x,H,true,[]⟩
noncomputable def An.v(k:Nat)(x:RV):An:=⟨k,0,x,[],true,[]⟩
noncomputable def An.clo:RV→An:=.v 1
noncomputable def An.cond(b:Bool):An:=⟨2,0,.loc 0,[],b,[]⟩
noncomputable def An.prim:RV→An:=.v 3
noncomputable def An.bop:RV→An:=.v 4
noncomputable def An.sb:RV→An:=.v 5
noncomputable def An.sl:RV→An:=.v 6
noncomputable def An.cef:RV→An:=.v 7
noncomputable def An.grd:An:=.v 8 (.loc 0)
noncomputable def An.comp:RV→An:=.v 9
noncomputable def An.eff(x:RV)(H:List ac):An:=⟨10,0,x,H,true,[]⟩
noncomputable def An.loop(s:St):An:=⟨11,0,.loc 0,s.H,true,s.loc⟩
noncomputable def An.frz(l:List (Option RV)):An:=⟨12,0,.loc 0,[],true,l⟩
noncomputable abbrev Qm(α:Type):=List An→St→(α→List An→St→Prop)→Prop
noncomputable abbrev dq:=AV→List RV→List ac→List An→(RV→List An→List ac→Prop)→Prop
noncomputable def Sq{α:Type}(q:Qm α)(g:Fm α):Prop:=∀ans st K,q ans st K→∃a ans' st',g st=.ok a st'∧K a ans' st'
noncomputable def h9(F:dq)(f:Fo):Prop:=∀g args H ans K,F g args H ans K→∃x ans' H',f g args H=.ok x H'∧K x ans' H'
noncomputable def pP{α:Type}:Qm α:=λ_ _ _=>False
noncomputable def FC{α:Type}(r:Rs α)(k:α→St→Prop):Prop:=match r with
 |.ok a st'=>k a st'
 |_=>False
noncomputable def bT{α:Type}(g:Fm α):Qm α:=λans st K=>FC (g st) λa st'=>K a ans st'
noncomputable def aX{α β:Type}(q:Qm α)(k:α→Qm β):Qm β:=λans st K=>q ans st λa ans' st'=>k a ans' st' K
noncomputable def qT{α:Type}(k:Nat)(q:An→Qm α)(e:Qm α):Qm α:=λans st K=>List.casesOn (motive:=λ_=>Prop) ans (e [] st K) λa r=>_root_.cond (Nat.beq a.k k) (q a r st K) (e (a::r) st K)
noncomputable def qV(g:Fm RV)(a:An):Qm RV:=λr st K=>(∀st',g st'=.ok a.x st')∧K a.x r st
noncomputable def qW(g:Fm RV)(a:An):Qm RV:=λr st K=>(∀loc,g ⟨loc,st.H⟩=.ok a.x ⟨loc,a.H⟩)∧K a.x r ⟨st.loc,a.H⟩
noncomputable def mw(g:Fm RV):Qm RV:=qT 3 (qV g) (bT g)
noncomputable def Fw(g:Fm RV):Qm RV:=qT 10 (qW g) (bT g)
noncomputable def Fu(g:Fm RV):Qm RV:=qT 4 (qV g) (mw g)
noncomputable def Fv(g:Fm RV):Qm RV:=qT 7 (λa r st K=>(∀loc,g ⟨loc,st.H⟩=.ok a.x ⟨loc,st.H⟩)∧K a.x r st) (mw g)
noncomputable def FD(g:Fm RV):Qm RV:=qT 5 (qV g) (bT g)
noncomputable def FE(g:Fm RV):Qm RV:=qT 6 (qV g) (mw g)
noncomputable def FB(g:Fm RV):Qm RV:=qT 10 (qW g) (mw g)
noncomputable def my(a:RV):Qm Bool:=qT 2 (λc r st K=>match a with
 |.v (.bool t)=>t=c.b∧K c.b r st
 |_=>False) (bT (cm a))
noncomputable def j7{α:Type}(c:Bool)(q:Qm α):Qm α:=λans st K=>match c with
 |true=>q ans st K
 |false=>False
noncomputable def pQ{α β:Type}(o:Option α)(q:α→Qm β):Qm β:=λans st K=>match o with
 |some x=>q x ans st K
 |none=>False
noncomputable def mr{α:Type}(t:Bool)(q r:Qm α):Qm α:=λans st K=>match t with
 |true=>q ans st K
 |false=>r ans st K
noncomputable def se{α:Type}(h:St→Qm α):Qm α:=λans st K=>h st ans st K
section
variable{α β:Type}
theorem Sq.no{g:Fm α}:Sq pP g:=λ_ _ _ h=>h.elim
theorem Sq.lift{g:Fm α}:Sq (bT g) g:=λans st K h=>by
 revert h;show FC _ _→_;cases e:g st with
 |ok a st'=>exactλh=>⟨a,ans,st',rfl,h⟩
 |bad=>exactλh=>h.elim
 |err=>exactλh=>h.elim
theorem Sq.bd{q:Qm α}{g:Fm α}{k:α→Qm β}{h:α→Fm β}(hq:Sq q g)(hk:∀a,Sq (k a) (h a)):Sq (aX q k) (λst=>(g st).bind λa st'=>h a st'):=λans st K w=>by obtain⟨a,ans1,eH,e,w⟩:=hq _ _ _ w;obtain⟨b,ans2,dC,e2,w⟩:=hk a _ _ _ w;exact⟨b,ans2,dC,by show(g st).bind _=_;rw[e];exact e2,w⟩
theorem Sq.tag{k:Nat}{q:An→Qm α}{e:Qm α}{g:Fm α}(h:∀a,Sq (q a) g)(he:Sq e g):Sq (qT k q e) g:=λans st K w=>by
 cases ans with
 |nil=>exact he _ _ _ w
 |cons a r=>
  revert w;show _root_.cond (Nat.beq a.k k) _ _→_;cases Nat.beq a.k k with
  |true=>exactλw=>h a r st K w
  |false=>exactλw=>he _ _ _ w
theorem Sq.qv{g:Fm RV}(a:An):Sq (qV g a) g:=λ_ st _ h=>⟨_,_,_,h.1 st,h.2⟩
theorem Sq.qw{g:Fm RV}(a:An):Sq (qW g a) g:=λ_ st _ h=>⟨_,_,_,h.1 st.loc,h.2⟩
theorem Sq.pr{g:Fm RV}:Sq (mw g) g:=.tag .qv .lift
theorem Sq.ef{g:Fm RV}:Sq (Fw g) g:=.tag .qw .lift
theorem Sq.bo{g:Fm RV}:Sq (Fu g) g:=.tag .qv .pr
theorem Sq.ce{g:Fm RV}:Sq (Fv g) g:=.tag (λ_ _ st _ h=>⟨_,_,_,h.1 st.loc,h.2⟩) .pr
theorem Sq.sb{g:Fm RV}:Sq (FD g) g:=.tag .qv .lift
theorem Sq.sl{g:Fm RV}:Sq (FE g) g:=.tag .qv .pr
theorem Sq.pe{g:Fm RV}:Sq (FB g) g:=.tag .qw .pr
theorem Sq.tru{a:RV}:Sq (my a) (cm a):=.tag (λc r st K h=>by
 cases a with
 |loc _=>exact h.elim
 |v y=>cases y<;>first|exact h.elim|exact⟨_,_,_,congrArg (Rs.ok · st) h.1,h.2⟩) .lift
theorem Sq.gd{c:Bool}{q:Qm α}{g:Fm α}(h:Sq q g):Sq (j7 c q) (aK c g):=λans st K w=>by
 cases c
 ·exact w.elim
 ·exact h _ _ _ w
theorem Sq.opt{o:Option α}{q:α→Qm β}{g:α→Fm β}(h:∀a,Sq (q a) (g a)):Sq (pQ o q) (aj o g):=λans st K w=>by
 cases o
 ·exact w.elim
 ·exact h _ _ _ _ w
theorem Sq.at{h:St→Qm α}{g:St→Fm α}(w:∀s,Sq (h s) (g s)):Sq (se h) (λst=>g st st):=λans st K q=>w st _ _ _ q
theorem Sq.cnd{c:Bool}{q r:Qm α}{g h:Fm α}(hq:Sq q g)(hr:Sq r h):Sq (mr c q r) (λst=>match c with|true=>g st|false=>h st):=by
 cases c
 ·exact hr
 ·exact hq
end
theorem Sq.cnt{α:Type}{t:Bool}{q r:Qm α}{g h:Fm α}(hq:Sq q g)(hr:Sq r h):Sq (mr t q r) (λst=>cond (t==true) (g st) (h st)):=by
 cases t
 ·exact hr
 ·exact hq
theorem Sq.cnf{α:Type}{t:Bool}{q r:Qm α}{g h:Fm α}(hq:Sq q g)(hr:Sq r h):Sq (mr t q r) (λst=>cond (t==false) (h st) (g st)):=by
 cases t
 ·exact hr
 ·exact hq
noncomputable def uw(m:Nat)(g:AV)(args:List RV)(H:List ac):Bool:=jL g&&(Nat.ble H.length m||(args.all (RV.below m)&&(H.take m).all (ac.belowB m)))
noncomputable def sf(F:dq)(m:Nat)(g:AV)(args:List RV):Qm RV:=λans st K=>F g args (st.H.take m) ans λx ans' H'=>(match Nat.ble st.H.length m||Nat.beq H'.length m with
   |true=>K x ans' ⟨st.loc,H'++st.H.drop m⟩
   |false=>False)
noncomputable def zE(F:dq)(m:Nat)(f:RV)(args:List RV):Qm RV:=match f with
 |.v g=>qT 8 (λa r st K=>cond (Nat.beq m 2&& !Nat.ble st.H.length m)
   (cond (jL g&&args.all (RV.below m)) ((st.H.take m).all (ac.belowB m)=true∧sf F m g args r st K) False)
   (cond (uw m g args st.H) (sf F m g args (a::r) st K) False))
  λans st K=>cond (uw m g args st.H) (sf F m g args ans st K) False
 |.loc _=>pP
theorem xA{c:Bool}{P:Prop}(h:cond c P False):c=true∧P:=by
 cases c
 ·exact h.elim
 ·exact⟨rfl,h⟩
theorem Sq.call{F:dq}{f:Fo}(h:h9 F f){m:Nat}{g:RV}{args:List RV}:Sq (zE F m g args) (jj f m g args):=by
 cases g with
 |loc i=>exact Sq.no
 |v g=>
 have key:∀{ans st K},uw m g args st.H=true∧sf F m g args ans st K→∃a ans' st',jj f m (.v g) args st=.ok a st'∧K a ans' st':=λ{ans st K} w=>by
  delta jj
  obtain⟨hg,w⟩:=w;obtain⟨x,ans1,H1,e,w⟩:=h _ _ _ _ _ w;revert w;cases c:(Nat.ble st.H.length m||Nat.beq H1.length m) with
  |false=>exactλw=>w.elim
  |true=>intro w;refine⟨x,ans1,_,?_,w⟩;have hg:=aA hg;show aK (jL g) (λst=>aK (Nat.ble st.H.length m||(args.all (RV.below m)&&(st.H.take m).all (ac.belowB m))) (λst=>((f g args (st.H.take m)).rs λx H'=>aK (Nat.ble st.H.length m||Nat.beq H'.length m) (λ_=>.ok x ⟨st.loc,H'++st.H.drop m⟩) st)) st) st=_;rw[hg.1];show aK (Nat.ble st.H.length m||(args.all (RV.below m)&&(st.H.take m).all (ac.belowB m))) (λst=>((f g args (st.H.take m)).rs λx H'=>aK (Nat.ble st.H.length m||Nat.beq H'.length m) (λ_=>.ok x ⟨st.loc,H'++st.H.drop m⟩) st)) st=_;rw[hg.2];show((f g args (st.H.take m)).rs λx H'=>aK (Nat.ble st.H.length m||Nat.beq H'.length m) (λ_=>.ok x ⟨st.loc,H'++st.H.drop m⟩) st)=_;rw[e];show aK (Nat.ble st.H.length m||Nat.beq H1.length m) (λ_=>_) st=_;rw[c];rfl
 refine Sq.tag (g:=jj f m (.v g) args) (e:=λans st K=>cond (uw m g args st.H) (sf F m g args ans st K) False) (λa ans st K w=>?_) λans st K w=>key (xA w);revert w;show cond _ _ _→_;cases Nat.beq m 2&& !Nat.ble st.H.length m with
 |true=>exactλw=>(λq=>key ⟨by show(jL g&&(Nat.ble st.H.length m||(args.all (RV.below m)&&(st.H.take m).all (ac.belowB m))))=true;rw[(aA q.1).1,(aA q.1).2,q.2.1,AB,AB,sX],q.2.2⟩) (xA w)
 |false=>exactλw=>key (xA w)
noncomputable def zI(F:dq)(j m:Nat)(l:Qm (List RV))(a:RV):Qm RV:=se λs=>pQ (nV a s.H) λq=>pQ (n4 q.1 j uQ) λf=>j7 (jY j q.2).isNone (aX l λxs=>zE F m (.v (.glob (.ref f))) (a::xs))
theorem Sq.meth{F:dq}{f:Fo}(h:h9 F f){j m:Nat}{l:Qm (List RV)}{g:Fm (List RV)}(hl:Sq l g){a:RV}:Sq (zI F j m l a) (xT f j m g a):=λans st K w=>
by
 delta zI se at w
 obtain⟨x,a1,s1,e,w⟩:=Sq.opt (g:=λq=>aj (n4 q.1 j uQ) λu=>aK (jY j q.2).isNone λst=>(g st).bind λxs st'=>jj f m (.v (.glob (.ref u))) (a::xs) st') (o:=nV a st.H) (λq=>Sq.opt λ_=>Sq.gd (Sq.bd hl λ_=>Sq.call h)) ans st K w;exact⟨x,a1,s1,e,w⟩
noncomputable abbrev uu(is:List Nat)(g:Fm RV):List (List RV)→List RV→Fm (List RV):=fC is none g
noncomputable abbrev fm(is:List Nat)(c g:Fm RV):List (List RV)→List RV→Fm (List RV):=fC is (some c) g
noncomputable def vC(is:List Nat)(e:Qm RV):List (List RV)→List RV→Qm (List RV)
 |[],acc=>bT (aI acc)
 |x::r,acc=>j7 (Nat.beq x.length is.length) λans st K=>e ans ⟨dY st.loc is x,st.H⟩ λy ans' st'=>j7 (Nat.blt acc.length 1000) (vC is e r (acc++[y])) ans' st' K
noncomputable def vz(is:List Nat)(c e:Qm RV):List (List RV)→List RV→Qm (List RV)
 |[],acc=>bT (aI acc)
 |x::r,acc=>j7 (Nat.beq x.length is.length) λans st K=>c ans ⟨dY st.loc is x,st.H⟩ λt ans' st'=>my t ans' st' λt ans' st'=>match t with
  |true=>e ans' st' λy ans2 dC=>j7 (Nat.blt acc.length 1000) (vz is c e r (acc++[y])) ans2 dC K
  |false=>vz is c e r acc ans' st' K
noncomputable def zK(is is2:List Nat)(u:Qm (List (List RV)))(e:Qm RV):List (List RV)→List RV→Qm (List RV)
 |[],acc=>bT (aI acc)
 |x::r,acc=>j7 (Nat.beq x.length is.length) λans st K=>u ans ⟨dY st.loc is x,st.H⟩ λys ans' st'=>vC is2 e ys acc ans' st' λacc' ans2 dC=>zK is is2 u e r acc' ans2 dC K
theorem Sq.goX{is:List Nat}{e:Qm RV}{g:Fm RV}(h:Sq e g):∀{xs acc},Sq (vC is e xs acc) (Mine.Internal.uu is g xs acc)
 |[],acc=>Sq.lift
 |x::r,acc=>Sq.gd λans st K w=>by obtain⟨y,a1,s1,e1,w⟩:=h _ _ _ w;obtain⟨z,a2,s2,e2,w⟩:=Sq.gd (c:=Nat.blt acc.length 1000) (Sq.goX h (xs:=r) (acc:=acc++[y])) _ _ _ w;refine⟨z,a2,s2,?_,w⟩;show(g _).bind _=_;rw[e1];exact e2
theorem Sq.goC{is:List Nat}{c e:Qm RV}{gc g:Fm RV}(hc:Sq c gc)(h:Sq e g):∀{xs acc},Sq (vz is c e xs acc) (Mine.Internal.fm is gc g xs acc)
 |[],acc=>Sq.lift
 |x::r,acc=>Sq.gd λans st K w=>by
  obtain⟨t,a1,s1,e1,w⟩:=hc _ _ _ w;obtain⟨t',a2,s2,e2,w⟩:=Sq.tru _ _ _ w;cases t' with
  |false=>obtain⟨z,a3,s3,e3,w⟩:=Sq.goC hc h _ _ _ w;refine⟨z,a3,s3,?_,w⟩;show((gc _).bind λx st=>cm x st).bind _=_;rw[e1];show(cm t s1).bind _=_;rw[e2];exact e3
  |true=>obtain⟨y,a3,s3,e3,w⟩:=h _ _ _ w;obtain⟨z,a4,s4,e4,w⟩:=Sq.gd (c:=Nat.blt acc.length 1000) (Sq.goC hc h (xs:=r) (acc:=acc++[y])) _ _ _ w;refine⟨z,a4,s4,?_,w⟩;show((gc _).bind λx st=>cm x st).bind _=_;rw[e1];show(cm t s1).bind _=_;rw[e2];show(g _).bind _=_;rw[e3];exact e4
theorem Sq.go2{is is2:List Nat}{u:Qm (List (List RV))}{gu:Fm (List (List RV))}{e:Qm RV}{g:Fm RV}(hu:Sq u gu)(h:Sq e g):∀{xs acc},Sq (zK is is2 u e xs acc) (Mine.Internal.iU is is2 gu g xs acc)
 |[],acc=>Sq.lift
 |x::r,acc=>Sq.gd λans st K w=>by obtain⟨ys,a1,s1,e1,w⟩:=hu _ _ _ w;obtain⟨acc',a2,s2,e2,w⟩:=Sq.goX h _ _ _ w;obtain⟨z,a3,s3,e3,w⟩:=Sq.go2 hu h _ _ _ w;refine⟨z,a3,s3,?_,w⟩;show(gu _).bind _=_;rw[e1];show(Mine.Internal.uu _ _ _ _ _).bind _=_;rw[e2];exact e3
noncomputable def vp(n k:Nat)(caps:List Nat)(g:Fo→List (List RV)→List RV→Fm (List RV))(q:List (List RV)→List RV→Qm (List RV))(xs:List (List RV)):Qm RV:=qT 9 (λa r st K=>(∀m,n≤m→fj k caps (g (fo m)) xs st=.ok a.x st)∧K a.x r st)
 λans st K=>q xs [] ans ⟨gy k (d9 st.loc caps),st.H⟩ λacc ans' st'=>(match bY acc with
  |some r=>K (.v (.lst r)) ans' ⟨st.loc,st'.H⟩
  |none=>False)
theorem Sq.comp{n k m:Nat}{caps:List Nat}{g:Fo→List (List RV)→List RV→Fm (List RV)}{q:List (List RV)→List RV→Qm (List RV)}(hm:n≤m)(h:∀xs acc,Sq (q xs acc) (g (fo m) xs acc)){xs:List (List RV)}:Sq (vp n k caps g q xs) (fj k caps (g (fo m)) xs):=.tag (λ_ _ _ _ w=>⟨_,_,_,w.1 m hm,w.2⟩) λans st K w=>by
  obtain⟨acc,a1,s1,e1,w⟩:=h _ _ _ _ _ w;revert w;cases e:bY acc with
  |none=>exactλw=>w.elim
  |some r=>
   intro w;refine⟨_,a1,_,?_,w⟩
   delta fj
   rw[e1];show aj (bY acc) _ _=_;rw[e];rfl
section
variable(n:Nat)(F:dq)
mutual
noncomputable def qx:X→Qm RV
 |.bad=>pP
 |.var i=>bT (uh i)
 |.con x=>bT (aI (.v x))
 |.glf a=>bT (aI (.v (.glob (.ref a))))
 |.glc i=>bT (aI (.v (ul i)))
 |.bin op own a b=>aX (qx a) λx=>aX (qx b) λy=>Fu (fP op own x y)
 |.pow a b=>aX (qx a) λx=>aX (qx b) λy=>bT (uc x y)
 |.cmp op a b=>aX (qx a) λx=>aX (qx b) λy=>Fv (cj op x y)
 |.cmpI a b=>aX (qx a) λx=>aX (qx b) λy=>bT (t7 x y)
 |.cmpD a b=>aX (qx a) λx=>aX (qx b) λy=>mw (qP x y)
 |.cmp2 o1 o2 a b c=>aX (qx a) λx=>aX (qx b) λy=>aX (mw (cj o1 x y)) λt=>aX (my t) λt=>mr t (aX (qx c) (λz=>mw (cj o2 y z))) (bT (aI (.v (.bool false))))
 |.no a=>aX (qx a) λx=>bT (pq x)
 |.neg a=>aX (qx a) λx=>bT (pn x)
 |.ite c a b=>aX (qx c) λx=>aX (my x) λt=>mr t (qx a) (qx b)
 |.and a b=>aX (qx a) λx=>aX (my x) λt=>mr t (qx b) (bT (aI x))
 |.or a b=>aX (qx a) λx=>aX (my x) λt=>mr t (bT (aI x)) (qx b)
 |.attr j a=>aX (qx a) λx=>bT (t5 j x)
 |.sub a i=>aX (qx a) λx=>aX (qx i) λy=>FD (bH x y)
 |.sli own a lo hi z=>aX (qx a) λx=>aX (qx lo) λl=>aX (qx hi) λh=>aX (qx z) λz=>FE (l6 own x l h z)
 |.call m f l=>aX (qx f) λx=>aX (qL l) λxs=>zE F m x xs
 |.meth j m o l=>aX (qx o) λx=>zI F j m (qL l) x
 |.bm k o l=>aX (qx o) λx=>se λs=>j7 (k.ok x s.H) (aX (qL l) λxs=>Fw (k.f x xs))
 |.bf k l=>aX (qL l) λxs=>FB (k.f xs)
 |.isi cs a=>aX (qx a) λx=>bT (t9 cs x)
 |.tup l=>aX (qL l) λxs=>bT (qR xs)
 |.lst own l=>aX (qL l) λxs=>bT (xR own xs)
 |.dct own ks l=>aX (qL l) λxs=>bT (t8 own ks xs)
 |.comp k caps is u e=>aX (qU u) λxs=>vp n k caps (λf=>uu is (ev f e)) (vC is (qx e)) xs
 |.compc k caps is u c e=>aX (qU u) λxs=>vp n k caps (λf=>fm is (ev f c) (ev f e)) (vz is (qx c) (qx e)) xs
 |.comp2 k caps is is2 u u2 e=>aX (qU u) λxs=>vp n k caps (λf=>iU is is2 (gR f u2) (ev f e)) (zK is is2 (qU u2) (qx e)) xs
noncomputable def qL:XL→Qm (List RV)
 |.nil=>bT (aI [])
 |.cons x l=>aX (qx x) λy=>aX (qL l) λr=>bT (aI (y::r))
noncomputable def qU:XU→Qm (List (List RV))
 |.ones x=>aX (qx x) λy=>bT (ua y)
 |.tups x=>aX (qx x) λy=>bT (xY y)
 |.enum x=>aX (qx x) λy=>bT (xO y)
 |.zip a b=>aX (qx a) λx=>aX (qx b) λy=>bT (ui x y)
 |.range x=>aX (qx x) λy=>bT (xV y)
end
end
section
variable{n m:Nat}{F:dq}(hm:n≤m)(hF:h9 F (fo m))
include hm hF
mutual
theorem ba:∀x:X,Sq (qx n F x) (ev (fo m) x)
 |.bad=>Sq.no
 |.var i=>Sq.lift
 |.con x=>Sq.lift
 |.glf a=>Sq.lift
 |.glc i=>Sq.lift
 |.bin op own a b=>Sq.bd (ba a) λ_=>Sq.bd (ba b) λ_=>Sq.bo
 |.pow a b=>Sq.bd (ba a) λ_=>Sq.bd (ba b) λ_=>Sq.lift
 |.cmp op a b=>Sq.bd (ba a) λ_=>Sq.bd (ba b) λ_=>Sq.ce
 |.cmpI a b=>Sq.bd (ba a) λ_=>Sq.bd (ba b) λ_=>Sq.lift
 |.cmpD a b=>Sq.bd (ba a) λ_=>Sq.bd (ba b) λ_=>Sq.pr
 |.cmp2 o1 o2 a b c=>Sq.bd (ba a) λ_=>Sq.bd (ba b) λ_=>Sq.bd Sq.pr λ_=>Sq.bd Sq.tru λ_=>Sq.cnd (Sq.bd (ba c) λ_=>Sq.pr) Sq.lift
 |.no a=>Sq.bd (ba a) λ_=>Sq.lift
 |.neg a=>Sq.bd (ba a) λ_=>Sq.lift
 |.ite c a b=>Sq.bd (ba c) λ_=>Sq.bd Sq.tru λ_=>Sq.cnd (ba a) (ba b)
 |.and a b=>Sq.bd (ba a) λ_=>Sq.bd Sq.tru λ_=>Sq.cnt (ba b) Sq.lift
 |.or a b=>Sq.bd (ba a) λ_=>Sq.bd Sq.tru λ_=>Sq.cnf Sq.lift (ba b)
 |.attr j a=>Sq.bd (ba a) λ_=>Sq.lift
 |.sub a i=>Sq.bd (ba a) λ_=>Sq.bd (ba i) λ_=>Sq.sb
 |.sli own a lo hi z=>Sq.bd (ba a) λ_=>Sq.bd (ba lo) λ_=>Sq.bd (ba hi) λ_=>Sq.bd (ba z) λ_=>Sq.sl
 |.call m f l=>Sq.bd (ba f) λ_=>Sq.bd (lq l) λ_=>Sq.call hF
 |.meth j m o l=>Sq.bd (ba o) λ_=>Sq.meth hF (lq l)
 |.bm k o l=>Sq.bd (ba o) λ_=>Sq.at λ_=>Sq.gd (Sq.bd (lq l) λ_=>Sq.ef)
 |.bf k l=>Sq.bd (lq l) λ_=>Sq.pe
 |.isi cs a=>Sq.bd (ba a) λ_=>Sq.lift
 |.tup l=>Sq.bd (lq l) λ_=>Sq.lift
 |.lst own l=>Sq.bd (lq l) λ_=>Sq.lift
 |.dct own ks l=>Sq.bd (lq l) λ_=>Sq.lift
 |.comp k caps is u e=>Sq.bd (sg u) λ_=>Sq.comp (g:=λf=>uu is (ev f e)) hm λ_ _=>Sq.goX (ba e)
 |.compc k caps is u c e=>Sq.bd (sg u) λ_=>Sq.comp (g:=λf=>fm is (ev f c) (ev f e)) hm λ_ _=>Sq.goC (ba c) (ba e)
 |.comp2 k caps is is2 u u2 e=>Sq.bd (sg u) λ_=>Sq.comp (g:=λf=>iU is is2 (gR f u2) (ev f e)) hm λ_ _=>Sq.go2 (sg u2) (ba e)
theorem lq:∀l:XL,Sq (qL n F l) (cK (fo m) l)
 |.nil=>Sq.lift
 |.cons x l=>Sq.bd (ba x) λ_=>Sq.bd (lq l) λ_=>Sq.lift
theorem sg:∀u:XU,Sq (qU n F u) (gR (fo m) u)
 |.ones x=>Sq.bd (ba x) λ_=>Sq.lift
 |.tups x=>Sq.bd (ba x) λ_=>Sq.lift
 |.enum x=>Sq.bd (ba x) λ_=>Sq.lift
 |.zip a b=>Sq.bd (ba a) λ_=>Sq.bd (ba b) λ_=>Sq.lift
 |.range x=>Sq.bd (ba x) λ_=>Sq.lift
end
end
noncomputable def sh(slot:Nat)(body:Qm aY):List RV→Qm aY
 |[]=>bT (aI .next)
 |x::r=>λans st K=>body ans ⟨bp st.loc slot (some x),st.H⟩ λfl ans' st'=>match fl with
  |.next=>sh slot body r ans' st' K
  |.cont=>sh slot body r ans' st' K
  |.brk=>K .next ans' st'
  |.ret v=>K (.ret v) ans' st'
noncomputable def vA(is:List Nat)(body:Qm aY):List (List RV)→Qm aY
 |[]=>bT (aI .next)
 |x::r=>j7 (Nat.beq x.length is.length) λans st K=>body ans ⟨dY st.loc is x,st.H⟩ λfl ans' st'=>match fl with
  |.next=>vA is body r ans' st' K
  |.cont=>vA is body r ans' st' K
  |.brk=>K .next ans' st'
  |.ret v=>K (.ret v) ans' st'
noncomputable def vB(c:Qm RV)(b:Qm aY):Nat→Qm aY
 |0=>pP
 |n+1=>λans st K=>c ans st λt ans1 eH=>my t ans1 eH λt ans2 dC=>match t with
  |true=>b ans2 dC λfl ans' st'=>(match fl with
   |.next=>vB c b n ans' st' K
   |.cont=>vB c b n ans' st' K
   |.brk=>K .next ans' st'
   |.ret v=>K (.ret v) ans' st')
  |false=>K .next ans2 dC
theorem Sq.go1{i:Nat}{b:Qm aY}{g:Fm aY}(h:Sq b g):∀{xs},Sq (sh i b xs) (Mine.Internal.iz i g xs)
 |[]=>Sq.lift
 |x::r=>λans st K w=>by
  obtain⟨fl,a1,s1,e1,w⟩:=h _ _ _ w
  have e:Mine.Internal.iz i g (x::r) st=(g ⟨bp st.loc i (some x),st.H⟩).bind λfl st'=>match fl with
   |.next=>Mine.Internal.iz i g r st'
   |.cont=>Mine.Internal.iz i g r st'
   |.brk=>.ok .next st'
   |.ret v=>.ok (.ret v) st':=rfl
  rw[e1] at e;cases fl with
  |next=>obtain⟨z,a2,s2,e2,w⟩:=Sq.go1 h (xs:=r) _ _ _ w;exact⟨z,a2,s2,e.trans e2,w⟩
  |cont=>obtain⟨z,a2,s2,e2,w⟩:=Sq.go1 h (xs:=r) _ _ _ w;exact⟨z,a2,s2,e.trans e2,w⟩
  |brk=>exact⟨_,_,_,e,w⟩
  |ret v=>exact⟨_,_,_,e,w⟩
theorem Sq.goT{is:List Nat}{b:Qm aY}{g:Fm aY}(h:Sq b g):∀{xs},Sq (vA is b xs) (Mine.Internal.iA is g xs)
 |[]=>Sq.lift
 |x::r=>Sq.gd λans st K w=>by
  obtain⟨fl,a1,s1,e1,w⟩:=h _ _ _ w
  show∃a ans' st',((g ⟨dY st.loc is x,st.H⟩).bind λfl st'=>match fl with
   |.next=>Mine.Internal.iA is g r st'
   |.cont=>Mine.Internal.iA is g r st'
   |.brk=>.ok .next st'
   |.ret v=>.ok (.ret v) st')=_∧_
  rw[e1];cases fl with
  |next=>exact Sq.goT h (xs:=r) _ _ _ w
  |cont=>exact Sq.goT h (xs:=r) _ _ _ w
  |brk=>exact⟨_,_,_,rfl,w⟩
  |ret v=>exact⟨_,_,_,rfl,w⟩
theorem Sq.goW{c:Qm RV}{gc:Fm RV}{b:Qm aY}{g:Fm aY}(hc:Sq c gc)(h:Sq b g):∀{k},Sq (vB c b k) (Mine.Internal.jT gc g k)
 |0=>Sq.no
 |k+1=>λans st K w=>by
  obtain⟨t,a1,s1,e1,w⟩:=hc _ _ _ w;obtain⟨t',a2,s2,e2,w⟩:=Sq.tru _ _ _ w
  show∃a ans' st',((gc st).bind λt st=>(cm t st).bind λt st=>match t with
   |true=>(g st).bind λfl st'=>(match fl with
    |.next=>Mine.Internal.jT gc g k st'
    |.cont=>Mine.Internal.jT gc g k st'
    |.brk=>.ok .next st'
    |.ret v=>.ok (.ret v) st')
   |false=>.ok .next st)=_∧_
  rw[e1];show∃a ans' st',((cm t s1).bind _)=_∧_;rw[e2];cases t' with
  |false=>exact⟨_,_,_,rfl,w⟩
  |true=>
   obtain⟨fl,a3,s3,e3,w⟩:=h _ _ _ w;show∃a ans' st',((g s2).bind _)=_∧_;rw[e3];cases fl with
   |next=>exact Sq.goW hc h (k:=k) _ _ _ w
   |cont=>exact Sq.goW hc h (k:=k) _ _ _ w
   |brk=>exact⟨_,_,_,rfl,w⟩
   |ret v=>exact⟨_,_,_,rfl,w⟩
theorem Sq.noErr{α:Type}{q:Qm α}{g:Fm α}(h:Sq q g):Sq q (λst=>(g st).noErr):=λans st K w=>by obtain⟨a,a1,s1,e,w⟩:=h _ _ _ w;exact⟨a,a1,s1,by show(g st).noErr=_;rw[e];rfl,w⟩
noncomputable def vr(n:Nat)(g:Fo→Fm aY)(q:Qm aY):Qm aY:=qT 11 (λa r st K=>(∀m,n≤m→g (fo m) st=.ok .next ⟨a.l,a.H⟩)∧K .next r ⟨a.l,a.H⟩) q
theorem Sq.loop{n m:Nat}(hm:n≤m){g:Fo→Fm aY}{q:Qm aY}(h:Sq q (g (fo m))):Sq (vr n g q) (g (fo m)):=.tag (λ_ _ _ _ w=>⟨_,_,_,w.1 m hm,w.2⟩) h
noncomputable def Fy{α:Type}(g:Nat)(is:List Nat)(q:Qm α):Qm α:=qT 12 (λa r st K=>ix g st.H is st.loc=some a.l∧q r ⟨a.l,fD g st.H⟩ K)
 λans st K=>pQ (ix g st.H is st.loc) (λl ans st' K=>q ans ⟨l,fD g st.H⟩ K) ans st K
theorem Sq.fz{α:Type}{g:Nat}{is:List Nat}{q:Qm α}{m:Fm α}(h:Sq q m):Sq (Fy g is q) (xQ g is m):=.tag (λa r st K w=>by obtain⟨x,a1,s1,e,w2⟩:=h _ _ _ w.2;refine⟨x,a1,s1,?_,w2⟩;show aj (ix g st.H is st.loc) (λloc' _=>m ⟨loc',fD g st.H⟩) st=_;rw[w.1];exact e) λans st K w=>Sq.opt (g:=λloc' _=>m ⟨loc',fD g st.H⟩) (λl ans _ K w=>h ans ⟨l,fD g st.H⟩ K w) _ st K w
noncomputable def SN(q:Qm aY)(r:Qm aY):Qm aY:=λans st K=>q ans st λfl ans' st'=>match fl with
 |.next=>r ans' st' K
 |.brk=>K .brk ans' st'
 |.cont=>K .cont ans' st'
 |.ret x=>K (.ret x) ans' st'
noncomputable def qs(n:Nat)(F:dq):XS→Qm aY
 |.done=>bT (aI .next)
 |.bad=>pP
 |.seq a b=>SN (qs n F a) (qs n F b)
 |.set i x=>λans st K=>qx n F x ans st λv ans' st'=>K .next ans' ⟨bp st'.loc i (some v),st'.H⟩
 |.setT swp is x=>aX (qx n F x) λv=>bT (qS swp is v)
 |.setI x a i=>aX (qx n F x) λv=>aX (qx n F a) λo=>aX (qx n F i) λk=>bT (uf v o k)
 |.setD x a i=>aX (qx n F x) λv=>aX (qx n F a) λo=>aX (qx n F i) λk=>bT (ue v o k)
 |.setA j x a=>aX (qx n F x) λv=>aX (qx n F a) λo=>bT (ud j v o)
 |.ifs c a b=>aX (qx n F c) λt=>aX (my t) λt=>mr t (qs n F a) (qs n F b)
 |.ret x=>λans st K=>qx n F x ans st λv ans' st'=>K (.ret v) ans' st'
 |.expr x=>aX (qx n F x) λv=>j7 (uU v) (bT (aI .next))
 |.raise x=>pP
 |.for1 i x b=>aX (qx n F x) λv=>se λs=>pQ (jS v s.H) λxs=>vr n (λf=>iz i (aP f b) xs) (sh i (qs n F b) xs)
 |.forT is u b=>aX (qU n F u) λxs=>vr n (λf=>iA is (aP f b) xs) (vA is (qs n F b) xs)
 |.whl c b=>vB (qx n F c) (qs n F b) mQ
 |.fz g is s=>Fy g is (qs n F s)
section
variable{n m:Nat}{F:dq}(hm:n≤m)(hF:h9 F (fo m))
include hm hF
theorem jr:∀x:XS,Sq (qs n F x) (aP (fo m) x)
 |.done=>Sq.lift
 |.bad=>Sq.no
 |.seq a b=>λans st K w=>by
  obtain⟨fl,a1,s1,e1,w⟩:=jr a _ _ _ w
  show∃a ans' st',((aP (fo m) _ st).bind λfl st'=>match fl with
   |.next=>aP (fo m) b st'
   |.brk=>.ok .brk st'
   |.cont=>.ok .cont st'
   |.ret x=>.ok (.ret x) st')=_∧_
  rw[e1];cases fl with
  |next=>exact jr b _ _ _ w
  |brk=>exact⟨_,_,_,rfl,w⟩
  |cont=>exact⟨_,_,_,rfl,w⟩
  |ret v=>exact⟨_,_,_,rfl,w⟩
 |.set i x=>λans st K w=>by obtain⟨v,a1,s1,e1,w⟩:=ba hm hF x _ _ _ w;exact⟨_,_,_,by show(ev (fo m) x st).bind _=_;rw[e1];rfl,w⟩
 |.setT swp is x=>Sq.bd (ba hm hF x) λ_=>Sq.lift
 |.setI x a i=>Sq.bd (ba hm hF x) λ_=>Sq.bd (ba hm hF a) λ_=>Sq.bd (ba hm hF i) λ_=>Sq.lift
 |.setD x a i=>Sq.bd (ba hm hF x) λ_=>Sq.bd (ba hm hF a) λ_=>Sq.bd (ba hm hF i) λ_=>Sq.lift
 |.setA j x a=>Sq.bd (ba hm hF x) λ_=>Sq.bd (ba hm hF a) λ_=>Sq.lift
 |.ifs c a b=>Sq.bd (ba hm hF c) λ_=>Sq.bd Sq.tru λ_=>Sq.cnd (jr a) (jr b)
 |.ret x=>λans st K w=>by obtain⟨v,a1,s1,e1,w⟩:=ba hm hF x _ _ _ w;exact⟨_,_,_,by show(ev (fo m) x st).bind _=_;rw[e1];rfl,w⟩
 |.expr x=>Sq.bd (ba hm hF x) λ_=>Sq.gd Sq.lift
 |.raise x=>Sq.no
 |.for1 i x b=>Sq.bd (ba hm hF x) λv ans st K w=>by have w:pQ (jS v st.H) (λxs=>vr n (λf=>iz i (aP f b) xs) (sh i (qs n F b) xs)) ans st K:=w;obtain⟨a,a1,s1,e,w⟩:=Sq.opt (λxs=>Sq.loop (g:=λf=>iz i (aP f b) xs) hm (Sq.go1 (jr b) (xs:=xs))) _ _ _ w;exact⟨a,a1,s1,by show(aj (jS v st.H) (λxs st=>(iz i (aP (fo m) b) xs st).noErr) st)=_;revert e;cases jS v st.H<;>intro e;cases e;exact(by show(iz _ _ _ _).noErr=_;rw[show iz i (aP (fo m) b) _ st=_ from e];rfl),w⟩
 |.forT is u b=>Sq.bd (sg hm hF u) λxs=>Sq.noErr (Sq.loop (g:=λf=>iA is (aP f b) xs) hm (Sq.goT (jr b)))
 |.whl c b=>Sq.noErr (Sq.goW (ba hm hF c) (jr b))
 |.fz g is s=>Sq.fz (jr s)
end
end
section
noncomputable def aS(n:Nat)(g:AV)(args:List RV)(H:List ac)(x:RV)(H':List ac):Prop:=∀m,n≤m→fo m g args H=.ok x H'
theorem mK{a b:Nat}(h:Nat.ble a b=true):a≤b:=lT h
theorem mG{F a b:Nat}(h:Nat.ble a b=true):F+a≤F+b:=A1 (mK h) F
theorem mF{F k b:Nat}(hF:b≤F)(h:Nat.ble k b=true):k≤F:=aJ (mK h) hF
theorem mI{F k b c:Nat}(hF:b≤F)(h:Nat.ble k b=true):k≤F+c:=aJ (mF hF h) (eM F c)
theorem aS.mono{n k:Nat}{g:AV}{args:List RV}{H H':List ac}{x:RV}(h:aS n g args H x H')(l:n≤k:=by first|exact mK rfl|exact mG rfl|exact mF ‹_› rfl|exact mI ‹60≤_› rfl|omega):aS k g args H x H':=λm q=>h m (aJ l q)
noncomputable abbrev RK:=RV→List An→List ac→Prop
noncomputable def vq(whole:Bool)(g:Nat)(x:RV)(ans:List An)(H:List ac)(K:RK):Prop:=match whole with
 |true=>K x ans H
 |false=>match nO g x H with
  |some y=>(match H.take g with
   |[]=>K y ans []
   |o::l=>(o::l).all (ac.belowB g)=true∧K y ans (o::l))
  |none=>False
noncomputable def zF(whole:Bool)(g:Nat)(q:Qm aY)(ans:List An)(st:St)(K:RK):Prop:=q ans st λfl ans' st'=>match fl with
 |.ret x=>vq whole g x ans' st'.H K
 |.next=>vq whole g (.v .none) ans' st'.H K
 |_=>False
theorem zG{whole:Bool}{g:Nat}{x:RV}{ans:List An}{H:List ac}{K:RK}(h:vq whole g x ans H K):∃y ans' H',l7 whole g x H=.ok y H'∧K y ans' H':=by
 delta l7
 cases whole with
 |true=>exact⟨_,_,_,rfl,h⟩
 |false=>
  have h:(match nO g x H with
   |some y=>(match H.take g with
    |[]=>K y ans []
    |o::l=>(o::l).all (ac.belowB g)=true∧K y ans (o::l))
   |none=>False):=h
  revert h;show _→∃y ans' H',((nO g x H).casesOn .bad λy=>cond ((H.take g).all (ac.belowB g)) (.ok y (H.take g)) .bad:Rc)=.ok y H'∧K y ans' H';cases nO g x H with
  |none=>exactλh=>h.elim
  |some y=>
   dsimp only;cases H.take g with
   |nil=>exactλh=>⟨_,_,_,rfl,h⟩
   |cons o l=>intro h;have h:(o::l).all (ac.belowB g)=true∧K y ans (o::l):=h;rw[h.1];exact⟨_,_,_,rfl,h.2⟩
theorem Fx{whole:Bool}{g:Nat}{q:Qm aY}{m:Fm aY}(hq:Sq q m){ans:List An}{st:St}{K:RK}(h:zF whole g q ans st K):∃y ans' H',gQ whole g (m st)=.ok y H'∧K y ans' H':=by
 obtain⟨fl,a1,s1,e1,w⟩:=hq _ _ _ h;rw[e1];cases fl with
 |ret x=>exact zG w
 |next=>exact zG w
 |brk=>exact w.elim
 |cont=>exact w.elim
noncomputable def zL(n:Nat)(F:dq)(d:Df)(args:List RV)(H:List ac)(ans:List An)(K:RK):Prop:=match Nat.ble H.length d.gm with
 |true=>zF d.whole H.length (qs n F d.body) ans ⟨mf (args++d.da) (d.sl.length-(args++d.da).length),H⟩ K
 |false=>False
noncomputable def FG(F:dq)(whole:Bool)(fI c:Addr)(args:List RV)(H:List ac)(ans:List An)(K:RK):Prop:=F (.glob (.ref fI)) (.loc H.length::args) (H++[.inst c []]) ans λx ans' H'=>match x with
 |.v .none=>vq whole H.length (.loc H.length) ans' H' K
 |_=>False
noncomputable def FF(n:Nat)(F:dq)(c:AV)(args:List RV)(H:List ac)(ans:List An)(K:RK):Prop:=match args with
 |[x1,x2,x3,x4]=>zF true H.length (qs n F oK) ans ⟨[some x1,some x2,some x3,some x4,some (.v c)],H⟩ K
 |_=>False
noncomputable def zJ(n:Nat)(F:dq)(a:Addr)(args:List RV)(H:List ac)(ans:List An)(K:RK):Prop:=match tab.find? λd=>Nat.beq d.a a&&Nat.beq d.n args.length with
 |some d=>zL n F d args H ans K
 |none=>match gS a pb with
  |some q=>FG F q.2 q.1 a args H ans K
  |none=>match Nat.beq a 970 with
   |true=>(match args with
    |[.v c]=>K (.v (.clos c)) ans H
    |_=>False)
   |false=>False
noncomputable def lA(n:Nat)(F:dq):dq:=λg args H ans K=>match g with
 |.glob (.ref a)=>zJ n F a args H ans K
 |.clos c=>FF n F c args H ans K
 |_=>False
noncomputable def DR(a:Addr)(g:AV):Bool:=match g with
 |.glob (.ref b)=>Nat.beq a b
 |_=>false
noncomputable def DT(g:AV):Bool:=match g with
 |.clos _=>true
 |_=>false
noncomputable def zH(n:Nat)(run:dq):dq:=λg args H ans K=>List.casesOn (motive:=λ_=>Prop) ans (run g args H [] K) λa r=>cond (Nat.beq a.k 0&&DR a.a g) (aS n g args H a.x a.H∧K a.x r a.H) (cond (Nat.beq a.k 1&&DT g) (aS n g args H a.x H∧K a.x r H) (run g args H (a::r) K))
noncomputable def jq(n:Nat):Nat→dq
 |0=>zH n λ_ _ _ _ _=>False
 |k+1=>zH n (lA n (jq n k))
theorem Fz{n m:Nat}(hm:n≤m){run:dq}(h:h9 run (fo m)):h9 (zH n run) (fo m):=λg args H ans K w=>by
 cases ans with
 |nil=>exact h _ _ _ _ _ w
 |cons a r=>
  revert w;show cond _ _ (cond _ _ _)→_;cases Nat.beq a.k 0&&DR a.a g with
  |true=>exactλw=>⟨_,_,_,w.1 m hm,w.2⟩
  |false=>
   cases Nat.beq a.k 1&&DT g with
   |true=>exactλw=>⟨_,_,_,w.1 m hm,w.2⟩
   |false=>exactλw=>h _ _ _ _ _ w
theorem Kh{f:Fo}{c:AV}{x1 x2 x3 x4:RV}{H:List ac}:qE f c [x1,x2,x3,x4] H=gQ true H.length (aP f oK ⟨[some x1,some x2,some x3,some x4,some (.v c)],H⟩):=rfl
theorem ST{n m:Nat}(hm:n≤m){F:dq}(hF:h9 F (fo m)){d:Df}{args:List RV}{H:List ac}{ans:List An}{K:RK}(w:zL n F d args H ans K):∃x ans' H',sj (fo m) d args H=.ok x H'∧K x ans' H':=by
 delta sj
 revert w
 delta zL
 cases Nat.ble H.length d.gm with
 |false=>exactλw=>w.elim
 |true=>exactλw=>Fx (jr hm hF _) w
theorem SS{m:Nat}{F:dq}(hF:h9 F (fo m)){whole:Bool}{fI c:Addr}{args:List RV}{H:List ac}{ans:List An}{K:RK}(w:FG F whole fI c args H ans K):∃x ans' H',qF (fo m) whole fI c args H=.ok x H'∧K x ans' H':=by
 obtain⟨x,a1,H1,e,w⟩:=hF _ _ _ _ _ w
 delta qF
 rw[e];cases x with
 |loc _=>exact w.elim
 |v y=>cases y<;>first|exact w.elim|exact zG w
theorem SP{n m:Nat}(hm:n≤m){F:dq}(hF:h9 F (fo m)){a:Addr}{args:List RV}{H:List ac}{ans:List An}{K:RK}:zJ n F a args H ans K→∃x ans' H',qB (fo m) a args H=.ok x H'∧K x ans' H':=by
 delta zJ qB
 cases tab.find? λd=>Nat.beq d.a a&&Nat.beq d.n args.length with
 |some d=>exact ST hm hF
 |none=>
  dsimp only;cases gS a pb with
  |some q=>exact SS hF
  |none=>
   dsimp only
   delta tM
   cases Nat.beq a 970 with
   |false=>exactλw=>w.elim
   |true=>rcases args with _|⟨c|_,_|⟨_,_⟩⟩<;>first|exactλw=>w.elim|exactλw=>⟨_,_,_,rfl,w⟩
theorem SQ{n m:Nat}(hm:n≤m){F:dq}(hF:h9 F (fo m)){c:AV}{H:List ac}{ans:List An}{K:RK}:∀{args:List RV},FF n F c args H ans K→∃x ans' H',qE (fo m) c args H=.ok x H'∧K x ans' H':=λ{args}=>by rcases args with _|⟨x1,_|⟨x2,_|⟨x3,_|⟨x4,_|⟨x5,l⟩⟩⟩⟩⟩<;>first|exactλw=>w.elim|exactλw=>by rw[Kh];exact Fx (jr hm hF _) w
theorem FH{n m:Nat}(hm:n≤m){F:dq}(hF:h9 F (fo m)):h9 (lA n F) (fo (m+1)):=λg args H ans K w=>by
 cases g with
 |glob v=>cases v<;>first|exact w.elim|exact SP hm hF w
 |clos c=>exact SQ hm hF w
 |_=>exact w.elim
theorem vu(n:Nat):∀k m,n+k≤m→h9 (jq n k) (fo m)
 |0,m,h=>Fz h λ_ _ _ _ _ w=>w.elim
 |k+1,m,h=>by obtain⟨m',rfl⟩:∃m',m=m'+1:=⟨m-1,by omega⟩;exact Fz (by omega) (FH (by omega) (vu n k m' (by omega)))
theorem qI{a:Prop}{Q:Prop→Prop}(h:a)(f:∀D:Prop,D→Q D)(D:Prop)(d:D):a∧Q D:=⟨h,f D d⟩
theorem qZ(D:Prop)(d:D):D:=d
theorem br{n k N:Nat}{g:AV}{args:List RV}{H H':List ac}{x:RV}(ans:List An){Q:Prop→Prop}(h:∀D:Prop,D→Q D)
  (e:lA n (jq n k) g args H ans (λy _ H1=>Rc.ok y H1=Rc.ok x H')=Q (Rc.ok x H'=Rc.ok x H'):=by kernel_rfl)(hN:n+k+1≤N:=by first|exact bw _|exact mK rfl|omega):aS N g args H x H':=λm hm=>by obtain⟨m',rfl⟩:∃m',m=m'+1:=⟨m-1,by omega⟩;obtain⟨y,_,H1,e1,e2⟩:=FH (n:=n) (m:=m') (by omega) (vu n k m' (by omega)) g args H ans _ (e.symm▸h _ rfl);rw[e1,e2]
theorem aV{n:Nat}{g:AV}{args:List RV}{H H':List ac}{x:RV}(ans:List An){Q:Prop→Prop}(h:∀D:Prop,D→Q D)(e:lA n (jq n 11) g args H ans (λy _ H1=>Rc.ok y H1=Rc.ok x H')=Q (Rc.ok x H'=Rc.ok x H'):=by kernel_rfl):aS (n+12) g args H x H':=br ans h e (bw _)
theorem bG{n:Nat}{g:AV}{args:List RV}{H H':List ac}{x:RV}(ans:List An){Q:Prop→Prop}(h:∀D:Prop,D→Q D)(e:lA n (jq n 9) g args H ans (λy _ H1=>Rc.ok y H1=Rc.ok x H')=Q (Rc.ok x H'=Rc.ok x H'):=by kernel_rfl):aS (n+10) g args H x H':=br ans h e (bw _)
theorem lr{n k m:Nat}{s:XS}{st st':St}{fl:aY}(ans:List An){Q:Prop→Prop}(h:∀D:Prop,D→Q D)
  (e:qs n (jq n k) s ans st (λy _ s1=>Rs.ok y s1=Rs.ok fl st')=Q (Rs.ok fl st'=Rs.ok fl st'))(hm:n+k≤m):aP (fo m) s st=.ok fl st':=by obtain⟨y,_,s1,e1,e2⟩:=jr (by omega) (vu n k m hm) s ans st _ (e.symm▸h _ rfl);rw[e1,e2]
end
section
noncomputable def C4(fl:aY)(k:St→Rs aY)(st:St):Rs aY:=match fl with
 |.next=>k st
 |.cont=>k st
 |.brk=>.ok .next st
 |.ret v=>.ok (.ret v) st
theorem NG{c:Fm RV}{b:Fm aY}{n:Nat}{st:St}:jT c b (n+1) st=(c st).bind λt st=>(cm t st).bind λt st=>cond t ((b st).bind λfl st'=>C4 fl (jT c b n) st') (.ok .next st):=rfl
theorem LQ{k:St→Rs aY}{st:St}:C4 .next k st=k st:=rfl
theorem FV{f:Fo}{c:X}{b:XS}{st:St}:aP f (.whl c b) st=(jT (ev f c) (aP f b) mQ st).noErr:=rfl
noncomputable def fX(i:Int):Int:=if i>0 then 1 else if i<0 then-1 else 0
theorem Uy(n:Nat)(i:Int):fo (n+1) (.glob (.ref 37)) [vi i] []=.ok (vi (fX i)) []:=by
 show gQ true 0 (aP (fo n) Au ⟨[some (vi i)],[]⟩)=_;unfold fX Au;simp only[V0,dQ,pf,tY,qd,BU,vG,j9,FR,ow,oI,sV];split
 ·simp only[dQ,oI,pR]
 ·simp only[V0,dQ,pf,tY,Cy,qd,Ju,E5,vG,j9,FR,ow,qh,oI,sV];split<;>simp only[dQ,pf,j9,ow,qh,oI,pR]
theorem Uw(n:Nat)(p q:Int)(hq:q≠0):fo (n+1) (.glob (.ref 52)) [.v (nu p q)] []=.ok (.v (.bool false)) []:=by show gQ true 0 (aP (fo n) Ar ⟨[some (.v (nu p q))],[]⟩)=_;unfold Ar;simp only[V0,dQ,pf,tY,CA,KR,qd,Js,Ey,Ez,j9,ow,sV];rw[bQ hq];simp only[dQ,oI,pR];rw[bW hq]
theorem Ux(n:Nat)(p q:Int):fo (n+1) (.glob (.ref 59)) [.v (nu p q)] []=.ok (.v (nu (-p) q)) []:=by show gQ true 0 (aP (fo n) At ⟨[some (.v (nu p q))],[]⟩)=_;unfold At;simp only[V0,dQ,pf,CA,Cy,qK,rq,ro,E5,Ey,Ez,rE,j9,ow,oI,pR]
noncomputable def sR:X:=.cmp .Gt (.var 3) (.con (.int 0))
noncomputable def sQ:XS:=.seq (.setT true [2,3] (.tup (.cons (.var 3) (.cons (.bin .Mod false (.var 2) (.var 3)) .nil)))) .done
theorem yc(f:Fo)(H:List ac):∀(k:Nat)(a b:Int)(x y:Option RV),0≤a→0≤b→b.toNat<k→
  jT (ev f sR) (aP f sQ) k ⟨[x,y,some (vi a),some (vi b)],H⟩=.ok .next ⟨[x,y,some (vi (Int.gcd a b)),some (vi 0)],H⟩
 |0,_,_,_,_,_,_,h=>nomatch h
 |k+1,a,b,x,y,ha,hb,h=>by
  rw[NG];unfold sR;simp only[V3,dQ,pf,tY,qd,BU,sV];by_cases hp:b>0
  ·rw[bF hp];unfold sQ;simp only[V2,V3,dQ,Cv,qK,rq,ro,E0,j9,zP,sV];rw[bF (by omega)];simp only[S2,S3,dQ,rE,vG,qh,zx];simp only[LQ];have hm:=Int.emod_nonneg a (show b≠0 by omega);have hl:=Int.emod_lt_of_pos a hp;rw[Iv a hb];have:=yc f H k b (a%b) x y hb hm (by omega);unfold sR sQ at this;rw[this]
   have e:Int.gcd b (a%b)=Int.gcd a b:=by obtain⟨a',rfl⟩:=te ha;obtain⟨b',rfl⟩:=te hb;rw[←Int.natCast_emod];show Nat.gcd b' (a'%b')=Nat.gcd a' b';rw[Nat.gcd_comm a' b',Nat.gcd_rec b' a',Nat.gcd_comm]
   rw[e]
  ·rw[bQ hp];have hz:b=0:=by omega
   subst hz;have e:((Int.gcd a 0:Nat):Int)=a:=by rw[Int.gcd_zero_right];omega
   rw[e]
theorem Uu(n:Nat)(t b:Int)(h0:0≤b)(hb:b<1073741824):fo (n+1) (.glob (.ref 30)) [vi t,vi b] []=.ok (vi (Int.gcd t b)) []:=by
 show gQ true 0 (aP (fo n) Aq ⟨[some (vi t),some (vi b),none,none],[]⟩)=_;unfold Aq;simp only[V0,V1,S2,S3,dQ,Cu,qK,rq,ro,EZ,rE,j9,zP,qh,zx];simp only[FV];have:=yc (fo n) [] mQ (if t<0 then-t else t) b (some (vi t)) (some (vi b)) (by split<;>omega) h0 (by unfold mQ;omega);unfold sR sQ at this;rw[this];simp only[V2,dQ,Ew,j9,ow,qh,oI,pR];have e:Int.gcd (if t<0 then-t else t) b=Int.gcd t b:=by split<;>simp
 rw[e]
noncomputable def low(t b:Int):AV:=nu (t.fdiv (Int.gcd t b)) (b.fdiv (Int.gcd t b))
theorem gU(t:Int){b:Int}(h:0<b):(0:Int)<Int.gcd t b∧(Int.gcd t b:Int)≤b:=by have h1:0<Int.gcd t b:=AE t (by omega);have h2:Int.gcd t b≤b.natAbs:=Nat.le_of_dvd (by omega) (Int.gcd_dvd_natAbs_right t b);omega
structure Sm(p q:Int):Prop where
 num:p.natAbs≤1048576
 pos:0<q
 den:q≤1024
theorem Gj{i:Int}(h:i.natAbs≤2147483648):sy i=true:=by unfold sy;simp only[gJ,tX];omega
theorem QN{i j:Int}(h:i.natAbs≤2147483648):lb i j=true:=by unfold lb;rw[Gj h];rfl
theorem xE{a b:Int}(ha:0<a)(ha':a≤1024)(hb:0<b)(hb':b≤1024):0<a*b∧a*b≤1048576:=⟨oP ha hb,wi (AF hb' (by omega)) (by omega)⟩
end
section
noncomputable abbrev gf(a:Addr):AV:=.glob (.ref a)
abbrev HP(n a:Nat)(l:List RV)(v:AV):Prop:=aS n (gf a) l [] (.v v) []
abbrev HV(n:Nat)(e c v:AV):Prop:=aS n (gf 1003) [.v e,.v c] [] (.v v) []
noncomputable abbrev PR:=ac×ac
noncomputable abbrev l2(a:PR):List ac:=[a.1,a.2]
abbrev BW(a:PR):Prop:=(l2 a).all (ac.belowB 2)=true
abbrev HL(n:Nat)(t:Int)(H:List ac)(x:Int)(H':List ac):Prop:=aS n (gf 1271) [.loc 1,vi t] H (vi x) H'
abbrev HT(n:Nat)(t:Int)(a:PR)(x:Int)(b:PR):Prop:=HL n t (l2 a) x (l2 b)
abbrev HO(n:Nat)(l:AV)(a:PR)(x:AV)(b:PR):Prop:=aS n (gf 1278) [.loc 1,.v l] (l2 a) (.v x) (l2 b)
abbrev HG(n f:Nat)(w:AV)(d:Int)(a:PR)(e v:AV)(b:PR):Prop:=aS n (gf f) [.loc 1,.v w,vi d] (l2 a) (.v (.tup [e,v])) (l2 b)
noncomputable def pS(kind name loc val:List Nat)(par:AV)(ch at':List AV):AV:=.inst 1064 [(21,.str kind),(1,.str name),(22,.str []),(23,.str loc),(0,.str val),(24,par),(25,.lst ch),(26,.lst at'),(27,.lst [])]
noncomputable def ni(i:Nat):AV:=.int (Int.ofNat i)
noncomputable def zN:List Nat:=ql
noncomputable def xG(k:Nat):Nat→Nat→List (List Nat)→List AV
 |_,_,[]=>[]
 |i,t,[]::r=>pS zN [101] [101] [] (ni 1) [] [ni (i+k)]::xG k (i+1) t r
 |i,t,(_::_)::r=>pS zN [101] [101] [] (ni 1) [ni t] [ni (i+k)]::xG k (i+1) (t+1) r
noncomputable def BL:Nat→List (List Nat)→List AV
 |_,[]=>[]
 |i,s::r=>pS wO [107] [107] s (ni i) [] []::BL (i+1) r
noncomputable def Ab:Nat→List (List Nat)→List AV
 |_,[]=>[]
 |i,[]::r=>Ab (i+1) r
 |i,(c::s)::r=>pS wN [] [] (c::s) (ni i) [] []::Ab (i+1) r
noncomputable def sI:Nat→Nat→List AV
 |_,0=>[]
 |i,k+1=>ni i::sI (i+1) k
noncomputable def Tb(ts:List (List Nat)):List AV:=pS fb [] [] [] .none [ni 1] []::pS zN [114] [114] [] (ni 0) (sI 2 ts.length) []::(xG ts.length 2 (2*ts.length+2) ts++(BL 2 ts++Ab 2 ts))
noncomputable def Vu(ts:List (List Nat)):AV:=.inst 1253 [(28,.lst (Tb ts))]
end
section
theorem bS{i j:Int}(h:i.natAbs≤2147483648):∀st,fP .Mult false (vi i) (vi j) st=.ok (vi (i*j)) st:=λst=>by rw[E4,QN h];rfl
theorem pM{i j:Int}:∀st,fP .Add false (vi i) (vi j) st=.ok (vi (i+j)) st:=λst=>rfl
theorem gY{i j:Int}:∀st,fP .Sub false (vi i) (vi j) st=.ok (vi (i-j)) st:=λst=>rfl
theorem Fj{i:Int}:∀st,Bf.f .abs [vi i] st=.ok (vi (if i<0 then-i else i)) st:=λst=>rfl
theorem zC{i j:Int}:∀st,cj .GtE (vi i) (vi j) st=.ok (vb (decide (i≥j))) st:=λst=>rfl
theorem fq{i j:Int}(h:0<j)(h':j<1073741824):∀st,fP .FloorDiv false (vi i) (vi j) st=.ok (vi (i.fdiv j)) st:=λst=>by rw[Q4,show(decide (j≠0)&&decide (-1073741824<j)&&decide (j<1073741824))=true by simp only[gJ,tX];omega];rfl
theorem jo{i j:Int}(h:j≠0):∀st,fP .Mod false (vi i) (vi j) st=.ok (vi (i.fmod j)) st:=λst=>by rw[E0,cD h];rfl
theorem ym{t b:Int}(h0:0≤b)(hb:b<1073741824):aS 1 (gf 30) [vi t,vi b] [] (vi (Int.gcd t b)) []:=λm h=>by obtain⟨m',rfl⟩:∃m',m=m'+1:=⟨m-1,by omega⟩;exact Uu m' t b h0 hb
theorem yn{t b:Int}(h:0<b)(hb:b<1073741824):HP 3 45 [vi t,vi b] (low t b):=br (n:=1) (k:=1) [.cond false,.cond false,.call 30 (vi (Int.gcd t b)) [],.prim (vi (t.fdiv (Int.gcd t b))),.prim (vi (b.fdiv (Int.gcd t b)))]
  (λ_ d=>au (bW (show¬b=0 by omega)) (au (bW (show¬b<0 by omega)) (au (ym (t:=t) (lP h) hb)
   (au (fq (i:=t) (gU t h).1 (by have:=gU t h;omega)) (au (fq (i:=b) (gU t h).1 (by have:=gU t h;omega)) d)))))
  (by kernel_rfl) (by omega)
theorem N6{t b:Int}(h:b<0)(hb: -1073741824<b):HP 3 45 [vi t,vi b] (low (-t) (-b)):=br (n:=1) (k:=1) [.cond false,.cond true,.call 30 (vi (Int.gcd (-t) (-b))) [],.prim (vi ((-t).fdiv (Int.gcd (-t) (-b)))),.prim (vi ((-b).fdiv (Int.gcd (-t) (-b))))]
  (λ_ d=>au (bW (show¬b=0 by omega)) (au (cD (show b<0 by omega)) (au (ym (t:= -t) (show(0:Int)≤-b by omega) (by omega))
   (au (fq (i:= -t) (gU (-t) (show(0:Int)< -b by omega)).1 (by have:=gU (-t) (show(0:Int)< -b by omega);omega)) (au (fq (i:= -b) (gU (-t) (show(0:Int)< -b by omega)).1 (by have:=gU (-t) (show(0:Int)< -b by omega);omega)) d)))))
  (by kernel_rfl) (by omega)
theorem eA{p q:Int}(h:q≠0):HP 1 52 [.v (nu p q)] (.bool false):=λm hm=>by obtain⟨m',rfl⟩:∃m',m=m'+1:=⟨m-1,by omega⟩;exact Uw m' p q h
theorem N5{p q:Int}:HP 1 59 [.v (nu p q)] (nu (-p) q):=λm hm=>by obtain⟨m',rfl⟩:∃m',m=m'+1:=⟨m-1,by omega⟩;exact Ux m' p q
theorem Oe{i:Int}:aS 1 (gf 37) [vi i] [] (vi (fX i)) []:=λm hm=>by obtain⟨m',rfl⟩:∃m',m=m'+1:=⟨m-1,by omega⟩;exact Uy m' i
section
variable{p q r s:Int}
theorem Sm.q0(a:Sm p q):q≠0:=by have:=a.pos;omega
theorem Sm.p'(a:Sm p q):p.natAbs≤2147483648:=by have:=a.num;omega
theorem Sm.q'(a:Sm p q):q.natAbs≤2147483648:=by have:=a.den;have:=a.pos;omega
variable{u v:Int}
theorem KN{a b:Int}(ha:0<a)(ha':a≤1024)(hb:b<0)(hb': -1024≤b):a*b<0∧-1073741824<a*b:=by have h1:=oP ha (show 0< -b by omega);have h2:a* -b≤a*1024:=AF (by omega) (by omega);have h3:a* -b= -(a*b):=Int.mul_neg ..;omega
theorem DC(a:Sm p q)(b:Sm r s):HP 5 66 [.v (nu p q),.v (nu r s)] (low (p*s+r*q) (q*s)):=have d:=xE a.pos a.den b.pos b.den
 br (n:=3) (k:=1) [.call 52 (vb false) [],.call 52 (vb false) [],.cond false,.cond false,.cond false,.cond false,.cond false,.prim (vi (p*s)),.prim (vi (r*q)),.prim (vi (p*s+r*q)),.prim (vi (q*s)),.call 45 (.v (low (p*s+r*q) (q*s))) []]
  (qI ((eA (p:=p) a.q0).mono (k:=3))<|qI ((eA (p:=r) b.q0).mono (k:=3))<|qI (rfl:false=false)<|qI (bW a.q0)<|qI (bW a.q0)<|qI (bW a.q0)<|qI (bW b.q0)<|qI (bS (i:=p) (j:=s) a.p')<|qI (bS (i:=r) (j:=q) b.p')<|qI (pM (i:=p*s) (j:=r*q))<|qI (bS (i:=q) (j:=s) a.q')<|qI (yn (t:=p*s+r*q) (b:=q*s) d.1 (by omega))<|qZ)
theorem Sm.neg(b:Sm r s):Sm (-r) s:=⟨by have:=b.num;omega,b.pos,b.den⟩
theorem Dx(a:Sm p q)(b:Sm r s):HP 7 73 [.v (nu p q),.v (nu r s)] (low (p*s+ -r*q) (q*s)):=br (n:=5) (k:=1) [.call 59 (.v (nu (-r) s)) [],.call 66 (.v (low (p*s+ -r*q) (q*s))) []]
  (qI ((N5 (p:=r) (q:=s)).mono (k:=5))<|qI (DC a b.neg)<|qZ)
theorem DF(a:Sm p q)(b:Sm r s):HP 5 80 [.v (nu p q),.v (nu r s)] (low (p*r) (q*s)):=have d:=xE a.pos a.den b.pos b.den
 br (n:=3) (k:=1) [.call 52 (vb false) [],.call 52 (vb false) [],.cond false,.cond false,.cond false,.prim (vi (p*r)),.prim (vi (q*s)),.call 45 (.v (low (p*r) (q*s))) []]
  (qI ((eA (p:=p) a.q0).mono (k:=3))<|qI ((eA (p:=r) b.q0).mono (k:=3))<|qI (rfl:false=false)<|qI (bW a.q0)<|qI (bW b.q0)<|qI (bS (i:=p) (j:=r) a.p')<|qI (bS (i:=q) (j:=s) a.q')<|qI (yn (t:=p*r) (b:=q*s) d.1 (by omega))<|qZ)
theorem Du(a:Sm p q)(b:Sm r s)(hr:0<r)(hl:r≤1024):HP 5 87 [.v (nu p q),.v (nu r s)] (low (p*s) (q*r)):=have d:=xE a.pos a.den hr hl
 br (n:=3) (k:=1) [.call 52 (vb false) [],.call 52 (vb false) [],.cond false,.cond false,.cond false,.cond false,.prim (vi (p*s)),.prim (vi (q*r)),.call 45 (.v (low (p*s) (q*r))) []]
  (qI ((eA (p:=p) a.q0).mono (k:=3))<|qI ((eA (p:=r) b.q0).mono (k:=3))<|qI (rfl:false=false)<|qI (bW b.q0)<|qI (bW a.q0)<|qI (bW (show¬r=0 by omega))<|qI (bS (i:=p) (j:=s) a.p')<|qI (bS (i:=q) (j:=r) a.q')<|qI (yn (t:=p*s) (b:=q*r) d.1 (by omega))<|qZ)
theorem NW(a:Sm p q)(b:Sm r s)(hr:r<0)(hl: -1024≤r):HP 5 87 [.v (nu p q),.v (nu r s)] (low (-(p*s)) (-(q*r))):=have d:=KN a.pos a.den hr hl
 br (n:=3) (k:=1) [.call 52 (vb false) [],.call 52 (vb false) [],.cond false,.cond false,.cond false,.cond false,.prim (vi (p*s)),.prim (vi (q*r)),.call 45 (.v (low (-(p*s)) (-(q*r)))) []]
  (qI ((eA (p:=p) a.q0).mono (k:=3))<|qI ((eA (p:=r) b.q0).mono (k:=3))<|qI (rfl:false=false)<|qI (bW b.q0)<|qI (bW a.q0)<|qI (bW (show¬r=0 by omega))<|qI (bS (i:=p) (j:=s) a.p')<|qI (bS (i:=q) (j:=r) a.q')<|qI (N6 (t:=p*s) (b:=q*r) d.1 d.2)<|qZ)
noncomputable def ew(u v:Int):Int:=if u≥0 then(if u<0 then-u else u).fdiv v else-(if u<0 then-u else u).fdiv v
theorem NV(h:u≥0)(hv:0<v)(hb:v<1073741824):aS 2 (gf 94) [.v (nu u v)] [] (vi ((if u<0 then-u else u).fdiv v)) []:=br (n:=0) (k:=1) [.prim (vi (if u<0 then-u else u)),.prim (vi ((if u<0 then-u else u).fdiv (v))),.prim (vb (decide (u≥0))),.cond true]
  (qI (Fj (i:=u))<|qI (fq (i:=if u<0 then-u else u) (j:=v) hv hb)<|qI (zC (i:=u) (j:=0))<|qI (cD h)<|qZ)
theorem NU(h:¬u≥0)(hv:0<v)(hb:v<1073741824):aS 2 (gf 94) [.v (nu u v)] [] (vi (-(if u<0 then-u else u).fdiv v)) []:=br (n:=0) (k:=1) [.prim (vi (if u<0 then-u else u)),.prim (vi ((if u<0 then-u else u).fdiv (v))),.prim (vb (decide (u≥0))),.cond false]
  (qI (Fj (i:=u))<|qI (fq (i:=if u<0 then-u else u) (j:=v) hv hb)<|qI (zC (i:=u) (j:=0))<|qI (bW h)<|qZ)
theorem NT{u v:Int}(hv:0<v)(hb:v<1073741824):aS 2 (gf 94) [.v (nu u v)] [] (vi (ew u v)) []:=by
 unfold ew;split
 ·exact NV ‹_› hv hb
 ·exact NU ‹_› hv hb
theorem re(t:Int):HP 3 45 [vi t] (low t 1):=br (n:=1) (k:=1) [.cond false,.cond false,.call 30 (vi (Int.gcd t 1)) [],.prim (vi (t.fdiv (Int.gcd t 1))),.prim (vi ((1:Int).fdiv (Int.gcd t 1)))]
  (qI (rfl:false=false)<|qI (rfl:false=false)<|qI (ym (t:=t) (b:=1) (by omega) (by omega))<|qI (fq (i:=t) (gU t (b:=1) (by omega)).1 (by have:=gU t (b:=1) (by omega);omega))<|qI (fq (i:=1) (gU t (b:=1) (by omega)).1 (by have:=gU t (b:=1) (by omega);omega))<|qZ)
theorem rC(t:Int):low t 1=nu t 1:=by unfold low;rw[Int.gcd_one_right];simp
theorem NZ{r s u v x y:Int}{z:AV}(a:Sm p q)(b:Sm r s)(hr:r≠0)(hd:HP 7 87 [.v (nu p q),.v (nu r s)] (nu u v))(hc:aS 7 (gf 94) [.v (nu u v)] [] (vi (ew u v)) [])(hn:HP 7 45 [vi (ew u v)] (nu (ew u v) 1))(ht:HP 7 80 [.v (nu (ew u v) 1),.v (nu r s)] (nu x y))(hm:HP 7 73 [.v (nu p q),.v (nu x y)] z):HP 9 101 [.v (nu p q),.v (nu r s)] z:=br (n:=7) (k:=1) [.call 52 (vb false) [],.call 52 (vb false) [],.cond false,.cond false,.cond false,.cond false,.call 87 (.v (nu u v)) [],.call 94 (vi (ew u v)) [],.call 45 (.v (nu (ew u v) 1)) [],.call 80 (.v (nu x y)) [],.call 73 (.v z) []]
  (qI ((eA (p:=p) a.q0).mono (k:=7))<|qI ((eA (p:=r) b.q0).mono (k:=7))<|qI (rfl:false=false)<|qI (bW a.q0)<|qI (bW hr)<|qI (bW b.q0)<|qI hd<|qI hc<|qI hn<|qI ht<|qI hm<|qZ)
theorem yo(a:Sm p q)(b:Sm r s):aS 3 (gf 108) [.v (nu p q),.v (nu r s)] [] (vi (fX (p*s-r*q))) []:=br (n:=1) (k:=1) [.cond false,.cond false,.prim (vi (p*s)),.prim (vi (r*q)),.prim (vi (p*s-r*q)),.call 37 (vi (fX (p*s-r*q))) []]
  (qI (bW a.q0)<|qI (bW b.q0)<|qI (bS (i:=p) (j:=s) a.p')<|qI (bS (i:=r) (j:=q) b.p')<|qI (gY (i:=p*s) (j:=r*q))<|qI (Oe (i:=p*s-r*q))<|qZ)
theorem Ds(a:Sm p q)(b:Sm r s){o:Int}(ho:aS 3 (gf 108) [.v (nu p q),.v (nu r s)] [] (vi o) []):aS 5 (gf 115) [vs [61],.v (nu p q),.v (nu r s)] [] (vb (decide (o=0))) []:=br (n:=3) (k:=1) [.call 52 (vb false) [],.call 52 (vb false) [],.cond false,.call 108 (vi o) []]
  (qI ((eA (p:=p) a.q0).mono (k:=3))<|qI ((eA (p:=r) b.q0).mono (k:=3))<|qI (rfl:false=false)<|qI ho<|qZ)
theorem NS(a:Sm p q)(b:Sm r s){o:Int}(ho:aS 3 (gf 108) [.v (nu p q),.v (nu r s)] [] (vi o) []):aS 5 (gf 115) [vs fw,.v (nu p q),.v (nu r s)] [] (vb (!decide (o=0))) []:=br (n:=3) (k:=1) [.call 52 (vb false) [],.call 52 (vb false) [],.cond false,.call 108 (vi o) []]
  (qI ((eA (p:=p) a.q0).mono (k:=3))<|qI ((eA (p:=r) b.q0).mono (k:=3))<|qI (rfl:false=false)<|qI ho<|qZ)
theorem NR(a:Sm p q)(b:Sm r s){o:Int}(ho:aS 3 (gf 108) [.v (nu p q),.v (nu r s)] [] (vi o) []):aS 5 (gf 115) [vs [60],.v (nu p q),.v (nu r s)] [] (vb (decide (o<0))) []:=br (n:=3) (k:=1) [.call 52 (vb false) [],.call 52 (vb false) [],.cond false,.call 108 (vi o) []]
  (qI ((eA (p:=p) a.q0).mono (k:=3))<|qI ((eA (p:=r) b.q0).mono (k:=3))<|qI (rfl:false=false)<|qI ho<|qZ)
theorem NQ(a:Sm p q)(b:Sm r s){o:Int}(ho:aS 3 (gf 108) [.v (nu p q),.v (nu r s)] [] (vi o) []):aS 5 (gf 115) [vs fM,.v (nu p q),.v (nu r s)] [] (vb (decide (o≤0))) []:=br (n:=3) (k:=1) [.call 52 (vb false) [],.call 52 (vb false) [],.cond false,.call 108 (vi o) []]
  (qI ((eA (p:=p) a.q0).mono (k:=3))<|qI ((eA (p:=r) b.q0).mono (k:=3))<|qI (rfl:false=false)<|qI ho<|qZ)
theorem Dt(a:Sm p q)(b:Sm r s){o:Int}(ho:aS 3 (gf 108) [.v (nu p q),.v (nu r s)] [] (vi o) []):aS 5 (gf 115) [vs [62],.v (nu p q),.v (nu r s)] [] (vb (decide (o>0))) []:=br (n:=3) (k:=1) [.call 52 (vb false) [],.call 52 (vb false) [],.cond false,.call 108 (vi o) []]
  (qI ((eA (p:=p) a.q0).mono (k:=3))<|qI ((eA (p:=r) b.q0).mono (k:=3))<|qI (rfl:false=false)<|qI ho<|qZ)
theorem NP(a:Sm p q)(b:Sm r s){o:Int}(ho:aS 3 (gf 108) [.v (nu p q),.v (nu r s)] [] (vi o) []):aS 5 (gf 115) [vs ga,.v (nu p q),.v (nu r s)] [] (vb (decide (o≥0))) []:=br (n:=3) (k:=1) [.call 52 (vb false) [],.call 52 (vb false) [],.cond false,.call 108 (vi o) []]
  (qI ((eA (p:=p) a.q0).mono (k:=3))<|qI ((eA (p:=r) b.q0).mono (k:=3))<|qI (rfl:false=false)<|qI ho<|qZ)
end
end
section
noncomputable def jZ(t b:Int):Int×Int:=(t.fdiv (Int.gcd t b),b.fdiv (Int.gcd t b))
theorem uN(t b:Int):low t b=nu (jZ t b).1 (jZ t b).2:=rfl
theorem CZ{t g:Int}(hg:0<g)(h:g∣t):t.fdiv g*g=t:=by rw[wh t (lP hg)];exact Int.ediv_mul_cancel h
theorem Er(t:Int){b:Int}(hb:0<b):∃u v g:Int,0<g∧0<v∧u*g=t∧v*g=b∧jZ t b=(u,v):=by
 have hg:(0:Int)<Int.gcd t b:=by have:=AE t (show b≠0 by omega);omega
 have hv:=CZ hg (Int.gcd_dvd_right (a:=t) (b:=b));refine⟨_,_,_,hg,?_,CZ hg (Int.gcd_dvd_left (a:=t) (b:=b)),hv,rfl⟩;apply Int.pos_of_mul_pos_left _ hg;rw[hv];exact hb
theorem C1{t g k:Int}(hk:0<k)(hg:0<g):(t*k).fdiv (g*k)=t.fdiv g:=by rw[wh _ (lP (oP hg hk)),wh _ (lP hg)];exact Int.mul_ediv_mul_of_pos_left _ _ hk
theorem Qx{t b k:Int}(hb:0<b)(hk:0<k):jZ (t*k) (b*k)=jZ t b:=by
 have hg:(0:Int)<Int.gcd t b:=by have:=AE t (show b≠0 by omega);omega
 unfold jZ
 have e:((Int.gcd (t*k) (b*k):Nat):Int)=(Int.gcd t b:Nat)*k:=by rw[Int.gcd_mul_right,Int.natCast_mul,Int.natAbs_of_nonneg (lP hk)]
 rw[e,C1 hk hg,C1 hk hg]
theorem Bw{u g t:Int}(hg:0<g)(h:u*g=t):u.natAbs≤t.natAbs:=by rw[←h,AG];exact Nat.le_mul_of_pos_right _ (by omega)
theorem En{v g b:Int}(hg:0<g)(hv:0<v)(h:v*g=b):v≤b:=by rw[←h];have:=AF (show(1:Int)≤g by omega) (lP hv);omega
theorem Cg{u v:Int}(hv:0<v):(ew u v).natAbs≤u.natAbs:=by
 unfold ew
 have key:∀w:Int,0≤w→0≤w.fdiv v∧w.fdiv v≤w:=λw hw=>by rw[wh _ (lP hv)];exact⟨Int.ediv_nonneg hw (lP hv),Int.ediv_le_self _ hw⟩
 by_cases h:u≥0
 ·rw[bF h,bQ (by omega)];have:=key u h;omega
 ·rw[bQ h,bF (by omega)];have:=key (-u) (by omega);omega
theorem xC{u v:Int}(h:u>0):(if u<0 then-u else u).fdiv v*1=ew u v:=by unfold ew;rw[bF (show u≥0 by omega),wj]
theorem xB{u v:Int}(h:¬u>0):(if u<0 then-u else u).fdiv v*(-1)=ew u v:=by
 unfold ew;by_cases h0:u≥0
 ·have:u=0:=by omega
  subst this;simp
 ·rw[bQ h0];omega
theorem Qv{p q r s c x y g:Int}(hq:0<q)(hy:0<y)(hg:0<g)(hx:x*g=c*r)(hs:y*g=s):jZ (p*s-c*r*q) (q*s)=jZ (p*y+ -x*q) (q*y):=by
 have e1:p*s-c*r*q=(p*y+ -x*q)*g:=by rw[←hs,←hx,Int.add_mul,Int.mul_assoc p y g,AH,AH,Int.mul_right_comm x g q,Int.sub_eq_add_neg]
 have e2:q*s=q*y*g:=by rw[←hs,Int.mul_assoc]
 rw[e1,e2];exact Qx (oP hq hy) hg
theorem mh{a b:Int}{A B:Nat}(h1:a.natAbs≤A)(h2:b.natAbs≤B):(a*b).natAbs≤A*B:=by rw[AG];exact Nat.mul_le_mul h1 h2
theorem y3(t:Int){b:Int}(hb:0<b):∃u v:Int,0<v∧v≤b∧u.natAbs≤t.natAbs∧low t b=nu u v∧jZ t b=(u,v):=by obtain⟨u,v,g,hg,hv,hu,hb',e⟩:=Er t hb;exact⟨u,v,hv,En hg hv hb',Bw hg hu,by rw[uN,e],e⟩
theorem Qu{t b u v:Int}(h:jZ t b=(u,v)):low t b=nu u v:=by rw[uN,h]
theorem Qw{p q r s c:Int}(hq:0<q)(hs:0<s):∃x y:Int,0<y∧y≤s∧x.natAbs≤(c*r).natAbs∧low (c*r) (1*s)=nu x y∧low (p*y+ -x*q) (q*y)=low (p*s-c*r*q) (q*s):=by obtain⟨x,y,g,hg,hy,hx,hs',e⟩:=Er (c*r) (show 0<1*s by omega);rw[Int.one_mul] at hs';exact⟨x,y,hy,En hg hy hs',Bw hg hx,Qu e,by rw[uN,uN,Qv hq hy hg hx hs']⟩
theorem QM{p q r s P Q u v:Int}(a:Sm p q)(b:Sm r s)(hr:r≠0)(hd:HP 5 87 [.v (nu p q),.v (nu r s)] (low P Q))(e:low P Q=nu u v)(hv:0<v)(hv2:v<1073741824)(hc:u.natAbs≤100000)(hr':r.natAbs≤10):
  HP 9 101 [.v (nu p q),.v (nu r s)] (low (p*s-ew u v*r*q) (q*s)):=by have hca:=Cg (u:=u) hv;obtain⟨x,y,hy,hys,hx,e1,e2⟩:=Qw (p:=p) (c:=ew u v) (r:=r) a.pos b.pos;have hcr:=mh (a:=ew u v) (b:=r) (A:=100000) (B:=10) (by omega) hr';have c1:Sm (ew u v) 1:=⟨by omega,by decide,by decide⟩;have c2:Sm x y:=⟨by omega,hy,by have:=b.den;omega⟩;have ht:=DF c1 b;have hm:=Dx a c2;have hn:=re (ew u v);rw[rC] at hn;rw[e1] at ht;rw[e2] at hm;rw[e] at hd;exact NZ a b hr (hd.mono) ((NT hv hv2).mono) (hn.mono) (ht.mono) (hm.mono)
end
section
theorem Db{f:RV→Option AV}(h:∀x,f (.v x)=some x):∀l:List AV,l9 f (l.map .v)=some l
 |[]=>rfl
 |x::l=>by show((f (.v x)).bind λy=>(l9 f (l.map .v)).bind λr=>some (y::r))=_;rw[h x,Db h l];rfl
theorem L9{H:List ac}{i:Nat}{l:List AV}(h:ae H i=some (.lst (l.map .v))):gT H 0 9 (.loc i)=some (.lst l):=by show cond (Nat.blt i 0) none ((ae H i).bind (q7 (gT H 0 8)))=_;rw[show Nat.blt i 0=false by cases i<;>rfl,h];show(l9 (gT H 0 8) (l.map .v)).map AV.lst=_;rw[Db (λ_=>rfl)];rfl
theorem uk{H:List ac}{i j:Nat}{l:List AV}{loc:List (Option RV)}(h:ae H i=some (.lst (l.map .v)))(hj:ae loc j=some (some (.loc i))):ix 0 H [j] loc=some (bp loc j (some (.v (.lst l)))):=by show(((ae loc j).bind id).bind λx=>(gT H 0 9 x).bind λy=>ix 0 H [] (bp loc j (some (.v y))))=_;rw[hj];show((gT H 0 9 (.loc i)).bind _)=_;rw[L9 h];rfl
noncomputable def a8(f:Nat→AV→Bool):Nat→List AV→List AV
 |_,[]=>[]
 |j,x::l=>match f j x with
  |true=>x::a8 f (j+1) l
  |false=>a8 f (j+1) l
theorem Ge{f:Nat→AV→Bool}{j:Nat}:a8 f j []=[]:=rfl
theorem mE{f:Nat→AV→Bool}{j:Nat}{x:AV}{l:List AV}:a8 f j (x::l)=cond (f j x) (x::a8 f (j+1) l) (a8 f (j+1) l):=rfl
theorem Gc(f:Nat→AV→Bool):∀j l,(a8 f j l).length≤l.length
 |_,[]=>bw _
 |j,x::l=>by unfold a8;have:=Gc f (j+1) l;cases f j x<;>simp only[bV]<;>omega
noncomputable def kB:XS:=(.seq (.ifs (.call 0 (.glf 653) (.cons (.call 0 (.var 2) (.cons (.var 3) (.cons (.var 7) (.cons (.bin .Add false (.var 6) (.con (.int 1))) (.cons (.var 4) .nil))))) (.cons (.bin .Add false (.var 6) (.con (.int 1))) .nil))) (.seq (.expr (.bm .append (.var 5) (.cons (.var 7) .nil))) .done) .done) .done)
noncomputable def du(n:Nat)(c p:AV)(sz:Nat)(f:Nat→AV→Bool)(l:List AV)(j:Nat):Prop:=match l with
 |[]=>True
 |x::l=>(∃v,aS n (.clos c) [.v p,.v x,vi ((j:Int)+1),vi sz] [] (.v v) []∧aS n (gf 653) [.v v,vi ((j:Int)+1)] [] (vb (f j x)) [])∧du n c p sz f l (j+1)
noncomputable def gb(j:Nat):List AV→Option RV→Option RV
 |[],a=>a
 |_::l,_=>gb (j+1) l (some (vi j))
noncomputable def dR:List AV→Option RV→Option RV
 |[],a=>a
 |x::l,_=>dR l (some (.v x))
theorem BF{loc:List (Option RV)}{H:List ac}{i:Nat}{l:List RV}{x:RV}(h:fE H i=some l)(hl:l.length≤1000):xN (.loc i) [x] ⟨loc,H⟩=.ok (.v .none) ⟨loc,bp H i (.lst (l++[x]))⟩:=by show aj (fE H i) _ _=_;rw[h];show aK (bR l.length) _ _=_;rw[show bR l.length=true from f6 hl];rfl
section
variable{n m:Nat}{c p:AV}{nd ps:Option RV}{sz:Nat}{f:Nat→AV→Bool}
theorem uJ(hm:n≤m):∀(l:List AV)(j:Nat)(acc:List AV)(a b:Option RV),acc.length+l.length≤1000→du n c p sz f l j→
  iA [6,7] (aP (fo m) kB) (nG j (l.map .v)) ⟨[nd,ps,some (.v (.clos c)),some (.v p),some (vi sz),some (.loc 0),a,b],[.lst (acc.map .v)]⟩
   =.ok .next ⟨[nd,ps,some (.v (.clos c)),some (.v p),some (vi sz),some (.loc 0),gb j l a,dR l b],[.lst ((acc++a8 f j l).map .v)]⟩
 |[],j,acc,a,b,hl,hs=>by rw[Ge,eK];rfl
 |x::l,j,acc,a,b,hl,hs=>by
  obtain⟨⟨v,hv,hh⟩,hs⟩:=hs;show(aP (fo m) kB ⟨[nd,ps,some (.v (.clos c)),some (.v p),some (vi sz),some (.loc 0),some (vi j),some (.v x)],[.lst (acc.map .v)]⟩).bind _=_;simp only[bV] at hl;cases hb:f j x with
  |false=>rw[hb] at hh;rw[lr (n:=n) (k:=0) (st':=⟨[nd,ps,some (.v (.clos c)),some (.v p),some (vi sz),some (.loc 0),some (vi j),some (.v x)],[.lst (acc.map .v)]⟩) (fl:=.next) [.clo (.v v),.call 653 (vb false) []] (λ_ d=>au hv (au hh d)) (by kernel_rfl) hm];refine(uJ hm l (j+1) acc _ _ (by omega) hs).trans ?_;rw[mE,hb];rfl
  |true=>
   rw[hb] at hh;rw[lr (n:=n) (k:=0) (st':=⟨[nd,ps,some (.v (.clos c)),some (.v p),some (vi sz),some (.loc 0),some (vi j),some (.v x)],[.lst (acc.map .v++[.v x])]⟩) (fl:=.next) [.clo (.v v),.call 653 (vb true) [],.eff (.v .none) [.lst (acc.map .v++[.v x])]]
    (λ_ d=>au hv (au hh (au (λloc=>BF (loc:=loc) (H:=[.lst (acc.map .v)]) (i:=0) (l:=acc.map .v) (x:=.v x) rfl (by rw[aU];omega)) d))) (by kernel_rfl) hm]
   have:=uJ hm l (j+1) (acc++[x]) (some (vi j)) (some (.v x)) (by rw[el];simp only[bV,i9];omega) hs;rw[eL] at this;refine this.trans ?_;rw[mE,hb,hJ];rfl
theorem yD(hm:n≤m):∀(l:List AV)(j:Nat)(acc:List AV)(a b:Option RV),acc.length+l.length≤1000→du n c p sz f l j→
  iA [6,7] (aP (fo m) kB) (nG j (l.map .v)) ⟨[nd,ps,some (.v (.clos c)),some (.v p),some (vi sz),some (.loc 1),a,b],[.gone,.lst (acc.map .v)]⟩
   =.ok .next ⟨[nd,ps,some (.v (.clos c)),some (.v p),some (vi sz),some (.loc 1),gb j l a,dR l b],[.gone,.lst ((acc++a8 f j l).map .v)]⟩
 |[],j,acc,a,b,hl,hs=>by rw[Ge,eK];rfl
 |x::l,j,acc,a,b,hl,hs=>by
  obtain⟨⟨v,hv,hh⟩,hs⟩:=hs;show(aP (fo m) kB ⟨[nd,ps,some (.v (.clos c)),some (.v p),some (vi sz),some (.loc 1),some (vi j),some (.v x)],[.gone,.lst (acc.map .v)]⟩).bind _=_;simp only[bV] at hl;cases hb:f j x with
  |false=>rw[hb] at hh;rw[lr (n:=n) (k:=0) (st':=⟨[nd,ps,some (.v (.clos c)),some (.v p),some (vi sz),some (.loc 1),some (vi j),some (.v x)],[.gone,.lst (acc.map .v)]⟩) (fl:=.next) [.clo (.v v),.call 653 (vb false) []] (λ_ d=>au hv (au hh d)) (by kernel_rfl) hm];refine(yD hm l (j+1) acc _ _ (by omega) hs).trans ?_;rw[mE,hb];rfl
  |true=>
   rw[hb] at hh;rw[lr (n:=n) (k:=0) (st':=⟨[nd,ps,some (.v (.clos c)),some (.v p),some (vi sz),some (.loc 1),some (vi j),some (.v x)],[.gone,.lst (acc.map .v++[.v x])]⟩) (fl:=.next) [.clo (.v v),.call 653 (vb true) [],.eff (.v .none) [.gone,.lst (acc.map .v++[.v x])]]
    (λ_ d=>au hv (au hh (au (λloc=>BF (loc:=loc) (H:=[.gone,.lst (acc.map .v)]) (i:=1) (l:=acc.map .v) (x:=.v x) rfl (by rw[aU];omega)) d))) (by kernel_rfl) hm]
   have:=yD hm l (j+1) (acc++[x]) (some (vi j)) (some (.v x)) (by rw[el];simp only[bV,i9];omega) hs;rw[eL] at this;refine this.trans ?_;rw[mE,hb,hJ];rfl
theorem pN{l:List AV}(h:l.length≤1000):∀st,Bf.f .len [.v (.lst l)] st=.ok (vi l.length) st:=λst=>by show aK (Nat.blt (l.map RV.v).length 1000000) (aI (RV.v (AV.int (l.map RV.v).length))) st=_;rw[aU,show Nat.blt l.length 1000000=true from f6 (show l.length+1≤1000000 by omega)];rfl
theorem nU{l:List AV}:HP 2 660 [.v (.lst l),.v (.tup []),.v (.clos c)] (.lst l):=br (n:=0) (k:=0) [] qZ
theorem Dv{l:List AV}(hl:l.length≤1000)(hs:du n c p l.length f l 0):HP (n+1) 660 [.v (.lst l),.v (.tup [p]),.v (.clos c)] (.lst (a8 f 0 l)):=br (n:=n) (k:=0) [.prim (vi l.length),.loop ⟨[some (.v (.lst l)),some (.v (.tup [p])),some (.v (.clos c)),some (.v p),some (vi l.length),some (.loc 0),gb 0 l none,dR l none],[.lst (([]++a8 f 0 l).map .v)]⟩,
  .frz [some (.v (.lst l)),some (.v (.tup [p])),some (.v (.clos c)),some (.v p),some (vi l.length),some (.v (.lst ([]++a8 f 0 l))),gb 0 l none,dR l none]]
  (λ_ d=>au (pN hl) (au (λm(h:n≤m)=>uJ (c:=c) (p:=p) (nd:=some (.v (.lst l))) (ps:=some (.v (.tup [p]))) h l 0 [] none none (by simpa using hl) hs)
   (au (uk (H:=[.lst (([]++a8 f 0 l).map .v)]) (i:=0) (j:=5) (l:=[]++a8 f 0 l) (loc:=[some (.v (.lst l)),some (.v (.tup [p])),some (.v (.clos c)),some (.v p),some (vi l.length),some (.loc 0),gb 0 l none,dR l none]) rfl rfl) d)))
  (by kernel_rfl) (by omega)
theorem NY{l:List AV}{q:AV}{g:Nat→AV→Bool}(hl:l.length≤1000)(hs:du n c p l.length f l 0)(hr:du n c q (a8 f 0 l).length g (a8 f 0 l) 0):HP (n+1) 660 [.v (.lst l),.v (.tup [p,q]),.v (.clos c)] (.lst (a8 g 0 (a8 f 0 l))):=have hk:(a8 f 0 l).length≤1000:=aJ (Gc f 0 l) hl
 br (n:=n) (k:=0) [.prim (vi l.length),.loop ⟨[some (.v (.lst l)),some (.v (.tup [p,q])),some (.v (.clos c)),some (.v p),some (vi l.length),some (.loc 0),gb 0 l none,dR l none],[.lst (([]++a8 f 0 l).map .v)]⟩,
  .frz [some (.v (.lst l)),some (.v (.tup [p,q])),some (.v (.clos c)),some (.v p),some (vi l.length),some (.v (.lst ([]++a8 f 0 l))),gb 0 l none,dR l none],
  .prim (vi (a8 f 0 l).length),.loop ⟨[some (.v (.lst (a8 f 0 l))),some (.v (.tup [p,q])),some (.v (.clos c)),some (.v q),some (vi (a8 f 0 l).length),some (.loc 1),gb 0 (a8 f 0 l) (gb 0 l none),dR (a8 f 0 l) (dR l none)],[.gone,.lst (([]++a8 g 0 (a8 f 0 l)).map .v)]⟩,
  .frz [some (.v (.lst (a8 f 0 l))),some (.v (.tup [p,q])),some (.v (.clos c)),some (.v q),some (vi (a8 f 0 l).length),some (.v (.lst ([]++a8 g 0 (a8 f 0 l)))),gb 0 (a8 f 0 l) (gb 0 l none),dR (a8 f 0 l) (dR l none)]]
  (λ_ d=>au (pN hl) (au (λm(h:n≤m)=>uJ (c:=c) (p:=p) (nd:=some (.v (.lst l))) (ps:=some (.v (.tup [p,q]))) h l 0 [] none none (by simpa using hl) hs)
   (au (uk (H:=[.lst (([]++a8 f 0 l).map .v)]) (i:=0) (j:=5) (l:=[]++a8 f 0 l) (loc:=[some (.v (.lst l)),some (.v (.tup [p,q])),some (.v (.clos c)),some (.v p),some (vi l.length),some (.loc 0),gb 0 l none,dR l none]) rfl rfl)
   (au (pN hk) (au (λm(h:n≤m)=>yD (c:=c) (p:=q) (nd:=some (.v (.lst (a8 f 0 l)))) (ps:=some (.v (.tup [p,q]))) h (a8 f 0 l) 0 [] (gb 0 l none) (dR l none) (by simpa using hk) hr)
   (au (uk (H:=[.gone,.lst (([]++a8 g 0 (a8 f 0 l)).map .v)]) (i:=1) (j:=5) (l:=[]++a8 g 0 (a8 f 0 l)) (loc:=[some (.v (.lst (a8 f 0 l))),some (.v (.tup [p,q])),some (.v (.clos c)),some (.v q),some (vi (a8 f 0 l).length),some (.loc 1),gb 0 (a8 f 0 l) (gb 0 l none),dR (a8 f 0 l) (dR l none)]) rfl rfl) d))))))
  (by kernel_rfl) (by omega)
end
end
section
noncomputable def uK:Nat→List Int
 |0=>[0]
 |1=>[0,2,0]
 |i+2=>[0,2,0,2,Int.ofNat i]
noncomputable def vh(l:List Nat):List Nat:=(gB (l.map uK)).map λj=>l.getD j 0
noncomputable def li(w:Option Bool→Bool):Nat→List (Option Bool)→List Nat
 |_,[]=>[]
 |i,s::r=>match w s with
  |true=>i::li w (i+1) r
  |false=>li w (i+1) r
noncomputable def wL:Option Bool→Bool
 |some true=>true
 |_=>false
noncomputable def wR:Option Bool→Bool
 |some false=>true
 |_=>false
noncomputable def wB:Option Bool→Bool
 |some _=>true
 |_=>false
noncomputable def ph:List Nat→List Nat→Bool
 |[],[]=>true
 |a::l,b::r=>Nat.beq a b&&ph l r
 |_,_=>false
theorem K8{a b:Nat}{l r:List Nat}:ph (a::l) (b::r)=(Nat.beq a b&&ph l r):=rfl
theorem xJ:∀{l r:List Nat},ph l r=true→l=r
 |[],[],_=>rfl
 |a::l,b::r,h=>by rw[K8,gJ] at h;rw[em h.1,xJ h.2]
noncomputable def kz:Nat→(List (Option Bool)→Bool)→Bool
 |0,p=>p []
 |n+1,p=>kz n (λs=>p (none::s))&&(kz n (λs=>p (some true::s))&&kz n (λs=>p (some false::s)))
theorem qr:∀{n:Nat}{p:List (Option Bool)→Bool},kz n p=true→∀s,s.length=n→p s=true
 |0,p,h,[],_=>h
 |n+1,p,h,x::s,e=>by
  have h:(kz n (λs=>p (none::s))&&(kz n (λs=>p (some true::s))&&kz n (λs=>p (some false::s))))=true:=h;rw[gJ,gJ] at h;have e2:s.length=n:=oV e;rcases x with _|_|_
  ·exact qr (p:=λs=>p (none::s)) h.1 s e2
  ·exact qr (p:=λs=>p (some false::s)) h.2.2 s e2
  ·exact qr (p:=λs=>p (some true::s)) h.2.1 s e2
noncomputable def Rx(s:List (Option Bool)):Bool:=ph (vh (li wL 0 s++li wR 0 s)) (li wB 0 s)
theorem Ry:kz 6 Rx=true:=by kernel_rfl
end
section
noncomputable def tx:List (Option Nat)→List (List Nat)
 |[]=>[]
 |none::r=>[]::tx r
 |some c::r=>[c]::tx r
structure eZ(ts:List (Option Nat)):Prop where
 lo:1≤ts.length
 hi:ts.length≤4
noncomputable abbrev T(ts:List (Option Nat)):AV:=Vu (tx ts)
noncomputable def gk(ts:List (Option Nat)):Nat→List Nat
 |0=>(tx ts).flatten
 |1=>(tx ts).flatten
 |i+2=>(tx ts).getD i []
noncomputable def oq:Nat→List AV
 |0=>[ni 0]
 |1=>[ni 0,ni 2,ni 0]
 |i+2=>[ni 0,ni 2,ni 0,ni 2,ni i]
noncomputable def kJ(k:Nat):Nat→List AV
 |0=>[ni 1]
 |1=>sI 2 k
 |_=>[]
noncomputable def iG:Nat→List AV
 |0=>[]
 |1=>[ni 0]
 |_=>[ni 1]
noncomputable def bC(ax test:List Nat)(p:AV):AV:=.inst 939 [(10,.str ax),(11,.tup [.str test]),(7,p)]
noncomputable def iI:List Nat:=dg
noncomputable def mB:List Nat:=fK
noncomputable def jt:List Nat:=eG
noncomputable def iZ:List Nat:=gN
noncomputable def fV:List Nat:=dP
noncomputable def jv:Nat→(Nat→Nat)→List (List (Option Nat))
 |0,_=>[[]]
 |k+1,g=>(jv k λi=>g (i+1)).map (none::·)++(jv k λi=>g (i+1)).map (some (g 0)::·)
noncomputable def pO(c:Nat)(g:Nat→Nat):Nat→Nat
 |0=>c
 |i+1=>g i
theorem zV:∀ts:List (Option Nat),∃g,ts∈jv ts.length g
 |[]=>⟨id,.head _⟩
 |none::r=>(zV r).elim λg h=>⟨pO 0 g,List.mem_append_left _ (wv h)⟩
 |some c::r=>(zV r).elim λg h=>⟨pO c g,IB _ (wv h)⟩
noncomputable abbrev TI:=List (Option Nat)→Nat→Prop
noncomputable def xI(F G:TI)(ts:List (Option Nat)):Nat→Prop
 |0=>True
 |k+1=>(F ts k=G ts k)∧xI F G ts k
noncomputable def pi(F G:TI)(k:Nat):List (List (Option Nat))→Prop
 |[]=>True
 |ts::r=>xI F G ts (k+2)∧pi F G k r
noncomputable def zR(G:TI)(ts:List (Option Nat)):Nat→Prop
 |0=>True
 |k+1=>(G ts k=G ts k)∧zR G ts k
noncomputable def pW(G:TI)(k:Nat):List (List (Option Nat))→Prop
 |[]=>True
 |ts::r=>zR G ts (k+2)∧pW G k r
theorem F8(G:TI)(ts:List (Option Nat)):∀k,zR G ts k
 |0=>trivial
 |k+1=>⟨rfl,F8 G ts k⟩
theorem pY(G:TI)(k:Nat):∀l,pW G k l
 |[]=>trivial
 |ts::r=>⟨F8 G ts _,pY G k r⟩
noncomputable def qM(F G:TI):Prop:=∀g,pi F G 1 (jv 1 g)∧pi F G 2 (jv 2 g)∧pi F G 3 (jv 3 g)
noncomputable def vJ(G:TI):Prop:=∀g,pW G 1 (jv 1 g)∧pW G 2 (jv 2 g)∧pW G 3 (jv 3 g)
noncomputable def jO(F G:TI)(t:Option Nat):Prop:=∀g,pi F G 4 ((jv 3 g).map (t::·))
noncomputable def mC(G:TI)(t:Option Nat):Prop:=∀g,pW G 4 ((jv 3 g).map (t::·))
theorem CF{F G:TI}{ts:List (Option Nat)}{i:Nat}:∀{k},xI F G ts k→i<k→F ts i=G ts i
 |k+1,h,l=>by
  rcases mW i k with c|c
  ·exact CF h.2 c
  ·rw[show i=k by omega];exact h.1
theorem pj{F G:TI}{k:Nat}{ts:List (Option Nat)}{i:Nat}(hi:i<k+2):∀{l},pi F G k l→ts∈l→F ts i=G ts i
 |x::l,h,m=>by
  rcases List.mem_cons.mp m with e|m
  ·rw[e];exact CF h.1 hi
  ·exact pj hi h.2 m
theorem pT{ts:List (Option Nat)}(R:eZ ts){i:Nat}(hi:i<ts.length+2){F G:TI}(a:qM F G=vJ G:=by kernel_rfl)(b:jO F G none=mC G none:=by kernel_rfl)(c:∀c,jO F G (some c)=mC G (some c):=by intro c;kernel_rfl):F ts i=G ts i:=have h:qM F G:=a▸λ_=>⟨pY G _ _,pY G _ _,pY G _ _⟩
 (zV ts).elim λg m=>by
  rcases ts with _|⟨t,r⟩
  ·exact absurd R.lo (by decide)
  ·rcases r with _|⟨u,_|⟨v,_|⟨w,r⟩⟩⟩
   ·exact pj hi (h g).1 m
   ·exact pj hi (h g).2.1 m
   ·exact pj hi (h g).2.2 m
   ·cases r with
    |nil=>exact(List.mem_append.mp m).elim (λm=>pj hi ((b▸λ_=>pY G _ _:jO F G none) _) m) λm=>pj hi ((c _▸λ_=>pY G _ _:jO F G (some _)) _) m
    |cons x r=>exact absurd R.hi (Nat.not_le_of_lt (Nat.le_add_left 5 r.length))
noncomputable abbrev ug:TI:=λts i=>lA 0 (jq 0 12) (gf 210) [.v (T ts),.v (ni i)] [] [] (λy _ H1=>Rc.ok y H1=Rc.ok (.v (.str (gk ts i))) [])
noncomputable abbrev nR:TI:=λts i=>Rc.ok (.v (.str (gk ts i))) []=Rc.ok (.v (.str (gk ts i))) []
theorem UM:qM ug nR=vJ nR:=by kernel_rfl
theorem UQ:jO ug nR none=mC nR none:=by kernel_rfl
theorem UO c:jO ug nR (some c)=mC nR (some c):=by kernel_rfl
noncomputable abbrev ub:TI:=λts i=>lA 0 (jq 0 12) (gf 193) [.v (T ts),.v (ni i)] [] [] (λy _ H1=>Rc.ok y H1=Rc.ok (.v (.tup (oq i))) [])
noncomputable abbrev nQ:TI:=λts i=>Rc.ok (.v (.tup (oq i))) []=Rc.ok (.v (.tup (oq i))) []
theorem Su:qM ub nQ=vJ nQ:=by kernel_rfl
theorem Sx:jO ub nQ none=mC nQ none:=by kernel_rfl
theorem Sw c:jO ub nQ (some c)=mC nQ (some c):=by kernel_rfl
section
variable{n:Nat}{p:List AV}{c nm:AV}{x:RV}
noncomputable abbrev xW(e:AV→AV)(n:Nat)(p:List AV)(c nm:AV)(x:RV):TI:=λts i=>lA n (jq n 12) (gf 665) [.v (T ts),.v (ni i),.v (e (.tup p)),.v nm,.v (.clos c)] [] [.call 660 x []] (λy _ H1=>Rc.ok y H1=Rc.ok x [])
noncomputable abbrev yb(l:List (Option Nat)→Nat→List AV)(n:Nat)(p:List AV)(c:AV)(x:RV):TI:=λts i=>aS n (gf 660) [.v (.lst (l ts i)),.v (.tup p),.v (.clos c)] [] x []∧Rc.ok x []=Rc.ok x []
noncomputable abbrev t6:=xW (bC iI iZ)
noncomputable abbrev nP:=yb λts=>kJ ts.length
theorem J3:qM (t6 n p c nm x) (nP n p c x)=vJ (nP n p c x):=by kernel_rfl
theorem J5:jO (t6 n p c nm x) (nP n p c x) none=mC (nP n p c x) none:=by kernel_rfl
theorem J4 k:jO (t6 n p c nm x) (nP n p c x) (some k)=mC (nP n p c x) (some k):=by kernel_rfl
end
section
variable(ts:List (Option Nat))(i:Nat)(R:eZ ts)(hi:i<ts.length+2)
include R hi
theorem DE:HP 13 210 [.v (T ts),.v (ni i)] (.str (gk ts i)):=br (n:=0) (k:=12) [] qZ (pT R hi (F:=ug) (G:=nR) UM UQ UO) (by omega)
theorem N9:HP 13 193 [.v (T ts),.v (ni i)] (.tup (oq i)):=br (n:=0) (k:=12) [] qZ (pT R hi (F:=ub) (G:=nQ) Su Sx Sw) (by omega)
theorem yq:HP 13 1236 [.v (T ts),.v (ni i)] (ni 0):=br (n:=0) (k:=12) [] qZ (pT R hi (F:=λts i=>lA 0 (jq 0 12) (gf 1236) [.v (T ts),.v (ni i)] [] [] (λy _ H1=>Rc.ok y H1=Rc.ok (.v (ni 0)) [])) (G:=λts i=>Rc.ok (.v (ni 0)) []=Rc.ok (.v (ni 0)) [])) (by omega)
theorem q9{n:Nat}{p:List AV}{c nm:AV}{x:RV}(hk:aS n (gf 660) [.v (.lst (kJ ts.length i)),.v (.tup p),.v (.clos c)] [] x []):aS (n+13) (gf 665) [.v (T ts),.v (ni i),.v (bC iI iZ (.tup p)),.v nm,.v (.clos c)] [] x []:=br (n:=n) (k:=12) [.call 660 x []] (λ_ d=>au hk d) (pT R hi (F:=t6 n p c nm x) (G:=nP n p c x) J3 J5 J4) (by omega)
theorem DB{n:Nat}{p:List AV}{c nm:AV}{x:RV}(hk:aS n (gf 660) [.v (.lst (iG i)),.v (.tup p),.v (.clos c)] [] x []):aS (n+13) (gf 665) [.v (T ts),.v (ni i),.v (bC mB fV (.tup p)),.v nm,.v (.clos c)] [] x []:=br (n:=n) (k:=12) [.call 660 x []] (λ_ d=>au hk d) (pT R hi (F:=xW (bC mB fV) n p c nm x) (G:=yb (λ_=>iG) n p c x)) (by omega)
theorem Od{n:Nat}{p:List AV}{c nm:AV}{x:RV}(hk:aS n (gf 660) [.v (.lst ([ni i])),.v (.tup p),.v (.clos c)] [] x []):aS (n+13) (gf 665) [.v (T ts),.v (ni i),.v (bC jt fV (.tup p)),.v nm,.v (.clos c)] [] x []:=br (n:=n) (k:=12) [.call 660 x []] (λ_ d=>au hk d) (pT R hi (F:=xW (bC jt fV) n p c nm x) (G:=yb (λ_ i=>[ni i]) n p c x)) (by omega)
end
end
section
noncomputable def b8(p:Nat→Bool)(K:Nat):List Nat:=(List.range K).filter p
noncomputable def dh(p:Nat→Bool)(K:Nat):List AV:=(b8 p K).map ni
noncomputable def pZ(K:Nat)(p q:Nat→Bool):Nat→Nat→List (Option Bool)
 |_,0=>[]
 |j,n+1=>(match decide (j<K),p j,q j with
  |false,_,_=>none
  |true,true,_=>some true
  |true,false,true=>some false
  |true,false,false=>none)::pZ K p q (j+1) n
theorem zZ(K:Nat)(p q:Nat→Bool):∀j n,(pZ K p q j n).length=n
 |_,0=>rfl
 |j,n+1=>congrArg (·+1) (zZ K p q (j+1) n)
theorem r8(K:Nat)(p q:Nat→Bool)(w:Option Bool→Bool)(u:Nat→Bool)
  (h:∀j,w (match decide (j<K),p j,q j with|false,_,_=>none|true,true,_=>some true|true,false,true=>some false|true,false,false=>none)=(decide (j<K)&&u j)):∀n j,li w j (pZ K p q j n)=(List.range' j n).filter λi=>decide (i<K)&&u i
 |0,_=>rfl
 |n+1,j=>by rw[pZ,li,h j,tq,kj,r8 K p q w u h n (j+1)];cases decide (j<K)&&u j<;>rfl
theorem vD{K:Nat}(hK:K≤6)(u:Nat→Bool):((List.range' 0 6).filter λi=>decide (i<K)&&u i)=b8 u K:=by
 unfold b8
 have e6:List.range' 0 6=List.range K++List.range' K (6-K):=by have:=ID (s:=0) (m:=K) (n:=6-K);rw[mY,show K+(6-K)=6 by omega] at this;rw[wy,this]
 rw[e6,List.filter_append];rw[show((List.range' K (6-K)).filter λi=>decide (i<K)&&u i)=[] by rw[List.filter_eq_nil_iff];intro i hi;rw[AT] at hi;rw[bW (show¬i<K by omega)];simp,eK]
 apply wt;intro i hi;rw[List.mem_range] at hi;rw[cD hi,AB]
theorem Rz{K:Nat}(hK:K≤6)(p q:Nat→Bool):vh (b8 p K++b8 (λi=>q i&& !p i) K)=b8 (λi=>p i||q i) K:=by
 have h:=xJ (qr Ry (pZ K p q 0 6) (zZ ..));rw[r8 K p q wL p (λj=>by cases decide (j<K)<;>cases p j<;>cases q j<;>rfl),r8 K p q wR (λi=>q i&& !p i) (λj=>by cases decide (j<K)<;>cases p j<;>cases q j<;>rfl),
  r8 K p q wB (λi=>p i||q i) (λj=>by cases decide (j<K)<;>cases p j<;>cases q j<;>rfl),vD hK,vD hK,vD hK] at h
 exact h
theorem DM:∀l:List Nat,iX (l.map ni)=some (l.map Int.ofNat)
 |[]=>rfl
 |x::l=>by show((iX (l.map ni)).bind λr=>some (Int.ofNat x::r))=_;rw[DM l];rfl
theorem EF:∀{l:List Nat},l.Nodup→mm (l.map Int.ofNat)=true
 |[],_=>rfl
 |x::l,h=>by rw[wx] at h;show((l.map Int.ofNat).all (λj=>decide (j≠Int.ofNat x))&&mm (l.map Int.ofNat))=true;rw[EF h.2,wa,List.all_eq_true];intro j hj;obtain⟨y,hy,rfl⟩:=List.mem_map.mp hj;refine cD λe=>h.1 ?_;cases e;exact hy
theorem ON:∀i,iX (oq i)=some (uK i)
 |0=>rfl
 |1=>rfl
 |_+2=>rfl
theorem Ff{ts:List (Option Nat)}(R:eZ ts){m:Nat}(hm:13≤m):∀{l:List Nat},(∀i∈l,i<ts.length+2)→gX (fo m) (.v (T ts)) (l.map Int.ofNat)=some (l.map uK)
 |[],_=>rfl
 |i::l,h=>by have h1:=N9 ts i R (h i (.head _)) m hm;have h2:=Ff R hm (l:=l) λj hj=>h j (.tail _ hj);show((sC (fo m (gf 193) [.v (T ts),.v (ni i)] [])).bind λk=>(gX (fo m) (.v (T ts)) (l.map Int.ofNat)).bind λr=>cond k.isEmpty none (some (k::r)))=_;rw[h1,show sC (.ok (.v (.tup (oq i))) [])=iX (oq i) from rfl,ON,h2];rcases i with _|_|i<;>rfl
theorem Nv(l:List Nat)(j:Nat):AV.int ((l.map Int.ofNat).getD j 0)=ni (l.getD j 0):=by unfold ni;rw[IA,IA,oS];cases l[j]? <;>rfl
theorem Hw(p q:Nat→Bool):∀l:List Nat,(l.filter p).length+(l.filter λi=>q i&& !p i).length≤l.length
 |[]=>bw _
 |x::l=>by have:=Hw p q l;rw[kj,kj,bV];cases p x<;>cases q x<;>simp only[AA,Bool.not_false,wa,Ay,if_true,pz,bV,oM]<;>omega
theorem NX{ts:List (Option Nat)}(R:eZ ts){l:List Nat}(hl:∀i∈l,i<ts.length+2)(hn:l.Nodup)(hs:l.length<7):HP 14 198 [.v (T ts),.v (.lst (l.map ni))] (.lst ((vh l).map ni)):=λm hm=>by obtain⟨m',rfl⟩:∃m',m=m'+1:=⟨m-1,by omega⟩;show lf (fo m') [.v (T ts),.v (.lst (l.map ni))] []=_;show((iX (l.map ni)).casesOn .bad λis=>zw (fo m') (T ts) is []:Rc)=_;rw[DM];show cond (mm (l.map Int.ofNat)&&Nat.blt (l.map Int.ofNat).length 7) _ _=_;rw[EF hn,aU,show Nat.blt l.length 7=true from f6 hs];show((gX (fo m') (.v (T ts)) (l.map Int.ofNat)).casesOn .bad λks=>.ok (.v (.lst ((gB ks).map λj=>.int ((l.map Int.ofNat).getD j 0)))) []:Rc)=_;rw[Ff R (by omega) hl];show Rc.ok (.v (.lst ((gB (l.map uK)).map λj=>AV.int ((l.map Int.ofNat).getD j 0)))) []=_;unfold vh;rw[dm];congr 4;funext j;exact Nv l j
theorem QY(p q:Nat→Bool)(K:Nat):(b8 p K++b8 (λi=>q i&& !p i) K).Nodup:=by rw[AW];refine⟨List.nodup_range.filter _,List.nodup_range.filter _,λa ha b hb e=>?_⟩;subst e;have h1:=(List.mem_filter.mp ha).2;have h2:=(List.mem_filter.mp hb).2;rw[h1] at h2;simp at h2
theorem vK(p:Nat→Bool)(K:Nat):(b8 p K).length≤K:=by have:=List.length_filter_le p (List.range K);rw[oT] at this;exact this
theorem zS{p:Nat→Bool}{K i:Nat}(h:i∈b8 p K):i<K:=List.mem_range.mp (List.mem_filter.mp h).1
theorem Dz{ts:List (Option Nat)}(R:eZ ts){K:Nat}(hK:K=ts.length+2)(p q:Nat→Bool):HP 14 198 [.v (T ts),.v (.lst (dh p K++dh (λi=>q i&& !p i) K))] (.lst (dh (λi=>p i||q i) K)):=by
 have hK6:K≤6:=by have:=R.hi;omega
 have:=NX R (l:=b8 p K++b8 (λi=>q i&& !p i) K) (λi hi=>by
  rcases List.mem_append.mp hi with h|h
  ·have:=zS h;omega
  ·have:=zS h;omega) (QY p q K) (by
   have h1:=Hw p q (List.range K);rw[oT] at h1;rw[el];exact Nat.lt_succ_of_le (aJ h1 hK6))
 rw[Rz hK6,eL] at this;exact this
theorem N8{ts:List (Option Nat)}(R:eZ ts){K:Nat}(hK:K=ts.length+2)(p:Nat→Bool):HP 14 198 [.v (T ts),.v (.lst (dh p K))] (.lst (dh p K)):=by
 have:=Dz R hK p (λ_=>false)
 have e1:dh (λi=>false&& !p i) K=[]:=by unfold dh b8;rw[List.filter_eq_nil_iff.mpr (λ_ _=>by simp)];rfl
 have e2:(λi=>p i||false)=p:=funext λi=>sW _;rw[e1,eK,e2] at this;exact this
end
section
theorem wT(i:Nat):∀l:List Nat,iq (ni i) (l.map ni)=some (decide (i∈l))
 |[]=>rfl
 |y::l=>by
  show((some (decide (Int.ofNat y=Int.ofNat i))).bind λa=>(iq (ni i) (l.map ni)).bind λb=>some (a||b))=_;rw[wT i l];show some (decide (Int.ofNat y=Int.ofNat i)||decide (i∈l))=_;congr 1;by_cases h:y=i
  ·subst h;simp
  ·have:¬Int.ofNat y=Int.ofNat i:=λe=>h (by cases e;rfl);rw[bW this,Bool.false_or];have h':¬i=y:=λe=>h e.symm;simp only[AQ,h',false_or]
theorem kA:∀l:List AV,bY (l.map RV.v)=some l
 |[]=>rfl
 |x::l=>by show((bY (l.map RV.v)).bind λr=>some (x::r))=_;rw[kA l];rfl
theorem Fk{a b:List AV}(h:a.length+b.length≤1000):∀st,fP .Add false (.v (.lst a)) (.v (.lst b)) st=.ok (.v (.lst (a++b))) st:=λst=>by show aK (bR ((a.map RV.v).length+(b.map RV.v).length)) (iR false (a.map RV.v++b.map RV.v)) st=_;rw[aU,aU,show bR (a.length+b.length)=true from f6 h];rw[←eL];show aj (bY ((a++b).map RV.v)) (λr=>aI (RV.v (.lst r))) st=_;rw[kA];rfl
noncomputable def d7(l:List Nat):List (List RV):=((l.map ni).map RV.v).map λx=>[x]
section
variable{f:Fo}{c:X}{cap:List (Option RV)}{H:List ac}{b:Nat→Bool}
theorem yh(hc:∀x,ev f c ⟨some (.v (ni x))::cap,H⟩=.ok (vb (b x)) ⟨some (.v (ni x))::cap,H⟩):∀(l:List Nat)(acc:List AV)(a:Option RV),acc.length+l.length≤1000→
  fm [0] (ev f c) (ev f (.var 0)) (d7 l) (acc.map .v) ⟨a::cap,H⟩=.ok ((acc++(l.filter b).map ni).map .v) ⟨dR (l.map ni) a::cap,H⟩
 |[],acc,a,_=>by rw[List.filter_nil,oU,eK];rfl
 |x::l,acc,a,hl=>by
  simp only[bV] at hl;show((ev f c ⟨some (.v (ni x))::cap,H⟩).bind λx st=>cm x st).bind (λt st'=>cond t (nE (ev f (.var 0)) (acc.map .v) (fm [0] (ev f c) (ev f (.var 0)) (d7 l)) st') (fm [0] (ev f c) (ev f (.var 0)) (d7 l) (acc.map .v) st'))=_;rw[hc x,dQ,qd,dQ];cases hb:b x with
  |false=>refine(yh hc l acc _ (by omega)).trans ?_;rw[kj,hb];rfl
  |true=>show aK (Nat.blt (acc.map RV.v).length 1000) (fm [0] (ev f c) (ev f (.var 0)) (d7 l) (acc.map RV.v++[.v (ni x)])) ⟨some (.v (ni x))::cap,H⟩=_;rw[aU,show Nat.blt acc.length 1000=true from f6 (show acc.length+1≤1000 by omega)];have:=yh hc l (acc++[ni x]) (some (.v (ni x))) (by rw[el];simp only[bV,i9];omega);rw[eL] at this;refine this.trans ?_;rw[kj,hb,hJ];rfl
theorem CP(hc:∀x,ev f c ⟨some (.v (ni x))::cap,H⟩=.ok (vb (b x)) ⟨some (.v (ni x))::cap,H⟩){l:List Nat}{caps:List Nat}{loc:List (Option RV)}(hcap:d9 loc caps=cap)(hl:l.length≤1000):
  fj 1 caps (fm [0] (ev f c) (ev f (.var 0))) (d7 l) ⟨loc,H⟩=.ok (.v (.lst ((l.filter b).map ni))) ⟨loc,H⟩:=by show((fm [0] (ev f c) (ev f (.var 0)) (d7 l) [] ⟨none::d9 loc caps,H⟩).noErr.bind λacc st'=>aj (bY acc) (λr _=>Rs.ok (RV.v (AV.lst r)) ⟨loc,st'.H⟩) st')=_;rw[hcap,show fm [0] (ev f c) (ev f (.var 0)) (d7 l) [] ⟨none::cap,H⟩=_ from yh hc l [] none (by simpa using hl)];show aj (bY ((([]:List AV)++(l.filter b).map ni).map RV.v)) _ _=_;rw[kA];rfl
end
theorem Jt{f:Fo}{i:Nat}{l:List Nat}{cap:List (Option RV)}{H:List ac}:ev f (.cmp .In (.var 0) (.var 1)) ⟨some (.v (ni i))::some (.v (.lst (l.map ni)))::cap,H⟩=.ok (vb (decide (i∈l))) ⟨some (.v (ni i))::some (.v (.lst (l.map ni)))::cap,H⟩:=by show aj (iq (ni i) (l.map ni)) (λt=>aI (RV.v (.bool t))) _=_;rw[wT];rfl
theorem Jv{f:Fo}{i:Nat}{l:List Nat}{cap:List (Option RV)}{H:List ac}:ev f (.cmp .NotIn (.var 0) (.var 1)) ⟨some (.v (ni i))::some (.v (.lst (l.map ni)))::cap,H⟩=.ok (vb (!decide (i∈l))) ⟨some (.v (ni i))::some (.v (.lst (l.map ni)))::cap,H⟩:=by show aj (n8 (iq (ni i) (l.map ni))) (λt=>aI (RV.v (.bool t))) _=_;rw[wT];rfl
theorem T3(p q:Nat→Bool)(K:Nat):(b8 q K).filter (λi=> !decide (i∈b8 p K))=b8 (λi=>q i&& !p i) K:=by
 unfold b8;rw[List.filter_filter];apply wt;intro i hi
 have:decide (i∈(List.range K).filter p)=p i:=by
  cases h:p i with
  |true=>exact cD (List.mem_filter.mpr ⟨hi,h⟩)
  |false=>exact bW λm=>by rw[(List.mem_filter.mp m).2] at h;cases h
 rw[this,Bool.and_comm]
theorem Oh{ts:List (Option Nat)}(R:eZ ts){K:Nat}(hK:K=ts.length+2)(p q:Nat→Bool):HP 15 963 [.v (T ts),.v (.lst (dh p K)),.v (.lst (dh q K))] (.lst (dh (λi=>p i||q i) K)):=have hK6:K≤6:=by have:=R.hi;omega
 br (n:=14) (k:=0) [.comp (.v (.lst (dh (λi=>q i&& !p i) K))),.prim (.v (.lst (dh p K++dh (λi=>q i&& !p i) K))),.call 198 (.v (.lst (dh (λi=>p i||q i) K))) []]
  (λ_ d=>au (λm(_:14≤m)=>(show fj 1 [1] (fm [0] (ev (fo m) (.cmp .NotIn (.var 0) (.var 1))) (ev (fo m) (.var 0))) (d7 (b8 q K)) ⟨[some (.v (T ts)),some (.v (.lst (dh p K))),some (.v (.lst (dh q K)))],[]⟩=.ok (.v (.lst (dh (λi=>q i&& !p i) K))) ⟨[some (.v (T ts)),some (.v (.lst (dh p K))),some (.v (.lst (dh q K)))],[]⟩ from by rw[CP (f:=fo m) (cap:=[some (.v (.lst (dh p K)))]) (b:=λi=> !decide (i∈b8 p K)) (λx=>Jv) rfl (by have:=vK q K;omega),T3];rfl))
   (au (Fk (a:=dh p K) (b:=dh (λi=>q i&& !p i) K) (by unfold dh;rw[aU,aU];have:=vK p K;have:=vK (λi=>q i&& !p i) K;omega))
   (au (Dz R hK p q) d)))
  (by kernel_rfl) (by omega)
end
section
noncomputable def cq(l:List Nat):List (AV×RV):=l.map λi=>(ni i,vb true)
noncomputable def dd:List Nat→List Nat→List Nat
 |acc,[]=>acc
 |acc,x::l=>dd (if x∈acc then acc else acc++[x]) l
theorem Fs(x:Nat):∀acc:List Nat,mq (Int.ofNat x) (vb true) (cq acc)=cq (if x∈acc then acc else acc++[x])
 |[]=>rfl
 |y::acc=>by
  show(match decide (Int.ofNat y=Int.ofNat x) with|true=>(AV.int (Int.ofNat x),vb true)::cq acc|false=>(ni y,vb true)::mq (Int.ofNat x) (vb true) (cq acc))=_;by_cases h:y=x
  ·subst h;rw[cD rfl,bF (.head _)];rfl
  ·rw[bW (λe=>h (by cases e;rfl)),Fs x acc];have h':¬x=y:=λe=>h e.symm;by_cases hm:x∈acc
   ·rw[bF hm,bF (.tail _ hm)];rfl
   ·rw[bQ hm,bQ (by simp only[AQ,h',hm,or_self,not_false_eq_true])];rfl
theorem Cp{x:Nat}{acc:List Nat}(h:acc.Nodup):(if x∈acc then acc else acc++[x]).Nodup:=by
 split
 ·exact h
 ·rename_i hm;rw[AW];refine⟨h,List.nodup_cons.mpr ⟨by simp,lS⟩,λa ha b hb e=>?_⟩;rw[tn] at hb;subst e;subst hb;exact hm ha
theorem wQ:∀l:List Nat,cS false (cq l)=true
 |[]=>rfl
 |x::l=>wQ l
theorem y7:∀{l:List Nat},l.Nodup→gg ((cq l).map (·.1))=true
 |[],_=>rfl
 |x::l,h=>by rw[wx] at h;show(yE (ni x) ((cq l).map (·.1))&&gg ((cq l).map (·.1)))=true;rw[y7 h.2,wa];unfold yE;rw[List.all_eq_true];intro y hy;unfold cq at hy;rw[dm] at hy;obtain⟨z,hz,rfl⟩:=List.mem_map.mp hy;show(!decide (Int.ofNat x=Int.ofNat z))=true;rw[bW (λe=>h.1 (by cases e;exact hz))];rfl
noncomputable def uB:XS:=.seq (.setD (.con (.bool true)) (.var 1) (.var 2)) .done
theorem HB(f:Fo){a:Option RV}:∀(l acc:List Nat)(c:Option RV),acc.Nodup→acc.length+l.length≤1000→
  iz 2 (aP f uB) ((l.map ni).map RV.v) ⟨[a,some (.loc 0),c],[.dct (cq acc)]⟩=.ok .next ⟨[a,some (.loc 0),dR (l.map ni) c],[.dct (cq (dd acc l))]⟩
 |[],_,_,_,_=>rfl
 |x::l,acc,c,h,hl=>by
  simp only[bV] at hl;show(aP f uB ⟨[a,some (.loc 0),some (.v (ni x))],[.dct (cq acc)]⟩).bind _=_
  have e:aP f uB ⟨[a,some (.loc 0),some (.v (ni x))],[.dct (cq acc)]⟩=.ok .next ⟨[a,some (.loc 0),some (.v (ni x))],[.dct (cq (if x∈acc then acc else acc++[x]))]⟩:=by show(aK (cS false (cq acc)&&bR (cq acc).length&&gg ((cq acc).map (·.1))) (λ_=>Rs.ok aY.next ⟨[a,some (.loc 0),some (.v (ni x))],[.dct (mq (Int.ofNat x) (vb true) (cq acc))]⟩) (⟨[a,some (.loc 0),some (.v (ni x))],[.dct (cq acc)]⟩:St)).bind _=_;rw[wQ,y7 h,show(cq acc).length=acc.length from aU ..,show bR acc.length=true from f6 (by omega),Fs];rfl
  rw[e,dQ];refine(HB f l _ _ (Cp h) ?_).trans rfl;split
  ·omega
  ·rw[el];simp only[bV,i9];omega
theorem Co:∀(l acc:List Nat),acc.Nodup→(dd acc l).Nodup
 |[],_,h=>h
 |_::l,_,h=>Co l _ (Cp h)
theorem Cm:∀(l acc:List Nat),(dd acc l).length≤acc.length+l.length
 |[],_=>bw _
 |x::l,acc=>by
  have:=Cm l (if x∈acc then acc else acc++[x]);show(dd (if x∈acc then acc else acc++[x]) l).length≤_;simp only[bV];split at this
  ·rename_i h;rw[bF h];omega
  ·rename_i h;rw[bQ h];rw[el] at this;simp only[bV,i9] at this;omega
theorem Qg{l:List Nat}(h:l.Nodup)(hl:l.length≤1000)(loc:List (Option RV)):Bf.f (.list false) [.loc 0] ⟨loc,[.dct (cq l)]⟩=.ok (.v (.lst (l.map ni))) ⟨loc,[.dct (cq l)]⟩:=by show aK (cS false (cq l)&&bR (cq l).length&&gg ((cq l).map (·.1))) (iR false ((cq l).map λq=>.v q.1)) ⟨loc,[.dct (cq l)]⟩=_;rw[wQ,y7 h,show(cq l).length=l.length from aU ..,show bR l.length=true from f6 hl];show aj (bY ((cq l).map λq=>RV.v q.1)) (λr=>aI (RV.v (.lst r))) _=_;rw[show((cq l).map λq=>RV.v q.1)=(l.map ni).map RV.v by unfold cq;rw[dm,dm];rfl,kA];rfl
theorem Oi{l:List Nat}(hl:l.length≤1000):HP 1 672 [.v (.lst (l.map ni))] (.lst ((dd [] l).map ni)):=br (n:=0) (k:=0) [.loop ⟨[some (.v (.lst (l.map ni))),some (.loc 0),dR (l.map ni) none],[.dct (cq (dd [] l))]⟩,.eff (.v (.lst ((dd [] l).map ni))) [.dct (cq (dd [] l))]]
  (λ_ d=>au (λm(_:0≤m)=>HB (fo m) (a:=some (.v (.lst (l.map ni)))) l [] none lS (by simpa using hl))
   (au (λloc=>Qg (l:=dd [] l) (Co l [] lS) (aJ (Cm l []) (by simpa using hl)) loc) d))
  (by kernel_rfl) (by omega)
theorem Lv{loc:List (Option RV)}{acc r:List AV}(h:acc.length+r.length≤1000):xP (.loc 0) [.v (.lst r)] ⟨loc,[.lst (acc.map .v)]⟩=.ok (.v .none) ⟨loc,[.lst ((acc++r).map .v)]⟩:=by show aK (bR ((acc.map RV.v).length+(r.map RV.v).length)) (λ_=>Rs.ok (RV.v AV.none) ⟨loc,[.lst (acc.map .v++r.map .v)]⟩) (⟨loc,[.lst (acc.map .v)]⟩:St)=_;rw[aU,aU,show bR (acc.length+r.length)=true from f6 h,eL];rfl
noncomputable def aB:XS:=.seq (.expr (.bm .extend (.var 5) (.cons (.call 0 (.glf 665) (.cons (.var 0) (.cons (.var 6) (.cons (.var 2) (.cons (.var 3) (.cons (.var 4) .nil)))))) .nil))) .done
noncomputable def wH(n:Nat)(t s nm c:AV)(g:Nat→List Nat)(l:List Nat):Prop:=∀i∈l,HP n 665 [.v t,.v (ni i),.v s,.v nm,.v c] (.lst ((g i).map ni))∧(g i).length≤10
theorem Bx{n m:Nat}(hm:n≤m){t s nm c:AV}{g:Nat→List Nat}{a1:Option RV}:∀(l:List Nat)(acc:List AV)(x:Option RV),acc.length+10*l.length≤1000→wH n t s nm c g l→
  iz 6 (aP (fo m) aB) ((l.map ni).map RV.v) ⟨[some (.v t),a1,some (.v s),some (.v nm),some (.v c),some (.loc 0),x],[.lst (acc.map .v)]⟩
   =.ok .next ⟨[some (.v t),a1,some (.v s),some (.v nm),some (.v c),some (.loc 0),dR (l.map ni) x],[.lst ((acc++(l.flatMap g).map ni).map .v)]⟩
 |[],acc,x,_,_=>by simp only[AN,oU,eK];rfl
 |i::l,acc,x,hl,hs=>by
  simp only[bV] at hl;obtain⟨h1,h2⟩:=hs i (.head _);show(aP (fo m) aB ⟨[some (.v t),a1,some (.v s),some (.v nm),some (.v c),some (.loc 0),some (.v (ni i))],[.lst (acc.map .v)]⟩).bind _=_;rw[lr (n:=n) (k:=0) (st':=⟨[some (.v t),a1,some (.v s),some (.v nm),some (.v c),some (.loc 0),some (.v (ni i))],[.lst ((acc++(g i).map ni).map .v)]⟩) (fl:=.next) [.call 665 (.v (.lst ((g i).map ni))) [],.eff (.v .none) [.lst ((acc++(g i).map ni).map .v)]]
   (λ_ d=>au h1 (au (λloc=>Lv (loc:=loc) (acc:=acc) (r:=(g i).map ni) (by rw[aU];omega)) d)) (by kernel_rfl) hm,dQ]
  refine(Bx hm l (acc++(g i).map ni) _ (by rw[el,aU];omega) λj hj=>hs j (.tail _ hj)).trans ?_;simp only[wu,eL,hJ];rfl
theorem NO{n:Nat}{t s nm c:AV}{g:Nat→List Nat}{l:List Nat}{out:AV}(h:wH n t s nm c g l)(hl:l.length≤50)(hf:(l.flatMap g).length≤1000)
  (ho:HP n 198 [.v t,.v (.lst ((dd [] (l.flatMap g)).map ni))] out):HP (n+2) 679 [.v t,.v (.lst (l.map ni)),.v s,.v nm,.v c] out:=have hu:HP (n+1) 672 [.v (.lst ((l.flatMap g).map ni))] (.lst ((dd [] (l.flatMap g)).map ni)):=(Oi hf).mono
 br (n:=n+1) (k:=0) [.loop ⟨[some (.v t),some (.v (.lst (l.map ni))),some (.v s),some (.v nm),some (.v c),some (.loc 0),dR (l.map ni) none],[.lst (([]++(l.flatMap g).map ni).map .v)]⟩,
   .frz [some (.v t),some (.v (.lst (l.map ni))),some (.v s),some (.v nm),some (.v c),some (.v (.lst ([]++(l.flatMap g).map ni))),dR (l.map ni) none],
   .call 672 (.v (.lst ((dd [] (l.flatMap g)).map ni))) [],.call 198 (.v out) []]
  (λ_ d=>au (λm(hm:n+1≤m)=>Bx (n:=n) (m:=m) (by omega) (a1:=some (.v (.lst (l.map ni)))) l [] none (by simp only[i9];omega) h)
   (au (uk (H:=[.lst (([]++(l.flatMap g).map ni).map .v)]) (i:=0) (j:=5) (l:=[]++(l.flatMap g).map ni) (loc:=[some (.v t),some (.v (.lst (l.map ni))),some (.v s),some (.v nm),some (.v c),some (.loc 0),dR (l.map ni) none]) rfl rfl)
   (au hu (au (ho.mono (k:=n+1)) d))))
  (by kernel_rfl) (by omega)
theorem Of{t nm c:AV}{l:List AV}:HP 1 686 [.v t,.v (.lst l),.v (.tup []),.v nm,.v c] (.lst l):=br (n:=0) (k:=0) [] qZ
theorem ux{n:Nat}{t nm c s x y:AV}(h:HP n 679 [.v t,.v x,.v s,.v nm,.v c] y):HP (n+1) 686 [.v t,.v x,.v (.tup [s]),.v nm,.v c] y:=br (n:=n) (k:=0) [.call 679 (.v y) []] (λ_ d=>au h d)
theorem DD{n:Nat}{t nm c s s' x y z:AV}(h:HP n 679 [.v t,.v x,.v s,.v nm,.v c] y)(h':HP n 679 [.v t,.v y,.v s',.v nm,.v c] z):HP (n+1) 686 [.v t,.v x,.v (.tup [s,s']),.v nm,.v c] z:=br (n:=n) (k:=0) [.call 679 (.v y) [],.call 679 (.v z) []] (λ_ d=>au h (au h' d)) (by kernel_rfl) (by omega)
end
section
noncomputable abbrev Ex:=Nat×List (Nat×AV)
noncomputable def Ex.av(e:Ex):AV:=.inst e.1 e.2
noncomputable def bg(op:List Nat)(a b:AV):AV:=.inst 827 [(3,.str op),(4,a),(5,b)]
noncomputable def cZ(v:AV):AV:=.inst 743 [(0,v)]
noncomputable def kL(s:List Nat):AV:=.inst 715 [(0,.str s)]
noncomputable def ez(s:List Nat):AV:=.inst 771 [(1,.str s)]
noncomputable def bv(s:List Nat)(args:List AV):AV:=.inst 799 [(1,.str s),(2,.tup args)]
noncomputable def Ct(e:AV):AV:=.inst 855 [(0,e)]
noncomputable def nC(e:AV)(ps:List AV):AV:=.inst 883 [(6,e),(7,.tup ps)]
noncomputable def cr(e:AV)(ss:List AV):AV:=.inst 911 [(8,e),(9,.tup ss)]
noncomputable def fY:AV:=.dct [(.str [110],nu 7 2),(.str [116],.str oX),(.str [115],.lst [ni 1,ni 2])]
noncomputable def cx(ts:List (Option Nat))(i:Nat)(po sz:Int)(cu:Nat):AV:=.inst 1042 [(12,T ts),(13,ni i),(14,.int po),(15,.int sz),(16,fY),(17,.dct []),(18,.dct [(.str qo,.glob (.ref 1328))]),(19,ni cu),(20,.dct [])]
theorem Fl{a b:List Nat}(h:a.length+b.length≤1000):∀st,fP .Add false (vs a) (vs b) st=.ok (vs (a++b)) st:=λst=>by show aK (bR (a.length+b.length)) (aI (vs (a++b))) st=_;rw[show bR (a.length+b.length)=true from f6 h];rfl
theorem K2{l:List AV}(h:l.length≤1000):∀loc,Bf.f .len [.v (.lst l)] ⟨loc,[]⟩=.ok (vi l.length) ⟨loc,[]⟩:=λloc=>pN h _
theorem K4{x:AV}:∀loc,Bf.f .len [.v (.lst [x])] ⟨loc,[]⟩=.ok (vi 1) ⟨loc,[]⟩:=λloc=>rfl
theorem NN{s:List Nat}:aS 1 (gf 245) [vs [61],vs s,vs [49]] [] (vb (decide (s=[49])==true)) []:=br (n:=0) (k:=0) [] qZ
section
variable{ts:List (Option Nat)}{i cu n:Nat}{po sz:Int}
theorem Aj{p q:Int}:HV (n+10) (cZ (nu p q)) (cx ts i po sz cu) (nu p q):=bG []
  qZ
theorem V6{s:List Nat}:HV (n+10) (kL s) (cx ts i po sz cu) (.str s):=bG []
  qZ
theorem V9:HV (n+10) (ez [110]) (cx ts i po sz cu) (nu 7 2):=bG []
  qZ
theorem Wx:HV (n+10) (ez [116]) (cx ts i po sz cu) (.str oX):=bG []
  qZ
theorem Wp:HV (n+10) (ez [115]) (cx ts i po sz cu) (.lst [ni 1,ni 2]):=bG []
  qZ
theorem Wn(hn:HP n 45 [vi po] (nu po 1)):HV (n+10) (bv ik []) (cx ts i po sz cu) (nu po 1):=bG [.call 45 (.v (nu po 1)) []]
  (qI hn<|qZ)
theorem HM(hn:HP n 45 [vi sz] (nu sz 1)):HV (n+10) (bv e9 []) (cx ts i po sz cu) (nu sz 1):=bG [.call 45 (.v (nu sz 1)) []]
  (qI hn<|qZ)
theorem V4{e:Ex}{l:List AV}(he:HV n e.av (cx ts i po sz cu) (.lst l))(hl:l.length≤1000)(hn:HP n 45 [vi l.length] (nu l.length 1)):HV (n+10) (bv lX [e.av]) (cx ts i po sz cu) (nu l.length 1):=bG [.call 1003 (.v (.lst l)) [],.eff (vi 1) [],.eff (vi l.length) [],.call 45 (.v (nu l.length 1)) []]
  (qI he<|qI (K4 (x:=.lst l))<|qI (K2 hl)<|qI hn<|qZ)
theorem VY{e:Ex}(he:HV n e.av (cx ts i po sz cu) (.lst [])):HV (n+10) (bv lW [e.av]) (cx ts i po sz cu) (.bool false):=bG [.call 1003 (.v (.lst [])) []]
  (qI he<|qZ)
theorem VZ{e:Ex}{x:AV}{l:List AV}(he:HV n e.av (cx ts i po sz cu) (.lst (x::l))):HV (n+10) (bv lW [e.av]) (cx ts i po sz cu) (.bool true):=bG [.call 1003 (.v (.lst (x::l))) []]
  (qI he<|qZ)
theorem Wd{e:Ex}(he:HV n e.av (cx ts i po sz cu) (.bool true)):HV (n+10) (bv qn [e.av]) (cx ts i po sz cu) (.bool false):=bG [.call 1003 (.v (.bool true)) []]
  (qI he<|qZ)
theorem HI:HV (n+10) (bv fL []) (cx ts i po sz cu) (.bool true):=bG []
  qZ
theorem Ww{e:Ex}(he:HV n e.av (cx ts i po sz cu) (.bool true)):HV (n+10) (bv gp [e.av]) (cx ts i po sz cu) (.str fL):=bG [.call 1003 (.v (.bool true)) []]
  (qI he<|qZ)
theorem Wc{e:Ex}(he:HV n e.av (cx ts i po sz cu) (.bool false)):HV (n+10) (bv qn [e.av]) (cx ts i po sz cu) (.bool true):=bG [.call 1003 (.v (.bool false)) []]
  (qI he<|qZ)
theorem HH:HV (n+10) (bv ij []) (cx ts i po sz cu) (.bool false):=bG []
  qZ
theorem Wu{e:Ex}(he:HV n e.av (cx ts i po sz cu) (.bool false)):HV (n+10) (bv gp [e.av]) (cx ts i po sz cu) (.str ij):=bG [.call 1003 (.v (.bool false)) []]
  (qI he<|qZ)
theorem Ws{e:Ex}(he:HV n e.av (cx ts i po sz cu) (.lst [])):HV (n+10) (bv gp [e.av]) (cx ts i po sz cu) (.str []):=bG [.call 1003 (.v (.lst [])) []]
  (qI he<|qZ)
theorem Wt{e:Ex}{j:Nat}{l:List AV}{s:List Nat}(he:HV n e.av (cx ts i po sz cu) (.lst (ni j::l)))(hs:HP n 210 [.v (T ts),.v (ni j)] (.str s)):HV (n+10) (bv gp [e.av]) (cx ts i po sz cu) (.str s):=bG [.call 1003 (.v (.lst (ni j::l))) [],.call 210 (.v (.str s)) [],.call 210 (.v (.str s)) []]
  (qI he<|qI hs<|qI hs<|qZ)
theorem Wg{e g:Ex}{s t:List Nat}(he:HV n e.av (cx ts i po sz cu) (.str s))(hg:HV n g.av (cx ts i po sz cu) (.str t))(hl:t.length+s.length≤1000):HV (n+10) (bv qo [e.av,g.av]) (cx ts i po sz cu) (.str (t++s)):=bG [.call 1003 (.v (.str s)) [],.call 1003 (.v (.str t)) [],.bop (vs (t++s))]
  (qI he<|qI hg<|qI (Fl hl)<|qZ)
theorem Wb{e:Ex}{p q:Int}(he:HV n e.av (cx ts i po sz cu) (nu p q)):HV (n+10) (Ct e.av) (cx ts i po sz cu) (nu (-p) q):=bG [.call 1003 (.v (nu p q)) []]
  (qI he<|qZ)
theorem Wm{e g:Ex}{p q r s:Int}{z:AV}(he:HV n e.av (cx ts i po sz cu) (nu p q))(hg:HV n g.av (cx ts i po sz cu) (nu r s))(hz:HP n 66 [.v (nu p q),.v (nu r s)] z):HV (n+10) (bg [43] e.av g.av) (cx ts i po sz cu) z:=bG [.call 1003 (.v (nu p q)) [],.call 1003 (.v (nu r s)) [],.call 66 (.v z) []]
  (qI he<|qI hg<|qI hz<|qZ)
theorem V7{e g:Ex}{p q r s:Int}{z:AV}(he:HV n e.av (cx ts i po sz cu) (nu p q))(hg:HV n g.av (cx ts i po sz cu) (nu r s))(hz:HP n 73 [.v (nu p q),.v (nu r s)] z):HV (n+10) (bg [45] e.av g.av) (cx ts i po sz cu) z:=bG [.call 1003 (.v (nu p q)) [],.call 1003 (.v (nu r s)) [],.call 73 (.v z) []]
  (qI he<|qI hg<|qI hz<|qZ)
theorem Wy{e g:Ex}{p q r s:Int}{z:AV}(he:HV n e.av (cx ts i po sz cu) (nu p q))(hg:HV n g.av (cx ts i po sz cu) (nu r s))(hz:HP n 80 [.v (nu p q),.v (nu r s)] z):HV (n+10) (bg [42] e.av g.av) (cx ts i po sz cu) z:=bG [.call 1003 (.v (nu p q)) [],.call 1003 (.v (nu r s)) [],.call 80 (.v z) []]
  (qI he<|qI hg<|qI hz<|qZ)
theorem V5{e g:Ex}{p q r s:Int}{z:AV}(he:HV n e.av (cx ts i po sz cu) (nu p q))(hg:HV n g.av (cx ts i po sz cu) (nu r s))(hz:HP n 87 [.v (nu p q),.v (nu r s)] z):HV (n+10) (bg dN e.av g.av) (cx ts i po sz cu) z:=bG [.call 1003 (.v (nu p q)) [],.call 1003 (.v (nu r s)) [],.call 87 (.v z) []]
  (qI he<|qI hg<|qI hz<|qZ)
theorem V8{e g:Ex}{p q r s:Int}{z:AV}(he:HV n e.av (cx ts i po sz cu) (nu p q))(hg:HV n g.av (cx ts i po sz cu) (nu r s))(hz:HP n 101 [.v (nu p q),.v (nu r s)] z):HV (n+10) (bg co e.av g.av) (cx ts i po sz cu) z:=bG [.call 1003 (.v (nu p q)) [],.call 1003 (.v (nu r s)) [],.call 101 (.v z) []]
  (qI he<|qI hg<|qI hz<|qZ)
theorem VP{e g:Ex}{p q r s:Int}{b:Bool}(he:HV n e.av (cx ts i po sz cu) (nu p q))(hg:HV n g.av (cx ts i po sz cu) (nu r s))(hz:aS n (gf 115) [vs [61],.v (nu p q),.v (nu r s)] [] (vb b) []):HV (n+10) (bg [61] e.av g.av) (cx ts i po sz cu) (.bool b):=bG [.call 1003 (.v (nu p q)) [],.call 1003 (.v (nu r s)) [],.call 115 (vb b) []]
  (qI he<|qI hg<|qI hz<|qZ)
theorem VV{e g:Ex}{p q r s:Int}{b:Bool}(he:HV n e.av (cx ts i po sz cu) (nu p q))(hg:HV n g.av (cx ts i po sz cu) (nu r s))(hz:aS n (gf 115) [vs fw,.v (nu p q),.v (nu r s)] [] (vb b) []):HV (n+10) (bg fw e.av g.av) (cx ts i po sz cu) (.bool b):=bG [.call 1003 (.v (nu p q)) [],.call 1003 (.v (nu r s)) [],.call 115 (vb b) []]
  (qI he<|qI hg<|qI hz<|qZ)
theorem VU{e g:Ex}{p q r s:Int}{b:Bool}(he:HV n e.av (cx ts i po sz cu) (nu p q))(hg:HV n g.av (cx ts i po sz cu) (nu r s))(hz:aS n (gf 115) [vs [60],.v (nu p q),.v (nu r s)] [] (vb b) []):HV (n+10) (bg [60] e.av g.av) (cx ts i po sz cu) (.bool b):=bG [.call 1003 (.v (nu p q)) [],.call 1003 (.v (nu r s)) [],.call 115 (vb b) []]
  (qI he<|qI hg<|qI hz<|qZ)
theorem VT{e g:Ex}{p q r s:Int}{b:Bool}(he:HV n e.av (cx ts i po sz cu) (nu p q))(hg:HV n g.av (cx ts i po sz cu) (nu r s))(hz:aS n (gf 115) [vs fM,.v (nu p q),.v (nu r s)] [] (vb b) []):HV (n+10) (bg fM e.av g.av) (cx ts i po sz cu) (.bool b):=bG [.call 1003 (.v (nu p q)) [],.call 1003 (.v (nu r s)) [],.call 115 (vb b) []]
  (qI he<|qI hg<|qI hz<|qZ)
theorem VS{e g:Ex}{p q r s:Int}{b:Bool}(he:HV n e.av (cx ts i po sz cu) (nu p q))(hg:HV n g.av (cx ts i po sz cu) (nu r s))(hz:aS n (gf 115) [vs [62],.v (nu p q),.v (nu r s)] [] (vb b) []):HV (n+10) (bg [62] e.av g.av) (cx ts i po sz cu) (.bool b):=bG [.call 1003 (.v (nu p q)) [],.call 1003 (.v (nu r s)) [],.call 115 (vb b) []]
  (qI he<|qI hg<|qI hz<|qZ)
theorem VQ{e g:Ex}{p q r s:Int}{b:Bool}(he:HV n e.av (cx ts i po sz cu) (nu p q))(hg:HV n g.av (cx ts i po sz cu) (nu r s))(hz:aS n (gf 115) [vs ga,.v (nu p q),.v (nu r s)] [] (vb b) []):HV (n+10) (bg ga e.av g.av) (cx ts i po sz cu) (.bool b):=bG [.call 1003 (.v (nu p q)) [],.call 1003 (.v (nu r s)) [],.call 115 (vb b) []]
  (qI he<|qI hg<|qI hz<|qZ)
theorem We{e g:Ex}(he:HV n e.av (cx ts i po sz cu) (.bool true)):HV (n+10) (bg jI e.av g.av) (cx ts i po sz cu) (.bool true):=bG [.call 1003 (.v (.bool true)) []]
  (qI he<|qZ)
theorem Wf{e g:Ex}{b:Bool}(he:HV n e.av (cx ts i po sz cu) (.bool false))(hg:HV n g.av (cx ts i po sz cu) (.bool b)):HV (n+10) (bg jI e.av g.av) (cx ts i po sz cu) (.bool b):=bG [.call 1003 (.v (.bool false)) [],.call 1003 (.v (.bool b)) []]
  (qI he<|qI hg<|qZ)
theorem VW{e g:Ex}(he:HV n e.av (cx ts i po sz cu) (.bool false)):HV (n+10) (bg jJ e.av g.av) (cx ts i po sz cu) (.bool false):=bG [.call 1003 (.v (.bool false)) []]
  (qI he<|qZ)
theorem VX{e g:Ex}{b:Bool}(he:HV n e.av (cx ts i po sz cu) (.bool true))(hg:HV n g.av (cx ts i po sz cu) (.bool b)):HV (n+10) (bg jJ e.av g.av) (cx ts i po sz cu) (.bool b):=bG [.call 1003 (.v (.bool true)) [],.call 1003 (.v (.bool b)) []]
  (qI he<|qI hg<|qZ)
theorem Wz{e g:Ex}{l r u:List AV}(he:HV n e.av (cx ts i po sz cu) (.lst l))(hg:HV n g.av (cx ts i po sz cu) (.lst r))(hu:HP n 963 [.v (T ts),.v (.lst l),.v (.lst r)] (.lst u)):HV (n+10) (bg [124] e.av g.av) (cx ts i po sz cu) (.lst u):=bG [.call 1003 (.v (.lst l)) [],.call 1003 (.v (.lst r)) [],.call 963 (.v (.lst u)) []]
  (qI he<|qI hg<|qI hu<|qZ)
theorem HJ{e:Ex}{l u ps:List AV}(he:HV n e.av (cx ts i po sz cu) (.lst l))(hu:HP n 660 [.v (.lst l),.v (.tup ps),.v (.clos (cx ts i po sz cu))] (.lst u)):HV (n+10) (nC e.av ps) (cx ts i po sz cu) (.lst u):=bG [.call 1003 (.v (.lst l)) [],.call 660 (.v (.lst u)) []]
  (qI he<|qI hu<|qZ)
theorem Ak{u ss:List AV}(hu:HP n 686 [.v (T ts),.v (.lst [ni i]),.v (.tup ss),.v (.dct []),.v (.clos (cx ts i po sz cu))] (.lst u)):HV (n+10) (cr .none ss) (cx ts i po sz cu) (.lst u):=bG [.call 686 (.v (.lst u)) []]
  (qI hu<|qZ)
theorem Al{u ss:List AV}(hr:HP n 1236 [.v (T ts),.v (ni i)] (ni 0))(hu:HP n 686 [.v (T ts),.v (.lst [ni 0]),.v (.tup ss),.v (.dct []),.v (.clos (cx ts i po sz cu))] (.lst u)):HV (n+10) (cr (.str fb) ss) (cx ts i po sz cu) (.lst u):=bG [.call 1236 (.v (ni 0)) [],.call 686 (.v (.lst u)) []]
  (qI hr<|qI hu<|qZ)
theorem Wh{e:List (Nat×AV)}{l u ss:List AV}(he:HV n (.inst 771 e) (cx ts i po sz cu) (.lst l))(hu:HP n 686 [.v (T ts),.v (.lst l),.v (.tup ss),.v (.dct []),.v (.clos (cx ts i po sz cu))] (.lst u)):HV (n+10) (cr (.inst 771 e) ss) (cx ts i po sz cu) (.lst u):=bG [.call 1003 (.v (.lst l)) [],.call 686 (.v (.lst u)) []]
  (qI he<|qI hu<|qZ)
theorem Wl{e:List (Nat×AV)}{l u ss:List AV}(he:HV n (.inst 911 e) (cx ts i po sz cu) (.lst l))(hu:HP n 686 [.v (T ts),.v (.lst l),.v (.tup ss),.v (.dct []),.v (.clos (cx ts i po sz cu))] (.lst u)):HV (n+10) (cr (.inst 911 e) ss) (cx ts i po sz cu) (.lst u):=bG [.call 1003 (.v (.lst l)) [],.call 686 (.v (.lst u)) []]
  (qI he<|qI hu<|qZ)
theorem Wi{e:List (Nat×AV)}{l u ss:List AV}(he:HV n (.inst 827 e) (cx ts i po sz cu) (.lst l))(hu:HP n 686 [.v (T ts),.v (.lst l),.v (.tup ss),.v (.dct []),.v (.clos (cx ts i po sz cu))] (.lst u)):HV (n+10) (cr (.inst 827 e) ss) (cx ts i po sz cu) (.lst u):=bG [.call 1003 (.v (.lst l)) [],.call 686 (.v (.lst u)) []]
  (qI he<|qI hu<|qZ)
theorem Wj{e:List (Nat×AV)}{l u ss:List AV}(he:HV n (.inst 883 e) (cx ts i po sz cu) (.lst l))(hu:HP n 686 [.v (T ts),.v (.lst l),.v (.tup ss),.v (.dct []),.v (.clos (cx ts i po sz cu))] (.lst u)):HV (n+10) (cr (.inst 883 e) ss) (cx ts i po sz cu) (.lst u):=bG [.call 1003 (.v (.lst l)) [],.call 686 (.v (.lst u)) []]
  (qI he<|qI hu<|qZ)
theorem Wo{b:Bool}(hn:HP n 45 [vi po] (nu po 1))(hz:aS n (gf 115) [vs [62],.v (nu po 1),.v (nu 1 1)] [] (vb b) []):HV (n+10) (bg [62] (bv ik []) (cZ (nu 1 1))) (cx ts i po sz cu) (.bool b):=bG [.call 45 (.v (nu po 1)) [],.call 115 (vb b) []]
  (qI hn<|qI hz<|qZ)
theorem Wa(hz:aS n (gf 115) [vs [61],.v (nu 7 2),.v (nu 7 2)] [] (vb true) []):HV (n+10) (bg [61] (ez [110]) (cZ (nu 7 2))) (cx ts i po sz cu) (.bool true):=bG [.call 115 (vb true) []]
  (qI hz<|qZ)
theorem Wq{e:Ex}{s:List Nat}{b:Bool}(he:HV n e.av (cx ts i po sz cu) (.lst [ni i]))(hs:HP n 210 [.v (T ts),.v (ni i)] (.str s))(hb:aS n (gf 245) [vs [61],vs s,vs [49]] [] (vb true) []):HV (n+10) (bg [61] e.av (kL [49])) (cx ts i po sz cu) (.bool true):=bG [.call 1003 (.v (.lst [ni i])) [],.call 210 (.v (.str s)) [],.call 245 (vb true) []]
  (qI he<|qI hs<|qI hb<|qZ)
theorem Wr{e:Ex}{s:List Nat}{b:Bool}(he:HV n e.av (cx ts i po sz cu) (.lst [ni i]))(hs:HP n 210 [.v (T ts),.v (ni i)] (.str s))(hb:aS n (gf 245) [vs [61],vs s,vs [49]] [] (vb false) []):HV (n+10) (bg [61] e.av (kL [49])) (cx ts i po sz cu) (.bool false):=bG [.call 1003 (.v (.lst [ni i])) [],.call 210 (.v (.str s)) [],.call 245 (vb false) []]
  (qI he<|qI hs<|qI hb<|qZ)
theorem sJ{e:Ex}{j:Nat}{po' sz':Int}{v:AV}(h:HV n e.av (cx ts j po' sz' cu) v):aS (n+5) (.clos (cx ts i po sz cu)) [.v e.av,.v (ni j),vi po',vi sz'] [] (.v v) []:=br (n:=n) (k:=4) [.call 1003 (.v v) []] (λ_ d=>au h d)
theorem Ai{b:Bool}{j:Int}:aS 1 (gf 653) [vb b,vi j] [] (vb b) []:=br (n:=0) (k:=0) [] qZ
theorem HK{p q j:Int}:aS 1 (gf 653) [.v (nu p q),vi j] [] (vb (decide (p=j)&&(decide (q=1)&&true))) []:=br (n:=0) (k:=0) [] qZ
end
end
section
noncomputable def dB(rw:List Int)(a b:Int)(r:RV):List ac:=[.lst (rw.map λi=>.v (.int i)),.lst [vi a,vi b,r]]
inductive je:List ac→Prop where
 |row (rw:List Int) (a b:Int):rw.length≤1000→je (dB rw a b (.loc 0))
 |none (rw:List Int) (a b:Int):rw.length≤1000→je (dB rw a b (.v (.lst [])))
theorem x7{a b:Int}(h:0<b):0≤a.fmod b∧a.fmod b<b:=by rw[Iv a (by omega)];exact⟨Int.emod_nonneg a (by omega),Int.emod_lt_of_pos a h⟩
theorem S9{x:Int}{rw:List Int}{a b:Int}(loc:List (Option RV)):cj .NotEq (.loc 0) (.v (.lst [])) ⟨loc,dB (x::rw) a b (.loc 0)⟩=.ok (vb true) ⟨loc,dB (x::rw) a b (.loc 0)⟩:=by
 have e:iS (.loc 0) (dB (x::rw) a b (.loc 0))=some (.lst ((x::rw).map AV.int)):=by show(bY ((x::rw).map λi=>RV.v (.int i))).map AV.lst=_;rw[show((x::rw).map λi=>RV.v (.int i))=((x::rw).map AV.int).map RV.v by rw[dm];rfl,kA];rfl
 show aj (n8 ((iS (.loc 0) (dB (x::rw) a b (.loc 0))).bind λx'=>(iS (.v (.lst [])) (dB (x::rw) a b (.loc 0))).bind λy=>cb 8 x' y)) (λt=>aI (RV.v (.bool t))) (⟨loc,dB (x::rw) a b (.loc 0)⟩:St)=_;rw[e];rfl
theorem Ta{x:Int}{rw:List Int}{a b:Int}(h:(x::rw).length≤1000)(loc:List (Option RV)):xU (.loc 0) [vi 0] ⟨loc,dB (x::rw) a b (.loc 0)⟩=.ok (vi x) ⟨loc,dB rw a b (.loc 0)⟩:=by show aK (decide ((0:Int)=0)&&bR ((x::rw).map λi=>RV.v (.int i)).length) (λ_=>Rs.ok (vi x) ⟨loc,dB rw a b (.loc 0)⟩) (⟨loc,dB (x::rw) a b (.loc 0)⟩:St)=_;rw[aU,show bR (x::rw).length=true from f6 h];rfl
theorem bh{i j:Int}(h:j.natAbs≤2147483648):∀st,fP .Mult false (vi i) (vi j) st=.ok (vi (i*j)) st:=λst=>by rw[E4,show lb i j=true by unfold lb;rw[Gj h,sX]];rfl
section
variable{top:Int}(ht:0<top)(hb:top<1073741824){rw:List Int}{a b x:Int}{r:RV}
include ht hb
theorem Vt(hl:(x::rw).length≤1000):HL 2 top (dB (x::rw) a b (.loc 0)) (x.fmod top) (dB rw a b (.loc 0)):=br (n:=0) (k:=1) [.cef (vb true),.eff (vi x) (dB rw a b (.loc 0)),.bop (vi ((x).fmod (top)))]
  (qI (S9 (x:=x) (rw:=rw) (a:=a) (b:=b))<|qI (Ta (a:=a) (b:=b) hl)<|qI (jo (i:=x) (j:=top) (show top≠0 by omega))<|qZ)
theorem Vp(ha:a>0):HL 2 top (dB [] a b (.loc 0)) (a.fmod top) (dB [] (a.fdiv top) b (.loc 0)):=br (n:=0) (k:=1) [.cond false,.cond true,.bop (vi ((a).fmod (top))),.bop (vi ((a).fdiv (top)))]
  (qI (rfl:false=false)<|qI (cD ha)<|qI (jo (i:=a) (j:=top) (show top≠0 by omega))<|qI (fq (i:=a) (j:=top) ht hb)<|qZ)
theorem Vr(ha:¬a>0):HL 2 top (dB [] a b (.loc 0)) (((((((b*39373+7).fmod 2147483647)*((b*39373+7).fmod 2147483647)).fmod 2147483629).fdiv 32)).fmod top) (dB [] a ((b*39373+7).fmod 2147483647) (.loc 0)):=br (n:=0) (k:=1) [.cond false,.cond false,.bop (vi ((b)*(39373))),.bop (vi ((b*39373)+(7))),.bop (vi ((b*39373+7).fmod (2147483647))),.bop (vi ((((b*39373+7).fmod 2147483647))*(((b*39373+7).fmod 2147483647)))),.bop (vi ((((b*39373+7).fmod 2147483647)*((b*39373+7).fmod 2147483647)).fmod (2147483629))),.bop (vi (((((b*39373+7).fmod 2147483647)*((b*39373+7).fmod 2147483647)).fmod 2147483629).fdiv (32))),.bop (vi ((((((b*39373+7).fmod 2147483647)*((b*39373+7).fmod 2147483647)).fmod 2147483629).fdiv 32).fmod (top)))]
  (qI (rfl:false=false)<|qI (bW ha)<|qI (bh (i:=b) (j:=39373) (by decide))<|qI (pM (i:=b*39373) (j:=7))<|qI (jo (i:=b*39373+7) (j:=2147483647) (by omega))<|qI (bS (i:=((b*39373+7).fmod 2147483647)) (j:=((b*39373+7).fmod 2147483647)) (show(((b*39373+7).fmod 2147483647)).natAbs≤2147483648 from(by have:=x7 (a:=b*39373+7) (b:=2147483647) (by omega);omega)))<|qI (jo (i:=((b*39373+7).fmod 2147483647)*((b*39373+7).fmod 2147483647)) (j:=2147483629) (by omega))<|qI (fq (i:=(((b*39373+7).fmod 2147483647)*((b*39373+7).fmod 2147483647)).fmod 2147483629) (j:=32) (by omega) (by omega))<|qI (jo (i:=((((b*39373+7).fmod 2147483647)*((b*39373+7).fmod 2147483647)).fmod 2147483629).fdiv 32) (j:=top) (show top≠0 by omega))<|qZ)
theorem Vq(ha:a>0):HL 2 top (dB rw a b (.v (.lst []))) (a.fmod top) (dB rw (a.fdiv top) b (.v (.lst []))):=br (n:=0) (k:=1) [.cond false,.cond true,.bop (vi ((a).fmod (top))),.bop (vi ((a).fdiv (top)))]
  (qI (rfl:false=false)<|qI (cD ha)<|qI (jo (i:=a) (j:=top) (show top≠0 by omega))<|qI (fq (i:=a) (j:=top) ht hb)<|qZ)
theorem Vs(ha:¬a>0):HL 2 top (dB rw a b (.v (.lst []))) (((((((b*39373+7).fmod 2147483647)*((b*39373+7).fmod 2147483647)).fmod 2147483629).fdiv 32)).fmod top) (dB rw a ((b*39373+7).fmod 2147483647) (.v (.lst []))):=br (n:=0) (k:=1) [.cond false,.cond false,.bop (vi ((b)*(39373))),.bop (vi ((b*39373)+(7))),.bop (vi ((b*39373+7).fmod (2147483647))),.bop (vi ((((b*39373+7).fmod 2147483647))*(((b*39373+7).fmod 2147483647)))),.bop (vi ((((b*39373+7).fmod 2147483647)*((b*39373+7).fmod 2147483647)).fmod (2147483629))),.bop (vi (((((b*39373+7).fmod 2147483647)*((b*39373+7).fmod 2147483647)).fmod 2147483629).fdiv (32))),.bop (vi ((((((b*39373+7).fmod 2147483647)*((b*39373+7).fmod 2147483647)).fmod 2147483629).fdiv 32).fmod (top)))]
  (qI (rfl:false=false)<|qI (bW ha)<|qI (bh (i:=b) (j:=39373) (by decide))<|qI (pM (i:=b*39373) (j:=7))<|qI (jo (i:=b*39373+7) (j:=2147483647) (by omega))<|qI (bS (i:=((b*39373+7).fmod 2147483647)) (j:=((b*39373+7).fmod 2147483647)) (show(((b*39373+7).fmod 2147483647)).natAbs≤2147483648 from(by have:=x7 (a:=b*39373+7) (b:=2147483647) (by omega);omega)))<|qI (jo (i:=((b*39373+7).fmod 2147483647)*((b*39373+7).fmod 2147483647)) (j:=2147483629) (by omega))<|qI (fq (i:=(((b*39373+7).fmod 2147483647)*((b*39373+7).fmod 2147483647)).fmod 2147483629) (j:=32) (by omega) (by omega))<|qI (jo (i:=((((b*39373+7).fmod 2147483647)*((b*39373+7).fmod 2147483647)).fmod 2147483629).fdiv 32) (j:=top) (show top≠0 by omega))<|qZ)
theorem Og{H:List ac}(h:je H):∃(fig:Int)(H':List ac),je H'∧0≤fig∧fig<top∧HL 2 top H fig H':=by
 have z:∀(y:Int),0≤y.fmod top∧y.fmod top<top:=λy=>x7 ht;cases h with
 |row rw a b hl=>
  cases rw with
  |cons x rw=>exact⟨_,_,.row rw a b (by simp only[bV] at hl;omega),(z x).1,(z x).2,Vt ht hb hl⟩
  |nil=>
   by_cases ha:a>0
   ·exact⟨_,_,.row [] _ b hl,(z a).1,(z a).2,Vp ht hb ha⟩
   ·exact⟨_,_,.row [] a _ hl,(z _).1,(z _).2,Vr ht hb ha⟩
 |none rw a b hl=>
  by_cases ha:a>0
  ·exact⟨_,_,.none rw _ b hl,(z a).1,(z a).2,Vq ht hb ha⟩
  ·exact⟨_,_,.none rw a _ hl,(z _).1,(z _).2,Vs ht hb ha⟩
end
end
section
theorem Uv(n:Nat)(t b:Int)(h:0<b)(hb:b<1073741824):fo (n+1) (gf 1285) [vi t,vi b] []=.ok (.v (low t b)) []:=by
 show gQ true 0 (aP (fo n) As ⟨[some (vi t),some (vi b),none,none],[]⟩)=_;unfold As;simp only[V0,V1,S2,S3,dQ,Cu,qK,rq,ro,EZ,rE,j9,zP,qh,zx];simp only[FV];have:=yc (fo n) [] mQ (if t<0 then-t else t) b (some (vi t)) (some (vi b)) (by split<;>omega) (by omega) (by unfold mQ;omega);unfold sR sQ at this;rw[this];have e:Int.gcd (if t<0 then-t else t) b=Int.gcd t b:=by split<;>simp
 rw[e,Ew,dQ];have o1:∀(i:Int)(st:St),fP .FloorDiv false (vi i) (vi (Int.gcd t b)) st=.ok (vi (i.fdiv (Int.gcd t b))) st:=λi=>fq (gU t h).1 (by have:=gU t h;omega);simp only[nM,j9,ow,qK,ro,rq,Cv,V0,V1,V2,dQ,o1,rE,vG,pR];rfl
theorem Dw{t b:Int}(h:0<b)(hb:b<1073741824):HP 1 1285 [vi t,vi b] (low t b):=λm hm=>by obtain⟨m',rfl⟩:∃m',m=m'+1:=⟨m-1,by omega⟩;exact Uv m' t b h hb
noncomputable def wA(od tx ab be:AV)(i:Nat)(po:Int):AV:=.dct [(.str tE,od),(.str qp,tx),(.str iM,ab),(.str lV,be),(.str dP,ni i),
 (.str wM,.int po),(.str Br,.int 3),(.str qm,.lst [ni 1,ni 2])]
theorem je.len{H:List ac}(h:je H):∃o o',H=[o,o']:=by cases h<;>exact⟨_,_,rfl⟩
abbrev HS(n:Nat)(w l:AV)(a:PR)(e v:AV)(b:PR):Prop:=aS n (gf 1316) [.loc 1,.v w,.v l] (l2 a) (.v (.tup [e,v])) (l2 b)
abbrev SG(a:PR):Prop:=je (l2 a)
theorem l5{P:Int→Prop}{n:Nat}(d:∀k,k<n→P (k:Int)){f:Int}(h0:0≤f)(h1:f<n):P f:=by obtain⟨k,rfl⟩:=te h0;exact d k (Int.ofNat_lt.mp h1)
theorem c2{f:Int}(h0:0≤f)(h1:f<2):f=0∨f=1:=l5 (P:=λf=>f=0∨f=1) (n:=2) (by decide) h0 h1
theorem c3{f:Int}(h0:0≤f)(h1:f<3):f=0∨f=1∨f=2:=l5 (P:=λf=>f=0∨f=1∨f=2) (n:=3) (by decide) h0 h1
theorem c4{f:Int}(h0:0≤f)(h1:f<4):f=0∨f=1∨f=2∨f=3:=l5 (P:=λf=>f=0∨f=1∨f=2∨f=3) (n:=4) (by decide) h0 h1
theorem c5{f:Int}(h0:0≤f)(h1:f<5):f=0∨f=1∨f=2∨f=3∨f=4:=l5 (P:=λf=>f=0∨f=1∨f=2∨f=3∨f=4) (n:=5) (by decide) h0 h1
theorem c6{f:Int}(h0:0≤f)(h1:f<6):f=0∨f=1∨f=2∨f=3∨f=4∨f=5:=l5 (P:=λf=>f=0∨f=1∨f=2∨f=3∨f=4∨f=5) (n:=6) (by decide) h0 h1
theorem Jq{f:Int}(h0:0≤f)(h1:f<8)(hw:¬f<4):f=4∨f=5∨f=6∨f=7:=l5 (P:=λf=>¬f<4→f=4∨f=5∨f=6∨f=7) (n:=8) (by decide) h0 h1 hw
theorem Jp{f:Int}(h0:0≤f)(h1:f<7)(hw:¬f<4):f=4∨f=5∨f=6:=l5 (P:=λf=>¬f<4→f=4∨f=5∨f=6) (n:=7) (by decide) h0 h1 hw
theorem Jo{f:Int}(h0:0≤f)(h1:f<5)(hw:¬f<2):f=2∨f=3∨f=4:=l5 (P:=λf=>¬f<2→f=2∨f=3∨f=4) (n:=5) (by decide) h0 h1 hw
theorem fn{top:Int}{a:PR}(h:SG a)(ht:0<top:=by decide)(hb:top<1073741824:=by decide):∃(fig:Int)(b:PR),SG b∧0≤fig∧fig<top∧HT 2 top a fig b:=by obtain⟨f,H,hs,r⟩:=Og ht hb h;obtain⟨o,o',rfl⟩:=hs.len;exact⟨f,(o,o'),hs,r⟩
theorem Lz{l:List AV}{k:Int}{x:RV}(c:(decide (0≤k)&&decide (k<1000000))=true)(h:ae (l.map RV.v) k.toNat=some x):∀st,bH (.v (.lst l)) (.v (.int k)) st=.ok x st:=λst=>by show aK (decide (0≤k)&&decide (k<1000000)) (aj (ae (l.map RV.v) k.toNat) aI) st=_;rw[c,h];rfl
theorem LB{l:List AV}{j:Nat}{x:AV}(h:ae l j=some x)(hj:j<1000000):∀st,bH (.v (.lst l)) (vi j) st=.ok (.v x) st:=λst=>by
 have e:ae (l.map RV.v) j=some (.v x):=by
  revert h;clear hj;induction l generalizing j with
  |nil=>cases j<;>exactλh=>nomatch h
  |cons y l ih=>
   cases j with
   |zero=>intro h;cases h;rfl
   |succ j=>exactλh=>ih h
 exact Lz (by rw[cD (show(0:Int)≤j by omega),cD (show(j:Int)<1000000 by omega)];rfl) (by rw[Int.toNat_natCast];exact e) st
theorem iV{l:List AV}{a:PR}(h:SG a)(hl:0<l.length:=by decide)(hl':l.length≤100:=by decide):∃(j:Nat)(x:AV)(b:PR),SG b∧ae l j=some x∧j<l.length∧HO 3 (.lst l) a x b:=by
 obtain⟨fig,H',hs,h0,h1,ht⟩:=fn (top:=l.length) h (by omega) (by omega);obtain⟨j,rfl⟩:=te h0;have hj:j<l.length:=by omega
 obtain⟨x,hx⟩:∃x,ae l j=some x:=by
  clear h1 ht hl hl' h0;induction l generalizing j with
  |nil=>simp only[i9] at hj;omega
  |cons y l ih=>
   cases j with
   |zero=>exact⟨_,rfl⟩
   |succ j=>simp only[bV] at hj;exact ih j (by omega)
 exact⟨j,x,_,hs,hx,hj,br (n:=2) (k:=0) [.eff (vi l.length) (l2 a),.call 1271 (vi j) (l2 H'),.sb (.v x)] (λ_ d=>au (λloc=>pN (l:=l) (by omega) (⟨loc,l2 a⟩:St)) (au ht (au (LB hx (by omega)) d))) (by kernel_rfl) (by omega)⟩
theorem DA{od tx ab be:AV}{i:Nat}{po:Int}{K:Nat}(hK:K≤100){l:List Nat}:HP 1 1311 [.v (wA (.lst ((List.range K).map ni)) tx ab be i po),.v (.lst (l.map ni))] (.lst (dh (λi=>decide (i∈l)) K)):=br (n:=0) (k:=0) [.comp (.v (.lst (dh (λi=>decide (i∈l)) K)))] (λ_ d=>au (λm(_:0≤m)=>(show fj 1 [1] (fm [0] (ev (fo m) (.cmp .In (.var 0) (.var 1))) (ev (fo m) (.var 0))) (d7 (List.range K)) ⟨[some (.v (wA (.lst ((List.range K).map ni)) tx ab be i po)),some (.v (.lst (l.map ni)))],[]⟩=.ok (.v (.lst (dh (λi=>decide (i∈l)) K))) ⟨[some (.v (wA (.lst ((List.range K).map ni)) tx ab be i po)),some (.v (.lst (l.map ni)))],[]⟩ from by rw[CP (f:=fo m) (cap:=[some (.v (.lst (l.map ni)))]) (b:=λi=>decide (i∈l)) (λx=>Jt) rfl (by rw[oT];omega)];rfl)) d)
end
section
noncomputable def Cs(x:AV):AV:=.inst 715 [(0,x)]
section
variable{od txd abd bed:AV}{i n:Nat}{po d:Int}{oo pp qq rr ss:PR}
theorem Ms{x:AV}(hd:decide (d>0)=true)(h1:HT n 8 oo 0 pp)(h2:HO n (.lst [nu 0 1,nu 1 1,nu 2 1,nu 5 2,nu (-3) 1]) pp x qq)(hb:BW qq):HG (n+12) 1292 (wA od txd abd bed i po) d oo (cZ x) x qq:=aV [.cond true,.call 1271 (vi 0) (l2 pp),.call 1278 (.v x) (l2 qq)]
  (qI hd<|qI h1<|qI h2<|qI hb<|qZ)
theorem Mu(hd:decide (d>0)=true)(h1:HT n 8 oo 1 pp)(hb:BW pp):HG (n+12) 1292 (wA od txd abd bed i po) d oo (ez [110]) (nu 7 2) pp:=aV [.cond true,.call 1271 (vi 1) (l2 pp)]
  (qI hd<|qI h1<|qI hb<|qZ)
theorem Mw(hd:decide (d>0)=true)(h1:HT n 8 oo 2 pp)(hb:BW pp):HG (n+12) 1292 (wA od txd abd bed i po) d oo (bv ik []) (nu po 1) pp:=aV [.cond true,.call 1271 (vi 2) (l2 pp)]
  (qI hd<|qI h1<|qI hb<|qZ)
theorem My(hd:decide (d>0)=true)(h1:HT n 8 oo 3 pp)(hb:BW pp):HG (n+12) 1292 (wA od txd abd bed i po) d oo (bv e9 []) (nu 3 1) pp:=aV [.cond true,.call 1271 (vi 3) (l2 pp)]
  (qI hd<|qI h1<|qI hb<|qZ)
theorem Nf{x:AV}(hd:decide (d>0)=true)(h1:HT n 5 oo 0 pp)(h2:HO n (.lst [.str [],.str [120],.str [49],.str [97,32,98]]) pp x qq):HG (n+12) 1306 (wA od txd abd bed i po) d oo (Cs x) x qq:=aV [.cond true,.call 1271 (vi 0) (l2 pp),.call 1278 (.v x) (l2 qq)]
  (qI hd<|qI h1<|qI h2<|qZ)
theorem Nh(hd:decide (d>0)=true)(h1:HT n 5 oo 1 pp):HG (n+12) 1306 (wA od txd abd bed i po) d oo (ez [116]) (.str oX) pp:=aV [.cond true,.call 1271 (vi 1) (l2 pp)]
  (qI hd<|qI h1<|qZ)
theorem MP(hd:decide (d>0)=true)(h1:HT n 7 oo 0 pp):HG (n+12) 1321 (wA od txd abd bed i po) d oo (ez [115]) (.lst [ni 1,ni 2]) pp:=aV [.cond true,.call 1271 (vi 0) (l2 pp)]
  (qI hd<|qI h1<|qZ)
theorem Mt{x:AV}(hd:decide (d>0)=false)(h1:HT n 4 oo 0 pp)(h2:HO n (.lst [nu 0 1,nu 1 1,nu 2 1,nu 5 2,nu (-3) 1]) pp x qq)(hb:BW qq):HG (n+12) 1292 (wA od txd abd bed i po) d oo (cZ x) x qq:=aV [.cond false,.call 1271 (vi 0) (l2 pp),.call 1278 (.v x) (l2 qq)]
  (qI hd<|qI h1<|qI h2<|qI hb<|qZ)
theorem Mv(hd:decide (d>0)=false)(h1:HT n 4 oo 1 pp)(hb:BW pp):HG (n+12) 1292 (wA od txd abd bed i po) d oo (ez [110]) (nu 7 2) pp:=aV [.cond false,.call 1271 (vi 1) (l2 pp)]
  (qI hd<|qI h1<|qI hb<|qZ)
theorem Mx(hd:decide (d>0)=false)(h1:HT n 4 oo 2 pp)(hb:BW pp):HG (n+12) 1292 (wA od txd abd bed i po) d oo (bv ik []) (nu po 1) pp:=aV [.cond false,.call 1271 (vi 2) (l2 pp)]
  (qI hd<|qI h1<|qI hb<|qZ)
theorem Mz(hd:decide (d>0)=false)(h1:HT n 4 oo 3 pp)(hb:BW pp):HG (n+12) 1292 (wA od txd abd bed i po) d oo (bv e9 []) (nu 3 1) pp:=aV [.cond false,.call 1271 (vi 3) (l2 pp)]
  (qI hd<|qI h1<|qI hb<|qZ)
theorem Ng{x:AV}(hd:decide (d>0)=false)(h1:HT n 2 oo 0 pp)(h2:HO n (.lst [.str [],.str [120],.str [49],.str [97,32,98]]) pp x qq):HG (n+12) 1306 (wA od txd abd bed i po) d oo (Cs x) x qq:=aV [.cond false,.call 1271 (vi 0) (l2 pp),.call 1278 (.v x) (l2 qq)]
  (qI hd<|qI h1<|qI h2<|qZ)
theorem Ni(hd:decide (d>0)=false)(h1:HT n 2 oo 1 pp):HG (n+12) 1306 (wA od txd abd bed i po) d oo (ez [116]) (.str oX) pp:=aV [.cond false,.call 1271 (vi 1) (l2 pp)]
  (qI hd<|qI h1<|qZ)
theorem MQ(hd:decide (d>0)=false)(h1:HT n 4 oo 0 pp):HG (n+12) 1321 (wA od txd abd bed i po) d oo (ez [115]) (.lst [ni 1,ni 2]) pp:=aV [.cond false,.call 1271 (vi 0) (l2 pp)]
  (qI hd<|qI h1<|qZ)
theorem MA{e:Ex}{l:List AV}(hd:decide (d>0)=true)(h1:HT n 8 oo 4 pp)(h2:HG n 1321 (wA od txd abd bed i po) (d-1) pp e.av (.lst l) qq)(hl:l.length≤1000)(hb:BW qq):HG (n+12) 1292 (wA od txd abd bed i po) d oo (bv lX [e.av]) (nu l.length 1) qq:=aV [.cond true,.call 1271 (vi 4) (l2 pp),.call 1321 (.v (.tup [e.av,.lst l])) (l2 qq),.eff (vi l.length) (l2 qq)]
  (qI hd<|qI h1<|qI h2<|qI (λloc=>pN hl (⟨loc,l2 qq⟩:St))<|qI hb<|qZ)
theorem MB{e:Ex}{p q:Int}(hd:decide (d>0)=true)(h1:HT n 8 oo 5 pp)(h2:HG n 1292 (wA od txd abd bed i po) (d-1) pp e.av (nu p q) qq)(hb:BW qq):HG (n+12) 1292 (wA od txd abd bed i po) d oo (Ct e.av) (nu (-p) q) qq:=aV [.cond true,.call 1271 (vi 5) (l2 pp),.call 1292 (.v (.tup [e.av,nu p q])) (l2 qq)]
  (qI hd<|qI h1<|qI h2<|qI hb<|qZ)
theorem Me(hd:decide (d>0)=true)(h1:HT n 6 oo 0 pp)(h2:HT n 2 pp 0 qq)(hb:BW qq):HG (n+12) 1299 (wA od txd abd bed i po) d oo (bv fL []) (.bool true) qq:=aV [.cond true,.call 1271 (vi 0) (l2 pp),.call 1271 (vi 0) (l2 qq)]
  (qI hd<|qI h1<|qI h2<|qI hb<|qZ)
theorem Md(hd:decide (d>0)=false)(h1:HT n 2 oo 0 pp)(hb:BW pp):HG (n+12) 1299 (wA od txd abd bed i po) d oo (bv fL []) (.bool true) pp:=aV [.cond false,.call 1271 (vi 0) (l2 pp)]
  (qI hd<|qI h1<|qI hb<|qZ)
theorem Mb(hd:decide (d>0)=true)(h1:HT n 6 oo 0 pp)(h2:HT n 2 pp 1 qq)(hb:BW qq):HG (n+12) 1299 (wA od txd abd bed i po) d oo (bv ij []) (.bool false) qq:=aV [.cond true,.call 1271 (vi 0) (l2 pp),.call 1271 (vi 1) (l2 qq)]
  (qI hd<|qI h1<|qI h2<|qI hb<|qZ)
theorem Mc(hd:decide (d>0)=false)(h1:HT n 2 oo 1 pp)(hb:BW pp):HG (n+12) 1299 (wA od txd abd bed i po) d oo (bv ij []) (.bool false) pp:=aV [.cond false,.call 1271 (vi 1) (l2 pp)]
  (qI hd<|qI h1<|qI hb<|qZ)
theorem Mf{e:Ex}{x:AV}{l:List AV}(hd:decide (d>0)=true)(h1:HT n 6 oo 1 pp)(h2:HG n 1321 (wA od txd abd bed i po) (d-1) pp e.av (.lst []) qq)(hb:BW qq):HG (n+12) 1299 (wA od txd abd bed i po) d oo (bv lW [e.av]) (.bool false) qq:=aV [.cond true,.call 1271 (vi 1) (l2 pp),.call 1321 (.v (.tup [e.av,.lst []])) (l2 qq)]
  (qI hd<|qI h1<|qI h2<|qI hb<|qZ)
theorem Mg{e:Ex}{x:AV}{l:List AV}(hd:decide (d>0)=true)(h1:HT n 6 oo 1 pp)(h2:HG n 1321 (wA od txd abd bed i po) (d-1) pp e.av (.lst (x::l)) qq)(hb:BW qq):HG (n+12) 1299 (wA od txd abd bed i po) d oo (bv lW [e.av]) (.bool true) qq:=aV [.cond true,.call 1271 (vi 1) (l2 pp),.call 1321 (.v (.tup [e.av,.lst (x::l)])) (l2 qq)]
  (qI hd<|qI h1<|qI h2<|qI hb<|qZ)
theorem Mh{e:Ex}{b:Bool}(hd:decide (d>0)=true)(h1:HT n 6 oo 2 pp)(h2:HG n 1299 (wA od txd abd bed i po) (d-1) pp e.av (.bool b) qq)(hb:BW qq):HG (n+12) 1299 (wA od txd abd bed i po) d oo (bv qn [e.av]) (.bool (!b)) qq:=aV [.cond true,.call 1271 (vi 2) (l2 pp),.call 1299 (.v (.tup [e.av,.bool b])) (l2 qq)]
  (qI hd<|qI h1<|qI h2<|qI hb<|qZ)
theorem Nj{e:Ex}(hd:decide (d>0)=true)(h1:HT n 5 oo 2 pp)(h2:HG n 1321 (wA od txd abd bed i po) (d-1) pp e.av (.lst []) qq):HG (n+12) 1306 (wA od txd abd bed i po) d oo (bv gp [e.av]) (.str []) qq:=aV [.cond true,.call 1271 (vi 2) (l2 pp),.call 1321 (.v (.tup [e.av,.lst []])) (l2 qq)]
  (qI hd<|qI h1<|qI h2<|qZ)
theorem Nk{e:Ex}{j:Nat}{l:List AV}{s:List Nat}(hd:decide (d>0)=true)(h1:HT n 5 oo 2 pp)(h2:HG n 1321 (wA od txd abd bed i po) (d-1) pp e.av (.lst (ni j::l)) qq)(ht:∀st,bH (.v txd) (.v (ni j)) st=.ok (.v (.str s)) st):HG (n+12) 1306 (wA od txd abd bed i po) d oo (bv gp [e.av]) (.str s) qq:=aV [.cond true,.call 1271 (vi 2) (l2 pp),.call 1321 (.v (.tup [e.av,.lst (ni j::l)])) (l2 qq),.sb (.v txd),.sb (.v (ni j)),.sb (.v (.str s))]
  (qI hd<|qI h1<|qI h2<|qI (λ_=>rfl:∀st,bH (.v (wA od txd abd bed i po)) (vs qp) st=.ok (.v txd) st)<|qI (λ_=>rfl:∀st,bH (.v (.lst (ni j::l))) (vi 0) st=.ok (.v (ni j)) st)<|qI ht<|qZ)
theorem Nm{e:Ex}(hd:decide (d>0)=true)(h1:HT n 5 oo 3 pp)(h2:HG n 1299 (wA od txd abd bed i po) (d-1) pp e.av (.bool true) qq):HG (n+12) 1306 (wA od txd abd bed i po) d oo (bv gp [e.av]) (.str fL) qq:=aV [.cond true,.call 1271 (vi 3) (l2 pp),.call 1299 (.v (.tup [e.av,.bool true])) (l2 qq)]
  (qI hd<|qI h1<|qI h2<|qZ)
theorem Nl{e:Ex}(hd:decide (d>0)=true)(h1:HT n 5 oo 3 pp)(h2:HG n 1299 (wA od txd abd bed i po) (d-1) pp e.av (.bool false) qq):HG (n+12) 1306 (wA od txd abd bed i po) d oo (bv gp [e.av]) (.str ij) qq:=aV [.cond true,.call 1271 (vi 3) (l2 pp),.call 1299 (.v (.tup [e.av,.bool false])) (l2 qq)]
  (qI hd<|qI h1<|qI h2<|qZ)
theorem Nn{e g:Ex}{s t:List Nat}(hd:decide (d>0)=true)(h1:HT n 5 oo 4 pp)(h2:HG n 1306 (wA od txd abd bed i po) (d-1) pp e.av (.str s) qq)(h3:HG n 1306 (wA od txd abd bed i po) (d-1) qq g.av (.str t) rr)(hl:t.length+s.length≤1000):HG (n+12) 1306 (wA od txd abd bed i po) d oo (bv qo [e.av,g.av]) (.str (t++s)) rr:=aV [.cond true,.call 1271 (vi 4) (l2 pp),.call 1306 (.v (.tup [e.av,.str s])) (l2 qq),.call 1306 (.v (.tup [g.av,.str t])) (l2 rr),.bop (vs (t++s))]
  (qI hd<|qI h1<|qI h2<|qI h3<|qI (Fl hl)<|qZ)
theorem MC{e:Ex}{p q u v:Int}(hd:decide (d>0)=true)(h1:HT n 8 oo 6 pp)(h2:HG n 1292 (wA od txd abd bed i po) (d-1) pp e.av (nu p q) qq)(h3:HO n (.lst [nu 2 1,nu (-3) 1,nu 1 2]) qq (nu 2 1) rr)(h4:HO n (.lst [.str dN,.str co]) rr (.str dN) ss)(h5:HP n 1285 [vi (p*1*1),vi (q*2)] (nu u v))(hb:BW ss):HG (n+12) 1292 (wA od txd abd bed i po) d oo (bg dN e.av (cZ (nu 2 1))) (nu u v) ss:=aV [.cond true,.call 1271 (vi 6) (l2 pp),.call 1292 (.v (.tup [e.av,nu p q])) (l2 qq),.call 1278 (.v (nu 2 1)) (l2 rr),.call 1278 (.v (.str dN)) (l2 ss),.bop (vi ((p)*(1))),.bop (vi ((p*1)*(1))),.bop (vi ((q)*(2))),.call 1285 (.v (nu u v)) []]
  (qI hd<|qI h1<|qI h2<|qI h3<|qI h4<|qI (bh (i:=p) (j:=1) (by decide))<|qI (bh (i:=p*1) (j:=1) (by decide))<|qI (bh (i:=q) (j:=2) (by decide))<|qI h5<|qI hb<|qZ)
theorem MH{e:Ex}{p q u v:Int}{z:AV}(hd:decide (d>0)=true)(h1:HT n 8 oo 6 pp)(h2:HG n 1292 (wA od txd abd bed i po) (d-1) pp e.av (nu p q) qq)(h3:HO n (.lst [nu 2 1,nu (-3) 1,nu 1 2]) qq (nu 2 1) rr)(h4:HO n (.lst [.str dN,.str co]) rr (.str co) ss)(h5:HP n 1285 [vi (p*1*1),vi (q*2)] (nu u v))(hu:decide (u>0)=true)(hv:0<v)(hv2:v<1073741824)(hw:((((if u<0 then-u else u).fdiv v*1)*2)).natAbs≤2147483648)(h6:HP n 1285 [vi (p*1-((if u<0 then-u else u).fdiv v*1)*2*q),vi (q*1)] z)(hb:BW ss):HG (n+12) 1292 (wA od txd abd bed i po) d oo (bg co e.av (cZ (nu 2 1))) z ss:=aV [.cond true,.call 1271 (vi 6) (l2 pp),.call 1292 (.v (.tup [e.av,nu p q])) (l2 qq),.call 1278 (.v (nu 2 1)) (l2 rr),.call 1278 (.v (.str co)) (l2 ss),.bop (vi ((p)*(1))),.bop (vi ((p*1)*(1))),.bop (vi ((q)*(2))),.call 1285 (.v (nu u v)) [],.bop (vi ((if u<0 then-u else u).fdiv (v))),.cond true,.bop (vi (((if u<0 then-u else u).fdiv v)*(1))),.bop (vi ((p)*(1))),.bop (vi ((((if u<0 then-u else u).fdiv v*1))*(2))),.bop (vi ((((if u<0 then-u else u).fdiv v*1)*2)*(q))),.bop (vi ((p*1)-(((if u<0 then-u else u).fdiv v*1)*2*q))),.bop (vi ((q)*(1))),.call 1285 (.v z) []]
  (qI hd<|qI h1<|qI h2<|qI h3<|qI h4<|qI (bh (i:=p) (j:=1) (by decide))<|qI (bh (i:=p*1) (j:=1) (by decide))<|qI (bh (i:=q) (j:=2) (by decide))<|qI h5<|qI (fq (i:=if u<0 then-u else u) (j:=v) hv hv2)<|qI hu<|qI (bh (i:=(if u<0 then-u else u).fdiv v) (j:=1) (by decide))<|qI (bh (i:=p) (j:=1) (by decide))<|qI (bh (i:=((if u<0 then-u else u).fdiv v*1)) (j:=2) (by decide))<|qI (bS (i:=((if u<0 then-u else u).fdiv v*1)*2) (j:=q) hw)<|qI (gY (i:=p*1) (j:=((if u<0 then-u else u).fdiv v*1)*2*q))<|qI (bh (i:=q) (j:=1) (by decide))<|qI h6<|qI hb<|qZ)
theorem MG{e:Ex}{p q u v:Int}{z:AV}(hd:decide (d>0)=true)(h1:HT n 8 oo 6 pp)(h2:HG n 1292 (wA od txd abd bed i po) (d-1) pp e.av (nu p q) qq)(h3:HO n (.lst [nu 2 1,nu (-3) 1,nu 1 2]) qq (nu 2 1) rr)(h4:HO n (.lst [.str dN,.str co]) rr (.str co) ss)(h5:HP n 1285 [vi (p*1*1),vi (q*2)] (nu u v))(hu:decide (u>0)=false)(hv:0<v)(hv2:v<1073741824)(hw:((((if u<0 then-u else u).fdiv v*(-1))*2)).natAbs≤2147483648)(h6:HP n 1285 [vi (p*1-((if u<0 then-u else u).fdiv v*(-1))*2*q),vi (q*1)] z)(hb:BW ss):HG (n+12) 1292 (wA od txd abd bed i po) d oo (bg co e.av (cZ (nu 2 1))) z ss:=aV [.cond true,.call 1271 (vi 6) (l2 pp),.call 1292 (.v (.tup [e.av,nu p q])) (l2 qq),.call 1278 (.v (nu 2 1)) (l2 rr),.call 1278 (.v (.str co)) (l2 ss),.bop (vi ((p)*(1))),.bop (vi ((p*1)*(1))),.bop (vi ((q)*(2))),.call 1285 (.v (nu u v)) [],.bop (vi ((if u<0 then-u else u).fdiv (v))),.cond false,.bop (vi (((if u<0 then-u else u).fdiv v)*((-1)))),.bop (vi ((p)*(1))),.bop (vi ((((if u<0 then-u else u).fdiv v*(-1)))*(2))),.bop (vi ((((if u<0 then-u else u).fdiv v*(-1))*2)*(q))),.bop (vi ((p*1)-(((if u<0 then-u else u).fdiv v*(-1))*2*q))),.bop (vi ((q)*(1))),.call 1285 (.v z) []]
  (qI hd<|qI h1<|qI h2<|qI h3<|qI h4<|qI (bh (i:=p) (j:=1) (by decide))<|qI (bh (i:=p*1) (j:=1) (by decide))<|qI (bh (i:=q) (j:=2) (by decide))<|qI h5<|qI (fq (i:=if u<0 then-u else u) (j:=v) hv hv2)<|qI hu<|qI (bh (i:=(if u<0 then-u else u).fdiv v) (j:=(-1)) (by decide))<|qI (bh (i:=p) (j:=1) (by decide))<|qI (bh (i:=((if u<0 then-u else u).fdiv v*(-1))) (j:=2) (by decide))<|qI (bS (i:=((if u<0 then-u else u).fdiv v*(-1))*2) (j:=q) hw)<|qI (gY (i:=p*1) (j:=((if u<0 then-u else u).fdiv v*(-1))*2*q))<|qI (bh (i:=q) (j:=1) (by decide))<|qI h6<|qI hb<|qZ)
theorem MD{e:Ex}{p q u v:Int}(hd:decide (d>0)=true)(h1:HT n 8 oo 6 pp)(h2:HG n 1292 (wA od txd abd bed i po) (d-1) pp e.av (nu p q) qq)(h3:HO n (.lst [nu 2 1,nu (-3) 1,nu 1 2]) qq (nu (-3) 1) rr)(h4:HO n (.lst [.str dN,.str co]) rr (.str dN) ss)(h5:HP n 1285 [vi (p*1*(-1)),vi (q*3)] (nu u v))(hb:BW ss):HG (n+12) 1292 (wA od txd abd bed i po) d oo (bg dN e.av (cZ (nu (-3) 1))) (nu u v) ss:=aV [.cond true,.call 1271 (vi 6) (l2 pp),.call 1292 (.v (.tup [e.av,nu p q])) (l2 qq),.call 1278 (.v (nu (-3) 1)) (l2 rr),.call 1278 (.v (.str dN)) (l2 ss),.bop (vi ((p)*(1))),.bop (vi ((p*1)*((-1)))),.bop (vi ((q)*(3))),.call 1285 (.v (nu u v)) []]
  (qI hd<|qI h1<|qI h2<|qI h3<|qI h4<|qI (bh (i:=p) (j:=1) (by decide))<|qI (bh (i:=p*1) (j:=(-1)) (by decide))<|qI (bh (i:=q) (j:=3) (by decide))<|qI h5<|qI hb<|qZ)
theorem MJ{e:Ex}{p q u v:Int}{z:AV}(hd:decide (d>0)=true)(h1:HT n 8 oo 6 pp)(h2:HG n 1292 (wA od txd abd bed i po) (d-1) pp e.av (nu p q) qq)(h3:HO n (.lst [nu 2 1,nu (-3) 1,nu 1 2]) qq (nu (-3) 1) rr)(h4:HO n (.lst [.str dN,.str co]) rr (.str co) ss)(h5:HP n 1285 [vi (p*1*(-1)),vi (q*3)] (nu u v))(hu:decide (u>0)=true)(hv:0<v)(hv2:v<1073741824)(hw:((((if u<0 then-u else u).fdiv v*1)*(-3))).natAbs≤2147483648)(h6:HP n 1285 [vi (p*1-((if u<0 then-u else u).fdiv v*1)*(-3)*q),vi (q*1)] z)(hb:BW ss):HG (n+12) 1292 (wA od txd abd bed i po) d oo (bg co e.av (cZ (nu (-3) 1))) z ss:=aV [.cond true,.call 1271 (vi 6) (l2 pp),.call 1292 (.v (.tup [e.av,nu p q])) (l2 qq),.call 1278 (.v (nu (-3) 1)) (l2 rr),.call 1278 (.v (.str co)) (l2 ss),.bop (vi ((p)*(1))),.bop (vi ((p*1)*((-1)))),.bop (vi ((q)*(3))),.call 1285 (.v (nu u v)) [],.bop (vi ((if u<0 then-u else u).fdiv (v))),.cond true,.bop (vi (((if u<0 then-u else u).fdiv v)*(1))),.bop (vi ((p)*(1))),.bop (vi ((((if u<0 then-u else u).fdiv v*1))*((-3)))),.bop (vi ((((if u<0 then-u else u).fdiv v*1)*(-3))*(q))),.bop (vi ((p*1)-(((if u<0 then-u else u).fdiv v*1)*(-3)*q))),.bop (vi ((q)*(1))),.call 1285 (.v z) []]
  (qI hd<|qI h1<|qI h2<|qI h3<|qI h4<|qI (bh (i:=p) (j:=1) (by decide))<|qI (bh (i:=p*1) (j:=(-1)) (by decide))<|qI (bh (i:=q) (j:=3) (by decide))<|qI h5<|qI (fq (i:=if u<0 then-u else u) (j:=v) hv hv2)<|qI hu<|qI (bh (i:=(if u<0 then-u else u).fdiv v) (j:=1) (by decide))<|qI (bh (i:=p) (j:=1) (by decide))<|qI (bh (i:=((if u<0 then-u else u).fdiv v*1)) (j:=(-3)) (by decide))<|qI (bS (i:=((if u<0 then-u else u).fdiv v*1)*(-3)) (j:=q) hw)<|qI (gY (i:=p*1) (j:=((if u<0 then-u else u).fdiv v*1)*(-3)*q))<|qI (bh (i:=q) (j:=1) (by decide))<|qI h6<|qI hb<|qZ)
theorem MI{e:Ex}{p q u v:Int}{z:AV}(hd:decide (d>0)=true)(h1:HT n 8 oo 6 pp)(h2:HG n 1292 (wA od txd abd bed i po) (d-1) pp e.av (nu p q) qq)(h3:HO n (.lst [nu 2 1,nu (-3) 1,nu 1 2]) qq (nu (-3) 1) rr)(h4:HO n (.lst [.str dN,.str co]) rr (.str co) ss)(h5:HP n 1285 [vi (p*1*(-1)),vi (q*3)] (nu u v))(hu:decide (u>0)=false)(hv:0<v)(hv2:v<1073741824)(hw:((((if u<0 then-u else u).fdiv v*(-1))*(-3))).natAbs≤2147483648)(h6:HP n 1285 [vi (p*1-((if u<0 then-u else u).fdiv v*(-1))*(-3)*q),vi (q*1)] z)(hb:BW ss):HG (n+12) 1292 (wA od txd abd bed i po) d oo (bg co e.av (cZ (nu (-3) 1))) z ss:=aV [.cond true,.call 1271 (vi 6) (l2 pp),.call 1292 (.v (.tup [e.av,nu p q])) (l2 qq),.call 1278 (.v (nu (-3) 1)) (l2 rr),.call 1278 (.v (.str co)) (l2 ss),.bop (vi ((p)*(1))),.bop (vi ((p*1)*((-1)))),.bop (vi ((q)*(3))),.call 1285 (.v (nu u v)) [],.bop (vi ((if u<0 then-u else u).fdiv (v))),.cond false,.bop (vi (((if u<0 then-u else u).fdiv v)*((-1)))),.bop (vi ((p)*(1))),.bop (vi ((((if u<0 then-u else u).fdiv v*(-1)))*((-3)))),.bop (vi ((((if u<0 then-u else u).fdiv v*(-1))*(-3))*(q))),.bop (vi ((p*1)-(((if u<0 then-u else u).fdiv v*(-1))*(-3)*q))),.bop (vi ((q)*(1))),.call 1285 (.v z) []]
  (qI hd<|qI h1<|qI h2<|qI h3<|qI h4<|qI (bh (i:=p) (j:=1) (by decide))<|qI (bh (i:=p*1) (j:=(-1)) (by decide))<|qI (bh (i:=q) (j:=3) (by decide))<|qI h5<|qI (fq (i:=if u<0 then-u else u) (j:=v) hv hv2)<|qI hu<|qI (bh (i:=(if u<0 then-u else u).fdiv v) (j:=(-1)) (by decide))<|qI (bh (i:=p) (j:=1) (by decide))<|qI (bh (i:=((if u<0 then-u else u).fdiv v*(-1))) (j:=(-3)) (by decide))<|qI (bS (i:=((if u<0 then-u else u).fdiv v*(-1))*(-3)) (j:=q) hw)<|qI (gY (i:=p*1) (j:=((if u<0 then-u else u).fdiv v*(-1))*(-3)*q))<|qI (bh (i:=q) (j:=1) (by decide))<|qI h6<|qI hb<|qZ)
theorem ME{e:Ex}{p q u v:Int}(hd:decide (d>0)=true)(h1:HT n 8 oo 6 pp)(h2:HG n 1292 (wA od txd abd bed i po) (d-1) pp e.av (nu p q) qq)(h3:HO n (.lst [nu 2 1,nu (-3) 1,nu 1 2]) qq (nu 1 2) rr)(h4:HO n (.lst [.str dN,.str co]) rr (.str dN) ss)(h5:HP n 1285 [vi (p*2*1),vi (q*1)] (nu u v))(hb:BW ss):HG (n+12) 1292 (wA od txd abd bed i po) d oo (bg dN e.av (cZ (nu 1 2))) (nu u v) ss:=aV [.cond true,.call 1271 (vi 6) (l2 pp),.call 1292 (.v (.tup [e.av,nu p q])) (l2 qq),.call 1278 (.v (nu 1 2)) (l2 rr),.call 1278 (.v (.str dN)) (l2 ss),.bop (vi ((p)*(2))),.bop (vi ((p*2)*(1))),.bop (vi ((q)*(1))),.call 1285 (.v (nu u v)) []]
  (qI hd<|qI h1<|qI h2<|qI h3<|qI h4<|qI (bh (i:=p) (j:=2) (by decide))<|qI (bh (i:=p*2) (j:=1) (by decide))<|qI (bh (i:=q) (j:=1) (by decide))<|qI h5<|qI hb<|qZ)
theorem ML{e:Ex}{p q u v:Int}{z:AV}(hd:decide (d>0)=true)(h1:HT n 8 oo 6 pp)(h2:HG n 1292 (wA od txd abd bed i po) (d-1) pp e.av (nu p q) qq)(h3:HO n (.lst [nu 2 1,nu (-3) 1,nu 1 2]) qq (nu 1 2) rr)(h4:HO n (.lst [.str dN,.str co]) rr (.str co) ss)(h5:HP n 1285 [vi (p*2*1),vi (q*1)] (nu u v))(hu:decide (u>0)=true)(hv:0<v)(hv2:v<1073741824)(hw:((((if u<0 then-u else u).fdiv v*1)*1)).natAbs≤2147483648)(h6:HP n 1285 [vi (p*2-((if u<0 then-u else u).fdiv v*1)*1*q),vi (q*2)] z)(hb:BW ss):HG (n+12) 1292 (wA od txd abd bed i po) d oo (bg co e.av (cZ (nu 1 2))) z ss:=aV [.cond true,.call 1271 (vi 6) (l2 pp),.call 1292 (.v (.tup [e.av,nu p q])) (l2 qq),.call 1278 (.v (nu 1 2)) (l2 rr),.call 1278 (.v (.str co)) (l2 ss),.bop (vi ((p)*(2))),.bop (vi ((p*2)*(1))),.bop (vi ((q)*(1))),.call 1285 (.v (nu u v)) [],.bop (vi ((if u<0 then-u else u).fdiv (v))),.cond true,.bop (vi (((if u<0 then-u else u).fdiv v)*(1))),.bop (vi ((p)*(2))),.bop (vi ((((if u<0 then-u else u).fdiv v*1))*(1))),.bop (vi ((((if u<0 then-u else u).fdiv v*1)*1)*(q))),.bop (vi ((p*2)-(((if u<0 then-u else u).fdiv v*1)*1*q))),.bop (vi ((q)*(2))),.call 1285 (.v z) []]
  (qI hd<|qI h1<|qI h2<|qI h3<|qI h4<|qI (bh (i:=p) (j:=2) (by decide))<|qI (bh (i:=p*2) (j:=1) (by decide))<|qI (bh (i:=q) (j:=1) (by decide))<|qI h5<|qI (fq (i:=if u<0 then-u else u) (j:=v) hv hv2)<|qI hu<|qI (bh (i:=(if u<0 then-u else u).fdiv v) (j:=1) (by decide))<|qI (bh (i:=p) (j:=2) (by decide))<|qI (bh (i:=((if u<0 then-u else u).fdiv v*1)) (j:=1) (by decide))<|qI (bS (i:=((if u<0 then-u else u).fdiv v*1)*1) (j:=q) hw)<|qI (gY (i:=p*2) (j:=((if u<0 then-u else u).fdiv v*1)*1*q))<|qI (bh (i:=q) (j:=2) (by decide))<|qI h6<|qI hb<|qZ)
theorem MK{e:Ex}{p q u v:Int}{z:AV}(hd:decide (d>0)=true)(h1:HT n 8 oo 6 pp)(h2:HG n 1292 (wA od txd abd bed i po) (d-1) pp e.av (nu p q) qq)(h3:HO n (.lst [nu 2 1,nu (-3) 1,nu 1 2]) qq (nu 1 2) rr)(h4:HO n (.lst [.str dN,.str co]) rr (.str co) ss)(h5:HP n 1285 [vi (p*2*1),vi (q*1)] (nu u v))(hu:decide (u>0)=false)(hv:0<v)(hv2:v<1073741824)(hw:((((if u<0 then-u else u).fdiv v*(-1))*1)).natAbs≤2147483648)(h6:HP n 1285 [vi (p*2-((if u<0 then-u else u).fdiv v*(-1))*1*q),vi (q*2)] z)(hb:BW ss):HG (n+12) 1292 (wA od txd abd bed i po) d oo (bg co e.av (cZ (nu 1 2))) z ss:=aV [.cond true,.call 1271 (vi 6) (l2 pp),.call 1292 (.v (.tup [e.av,nu p q])) (l2 qq),.call 1278 (.v (nu 1 2)) (l2 rr),.call 1278 (.v (.str co)) (l2 ss),.bop (vi ((p)*(2))),.bop (vi ((p*2)*(1))),.bop (vi ((q)*(1))),.call 1285 (.v (nu u v)) [],.bop (vi ((if u<0 then-u else u).fdiv (v))),.cond false,.bop (vi (((if u<0 then-u else u).fdiv v)*((-1)))),.bop (vi ((p)*(2))),.bop (vi ((((if u<0 then-u else u).fdiv v*(-1)))*(1))),.bop (vi ((((if u<0 then-u else u).fdiv v*(-1))*1)*(q))),.bop (vi ((p*2)-(((if u<0 then-u else u).fdiv v*(-1))*1*q))),.bop (vi ((q)*(2))),.call 1285 (.v z) []]
  (qI hd<|qI h1<|qI h2<|qI h3<|qI h4<|qI (bh (i:=p) (j:=2) (by decide))<|qI (bh (i:=p*2) (j:=1) (by decide))<|qI (bh (i:=q) (j:=1) (by decide))<|qI h5<|qI (fq (i:=if u<0 then-u else u) (j:=v) hv hv2)<|qI hu<|qI (bh (i:=(if u<0 then-u else u).fdiv v) (j:=(-1)) (by decide))<|qI (bh (i:=p) (j:=2) (by decide))<|qI (bh (i:=((if u<0 then-u else u).fdiv v*(-1))) (j:=1) (by decide))<|qI (bS (i:=((if u<0 then-u else u).fdiv v*(-1))*1) (j:=q) hw)<|qI (gY (i:=p*2) (j:=((if u<0 then-u else u).fdiv v*(-1))*1*q))<|qI (bh (i:=q) (j:=2) (by decide))<|qI h6<|qI hb<|qZ)
theorem MO{e g:Ex}{p q r s:Int}{z:AV}(a:Sm p q)(b:Sm r s)(hd:decide (d>0)=true)(h1:HT n 8 oo 7 pp)(h2:HG n 1292 (wA od txd abd bed i po) (d-1) pp e.av (nu p q) qq)(h3:HG n 1292 (wA od txd abd bed i po) (d-1) qq g.av (nu r s) rr)(h4:HO n (.lst [.str [43],.str [45],.str [42]]) rr (.str [42]) ss)(h5:HP n 1285 [vi (p*r),vi (q*s)] z)(hb:BW ss):HG (n+12) 1292 (wA od txd abd bed i po) d oo (bg [42] e.av g.av) z ss:=aV [.cond true,.call 1271 (vi 7) (l2 pp),.call 1292 (.v (.tup [e.av,nu p q])) (l2 qq),.call 1292 (.v (.tup [g.av,nu r s])) (l2 rr),.call 1278 (.v (.str [42])) (l2 ss),.bop (vi ((p)*(r))),.bop (vi ((q)*(s))),.call 1285 (.v z) []]
  (qI hd<|qI h1<|qI h2<|qI h3<|qI h4<|qI (bS (i:=p) (j:=r) a.p')<|qI (bS (i:=q) (j:=s) a.q')<|qI h5<|qI hb<|qZ)
theorem MN{e g:Ex}{p q r s:Int}{z:AV}(a:Sm p q)(b:Sm r s)(hd:decide (d>0)=true)(h1:HT n 8 oo 7 pp)(h2:HG n 1292 (wA od txd abd bed i po) (d-1) pp e.av (nu p q) qq)(h3:HG n 1292 (wA od txd abd bed i po) (d-1) qq g.av (nu r s) rr)(h4:HO n (.lst [.str [43],.str [45],.str [42]]) rr (.str [43]) ss)(h5:HP n 1285 [vi (p*s+r*q),vi (q*s)] z)(hb:BW ss):HG (n+12) 1292 (wA od txd abd bed i po) d oo (bg [43] e.av g.av) z ss:=aV [.cond true,.call 1271 (vi 7) (l2 pp),.call 1292 (.v (.tup [e.av,nu p q])) (l2 qq),.call 1292 (.v (.tup [g.av,nu r s])) (l2 rr),.call 1278 (.v (.str [43])) (l2 ss),.bop (vi ((r)*(q))),.bop (vi ((p)*(s))),.bop (vi ((p*s)+(r*q))),.bop (vi ((q)*(s))),.call 1285 (.v z) []]
  (qI hd<|qI h1<|qI h2<|qI h3<|qI h4<|qI (bS (i:=r) (j:=q) b.p')<|qI (bS (i:=p) (j:=s) a.p')<|qI (pM (i:=p*s) (j:=r*q))<|qI (bS (i:=q) (j:=s) a.q')<|qI h5<|qI hb<|qZ)
theorem MM{e g:Ex}{p q r s:Int}{z:AV}(a:Sm p q)(b:Sm r s)(hd:decide (d>0)=true)(h1:HT n 8 oo 7 pp)(h2:HG n 1292 (wA od txd abd bed i po) (d-1) pp e.av (nu p q) qq)(h3:HG n 1292 (wA od txd abd bed i po) (d-1) qq g.av (nu r s) rr)(h4:HO n (.lst [.str [43],.str [45],.str [42]]) rr (.str [45]) ss)(h5:HP n 1285 [vi (p*s+ -r*q),vi (q*s)] z)(hb:BW ss):HG (n+12) 1292 (wA od txd abd bed i po) d oo (bg [45] e.av g.av) z ss:=aV [.cond true,.call 1271 (vi 7) (l2 pp),.call 1292 (.v (.tup [e.av,nu p q])) (l2 qq),.call 1292 (.v (.tup [g.av,nu r s])) (l2 rr),.call 1278 (.v (.str [45])) (l2 ss),.bop (vi ((-r)*(q))),.bop (vi ((p)*(s))),.bop (vi ((p*s)+(-r*q))),.bop (vi ((q)*(s))),.call 1285 (.v z) []]
  (qI hd<|qI h1<|qI h2<|qI h3<|qI h4<|qI (bS (i:= -r) (j:=q) b.neg.p')<|qI (bS (i:=p) (j:=s) a.p')<|qI (pM (i:=p*s) (j:= -r*q))<|qI (bS (i:=q) (j:=s) a.q')<|qI h5<|qI hb<|qZ)
theorem Mm{e g:Ex}{p q r s:Int}(a:Sm p q)(b:Sm r s)(hd:decide (d>0)=true)(h1:HT n 6 oo 3 pp)(h2:HG n 1292 (wA od txd abd bed i po) (d-1) pp e.av (nu p q) qq)(h3:HG n 1292 (wA od txd abd bed i po) (d-1) qq g.av (nu r s) rr)(h4:HO n (.lst [.str [60],.str fM,.str [62],.str ga,.str [61],.str fw]) rr (.str [60]) ss)(hb:BW ss):HG (n+12) 1299 (wA od txd abd bed i po) d oo (bg [60] e.av g.av) (.bool (decide (p*s-r*q<0))) ss:=aV [.cond true,.call 1271 (vi 3) (l2 pp),.call 1292 (.v (.tup [e.av,nu p q])) (l2 qq),.call 1292 (.v (.tup [g.av,nu r s])) (l2 rr),.bop (vi ((p)*(s))),.bop (vi ((r)*(q))),.bop (vi ((p*s)-(r*q))),.call 1278 (.v (.str [60])) (l2 ss)]
  (qI hd<|qI h1<|qI h2<|qI h3<|qI (bS (i:=p) (j:=s) a.p')<|qI (bS (i:=r) (j:=q) b.p')<|qI (gY (i:=p*s) (j:=r*q))<|qI h4<|qI hb<|qZ)
theorem Ml{e g:Ex}{p q r s:Int}(a:Sm p q)(b:Sm r s)(hd:decide (d>0)=true)(h1:HT n 6 oo 3 pp)(h2:HG n 1292 (wA od txd abd bed i po) (d-1) pp e.av (nu p q) qq)(h3:HG n 1292 (wA od txd abd bed i po) (d-1) qq g.av (nu r s) rr)(h4:HO n (.lst [.str [60],.str fM,.str [62],.str ga,.str [61],.str fw]) rr (.str fM) ss)(hb:BW ss):HG (n+12) 1299 (wA od txd abd bed i po) d oo (bg fM e.av g.av) (.bool (decide (p*s-r*q≤0))) ss:=aV [.cond true,.call 1271 (vi 3) (l2 pp),.call 1292 (.v (.tup [e.av,nu p q])) (l2 qq),.call 1292 (.v (.tup [g.av,nu r s])) (l2 rr),.bop (vi ((p)*(s))),.bop (vi ((r)*(q))),.bop (vi ((p*s)-(r*q))),.call 1278 (.v (.str fM)) (l2 ss)]
  (qI hd<|qI h1<|qI h2<|qI h3<|qI (bS (i:=p) (j:=s) a.p')<|qI (bS (i:=r) (j:=q) b.p')<|qI (gY (i:=p*s) (j:=r*q))<|qI h4<|qI hb<|qZ)
theorem Mk{e g:Ex}{p q r s:Int}(a:Sm p q)(b:Sm r s)(hd:decide (d>0)=true)(h1:HT n 6 oo 3 pp)(h2:HG n 1292 (wA od txd abd bed i po) (d-1) pp e.av (nu p q) qq)(h3:HG n 1292 (wA od txd abd bed i po) (d-1) qq g.av (nu r s) rr)(h4:HO n (.lst [.str [60],.str fM,.str [62],.str ga,.str [61],.str fw]) rr (.str [62]) ss)(hb:BW ss):HG (n+12) 1299 (wA od txd abd bed i po) d oo (bg [62] e.av g.av) (.bool (decide (p*s-r*q>0))) ss:=aV [.cond true,.call 1271 (vi 3) (l2 pp),.call 1292 (.v (.tup [e.av,nu p q])) (l2 qq),.call 1292 (.v (.tup [g.av,nu r s])) (l2 rr),.bop (vi ((p)*(s))),.bop (vi ((r)*(q))),.bop (vi ((p*s)-(r*q))),.call 1278 (.v (.str [62])) (l2 ss)]
  (qI hd<|qI h1<|qI h2<|qI h3<|qI (bS (i:=p) (j:=s) a.p')<|qI (bS (i:=r) (j:=q) b.p')<|qI (gY (i:=p*s) (j:=r*q))<|qI h4<|qI hb<|qZ)
theorem Mj{e g:Ex}{p q r s:Int}(a:Sm p q)(b:Sm r s)(hd:decide (d>0)=true)(h1:HT n 6 oo 3 pp)(h2:HG n 1292 (wA od txd abd bed i po) (d-1) pp e.av (nu p q) qq)(h3:HG n 1292 (wA od txd abd bed i po) (d-1) qq g.av (nu r s) rr)(h4:HO n (.lst [.str [60],.str fM,.str [62],.str ga,.str [61],.str fw]) rr (.str ga) ss)(hb:BW ss):HG (n+12) 1299 (wA od txd abd bed i po) d oo (bg ga e.av g.av) (.bool (decide (p*s-r*q≥0))) ss:=aV [.cond true,.call 1271 (vi 3) (l2 pp),.call 1292 (.v (.tup [e.av,nu p q])) (l2 qq),.call 1292 (.v (.tup [g.av,nu r s])) (l2 rr),.bop (vi ((p)*(s))),.bop (vi ((r)*(q))),.bop (vi ((p*s)-(r*q))),.call 1278 (.v (.str ga)) (l2 ss)]
  (qI hd<|qI h1<|qI h2<|qI h3<|qI (bS (i:=p) (j:=s) a.p')<|qI (bS (i:=r) (j:=q) b.p')<|qI (gY (i:=p*s) (j:=r*q))<|qI h4<|qI hb<|qZ)
theorem Mi{e g:Ex}{p q r s:Int}(a:Sm p q)(b:Sm r s)(hd:decide (d>0)=true)(h1:HT n 6 oo 3 pp)(h2:HG n 1292 (wA od txd abd bed i po) (d-1) pp e.av (nu p q) qq)(h3:HG n 1292 (wA od txd abd bed i po) (d-1) qq g.av (nu r s) rr)(h4:HO n (.lst [.str [60],.str fM,.str [62],.str ga,.str [61],.str fw]) rr (.str [61]) ss)(hb:BW ss):HG (n+12) 1299 (wA od txd abd bed i po) d oo (bg [61] e.av g.av) (.bool (decide (p*s-r*q=0))) ss:=aV [.cond true,.call 1271 (vi 3) (l2 pp),.call 1292 (.v (.tup [e.av,nu p q])) (l2 qq),.call 1292 (.v (.tup [g.av,nu r s])) (l2 rr),.bop (vi ((p)*(s))),.bop (vi ((r)*(q))),.bop (vi ((p*s)-(r*q))),.call 1278 (.v (.str [61])) (l2 ss)]
  (qI hd<|qI h1<|qI h2<|qI h3<|qI (bS (i:=p) (j:=s) a.p')<|qI (bS (i:=r) (j:=q) b.p')<|qI (gY (i:=p*s) (j:=r*q))<|qI h4<|qI hb<|qZ)
theorem Mn{e g:Ex}{p q r s:Int}(a:Sm p q)(b:Sm r s)(hd:decide (d>0)=true)(h1:HT n 6 oo 3 pp)(h2:HG n 1292 (wA od txd abd bed i po) (d-1) pp e.av (nu p q) qq)(h3:HG n 1292 (wA od txd abd bed i po) (d-1) qq g.av (nu r s) rr)(h4:HO n (.lst [.str [60],.str fM,.str [62],.str ga,.str [61],.str fw]) rr (.str fw) ss)(hb:BW ss):HG (n+12) 1299 (wA od txd abd bed i po) d oo (bg fw e.av g.av) (.bool (!decide (p*s-r*q=0))) ss:=aV [.cond true,.call 1271 (vi 3) (l2 pp),.call 1292 (.v (.tup [e.av,nu p q])) (l2 qq),.call 1292 (.v (.tup [g.av,nu r s])) (l2 rr),.bop (vi ((p)*(s))),.bop (vi ((r)*(q))),.bop (vi ((p*s)-(r*q))),.call 1278 (.v (.str fw)) (l2 ss)]
  (qI hd<|qI h1<|qI h2<|qI h3<|qI (bS (i:=p) (j:=s) a.p')<|qI (bS (i:=r) (j:=q) b.p')<|qI (gY (i:=p*s) (j:=r*q))<|qI h4<|qI hb<|qZ)
theorem Mo{e g:Ex}{b:Bool}{x:AV}(hd:decide (d>0)=true)(h1:HT n 6 oo 4 pp)(h2:HG n 1299 (wA od txd abd bed i po) (d-1) pp e.av (.bool true) qq)(h3:HG n 1299 (wA od txd abd bed i po) (d-1) qq g.av (.bool b) rr)(h4:HO n (.lst [g.av,ez eo,bv eo []]) rr x ss)(hb:BW ss):HG (n+12) 1299 (wA od txd abd bed i po) d oo (bg jI e.av x) (.bool true) ss:=aV [.cond true,.call 1271 (vi 4) (l2 pp),.call 1299 (.v (.tup [e.av,.bool true])) (l2 qq),.call 1299 (.v (.tup [g.av,.bool b])) (l2 rr),.call 1278 (.v x) (l2 ss)]
  (qI hd<|qI h1<|qI h2<|qI h3<|qI h4<|qI hb<|qZ)
theorem Mp{e g:Ex}{b:Bool}(hd:decide (d>0)=true)(h1:HT n 6 oo 4 pp)(h2:HG n 1299 (wA od txd abd bed i po) (d-1) pp e.av (.bool false) qq)(h3:HG n 1299 (wA od txd abd bed i po) (d-1) qq g.av (.bool b) rr)(hb:BW rr):HG (n+12) 1299 (wA od txd abd bed i po) d oo (bg jI e.av g.av) (.bool b) rr:=aV [.cond true,.call 1271 (vi 4) (l2 pp),.call 1299 (.v (.tup [e.av,.bool false])) (l2 qq),.call 1299 (.v (.tup [g.av,.bool b])) (l2 rr)]
  (qI hd<|qI h1<|qI h2<|qI h3<|qI hb<|qZ)
theorem Mq{e g:Ex}{b:Bool}{x:AV}(hd:decide (d>0)=true)(h1:HT n 6 oo 5 pp)(h2:HG n 1299 (wA od txd abd bed i po) (d-1) pp e.av (.bool false) qq)(h3:HG n 1299 (wA od txd abd bed i po) (d-1) qq g.av (.bool b) rr)(h4:HO n (.lst [g.av,ez eo,bv eo []]) rr x ss)(hb:BW ss):HG (n+12) 1299 (wA od txd abd bed i po) d oo (bg jJ e.av x) (.bool false) ss:=aV [.cond true,.call 1271 (vi 5) (l2 pp),.call 1299 (.v (.tup [e.av,.bool false])) (l2 qq),.call 1299 (.v (.tup [g.av,.bool b])) (l2 rr),.call 1278 (.v x) (l2 ss)]
  (qI hd<|qI h1<|qI h2<|qI h3<|qI h4<|qI hb<|qZ)
theorem Mr{e g:Ex}{b:Bool}(hd:decide (d>0)=true)(h1:HT n 6 oo 5 pp)(h2:HG n 1299 (wA od txd abd bed i po) (d-1) pp e.av (.bool true) qq)(h3:HG n 1299 (wA od txd abd bed i po) (d-1) qq g.av (.bool b) rr)(hb:BW rr):HG (n+12) 1299 (wA od txd abd bed i po) d oo (bg jJ e.av g.av) (.bool b) rr:=aV [.cond true,.call 1271 (vi 5) (l2 pp),.call 1299 (.v (.tup [e.av,.bool true])) (l2 qq),.call 1299 (.v (.tup [g.av,.bool b])) (l2 rr)]
  (qI hd<|qI h1<|qI h2<|qI h3<|qI hb<|qZ)
end
end
section
theorem vN{l:List AV}(h:l.length≤1000)(lo hi:RV)(x y:Option Int)(hx:lg lo=some x)(hy:lg hi=some y)(st:St):l6 false (.v (.lst l)) lo hi (.v .none) st=.ok (.v (.lst ((l.drop (x.elim 0 (clipAt l.length))).take (y.elim l.length (clipAt l.length)-x.elim 0 (clipAt l.length))))) st:=by show aj (lg lo) (λx=>aj (lg hi) λy=>aj (some none) λz=>aj (vM (l.map RV.v) x y z) λr=>aK (bR (l.map RV.v).length) (iR false r)) st=_;rw[hx];show aj (lg hi) (λy=>aj (some none) λz=>aj (vM (l.map RV.v) x y z) λr=>aK (bR (l.map RV.v).length) (iR false r)) st=_;rw[hy];show aK (bR (l.map RV.v).length) (iR false (((l.map RV.v).drop (x.elim 0 (clipAt (l.map RV.v).length))).take (y.elim (l.map RV.v).length (clipAt (l.map RV.v).length)-x.elim 0 (clipAt (l.map RV.v).length)))) st=_;rw[aU,show bR l.length=true from f6 h,←lR,←AP];show aj (bY (((l.drop (x.elim 0 (clipAt l.length))).take (y.elim l.length (clipAt l.length)-x.elim 0 (clipAt l.length))).map RV.v)) (λr=>aI (RV.v (.lst r))) st=_;rw[kA];rfl
theorem Uo{l:List AV}(h:l.length≤1000):∀st,l6 false (.v (.lst l)) (vi 1) (vi 2) (.v .none) st=.ok (.v (.lst ((l.drop 1).take 1))) st:=λst=>by
 rw[vN h (vi 1) (vi 2) (some 1) (some 2) rfl rfl];refine congrArg (λz=>Rs.ok (RV.v (AV.lst z)) st) ?_;show(l.drop (clipAt l.length ((1:Nat):Int))).take (clipAt l.length ((2:Nat):Int)-clipAt l.length ((1:Nat):Int))=_;rw[xm,xm];rcases l with _|⟨a,_|⟨b,l⟩⟩
 ·rfl
 ·rfl
 ·simp only[bV];rw[show min 1 (l.length+1+1)=1 by omega,show min 2 (l.length+1+1)=2 by omega]
theorem sv{l:List AV}(h:l.length≤1000)(k:Nat):∀st,l6 false (.v (.lst l)) (vi k) (.v .none) (.v .none) st=.ok (.v (.lst (l.drop k))) st:=λst=>by
 rw[vN h (vi k) (.v .none) (some k) none rfl rfl];refine congrArg (λz=>Rs.ok (RV.v (AV.lst z)) st) ?_;show(l.drop (clipAt l.length ((k:Nat):Int))).take (l.length-clipAt l.length ((k:Nat):Int))=_;rw[xm,tu (by rw[AO];omega)];rcases Nat.le_total k l.length with q|q
 ·rw[A5 q]
 ·rw[Nat.min_eq_right q,Iz (bw _),Iz q]
theorem zX{l:List AV}(h:l.length≤1000):∀st,l6 false (.v (.lst l)) (vi (-1)) (.v .none) (.v .none) st=.ok (.v (.lst (l.drop (l.length-1)))) st:=λst=>by rw[vN h (vi (-1)) (.v .none) (some (-1)) none rfl rfl];refine congrArg (λz=>Rs.ok (RV.v (AV.lst z)) st) ?_;show(l.drop (clipAt l.length (-((1:Nat):Int)))).take (l.length-clipAt l.length (-((1:Nat):Int)))=_;rw[clipAt_neg _ 1 (bw _),tu (by rw[AO];omega)]
theorem Gh{l:List AV}(h:l.length≤1000):∀st,l6 false (.v (.lst l)) (.v .none) (vi 1) (.v .none) st=.ok (.v (.lst (l.take 1))) st:=λst=>by
 rw[vN h (.v .none) (vi 1) none (some 1) rfl rfl];refine congrArg (λz=>Rs.ok (RV.v (AV.lst z)) st) ?_;show(l.drop 0).take (clipAt l.length ((1:Nat):Int)-0)=_;rw[xm,List.drop_zero,Nat.sub_zero];rcases l with _|⟨a,l⟩
 ·rfl
 ·simp only[bV];rw[show min 1 (l.length+1)=1 by omega]
end
section
theorem SH{l:List AV}(h:l.length≤1000):∀st,Bf.f (.list false) [.v (.lst l)] st=.ok (.v (.lst l)) st:=λst=>by show aK (bR (l.map RV.v).length) (iR false (l.map RV.v)) st=_;rw[aU,show bR l.length=true from f6 h];show aj (bY (l.map RV.v)) (λr=>aI (RV.v (.lst r))) st=_;rw[kA];rfl
section
variable{ol:List AV}{txd abd bed:AV}{i n:Nat}{po d:Int}{oo pp qq rr ss:PR}
theorem MR(hd:decide (d>0)=true)(h1:HT n 7 oo 1 pp)(hl:ol.length≤1000):HG (n+12) 1321 (wA (.lst ol) txd abd bed i po) d oo (cr (.str fb) []) (.lst (ol.take 1)) pp:=aV [.cond true,.call 1271 (vi 1) (l2 pp),.sl (.v (.lst (ol.take 1)))]
  (qI hd<|qI h1<|qI (Gh hl)<|qZ)
theorem MV(hd:decide (d>0)=true)(h1:HT n 7 oo 2 pp)(h2:HT n 2 pp 0 qq)(hl:ol.length≤1000):HG (n+12) 1321 (wA (.lst ol) txd abd bed i po) d oo (cr (.str fb) [bC dg gN (.tup []),bC dg gN (.tup [])]) (.lst (ol.drop 2)) qq:=aV [.cond true,.call 1271 (vi 2) (l2 pp),.call 1271 (vi 0) (l2 qq),.sl (.v (.lst (ol.drop 2)))]
  (qI hd<|qI h1<|qI h2<|qI (sv hl 2)<|qZ)
theorem MT(hd:decide (d>0)=true)(h1:HT n 7 oo 2 pp)(h2:HT n 2 pp 1 qq)(hl:ol.length≤1000)(hl2:(ol.drop 2).length≤1000):HG (n+12) 1321 (wA (.lst ol) txd abd bed i po) d oo (cr (.str fb) [bC dg gN (.tup []),bC dg gN (.tup [bv e9 []])]) (.lst ((ol.drop 2).drop ((ol.drop 2).length-1))) qq:=aV [.cond true,.call 1271 (vi 2) (l2 pp),.call 1271 (vi 1) (l2 qq),.sl (.v (.lst (ol.drop 2))),.sl (.v (.lst ((ol.drop 2).drop ((ol.drop 2).length-1))))]
  (qI hd<|qI h1<|qI h2<|qI (sv hl 2)<|qI (zX hl2)<|qZ)
theorem MX{x1 x2:AV}(hd:decide (d>0)=true)(h1:HT n 7 oo 3 pp)(h2:HO n (.lst [.str dg,.str fK,.str eG]) pp (.str dg) qq)(hx1:∀st,bH (.v bed) (.v (ni i)) st=.ok (.v x1) st)(hx2:∀st,bH (.v abd) (.v (ni i)) st=.ok (.v x2) st):HG (n+12) 1321 (wA (.lst ol) txd abd bed i po) d oo (cr .none [bC dg gN (.tup [])]) x1 qq:=aV [.cond true,.call 1271 (vi 3) (l2 pp),.call 1278 (.v (.str dg)) (l2 qq),.sb (.v (ni i)),.sb (.v bed),.sb (.v x1),.sb (.v abd),.sb (.v x2)]
  (qI hd<|qI h1<|qI h2<|qI (λ_=>rfl:∀st,bH (.v (wA (.lst ol) txd abd bed i po)) (vs dP) st=.ok (.v (ni i)) st)<|qI (λ_=>rfl:∀st,bH (.v (wA (.lst ol) txd abd bed i po)) (vs lV) st=.ok (.v bed) st)<|qI hx1<|qI (λ_=>rfl:∀st,bH (.v (wA (.lst ol) txd abd bed i po)) (vs iM) st=.ok (.v abd) st)<|qI hx2<|qZ)
theorem MZ{x1 x2:AV}(hd:decide (d>0)=true)(h1:HT n 7 oo 3 pp)(h2:HO n (.lst [.str dg,.str fK,.str eG]) pp (.str fK) qq)(hx1:∀st,bH (.v bed) (.v (ni i)) st=.ok (.v x1) st)(hx2:∀st,bH (.v abd) (.v (ni i)) st=.ok (.v x2) st):HG (n+12) 1321 (wA (.lst ol) txd abd bed i po) d oo (cr .none [bC fK dP (.tup [])]) x2 qq:=aV [.cond true,.call 1271 (vi 3) (l2 pp),.call 1278 (.v (.str fK)) (l2 qq),.sb (.v (ni i)),.sb (.v bed),.sb (.v x1),.sb (.v abd),.sb (.v x2)]
  (qI hd<|qI h1<|qI h2<|qI (λ_=>rfl:∀st,bH (.v (wA (.lst ol) txd abd bed i po)) (vs dP) st=.ok (.v (ni i)) st)<|qI (λ_=>rfl:∀st,bH (.v (wA (.lst ol) txd abd bed i po)) (vs lV) st=.ok (.v bed) st)<|qI hx1<|qI (λ_=>rfl:∀st,bH (.v (wA (.lst ol) txd abd bed i po)) (vs iM) st=.ok (.v abd) st)<|qI hx2<|qZ)
theorem M7{x1 x2:AV}(hd:decide (d>0)=true)(h1:HT n 7 oo 3 pp)(h2:HO n (.lst [.str dg,.str fK,.str eG]) pp (.str eG) qq)(hx1:∀st,bH (.v bed) (.v (ni i)) st=.ok (.v x1) st)(hx2:∀st,bH (.v abd) (.v (ni i)) st=.ok (.v x2) st):HG (n+12) 1321 (wA (.lst ol) txd abd bed i po) d oo (cr .none [bC eG dP (.tup [])]) (.lst [ni i]) qq:=aV [.cond true,.call 1271 (vi 3) (l2 pp),.call 1278 (.v (.str eG)) (l2 qq),.sb (.v (ni i)),.sb (.v bed),.sb (.v x1),.sb (.v abd),.sb (.v x2)]
  (qI hd<|qI h1<|qI h2<|qI (λ_=>rfl:∀st,bH (.v (wA (.lst ol) txd abd bed i po)) (vs dP) st=.ok (.v (ni i)) st)<|qI (λ_=>rfl:∀st,bH (.v (wA (.lst ol) txd abd bed i po)) (vs lV) st=.ok (.v bed) st)<|qI hx1<|qI (λ_=>rfl:∀st,bH (.v (wA (.lst ol) txd abd bed i po)) (vs iM) st=.ok (.v abd) st)<|qI hx2<|qZ)
theorem MS(hd:decide (d>0)=false)(h1:HT n 4 oo 1 pp)(hl:ol.length≤1000):HG (n+12) 1321 (wA (.lst ol) txd abd bed i po) d oo (cr (.str fb) []) (.lst (ol.take 1)) pp:=aV [.cond false,.call 1271 (vi 1) (l2 pp),.sl (.v (.lst (ol.take 1)))]
  (qI hd<|qI h1<|qI (Gh hl)<|qZ)
theorem MW(hd:decide (d>0)=false)(h1:HT n 4 oo 2 pp)(h2:HT n 2 pp 0 qq)(hl:ol.length≤1000):HG (n+12) 1321 (wA (.lst ol) txd abd bed i po) d oo (cr (.str fb) [bC dg gN (.tup []),bC dg gN (.tup [])]) (.lst (ol.drop 2)) qq:=aV [.cond false,.call 1271 (vi 2) (l2 pp),.call 1271 (vi 0) (l2 qq),.sl (.v (.lst (ol.drop 2)))]
  (qI hd<|qI h1<|qI h2<|qI (sv hl 2)<|qZ)
theorem MU(hd:decide (d>0)=false)(h1:HT n 4 oo 2 pp)(h2:HT n 2 pp 1 qq)(hl:ol.length≤1000)(hl2:(ol.drop 2).length≤1000):HG (n+12) 1321 (wA (.lst ol) txd abd bed i po) d oo (cr (.str fb) [bC dg gN (.tup []),bC dg gN (.tup [bv e9 []])]) (.lst ((ol.drop 2).drop ((ol.drop 2).length-1))) qq:=aV [.cond false,.call 1271 (vi 2) (l2 pp),.call 1271 (vi 1) (l2 qq),.sl (.v (.lst (ol.drop 2))),.sl (.v (.lst ((ol.drop 2).drop ((ol.drop 2).length-1))))]
  (qI hd<|qI h1<|qI h2<|qI (sv hl 2)<|qI (zX hl2)<|qZ)
theorem MY{x1 x2:AV}(hd:decide (d>0)=false)(h1:HT n 4 oo 3 pp)(h2:HO n (.lst [.str dg,.str fK,.str eG]) pp (.str dg) qq)(hx1:∀st,bH (.v bed) (.v (ni i)) st=.ok (.v x1) st)(hx2:∀st,bH (.v abd) (.v (ni i)) st=.ok (.v x2) st):HG (n+12) 1321 (wA (.lst ol) txd abd bed i po) d oo (cr .none [bC dg gN (.tup [])]) x1 qq:=aV [.cond false,.call 1271 (vi 3) (l2 pp),.call 1278 (.v (.str dg)) (l2 qq),.sb (.v (ni i)),.sb (.v bed),.sb (.v x1),.sb (.v abd),.sb (.v x2)]
  (qI hd<|qI h1<|qI h2<|qI (λ_=>rfl:∀st,bH (.v (wA (.lst ol) txd abd bed i po)) (vs dP) st=.ok (.v (ni i)) st)<|qI (λ_=>rfl:∀st,bH (.v (wA (.lst ol) txd abd bed i po)) (vs lV) st=.ok (.v bed) st)<|qI hx1<|qI (λ_=>rfl:∀st,bH (.v (wA (.lst ol) txd abd bed i po)) (vs iM) st=.ok (.v abd) st)<|qI hx2<|qZ)
theorem M6{x1 x2:AV}(hd:decide (d>0)=false)(h1:HT n 4 oo 3 pp)(h2:HO n (.lst [.str dg,.str fK,.str eG]) pp (.str fK) qq)(hx1:∀st,bH (.v bed) (.v (ni i)) st=.ok (.v x1) st)(hx2:∀st,bH (.v abd) (.v (ni i)) st=.ok (.v x2) st):HG (n+12) 1321 (wA (.lst ol) txd abd bed i po) d oo (cr .none [bC fK dP (.tup [])]) x2 qq:=aV [.cond false,.call 1271 (vi 3) (l2 pp),.call 1278 (.v (.str fK)) (l2 qq),.sb (.v (ni i)),.sb (.v bed),.sb (.v x1),.sb (.v abd),.sb (.v x2)]
  (qI hd<|qI h1<|qI h2<|qI (λ_=>rfl:∀st,bH (.v (wA (.lst ol) txd abd bed i po)) (vs dP) st=.ok (.v (ni i)) st)<|qI (λ_=>rfl:∀st,bH (.v (wA (.lst ol) txd abd bed i po)) (vs lV) st=.ok (.v bed) st)<|qI hx1<|qI (λ_=>rfl:∀st,bH (.v (wA (.lst ol) txd abd bed i po)) (vs iM) st=.ok (.v abd) st)<|qI hx2<|qZ)
theorem M8{x1 x2:AV}(hd:decide (d>0)=false)(h1:HT n 4 oo 3 pp)(h2:HO n (.lst [.str dg,.str fK,.str eG]) pp (.str eG) qq)(hx1:∀st,bH (.v bed) (.v (ni i)) st=.ok (.v x1) st)(hx2:∀st,bH (.v abd) (.v (ni i)) st=.ok (.v x2) st):HG (n+12) 1321 (wA (.lst ol) txd abd bed i po) d oo (cr .none [bC eG dP (.tup [])]) (.lst [ni i]) qq:=aV [.cond false,.call 1271 (vi 3) (l2 pp),.call 1278 (.v (.str eG)) (l2 qq),.sb (.v (ni i)),.sb (.v bed),.sb (.v x1),.sb (.v abd),.sb (.v x2)]
  (qI hd<|qI h1<|qI h2<|qI (λ_=>rfl:∀st,bH (.v (wA (.lst ol) txd abd bed i po)) (vs dP) st=.ok (.v (ni i)) st)<|qI (λ_=>rfl:∀st,bH (.v (wA (.lst ol) txd abd bed i po)) (vs lV) st=.ok (.v bed) st)<|qI hx1<|qI (λ_=>rfl:∀st,bH (.v (wA (.lst ol) txd abd bed i po)) (vs iM) st=.ok (.v abd) st)<|qI hx2<|qZ)
theorem M9{e g:Ex}{l r:List AV}{x:AV}(hd:decide (d>0)=true)(h1:HT n 7 oo 4 pp)(h2:HG n 1321 (wA (.lst ol) txd abd bed i po) (d-1) pp e.av (.lst l) qq)(h3:HG n 1321 (wA (.lst ol) txd abd bed i po) (d-1) qq g.av (.lst r) rr)(hl:l.length+r.length≤1000)(h4:HP n 1311 [.v (wA (.lst ol) txd abd bed i po),.v (.lst (l++r))] x):HG (n+12) 1321 (wA (.lst ol) txd abd bed i po) d oo (bg [124] e.av g.av) x rr:=aV [.cond true,.call 1271 (vi 4) (l2 pp),.call 1321 (.v (.tup [e.av,.lst l])) (l2 qq),.call 1321 (.v (.tup [g.av,.lst r])) (l2 rr),.bop (.v (.lst (l++r))),.call 1311 (.v x) []]
  (qI hd<|qI h1<|qI h2<|qI h3<|qI (Fk hl)<|qI h4<|qZ)
theorem Na{e s:Ex}{l:List AV}{x:AV}(hd:decide (d>0)=true)(h1:HT n 7 oo 5 pp)(h2:HG n 1321 (wA (.lst ol) txd abd bed i po) (d-1) pp e.av (.lst l) qq)(h3:HS n (wA (.lst ol) txd abd bed i po) (.lst l) qq s.av x rr)(h4:HT n 3 rr 0 ss):HG (n+12) 1321 (wA (.lst ol) txd abd bed i po) d oo (nC e.av [s.av]) x ss:=aV [.cond true,.call 1271 (vi 5) (l2 pp),.call 1321 (.v (.tup [e.av,.lst l])) (l2 qq),.call 1316 (.v (.tup [s.av,x])) (l2 rr),.call 1271 (vi 0) (l2 ss)]
  (qI hd<|qI h1<|qI h2<|qI h3<|qI h4<|qZ)
theorem Nc{e s:Ex}{l:List AV}{x:AV}(hd:decide (d>0)=true)(h1:HT n 7 oo 5 pp)(h2:HG n 1321 (wA (.lst ol) txd abd bed i po) (d-1) pp e.av (.lst l) qq)(h3:HS n (wA (.lst ol) txd abd bed i po) (.lst l) qq s.av x rr)(h4:HT n 3 rr 2 ss):HG (n+12) 1321 (wA (.lst ol) txd abd bed i po) d oo (nC e.av [s.av]) x ss:=aV [.cond true,.call 1271 (vi 5) (l2 pp),.call 1321 (.v (.tup [e.av,.lst l])) (l2 qq),.call 1316 (.v (.tup [s.av,x])) (l2 rr),.call 1271 (vi 2) (l2 ss)]
  (qI hd<|qI h1<|qI h2<|qI h3<|qI h4<|qZ)
theorem Nb{e s s':Ex}{l:List AV}{x y:AV}{tt:PR}(hd:decide (d>0)=true)(h1:HT n 7 oo 5 pp)(h2:HG n 1321 (wA (.lst ol) txd abd bed i po) (d-1) pp e.av (.lst l) qq)(h3:HS n (wA (.lst ol) txd abd bed i po) (.lst l) qq s.av x rr)(h4:HT n 3 rr 1 ss)(h5:HS n (wA (.lst ol) txd abd bed i po) x ss s'.av y tt):HG (n+12) 1321 (wA (.lst ol) txd abd bed i po) d oo (nC e.av [s.av,s'.av]) y tt:=aV [.cond true,.call 1271 (vi 5) (l2 pp),.call 1321 (.v (.tup [e.av,.lst l])) (l2 qq),.call 1316 (.v (.tup [s.av,x])) (l2 rr),.call 1271 (vi 1) (l2 ss),.call 1316 (.v (.tup [s'.av,y])) (l2 tt)]
  (qI hd<|qI h1<|qI h2<|qI h3<|qI h4<|qI h5<|qZ)
theorem Nd{e:Ex}{l:List Nat}{f x:AV}(hd:decide (d>0)=true)(h1:HT n 7 oo 6 pp)(h2:HG n 1321 (wA (.lst ol) txd abd bed i po) (d-1) pp e.av (.lst (l.map ni)) qq)(h3:∀m,n≤m→fj 2 [1] (iU [0] [1] (gR (fo m) (.ones (.sub (.sub (.var 2) (.con (.str iM))) (.var 0)))) (ev (fo m) (.var 1))) (d7 l) ⟨[some (.loc 1),some (.v (wA (.lst ol) txd abd bed i po)),some (vi d),some (vi 6),none,none,none,none,none,some (.v e.av),some (.v (.lst (l.map ni))),none,none,none,none],l2 qq⟩=.ok (.v f) ⟨[some (.loc 1),some (.v (wA (.lst ol) txd abd bed i po)),some (vi d),some (vi 6),none,none,none,none,none,some (.v e.av),some (.v (.lst (l.map ni))),none,none,none,none],l2 qq⟩)(h4:HP n 1311 [.v (wA (.lst ol) txd abd bed i po),.v f] x):HG (n+12) 1321 (wA (.lst ol) txd abd bed i po) d oo (cr e.av [bC fK dP (.tup [])]) x qq:=aV [.cond true,.call 1271 (vi 6) (l2 pp),.call 1321 (.v (.tup [e.av,.lst (l.map ni)])) (l2 qq),.comp (.v f),.call 1311 (.v x) []]
  (qI hd<|qI h1<|qI h2<|qI h3<|qI h4<|qZ)
theorem No{l:List AV}(h1:HT n 5 oo 0 pp)(hl:l.length≤1000):HS (n+12) (wA (.lst ol) txd abd bed i po) (.lst l) oo (cZ (nu 2 1)) (.lst ((l.drop 1).take 1)) pp:=aV [.call 1271 (vi 0) (l2 pp),.sl (.v (.lst ((l.drop 1).take 1)))]
  (qI h1<|qI (Uo hl)<|qZ)
theorem Np{l:List AV}(h1:HT n 5 oo 1 pp)(hl:l.length≤1000):HS (n+12) (wA (.lst ol) txd abd bed i po) (.lst l) oo (bv e9 []) (.lst (l.drop (l.length-1))) pp:=aV [.call 1271 (vi 1) (l2 pp),.sl (.v (.lst (l.drop (l.length-1))))]
  (qI h1<|qI (zX hl)<|qZ)
theorem Nq{l:List AV}(h1:HT n 5 oo 2 pp)(hl:l.length≤1000):HS (n+12) (wA (.lst ol) txd abd bed i po) (.lst l) oo (bg [62] (bv ik []) (cZ (nu 1 1))) (.lst (l.drop 1)) pp:=aV [.call 1271 (vi 2) (l2 pp),.sl (.v (.lst (l.drop 1)))]
  (qI h1<|qI (sv hl 1)<|qZ)
theorem Nr{l:List Nat}{x:AV}(h1:HT n 5 oo 3 pp)(h3:∀m,n≤m→fj 1 [1] (fm [0] (ev (fo m) (.cmp .Eq (.sub (.sub (.var 1) (.con (.str qp))) (.var 0)) (.con (.str [49])))) (ev (fo m) (.var 0))) (d7 l) ⟨[some (.loc 1),some (.v (wA (.lst ol) txd abd bed i po)),some (.v (.lst (l.map ni))),some (vi 3),some (.v (cr .none [bC eG dP (.tup [])]))],l2 pp⟩=.ok (.v x) ⟨[some (.loc 1),some (.v (wA (.lst ol) txd abd bed i po)),some (.v (.lst (l.map ni))),some (vi 3),some (.v (cr .none [bC eG dP (.tup [])]))],l2 pp⟩):HS (n+12) (wA (.lst ol) txd abd bed i po) (.lst (l.map ni)) oo (bg [61] (cr .none [bC eG dP (.tup [])]) (kL [49])) x pp:=aV [.call 1271 (vi 3) (l2 pp),.comp (.v x)]
  (qI h1<|qI h3<|qZ)
theorem Nt{l:List AV}(h1:HT n 5 oo 4 pp)(hl:l.length≤1000):HS (n+12) (wA (.lst ol) txd abd bed i po) (.lst l) oo (bg [61] (ez [110]) (cZ (nu 7 2))) (.lst l) pp:=aV [.call 1271 (vi 4) (l2 pp),.eff (.v (.lst l)) (l2 pp)]
  (qI h1<|qI (λloc=>SH hl (⟨loc,l2 pp⟩:St))<|qZ)
end
end
section
theorem UI{l r:List Nat}(s:l.Sublist r):r.Nodup→r.filter (λi=>decide (i∈l))=l:=by
 induction s with
 |slnil=>exactλ_=>rfl
 |cons a s ih=>intro h;rw[wx] at h;rw[kj,bQ (by simpa usingλm=>h.1 (s.subset m))];exact ih h.2
 |cons_cons a s ih=>intro h;rw[wx] at h;rw[kj,bF (by simp)];congr 1;refine Eq.trans (wt λi hi=>?_) (ih h.2);have:¬i=a:=λe=>h.1 (e▸hi);simp only[AQ,this,false_or]
theorem UJ{p:Nat→Bool}{K:Nat}{l:List Nat}(h:l.Sublist (b8 p K)):b8 (λi=>decide (i∈l)) K=l:=UI (h.trans List.filter_sublist) List.nodup_range
noncomputable def cN(K:Nat)(l:List Nat):Prop:=∃p,l=b8 p K
theorem cN.sub{K:Nat}{l r:List Nat}(h:cN K l)(s:r.Sublist l):cN K r:=by obtain⟨p,rfl⟩:=h;exact⟨_,(UJ s).symm⟩
theorem cN.len{K:Nat}{l:List Nat}(h:cN K l):l.length≤K:=by obtain⟨p,rfl⟩:=h;exact vK p K
theorem cN.lt{K:Nat}{l:List Nat}(h:cN K l):∀i∈l,i<K:=by
 obtain⟨p,rfl⟩:=h
 exactλi hi=>zS hi
theorem cN.all(K:Nat):cN K (List.range K):=⟨λ_=>true,by unfold b8;rw[List.filter_eq_self.mpr (λ_ _=>rfl)]⟩
theorem Gf{f:Nat→AV→Bool}:∀(l:List AV)(j:Nat),(∀k x,j≤k→f k x=false)→a8 f j l=[]
 |[],_,_=>rfl
 |x::l,j,h=>by rw[mE,h j x (bw _)];exact Gf l (j+1) λk x hk=>h k x (by omega)
theorem zW{f:Nat→AV→Bool}:∀(l:List AV)(j:Nat),(∀k x,j≤k→f k x=true)→a8 f j l=l
 |[],_,_=>rfl
 |x::l,j,h=>by rw[mE,h j x (bw _)];show x::a8 f (j+1) l=_;rw[zW l (j+1) λk x hk=>h k x (by omega)]
theorem Um(l:List AV):a8 (λj _=>decide ((2:Int)=(j:Int)+1)&&(decide ((1:Int)=1)&&true)) 0 l=(l.drop 1).take 1:=by
 rcases l with _|⟨a,_|⟨b,l⟩⟩
 ·rfl
 ·rfl
 ·show b::a8 _ 2 l=[b];rw[Gf l 2 λk x hk=>by rw[bW (show¬(2:Int)=(k:Int)+1 by omega)];rfl]
theorem Un(l:List AV):a8 (λj _=>decide ((j:Int)+1>1)) 0 l=l.drop 1:=by
 rcases l with _|⟨a,l⟩
 ·rfl
 ·show a8 _ 1 l=l;exact zW l 1 λk x hk=>cD (by omega)
theorem Gb:∀(l:List AV)(j n:Nat),n=j+l.length→a8 (λj _=>decide ((n:Int)=(j:Int)+1)&&(decide ((1:Int)=1)&&true)) j l=l.drop (l.length-1)
 |[],_,_,_=>rfl
 |[a],j,n,h=>by rw[mE,cD (show(n:Int)=(j:Int)+1 by simp only[bV,i9] at h;omega)];rfl
 |a::b::l,j,n,h=>by rw[mE,bW (show¬(n:Int)=(j:Int)+1 by simp only[bV] at h;omega),Az,cond_false];rw[Gb (b::l) (j+1) n (by simp only[bV] at h⊢;omega)];simp only[bV];rw[show l.length+1+1-1=l.length+1-1+1 by omega,List.drop_succ_cons]
theorem Ga(l:List AV):a8 (λj _=>decide ((l.length:Int)=(j:Int)+1)&&(decide ((1:Int)=1)&&true)) 0 l=l.drop (l.length-1):=Gb l 0 l.length (by omega)
end
section
theorem du.of{n:Nat}{c p:AV}{sz:Nat}{f:Nat→AV→Bool}:∀{l:List Nat}(j:Nat),j+l.length≤1000→(∀(j i:Nat),j<1000→i∈l→∃v,aS n (.clos c) [.v p,.v (ni i),vi ((j:Int)+1),vi sz] [] (.v v) []∧aS n (gf 653) [.v v,vi ((j:Int)+1)] [] (vb (f j (ni i))) [])→du n c p sz f (l.map ni) j
 |[],_,_,_=>trivial
 |i::l,j,hj,h=>by simp only[bV] at hj;exact⟨h j i (by omega) (.head _),du.of (j+1) (by omega) λj i hj hi=>h j i hj (.tail _ hi)⟩
theorem Dy(t:Int):HP 3 45 [vi t] (nu t 1):=by have:=re t;rw[rC] at this;exact this
theorem Ui(x:Int):decide (fX x>0)=decide (x>0):=by
 unfold fX;by_cases h:x>0
 ·rw[bF h,cD h];rfl
 ·rw[bQ h,bW h];by_cases h2:x<0
  ·rw[bF h2];rfl
  ·rw[bQ h2];rfl
section
variable{ts:List (Option Nat)}{i cu:Nat}{po sz:Int}
theorem UL{l:List Nat}(hl:l.length≤1000):du 20 (cx ts i po sz cu) (cZ (nu 2 1)) (l.map ni).length (λj _=>decide ((2:Int)=(j:Int)+1)&&(decide ((1:Int)=1)&&true)) (l.map ni) 0:=du.of 0 (by omega) λj x hj _=>⟨nu 2 1,(sJ (n:=10) (e:=(743,[(0,nu 2 1)])) (Aj (n:=0))).mono,(HK (p:=2) (q:=1) (j:=(j:Int)+1)).mono⟩
theorem GV{l:List Nat}(hl:l.length≤1000):du 20 (cx ts i po sz cu) (bv e9 []) (l.map ni).length (λj _=>decide (((l.map ni).length:Int)=(j:Int)+1)&&(decide ((1:Int)=1)&&true)) (l.map ni) 0:=du.of 0 (by omega) λj x hj _=>⟨nu (l.map ni).length 1,(sJ (n:=13) (e:=(799,[(1,.str e9),(2,.tup [])])) (HM (n:=3) (Dy _))).mono,(HK (p:=(l.map ni).length) (q:=1) (j:=(j:Int)+1)).mono⟩
theorem Ur{j:Nat}(h:j<1000):Sm ((j:Int)+1) 1:=⟨by omega,by omega,by omega⟩
theorem UN{l:List Nat}(hl:l.length≤1000):du 30 (cx ts i po sz cu) (bg [62] (bv ik []) (cZ (nu 1 1))) (l.map ni).length (λj _=>decide ((j:Int)+1>1)) (l.map ni) 0:=du.of 0 (by omega) λj x hj _=>⟨.bool (decide ((j:Int)+1>1)),(sJ (n:=15) (e:=(827,[(3,.str [62]),(4,bv ik []),(5,cZ (nu 1 1))])) (Wo (n:=5) ((Dy _).mono) (by
  have a:=Ur hj;have b:Sm 1 1:=⟨by decide,by decide,by decide⟩;have:=Dt a b (yo a b);rw[Ui,show((j:Int)+1)*1-1*1=(j:Int) by omega,show decide ((j:Int)>0)=decide ((j:Int)+1>1) by rw[pd];omega] at this;exact this))).mono,(Ai (b:=decide ((j:Int)+1>1)) (j:=(j:Int)+1)).mono⟩
theorem UP{l:List Nat}(hl:l.length≤1000):du 30 (cx ts i po sz cu) (bg [61] (ez [110]) (cZ (nu 7 2))) (l.map ni).length (λ_ _=>true) (l.map ni) 0:=du.of 0 (by omega) λj x hj _=>⟨.bool true,(sJ (n:=15) (e:=(827,[(3,.str [61]),(4,ez [110]),(5,cZ (nu 7 2))])) (Wa (n:=5) (by
  have a:Sm 7 2:=⟨by decide,by decide,by decide⟩;exact Ds a a (yo a a)))).mono,(Ai (b:=true) (j:=(j:Int)+1)).mono⟩
end
end
section
noncomputable def kT(ts:List (Option Nat))(x:Nat):Bool:=decide (gk ts x=[49])
noncomputable def pu(ts:List (Option Nat)):Nat→AV→Bool:=λ_ a=>match a with
 |.int k=>kT ts k.toNat
 |_=>false
theorem Gg(ts:List (Option Nat)):∀(l:List Nat)(j:Nat),a8 (pu ts) j (l.map ni)=(l.filter (kT ts)).map ni
 |[],_=>rfl
 |x::l,j=>by show(match pu ts j (ni x) with|true=>ni x::a8 (pu ts) (j+1) (l.map ni)|false=>a8 (pu ts) (j+1) (l.map ni))=_;rw[kj,Gg ts l (j+1),show pu ts j (ni x)=kT ts x from rfl];cases kT ts x<;>rfl
section
variable{ts:List (Option Nat)}(R:eZ ts)
include R
theorem N7{K:Nat}(hK:K=ts.length+2){l:List Nat}(h:cN K l):HP 14 198 [.v (T ts),.v (.lst (l.map ni))] (.lst (l.map ni)):=by obtain⟨p,rfl⟩:=h;exact N8 R hK p
theorem yr{n K:Nat}(hn:14≤n)(hK:K=ts.length+2){s nm c:AV}{g:Nat→List Nat}{l r:List Nat}(h:wH n (T ts) s nm c g l)(hl:l.length≤50)(hr:dd [] (l.flatMap g)=r)(hs:cN K r)(hf:(l.flatMap g).length≤1000):
  HP (n+2) 679 [.v (T ts),.v (.lst (l.map ni)),.v s,.v nm,.v c] (.lst (r.map ni)):=by subst hr;exact NO h hl hf ((N7 R hK hs).mono hn)
theorem mD{K x:Nat}(h:x<K):cN K [x]:=(cN.all K).sub (List.singleton_sublist.mpr (List.mem_range.mpr h))
theorem Cz{x:Nat}(hx:x<ts.length+2){po sz:Int}{cu:Nat}:HV 30 (cr .none [bC jt fV (.tup [])]) (cx ts x po sz cu) (.lst [ni x]):=(Ak (n:=18) (ux (n:=17) (yr R (n:=15) (K:=ts.length+2) (by omega) rfl (g:=λi=>[i]) (l:=[x]) (r:=[x])
  (λi hi=>⟨by rw[tn] at hi;subst hi;exact Od ts i R hx (n:=2) nU,by simp⟩) (by simp) rfl (mD R hx) (by simp)))).mono
theorem UR{l:List Nat}(hl:l.length≤1000)(hx:∀x∈l,x<ts.length+2){i cu:Nat}{po sz:Int}:du 50 (cx ts i po sz cu) (bg [61] (cr .none [bC jt fV (.tup [])]) (kL [49])) (l.map ni).length (pu ts) (l.map ni) 0:=du.of 0 (by omega) λj x hj hm=>by
  refine⟨.bool (kT ts x),(sJ (n:=40) (e:=(827,[(3,.str [61]),(4,cr .none [bC jt fV (.tup [])]),(5,kL [49])])) ?_).mono,(Ai (b:=kT ts x) (j:=(j:Int)+1)).mono⟩;have h1:=(Cz R (hx x hm) (po:=(j:Int)+1) (sz:=(l.map ni).length) (cu:=cu));have h2:=(DE ts x R (hx x hm)).mono (k:=30);have h3:=(NN (s:=gk ts x)).mono (k:=30);unfold kT;cases hb:decide (gk ts x=[49]) with
  |true=>rw[hb] at h3;exact Wq (b:=true) (e:=(911,[(8,.none),(9,.tup [bC jt fV (.tup [])])])) h1 h2 h3
  |false=>rw[hb] at h3;exact Wr (b:=true) (e:=(911,[(8,.none),(9,.tup [bC jt fV (.tup [])])])) h1 h2 h3
end
end
section
noncomputable def dD(g:Nat→AV)(l:List Nat):AV:=.dct (l.map λj=>(ni j,g j))
theorem BB{α:Type}(g:Nat→α):∀l:List Nat,cS false (l.map λj=>(ni j,g j))=true
 |[]=>rfl
 |x::l=>BB g l
theorem Ci{α:Type}(g:Nat→α){j:Nat}:∀{l:List Nat},j∈l→fA (ni j) (l.map λj=>(ni j,g j))=some (g j)
 |x::l,h=>by
  by_cases e:x=j
  ·subst e;show(match fU (ni x) (ni x) with|true=>some (g x)|false=>fA (ni x) (l.map λj=>(ni j,g j)))=_;rw[show fU (ni x) (ni x)=true from cD rfl]
  ·have hm:j∈l:=by
    rcases List.mem_cons.mp h with q|q
    ·exact(e q.symm).elim
    ·exact q
   have ke:fU (ni x) (ni j)=false:=bW λq=>e (by cases q;rfl);have ke':fU (ni j) (ni x)=false:=bW λq=>e (by cases q;rfl);show(match fU (ni x) (ni j) with|true=>some (g x)|false=>fA (ni j) (l.map λj=>(ni j,g j)))=_;rw[ke];exact Ci g hm
theorem qQ{g:Nat→AV}{l:List Nat}{j:Nat}(h:j∈l):∀st,bH (.v (dD g l)) (.v (ni j)) st=.ok (.v (g j)) st:=λst=>by
 have e:((l.map λj=>(ni j,g j)).map λq:AV×AV=>(q.1,RV.v q.2))=l.map λj=>(ni j,RV.v (g j)):=by rw[dm];rfl
 show aj (some ((l.map λj=>(ni j,g j)).map λq:AV×AV=>(q.1,RV.v q.2))) (λl=>aK (cS false l) (aj (fA (ni j) l) aI)) st=_;rw[e];show aK (cS false (l.map λj=>(ni j,RV.v (g j)))) (aj (fA (ni j) (l.map λj=>(ni j,RV.v (g j)))) aI) st=_;rw[BB,Ci (λj=>RV.v (g j)) h];rfl
section
variable{f:Fo}{c:X}{cap:List (Option RV)}{H:List ac}{b:Nat→Bool}
theorem yi:∀(l:List Nat)(acc:List AV)(a:Option RV),(∀x∈l,ev f c ⟨some (.v (ni x))::cap,H⟩=.ok (vb (b x)) ⟨some (.v (ni x))::cap,H⟩)→acc.length+l.length≤1000→
  fm [0] (ev f c) (ev f (.var 0)) (d7 l) (acc.map .v) ⟨a::cap,H⟩=.ok ((acc++(l.filter b).map ni).map .v) ⟨dR (l.map ni) a::cap,H⟩
 |[],acc,a,_,_=>by rw[List.filter_nil,oU,eK];rfl
 |x::l,acc,a,hc,hl=>by
  simp only[bV] at hl;have hc':∀x∈l,ev f c ⟨some (.v (ni x))::cap,H⟩=.ok (vb (b x)) ⟨some (.v (ni x))::cap,H⟩:=λy hy=>hc y (.tail _ hy);show((ev f c ⟨some (.v (ni x))::cap,H⟩).bind λx st=>cm x st).bind (λt st'=>cond t (nE (ev f (.var 0)) (acc.map .v) (fm [0] (ev f c) (ev f (.var 0)) (d7 l)) st') (fm [0] (ev f c) (ev f (.var 0)) (d7 l) (acc.map .v) st'))=_;rw[hc x (.head _),dQ,qd,dQ];cases hb:b x with
  |false=>refine(yi l acc _ hc' (by omega)).trans ?_;rw[kj,hb];rfl
  |true=>show aK (Nat.blt (acc.map RV.v).length 1000) (fm [0] (ev f c) (ev f (.var 0)) (d7 l) (acc.map RV.v++[.v (ni x)])) ⟨some (.v (ni x))::cap,H⟩=_;rw[aU,show Nat.blt acc.length 1000=true from f6 (show acc.length+1≤1000 by omega)];have:=yi l (acc++[ni x]) (some (.v (ni x))) hc' (by rw[el];simp only[bV,i9];omega);rw[eL] at this;refine this.trans ?_;rw[kj,hb,hJ];rfl
theorem Ly{l:List Nat}(hc:∀x∈l,ev f c ⟨some (.v (ni x))::cap,H⟩=.ok (vb (b x)) ⟨some (.v (ni x))::cap,H⟩){caps:List Nat}{loc:List (Option RV)}(hcap:d9 loc caps=cap)(hl:l.length≤1000):
  fj 1 caps (fm [0] (ev f c) (ev f (.var 0))) (d7 l) ⟨loc,H⟩=.ok (.v (.lst ((l.filter b).map ni))) ⟨loc,H⟩:=by show((fm [0] (ev f c) (ev f (.var 0)) (d7 l) [] ⟨none::d9 loc caps,H⟩).noErr.bind λacc st'=>aj (bY acc) (λr _=>Rs.ok (RV.v (AV.lst r)) ⟨loc,st'.H⟩) st')=_;rw[hcap,show fm [0] (ev f c) (ev f (.var 0)) (d7 l) [] ⟨none::cap,H⟩=_ from yi l [] none hc (by simpa using hl)];show aj (bY ((([]:List AV)++(l.filter b).map ni).map RV.v)) _ _=_;rw[kA];rfl
end
noncomputable def eS(K:Nat):List Nat:=List.range' 2 (K-2)++[0,1]
theorem rG{K j:Nat}(h:j<K):j∈eS K:=by
 unfold eS;rw[List.mem_append,AT];rcases j with _|_|j
 ·exact .inr (.head _)
 ·exact .inr (.tail _ (.head _))
 ·exact .inl (by omega)
noncomputable def wW(ts:List (Option Nat))(i:Nat)(po:Int):AV:=wA (.lst ((List.range (ts.length+2)).map ni)) (dD (λj=>.str (gk ts j)) (eS (ts.length+2))) (dD (λj=>.lst (iG j)) (eS (ts.length+2))) (dD (λj=>.lst (kJ ts.length j)) (eS (ts.length+2))) i po
end
section
section
variable{ts:List (Option Nat)}(R:eZ ts){i:Nat}{po:Int}
include R
theorem Dc{H:PR}(h:SG H){l:List Nat}(hl:cN (ts.length+2) l):∃(s:Ex)(l':List Nat)(H':PR)(f:Nat→AV→Bool),SG H'∧l'.Sublist l∧
  HS 20 (wW ts i po) (.lst (l.map ni)) H s.av (.lst (l'.map ni)) H'∧(∀(i cu:Nat)(po sz:Int),du 50 (cx ts i po sz cu) s.av (l.map ni).length f (l.map ni) 0)∧a8 f 0 (l.map ni)=l'.map ni:=by
 have hK:l.length≤6:=by have:=hl.len;have:=R.hi;omega
 have hm:(l.map ni).length≤1000:=by rw[aU];omega
 obtain⟨fig,H',hs,h0,h1,ht⟩:=fn (top:=5) h;have ht:=ht.mono (k:=8);have:fig=0∨fig=1∨fig=2∨fig=3∨fig=4:=c5 h0 h1
 have up:∀{c q:AV}{sz:Nat}{f:Nat→AV→Bool}{n:Nat}(hn:n≤50)(l:List AV)(j:Nat),du n c q sz f l j→du 50 c q sz f l j:=λhn l=>by
  induction l with
  |nil=>exactλ_ h=>h
  |cons x l ih=>exactλj h=>⟨by obtain⟨v,a,b⟩:=h.1;exact⟨v,a.mono hn,b.mono hn⟩,ih (j+1) h.2⟩
 rcases this with rfl|rfl|rfl|rfl|rfl
 ·exact⟨(743,[(0,nu 2 1)]),(l.drop 1).take 1,_,_,hs,(List.take_sublist ..).trans (tj ..),by rw[AP,lR];exact No ht hm,λi cu po sz=>up (by omega) _ _ (UL (by omega)),by rw[Um,AP,lR]⟩
 ·exact⟨(799,[(1,.str e9),(2,.tup [])]),l.drop (l.length-1),_,_,hs,tj ..,by rw[lR,←aU (as:=l) (f:=ni)];exact Np ht hm,λi cu po sz=>up (by omega) _ _ (GV (by omega)),by rw[Ga,lR,aU]⟩
 ·exact⟨(827,[(3,.str [62]),(4,bv ik []),(5,cZ (nu 1 1))]),l.drop 1,_,_,hs,tj ..,by rw[lR];exact Nq ht hm,λi cu po sz=>up (by omega) _ _ (UN (by omega)),by rw[Un,lR]⟩
 ·refine⟨(827,[(3,.str [61]),(4,cr .none [bC jt fV (.tup [])]),(5,kL [49])]),l.filter (kT ts),_,_,hs,List.filter_sublist,Nr ht ?_,λi cu po sz=>up (by omega) _ _ (UR R (by omega) hl.lt),Gg ts l 0⟩;intro m hm;exact Ly (f:=fo m) (cap:=[some (.v (wW ts i po))]) (b:=kT ts) (λx hx=>by have e:=qQ (g:=λj=>.str (gk ts j)) (rG (hl.lt x hx)) (⟨[some (.v (ni x)),some (.v (wW ts i po))],l2 H'⟩:St);show((bH (.v (dD (λj=>.str (gk ts j)) (eS (ts.length+2)))) (.v (ni x)) (⟨[some (.v (ni x)),some (.v (wW ts i po))],l2 H'⟩:St)).bind λy st=>(Rs.ok (vs [49]) st).bind λz st=>cj .Eq y z st)=_;rw[e];rfl) rfl (by omega)
 ·exact⟨(827,[(3,.str [61]),(4,ez [110]),(5,cZ (nu 7 2))]),l,_,_,hs,List.Sublist.refl _,Nt ht hm,λi cu po sz=>up (by omega) _ _ (UP (by omega)),zW _ _ λ_ _ _=>rfl⟩
end
end
section
noncomputable def tP(k:Nat):Nat→List Nat
 |0=>[1]
 |1=>List.range' 2 k
 |_=>[]
noncomputable def dU:Nat→List Nat
 |0=>[]
 |1=>[0]
 |_=>[1]
theorem HD:∀(k i:Nat),sI i k=(List.range' i k).map ni
 |0,_=>rfl
 |k+1,i=>by rw[sI,HD k (i+1),tq];rfl
theorem tQ(k:Nat):∀i,kJ k i=(tP k i).map ni
 |0=>rfl
 |1=>HD k 2
 |_+2=>rfl
theorem vl:∀i,iG i=(dU i).map ni
 |0=>rfl
 |1=>rfl
 |_+2=>rfl
theorem Cl:∀(l acc:List Nat),(acc++l).Nodup→dd acc l=acc++l
 |[],acc,_=>by rw[eK];rfl
 |x::l,acc,h=>by
  have hx:x∉acc:=λm=>by rw[AW] at h;exact h.2.2 x m x (.head _) rfl
  show dd (if x∈acc then acc else acc++[x]) l=_;rw[bQ hx,Cl l (acc++[x]) (by rw[hJ];exact h),hJ];rfl
theorem KL{l:List Nat}(h:l.Nodup):dd [] l=l:=Cl l [] h
theorem cN.nodup{K:Nat}{l:List Nat}(h:cN K l):l.Nodup:=by obtain⟨p,rfl⟩:=h;exact List.nodup_range.filter _
theorem vE{K:Nat}(h:3≤K):List.range K=0::1::List.range' 2 (K-2):=by rw[wy,show K=K-2+1+1 by omega,tq,tq];rfl
section
variable{ts:List (Option Nat)}(R:eZ ts)
include R
theorem pX{i:Nat}(hi:i<ts.length+2):cN (ts.length+2) (tP ts.length i):=by
 have h3:3≤ts.length+2:=by have:=R.lo;omega
 rcases i with _|_|i
 ·exact mD R (by omega)
 ·refine(cN.all _).sub ?_;rw[vE h3];exact((List.Sublist.refl _).cons _).cons _
 ·exact(cN.all _).sub (AU _)
theorem FZ{i:Nat}(hi:i<ts.length+2):cN (ts.length+2) (dU i):=by
 rcases i with _|_|i
 ·exact(cN.all _).sub (AU _)
 ·exact mD R (by omega)
 ·exact mD R (by omega)
theorem qa{n:Nat}(hn:14≤n){s nm c:AV}{i:Nat}{r:List Nat}(h:HP n 665 [.v (T ts),.v (ni i),.v s,.v nm,.v c] (.lst (r.map ni)))(hr:cN (ts.length+2) r):
  HP (n+2) 679 [.v (T ts),.v (.lst [ni i]),.v s,.v nm,.v c] (.lst (r.map ni)):=by
 have hl:r.length≤6:=by have:=hr.len;have:=R.hi;omega
 exact yr R hn rfl (g:=λ_=>r) (l:=[i]) (r:=r) (λj hj=>by rw[tn] at hj;subst hj;exact⟨h,show r.length≤10 by omega⟩) (by simp) (by simp only[wu,AN,eK];exact KL hr.nodup) hr (by simp;omega)
variable{i:Nat}(hi:i<ts.length+2){po sz:Int}{cu:Nat}
include hi
theorem KS:HV 30 (cr .none [bC iI iZ (.tup [])]) (cx ts i po sz cu) (.lst ((tP ts.length i).map ni)):=(Ak (n:=18) (ux (n:=17) (qa R (n:=15) (by omega) (by rw[←tQ];exact q9 ts i R hi (n:=2) nU) (pX R hi)))).mono
theorem KU:HV 30 (cr .none [bC mB fV (.tup [])]) (cx ts i po sz cu) (.lst ((dU i).map ni)):=(Ak (n:=18) (ux (n:=17) (qa R (n:=15) (by omega) (by rw[←vl];exact DB ts i R hi (n:=2) nU) (FZ R hi)))).mono
theorem KX:HV 30 (cr (.str fb) []) (cx ts i po sz cu) (.lst [ni 0]):=(Al (n:=13) (yq ts i R hi) (Of.mono)).mono
theorem KY:HV 40 (cr (.str fb) [bC iI iZ (.tup []),bC iI iZ (.tup [])]) (cx ts i po sz cu) (.lst ((List.range' 2 ts.length).map ni)):=(Al (n:=18) ((yq ts i R hi).mono) (DD (n:=17) (y:=.lst [ni 1])
  (qa R (n:=15) (by omega) (r:=[1]) (q9 ts 0 R (by omega) (n:=2) nU) (mD R (by have:=R.lo;omega)))
  (qa R (n:=15) (by omega) (i:=1) (by rw[←tQ];exact q9 ts 1 R (by omega) (n:=2) nU) (pX R (i:=1) (by omega))))).mono
end
end
section
section
variable{ts:List (Option Nat)}(R:eZ ts){i:Nat}(hi:i<ts.length+2){po sz:Int}{cu:Nat}
include R hi
theorem KZ:HV 50 (cr (.str fb) [bC iI iZ (.tup []),bC iI iZ (.tup [bv e9 []])]) (cx ts i po sz cu) (.lst (((List.range' 2 ts.length).drop (ts.length-1)).map ni)):=have hl:ts.length≤4:=R.hi;have hk:=Dv (n:=20) (c:=cx ts i po sz cu) (p:=bv e9 []) (l:=(List.range' 2 ts.length).map ni) (by rw[aU,tl];omega) (GV (l:=List.range' 2 ts.length) (by rw[tl];omega))
 have hk:HP 21 660 [.v (.lst (kJ ts.length 1)),.v (.tup [bv e9 []]),.v (.clos (cx ts i po sz cu))] (.lst (((List.range' 2 ts.length).drop (ts.length-1)).map ni)):=by rw[Ga,aU,tl,←lR] at hk;rw[tQ];exact hk
 (Al (n:=38) ((yq ts i R hi).mono) (DD (n:=37) (y:=.lst [ni 1])
  ((qa R (n:=15) (by omega) (r:=[1]) (q9 ts 0 R (by omega) (n:=2) nU) (mD R (by have:=R.lo;omega))).mono)
  ((qa R (n:=34) (by omega) (i:=1) (q9 ts 1 R (by omega) (n:=21) hk) ((pX R (i:=1) (by omega)).sub (tj ..))).mono))).mono
end
noncomputable def Bi(ts:List (Option Nat))(i:Nat)(po:Int)(F:Nat)(d:Int)(H:PR):Prop:=∃(c:Addr)(fs:List (Nat×AV))(l:List Nat)(H':PR),(c=771∨c=911∨c=827∨c=883)∧SG H'∧cN (ts.length+2) l∧
 HG F 1321 (wW ts i po) d H (.inst c fs) (.lst (l.map ni)) H'∧HV F (.inst c fs) (cx ts i po 3 i) (.lst (l.map ni))
noncomputable def GN(ts:List (Option Nat))(i:Nat)(po:Int)(F:Nat)(d:Int):Prop:=∀H:PR,SG H→Bi ts i po F d H
end
section
section
variable{ts:List (Option Nat)}(R:eZ ts){i:Nat}(hi:i<ts.length+2){po:Int}
include R hi
theorem Dd{d top:Int}(hd:(decide (d>0)=true∧top=7)∨(decide (d>0)=false∧top=4)){H:PR}(h:SG H){fig:Int}{H1:PR}(hs:SG H1)(ht:HT 20 top H fig H1)(hf:0≤fig)(hf4:fig<4):Bi ts i po 60 d H:=by
 have h3:3≤ts.length+2:=by have:=R.lo;omega
 have h6:ts.length+2≤6:=by have:=R.hi;omega
 have ol:((List.range (ts.length+2)).map ni).length≤1000:=by rw[aU,oT];omega
 have dr:((List.range (ts.length+2)).map ni).drop 2=(List.range' 2 ts.length).map ni:=by rw[vE h3];rfl
 have:fig=0∨fig=1∨fig=2∨fig=3:=c4 hf hf4;rcases this with rfl|rfl|rfl|rfl
 ·refine⟨771,[(1,.str [115])],[1,2],_,.inl rfl,hs,(cN.all _).sub ?_,(hd.elim (λq=>MP (n:=20) q.1 (q.2▸ht)) λq=>MQ q.1 (q.2▸ht)).mono,(Wp (n:=0)).mono⟩;rw[vE h3];refine List.Sublist.cons _ (List.Sublist.cons₂ _ ?_);rw[show ts.length+2-2=(ts.length-1)+1 by omega,tq];exact List.Sublist.cons₂ _ (AU _)
 ·refine⟨911,[(8,.str fb),(9,.tup [])],[0],_,.inr (.inl rfl),hs,mD R (by omega),?_,(KX R hi).mono⟩;have:=hd.elim (λq=>MR (n:=20) (txd:=dD (λj=>.str (gk ts j)) (eS (ts.length+2))) (abd:=dD (λj=>.lst (iG j)) (eS (ts.length+2))) (bed:=dD (λj=>.lst (kJ ts.length j)) (eS (ts.length+2))) (i:=i) (po:=po) q.1 (q.2▸ht) ol) λq=>MS q.1 (q.2▸ht) ol;rw[show((List.range (ts.length+2)).map ni).take 1=[ni 0] by rw[vE h3];rfl] at this;exact this.mono
 ·obtain⟨fig,H2,hs2,g0,g1,ht2⟩:=fn (top:=2) hs;have ht2:=ht2.mono (k:=20);have:fig=0∨fig=1:=c2 g0 g1;rcases this with rfl|rfl
  ·refine⟨911,[(8,.str fb),(9,.tup [bC iI iZ (.tup []),bC iI iZ (.tup [])])],List.range' 2 ts.length,_,.inr (.inl rfl),hs2,pX R (i:=1) (by omega),?_,(KY R hi).mono⟩;have:=(hd.elim (λq=>MV (n:=20) (txd:=dD (λj=>.str (gk ts j)) (eS (ts.length+2))) (abd:=dD (λj=>.lst (iG j)) (eS (ts.length+2))) (bed:=dD (λj=>.lst (kJ ts.length j)) (eS (ts.length+2))) (i:=i) (po:=po) q.1 (q.2▸ht) ht2 ol) λq=>MW q.1 (q.2▸ht) ht2 ol).mono (k:=60);rw[dr] at this;exact this
  ·refine⟨911,[(8,.str fb),(9,.tup [bC iI iZ (.tup []),bC iI iZ (.tup [bv e9 []])])],(List.range' 2 ts.length).drop (ts.length-1),_,.inr (.inl rfl),hs2,(pX R (i:=1) (by omega)).sub (tj ..),?_,(KZ R hi).mono⟩;have dl:(((List.range (ts.length+2)).map ni).drop 2).length≤1000:=by rw[dr,aU,tl];omega
   have:=(hd.elim (λq=>MT (n:=20) (txd:=dD (λj=>.str (gk ts j)) (eS (ts.length+2))) (abd:=dD (λj=>.lst (iG j)) (eS (ts.length+2))) (bed:=dD (λj=>.lst (kJ ts.length j)) (eS (ts.length+2))) (i:=i) (po:=po) q.1 (q.2▸ht) ht2 ol dl) λq=>MU q.1 (q.2▸ht) ht2 ol dl).mono (k:=60);rw[dr,aU,tl,←lR] at this;exact this
 ·obtain⟨j,x,H2,hs2,hx,hj,h2⟩:=iV (l:=[.str iI,.str mB,.str jt]) hs;have h2:=h2.mono (k:=20);have hx1:=qQ (g:=λj=>.lst (kJ ts.length j)) (rG hi);have hx2:=qQ (g:=λj=>.lst (iG j)) (rG hi);rcases j with _|_|_|j
  ·cases hx;refine⟨911,[(8,.none),(9,.tup [bC iI iZ (.tup [])])],tP ts.length i,_,.inr (.inl rfl),hs2,pX R hi,?_,(KS R hi).mono⟩;rw[←tQ];exact(hd.elim (λq=>MX (n:=20) q.1 (q.2▸ht) h2 hx1 hx2) λq=>MY q.1 (q.2▸ht) h2 hx1 hx2).mono
  ·cases hx;refine⟨911,[(8,.none),(9,.tup [bC mB fV (.tup [])])],dU i,_,.inr (.inl rfl),hs2,FZ R hi,?_,(KU R hi).mono⟩;rw[←vl];exact(hd.elim (λq=>MZ (n:=20) q.1 (q.2▸ht) h2 hx1 hx2) λq=>M6 q.1 (q.2▸ht) h2 hx1 hx2).mono
  ·cases hx;exact⟨911,[(8,.none),(9,.tup [bC jt fV (.tup [])])],[i],_,.inr (.inl rfl),hs2,mD R hi,(hd.elim (λq=>M7 (n:=20) q.1 (q.2▸ht) h2 hx1 hx2) λq=>M8 q.1 (q.2▸ht) h2 hx1 hx2).mono,(Cz R hi).mono⟩
  ·cases hx
end
end
section
theorem T4(p q:Nat→Bool)(K:Nat):b8 (λi=>decide (i∈b8 p K++b8 q K)) K=b8 (λi=>p i||q i) K:=by unfold b8;apply wt;intro i hi;rw[←Bool.decide_coe (p i||q i),pd];simp only[List.mem_append,List.mem_filter,hi,true_and,Bool.or_eq_true]
section
variable{ts:List (Option Nat)}(R:eZ ts){i:Nat}(hi:i<ts.length+2){po:Int}
include R hi
theorem K1{F:Nat}(hF:15≤F){c c':Addr}{fs fs':List (Nat×AV)}{l r:List Nat}(hl:cN (ts.length+2) l)(hr:cN (ts.length+2) r){po sz:Int}{cu:Nat}
  (h1:HV F (.inst c fs) (cx ts i po sz cu) (.lst (l.map ni)))(h2:HV F (.inst c' fs') (cx ts i po sz cu) (.lst (r.map ni))):
  HV (F+10) (bg [124] (.inst c fs) (.inst c' fs')) (cx ts i po sz cu) (.lst ((b8 (λi=>decide (i∈l++r)) (ts.length+2)).map ni)):=by obtain⟨p,rfl⟩:=hl;obtain⟨q,rfl⟩:=hr;rw[T4];exact Wz (e:=(c,fs)) (g:=(c',fs')) h1 h2 ((Oh R rfl p q).mono hF)
omit R hi in
theorem Cw{F:Nat}(hF:51≤F){c:Addr}{fs:List (Nat×AV)}{l l':List Nat}(hl:l.length≤1000){po sz:Int}{cu:Nat}{s:Ex}{f:Nat→AV→Bool}
  (h1:HV F (.inst c fs) (cx ts i po sz cu) (.lst (l.map ni)))(hs:du 50 (cx ts i po sz cu) s.av (l.map ni).length f (l.map ni) 0)(hv:a8 f 0 (l.map ni)=l'.map ni):
  HV (F+10) (nC (.inst c fs) [s.av]) (cx ts i po sz cu) (.lst (l'.map ni)):=by have hk:=Dv (by rw[aU];exact hl) hs;rw[hv] at hk;exact HJ (e:=(c,fs)) h1 (hk.mono hF)
omit R hi in
theorem KT{F:Nat}(hF:51≤F){c:Addr}{fs:List (Nat×AV)}{l l' l'':List Nat}(hl:l.length≤1000){po sz:Int}{cu:Nat}{s s':Ex}{f g:Nat→AV→Bool}
  (h1:HV F (.inst c fs) (cx ts i po sz cu) (.lst (l.map ni)))(hs:du 50 (cx ts i po sz cu) s.av (l.map ni).length f (l.map ni) 0)(hv:a8 f 0 (l.map ni)=l'.map ni)
  (hs':du 50 (cx ts i po sz cu) s'.av (l'.map ni).length g (l'.map ni) 0)(hv':a8 g 0 (l'.map ni)=l''.map ni):
  HV (F+10) (nC (.inst c fs) [s.av,s'.av]) (cx ts i po sz cu) (.lst (l''.map ni)):=by have hk:=NY (q:=s'.av) (g:=g) (by rw[aU];exact hl) hs (by rw[hv];exact hs');rw[hv,hv'] at hk;exact HJ (e:=(c,fs)) h1 (hk.mono hF)
end
end
section
noncomputable def RP(s:List (Option Bool)):Bool:=ph (dd [] ((li wB 0 s).flatMap dU)) ((List.range 2).filter λi=>decide (i∈(li wB 0 s).flatMap dU))
theorem RQ:kz 6 RP=true:=by kernel_rfl
theorem RS{l:List Nat}{i:Nat}(h:i∈l.flatMap dU):i<2:=by
 obtain⟨x,_,hx⟩:=List.mem_flatMap.mp h;rcases x with _|_|x
 ·cases hx
 ·rw[show dU (0+1)=[0] from rfl,tn] at hx;omega
 ·rw[show dU (x+1+1)=[1] from rfl,tn] at hx;omega
theorem KM{K:Nat}(hK:K≤6)(h2:2≤K){l:List Nat}(h:cN K l):dd [] (l.flatMap dU)=b8 (λi=>decide (i∈l.flatMap dU)) K:=by
 obtain⟨p,rfl⟩:=h;have e:=xJ (qr RQ (pZ K p (λ_=>false) 0 6) (zZ ..));rw[r8 K p (λ_=>false) wB p (λj=>by cases decide (j<K)<;>cases p j<;>rfl),vD hK] at e;rw[e];have hlt:∀i∈(b8 p K).flatMap dU,i<2:=λi hi=>RS hi;clear e;revert hlt;generalize (b8 p K).flatMap dU=L;intro hlt
 have er:List.range K=List.range 2++List.range' 2 (K-2):=by have:=ID (s:=0) (m:=2) (n:=K-2);rw[mY,show 2+(K-2)=K by omega] at this;rw[wy,wy,this]
 have en:(List.range' 2 (K-2)).filter (λi=>decide (i∈L))=[]:=List.filter_eq_nil_iff.mpr λi hi=>by rw[AT] at hi;intro q;have:=hlt i (zr q);omega
 unfold b8;rw[er,List.filter_append,en,eK]
end
section
theorem zA(i:Nat):(dU i).length≤1:=by rcases i with _|_|i<;>simp[dU]
theorem x6:∀l:List Nat,(l.flatMap dU).length≤l.length
 |[]=>bw _
 |x::l=>by have h1:=zA x;have h2:=x6 l;simp only[wu,el,bV];omega
section
variable{ts:List (Option Nat)}(R:eZ ts){i:Nat}{po:Int}
include R
theorem KV{F:Nat}(hF:20≤F){c:Addr}{fs:List (Nat×AV)}(hc:c=771∨c=911∨c=827∨c=883){l:List Nat}(hl:cN (ts.length+2) l){po sz:Int}{cu:Nat}
  (h1:HV F (.inst c fs) (cx ts i po sz cu) (.lst (l.map ni))):
  HV (F+10) (cr (.inst c fs) [bC mB fV (.tup [])]) (cx ts i po sz cu) (.lst ((b8 (λi=>decide (i∈l.flatMap dU)) (ts.length+2)).map ni)):=by
 have hK:l.length≤6:=by have:=hl.len;have:=R.hi;omega
 have hf:=x6 l
 have hu:=(ux (n:=17) (yr R (n:=15) (s:=bC mB fV (.tup [])) (nm:=.dct []) (c:=.clos (cx ts i po sz cu)) (by omega) rfl (g:=dU) (l:=l) (r:=b8 (λi=>decide (i∈l.flatMap dU)) (ts.length+2))
  (λj hj=>⟨by rw[←vl];exact DB ts j R (hl.lt j hj) (n:=2) nU,by have:=zA j;omega⟩) (by omega) (KM (by have:=R.hi;omega) (by omega) hl) ⟨_,rfl⟩ (by omega))).mono (k:=F)
 rcases hc with rfl|rfl|rfl|rfl
 ·exact Wh h1 hu
 ·exact Wl h1 hu
 ·exact Wi h1 hu
 ·exact Wj h1 hu
end
end
section
section
variable{f:Fo}{w:Option RV}{H:List ac}
theorem Dl:∀(r:List Nat)(acc:List AV)(a b:Option RV),acc.length+r.length≤1000→
  ∃b',uu [1] (ev f (.var 1)) (d7 r) (acc.map .v) ⟨[a,b,w],H⟩=.ok ((acc++r.map ni).map .v) ⟨[a,b',w],H⟩
 |[],acc,a,b,_=>⟨b,by rw[oU,eK];rfl⟩
 |x::r,acc,a,b,hl=>by simp only[bV] at hl;obtain⟨b',h⟩:=Dl r (acc++[ni x]) a (some (.v (ni x))) (by rw[el];simp only[bV,i9];omega);refine⟨b',?_⟩;show aK (Nat.blt (acc.map RV.v).length 1000) (uu [1] (ev f (.var 1)) (d7 r) (acc.map RV.v++[.v (ni x)])) ⟨[a,some (.v (ni x)),w],H⟩=_;rw[aU,show Nat.blt acc.length 1000=true from f6 (show acc.length+1≤1000 by omega)];rw[eL] at h;refine h.trans ?_;rw[hJ];rfl
theorem Dk{u:Fm (List (List RV))}{g:Nat→List Nat}{N:Nat}(hN:N≤6)(hu:∀j,∀b,j<N→u ⟨[some (.v (ni j)),b,w],H⟩=.ok (d7 (g j)) ⟨[some (.v (ni j)),b,w],H⟩)(hg:∀j,(g j).length≤1):∀(l:List Nat)(acc:List AV)(a b:Option RV),(∀j∈l,j<N)→acc.length+l.length≤1000→
  ∃a' b',iU [0] [1] u (ev f (.var 1)) (d7 l) (acc.map .v) ⟨[a,b,w],H⟩=.ok ((acc++(l.flatMap g).map ni).map .v) ⟨[a',b',w],H⟩
 |[],acc,a,b,_,_=>⟨a,b,by rw[AN,oU,eK];rfl⟩
 |x::l,acc,a,b,hj,hl=>by simp only[bV] at hl;have hx:=hg x;obtain⟨b1,h1⟩:=Dl (f:=f) (w:=w) (H:=H) (g x) acc (some (.v (ni x))) b (by omega);obtain⟨a2,b2,h2⟩:=Dk hN hu hg l (acc++(g x).map ni) (some (.v (ni x))) b1 (λj h=>hj j (.tail _ h)) (by rw[el,aU];omega);refine⟨a2,b2,?_⟩;show(u ⟨[some (.v (ni x)),b,w],H⟩).bind _=_;rw[hu x b (hj x (.head _)),dQ,show fC [1] none (ev f (.var 1)) (d7 (g x)) (acc.map .v) ⟨[some (.v (ni x)),b,w],H⟩=_ from h1,dQ];refine h2.trans ?_;simp only[hJ,wu,eL]
end
theorem VJ{f:Fo}{od txd bed:AV}{K i:Nat}{po:Int}{l:List Nat}(hl:∀j∈l,j<K)(hK:K≤6)(hn:l.length≤6){a b c d e:Option RV}{H:List ac}:
  fj 2 [1] (iU [0] [1] (gR f (.ones (.sub (.sub (.var 2) (.con (.str iM))) (.var 0)))) (ev f (.var 1))) (d7 l) ⟨[a,some (.v (wA od txd (dD (λj=>.lst (iG j)) (eS K)) bed i po)),b,c,none,none,none,none,none,d,e,none,none,none,none],H⟩
   =.ok (.v (.lst ((l.flatMap dU).map ni))) ⟨[a,some (.v (wA od txd (dD (λj=>.lst (iG j)) (eS K)) bed i po)),b,c,none,none,none,none,none,d,e,none,none,none,none],H⟩:=by
 obtain⟨a',b',h⟩:=Dk (f:=f) (w:=some (.v (wA od txd (dD (λj=>.lst (iG j)) (eS K)) bed i po))) (H:=H)
  (u:=gR f (.ones (.sub (.sub (.var 2) (.con (.str iM))) (.var 0)))) (g:=dU) hK (λj b hj=>by show((bH (.v (dD (λj=>.lst (iG j)) (eS K))) (.v (ni j)) ⟨[some (.v (ni j)),b,_],H⟩).bind λy st=>ua y st)=_;rw[qQ (rG hj),dQ,vl];rfl) zA l [] none none hl (by simp;omega)
 refine(congrArg (λr:Rs (List RV)=>r.noErr.bind λacc st'=>aj (bY acc) (λr _=>Rs.ok (RV.v (AV.lst r)) ⟨[a,some (.v (wA od txd (dD (λj=>.lst (iG j)) (eS K)) bed i po)),b,c,none,none,none,none,none,d,e,none,none,none,none],st'.H⟩) st') h).trans ?_;show aj (bY ((([]:List AV)++(l.flatMap dU).map ni).map RV.v)) _ _=_;rw[kA];rfl
section
variable{ts:List (Option Nat)}(R:eZ ts){i:Nat}(hi:i<ts.length+2){po:Int}
include R hi
theorem ye{F:Nat}(hF:60≤F){d:Int}(hd:decide (d>0)=true)(ih:GN ts i po F (d-1)):GN ts i po (F+20) d:=λH h=>by
 have h6:ts.length+2≤6:=by have:=R.hi;omega
 obtain⟨fig,H1,hs,h0,h1,ht⟩:=fn (top:=7) h;by_cases hw:fig<4
 ·obtain⟨c,fs,l,H',a1,a2,a3,a4,a5⟩:=Dd R hi (po:=po) (.inl ⟨hd,rfl⟩) h hs (ht.mono) h0 hw;exact⟨c,fs,l,H',a1,a2,a3,a4.mono,a5.mono⟩
 ·obtain⟨c,fs,l,H2,a1,hs2,a3,a4,a5⟩:=ih _ hs;have hl6:l.length≤6:=by have:=a3.len;omega
  have ht:=ht.mono (k:=F);have:fig=4∨fig=5∨fig=6:=Jp h0 h1 hw;rcases this with rfl|rfl|rfl
  ·obtain⟨c',fs',r,H3,b1,hs3,b3,b4,b5⟩:=ih _ hs2;have hr6:r.length≤6:=by have:=b3.len;omega
   refine⟨827,[(3,.str [124]),(4,.inst c fs),(5,.inst c' fs')],b8 (λi=>decide (i∈l++r)) (ts.length+2),_,.inr (.inr (.inl rfl)),hs3,⟨_,rfl⟩,?_,(K1 R hi (by omega) a3 b3 a5 b5).mono⟩;exact(M9 (n:=F) (e:=(c,fs)) (g:=(c',fs')) hd ht a4 b4 (by rw[aU,aU];omega) (by rw[←eL];exact(DA (od:=.none) (K:=ts.length+2) (by omega)).mono)).mono
  ·obtain⟨s,l',H3,f,hs3,b1,b2,b3,b4⟩:=Dc R (i:=i) (po:=po) hs2 a3;obtain⟨fg,H4,hs4,g0,g1,ht4⟩:=fn (top:=3) hs3;have ht4:=ht4.mono (k:=F);have hl':=a3.sub b1;have:fg=0∨fg=1∨fg=2:=c3 g0 g1;rcases this with rfl|rfl|rfl
   ·exact⟨883,[(6,.inst c fs),(7,.tup [s.av])],l',_,.inr (.inr (.inr rfl)),hs4,hl',(Na (n:=F) (e:=(c,fs)) (s:=s) hd ht a4 (b2.mono) ht4).mono,(Cw (by omega) (by omega) a5 (b3 ..) b4).mono⟩
   ·obtain⟨s',l'',H5,g,hs5,c1,c2,c3,c4⟩:=Dc R (i:=i) (po:=po) hs4 hl';exact⟨883,[(6,.inst c fs),(7,.tup [s.av,s'.av])],l'',_,.inr (.inr (.inr rfl)),hs5,hl'.sub c1,(Nb (n:=F) (e:=(c,fs)) (s:=s) (s':=s') hd ht a4 (b2.mono) ht4 (c2.mono)).mono,(KT (by omega) (by omega) a5 (b3 ..) b4 (c3 ..) c4).mono⟩
   ·exact⟨883,[(6,.inst c fs),(7,.tup [s.av])],l',_,.inr (.inr (.inr rfl)),hs4,hl',(Nc (n:=F) (e:=(c,fs)) (s:=s) hd ht a4 (b2.mono) ht4).mono,(Cw (by omega) (by omega) a5 (b3 ..) b4).mono⟩
  ·have hf:=x6 l;refine⟨911,[(8,.inst c fs),(9,.tup [bC mB fV (.tup [])])],b8 (λi=>decide (i∈l.flatMap dU)) (ts.length+2),_,.inr (.inl rfl),hs2,⟨_,rfl⟩,?_,(KV R (by omega) a1 a3 a5).mono⟩;exact(Nd (n:=F) (e:=(c,fs)) (l:=l) hd ht a4 (λm _=>VJ (λj hj=>a3.lt j hj) h6 hl6) ((DA (od:=.none) (K:=ts.length+2) (l:=l.flatMap dU) (by omega)).mono)).mono
end
end
section
theorem je.below{H:List ac}(h:je H):H.all (ac.belowB 2)=true:=by
 have key:∀rw:List Int,ac.belowB 2 (.lst (rw.map λi=>.v (.int i)))=true:=λrw=>by
  induction rw with
  |nil=>rfl
  |cons x r ih=>exact ih
 cases h with
 |row rw a b hl=>exact(congrArg (λz=>z&&(ac.belowB 2 (.lst [vi a,vi b,.loc 0])&&true)) (key rw)).trans rfl
 |none rw a b hl=>exact(congrArg (λz=>z&&(ac.belowB 2 (.lst [vi a,vi b,.v (.lst [])])&&true)) (key rw)).trans rfl
section
variable{ts:List (Option Nat)}(R:eZ ts){i:Nat}(hi:i<ts.length+2){po:Int}
include R hi
theorem uq:GN ts i po 60 0:=λH h=>by obtain⟨fig,H1,hs,h0,h1,ht⟩:=fn (top:=4) h;exact Dd R hi (po:=po) (.inr ⟨by decide,rfl⟩) h hs (ht.mono) h0 h1
theorem ur:GN ts i po 80 1:=ye R hi (by decide) (by decide) (uq R hi)
theorem ut:GN ts i po 100 2:=ye R hi (by decide) (by decide) (ur R hi)
theorem ND:GN ts i po 120 3:=ye R hi (by decide) (by decide) (ut R hi)
end
end
section
noncomputable def tC(ts:List (Option Nat))(i:Nat)(po:Int)(F:Nat)(d:Int)(N D:Nat)(H:PR):Prop:=∃(e:Ex)(p q:Int)(H':PR),SG H'∧p.natAbs≤N∧0<q∧q≤(D:Int)∧
 HG F 1292 (wW ts i po) d H e.av (nu p q) H'∧HV F e.av (cx ts i po 3 i) (nu p q)
noncomputable def mR(ts:List (Option Nat))(i:Nat)(po:Int)(F:Nat)(d:Int)(N D:Nat):Prop:=∀H:PR,SG H→tC ts i po F d N D H
theorem wX{q b:Int}{D c D':Nat}(a3:q≤D)(b0:0<b)(b3:b≤c)(h:D*c≤D')(h':D'<1073741824):q*b≤D'∧q*b<1073741824:=by have k:=Int.mul_le_mul a3 b3 (lP b0) (Int.natCast_nonneg D);rw[←Int.natCast_mul] at k;omega
theorem oZ{p q:Int}{N D:Nat}(a1:p.natAbs≤N)(a2:0<q)(a3:q≤D)(bN:N≤10000)(bD:D≤36):Sm p q:=⟨aJ a1 (aJ bN (by decide)),a2,by omega⟩
theorem I4{x y:Int}{A B N':Nat}(h1:x.natAbs≤A)(h2:y.natAbs≤B)(h:A+B≤N'):(x-y).natAbs≤N':=aJ (Int.natAbs_sub_le x y) (aJ (A0 h1 h2) h)
theorem BG{x y:Int}{A B N':Nat}(h1:x.natAbs≤A)(h2:y.natAbs≤B)(h:A+B≤N'):(x+y).natAbs≤N':=aJ (Int.natAbs_add_le x y) (aJ (A0 h1 h2) h)
theorem wV{q:Int}{D:Nat}(h0:0<q)(h:q≤D):q.natAbs≤D:=by omega
abbrev GE(ts:List (Option Nat))(i:Nat)(po:Int)(F:Nat)(d:Int)(H:PR)(e v:AV)(H':PR):Prop:=HG F 1292 (wW ts i po) d H e v H'
abbrev VE(ts:List (Option Nat))(i:Nat)(po:Int)(F:Nat)(e v:AV):Prop:=HV F e (cx ts i po 3 i) v
section
variable{ts:List (Option Nat)}{i:Nat}{po:Int}{F:Nat}(hF:60≤F){d:Int}{N D N' D':Nat}{e g:Ex}{p q r s:Int}{H H4:PR}(hs4:SG H4)
include hF hs4
theorem yf{T b:Int}{x:List Nat}{rt:AV}(hq:0<b)(hT:T.natAbs≤N')(hb:b≤D')(hb':b<1073741824){z:AV}(hz:z=low T b)
  (g1:HP F 1285 [vi T,vi b] z→GE ts i po (F+12) d H (bg x e.av rt) z H4)(g2:VE ts i po (F+10) (bg x e.av rt) z):tC ts i po (F+20) d N' D' H:=by obtain⟨u,v,v1,v2,u1,e1,_⟩:=y3 T hq;have hl:=Dw (t:=T) hq hb';rw[e1] at hl hz;subst hz;exact⟨(827,[(3,.str x),(4,e.av),(5,rt)]),u,v,_,hs4,aJ u1 hT,v1,wi v2 hb,(g1 (hl.mono)).mono,g2.mono⟩
theorem NF(bN:N≤10000)(bD:D≤36)(b1:2*N+3*(N*D)≤N')(c2:3*D≤D')(c3:D'<1073741824){m b:Int}(a1:p.natAbs≤N)(a2:0<q)(a3:q≤D)(a5:VE ts i po F e.av (nu p q))(sb:Sm r s)(hr:r≠0)(rs:2*s.natAbs*r.natAbs≤6)(r3:r.natAbs≤10)(s2:s.natAbs≤2)(b0:0<b)(b3:b≤(3:Nat))(m1:m.natAbs=1)
  (hz:HP 5 87 [.v (nu p q),.v (nu r s)] (low (p*s*m) (q*b))){y:AV}{k:Nat}(hk:k<2)(hy:ae [.str dN,.str co] k=some y)
  (gd:y=.str dN→∀u v,HP F 1285 [vi (p*s*m),vi (q*b)] (nu u v)→GE ts i po (F+12) d H (bg dN e.av (cZ (nu r s))) (nu u v) H4)
  (gm:y=.str co→∀u v z,HP F 1285 [vi (p*s*m),vi (q*b)] (nu u v)→0<v→v<1073741824→(ew u v*r).natAbs≤2147483648→HP F 1285 [vi (p*s-ew u v*r*q),vi (q*s)] z→GE ts i po (F+12) d H (bg co e.av (cZ (nu r s))) z H4):tC ts i po (F+20) d N' D' H:=by
 have hq:0<q*b:=oP a2 b0;have n0:=mh a1 s2;have n1:(p*s*m).natAbs≤N*s.natAbs:=by rw[AG,m1,Nat.mul_one];exact mh a1 (bw _)
 have n2:=wX a3 b0 b3 (wz D 3▸c2) c3;have hv:=Aj (n:=0) (ts:=ts) (i:=i) (po:=po) (sz:=3) (cu:=i) (p:=r) (q:=s);rcases k with _|_|k
 ·cases hy;refine yf hF hs4 hq (aJ n1 (aJ (Nat.mul_le_mul_left N s2) (wz N 2▸aJ (eM ..) b1))) n2.1 n2.2 rfl (λh=>?_) (V5 (n:=F) (g:=(743,[(0,nu r s)])) a5 (hv.mono) (hz.mono));obtain⟨u,v,_,_,_,e1,_⟩:=y3 (p*s*m) hq;rw[e1] at h⊢;exact gd rfl u v h
 ·cases hy;obtain⟨u,v,v1,v2,u1,e1,_⟩:=y3 (p*s*m) hq;have hl:=Dw (t:=p*s*m) hq n2.2;rw[e1] at hl;have v3:=Int.lt_of_le_of_lt v2 n2.2;have hca:=aJ (Cg (u:=u) v1) (aJ u1 n1);have k1:(ew u v*r).natAbs≤N*3:=aJ (mh hca (bw _)) (A6 N _ _▸Nat.mul_le_mul_left N (by rw[A6] at rs;exact Nat.le_of_mul_le_mul_left rs (by decide)));have hm:=QM (oZ a1 a2 a3 bN bD) sb hr hz e1 v1 v3 (aJ u1 (aJ n1 (aJ (Nat.mul_le_mul bN s2) (by decide)))) r3;have hq2:0<q*s:=oP a2 sb.pos;have n3:=wX (c:=2) a3 sb.pos (by omega) (by omega) c3;have k2:=mh k1 (wV a2 a3);exact yf hF hs4 hq2 (I4 n0 k2 (by rw[wz N 2,wz N 3,A6];exact b1)) n3.1 n3.2 rfl (λh=>gm rfl u v _ (hl.mono) v1 v3 (aJ k1 (aJ (Nat.mul_le_mul_right 3 bN) (by decide))) h) (V8 (n:=F) (g:=(743,[(0,nu r s)])) a5 (hv.mono) (hm.mono))
 ·exact absurd hk (by omega)
end
section
variable{ts:List (Option Nat)}(R:eZ ts){i:Nat}(hi:i<ts.length+2){po:Int}(hpo:0<po)(hpo':po≤3)
include R hi hpo hpo'
theorem Di{d top:Int}(hd:(decide (d>0)=true∧top=8)∨(decide (d>0)=false∧top=4)){H:PR}(h:SG H){fig:Int}{H1:PR}(hs:SG H1)(ht:HT 20 top H fig H1)(hf:0≤fig)(hf4:fig<4):tC ts i po 40 d 7 2 H:=by
 have:fig=0∨fig=1∨fig=2∨fig=3:=c4 hf hf4;rcases this with rfl|rfl|rfl|rfl
 ·obtain⟨j,x,H2,hs2,hx,hj,h2⟩:=iV (l:=[nu 0 1,nu 1 1,nu 2 1,nu 5 2,nu (-3) 1]) hs;have h2:=h2.mono (k:=20)
  have:∃p q:Int,x=nu p q∧p.natAbs≤7∧0<q∧q≤2:=by
   rcases j with _|_|_|_|_|j
   ·cases hx;exact⟨0,1,rfl,by decide,by decide,by decide⟩
   ·cases hx;exact⟨1,1,rfl,by decide,by decide,by decide⟩
   ·cases hx;exact⟨2,1,rfl,by decide,by decide,by decide⟩
   ·cases hx;exact⟨5,2,rfl,by decide,by decide,by decide⟩
   ·cases hx;exact⟨-3,1,rfl,by decide,by decide,by decide⟩
   ·cases hx
  obtain⟨p,q,rfl,b1,b2,b3⟩:=this;refine⟨(743,[(0,nu p q)]),p,q,_,hs2,b1,b2,b3,?_,(Aj (n:=0)).mono⟩;rcases hd with⟨hd,rfl⟩|⟨hd,rfl⟩
  ·exact(Ms (n:=20) hd ht h2 hs2.below).mono
  ·exact(Mt (n:=20) hd ht h2 hs2.below).mono
 ·refine⟨(771,[(1,.str [110])]),7,2,_,hs,by decide,by decide,by decide,?_,(V9 (n:=0)).mono⟩;rcases hd with⟨hd,rfl⟩|⟨hd,rfl⟩
  ·exact(Mu (n:=20) hd ht hs.below).mono
  ·exact(Mv (n:=20) hd ht hs.below).mono
 ·have hp:=re po;rw[rC] at hp;refine⟨(799,[(1,.str ik),(2,.tup [])]),po,1,_,hs,by omega,by decide,by decide,?_,(Wn (n:=3) hp).mono⟩;rcases hd with⟨hd,rfl⟩|⟨hd,rfl⟩
  ·exact(Mw (n:=20) hd ht hs.below).mono
  ·exact(Mx (n:=20) hd ht hs.below).mono
 ·have hp:=re 3;rw[rC] at hp;refine⟨(799,[(1,.str e9),(2,.tup [])]),3,1,_,hs,by decide,by decide,by decide,?_,(HM (n:=3) hp).mono⟩;rcases hd with⟨hd,rfl⟩|⟨hd,rfl⟩
  ·exact(My (n:=20) hd ht hs.below).mono
  ·exact(Mz (n:=20) hd ht hs.below).mono
theorem yg{F:Nat}(hF:60≤F){d:Int}(hd:decide (d>0)=true){N D N' D':Nat}(bN:N≤10000)(bD:D≤36)(b1:2*N+3*(N*D)≤N')(b2:N*N≤N')(b3:7≤N')(c1:D*D≤D')(c2:3*D≤D')(c3:2≤D')(c4:D'<1073741824)(ih:mR ts i po F (d-1) N D)(ihn:GN ts i po F (d-1)):mR ts i po (F+20) d N' D':=λH h=>by
 obtain⟨fig,H1,hs,h0,h1,ht⟩:=fn (top:=8) h;by_cases hw:fig<4
 ·obtain⟨e,p,q,H',a1,a2,a3,a4,a5,a6⟩:=Di R hi hpo hpo' (.inl ⟨hd,rfl⟩) h hs (ht.mono) h0 hw;exact⟨e,p,q,H',a1,aJ a2 b3,a3,wi a4 (Int.ofNat_le.mpr c3),a5.mono (aJ (mF hF rfl) (eM ..)),a6.mono (aJ (mF hF rfl) (eM ..))⟩
 have ht:=ht.mono (k:=F);have:fig=4∨fig=5∨fig=6∨fig=7:=Jq h0 h1 hw;clear h0 h1 hw;have t2:N≤N':=aJ (by clear b1 b2;omega) b1;have t3:D≤D':=aJ (by clear c1 c2;omega) c2;rcases this with rfl|rfl|rfl|rfl
 ·obtain⟨c,fs,l,H2,_,hs2,a3,a4,a5⟩:=ihn _ hs;have hl6:(l.map ni).length≤6:=by rw[aU];exact aJ a3.len (Nat.add_le_add_right R.hi 2)
  have hp:=re (l.map ni).length;rw[rC] at hp;exact⟨(799,[(1,.str lX),(2,.tup [.inst c fs])]),(l.map ni).length,1,_,hs2,aJ hl6 (aJ (by decide) b3),by decide,Int.ofNat_le.mpr (aJ (by decide) c3),(MA (n:=F) (e:=(c,fs)) hd ht a4 (aJ hl6 (by decide)) hs2.below).mono,(V4 (n:=F) (e:=(c,fs)) a5 (aJ hl6 (by decide)) (hp.mono)).mono⟩
 ·obtain⟨e,p,q,H2,hs2,a1,a2,a3,a4,a5⟩:=ih _ hs;exact⟨(855,[(0,e.av)]),-p,q,_,hs2,by rw[Int.natAbs_neg];exact aJ a1 t2,a2,wi a3 (Int.ofNat_le.mpr t3),(MB (n:=F) hd ht a4 hs2.below).mono,(Wb (n:=F) a5).mono⟩
 ·obtain⟨e,p,q,H2,hs2,a1,a2,a3,a4,a5⟩:=ih _ hs;have sp:=oZ a1 a2 a3 bN bD;obtain⟨j,x,H3,hs3,hx,hj,h3⟩:=iV (l:=[nu 2 1,nu (-3) 1,nu 1 2]) hs2;obtain⟨k,y,H4,hs4,hy,hk,h4⟩:=iV (l:=[.str dN,.str co]) hs3;have h3:=h3.mono (k:=F);have h4:=h4.mono (k:=F);have hb:=hs4.below;have G:=λ{r s m b}=>NF (ts:=ts) (i:=i) (po:=po) hF hs4 (d:=d) (r:=r) (s:=s) (m:=m) (b:=b) (H:=H) bN bD b1 c2 c4 a1 a2 a3 a5;rcases j with _|_|_|j
  ·cases hx;have sb:Sm 2 1:=⟨by decide,by decide,by decide⟩;refine G (m:=1) (b:=2) sb (by decide) (by decide) (by decide) (by decide) (by decide) (by decide) rfl (by rw[wj (p*1)];exact Du sp sb (by decide) (by decide)) hk hy (λy u v hl=>by subst y;exact MC hd ht a4 h3 h4 hl hb) λy u v z hl v1 v3 hw h=>by
    subst y;by_cases hu:u>0
    ·rw[←xC hu] at hw h;exact MH hd ht a4 h3 h4 hl (cD hu) v1 v3 hw h hb
    ·rw[←xB hu] at hw h;exact MG hd ht a4 h3 h4 hl (bW hu) v1 v3 hw h hb
  ·cases hx;have sb:Sm (-3) 1:=⟨by decide,by decide,by decide⟩;refine G (m:= -1) (b:=3) sb (by decide) (by decide) (by decide) (by decide) (by decide) (by decide) rfl (by rw[Int.mul_neg_one (p*1),show q*3= -(q* -3) by rw[Int.mul_neg,Int.neg_neg]];exact NW sp sb (by decide) (by decide)) hk hy (λy u v hl=>by subst y;exact MD hd ht a4 h3 h4 hl hb) λy u v z hl v1 v3 hw h=>by
    subst y;by_cases hu:u>0
    ·rw[←xC hu] at hw h;exact MJ hd ht a4 h3 h4 hl (cD hu) v1 v3 hw h hb
    ·rw[←xB hu] at hw h;exact MI hd ht a4 h3 h4 hl (bW hu) v1 v3 hw h hb
  ·cases hx;have sb:Sm 1 2:=⟨by decide,by decide,by decide⟩;refine G (m:=1) (b:=1) sb (by decide) (by decide) (by decide) (by decide) (by decide) (by decide) rfl (by rw[wj (p*2)];exact Du sp sb (by decide) (by decide)) hk hy (λy u v hl=>by subst y;exact ME hd ht a4 h3 h4 hl hb) λy u v z hl v1 v3 hw h=>by
    subst y;by_cases hu:u>0
    ·rw[←xC hu] at hw h;exact ML hd ht a4 h3 h4 hl (cD hu) v1 v3 hw h hb
    ·rw[←xB hu] at hw h;exact MK hd ht a4 h3 h4 hl (bW hu) v1 v3 hw h hb
  ·cases hx
 ·obtain⟨e,p,q,H2,hs2,a1,a2,a3,a4,a5⟩:=ih _ hs;obtain⟨g,r,s,H3,hs3,d1,d2,d3,d4,d5⟩:=ih _ hs2;have sp:=oZ a1 a2 a3 bN bD;have sr:=oZ d1 d2 d3 bN bD;obtain⟨k,y,H4,hs4,hy,hk,h4⟩:=iV (l:=[.str [43],.str [45],.str [42]]) hs3;have h4:=h4.mono (k:=F);have hb:=hs4.below;have hq:0<q*s:=oP a2 d2;have q1:=wX a3 d2 d3 c1 c4;have n1:=mh a1 (wV d2 d3);have n2:=mh d1 (wV a2 a3);have nn:N*D+N*D≤N':=by clear n1 n2;omega
  have G:=λ{T x z}=>yf (ts:=ts) (i:=i) (po:=po) (N':=N') (D':=D') hF hs4 (d:=d) (e:=e) (rt:=g.av) (H:=H) (T:=T) (x:=x) (z:=z) hq;rcases k with _|_|_|k
  ·cases hy;exact G (BG n1 n2 nn) q1.1 q1.2 rfl (λh=>MN sp sr hd ht a4 d4 h4 h hb) (Wm a5 d5 ((DC sp sr).mono))
  ·cases hy;exact G (BG n1 (by rw[AH,Int.natAbs_neg];exact n2) nn) q1.1 q1.2 rfl (λh=>MM sp sr hd ht a4 d4 h4 h hb) (V7 a5 d5 ((Dx sp sr).mono))
  ·cases hy;exact G (aJ (mh a1 d1) b2) q1.1 q1.2 rfl (λh=>MO sp sr hd ht a4 d4 h4 h hb) (Wy a5 d5 ((DF sp sr).mono))
  ·cases hy
theorem De:mR ts i po 60 0 7 2:=λH h=>by obtain⟨fig,H1,hs,h0,h1,ht⟩:=fn (top:=4) h;obtain⟨e,p,q,H',a1,a2,a3,a4,a5,a6⟩:=Di R hi hpo hpo' (d:=0) (.inr ⟨by decide,rfl⟩) h hs (ht.mono) h0 h1;exact⟨e,p,q,H',a1,a2,a3,a4,a5.mono,a6.mono⟩
theorem Dg:mR ts i po 80 1 56 6:=yg R hi hpo hpo' (by decide) (by decide) (by decide) (by decide) (by decide) (by decide) (by decide) (by decide) (by decide) (by decide) (by decide) (De R hi hpo hpo') (uq R hi)
theorem Dh:mR ts i po 100 2 3136 36:=yg R hi hpo hpo' (by decide) (by decide) (by decide) (by decide) (by decide) (by decide) (by decide) (by decide) (by decide) (by decide) (by decide) (Dg R hi hpo hpo') (ur R hi)
theorem NE:mR ts i po 120 3 9834496 1296:=yg R hi hpo hpo' (by decide) (by decide) (by decide) (by decide) (by decide) (by decide) (by decide) (by decide) (by decide) (by decide) (by decide) (Dh R hi hpo hpo') (ut R hi)
end
end
section
theorem Ul(x:Int):decide (fX x<0)=decide (x<0):=by unfold fX;rw[pd];split<;>(try split)<;>omega
theorem Uk(x:Int):decide (fX x≤0)=decide (x≤0):=by unfold fX;rw[pd];split<;>(try split)<;>omega
theorem Uj(x:Int):decide (fX x>0)=decide (x>0):=by unfold fX;rw[pd];split<;>(try split)<;>omega
theorem Uh(x:Int):decide (fX x≥0)=decide (x≥0):=by unfold fX;rw[pd];split<;>(try split)<;>omega
theorem F9(x:Int):decide (fX x=0)=decide (x=0):=by unfold fX;rw[pd];split<;>(try split)<;>omega
theorem Ac:∀ts:List (Option Nat),(tx ts).flatten.length≤ts.length
 |[]=>bw _
 |none::r=>by have:=Ac r;show(([]:List Nat)++(tx r).flatten).length≤_;rw[ww,bV];omega
 |some c::r=>by have:=Ac r;show([c]++(tx r).flatten).length≤_;rw[el,bV,bV,i9];omega
theorem Ad:∀(ts:List (Option Nat))(i:Nat),((tx ts).getD i []).length≤1
 |[],i=>f9 _
 |none::r,0=>f9 _
 |some c::r,0=>bw _
 |none::r,i+1=>Ad r i
 |some c::r,i+1=>Ad r i
noncomputable def IL(ts:List (Option Nat))(i:Nat)(po:Int)(F:Nat)(d:Int)(H:PR):Prop:=∃(e:Ex)(b:Bool)(H':PR),SG H'∧
 HG F 1299 (wW ts i po) d H e.av (.bool b) H'∧HV F e.av (cx ts i po 3 i) (.bool b)
noncomputable def mS(ts:List (Option Nat))(i:Nat)(po:Int)(F:Nat)(d:Int):Prop:=∀H:PR,SG H→IL ts i po F d H
noncomputable def Bj(ts:List (Option Nat))(i:Nat)(po:Int)(F:Nat)(d:Int)(N:Nat)(H:PR):Prop:=∃(e:Ex)(s:List Nat)(H':PR),SG H'∧s.length≤N∧
 HG F 1306 (wW ts i po) d H e.av (.str s) H'∧HV F e.av (cx ts i po 3 i) (.str s)
noncomputable def oN(ts:List (Option Nat))(i:Nat)(po:Int)(F:Nat)(d:Int)(N:Nat):Prop:=∀H:PR,SG H→Bj ts i po F d N H
section
variable{ts:List (Option Nat)}(R:eZ ts){i:Nat}(hi:i<ts.length+2){po:Int}(hpo:0<po)(hpo':po≤3)
include R hi hpo hpo'
theorem Dn:mS ts i po 60 0:=λH h=>by
 obtain⟨fig,H1,hs,h0,h1,ht⟩:=fn (top:=2) h;have:fig=0∨fig=1:=c2 h0 h1;rcases this with rfl|rfl
 ·exact⟨(799,[(1,.str fL),(2,.tup [])]),true,_,hs,(Md (n:=2) (d:=0) (by decide) ht hs.below).mono,(HI (n:=0)).mono⟩
 ·exact⟨(799,[(1,.str ij),(2,.tup [])]),false,_,hs,(Mc (n:=2) (d:=0) (by decide) ht hs.below).mono,(HH (n:=0)).mono⟩
theorem yk{F:Nat}(hF:60≤F){d:Int}(hd:decide (d>0)=true){N D:Nat}(bN:N≤10000)(bD:D≤36)(ih:mS ts i po F (d-1))(ihn:GN ts i po F (d-1))(ihu:mR ts i po F (d-1) N D):mS ts i po (F+20) d:=λH h=>by
 obtain⟨fig,H1,hs,h0,h1,ht⟩:=fn (top:=6) h;have ht:=ht.mono (k:=F);have:fig=0∨fig=1∨fig=2∨fig=3∨fig=4∨fig=5:=c6 h0 h1;rcases this with rfl|rfl|rfl|rfl|rfl|rfl
 ·obtain⟨fg,H2,hs2,g0,g1,ht2⟩:=fn (top:=2) hs;have ht2:=ht2.mono (k:=F);have:fg=0∨fg=1:=c2 g0 g1;rcases this with rfl|rfl
  ·exact⟨(799,[(1,.str fL),(2,.tup [])]),true,_,hs2,(Me (n:=F) hd ht ht2 hs2.below).mono,(HI (n:=0)).mono⟩
  ·exact⟨(799,[(1,.str ij),(2,.tup [])]),false,_,hs2,(Mb (n:=F) hd ht ht2 hs2.below).mono,(HH (n:=0)).mono⟩
 ·obtain⟨c,fs,l,H2,_,hs2,a3,a4,a5⟩:=ihn _ hs;rcases l with _|⟨x,l⟩
  ·exact⟨(799,[(1,.str lW),(2,.tup [.inst c fs])]),false,_,hs2,(Mf (n:=F) (x:=.none) (l:=[]) (e:=(c,fs)) hd ht a4 hs2.below).mono,(VY (n:=F) (e:=(c,fs)) a5).mono⟩
  ·exact⟨(799,[(1,.str lW),(2,.tup [.inst c fs])]),true,_,hs2,(Mg (n:=F) (x:=ni x) (l:=l.map ni) (e:=(c,fs)) hd ht a4 hs2.below).mono,(VZ (n:=F) (x:=ni x) (l:=l.map ni) (e:=(c,fs)) a5).mono⟩
 ·obtain⟨e,b,H2,hs2,a4,a5⟩:=ih _ hs;refine⟨(799,[(1,.str qn),(2,.tup [e.av])]),!b,_,hs2,(Mh (n:=F) hd ht a4 hs2.below).mono,?_⟩;cases b with
  |true=>exact(Wd (n:=F) a5).mono
  |false=>exact(Wc (n:=F) a5).mono
 ·obtain⟨e,p,q,H2,hs2,a1,a2,a3,a4,a5⟩:=ihu _ hs;obtain⟨g,r,s,H3,hs3,d1,d2,d3,d4,d5⟩:=ihu _ hs2;have sp:=oZ a1 a2 a3 bN bD;have sr:=oZ d1 d2 d3 bN bD;obtain⟨k,y,H4,hs4,hy,hk,h4⟩:=iV (l:=[.str [60],.str fM,.str [62],.str ga,.str [61],.str fw]) hs3;have h4:=h4.mono (k:=F);have hb:=hs4.below;have ho:=yo sp sr;rcases k with _|_|_|_|_|_|k
  ·cases hy;have hc:=NR sp sr ho;rw[Ul] at hc;exact⟨(827,[(3,.str [60]),(4,e.av),(5,g.av)]),decide (p*s-r*q<0),_,hs4,(Mm (n:=F) sp sr hd ht a4 d4 h4 hb).mono,(VU (n:=F) a5 d5 (hc.mono)).mono⟩
  ·cases hy;have hc:=NQ sp sr ho;rw[Uk] at hc;exact⟨(827,[(3,.str fM),(4,e.av),(5,g.av)]),decide (p*s-r*q≤0),_,hs4,(Ml (n:=F) sp sr hd ht a4 d4 h4 hb).mono,(VT (n:=F) a5 d5 (hc.mono)).mono⟩
  ·cases hy;have hc:=Dt sp sr ho;rw[Uj] at hc;exact⟨(827,[(3,.str [62]),(4,e.av),(5,g.av)]),decide (p*s-r*q>0),_,hs4,(Mk (n:=F) sp sr hd ht a4 d4 h4 hb).mono,(VS (n:=F) a5 d5 (hc.mono)).mono⟩
  ·cases hy;have hc:=NP sp sr ho;rw[Uh] at hc;exact⟨(827,[(3,.str ga),(4,e.av),(5,g.av)]),decide (p*s-r*q≥0),_,hs4,(Mj (n:=F) sp sr hd ht a4 d4 h4 hb).mono,(VQ (n:=F) a5 d5 (hc.mono)).mono⟩
  ·cases hy;have hc:=Ds sp sr ho;rw[F9] at hc;exact⟨(827,[(3,.str [61]),(4,e.av),(5,g.av)]),decide (p*s-r*q=0),_,hs4,(Mi (n:=F) sp sr hd ht a4 d4 h4 hb).mono,(VP (n:=F) a5 d5 (hc.mono)).mono⟩
  ·cases hy;have hc:=NS sp sr ho;rw[F9] at hc;exact⟨(827,[(3,.str fw),(4,e.av),(5,g.av)]),!decide (p*s-r*q=0),_,hs4,(Mn (n:=F) sp sr hd ht a4 d4 h4 hb).mono,(VV (n:=F) a5 d5 (hc.mono)).mono⟩
  ·cases hy
 ·obtain⟨e,a,H2,hs2,a4,a5⟩:=ih _ hs;obtain⟨g,b,H3,hs3,d4,d5⟩:=ih _ hs2;by_cases ha:a=true
  ·subst ha;obtain⟨k,y,H4,hs4,hy,hk,h4⟩:=iV (l:=[g.av,ez eo,bv eo []]) hs3 (Nat.zero_lt_succ _) (show 3≤100 by decide);have h4:=h4.mono (k:=F);have hb:=hs4.below
   have:∃f:Ex,y=f.av:=by
    rcases k with _|_|_|k
    ·cases hy;exact⟨g,rfl⟩
    ·cases hy;exact⟨(771,[(1,.str eo)]),rfl⟩
    ·cases hy;exact⟨(799,[(1,.str eo),(2,.tup [])]),rfl⟩
    ·cases hy
   obtain⟨f,rfl⟩:=this;exact⟨(827,[(3,.str jI),(4,e.av),(5,f.av)]),true,_,hs4,(Mo (n:=F) hd ht a4 d4 h4 hb).mono,(We (n:=F) (g:=f) a5).mono⟩
  ·have ha:a=false:=by cases a<;>first|rfl|exact(ha rfl).elim
   subst ha;exact⟨(827,[(3,.str jI),(4,e.av),(5,g.av)]),b,_,hs3,(Mp (n:=F) hd ht a4 d4 hs3.below).mono,(Wf (n:=F) a5 d5).mono⟩
 ·obtain⟨e,a,H2,hs2,a4,a5⟩:=ih _ hs;obtain⟨g,b,H3,hs3,d4,d5⟩:=ih _ hs2;by_cases ha:a=false
  ·subst ha;obtain⟨k,y,H4,hs4,hy,hk,h4⟩:=iV (l:=[g.av,ez eo,bv eo []]) hs3 (Nat.zero_lt_succ _) (show 3≤100 by decide);have h4:=h4.mono (k:=F);have hb:=hs4.below
   have:∃f:Ex,y=f.av:=by
    rcases k with _|_|_|k
    ·cases hy;exact⟨g,rfl⟩
    ·cases hy;exact⟨(771,[(1,.str eo)]),rfl⟩
    ·cases hy;exact⟨(799,[(1,.str eo),(2,.tup [])]),rfl⟩
    ·cases hy
   obtain⟨f,rfl⟩:=this;exact⟨(827,[(3,.str jJ),(4,e.av),(5,f.av)]),false,_,hs4,(Mq (n:=F) hd ht a4 d4 h4 hb).mono,(VW (n:=F) (g:=f) a5).mono⟩
  ·have ha:a=true:=by cases a<;>first|rfl|exact(ha rfl).elim
   subst ha;exact⟨(827,[(3,.str jJ),(4,e.av),(5,g.av)]),b,_,hs3,(Mr (n:=F) hd ht a4 d4 hs3.below).mono,(VX (n:=F) a5 d5).mono⟩
theorem Do:mS ts i po 80 1:=yk R hi hpo hpo' (by decide) (by decide) (N:=7) (D:=2) (by decide) (by decide) (Dn R hi hpo hpo') (uq R hi) (De R hi hpo hpo')
theorem Dp:mS ts i po 100 2:=yk R hi hpo hpo' (by decide) (by decide) (N:=56) (D:=6) (by decide) (by decide) (Do R hi hpo hpo') (ur R hi) (Dg R hi hpo hpo')
theorem NH:mS ts i po 120 3:=yk R hi hpo hpo' (by decide) (by decide) (N:=3136) (D:=36) (by decide) (by decide) (Dp R hi hpo hpo') (ut R hi) (Dh R hi hpo hpo')
omit hpo hpo' in
theorem Vo(j:Nat):(gk ts j).length≤5:=by
 have h:=Ac ts;have:=R.hi;rcases j with _|_|j
 ·show(tx ts).flatten.length≤5;omega
 ·show(tx ts).flatten.length≤5;omega
 ·have:=Ad ts j;show((tx ts).getD j []).length≤5;omega
theorem Dr{d top:Int}(hd:(decide (d>0)=true∧top=5)∨(decide (d>0)=false∧top=2)){H:PR}(h:SG H){fig:Int}{H1:PR}(hs:SG H1)(ht:HT 20 top H fig H1)(hf:0≤fig)(hf4:fig<2):Bj ts i po 40 d 5 H:=by
 have:fig=0∨fig=1:=c2 hf hf4;rcases this with rfl|rfl
 ·obtain⟨j,x,H2,hs2,hx,hj,h2⟩:=iV (l:=[.str [],.str [120],.str [49],.str [97,32,98]]) hs;have h2:=h2.mono (k:=20)
  have:∃s:List Nat,x=.str s∧s.length≤5:=by
   rcases j with _|_|_|_|j
   ·cases hx;exact⟨_,rfl,by decide⟩
   ·cases hx;exact⟨_,rfl,by decide⟩
   ·cases hx;exact⟨_,rfl,by decide⟩
   ·cases hx;exact⟨_,rfl,by decide⟩
   ·cases hx
  obtain⟨s,rfl,b1⟩:=this;refine⟨(715,[(0,.str s)]),s,_,hs2,b1,?_,(V6 (n:=0)).mono⟩;rcases hd with⟨hd,rfl⟩|⟨hd,rfl⟩
  ·exact(Nf (n:=20) hd ht h2).mono
  ·exact(Ng (n:=20) hd ht h2).mono
 ·refine⟨(771,[(1,.str [116])]),oX,_,hs,by decide,?_,(Wx (n:=0)).mono⟩;rcases hd with⟨hd,rfl⟩|⟨hd,rfl⟩
  ·exact(Nh (n:=20) hd ht).mono
  ·exact(Ni (n:=20) hd ht).mono
theorem yl{F:Nat}(hF:60≤F){d:Int}(hd:decide (d>0)=true){N:Nat}(b5:5≤N)(b1:N≤100)(ih:oN ts i po F (d-1) N)(ihn:GN ts i po F (d-1))(iht:mS ts i po F (d-1)):oN ts i po (F+20) d (2*N):=λH h=>by
 obtain⟨fig,H1,hs,h0,h1,ht⟩:=fn (top:=5) h;by_cases hw:fig<2
 ·obtain⟨e,s,H',a1,a2,a5,a6⟩:=Dr R hi hpo hpo' (.inl ⟨hd,rfl⟩) h hs (ht.mono) h0 hw;exact⟨e,s,H',a1,by omega,a5.mono,a6.mono⟩
 have ht:=ht.mono (k:=F);have:fig=2∨fig=3∨fig=4:=Jo h0 h1 hw;rcases this with rfl|rfl|rfl
 ·obtain⟨c,fs,l,H2,_,hs2,a3,a4,a5⟩:=ihn _ hs;rcases l with _|⟨x,l⟩
  ·exact⟨(799,[(1,.str gp),(2,.tup [.inst c fs])]),[],_,hs2,f9 _,(Nj (n:=F) (e:=(c,fs)) hd ht a4).mono,(Ws (n:=F) (e:=(c,fs)) a5).mono⟩
  ·have hx:x<ts.length+2:=a3.lt x (.head _);have:=Vo R hi (ts:=ts) x;exact⟨(799,[(1,.str gp),(2,.tup [.inst c fs])]),gk ts x,_,hs2,by omega,(Nk (n:=F) (e:=(c,fs)) (j:=x) (l:=l.map ni) hd ht a4 (qQ (g:=λj=>.str (gk ts j)) (rG hx))).mono,(Wt (n:=F) (e:=(c,fs)) (j:=x) (l:=l.map ni) a5 ((DE ts x R hx).mono)).mono⟩
 ·obtain⟨e,b,H2,hs2,a4,a5⟩:=iht _ hs;cases b with
  |true=>exact⟨(799,[(1,.str gp),(2,.tup [e.av])]),fL,_,hs2,by show 4≤_;omega,(Nm (n:=F) hd ht a4).mono,(Ww (n:=F) a5).mono⟩
  |false=>exact⟨(799,[(1,.str gp),(2,.tup [e.av])]),ij,_,hs2,by show 5≤_;omega,(Nl (n:=F) hd ht a4).mono,(Wu (n:=F) a5).mono⟩
 ·obtain⟨e,s,H2,hs2,a3,a4,a5⟩:=ih _ hs;obtain⟨g,t,H3,hs3,d3,d4,d5⟩:=ih _ hs2;exact⟨(799,[(1,.str qo),(2,.tup [e.av,g.av])]),t++s,_,hs3,by rw[el];omega,(Nn (n:=F) hd ht a4 d4 (by omega)).mono,(Wg (n:=F) a5 d5 (by omega)).mono⟩
theorem NI:oN ts i po 60 0 5:=λH h=>by obtain⟨fig,H1,hs,h0,h1,ht⟩:=fn (top:=2) h;obtain⟨e,s,H',a1,a2,a5,a6⟩:=Dr R hi hpo hpo' (d:=0) (.inr ⟨by decide,rfl⟩) h hs (ht.mono) h0 h1;exact⟨e,s,H',a1,a2,a5.mono,a6.mono⟩
theorem NJ:oN ts i po 80 1 10:=yl R hi hpo hpo' (F:=60) (d:=1) (N:=5) (by decide) (by decide) (by decide) (by decide) (NI R hi hpo hpo') (uq R hi) (Dn R hi hpo hpo')
theorem NK:oN ts i po 100 2 20:=yl R hi hpo hpo' (F:=80) (d:=2) (N:=10) (by decide) (by decide) (by decide) (by decide) (NJ R hi hpo hpo') (ur R hi) (Do R hi hpo hpo')
theorem NM:oN ts i po 120 3 40:=yl R hi hpo hpo' (F:=100) (d:=3) (N:=20) (by decide) (by decide) (by decide) (by decide) (NK R hi hpo hpo') (ut R hi) (Dp R hi hpo hpo')
end
end
section
noncomputable def jw:AV:=.lst [.str [49],.str [50],.str [49],.str []]
noncomputable def tO:Option Nat→List Nat
 |none=>[]
 |some c=>[c]
theorem j5{a:PR}(h:SG a):∃(t:Option Nat)(b:PR),SG b∧HO 3 jw a (.str (tO t)) b:=by
 obtain⟨j,x,H',hs,hx,hj,h'⟩:=iV (l:=[.str [49],.str [50],.str [49],.str []]) h;rcases j with _|_|_|_|j
 ·cases hx;exact⟨some 49,H',hs,h'⟩
 ·cases hx;exact⟨some 50,H',hs,h'⟩
 ·cases hx;exact⟨some 49,H',hs,h'⟩
 ·cases hx;exact⟨none,H',hs,h'⟩
 ·cases hx
theorem vg{K:Nat}(h0:0<K)(hK:K≤6){a:PR}(h:SG a):∃(i:Nat)(b:PR),i<K∧SG b∧HO 3 (.lst ((List.range K).map ni)) a (ni i) b:=by obtain⟨j,x,H',hs,hx,hj,h'⟩:=iV (l:=(List.range K).map ni) h (by rw[aU,oT];exact h0) (by rw[aU,oT];exact aJ hK (by decide));rw[aU,oT] at hj;rw[cJ,oS,List.getElem?_range hj] at hx;cases hx;exact⟨j,H',hj,hs,h'⟩
section
variable{n:Nat}{i:Nat}{f:Int}
theorem WL{t0:Option Nat}{a0 a1 a2 a3 a4:PR}(h0:HT n 4 a0 0 a1)(h1:HO n jw a1 (.str (tO t0)) a2)(h2:HO n (.lst [ni 0,ni 1,ni 2]) a2 (ni i) a3)(h3:HT n 3 a3 f a4)(b0:BW a0)(b1:BW a1)(b2:BW a2)(b3:BW a3)(b4:BW a4):aS (n+60) (gf 1333) [.loc 1] (l2 a0) (.v (.tup [wW [t0] i (1+f),cx [t0] i (1+f) 3 i])) (l2 a4):=by refine br (n:=n) (k:=40) [.grd,.call 1271 (vi 0) (l2 a1),.grd,.call 1278 (.v (.str (tO t0))) (l2 a2),.grd,.call 1278 (.v (ni i)) (l2 a3),.grd,.call 1271 (vi f) (l2 a4)] (qI b0<|qI h0<|qI b1<|qI h1<|qI b2<|qI h2<|qI b3<|qI h3<|qI b4<|qZ) ?_ (by omega);clear b0 h0 b1 h1 b2 h2 b3 h3 b4;rcases t0 with _|c0<;>kernel_rfl
theorem WM{t0 t1:Option Nat}{a0 a1 a2 a3 a4 a5:PR}(h0:HT n 4 a0 1 a1)(h1:HO n jw a1 (.str (tO t0)) a2)(h2:HO n jw a2 (.str (tO t1)) a3)(h3:HO n (.lst [ni 0,ni 1,ni 2,ni 3]) a3 (ni i) a4)(h4:HT n 3 a4 f a5)(b0:BW a0)(b1:BW a1)(b2:BW a2)(b3:BW a3)(b4:BW a4)(b5:BW a5):aS (n+60) (gf 1333) [.loc 1] (l2 a0) (.v (.tup [wW [t0,t1] i (1+f),cx [t0,t1] i (1+f) 3 i])) (l2 a5):=by refine br (n:=n) (k:=40) [.grd,.call 1271 (vi 1) (l2 a1),.grd,.call 1278 (.v (.str (tO t0))) (l2 a2),.grd,.call 1278 (.v (.str (tO t1))) (l2 a3),.grd,.call 1278 (.v (ni i)) (l2 a4),.grd,.call 1271 (vi f) (l2 a5)] (qI b0<|qI h0<|qI b1<|qI h1<|qI b2<|qI h2<|qI b3<|qI h3<|qI b4<|qI h4<|qI b5<|qZ) ?_ (by omega);clear b0 h0 b1 h1 b2 h2 b3 h3 b4 h4 b5;rcases t0 with _|c0<;>rcases t1 with _|c1<;>kernel_rfl
theorem WN{t0 t1 t2:Option Nat}{a0 a1 a2 a3 a4 a5 a6:PR}(h0:HT n 4 a0 2 a1)(h1:HO n jw a1 (.str (tO t0)) a2)(h2:HO n jw a2 (.str (tO t1)) a3)(h3:HO n jw a3 (.str (tO t2)) a4)(h4:HO n (.lst [ni 0,ni 1,ni 2,ni 3,ni 4]) a4 (ni i) a5)(h5:HT n 3 a5 f a6)(b0:BW a0)(b1:BW a1)(b2:BW a2)(b3:BW a3)(b4:BW a4)(b5:BW a5)(b6:BW a6):aS (n+60) (gf 1333) [.loc 1] (l2 a0) (.v (.tup [wW [t0,t1,t2] i (1+f),cx [t0,t1,t2] i (1+f) 3 i])) (l2 a6):=by refine br (n:=n) (k:=40) [.grd,.call 1271 (vi 2) (l2 a1),.grd,.call 1278 (.v (.str (tO t0))) (l2 a2),.grd,.call 1278 (.v (.str (tO t1))) (l2 a3),.grd,.call 1278 (.v (.str (tO t2))) (l2 a4),.grd,.call 1278 (.v (ni i)) (l2 a5),.grd,.call 1271 (vi f) (l2 a6)] (qI b0<|qI h0<|qI b1<|qI h1<|qI b2<|qI h2<|qI b3<|qI h3<|qI b4<|qI h4<|qI b5<|qI h5<|qI b6<|qZ) ?_ (by omega);clear b0 h0 b1 h1 b2 h2 b3 h3 b4 h4 b5 h5 b6;rcases t0 with _|c0<;>rcases t1 with _|c1<;>rcases t2 with _|c2<;>kernel_rfl
noncomputable def WP{t0 t1 t2 t3:Option Nat}{a0 a1 a2 a3 a4 a5 a6 a7:PR}(h0:HT n 4 a0 3 a1)(h1:HO n jw a1 (.str (tO t0)) a2)(h2:HO n jw a2 (.str (tO t1)) a3)(h3:HO n jw a3 (.str (tO t2)) a4)(h4:HO n jw a4 (.str (tO t3)) a5)(h5:HO n (.lst [ni 0,ni 1,ni 2,ni 3,ni 4,ni 5]) a5 (ni i) a6)(h6:HT n 3 a6 f a7)(b0:BW a0)(b1:BW a1)(b2:BW a2)(b3:BW a3)(b4:BW a4)(b5:BW a5)(b6:BW a6)(b7:BW a7):PLift (aS (n+60) (gf 1333) [.loc 1] (l2 a0) (.v (.tup [wW [t0,t1,t2,t3] i (1+f),cx [t0,t1,t2,t3] i (1+f) 3 i])) (l2 a7)):=by refine(λK:PLift _=>⟨br (n:=n) (k:=40) [.grd,.call 1271 (vi 3) (l2 a1),.grd,.call 1278 (.v (.str (tO t0))) (l2 a2),.grd,.call 1278 (.v (.str (tO t1))) (l2 a3),.grd,.call 1278 (.v (.str (tO t2))) (l2 a4),.grd,.call 1278 (.v (.str (tO t3))) (l2 a5),.grd,.call 1278 (.v (ni i)) (l2 a6),.grd,.call 1271 (vi f) (l2 a7)] (qI b0<|qI h0<|qI b1<|qI h1<|qI b2<|qI h2<|qI b3<|qI h3<|qI b4<|qI h4<|qI b5<|qI h5<|qI b6<|qI h6<|qI b7<|qZ) K.down (by omega)⟩) ?_;clear b0 h0 b1 h1 b2 h2 b3 h3 b4 h4 b5 h5 b6 h6 b7;rcases t0 with _|c0<;>rcases t1 with _|c1<;>exact⟨by rcases t2 with _|c2<;>rcases t3 with _|c3<;>kernel_rfl⟩
end
theorem Oj{a:PR}(h:SG a):∃(ts:List (Option Nat))(i:Nat)(po:Int)(b:PR),eZ ts∧i<ts.length+2∧0<po∧po≤3∧SG b∧aS 70 (gf 1333) [.loc 1] (l2 a) (.v (.tup [wW ts i po,cx ts i po 3 i])) (l2 b):=by
 obtain⟨fig,H1,s1,g0,g1,h0⟩:=fn (top:=4) h;have h0:=h0.mono (k:=10);have:fig=0∨fig=1∨fig=2∨fig=3:=c4 g0 g1;rcases this with rfl|rfl|rfl|rfl
 ·obtain⟨t0,H2,s2,h1⟩:=j5 s1;obtain⟨i,H3,hi,s3,h2⟩:=vg (K:=3) (by omega) (by omega) s2;obtain⟨f,H4,s4,f0,f1,h3⟩:=fn (top:=3) s3;exact⟨[t0],i,1+f,_,⟨by show 1≤1;omega,by show 1≤4;omega⟩,hi,by omega,by omega,s4,(WL (n:=10) h0 (h1.mono) (h2.mono) (h3.mono) h.below s1.below s2.below s3.below s4.below).mono⟩
 ·obtain⟨t0,H2,s2,h1⟩:=j5 s1;obtain⟨t1,H3,s3,h2⟩:=j5 s2;obtain⟨i,H4,hi,s4,h3⟩:=vg (K:=4) (by omega) (by omega) s3;obtain⟨f,H5,s5,f0,f1,h4⟩:=fn (top:=3) s4;exact⟨[t0,t1],i,1+f,_,⟨by show 1≤2;omega,by show 2≤4;omega⟩,hi,by omega,by omega,s5,(WM (n:=10) h0 (h1.mono) (h2.mono) (h3.mono) (h4.mono) h.below s1.below s2.below s3.below s4.below s5.below).mono⟩
 ·obtain⟨t0,H2,s2,h1⟩:=j5 s1;obtain⟨t1,H3,s3,h2⟩:=j5 s2;obtain⟨t2,H4,s4,h3⟩:=j5 s3;obtain⟨i,H5,hi,s5,h4⟩:=vg (K:=5) (by omega) (by omega) s4;obtain⟨f,H6,s6,f0,f1,h5⟩:=fn (top:=3) s5;exact⟨[t0,t1,t2],i,1+f,_,⟨by show 1≤3;omega,by show 3≤4;omega⟩,hi,by omega,by omega,s6,(WN (n:=10) h0 (h1.mono) (h2.mono) (h3.mono) (h4.mono) (h5.mono) h.below s1.below s2.below s3.below s4.below s5.below s6.below).mono⟩
 ·obtain⟨t0,H2,s2,h1⟩:=j5 s1;obtain⟨t1,H3,s3,h2⟩:=j5 s2;obtain⟨t2,H4,s4,h3⟩:=j5 s3;obtain⟨t3,H5,s5,h4⟩:=j5 s4;obtain⟨i,H6,hi,s6,h5⟩:=vg (K:=6) (by omega) (by omega) s5;obtain⟨f,H7,s7,f0,f1,h6⟩:=fn (top:=3) s6;exact⟨[t0,t1,t2,t3],i,1+f,_,⟨by show 1≤4;omega,by show 4≤4;omega⟩,hi,by omega,by omega,s7,(WP (n:=10) h0 (h1.mono) (h2.mono) (h3.mono) (h4.mono) (h5.mono) (h6.mono) h.below s1.below s2.below s3.below s4.below s5.below s6.below s7.below).down.mono⟩
end
section
theorem QQ{c:Int}{l:List AV}:∀st,cj .NotEq (.v (.lst (.int c::l))) (.v (.lst [])) st=.ok (vb true) st:=λst=>rfl
theorem K9{c:Int}{l:List AV}:∀st,cj .Eq (.v (.lst (.int c::l))) (.v (.lst [])) st=.ok (vb false) st:=λst=>rfl
theorem Jd{c:Int}{l:List AV}:∀st,bH (.v (.lst (.int c::l))) (vi 0) st=.ok (vi c) st:=λst=>rfl
theorem SI{i j:Int}:∀st,Bf.f .max [vi i,vi j] st=.ok (vi (if j>i then j else i)) st:=λst=>rfl
theorem SD{b:Bool}:∀st,Bf.f .int [vb b] st=.ok (vi (if b then 1 else 0)) st:=λst=>rfl
noncomputable def si:List Int:=[2,1,0,1,1,0,3,5,2,0,3,0]
noncomputable def ov:List ac:=[.lst (si.map λi=>.v (.int i))]
theorem Ob:aS 5 (gf 1264) [.v (.lst []),.loc 0] ov (.loc 1) (dB si 0 (((17:Int)*48271).fmod 2147483647) (.loc 0)):=br (n:=0) (k:=4) [] qZ
noncomputable def eR(c:Int):Int:=if-1-c>c then-1-c else c
theorem Oc{c:Int}{l:List AV}:aS 5 (gf 1264) [.v (.lst (.int c::l)),.loc 0] ov (.loc 1) (dB si (eR c*(if decide (eR c≥1000000000000000000) then 1 else 0)) ((((eR c).fmod 2147483629+17)*48271).fmod 2147483647) (.v (.lst []))):=br (n:=0) (k:=4) [.prim (vb true),.cond true,.sb (vi c),.bop (vi (-1-c)),.prim (vi (eR c)),.bop (vi ((eR c).fmod 2147483629)),.bop (vi ((eR c).fmod 2147483629+17)),.bop (vi (((eR c).fmod 2147483629+17)*48271)),.bop (vi ((((eR c).fmod 2147483629+17)*48271).fmod 2147483647)),
   .prim (vb (decide (eR c≥1000000000000000000))),.prim (vi (if decide (eR c≥1000000000000000000) then 1 else 0)),.bop (vi (eR c*(if decide (eR c≥1000000000000000000) then 1 else 0))),.prim (vb false),.cond false]
  (λ_ zz=>au (QQ (c:=c) (l:=l))<|au (rfl:true=true)<|au (Jd (c:=c) (l:=l))<|au (gY (i:= -1) (j:=c))<|au (SI (i:=c) (j:= -1-c))<|au (jo (i:=eR c) (j:=2147483629) (by decide))<|au (pM (i:=(eR c).fmod 2147483629) (j:=17))<|
   au (bh (i:=(eR c).fmod 2147483629+17) (j:=48271) (by decide))<|au (jo (i:=((eR c).fmod 2147483629+17)*48271) (j:=2147483647) (by decide))<|au (zC (i:=eR c) (j:=1000000000000000000))<|au (SD (b:=decide (eR c≥1000000000000000000)))<|
   au (bh (i:=eR c) (j:=if decide (eR c≥1000000000000000000) then 1 else 0) (by split<;>decide))<|au (K9 (c:=c) (l:=l))<|au (rfl:false=false)<|zz)
theorem Oa(ns:List Int):∃b:PR,SG b∧aS 5 (gf 1264) [.v (.lst (ns.map .int)),.loc 0] ov (.loc 1) (l2 b):=by
 rcases ns with _|⟨c,l⟩
 ·exact⟨(_,_),je.row si _ _ (by decide),Ob⟩
 ·exact⟨(_,_),je.none si _ _ (by decide),Oc⟩
theorem zT(k:Nat)(x:Int):cb (k+1) (.int x) (.int x)=some true:=congrArg some (cD rfl)
theorem F5(k:Nat):∀l:List Nat,fh (cb (k+1)) (l.map ni) (l.map ni)=some true
 |[]=>rfl
 |x::l=>by have h1:cb (k+1) (ni x) (ni x)=some true:=zT k _;show((cb (k+1) (ni x) (ni x)).bind λx=>(fh (cb (k+1)) (l.map ni) (l.map ni)).bind λy=>some (x&&y))=_;rw[h1,F5 k l];rfl
theorem uS{v:AV}(h:cb 8 v v=some true):∀st,cj .NotEq (.v v) (.v v) st=.ok (vb false) st:=λst=>by show aj (n8 (cb 8 v v)) (λt=>aI (RV.v (.bool t))) st=_;rw[h];rfl
theorem T7(p q:Int):cb 8 (nu p q) (nu p q)=some true:=by show((cb 7 (.int p) (.int p)).bind λx=>((cb 7 (.int q) (.int q)).bind λx=>(some true).bind λy=>some (x&&y)).bind λy=>some (x&&y))=some true;rw[zT,zT];rfl
theorem T5(b:Bool):cb 8 (.bool b) (.bool b)=some true:=by cases b<;>rfl
theorem T8(s:List Nat):cb 8 (.str s) (.str s)=some true:=congrArg some (cD rfl)
theorem T6(l:List Nat):cb 8 (.lst (l.map ni)) (.lst (l.map ni))=some true:=by show cond (Nat.beq (l.map ni).length (l.map ni).length) (fh (cb 7) (l.map ni) (l.map ni)) (some false)=some true;rw[A3,F5];rfl
theorem tU{i:Nat}{po:Int}:∀st,qP (.v (.tup [ni i,.int po,.int 3,fY])) (.v (.tup [ni i,.int po,.int 3,fY])) st=.ok (vb false) st:=λst=>by show aK (decide (Int.ofNat i=Int.ofNat i)&&decide (po=po)&&decide ((3:Int)=3)&&_&&_&&_&&_&&_) (aI (RV.v (.bool false))) st=_;rw[cD (rfl:Int.ofNat i=Int.ofNat i),cD (rfl:po=po)];rfl
noncomputable def iF:List AV:=[ez eo,bv eo [],bg [124] (ez [115]) (ez [116]),nC (cZ (nu 1 1)) [],cr (kL [120]) [bC jt fV (.tup [])],bv lX [kL []],bg jJ (bv fL []) (ez eo)]
end
section
noncomputable def nY(sc:AV)(ts:List (Option Nat))(i:Nat)(po:Int)(e v:AV)(rr:PR):St:=⟨[some (.v sc),some (.loc 1),some (.v (wW ts i po)),some (.v (cx ts i po 3 i)),some (.v e),some (.v v),some (.v (.tup [ni i,.int po,.int 3,fY])),some (.v v),some (.loc 3)],[rr.1,rr.2,.lst ((iF.take 3).map .v),.lst (iF.map .v)]⟩
section
variable{n:Nat}{sc:AV}{oo pp qq rr:PR}{ts:List (Option Nat)}{i:Nat}{po:Int}{e:Ex}
theorem Qy{p q:Int}(h1:aS n (gf 1264) [.v sc,.loc 0] ov (.loc 1) (l2 oo))(h2:aS n (gf 1333) [.loc 1] (l2 oo) (.v (.tup [wW ts i po,cx ts i po 3 i])) (l2 pp))(h3:HT n 4 pp 0 qq)
  (h4:HG n 1292 (wW ts i po) 3 qq e.av (nu p q) rr)(h5:HV n e.av (cx ts i po 3 i) (nu p q))(h6:∀st,cj .NotEq (.v (nu p q)) (.v (nu p q)) st=.ok (vb false) st){m:Nat}(hm:n+20≤m):
  aP (fo m) (ju kh) ⟨[some (.v sc),none,none,none,none,none,none,none,none],[]⟩=.ok .next (nY sc ts i po e.av (nu p q) rr):=lr (n:=n) (k:=20) [.call 1264 (.loc 1) (l2 oo),.call 1333 (.v (.tup [wW ts i po,cx ts i po 3 i])) (l2 pp),.call 1271 (vi 0) (l2 qq),.call 1292 (.v (.tup [e.av,nu p q])) (l2 rr),.call 1003 (.v (nu p q)) [],.prim (vb false),.prim (vb false),.prim (vb false),.prim (.v fY),.prim (vb false)]
  (λ_ zz=>au h1<|au h2<|au h3<|au h4<|au h5<|au h6<|au (λst=>rfl:∀st,cj .NotEq (vb false) (vb false) st=.ok (vb false) st)<|au (λst=>rfl:∀st,cj .NotEq (.v (.lst [ni 1,ni 2])) (.v (.lst [ni 1,ni 2])) st=.ok (vb false) st)<|
   au (λst=>rfl:∀st,Bf.f .dict [.v fY] st=.ok (.v fY) st)<|au (tU (i:=i) (po:=po))<|zz) (by kernel_rfl) (by omega)
theorem Qz{t:Bool}(h1:aS n (gf 1264) [.v sc,.loc 0] ov (.loc 1) (l2 oo))(h2:aS n (gf 1333) [.loc 1] (l2 oo) (.v (.tup [wW ts i po,cx ts i po 3 i])) (l2 pp))(h3:HT n 4 pp 1 qq)
  (h4:HG n 1299 (wW ts i po) 3 qq e.av (.bool t) rr)(h5:HV n e.av (cx ts i po 3 i) (.bool t))(h6:∀st,cj .NotEq (.v (.bool t)) (.v (.bool t)) st=.ok (vb false) st){m:Nat}(hm:n+20≤m):
  aP (fo m) (ju kh) ⟨[some (.v sc),none,none,none,none,none,none,none,none],[]⟩=.ok .next (nY sc ts i po e.av (.bool t) rr):=lr (n:=n) (k:=20) [.call 1264 (.loc 1) (l2 oo),.call 1333 (.v (.tup [wW ts i po,cx ts i po 3 i])) (l2 pp),.call 1271 (vi 1) (l2 qq),.call 1299 (.v (.tup [e.av,.bool t])) (l2 rr),.call 1003 (.v (.bool t)) [],.prim (vb false),.prim (vb false),.prim (vb false),.prim (.v fY),.prim (vb false)]
  (λ_ zz=>au h1<|au h2<|au h3<|au h4<|au h5<|au h6<|au (λst=>rfl:∀st,cj .NotEq (vb true) (vb true) st=.ok (vb false) st)<|au (λst=>rfl:∀st,cj .NotEq (.v (.lst [ni 1,ni 2])) (.v (.lst [ni 1,ni 2])) st=.ok (vb false) st)<|
   au (λst=>rfl:∀st,Bf.f .dict [.v fY] st=.ok (.v fY) st)<|au (tU (i:=i) (po:=po))<|zz) (by kernel_rfl) (by omega)
theorem QA{s:List Nat}(h1:aS n (gf 1264) [.v sc,.loc 0] ov (.loc 1) (l2 oo))(h2:aS n (gf 1333) [.loc 1] (l2 oo) (.v (.tup [wW ts i po,cx ts i po 3 i])) (l2 pp))(h3:HT n 4 pp 2 qq)
  (h4:HG n 1306 (wW ts i po) 3 qq e.av (.str s) rr)(h5:HV n e.av (cx ts i po 3 i) (.str s))(h6:∀st,cj .NotEq (.v (.str s)) (.v (.str s)) st=.ok (vb false) st){m:Nat}(hm:n+20≤m):
  aP (fo m) (ju kh) ⟨[some (.v sc),none,none,none,none,none,none,none,none],[]⟩=.ok .next (nY sc ts i po e.av (.str s) rr):=lr (n:=n) (k:=20) [.call 1264 (.loc 1) (l2 oo),.call 1333 (.v (.tup [wW ts i po,cx ts i po 3 i])) (l2 pp),.call 1271 (vi 2) (l2 qq),.call 1306 (.v (.tup [e.av,.str s])) (l2 rr),.call 1003 (.v (.str s)) [],.prim (vb false),.prim (vb false),.prim (vb false),.prim (.v fY),.prim (vb false)]
  (λ_ zz=>au h1<|au h2<|au h3<|au h4<|au h5<|au h6<|au (λst=>rfl:∀st,cj .NotEq (vb false) (vb false) st=.ok (vb false) st)<|au (λst=>rfl:∀st,cj .NotEq (.v (.lst [ni 1,ni 2])) (.v (.lst [ni 1,ni 2])) st=.ok (vb false) st)<|
   au (λst=>rfl:∀st,Bf.f .dict [.v fY] st=.ok (.v fY) st)<|au (tU (i:=i) (po:=po))<|zz) (by kernel_rfl) (by omega)
theorem QB{l:List AV}(h1:aS n (gf 1264) [.v sc,.loc 0] ov (.loc 1) (l2 oo))(h2:aS n (gf 1333) [.loc 1] (l2 oo) (.v (.tup [wW ts i po,cx ts i po 3 i])) (l2 pp))(h3:HT n 4 pp 3 qq)
  (h4:HG n 1321 (wW ts i po) 3 qq e.av (.lst l) rr)(h5:HV n e.av (cx ts i po 3 i) (.lst l))(h6:∀st,cj .NotEq (.v (.lst l)) (.v (.lst l)) st=.ok (vb false) st){m:Nat}(hm:n+20≤m):
  aP (fo m) (ju kh) ⟨[some (.v sc),none,none,none,none,none,none,none,none],[]⟩=.ok .next (nY sc ts i po e.av (.lst l) rr):=lr (n:=n) (k:=20) [.call 1264 (.loc 1) (l2 oo),.call 1333 (.v (.tup [wW ts i po,cx ts i po 3 i])) (l2 pp),.call 1271 (vi 3) (l2 qq),.call 1321 (.v (.tup [e.av,.lst l])) (l2 rr),.call 1003 (.v (.lst l)) [],.prim (vb false),.prim (vb false),.prim (vb false),.prim (.v fY),.prim (vb false)]
  (λ_ zz=>au h1<|au h2<|au h3<|au h4<|au h5<|au h6<|au (λst=>rfl:∀st,cj .NotEq (vb false) (vb false) st=.ok (vb false) st)<|au (λst=>rfl:∀st,cj .NotEq (.v (.lst [ni 1,ni 2])) (.v (.lst [ni 1,ni 2])) st=.ok (vb false) st)<|
   au (λst=>rfl:∀st,Bf.f .dict [.v fY] st=.ok (.v fY) st)<|au (tU (i:=i) (po:=po))<|zz) (by kernel_rfl) (by omega)
end
end
section
theorem SO{n k m:Nat}{l:XL}{st st':St}{xs:List RV}(ans:List An){Q:Prop→Prop}(h:∀D:Prop,D→Q D)
  (e:qL n (jq n k) l ans st (λy _ s1=>Rs.ok y s1=Rs.ok xs st')=Q (Rs.ok xs st'=Rs.ok xs st'))(hm:n+k≤m):cK (fo m) l st=.ok xs st':=by obtain⟨y,_,s1,e1,e2⟩:=lq (by omega) (vu n k m hm) l ans st _ (e.symm▸h _ rfl);rw[e1,e2]
section
variable{n:Nat}{sc:AV}{rr ss:PR}{ts:List (Option Nat)}{i:Nat}{po:Int}{e v x:AV}
noncomputable def yY(sc:AV)(ts:List (Option Nat))(i:Nat)(po:Int)(e v:AV):List (Option RV):=[some (.v sc),some (.loc 1),some (.v (wW ts i po)),some (.v (cx ts i po 3 i)),some (.v e),some (.v v),some (.v (.tup [ni i,.int po,.int 3,fY])),some (.v v),some (.v (.lst iF))]
theorem P8:ix 2 (nY sc ts i po e v rr).H [8] (nY sc ts i po e v rr).loc=some (yY sc ts i po e v):=by kernel_rfl
theorem PZ(h:HO n (.lst iF) rr x ss)(hb:BW rr){m:Nat}(hm:n+5≤m):cK (fo m) pD ⟨yY sc ts i po e v,[rr.1,rr.2,.gone,.gone]⟩=.ok [.v x,.v (cx ts i po 3 i)] ⟨yY sc ts i po e v,[ss.1,ss.2,.gone,.gone]⟩:=SO (n:=n) (k:=5) [.grd,.call 1278 (.v x) (l2 ss)] (qI hb<|qI h<|qZ) (by kernel_rfl) hm
theorem Ra(m:Nat):aP (fo (m+30)) g8 ⟨[some (.v (iF.getD 0 .none)),some (.v (cx ts i po 3 i))],[ss.1,ss.2,.gone,.gone]⟩=.err:=by kernel_rfl
theorem Rb(m:Nat):aP (fo (m+30)) g8 ⟨[some (.v (iF.getD 1 .none)),some (.v (cx ts i po 3 i))],[ss.1,ss.2,.gone,.gone]⟩=.err:=by kernel_rfl
theorem Rd(m:Nat):aP (fo (m+30)) g8 ⟨[some (.v (iF.getD 2 .none)),some (.v (cx ts i po 3 i))],[ss.1,ss.2,.gone,.gone]⟩=.err:=by kernel_rfl
theorem Re(m:Nat):aP (fo (m+30)) g8 ⟨[some (.v (iF.getD 3 .none)),some (.v (cx ts i po 3 i))],[ss.1,ss.2,.gone,.gone]⟩=.err:=by kernel_rfl
theorem Rf(m:Nat):aP (fo (m+30)) g8 ⟨[some (.v (iF.getD 4 .none)),some (.v (cx ts i po 3 i))],[ss.1,ss.2,.gone,.gone]⟩=.err:=by kernel_rfl
theorem Rg(m:Nat):aP (fo (m+30)) g8 ⟨[some (.v (iF.getD 5 .none)),some (.v (cx ts i po 3 i))],[ss.1,ss.2,.gone,.gone]⟩=.err:=by kernel_rfl
theorem Rh(m:Nat):aP (fo (m+30)) g8 ⟨[some (.v (iF.getD 6 .none)),some (.v (cx ts i po 3 i))],[ss.1,ss.2,.gone,.gone]⟩=.err:=by kernel_rfl
theorem Q9{j:Nat}{x:AV}(hx:ae iF j=some x)(hj:j<7){m:Nat}(hm:30≤m):aP (fo m) g8 ⟨[some (.v x),some (.v (cx ts i po 3 i))],[ss.1,ss.2,.gone,.gone]⟩=.err:=by
 obtain⟨k,rfl⟩:∃k,m=k+30:=⟨m-30,by omega⟩;rcases j with _|_|_|_|_|_|_|j
 ·cases hx;exact Ra k
 ·cases hx;exact Rb k
 ·cases hx;exact Rd k
 ·cases hx;exact Re k
 ·cases hx;exact Rf k
 ·cases hx;exact Rg k
 ·cases hx;exact Rh k
 ·omega
end
theorem uL{sc:AV}{ts:List (Option Nat)}{i:Nat}{po:Int}{e v:AV}{rr:PR}(hs:SG rr){i4:St}(h:∀m,160≤m→aP (fo m) (ju kh) i4=.ok .next (nY sc ts i po e v rr)):
  ∃(st' st'':St)(loc':List (Option RV))(x c:AV),(∀m,160≤m→aP (fo m) (ju kh) i4=.ok .next st')∧ix 2 st'.H [8] st'.loc=some loc'∧(∀m,160≤m→cK (fo m) pD ⟨loc',fD 2 st'.H⟩=.ok [.v x,.v c] st'')∧(∀m,160≤m→aP (fo m) g8 ⟨[some (.v x),some (.v c)],st''.H⟩=.err):=by obtain⟨j,x,H',hs',hx,hj,h1⟩:=iV (l:=iF) hs;have hj:j<7:=hj;exact⟨_,_,_,x,cx ts i po 3 i,h,P8,λm hm=>PZ h1 hs.below (by omega),λm hm=>Q9 hx hj (by omega)⟩
theorem Qb(ns:List Int):∃(st' st'':St)(loc':List (Option RV))(x c:AV),(∀m,160≤m→aP (fo m) (ju kh) ⟨[some (.v (.lst (ns.map .int))),none,none,none,none,none,none,none,none],[]⟩=.ok .next st')∧ix 2 st'.H [8] st'.loc=some loc'∧
  (∀m,160≤m→cK (fo m) pD ⟨loc',fD 2 st'.H⟩=.ok [.v x,.v c] st'')∧(∀m,160≤m→aP (fo m) g8 ⟨[some (.v x),some (.v c)],st''.H⟩=.err):=by
 obtain⟨H1,s1,h1⟩:=Oa ns;obtain⟨ts,i,po,H2,R,hi,p0,p3,s2,h2⟩:=Oj s1;obtain⟨fig,H3,s3,g0,g1,h3⟩:=fn (top:=4) s2;have h1:=h1.mono (k:=130);have h2:=h2.mono (k:=130);have h3:=h3.mono (k:=130);have:fig=0∨fig=1∨fig=2∨fig=3:=c4 g0 g1;rcases this with rfl|rfl|rfl|rfl
 ·obtain⟨e,p,q,H4,s4,_,_,_,h4,h5⟩:=NE R hi p0 p3 _ s3;exact uL s4 λm hm=>Qy h1 h2 h3 (h4.mono) (h5.mono) (uS (T7 p q)) (by omega)
 ·obtain⟨e,b,H4,s4,h4,h5⟩:=NH R hi p0 p3 _ s3;exact uL s4 λm hm=>Qz h1 h2 h3 (h4.mono) (h5.mono) (uS (T5 b)) (by omega)
 ·obtain⟨e,s,H4,s4,_,h4,h5⟩:=NM R hi p0 p3 _ s3;exact uL s4 λm hm=>QA h1 h2 h3 (h4.mono) (h5.mono) (uS (T8 s)) (by omega)
 ·obtain⟨c,fs,l,H4,_,s4,_,h4,h5⟩:=ND R hi _ s3;exact uL s4 λm hm=>QB (e:=(c,fs)) h1 h2 h3 (h4.mono) (h5.mono) (uS (T6 l)) (by omega)
end
section
open PySem.SeqAt
theorem U9(P:Params):(H1 P).get? 195=some (tabObj #[]):=by kernel_rfl
theorem Va(P:Params):(H1 P).get? 965=some (tabObj #[]):=by kernel_rfl
theorem UW(P:Params):(match(H1 P).get? 1 with
 |some ⟨.type t,_,_,_⟩=>t=="list"
 |_=>false)=false:=by kernel_rfl
theorem vf{w:World}{h h' base:Heap}(Y:qk w h){T c:Addr}{q:Str}{ps:Pos}(e0:h.get? T=some (tabObj #[]))(C:CodeHd (H1 w.params) c T)(t:eF base (λ_=>False) T q ps)(st:base.StaysIn h'):(∀o,h.get? T=some o→asItWas h h' T o)∧∃o',h'.get? T=some o':=by
 obtain⟨o,vs,_,_,_,_,_,_,_,e,hc,hd,h11,_⟩:=C;cases t with
 |nil t=>exact⟨λo z=>by rw[e0] at z;cases z;exact .inl (st _ _ t),_,st _ _ t⟩
 | @one c' o' vs' t' q1 _ _ _ _=>refine⟨λo z=>?_,_,st _ _ q1⟩;rw[e0] at z;cases z;refine .inr (.inl ⟨⟨c,_,vs,Y _ _ e,hc,hd,h11⟩,rfl,#[],#[rawInt ps.line,rawInt ps.col,.ref c'],rfl,?_⟩);rw[Array.empty_append];exact st _ _ q1
theorem PY:wc:=λw s l vs ns Y hgen SA hno=>by
 have b:dH w s.heap:=⟨Y,hno⟩;have OO:∀n,eY w s.heap n (fo n):=C8 b λn f O args H=>Ji b O args H;have t195:=Y _ _ (U9 w.params);have t965:=Y _ _ (Va w.params);obtain⟨o1,ho1⟩:=Option.isSome_iff_exists.mp (vP w.params);have ho1:=Y _ _ ho1;have nol:∀b,¬bn ([]:Sp) ([]:List ac) b:=λb z=>z.elim λi x=>x.on λp o e _ _ _=>nomatch e;have hax:∀b,HA (λ_=>False) ([]:Sp) ([]:List ac) b→vQ b:=λb z=>z.elim (λz=>z.elim) λz=>z.elim id λz=>(nol b z).elim
 have G:HR w.params s.heap (λ_=>False) s.heap [] []:=by
  refine⟨λb o e _=>e,λb o e _=>⟨id,nol b⟩,⟨.nil t195,.nil t965⟩,λb z=>?_,rfl,λi a e=>(nomatch e),λi a o e _=>(nomatch e),λi j b x=>(nol b ⟨i,x⟩).elim,λb z=>(nol b z).elim⟩;rcases hax b z with(rfl|rfl)|rfl
  ·exact b9 t195
  ·exact b9 t965
  ·exact b9 ho1
 have nl:¬HA (λ_=>False) ([]:Sp) ([]:List ac) l:=λz=>by
  have e:=SA.lst;rcases hax l z with(rfl|rfl)|rfl
  ·rw[t195] at e;cases e
  ·rw[t965] at e;cases e
  ·have n:=UW w.params;obtain⟨oz,hz⟩:=Option.isSome_iff_exists.mp (vP w.params);rw[hz] at n;have:=Y _ _ hz;have e:s.heap.get? 1=some _:=e;rw[this] at e;cases e;cases n
 have va:a9 w.params s.heap (HA (λ_=>False) [] []) [] [.ref l] [.v (.lst (ns.map .int))]:=Z2.cons (VR.lst SA.lst nl (DP SA.nums)) Z2.nil;obtain⟨st',st'',loc',x,c,r1,r2,r3,r4⟩:=Qb ns;have rm0:Rm (200+1) callerA:=⟨by decide+kernel,by decide+kernel,rfl⟩;refine lK (qY (A:=callerA) (fr:=[]) (n:=200) (s:=s) (tk:=s.toks) b (d:=iv) (KB _) rfl rm0 rfl (λ_ m=>nomatch m) G va λenv hh tk I R0=>?_);have kk:∀x,env.kindOf x=iv.kd x:=λx=>by unfold Env.kindOf;rw[show env.scope=iv.fd.scope from I.sc];rfl
 have GS:dJ (fo 200) 2 (bZ w s.heap (λ_=>False) s.heap hh env [] ([]:List ac).length 200) iv.kd:=⟨⟨I.ek,kk,OO 200,λx e=>(I.ci x ((kk x).trans e)).imp λc z=>z.1⟩,I.ci,f9 _,b⟩;have ar:AR (bZ w s.heap (λ_=>False) s.heap hh env [] ([]:List ac).length 200) (callerA.deeper env):=⟨rm0.deeper env,I.fr⟩;unfold mO;rw[PV];refine Fn kh GS PX (K:=λst=>st=st') (s:=s) ar R0 (by
  show bO (aP (fo 200) (ju kh) ⟨[some (.v (.lst (ns.map .int))),none,none,none,none,none,none,none,none],[]⟩) _;rw[r1 200 (by decide)];exact⟨rfl,rfl⟩) λh1 M1 σ1 tk1 o1 hK=>?_
 subst hK;have o2:=o1.r.fz I.ek (g:=2) (f9 _) r2;have ca:=aA PW;have hpl:gC lw.args env:=j6 ca.2;have N:eW (bZ w s.heap (λ_=>False) s.heap hh env [] ([]:List ac).length 200) (Str.ofString "_law_refused") (.ref 1340):=iT GS.toGd P9 (Qa _);refine kg (vW (wpAny_Call_Name_kw (j0 I.ek (s:=Sh s h1 tk1) N (o2.r.K I.ek) ?_)))
 have hplain:((backTo lw.cp (starEach lw.args env)).any (·.1)||([]:List (Option Str×Sem Value)).any (·.1.isNone))=false:=(sW _).trans (List.any_eq_false.mpr λx m=>by rw[kH (cx:=bZ w s.heap (λ_=>False) s.heap hh env [] ([]:List ac).length 200) hpl] at m;obtain⟨e,_,rfl⟩:=List.mem_map.mp m;exact jy)
 refine BV (P:=(KF w.params).In) hplain (keeps_K (C6 P7)) (kM (cx:=bZ w s.heap (λ_=>False) s.heap hh env [] ([]:List ac).length 200) hpl ((sL pD GS.toGd ca.1 lw.cp) ⟨h1,M1,⟨loc',fD 2 σ1.H⟩⟩ (callerA.deeper env) s tk1 _ _ ar o2.r ?_));show aC _ _ _ s _ (cK (fo 200) pD ⟨loc',fD 2 σ1.H⟩) _ _;rw[r3 200 (by decide)];intro us h3 M3 tk3 o3 uv;refine⟨o3.r.K I.ek,?_⟩;have ln:M3.length=st''.H.length:=o3.r.toHR.len;have F3:=o3.r.frsO M3.length;rw[show(⟨h3,M3,st''⟩:Pt).M.take M3.length=M3 from AX,show(⟨h3,M3,st''⟩:Pt).σ.H.take M3.length=st''.H by rw[ln];exact AX] at F3;refine lK (S1 b (OO 199) (X:=(bZ w s.heap (λ_=>False) s.heap hh env [] ([]:List ac).length 200).X) (M:=M3) (H:=st''.H) (n:=199) (s:=s) ar.rm ar.fr F3 o3.r.toHR uv (r4 199 (by decide)) λh4 tk4⟨base,k1,k2,k3⟩=>?_);refine⟨rfl,⟨λb' o e=>?_,λb' o e=>?_⟩,rfl,hgen⟩
 ·by_cases z:cX b'
  ·rcases z with rfl|rfl
   ·exact(vf Y t195 (xv _) k2.t0 k3).1 o e
   ·exact(vf Y t965 (xw _) k2.t1 k3).1 o e
  ·exact .inl (k3 _ _ (k1 b' o e z))
 ·by_cases z:cX b'
  ·rcases z with rfl|rfl
   ·exact(vf Y t195 (xv _) k2.t0 k3).2
   ·exact(vf Y t965 (xw _) k2.t1 k3).2
  ·exact⟨o,k3 _ _ (k1 b' o e z)⟩
theorem YE:PySem.Challenge.rw_on0202_01.Holds:=hd PY
end
end Mine.Internal
end
theorem PySem.Challenge.cw_on0202_01_holds : PySem.Challenge.rw_on0202_01.Holds :=
 Mine.Internal.YE
