import PyProof.Rows.All
import Wide.All
import OpenK.AllK
import Wide.FinOn
import Lean
import PySem.Challenge.RW_nn0394_01
set_option Elab.async false
set_option maxRecDepth 100000
set_option linter.all false
set_option compiler.extract_closed false
set_option genSizeOf false
set_option genInjectivity false
noncomputable section
namespace Mine.Internal
def À:=@Nat.le_trans
def Á:=@PySem.wpAny_bind
def Â:=@List.length_map
def Ã:=@List.length_append
def Ä:=@Option.some.inj
def Å:=@Nat.le_refl
def Æ:=@List.append_assoc
def Ç:=@List.getElem?_eq_getElem
def È:=@congrArg
def É:=@List.all_eq_true
def Ê:=@PySem.wpAny_pure
def Ë:=@Nat.add_le_add
def Ì:=@Nat.succ_le_succ
def Í:=@Nat.lt_of_le_of_lt
def Î:=@if_pos
def Ï:=@Nat.le_add_right
def Ð:=@Bool.and_eq_true
def Ñ:=@if_neg
def Ò:=@Nat.mul_le_mul_left
def Ó:=@Nat.le_of_ble_eq_true
def Ô:=@List.mem_singleton
def Õ:=@List.getElem?_eq_some_iff
def Ö:=@List.mem_range
def Ø:=@PySem.Heap.get?_push_of_some
def Ù:=@beq_eq_false_iff_ne
def Ú:=@List.map_append
def Û:=@List.mem_cons
def Ü:=@List.getElem?_map
def Ý:=@Nat.add_le_add_left
def Þ:=@List.mem_map
def ß:=@List.map_cons
def à:=@List.append_nil
def á:=@Bool.not_eq_true'
def â:=@List.contains_iff_mem
def ã:=@List.length_drop
def ä:=@PySem.wpAny_holding
def å:=@Nat.le_succ
def æ:=@Nat.lt_of_lt_of_le
def è:=@beq_iff_eq
def é:=@Nat.lt_succ_self
def ê:=@PySem.wpAny_mono
def ë:=@PySem.Heap.get?_push_size
def í:=@Nat.le_of_lt
def î:=@Nat.ne_of_lt
def ï:=@Int.ofNat_lt
def ð:=@Nat.le_of_eq
def ñ:=@List.getElem?_set_ne
def ò:=@PySem.wpAny_standAt
def ó:=@Bool.false_ne_true
def ô:=@beq_self_eq_true
def õ:=@List.map_map
def ö:=@List.mem_append
def ù:=@List.getD_eq_getElem?_getD
def û:=@List.not_mem_nil
def ý:=@Nat.zero_le
def þ:=@Nat.add_assoc
def ÿ:=@List.getElem?_append_left
def Ā:=@of_decide_eq_true
def ā:=@PySem.Heap.lt_size
def Ă:=@List.suffix_cons
def ă:=@PySem.Heap.get?_update_self
def Ą:=@Nat.lt_trans
def ą:=@Nat.add_comm
def Ć:=@Option.map_eq_some_iff
def Ĉ:=@List.mem_append_left
def Ċ:=@List.length_cons
def ċ:=@decide_eq_true_eq
def Č:=@List.size_toArray
def đ:=@List.suffix_refl
def ĕ:=@List.contains_cons
def Ė:=@List.getElem?_toArray
def ě:=@Nat.add_le_add_right
def Ĝ:=@Option.isNone_iff_eq_none
def Ğ:=@Nat.le_add_left
def ğ:=@List.nil_append
def Ġ:=@List.length_set
def ġ:=@PySem.Heap.get?_update_other
def ī:=@Bool.and_false
def Ĭ:=@Nat.add_right_comm
def ĭ:=@List.getElem?_append_right
def į:=@List.lookup_cons
def İ:=@List.isEmpty_map
def ı:=@Nat.lt_of_succ_lt_succ
def ĵ:=@Nat.le_of_succ_le
def Ķ:=@List.eq_nil_of_length_eq_zero
def ļ:=@List.mem_append_right
def Ľ:=@Nat.zero_add
def ľ:=@Int.ofNat_le
def Ŀ:=@List.length_nil
def Ł:=@Nat.not_lt
def ł:=@Int.natCast_nonneg
def Ŋ:=@List.cons.inj
def ŋ:=@bne_iff_ne
def Ō:=@Nat.sub_le
def ō:=@Int.toNat_natCast
def Ŏ:=@Bool.or_eq_true_iff
def Ŕ:=@List.getLast?_eq_none_iff
def ŕ:=@PySem.wpAny_newObj_type
def Ŗ:=@List.take_append_drop
def ř:=@List.isEmpty_iff
def Ś:=@Int.add_sub_cancel
def ś:=@Bool.false_eq_true
def Ŝ:=@Nat.lt_or_ge
def Ť:=@Int.not_lt
def ť:=@Bool.or_eq_true
def Ŭ:=@List.drop_eq_nil_of_le
def ŭ:=@List.getElem?_concat_length
def ű:=@List.length_take
def Ų:=@List.getElem_mem
def Ÿ:=@PySem.arm_eval_Call_Name'
def Ź:=@Nat.add_sub_cancel
def ź:=@PySem.Calls.Name_function_global
def Ż:=@List.isPrefixOf_iff_prefix
def ag:=@Nat.min_eq_left
def ah:=@List.foldl_cons
def aj:=@Nat.le_succ_of_le
def ak:=@Nat.le_of_lt_succ
def aq:=@Nat.lt_irrefl
def ay:=@List.reverse_append
def az:=@List.map_congr_left
def aA:=@List.length_reverse
def aB:=@List.dropWhile_cons
def aC:=@PySem.Around.under_plainId
def aD:=@PySem.F.plainAttrs_list
def aE:=@Nat.add_sub_cancel_left
def aF:=@Int.eq_ofNat_of_zero_le
def aN:=@PySem.Value.ref.inj
def aW:=@Int.le_refl
def aX:=@Nat.sub_add_cancel
def aY:=@List.length_range'
def bc:=@PySem.wpAny_call_entry
def be:=@decide_eq_false
def bf:=@Nat.not_lt_zero
def bg:=@List.nodup_cons
def bH:=@List.singleton_append
def bI:=@Ne.symm
def bJ:=@Nat.lt_succ_of_lt
def bK:=@List.length_range
def bV:=@decide_eq_true
def bW:=@PySem.codeAny_builtin
def bX:=@List.mem_of_getElem?
def bZ:=@List.cons_append
def cj:=@List.getElem_of_mem
def ck:=@List.append_toArray
def cm:=@PyProof.Rows.F.plain_set_update_loop
def cE:=@or_false
def cF:=@Int.ofNat.inj
def cG:=@PySem.Heap.size_push
def cQ:=@Bool.eq_iff_iff
def cX:=@And.intro
def cY:=@Nat.lt_add_of_pos_right
def c6:=@PySem.Heap.get?_update_ne
def dD:=@Nat.ne_of_gt
def dE:=@List.map_nil
def dF:=@Int.ediv_one
def dG:=@Nat.lt_succ_of_le
def dH:=@List.reverse_cons
def dI:=@List.mem_range'_1
def ey:=@PySem.wpAny_callSpecial?_slot
def ez:=@List.dropLast_sublist
def eA:=@Nat.sub_sub_self
def eB:=@Nat.lt_of_not_le
def eC:=@List.take_length
def eE:=@List.mem_toArray
def eF:=@List.getElem_map
def eG:=@List.drop_suffix
def eH:=@List.append_cons
def fq:=@PySem.wpAny_setField
def ft:=@PySem.getMethod_builtin
def fu:=@List.mem_of_getLast?
def fv:=@List.length_take_le'
def fw:=@Bool.or_eq_false_iff
def f5:=@List.mem_filter
def gm:=@List.replicate_succ
def gn:=@List.length_zipWith
def gp:=@List.filterMap_cons
def gq:=@Int.toNat_of_nonneg
def gu:=@if_true
def gv:=@PySem.wpAny_call
def gx:=@PySem.strKind_is
def gy:=@PySem.execs_cons
def gz:=@Nat.succ_pos
def iG:=@List.drop_drop
def iH:=@Int.le_add_one
def iI:=@of_decide_eq_false
def iJ:=@Nat.lt_of_lt_of_eq
def iK:=@List.mem_filterMap
def i4:=@PySem.W.callWith_of
def i5:=@PySem.wpAny_execs_nil
def i6:=@PySem.codeAny_of_tree
def i7:=@PySem.F.excBase_Exception
def i8:=@List.drop_eq_getElem_cons
def i9:=@Array.getElem?_eq_getElem
def jy:=@List.nodup_append
def jz:=@List.getLast?_map
def jA:=@List.getElem?_set
def jB:=@PySem.Heap.SameBut.update
def jF:=@Bool.true_and
def jG:=@PySem.F.slot_list_append
def jH:=@List.getElem?_take_of_lt
def ka:=@if_false
def kc:=@PySem.wpAny_loadPart
def kg:=@List.map_fst_zip
def lO:=@PySem.wpAny_setState_of
def lP:=@PySem.slot_list_getitem
def lQ:=@PySem.arm_isTrue_BoolOp
def lR:=@List.of_mem_zip
def mc:=@PySem.plainId_quiet
def md:=@List.take_eq_take_min
def me:=@List.length_singleton
def mf:=@List.getElem?_eq_none
def om:=@PySem.wpAny_askSetting
def oo:=@List.take_left
def oq:=@List.drop_take
def ot:=@Bool.false_and
def ou:=@Nat.sub_le_of_le_add
def oy:=@Nat.add_le_of_le_sub
def oz:=@List.length_dropLast
def oA:=@Bool.and_eq_true_iff
def qe:=@PySem.call_meets
def qf:=@Nat.add_sub_cancel'
def qg:=@List.mem_map_of_mem
def qh:=@PyProof.Rows.F.entry_set_update_loop
def sd:=@PySem.Calls.loadGlobal_global
def sf:=@PySem.arm_assign_Name
def sx:=@Nat.mod_lt
def sy:=@decide_eq_true_iff
def sA:=@PySem.W.Fast.te5923862056798008813
def vm:=@PySem.wpAny_field
def vn:=@Nat.mul_succ
def vp:=@Nat.min_self
def vq:=@Int.sub_zero
def vr:=@PySem.codeAny_call_builtin
def vt:=@bne_self_eq_false
def vv:=@List.take_sublist
def vw:=@List.push_toArray
def vx:=@List.map_dropLast
def vy:=@List.flatten_cons
def vz:=@List.contains_nil
def zP:=@PySem.wpAny_setEntries_of
def zQ:=@List.ext_getElem
def zR:=@List.drop_length
def Bw:=@PySem.wpAny_attempt
def Bx:=@PySem.arm_eval_Call
def Bz:=@Nat.exists_eq_succ_of_ne_zero
def BI:=@PySem.wpAny_rule
def BJ:=@PySem.wpAny_Constant_int
def BL:=@Nat.le_antisymm
def BM:=@List.zip_append
def BN:=@List.prefix_nil
def BP:=@List.forIn_cons
def BQ:=@PySem.Code.quiet_builtin
def GW:=@PySem.codeAny_mono
def GX:=@Int.not_le
def GY:=@PySem.wpAny_truthy_bool
def GZ:=@PySem.wpAny_pyIter_list
def G0:=@PySem.wpAny_Return_some
def G1:=@List.nodup_nil
def G2:=@List.drop_left
def G3:=@PySem.F.args_list_append_2
def G4:=@PySem.AutoListH.list_append_list_val_0
def Kj:=@PyProof.Rows.wpAny_operate'
def Kk:=@PySem.F.slot_list_reverse
def Kl:=@PySem.F.entry_list_append
def Km:=@Nat.le_of_add_le_add_left
def Ko:=@List.getLast?_eq_getElem?
def Kp:=@List.extract_eq_take_drop
def Kq:=@Classical.byContradiction
def LI:=@PySem.W.looks_findIn
def LJ:=@Prod.mk.injEq
def LL:=@List.map_drop
def LM:=@List.drop_nil
def LN:=@List.any_cons
def LO:=@Int.add_assoc
def LP:=@Bool.and_true
def LS:=@PySem.F.slot_list_extend
def LU:=@Option.isSome_iff_exists
def LV:=@List.filterMap_cons_some
def LW:=@List.filterMap_cons_none
def LX:=@Array.size_setIfInBounds
def Qq:=@decide_eq_false_iff_not
def Qs:=@PySem.F.slot_list_index
def Qt:=@PySem.F.plain_list_iadd
def Qu:=@Nat.exists_eq_add_of_lt
def Qv:=@Nat.exists_eq_add_of_le
def Qw:=@List.prefix_iff_eq_take
def Qx:=@List.lookup_eq_some_iff
def Qy:=@List.lookup_eq_none_iff
def Q7:=@PySem.Calls.loadGlobal_builtin
def Q8:=@Nat.sub_self
def Q9:=@List.set_set
def Ra:=@Int.zero_add
def Rb:=@Int.lt_trans
def Rc:=@Int.le_of_lt
def Re:=@Int.add_comm
def Rf:=@Bool.not_not
def Rg:=@PySem.exec_Assign_Name
def Rh:=@PySem.F.attr_Exception
def Ri:=@PyProof.noPylong_small
def Rj:=@Nat.eq_zero_of_not_pos
def Rk:=@List.take_of_length_le
def Rm:=@List.takeWhile_sublist
def Rn:=@List.range_succ_eq_map
def Rp:=@List.length_take_of_le
def Rq:=@Classical.epsilon_spec
def U0:=@PySem.F.slot_set_iter
def U5:=@PySem.F.slot_list_pop
def U6:=@PySem.F.plain_set_new
def U7:=@Nat.le_of_sub_eq_zero
def U8:=@Nat.eq_of_beq_eq_true
def U9:=@List.length_replicate
def Va:=@List.length_filter_le
def Vb:=@List.eq_nil_or_concat
def Vc:=@List.concat_eq_append
def Vd:=@Array.getElem?_toList
def WB:=@ne_eq
def WC:=@And.left
def WD:=@PySem.wpAny_bindName
def WF:=@PySem.isSubtype_type
def WG:=@List.map_id
def WH:=@Nat.sub_lt_sub_right
def WI:=@Nat.add_sub_add_left
def WJ:=@List.set_append_left
def WK:=@List.reverse_reverse
def WL:=@List.range_eq_range'
def WM:=@List.getElem_zipWith
def WN:=@List.extract_toArray
def Àu:=@PySem.wpAt_of_wpAny
def Àv:=@Nat.sub_lt_sub_left
def Àw:=@List.length_take_le
def Àx:=@Array.length_toList
def ÁY:=@Nat.not_le
def ÁZ:=@PySem.wpAny_getItem_list_slice
def Á0:=@PySem.F.called_set
def Á1:=@List.prefix_append
def Á2:=@List.map_replicate
def Á3:=@List.getElem_range
def Á4:=@List.getElem?_drop
def Á5:=@List.findIdx?_cons
def Á6:=@List.find?_toArray
def Äh:=@Nat.lt_trichotomy
def Äi:=@List.take_add_one
def Äj:=@List.map_inj_left
def Äk:=@List.ext_getElem?
def Äl:=@List.any_eq_false
def Äm:=@Bool.eq_false_iff
def ÄR:=@PySem.wpAny_mkText
def ÄS:=@PySem.IsL.update
def ÄT:=@Nat.min_le_right
def ÄU:=@Nat.min_eq_right
def ÄV:=@List.reverse_nil
def ÄW:=@List.map_reverse
def ÄX:=@List.any_toArray
def ÄY:=@Int.natCast_succ
section
open PySem PySem.W PyProof.Rows
set_option maxHeartbeats 0
noncomputable abbrev pw:Program:=PySem.Challenge.pw_nn0394_01
noncomputable abbrev zS:OpenLaw:=PySem.Challenge.rw_nn0394_01
noncomputable def qw:Program:={pw with main:={pw.main with body:=pw.main.body.drop 59}}
noncomputable def dq:DefRec:=match pw.main.body.drop 59 with
 | .FunctionDef n a b _ _ _ sc _ _ pos::_=>⟨n,a,b,sc,pos⟩
 |_=>⟨"",⟨[],[],none,[],[],none,[]⟩,[],⟨.function,[],false,false,[]⟩,⟨0,0,0,0⟩⟩
noncomputable def iY:List Str:=(["_wall","SMALL","LETTERS","FIGURES","NAME_SIGNS","HEX_SIGNS","OCTAL_SIGNS","MOST_FIGURES_source","PLAIN_ESCAPES","Position","position_of","ToolError","LexError","Cursor","hex_escape","escaped_sign","escaped","BLANKS","MARK","REMARK","END_WORD","FIRST_CONDITION","MOST_FIGURES_lexfile","STEP_WORTHS","LAST_STEPS","NOT_AT_END","LexStep","LexRule","RawPattern","LexFile","fail","lines_of","is_left_out","quote_end","class_end","raw_at","step_at","steps_at","OutlineReader","read_outline","show_steps","show_conditions","show_rule","show_rows","show_outline","_law_POOL","_law_DEFINED","_law_RAWS","_law_BAD_DEFINITIONS","_law_BAD_RULES","_law_draw","_law_steps","_law_definitions","_law_rules","_law_settled","_law_shown"]:List String).map Str.ofString
noncomputable def Aa (thr ok:Thread->Bool)(st:SharedT->Thread->Option (SharedT×Thread)):Nat->SharedT->Thread->Option SharedT
 |0,_,_=>none
 |n+1,s,t=>match thr t with
  |true=>some s
  |false=>match ok t with
   |false=>none
   |true=>match st s t with
    |some (s',t')=>Aa thr ok st n s' t'
    |none=>none
theorem ym {tb:String->Option Builtin}{p:Program}{w:World}{MB:Nat}{ann:Option Value}:∀{n:Nat} {s s':SharedT} {t:Thread},
 Aa through (stepOk MB ann) (stepT (denote tb) p w) n s t=some s'->topRun tb p w MB ann n s.abs t=some s'.abs
 |0,_,_,_,h=>by cases h
 |n+1,s,s',t,h=>by
  unfold Aa at h
  unfold topRun
  cases he:through t with
  |true=>rw[he] at h;cases h;rfl
  |false=>
   rw[he] at h
   cases hk:stepOk MB ann t with
   |false=>rw[hk] at h;cases h
   |true=>
    rw[hk] at h
    cases hs:stepT (denote tb) p w s t with
    |none=>rw[hs] at h;cases h
    |some r=>obtain⟨f9,Ã3⟩:=r;rw[hs] at h;rw[stepT_spec hs];exact ym h
noncomputable def Gq (P:Params):BT:=
 ((((((((((BT.nil.ins 0 (boot_o_0 P)).ins 1 (boot_o_1 P)).ins 2 (boot_o_2 P)).ins 3 (boot_o_3 P)).ins 4 (boot_o_4 P)).ins 5 (boot_o_5 P)).ins 6 (boot_o_6 P)).ins 7 (boot_o_7 P)).ins 8 (boot_o_8 P)).ins 9 (boot_o_9 P)).ins 10 (boot_o_10 P)
noncomputable def S0 (P:Params)(os:OsState):SharedT:=⟨Gq P,11,(boot_heap P).life,Array.mk [],boot_drawn,boot_toks,os⟩
theorem boot_abs (P:Params)(os:OsState):(S0 P os).abs=⟨boot_heap P,Array.mk [],boot_drawn,boot_toks,os⟩:=by kernel_rfl
theorem e1: @stepOk= @PySem.W.Fast.tw6613529449190102663:=PySem.W.Fast.te6613529449190102663
theorem e2: @stepT= @PySem.W.Fast.tw10156331382660048174:=PySem.W.Fast.te10156331382660048174
theorem e3: @denote= @PySem.W.Fast.tw11892475500146522536:=PySem.W.Fast.te11892475500146522536
theorem e4:treeTable=PySem.W.Fast.tw14364793385576792824:=PySem.W.Fast.te14364793385576792824
theorem e5: @openSeen= @PySem.W.Fast.tw4187177175401517315:=PySem.W.Fast.te4187177175401517315
noncomputable abbrev X6 (w:World)(os:OsState):Option SharedT:=Aa through (stepOk 11 (some (.ref 6))) (stepT (denote treeTable) pw w) 9999 (S0 w.params os) (topStub pw)
noncomputable abbrev mM (P:Params)(Ę:Shared):Bool:=staticsOk (importedModules pw.main.body) (boot_heap P) Ę.heap&&namesBound pw Ę.heap&&gensDone Ę&&laidKept (boot_heap P) Ę.heap
theorem I6 {α:Type}{Yf:Shared->α}{Ya:World->α}{Xt:Shared->Bool}
 (run:∀(w:World) (os:OsState),(X6 w os).map (λs=>(mM w.params s.abs,openSeen qw iY (importedModules pw.main.body) Xt true s.abs,Yf s.abs))=some (true,openGood qw iY,Ya w)):
 LeftO pw qw iY Xt Yf Ya 9999:=λw=>by
 have Uq:∀w:World,(fencedOpening treeTable pw w 9999).map (λs=>(s.heap,s.gens,s.drawn,s.toks))=some (boot_heap w.params,Array.mk [],boot_drawn,boot_toks):=
  boot_open (p:=pw) (by kernel_rfl) (by decide+kernel) (λs=>rfl)
 obtain⟨⟨h,gs,d,k,os⟩,e,e'⟩:=Ć.mp (Uq w)
 obtain⟨rfl,rfl,rfl,rfl⟩:h=boot_heap w.params∧gs=Array.mk []∧d=boot_drawn∧k=boot_toks:=by simpa using e'
 have size:((boot_heap w.params).isNs mainGlobals&&(Array.mk []:Array GenState).size==0,(boot_heap w.params).objs.size,(boot_heap w.params).nsMap mainGlobals "__annotations__")=(true,11,some (.ref 6)):=by
  rw[show @Heap.nsMap= @PySem.W.Fast.tw8920871248978507458 from PySem.W.Fast.te8920871248978507458]
  kernel_rfl
 obtain⟨z1,z2,z3⟩:_∧_∧_:=by simpa only[LJ] using size
 obtain⟨s',zV,l⟩:=Ć.mp (run w os)
 obtain⟨l1,l2,l3⟩:_∧_∧_:=by simpa only[LJ] using l
 have r:=ym zV
 rw[boot_abs] at r
 have t:topFrom treeTable pw w 9999 ⟨boot_heap w.params,Array.mk [],boot_drawn,boot_toks,os⟩=some s'.abs:=by
  unfold topFrom
  dsimp only
  rw[z1,z2,z3,r]
  show (match mM w.params s'.abs with|true=>_|false=>_)=_
  rw[l1]
 unfold openEnds
 rw[e]
 show (topFrom treeTable pw w 9999 _).map _=_
 rw[t]
 exact È some (Prod.ext l2 l3)
noncomputable def K6:Stmt->DefRec
 | .FunctionDef n a b _ _ _ sc _ _ pos=>⟨n,a,b,sc,pos⟩
 |_=>dq
noncomputable def tF (i:Nat):DefRec:=match pw.main.body[i]? with
 |some st=>K6 st
 |none=>dq
noncomputable def mF (i j:Nat):DefRec:=match pw.main.body[i]? with
 |some (.ClassDef _ _ _ b _ _ _ _ _ _ _)=>(match b[j]? with
  |some st=>K6 st
  |none=>dq)
 |_=>dq
noncomputable def FO (d:DefRec)(qual:Str)(dV pm cd:Value):Obj:=
 ⟨.type "function",none,.func {name:=d.name,qualname:=qual,params:=d.params,body:= .stmts d.body,scope:=d.scope,globals:=mainGlobals,closure:=[],defaults:=dV,kwdefaults:= .none,doc:= .none,pyModule:=pm,annotations:=none,code:=cd,closureTuple:= .none,builtins:=builtinsNs},#[]⟩
noncomputable def TO (l:List Value):Obj:=⟨.type "tuple",none,.seq l.toArray 0,#[]⟩
noncomputable def GO (c:Value)(l:List Value):Obj:=⟨c,none,.fields l.toArray,#[]⟩
noncomputable def DO (P:Params)(l:List (String×Tok×Value))(n:Nat):Obj:=
 ⟨.type "dict",none,.dict (l.map λe=>(⟨PyData.keyHash P (Str.ofString e.1),.str (Str.ofString e.1) e.2.1,e.2.2⟩:DictEntry)).toArray n,#[]⟩
noncomputable def CO (nm:Str)(bases mro:List Value)(ns:Addr)(qual:Str)(sl:Array (Option Value))(sub:List Value:=[]):Obj:=
 ⟨.type "type",none,.cls {name:=nm,bases:=bases,mro:=mro,ns:=ns,qualname:=qual,subclasses:=sub},sl⟩
noncomputable def j8:Value:= .str "grammarmill.source" 194
noncomputable def cU:Value:= .str "grammarmill.lexfile" 525
noncomputable def L7:Value:= .str "law_nn0394_01" 1084
noncomputable def kvM:Value:= .str "__main__" 164
noncomputable def cP (a:Nat)(d:DefRec)(n q:Str)(dv:Value)(t:Nat)(l p:Int)(u:Nat)(m:Value)(x y:Nat)(v:List Value)(r:Frag):Frag:=
 (a,GO (.type "code") ([.str n t,.str q (t+1),.str "/claim/cut.py" (t+2),.int l 0,.int p 0,.int 0 0,.int 0 0,.int 3 0,.ref x,.bool true,.int 181 0,.ref y,.none]++v++[.ref (a-1),.int (u-1:Nat) 0,.int l 0,.str "/claim/cut.py" u]))::(a+1,FO d q dv m (.ref a))::r
noncomputable def c5 (a:Nat)(d:DefRec)(n q:Str)(dv:Value)(t:Nat)(l p:Int)(u:Nat)(m:Value):Frag->Frag:=cP a d n q dv t l p u m (a-5) (a-4) [.ref (a-3),.ref (a-2)]
noncomputable def c3 (a:Nat)(d:DefRec)(n q:Str)(dv:Value)(t:Nat)(l p:Int)(u:Nat)(m:Value):Frag->Frag:=cP a d n q dv t l p u m (a-3) (a-2) [.none,.none]
noncomputable def gd (a b t:Nat):Addr×Obj:=(a,GO (.type "getset_descriptor") [.str "__dict__" t,.ref b,.builtin "function.__dict__",.builtin "function.__dict__#set"])
noncomputable def gw (a b t:Nat):Addr×Obj:=(a,GO (.type "getset_descriptor") [.str "__weakref__" t,.ref b,.builtin "ExceptionGroup.__weakref__",.none])
noncomputable def KF (P:Params):Frag:=
 List.cons (3,DO P [("__name__",165,.str "law_nn0394_01" 1084),("__doc__",166,.none),("__package__",167,.none),("__loader__",168,.builtin "__main__.__loader__#opaque"),("__spec__",169,.none),("__annotations__",170,.ref 6),("__builtins__",171,.ref 4),("__file__",173,.str "/claim/cut.py" 172),("__cached__",174,.none),("_wall",193,.ref 21),("SMALL",197,.str "abcdefghijklmnopqrstuvwxyz" 196),("LETTERS",200,.str "abcdefghijklmnopqrstuvwxyzABCDEFGHIJKLMNOPQRSTUVWXYZ" 199),("FIGURES",202,.str "0123456789" 201),("NAME_SIGNS",206,.str "abcdefghijklmnopqrstuvwxyzABCDEFGHIJKLMNOPQRSTUVWXYZ_0123456789" 205),("HEX_SIGNS",209,.str "0123456789abcdefABCDEF" 208),("OCTAL_SIGNS",211,.str "01234567" 210),("MOST_FIGURES_source",213,.int 4000 212),("PLAIN_ESCAPES",235,.ref 22),("Position",275,.ref 46),("position_of",287,.ref 57),("ToolError",325,.ref 82),("LexError",341,.ref 95),("Cursor",501,.ref 222),("hex_escape",509,.ref 233),("escaped_sign",518,.ref 240),("escaped",524,.ref 245),("BLANKS",528,.str " \t" 527),("MARK",530,.str "%%" 529),("REMARK",532,.str "//" 531),("END_WORD",534,.str "<<EOF>>" 533),("FIRST_CONDITION",536,.str "INITIAL" 535),("MOST_FIGURES_lexfile",538,.int 6 537),("STEP_WORTHS",566,.ref 246),("LAST_STEPS",569,.ref 247),("NOT_AT_END",573,.ref 248),("LexStep",618,.ref 280),("LexRule",699,.ref 341),("RawPattern",735,.ref 369),("LexFile",809,.ref 420),("fail",818,.ref 431),("lines_of",828,.ref 438),("is_left_out",835,.ref 445),("quote_end",845,.ref 452),("class_end",856,.ref 459),("raw_at",866,.ref 466),("step_at",880,.ref 473),("steps_at",889,.ref 480),("OutlineReader",1034,.ref 570),("read_outline",1041,.ref 581),("show_steps",1047,.ref 586),("show_conditions",1053,.ref 591),("show_rule",1063,.ref 598),("show_rows",1077,.ref 605),("show_outline",1083,.ref 610),("_law_POOL",1089,.ref 611),("_law_DEFINED",1093,.ref 612),("_law_RAWS",1110,.ref 613),("_law_BAD_DEFINITIONS",1141,.ref 629),("_law_BAD_RULES",1168,.ref 643),("_law_draw",1178,.ref 650),("_law_steps",1186,.ref 657),("_law_definitions",1192,.ref 662),("_law_rules",1198,.ref 667),("_law_settled",1204,.ref 672),("_law_shown",1210,.ref 677),("law",1216,.ref 682)] 66) <|
 c5 20 (tF 0) "_wall" "_wall" .none 187 1 1 192 kvM <|
 List.cons (22,DO P [("n",214,.int 10 215),("t",216,.int 9 217),("r",218,.int 13 219),("f",220,.int 12 221),("v",222,.int 11 223),("a",224,.int 7 225),("b",226,.int 8 227)] 7) <|
 c5 35 (mF 10 0) "__init__" "Position.__init__" .none 248 15 4 256 j8 <|
 c5 42 (mF 10 1) "told" "Position.told" .none 258 20 1 263 j8 <|
 List.cons (45,DO P [("__module__",243,j8),("__firstlineno__",247,.int 13 246),("__init__",257,.ref 36),("told",264,.ref 43),("__static_attributes__",268,.ref 44),("__dict__",270,.ref 47),("__weakref__",272,.ref 48),("__doc__",273,.none)] 4) <|
 List.cons (46,CO "Position" [.type "object"] [.ref 46,.type "object"] 45 "Position" #[none,none,some (.str "Position" 236),some (.str "Position" 244),some (.builtin "object.__new__"),some (.bool true)]) <|
 List.cons (gd 47 46 269) <|
 List.cons (gw 48 46 271) <|
 c5 56 (tF 11) "position_of" "position_of" .none 276 22 2 286 j8 <|
 List.cons (65,TO [.none]) <|
 c5 71 (mF 12 0) "__init__" "ToolError.__init__" (.ref 65) 300 33 3 307 j8 <|
 c5 78 (mF 12 1) "told" "ToolError.told" .none 309 38 1 314 j8 <|
 List.cons (81,DO P [("__module__",295,j8),("__firstlineno__",299,.int 31 298),("__init__",308,.ref 72),("told",315,.ref 79),("__static_attributes__",318,.ref 80),("__weakref__",320,.ref 83),("__doc__",321,.none)] 3) <|
 List.cons (82,CO "ToolError" [.type "Exception"] [.ref 82,.type "Exception",.type "BaseException",.type "object"] 81 "ToolError" #[some (.ref 58),none,some (.str "ToolError" 288),some (.str "ToolError" 296),some (.builtin "Exception.__new__"),some (.bool true)] [.ref 95]) <|
 List.cons (gw 83 82 319) <|
 List.cons (94,DO P [("__module__",333,j8),("__firstlineno__",337,.int 42 336),("__static_attributes__",338,.ref 93),("__doc__",339,.none)] 2) <|
 List.cons (95,CO "LexError" [.ref 82] [.ref 95,.ref 82,.type "Exception",.type "BaseException",.type "object"] 94 "LexError" #[some (.ref 86),none,some (.str "LexError" 326),some (.str "LexError" 334),some (.builtin "Exception.__new__"),some (.bool true)]) <|
 List.cons (105,TO [.int 0 354]) <|
 c5 111 (mF 14 0) "__init__" "Cursor.__init__" (.ref 105) 355 46 3 362 j8 <|
 c5 118 (mF 14 1) "is_done" "Cursor.is_done" .none 364 50 1 369 j8 <|
 List.cons (120,TO [.int 0 371]) <|
 c5 126 (mF 14 2) "peek" "Cursor.peek" (.ref 120) 372 53 2 379 j8 <|
 c5 133 (mF 14 3) "starts" "Cursor.starts" .none 381 59 2 387 j8 <|
 c5 140 (mF 14 4) "take" "Cursor.take" .none 389 62 1 395 j8 <|
 c5 147 (mF 14 5) "skip" "Cursor.skip" .none 397 69 2 403 j8 <|
 c5 154 (mF 14 6) "take_while" "Cursor.take_while" .none 405 75 2 412 j8 <|
 c5 161 (mF 14 7) "take_line" "Cursor.take_line" .none 414 81 1 419 j8 <|
 List.cons (163,TO [.str " \t" 421]) <|
 c5 169 (mF 14 8) "skip_blanks" "Cursor.skip_blanks" (.ref 163) 422 84 2 428 j8 <|
 c5 176 (mF 14 9) "name" "Cursor.name" .none 430 87 1 436 j8 <|
 c5 183 (mF 14 10) "number" "Cursor.number" .none 438 93 1 445 j8 <|
 c5 190 (mF 14 11) "position" "Cursor.position" .none 447 101 1 452 j8 <|
 c5 197 (mF 14 12) "position_at" "Cursor.position_at" .none 454 104 2 460 j8 <|
 c5 204 (mF 14 13) "coded" "Cursor.coded" .none 462 107 4 472 j8 <|
 c5 211 (mF 14 14) "escape" "Cursor.escape" .none 474 115 1 480 j8 <|
 c5 218 (mF 14 15) "quoted" "Cursor.quoted" .none 482 129 2 490 j8 <|
 List.cons (221,DO P [("__module__",349,j8),("__firstlineno__",353,.int 44 352),("__init__",363,.ref 112),("is_done",370,.ref 119),("peek",380,.ref 127),("starts",388,.ref 134),("take",396,.ref 141),("skip",404,.ref 148),("take_while",413,.ref 155),("take_line",420,.ref 162),("skip_blanks",429,.ref 170),("name",437,.ref 177),("number",446,.ref 184),("position",453,.ref 191),("position_at",461,.ref 198),("coded",473,.ref 205),("escape",481,.ref 212),("quoted",491,.ref 219),("__static_attributes__",494,.ref 220),("__dict__",496,.ref 223),("__weakref__",498,.ref 224),("__doc__",499,.none)] 4) <|
 List.cons (222,CO "Cursor" [.type "object"] [.ref 222,.type "object"] 221 "Cursor" #[none,none,some (.str "Cursor" 342),some (.str "Cursor" 350),some (.builtin "object.__new__"),some (.bool true)]) <|
 List.cons (gd 223 222 495) <|
 List.cons (gw 224 222 497) <|
 c5 232 (tF 15) "hex_escape" "hex_escape" .none 502 141 1 508 j8 <|
 c5 239 (tF 16) "escaped_sign" "escaped_sign" .none 510 144 2 517 j8 <|
 c3 244 (tF 17) "escaped" "escaped" .none 519 155 2 523 j8 <|
 List.cons (246,DO P [("return",539,.str "kind" 540),("skip",541,.str "" 542),("begin",543,.str "condition" 544),("push",545,.str "condition" 546),("pop",547,.str "" 548),("more",549,.str "" 550),("less",551,.str "number" 552),("reject",553,.str "" 554),("echo",555,.str "" 556)] 9) <|
 List.cons (247,TO [.str "return" 567,.str "reject" 568]) <|
 List.cons (248,TO [.str "more" 570,.str "less" 571,.str "reject" 572]) <|
 List.cons (256,TO [.none]) <|
 c5 262 (mF 28 0) "__init__" "LexStep.__init__" (.ref 256) 586 169 3 593 cU <|
 c5 269 (mF 28 1) "told" "LexStep.told" .none 595 173 1 600 cU <|
 c5 276 (mF 28 2) "show" "LexStep.show" .none 602 176 1 607 cU <|
 List.cons (279,DO P [("__module__",581,cU),("__firstlineno__",585,.int 167 584),("__init__",594,.ref 263),("told",601,.ref 270),("show",608,.ref 277),("__static_attributes__",611,.ref 278),("__dict__",613,.ref 281),("__weakref__",615,.ref 282),("__doc__",616,.none)] 4) <|
 List.cons (280,CO "LexStep" [.type "object"] [.ref 280,.type "object"] 279 "LexStep" #[none,none,some (.str "LexStep" 574),some (.str "LexStep" 582),some (.builtin "object.__new__"),some (.bool true)]) <|
 List.cons (gd 281 280 612) <|
 List.cons (gw 282 280 614) <|
 c5 297 (mF 29 0) "__init__" "LexRule.__init__" .none 631 182 6 641 cU <|
 c5 304 (mF 29 1) "is_end" "LexRule.is_end" .none 643 189 1 648 cU <|
 c5 311 (mF 29 2) "is_live" "LexRule.is_live" .none 650 192 2 656 cU <|
 c5 318 (mF 29 3) "has_step" "LexRule.has_step" .none 658 195 2 664 cU <|
 c5 325 (mF 29 4) "kind" "LexRule.kind" .none 666 198 1 672 cU <|
 c5 332 (mF 29 5) "goals" "LexRule.goals" .none 674 204 1 679 cU <|
 c3 337 (mF 29 6) "told" "LexRule.told" .none 681 207 1 685 cU <|
 List.cons (340,DO P [("__module__",626,cU),("__firstlineno__",630,.int 180 629),("__init__",642,.ref 298),("is_end",649,.ref 305),("is_live",657,.ref 312),("has_step",665,.ref 319),("kind",673,.ref 326),("goals",680,.ref 333),("told",686,.ref 338),("__static_attributes__",692,.ref 339),("__dict__",694,.ref 342),("__weakref__",696,.ref 343),("__doc__",697,.none)] 4) <|
 List.cons (341,CO "LexRule" [.type "object"] [.ref 341,.type "object"] 340 "LexRule" #[none,none,some (.str "LexRule" 619),some (.str "LexRule" 627),some (.builtin "object.__new__"),some (.bool true)]) <|
 List.cons (gd 342 341 693) <|
 List.cons (gw 343 341 695) <|
 c5 358 (mF 30 0) "__init__" "RawPattern.__init__" .none 712 212 2 718 cU <|
 c5 365 (mF 30 1) "told" "RawPattern.told" .none 720 215 1 725 cU <|
 List.cons (368,DO P [("__module__",707,cU),("__firstlineno__",711,.int 210 710),("__init__",719,.ref 359),("told",726,.ref 366),("__static_attributes__",728,.ref 367),("__dict__",730,.ref 370),("__weakref__",732,.ref 371),("__doc__",733,.none)] 4) <|
 List.cons (369,CO "RawPattern" [.type "object"] [.ref 369,.type "object"] 368 "RawPattern" #[none,none,some (.str "RawPattern" 700),some (.str "RawPattern" 708),some (.builtin "object.__new__"),some (.bool true)]) <|
 List.cons (gd 370 369 729) <|
 List.cons (gw 371 369 731) <|
 List.cons (381,TO [.bool true,.str "" 748]) <|
 c5 387 (mF 31 0) "__init__" "LexFile.__init__" (.ref 381) 749 219 6 759 cU <|
 c5 394 (mF 31 1) "condition_number" "LexFile.condition_number" .none 761 226 2 768 cU <|
 c3 399 (mF 31 2) "plain_conditions" "LexFile.plain_conditions" .none 770 232 1 774 cU <|
 c3 404 (mF 31 3) "live_rules" "LexFile.live_rules" .none 776 235 2 780 cU <|
 c5 411 (mF 31 4) "end_rule" "LexFile.end_rule" .none 782 238 2 789 cU <|
 c3 416 (mF 31 5) "told" "LexFile.told" .none 791 244 1 795 cU <|
 List.cons (419,DO P [("__module__",743,cU),("__firstlineno__",747,.int 217 746),("__init__",760,.ref 388),("condition_number",769,.ref 395),("plain_conditions",775,.ref 400),("live_rules",781,.ref 405),("end_rule",790,.ref 412),("told",796,.ref 417),("__static_attributes__",802,.ref 418),("__dict__",804,.ref 421),("__weakref__",806,.ref 422),("__doc__",807,.none)] 4) <|
 List.cons (420,CO "LexFile" [.type "object"] [.ref 420,.type "object"] 419 "LexFile" #[none,none,some (.str "LexFile" 736),some (.str "LexFile" 744),some (.builtin "object.__new__"),some (.bool true)]) <|
 List.cons (gd 421 420 803) <|
 List.cons (gw 422 420 805) <|
 c5 430 (tF 32) "fail" "fail" .none 810 246 3 817 cU <|
 c5 437 (tF 33) "lines_of" "lines_of" .none 819 248 1 827 cU <|
 c5 444 (tF 34) "is_left_out" "is_left_out" .none 829 258 1 834 cU <|
 c5 451 (tF 35) "quote_end" "quote_end" .none 836 260 2 844 cU <|
 c5 458 (tF 36) "class_end" "class_end" .none 846 268 2 855 cU <|
 c5 465 (tF 37) "raw_at" "raw_at" .none 857 283 1 865 cU <|
 c5 472 (tF 38) "step_at" "step_at" .none 867 300 2 879 cU <|
 c5 479 (tF 39) "steps_at" "steps_at" .none 881 326 2 888 cU <|
 c5 493 (mF 40 0) "__init__" "OutlineReader.__init__" .none 902 342 2 908 cU <|
 c3 498 (mF 40 1) "names" "OutlineReader.names" .none 910 353 1 914 cU <|
 c5 505 (mF 40 2) "pattern_of" "OutlineReader.pattern_of" .none 916 356 2 922 cU <|
 c5 512 (mF 40 3) "definition_of" "OutlineReader.definition_of" .none 924 359 2 930 cU <|
 c5 519 (mF 40 4) "read" "OutlineReader.read" .none 932 362 1 938 cU <|
 c5 526 (mF 40 5) "read_definitions" "OutlineReader.read_definitions" .none 940 368 1 949 cU <|
 c5 533 (mF 40 6) "read_declaration" "OutlineReader.read_declaration" .none 951 384 2 961 cU <|
 c5 540 (mF 40 7) "read_definition" "OutlineReader.read_definition" .none 963 410 2 972 cU <|
 c5 547 (mF 40 8) "read_rules" "OutlineReader.read_rules" .none 974 426 1 982 cU <|
 c3 552 (mF 40 9) "read_line" "OutlineReader.read_line" .none 984 439 2 988 cU <|
 c5 559 (mF 40 10) "conditions_at" "OutlineReader.conditions_at" .none 990 476 2 1000 cU <|
 c5 566 (mF 40 11) "built_rules" "OutlineReader.built_rules" .none 1002 494 1 1016 cU <|
 List.cons (569,DO P [("__module__",897,cU),("__firstlineno__",901,.int 340 900),("__init__",909,.ref 494),("names",915,.ref 499),("pattern_of",923,.ref 506),("definition_of",931,.ref 513),("read",939,.ref 520),("read_definitions",950,.ref 527),("read_declaration",962,.ref 534),("read_definition",973,.ref 541),("read_rules",983,.ref 548),("read_line",989,.ref 553),("conditions_at",1001,.ref 560),("built_rules",1017,.ref 567),("__static_attributes__",1027,.ref 568),("__dict__",1029,.ref 571),("__weakref__",1031,.ref 572),("__doc__",1032,.none)] 4) <|
 List.cons (570,CO "OutlineReader" [.type "object"] [.ref 570,.type "object"] 569 "OutlineReader" #[none,none,some (.str "OutlineReader" 890),some (.str "OutlineReader" 898),some (.builtin "object.__new__"),some (.bool true)]) <|
 List.cons (gd 571 570 1028) <|
 List.cons (gw 572 570 1030) <|
 c5 580 (tF 41) "read_outline" "read_outline" .none 1035 510 1 1040 cU <|
 c3 585 (tF 42) "show_steps" "show_steps" .none 1042 512 1 1046 cU <|
 c3 590 (tF 43) "show_conditions" "show_conditions" .none 1048 514 3 1052 cU <|
 c5 597 (tF 44) "show_rule" "show_rule" .none 1054 520 3 1062 cU <|
 c5 604 (tF 45) "show_rows" "show_rows" .none 1064 527 3 1076 cU <|
 c3 609 (tF 46) "show_outline" "show_outline" .none 1078 542 1 1082 cU <|
 List.cons (611,TO [.str "A" 1086,.str "B_2" 1087,.str "c3" 1088]) <|
 List.cons (612,TO [.str "D" 1090,.str "E_1" 1091,.str "A" 1092]) <|
 List.cons (613,TO [.str "a" 1094,.str "[ \t\"]+" 1095,.str "\" |\"" 1096,.str "\\ x" 1097,.str "[]a]" 1098,.str "[^] ]" 1099,.str "[[:alpha:] \"]*" 1100,.str "x/[ ]$" 1101,.str "a\"b c\"d" 1102,.str "^{D}+" 1103,.str "[\"\\]]\"]\"" 1104,.str "<b" 1105,.str "//c" 1106,.str "\"\\\" ]\"" 1107,.str "[[: x]" 1108,.str "[^\\] ]" 1109]) <|
 List.cons (614,TO [.str "%y A" 1111,.int 1 1112]) <|
 List.cons (615,TO [.str "%option x" 1113,.int 9 1114]) <|
 List.cons (616,TO [.str "%x" 1115,.int 3 1116]) <|
 List.cons (617,TO [.str "%s  " 1117,.int 5 1118]) <|
 List.cons (618,TO [.str "%s c4," 1119,.int 6 1120]) <|
 List.cons (619,TO [.str "%x 9" 1121,.int 4 1122]) <|
 List.cons (620,TO [.str "F" 1123,.int 2 1124]) <|
 List.cons (621,TO [.str "F  " 1125,.int 4 1126]) <|
 List.cons (622,TO [.str "F a b" 1127,.int 5 1128]) <|
 List.cons (623,TO [.str " F a" 1129,.int 1 1130]) <|
 List.cons (624,TO [.str "F \"a" 1131,.int 3 1132]) <|
 List.cons (625,TO [.str "F [^]" 1133,.int 3 1134]) <|
 List.cons (626,TO [.str "F a\\" 1135,.int 4 1136]) <|
 List.cons (627,TO [.str "F [a\\" 1137,.int 3 1138]) <|
 List.cons (628,TO [.str "F \"a\\" 1139,.int 3 1140]) <|
 List.cons (629,TO [.ref 614,.ref 615,.ref 616,.ref 617,.ref 618,.ref 619,.ref 620,.ref 621,.ref 622,.ref 623,.ref 624,.ref 625,.ref 626,.ref 627,.ref 628]) <|
 List.cons (630,TO [.str "a" 1142,.int 2 1143]) <|
 List.cons (631,TO [.str "a  " 1144,.int 4 1145]) <|
 List.cons (632,TO [.str "\"a skip" 1146,.int 1 1147]) <|
 List.cons (633,TO [.str "[a] skip skip" 1148,.int 10 1149]) <|
 List.cons (634,TO [.str "a halt" 1150,.int 3 1151]) <|
 List.cons (635,TO [.str "a begin C" 1152,.int 9 1153]) <|
 List.cons (636,TO [.str "a less" 1154,.int 7 1155]) <|
 List.cons (637,TO [.str "a return 'xy'" 1156,.int 10 1157]) <|
 List.cons (638,TO [.str "a | x" 1158,.int 5 1159]) <|
 List.cons (639,TO [.str "a return N; pop" 1160,.int 13 1161]) <|
 List.cons (640,TO [.str "<<EOF>>skip" 1162,.int 8 1163]) <|
 List.cons (641,TO [.str "<C>a skip" 1164,.int 2 1165]) <|
 List.cons (642,TO [.str "<INITIAL a skip" 1166,.int 9 1167]) <|
 List.cons (643,TO [.ref 630,.ref 631,.ref 632,.ref 633,.ref 634,.ref 635,.ref 636,.ref 637,.ref 638,.ref 639,.ref 640,.ref 641,.ref 642]) <|
 c5 649 (tF 53) "_law_draw" "_law_draw" .none 1169 554 2 1177 L7 <|
 c5 656 (tF 54) "_law_steps" "_law_steps" .none 1179 559 2 1185 L7 <|
 c3 661 (tF 55) "_law_definitions" "_law_definitions" .none 1187 581 5 1191 L7 <|
 c3 666 (tF 56) "_law_rules" "_law_rules" .none 1193 616 4 1197 L7 <|
 c3 671 (tF 57) "_law_settled" "_law_settled" .none 1199 689 2 1203 L7 <|
 c3 676 (tF 58) "_law_shown" "_law_shown" .none 1205 700 1 1209 L7 <|
 c3 681 (tF 59) "law" "law" .none 1211 717 1 1215 L7 <|
 []
noncomputable def KA:List Addr:=[3,20,21,22,35,36,42,43,45,46,47,48,56,57,65,71,72,78,79,81,82,83,94,95,105,111,112,118,119,120,126,127,133,134,140,141,147,148,154,155,161,162,163,169,170,176,177,183,184,190,191,197,198,204,205,211,212,218,219,221,222,223,224,232,233,239,240,244,245,246,247,248,256,262,263,269,270,276,277,279,280,281,282,297,298,304,305,311,312,318,319,325,326,332,333,337,338,340,341,342,343,358,359,365,366,368,369,370,371,381,387,388,394,395,399,400,404,405,411,412,416,417,419,420,421,422,430,431,437,438,444,445,451,452,458,459,465,466,472,473,479,480,493,494,498,499,505,506,512,513,519,520,526,527,533,534,540,541,547,548,552,553,559,560,566,567,569,570,571,572,580,581,585,586,590,591,597,598,604,605,609,610,611,612,613,614,615,616,617,618,619,620,621,622,623,624,625,626,627,628,629,630,631,632,633,634,635,636,637,638,639,640,641,642,643,649,650,656,657,661,662,666,667,671,672,676,677,681,682]
theorem UY:∀P,KA=(KF P).map (·.1):=λP=>by kernel_rfl
noncomputable abbrev mx:Hook:=kHook KF KA UY
noncomputable abbrev xU (P:Params)(s:SharedT):=(mM P s.abs,openSeen qw iY (importedModules pw.main.body) (λ_=>true) true s.abs,mx.obs s.abs)
theorem Tx (w:World)(os:OsState):
 (Aa through (stepOk 11 (some (.ref 6))) (stepT (denote treeTable) pw (w.withFollow "special-get-raises" false)) 9999 (S0 w.params os) (topStub pw)).map (λs=>xU w.params s)=some (true,openGood qw iY,(KF w.params).map λp=>some p.2):=by
 unfold xU mM
 rw[e1,e2,e3,e4,e5,show @importedModules= @PySem.W.Fast.tw5923862056798008813 from sA]
 kernel_rfl
theorem Tw (w:World)(os:OsState):
 (Aa through (stepOk 11 (some (.ref 6))) (stepT (denote treeTable) pw (w.withFollow "special-get-raises" true)) 9999 (S0 w.params os) (topStub pw)).map (λs=>xU w.params s)=some (true,openGood qw iY,(KF w.params).map λp=>some p.2):=by
 unfold xU mM
 rw[e1,e2,e3,e4,e5,show @importedModules= @PySem.W.Fast.tw5923862056798008813 from sA]
 kernel_rfl
theorem Uc:LeftO pw qw iY (λ_=>true) mx.obs mx.val 9999:=I6 λw os=>by
 have e:=World.withFollow_self w "special-get-raises"
 cases hb:w.params.followText "special-get-raises" <;>rw[hb] at e
 ·have:=Tx w os;rw[e] at this;exact this
 ·have:=Tw w os;rw[e] at this;exact this
theorem Tt:OpenLaw.wellSaid zS=true:=by
 rw[show @OpenLaw.wellSaid= @PySem.W.Fast.tw9446332074065402090 from PySem.W.Fast.te9446332074065402090]
 kernel_rfl
theorem Uu:defOf qw zS.row.name=some (dq,[]):=by kernel_rfl
theorem hp0:zS.row.prog.theDef zS.row.name=some (dq.params,dq.body,dq.scope):=by kernel_rfl
theorem hk0:kwWritten? dq.params.kwonlyargs dq.params.kw_defaults=some []:=by kernel_rfl
theorem ok0:(chainsOk qw&&opensWell zS.row.prog&&(frees zS.row.toRowW&&zS.row.within.isEmpty))=true:=by kernel_rfl
theorem UX:zS.row.prog.bare:=⟨rfl,rfl,rfl,rfl,rfl,by decide+kernel⟩
theorem hw0:zS.row.toRowW.promised:=⟨[.list []],by decide+kernel,by decide+kernel⟩
abbrev Walk:Prop:=WalkO qw iY (λ_ _=>True) mx.says zS.row.toRowW dq [] λf vs=>PySem.call f vs
theorem head (h:Walk):zS.Holds:=holds_law Tt λYy=>
 holds_open (r:=zS.row) (Xt:=λ_=>true) (XP:=λ_ _=>True) (YP:=mx.says) Uc mx.of mx.keeps (λ_ _=>trivial) (λ_ _ _ _ _=>trivial) Uu hp0 hk0 (λ_ _=>recFacts_nil rfl) rfl Yy ok0 UX hw0 h
end
section
open PySem PySem.W PyProof.Rows
set_option backward.match.sparseCases false
inductive V where
 |none
 |bool (b:Bool)
 |int (i:Int)
 |str (s:List Nat)
 |tup (vs:List V)
 |lst (vs:List V)
 |rng (lo hi st:Int)
 |rcd (c:Nat) (fs:List (Nat×V))
 |dic (es:List (List Nat×V))
 |obj (i:Nat)
set_option genCtorIdx false in
inductive O where
 |list (vs:List V)
 |dict (es:List (List Nat×V))
 |inst (c:Nat) (fs:List (Nat×V))
abbrev AH:=List (Option O)
abbrev Loc:=List (Option V)
inductive vk where|add|sub|mul|fdiv|mod
inductive Mp where|eq|ne|lt|gt|ge|in_|nin|is_|isnot
set_option genCtorIdx false in
inductive PE where
 |lit (v:V)
 |var (i:Nat)
 |glob (n:Nat)
 |attr (e:PE) (f:Nat)
 |bin (op:vk) (a b:PE)
 |cmp (op:Mp) (a b:PE)
 |andE (a b:PE)
 |orE (a b:PE)
 |and3 (a b c:PE)
 |or3 (a b c:PE)
 |notE (a:PE)
 |ite (t a b:PE)
 |idx (a b:PE)
 |slc (a:PE) (lo hi:Option PE)
 |rev (a:PE)
 |tss (e:PE)
 |tup (es:List PE)
 |lst (fz:Bool) (es:List PE)
 |dct0
 |comp (elt:PE) (k:Option Nat) (src:PE) (cond:Option PE) (Ģ:List Nat)
 |call (f:Nat) (es:List PE)
 |new (c:Nat) (es:List PE)
 |bcall (f:Nat) (es:List PE)
 |meth (e:PE) (m:Nat) (es:List PE)
set_option genCtorIdx false in
inductive PS where
 |assign (i:Nat) (e:PE)
 |assignT (is:List Nat) (e:PE)
 |setA (o:PE) (f:Nat) (e:PE)
 |setI (o i e:PE)
 |augV (i:Nat) (op:vk) (e:PE)
 |augA (o:PE) (f:Nat) (op:vk) (e:PE)
 |expr (e:PE)
 |ife (t:PE) (a b:List PS)
 |whileS (t:PE) (b:List PS)
 |forS (k:Option (List Nat)) (i:Nat) (src:PE) (b:List PS)
 |ret (e:PE)
 |raise (w p:PE)
 |brk
 |cont
 |pass
 |tryL (i:Nat) (e:PE) (er:Nat) (ends:Nat)
set_option genCtorIdx false in
inductive Fl where
 |next|brk|cont
 |ret (v:V)
abbrev Ĩ:=V->AH->Prop
abbrev Ď:=Nat->List V->Ĩ->(V->AH->Prop)->AH->Prop
noncomputable def ę:Nat:=1000000
noncomputable def sr (f:V->V->Option Bool):List V->List V->Option Bool
 |[],[]=>some true
 |[],_::_=>some false
 |_::_,[]=>some false
 |a::as,b::bs=>match f a b,sr f as bs with
  |some x,some y=>some (x&&y)
  |_,_=>Option.none
noncomputable def sI:Nat->V->V->Option Bool
 |0,_,_=>Option.none
 |n+1,a,b=>match a,b with
  | .none,.none=>some true
  | .bool a,.bool b=>some (a==b)
  | .int a,.int b=>some (a==b)
  | .str a,.str b=>some (a==b)
  | .none,.str _=>some false
  | .str _,.none=>some false
  | .tup as,.tup bs=>sr (sI n) as bs
  | .lst as,.lst bs=>if as.length=bs.length then sr (sI n) as bs else some false
  |_,_=>Option.none
noncomputable def lU (a b:V):Option Bool:=sI 8 a b
noncomputable def v7 (o:Option (Option O)):Option Bool:=match o with
 |some (some (.list vs))=>some (!vs.isEmpty)
 |_=>Option.none
noncomputable def fB:V->AH->Option Bool
 | .none,_=>some false
 | .bool b,_=>some b
 | .int i,_=>some (i != 0)
 | .str l,_=>some (!l.isEmpty)
 | .tup l,_=>some (!l.isEmpty)
 | .lst l,_=>some (!l.isEmpty)
 | .obj i,H=>v7 H[i]?
 |_,_=>Option.none
noncomputable def Ac (v:V)(o:Option (Option O)):V:=match o with
 |some (some (.list vs))=> .lst vs
 |_=>v
noncomputable def seeL (v:V)(H:AH):V:=match v with
 | .obj i=>Ac (.obj i) H[i]?
 |v=>v
theorem xV {H:AH}{i:Nat}{l:List V}(h:H[i]? =some (some (.list l))):seeL (.obj i) H= .lst l:=È (Ac (.obj i)) h
theorem qG (v:V)(H:AH):seeL v H=v∨∃i vs,v= .obj i∧H[i]? =some (some (.list vs))∧seeL v H= .lst vs:=by
 cases v with
 |obj i=>
  cases h:H[i]? with
  |none=>exact .inl (È (Ac (.obj i)) h)
  |some o=>cases o with
   |none=>exact .inl (È (Ac (.obj i)) h)
   |some o=>cases o with
    |list vs=>exact .inr ⟨i,vs,rfl,h,È (Ac (.obj i)) h⟩
    |_=>exact .inl (È (Ac (.obj i)) h)
 |_=>exact .inl rfl
noncomputable def jd (lo hi st:Int):List V:=
 if 0<st then (List.range (((hi-lo+st-1)/st).toNat:Nat)).map λ(k:Nat)=>V.int (lo+st*(k:Int))
 else if st<0 then (List.range ((lo-hi-st-1)/(-st)).toNat).map λ(k:Nat)=>V.int (lo+st*(k:Int))
 else []
noncomputable def qP (o:Option (Option O)):Option (List V):=match o with
 |some (some (.list vs))=>some vs
 |_=>Option.none
noncomputable def ŵ:V->AH->Option (List V)
 | .lst vs,_=>some vs
 | .tup vs,_=>some vs
 | .str l,_=>some (l.map λc=> .str [c])
 | .rng lo hi st,_=>if (st=1∨st= -1)∧lo.natAbs<=ę∧hi.natAbs<=ę then some (jd lo hi st) else Option.none
 | .dic es,_=>if (es.map (·.1)).Nodup∧(∀e∈es,e.1.length<=ę) then some (es.map λe=> .str e.1) else Option.none
 | .obj i,H=>qP H[i]?
 |_,_=>Option.none
def Ũ:V->AH->AH->Prop
 | .obj i,H,H'=>H'[i]? =H[i]?
 |_,_,_=>True
noncomputable def b7:List V->Option (List (List Nat))
 |[]=>some []
 | .str s::r=>(b7 r).map (s::·)
 |_::_=>Option.none
noncomputable def gR:List V->Option (List Int)
 |[]=>some []
 | .int s::r=>(gR r).map (s::·)
 |_::_=>Option.none
noncomputable def qr (x:V)(vs:List V):Option Bool:=match x with
 | .str k=>(b7 vs).map (·.contains k)
 | .int i=>(gR vs).map (·.contains i)
 |_=>Option.none
noncomputable def cS (i:Int)(n:Nat):Option Nat:=
 let j:=if i<0 then i+n else i
 if 0<=j∧j<n then some j.toNat else Option.none
noncomputable def bP (i:Int)(n:Nat):Nat:=if i<0 then (i+n).toNat else min i.toNat n
noncomputable def Wy (c:Nat):Bool:=48<=c&&c<=57
noncomputable def WA (l:List Nat):Int:=l.foldl (λ(a:Int) (c:Nat)=>a*10+((c:Int)-48)) 0
noncomputable def Às (c:Nat):Option Int:=
 if 48<=c∧c<=57 then some ((c:Int)-48) else if 97<=c∧c<=102 then some ((c:Int)-87) else if 65<=c∧c<=70 then some ((c:Int)-55) else Option.none
noncomputable def jT (i:Int):List Nat:=(toString i).toList.map Char.toNat
noncomputable def ü (sub l:List Nat):Nat->Option Nat
 |0=>Option.none
 |f+1=>if sub.isPrefixOf l then some 0 else match l with
  |[]=>Option.none
  |_::r=>(ü sub r f).map (·+1)
noncomputable def ø (sep:List Nat):List (List Nat)->List Nat
 |[]=>[]
 |[x]=>x
 |x::r=>x++sep++ø sep r
noncomputable def insI (x:Int):List Int->List Int
 |[]=>[x]
 |y::r=>if x<y then x::y::r else if x=y then y::r else y::insI x r
noncomputable def Ē (l:List Int):List Int:=l.foldl (λa x=>insI x a) []
noncomputable def aH (cs l:List Nat):List Nat:=(l.reverse.dropWhile λc=>cs.contains c).reverse
noncomputable def fH (cs l:List Nat):List Nat:=l.dropWhile λc=>cs.contains c
theorem vW {a b:Bool}(h:(a&&b)=true):a=true∧b=true:=by
 rw[Ð] at h;exact h
theorem aL {a b:Bool}(h:(a&&b)=true):a=true:=(vW h).1
theorem aR {a b:Bool}(h:(a&&b)=true):b=true:=(vW h).2
theorem fT {p:Prop}(h:false=true):p:=nomatch h
theorem nS {α:Type _}{x:α}{p:Prop}(h:Option.none=some x):p:=nomatch h
theorem lJ {α:Sort _}{a b:α}:(if true=true then a else b)=a:=rfl
theorem b4 {α:Sort _}{a b:α}:(if false=true then a else b)=b:=rfl
theorem Ã4 {b:Bool}:(true&&b)=b:=rfl
theorem Z6 {b:Bool}:(false&&b)=false:=rfl
theorem tOr {b:Bool}:(true||b)=true:=rfl
theorem fOr {b:Bool}:(false||b)=b:=rfl
structure FD where
 name:String
 qual:String
 addr:Nat
 np:Nat
 dflts:List V
 slots:List String
 body:List PS
noncomputable def ħ:Nat->String
 |0=>"offset"
 |1=>"line"
 |2=>"column"
 |3=>"what"
 |4=>"at"
 |5=>"text"
 |6=>"word"
 |7=>"worth"
 |8=>"number"
 |9=>"conditions"
 |10=>"pattern"
 |11=>"steps"
 |12=>"definitions"
 |13=>"rules"
 |14=>"has_default"
 |15=>"tail"
 |16=>"lines"
 |17=>"row"
 |18=>"drafts"
 |19=>"scopes"
 |_=>"?"
noncomputable def fU:Nat->String
 |0=>"append"
 |1=>"join"
 |2=>"startswith"
 |3=>"rstrip"
 |4=>"strip"
 |5=>"find"
 |6=>"pop"
 |7=>"reverse"
 |8=>"extend"
 |9=>"index"
 |10=>"built_rules"
 |11=>"coded"
 |12=>"condition_number"
 |13=>"conditions_at"
 |14=>"definition_of"
 |15=>"end_rule"
 |16=>"escape"
 |17=>"is_done"
 |18=>"is_end"
 |19=>"is_live"
 |20=>"live_rules"
 |21=>"name"
 |22=>"names"
 |23=>"pattern_of"
 |24=>"peek"
 |25=>"plain_conditions"
 |26=>"quoted"
 |27=>"read"
 |28=>"read_declaration"
 |29=>"read_definition"
 |30=>"read_definitions"
 |31=>"read_line"
 |32=>"read_rules"
 |33=>"show"
 |34=>"skip"
 |35=>"skip_blanks"
 |36=>"starts"
 |37=>"take"
 |38=>"take_while"
 |39=>"told"
 |_=>"?"
noncomputable def jn:Nat->String
 |0=>"len"
 |1=>"range"
 |2=>"min"
 |3=>"max"
 |4=>"int"
 |5=>"chr"
 |6=>"ord"
 |7=>"str"
 |8=>"tuple"
 |9=>"list"
 |_=>"?"
noncomputable def mz:Nat->String
 |0=>"SMALL"
 |1=>"LETTERS"
 |2=>"FIGURES"
 |3=>"NAME_SIGNS"
 |4=>"HEX_SIGNS"
 |5=>"OCTAL_SIGNS"
 |6=>"MOST_FIGURES_source"
 |7=>"PLAIN_ESCAPES"
 |8=>"BLANKS"
 |9=>"MARK"
 |10=>"REMARK"
 |11=>"END_WORD"
 |12=>"FIRST_CONDITION"
 |13=>"MOST_FIGURES_lexfile"
 |14=>"STEP_WORTHS"
 |15=>"LAST_STEPS"
 |16=>"NOT_AT_END"
 |17=>"_law_POOL"
 |18=>"_law_DEFINED"
 |19=>"_law_RAWS"
 |20=>"_law_BAD_DEFINITIONS"
 |21=>"_law_BAD_RULES"
 |_=>"?"
noncomputable def jU:Nat->String
 |0=>"Position"
 |1=>"ToolError"
 |2=>"LexError"
 |3=>"Cursor"
 |4=>"LexStep"
 |5=>"LexRule"
 |6=>"RawPattern"
 |7=>"LexFile"
 |8=>"OutlineReader"
 |_=>"?"
noncomputable def Ě:Nat->Nat
 |0=>46
 |1=>82
 |2=>95
 |3=>222
 |4=>280
 |5=>341
 |6=>369
 |7=>420
 |8=>570
 |_=>0
noncomputable def l6:Nat->Bool
 |0=>true
 |1=>false
 |2=>false
 |3=>false
 |4=>true
 |5=>true
 |6=>true
 |7=>true
 |8=>false
 |_=>false
noncomputable def kH:Nat->Option Nat
 |0=>some 0
 |3=>some 3
 |4=>some 18
 |5=>some 21
 |6=>some 25
 |7=>some 27
 |8=>some 41
 |_=>Option.none
noncomputable def mtL:List ((Nat×Nat)×Nat):=[((0,39),1),((3,17),4),((3,24),5),((3,36),6),((3,37),7),((3,34),8),((3,38),9),((3,35),10),((3,21),11),((3,11),12),((3,16),13),((3,26),14),((4,39),19),((4,33),20),((5,18),22),((5,19),23),((5,39),24),((6,39),26),((7,12),28),((7,25),29),((7,20),30),((7,15),31),((7,39),32),((8,22),42),((8,23),43),((8,14),44),((8,27),45),((8,30),46),((8,28),47),((8,29),48),((8,32),49),((8,31),50),((8,13),51),((8,10),52)]
noncomputable def ż (c m:Nat):Option Nat:=mtL.lookup (c,m)
theorem Wt:ż 0 39=some 1:=rfl
theorem Wq:ż 3 17=some 4:=rfl
theorem Wn:ż 3 24=some 5:=rfl
theorem Wj:ż 3 36=some 6:=rfl
theorem Wi:ż 3 37=some 7:=rfl
theorem Wl:ż 3 34=some 8:=rfl
theorem Wh:ż 3 38=some 9:=rfl
theorem Wk:ż 3 35=some 10:=rfl
theorem Wo:ż 3 21=some 11:=rfl
theorem Ws:ż 3 11=some 12:=rfl
theorem Wr:ż 3 16=some 13:=rfl
theorem Wm:ż 3 26=some 14:=rfl
theorem Wf:ż 4 39=some 19:=rfl
theorem Wg:ż 4 33=some 20:=rfl
theorem Wb:ż 5 18=some 22:=rfl
theorem Wa:ż 5 19=some 23:=rfl
theorem V9:ż 5 39=some 24:=rfl
theorem V8:ż 6 39=some 26:=rfl
theorem V7:ż 7 12=some 28:=rfl
theorem V4:ż 7 25=some 29:=rfl
theorem V5:ż 7 20=some 30:=rfl
theorem V6:ż 7 15=some 31:=rfl
theorem V3:ż 7 39=some 32:=rfl
theorem VZ:ż 8 22=some 42:=rfl
theorem VY:ż 8 23=some 43:=rfl
theorem V0:ż 8 14=some 44:=rfl
theorem VX:ż 8 27=some 45:=rfl
theorem VS:ż 8 30=some 46:=rfl
theorem VW:ż 8 28=some 47:=rfl
theorem VT:ż 8 29=some 48:=rfl
theorem VP:ż 8 32=some 49:=rfl
theorem VQ:ż 8 31=some 50:=rfl
theorem V1:ż 8 13=some 51:=rfl
theorem V2:ż 8 10=some 52:=rfl
noncomputable def Zd:List Nat:=[97,98,99,100,101,102,103,104,105,106,107,108,109,110,111,112,113,114,115,116,117,118,119,120,121,122,65,66,67,68,69,70,71,72,73,74,75,76,77,78,79,80,81,82,83,84,85,86,87,88,89,90]
noncomputable def tj:List Nat:=[48,49,50,51,52,53,54,55,56,57]
noncomputable def Mm:List Nat:=[97,98,99,100,101,102,103,104,105,106,107,108,109,110,111,112,113,114,115,116,117,118,119,120,121,122,65,66,67,68,69,70,71,72,73,74,75,76,77,78,79,80,81,82,83,84,85,86,87,88,89,90,95,48,49,50,51,52,53,54,55,56,57]
noncomputable def Zc:List Nat:=[48,49,50,51,52,53,54,55,56,57,97,98,99,100,101,102,65,66,67,68,69,70]
noncomputable def ij:List Nat:=[32,9]
noncomputable def WR:List (List Nat×V):=[([114,101,116,117,114,110],.str [107,105,110,100]),([115,107,105,112],.str []),([98,101,103,105,110],.str [99,111,110,100,105,116,105,111,110]),([112,117,115,104],.str [99,111,110,100,105,116,105,111,110]),([112,111,112],.str []),([109,111,114,101],.str []),([108,101,115,115],.str [110,117,109,98,101,114]),([114,101,106,101,99,116],.str []),([101,99,104,111],.str [])]
noncomputable def Cz:List V:=[.str [114,101,116,117,114,110],.str [114,101,106,101,99,116]]
noncomputable def MD:List V:=[.str [109,111,114,101],.str [108,101,115,115],.str [114,101,106,101,99,116]]
noncomputable def Cv:List V:=[.str [65],.str [66,95,50],.str [99,51]]
noncomputable def CH:List V:=[.str [68],.str [69,95,49],.str [65]]
noncomputable def Ct:List V:=[.str [97],.str [91,32,9,34,93,43],.str [34,32,124,34],.str [92,32,120],.str [91,93,97,93],.str [91,94,93,32,93],.str [91,91,58,97,108,112,104,97,58,93,32,34,93,42],.str [120,47,91,32,93,36],.str [97,34,98,32,99,34,100],.str [94,123,68,125,43],.str [91,34,92,93,93,34,93,34],.str [60,98],.str [47,47,99],.str [34,92,34,32,93,34],.str [91,91,58,32,120,93],.str [91,94,92,93,32,93]]
noncomputable def CM:List V:=[.tup [.str [37,121,32,65],.int 1],.tup [.str [37,111,112,116,105,111,110,32,120],.int 9],.tup [.str [37,120],.int 3],.tup [.str [37,115,32,32],.int 5],.tup [.str [37,115,32,99,52,44],.int 6],.tup [.str [37,120,32,57],.int 4],.tup [.str [70],.int 2],.tup [.str [70,32,32],.int 4],.tup [.str [70,32,97,32,98],.int 5],.tup [.str [32,70,32,97],.int 1],.tup [.str [70,32,34,97],.int 3],.tup [.str [70,32,91,94,93],.int 3],.tup [.str [70,32,97,92],.int 4],.tup [.str [70,32,91,97,92],.int 3],.tup [.str [70,32,34,97,92],.int 3]]
noncomputable def CL:List V:=[.tup [.str [97],.int 2],.tup [.str [97,32,32],.int 4],.tup [.str [34,97,32,115,107,105,112],.int 1],.tup [.str [91,97,93,32,115,107,105,112,32,115,107,105,112],.int 10],.tup [.str [97,32,104,97,108,116],.int 3],.tup [.str [97,32,98,101,103,105,110,32,67],.int 9],.tup [.str [97,32,108,101,115,115],.int 7],.tup [.str [97,32,114,101,116,117,114,110,32,39,120,121,39],.int 10],.tup [.str [97,32,124,32,120],.int 5],.tup [.str [97,32,114,101,116,117,114,110,32,78,59,32,112,111,112],.int 13],.tup [.str [60,60,69,79,70,62,62,115,107,105,112],.int 8],.tup [.str [60,67,62,97,32,115,107,105,112],.int 2],.tup [.str [60,73,78,73,84,73,65,76,32,97,32,115,107,105,112],.int 9]]
noncomputable def Hx:Nat->Option V
 |0=>some (.str [97,98,99,100,101,102,103,104,105,106,107,108,109,110,111,112,113,114,115,116,117,118,119,120,121,122])
 |1=>some (.str Zd)
 |2=>some (.str tj)
 |3=>some (.str Mm)
 |4=>some (.str Zc)
 |5=>some (.str [48,49,50,51,52,53,54,55])
 |6=>some (.int 4000)
 |8=>some (.str ij)
 |9=>some (.str [37,37])
 |10=>some (.str [47,47])
 |11=>some (.str [60,60,69,79,70,62,62])
 |12=>some (.str [73,78,73,84,73,65,76])
 |13=>some (.int 6)
 |14=>some (.dic WR)
 |15=>some (.tup Cz)
 |16=>some (.tup MD)
 |17=>some (.tup Cv)
 |18=>some (.tup CH)
 |19=>some (.tup Ct)
 |20=>some (.tup CM)
 |21=>some (.tup CL)
 |_=>Option.none
noncomputable def UW:List PS:=[.setA (.var 0) 0 (.var 1),
 .setA (.var 0) 1 (.var 2),
 .setA (.var 0) 2 (.var 3)]
noncomputable def fd0:FD:=⟨"__init__","Position.__init__",36,4,[],["self","offset","line","column"],UW⟩
noncomputable def UV:List PS:=[.ret (.tup [(.attr (.var 0) 1),(.attr (.var 0) 2)])]
noncomputable def KC:FD:=⟨"told","Position.told",43,1,[],["self"],UV⟩
noncomputable def UU:List PS:=[.assign 2 (.bcall 2 [(.bcall 3 [(.var 1),(.lit (.int 0))]),(.bcall 0 [(.var 0)])]),
 .assign 3 (.lit (.int 1)),
 .assign 4 (.lit (.int 0)),
 .forS none 5 (.bcall 1 [(.var 2)]) [.ife (.cmp .eq (.idx (.var 0) (.var 5)) (.lit (.str [10]))) [.assign 3 (.bin .add (.var 3) (.lit (.int 1))),
 .assign 4 (.bin .add (.var 5) (.lit (.int 1)))] []],
 .ret (.new 0 [(.var 2),(.var 3),(.bin .add (.bin .sub (.var 2) (.var 4)) (.lit (.int 1)))])]
noncomputable def fd2:FD:=⟨"position_of","position_of",57,2,[],["text","offset","at","line","begun","here"],UU⟩
noncomputable def UT:List PS:=[.setA (.var 0) 5 (.var 1),
 .setA (.var 0) 4 (.var 2)]
noncomputable def fd3:FD:=⟨"__init__","Cursor.__init__",112,3,[.int 0],["self","text","at"],UT⟩
noncomputable def US:List PS:=[.ret (.cmp .ge (.attr (.var 0) 4) (.bcall 0 [(.attr (.var 0) 5)]))]
noncomputable def fd4:FD:=⟨"is_done","Cursor.is_done",119,1,[],["self"],US⟩
noncomputable def UR:List PS:=[.assign 2 (.bin .add (.attr (.var 0) 4) (.var 1)),
 .ife (.cmp .lt (.var 2) (.bcall 0 [(.attr (.var 0) 5)])) [.ret (.idx (.attr (.var 0) 5) (.var 2))] [],
 .ret (.lit (.str []))]
noncomputable def fd5:FD:=⟨"peek","Cursor.peek",127,2,[.int 0],["self","ahead","at"],UR⟩
noncomputable def UQ:List PS:=[.ret (.cmp .eq (.slc (.attr (.var 0) 5) (some (.attr (.var 0) 4)) (some (.bin .add (.attr (.var 0) 4) (.bcall 0 [(.var 1)])))) (.var 1))]
noncomputable def fd6:FD:=⟨"starts","Cursor.starts",134,2,[],["self","word"],UQ⟩
noncomputable def UP:List PS:=[.ife (.meth (.var 0) 17 []) [.ret (.lit (.str []))] [],
 .assign 1 (.idx (.attr (.var 0) 5) (.attr (.var 0) 4)),
 .setA (.var 0) 4 (.bin .add (.attr (.var 0) 4) (.lit (.int 1))),
 .ret (.var 1)]
noncomputable def fd7:FD:=⟨"take","Cursor.take",141,1,[],["self","sign"],UP⟩
noncomputable def UO:List PS:=[.ife (.notE (.meth (.var 0) 36 [(.var 1)])) [.ret (.lit (.bool false))] [],
 .setA (.var 0) 4 (.bin .add (.attr (.var 0) 4) (.bcall 0 [(.var 1)])),
 .ret (.lit (.bool true))]
noncomputable def fd8:FD:=⟨"skip","Cursor.skip",148,2,[],["self","word"],UO⟩
noncomputable def UN:List PS:=[.assign 2 (.attr (.var 0) 4),
 .whileS (.andE (.cmp .lt (.attr (.var 0) 4) (.bcall 0 [(.attr (.var 0) 5)])) (.cmp .in_ (.idx (.attr (.var 0) 5) (.attr (.var 0) 4)) (.var 1))) [.setA (.var 0) 4 (.bin .add (.attr (.var 0) 4) (.lit (.int 1)))],
 .ret (.slc (.attr (.var 0) 5) (some (.var 2)) (some (.attr (.var 0) 4)))]
noncomputable def fd9:FD:=⟨"take_while","Cursor.take_while",155,2,[],["self","signs","begun"],UN⟩
noncomputable def Qe:List PS:=[.expr (.meth (.var 0) 38 [(.var 1)])]
noncomputable def Z5:FD:=⟨"skip_blanks","Cursor.skip_blanks",170,2,[.str [32,9]],["self","signs"],Qe⟩
noncomputable def Qd:List PS:=[.assign 1 (.meth (.var 0) 24 []),
 .ife (.or3 (.cmp .eq (.var 1) (.lit (.str []))) (.cmp .nin (.var 1) (.glob 3)) (.cmp .in_ (.var 1) (.glob 2))) [.ret (.lit (.str []))] [],
 .ret (.meth (.var 0) 38 [(.glob 3)])]
noncomputable def Z4:FD:=⟨"name","Cursor.name",177,1,[],["self","here"],Qd⟩
noncomputable def Qc:List PS:=[.assign 4 (.lit (.int 0)),
 .assign 5 (.lit (.int 0)),
 .whileS (.and3 (.cmp .lt (.var 5) (.var 2)) (.cmp .ne (.meth (.var 0) 24 []) (.lit (.str []))) (.cmp .in_ (.meth (.var 0) 24 []) (.var 1))) [.assign 4 (.bin .add (.bin .mul (.var 4) (.var 3)) (.bcall 4 [(.meth (.var 0) 37 []),(.lit (.int 16))])),
 .assign 5 (.bin .add (.var 5) (.lit (.int 1)))],
 .ret (.bcall 5 [(.var 4)])]
noncomputable def Äd:FD:=⟨"coded","Cursor.coded",205,4,[],["self","signs","most","base","code","taken"],Qc⟩
noncomputable def Qb:List PS:=[.assign 1 (.meth (.var 0) 24 []),
 .ife (.cmp .eq (.var 1) (.lit (.str []))) [.ret (.lit (.str []))] [],
 .ife (.cmp .in_ (.var 1) (.glob 7)) [.expr (.meth (.var 0) 37 []),
 .ret (.bcall 5 [(.idx (.glob 7) (.var 1))])] [],
 .ife (.cmp .in_ (.var 1) (.glob 5)) [.ret (.meth (.var 0) 11 [(.glob 5),(.lit (.int 3)),(.lit (.int 8))])] [],
 .ife (.and3 (.cmp .eq (.var 1) (.lit (.str [120]))) (.cmp .ne (.meth (.var 0) 24 [(.lit (.int 1))]) (.lit (.str []))) (.cmp .in_ (.meth (.var 0) 24 [(.lit (.int 1))]) (.glob 4))) [.expr (.meth (.var 0) 37 []),
 .ret (.meth (.var 0) 11 [(.glob 4),(.lit (.int 2)),(.lit (.int 16))])] [],
 .ret (.meth (.var 0) 37 [])]
noncomputable def Äc:FD:=⟨"escape","Cursor.escape",212,1,[],["self","sign"],Qb⟩
noncomputable def Qa:List PS:=[.assign 2 (.lst false []),
 .whileS (.notE (.meth (.var 0) 17 [])) [.assign 3 (.meth (.var 0) 37 []),
 .ife (.cmp .eq (.var 3) (.var 1)) [.ret (.meth (.lit (.str [])) 1 [(.var 2)])] [],
 .ife (.cmp .eq (.var 3) (.lit (.str [92]))) [.assign 3 (.meth (.var 0) 16 []),
 .ife (.cmp .eq (.var 3) (.lit (.str []))) [.ret (.lit (.none))] []] [],
 .expr (.meth (.var 2) 0 [(.var 3)])],
 .ret (.lit (.none))]
noncomputable def Z3:FD:=⟨"quoted","Cursor.quoted",219,2,[],["self","end","signs","sign"],Qa⟩
noncomputable def P9:List PS:=[.assign 1 (.lit (.str [48,49,50,51,52,53,54,55,56,57,97,98,99,100,101,102])),
 .ret (.bin .add (.bin .add (.lit (.str [92,120])) (.idx (.var 1) (.bin .fdiv (.var 0) (.lit (.int 16))))) (.idx (.var 1) (.bin .mod (.var 0) (.lit (.int 16)))))]
noncomputable def Z2:FD:=⟨"hex_escape","hex_escape",233,1,[],["code","figures"],P9⟩
noncomputable def P8:List PS:=[.ife (.cmp .eq (.var 0) (.lit (.str [10]))) [.ret (.lit (.str [92,110]))] [],
 .ife (.cmp .eq (.var 0) (.lit (.str [9]))) [.ret (.lit (.str [92,116]))] [],
 .ife (.orE (.cmp .in_ (.var 0) (.var 1)) (.cmp .eq (.var 0) (.lit (.str [92])))) [.ret (.bin .add (.lit (.str [92])) (.var 0))] [],
 .assign 2 (.bcall 6 [(.var 0)]),
 .ife (.andE (.orE (.cmp .lt (.var 2) (.lit (.int 32))) (.cmp .gt (.var 2) (.lit (.int 126)))) (.cmp .lt (.var 2) (.lit (.int 256)))) [.ret (.call 15 [(.var 2)])] [],
 .ret (.var 0)]
noncomputable def Z1:FD:=⟨"escaped_sign","escaped_sign",240,2,[],["sign","marks","code"],P8⟩
noncomputable def P7:List PS:=[.ret (.meth (.lit (.str [])) 1 [(.comp (.call 16 [(.var 0),(.var 1)]) none (.var 0) none [1])])]
noncomputable def Z0:FD:=⟨"escaped","escaped",245,2,[],["text","end"],P7⟩
noncomputable def P6:List PS:=[.setA (.var 0) 6 (.var 1),
 .setA (.var 0) 7 (.var 2)]
noncomputable def ZZ:FD:=⟨"__init__","LexStep.__init__",263,3,[.none],["self","word","worth"],P6⟩
noncomputable def P5:List PS:=[.ret (.tup [(.attr (.var 0) 6),(.attr (.var 0) 7)])]
noncomputable def ZY:FD:=⟨"told","LexStep.told",270,1,[],["self"],P5⟩
noncomputable def P4:List PS:=[.ife (.cmp .is_ (.attr (.var 0) 7) (.lit (.none))) [.ret (.attr (.var 0) 6)] [],
 .ret (.bin .add (.bin .add (.attr (.var 0) 6) (.lit (.str [32]))) (.bcall 7 [(.attr (.var 0) 7)]))]
noncomputable def ZX:FD:=⟨"show","LexStep.show",277,1,[],["self"],P4⟩
noncomputable def P3:List PS:=[.setA (.var 0) 8 (.var 1),
 .setA (.var 0) 9 (.var 2),
 .setA (.var 0) 10 (.var 3),
 .setA (.var 0) 11 (.var 4),
 .setA (.var 0) 1 (.var 5)]
noncomputable def ZW:FD:=⟨"__init__","LexRule.__init__",298,6,[],["self","number","conditions","pattern","steps","line"],P3⟩
noncomputable def P2:List PS:=[.ret (.cmp .is_ (.attr (.var 0) 10) (.lit (.none)))]
noncomputable def ZV:FD:=⟨"is_end","LexRule.is_end",305,1,[],["self"],P2⟩
noncomputable def P1:List PS:=[.ret (.cmp .in_ (.var 1) (.attr (.var 0) 9))]
noncomputable def ZU:FD:=⟨"is_live","LexRule.is_live",312,2,[],["self","condition"],P1⟩
noncomputable def D8:List PS:=[.assign 1 (.ite (.cmp .is_ (.attr (.var 0) 10) (.lit (.none))) (.lit (.none)) (.meth (.attr (.var 0) 10) 39 [])),
 .ret (.tup [(.attr (.var 0) 9),(.var 1),(.bcall 8 [(.comp (.meth (.var 0) 39 []) none (.attr (.var 0) 11) none [])])])]
noncomputable def ZT:FD:=⟨"told","LexRule.told",338,1,[],["self","shape"],D8⟩
noncomputable def P0:List PS:=[.setA (.var 0) 5 (.var 1)]
noncomputable def ZS:FD:=⟨"__init__","RawPattern.__init__",359,2,[],["self","text"],P0⟩
noncomputable def PZ:List PS:=[.ret (.tup [(.lit (.str [114,97,119])),(.attr (.var 0) 5)])]
noncomputable def ZR:FD:=⟨"told","RawPattern.told",366,1,[],["self"],PZ⟩
noncomputable def PY:List PS:=[.setA (.var 0) 12 (.var 1),
 .setA (.var 0) 9 (.var 2),
 .setA (.var 0) 13 (.var 3),
 .setA (.var 0) 14 (.var 4),
 .setA (.var 0) 15 (.var 5)]
noncomputable def ZQ:FD:=⟨"__init__","LexFile.__init__",388,6,[.bool true,.str []],["self","definitions","conditions","rules","has_default","tail"],PY⟩
noncomputable def PX:List PS:=[.forS none 2 (.bcall 1 [(.bcall 0 [(.attr (.var 0) 9)])]) [.ife (.cmp .eq (.idx (.idx (.attr (.var 0) 9) (.var 2)) (.lit (.int 0))) (.var 1)) [.ret (.var 2)] []],
 .ret (.lit (.int (-1)))]
noncomputable def ZP:FD:=⟨"condition_number","LexFile.condition_number",395,2,[],["self","name","number"],PX⟩
noncomputable def PW:List PS:=[.ret (.bcall 8 [(.comp (.var 0) none (.bcall 1 [(.bcall 0 [(.attr (.var 0) 9)])]) (some (.notE (.idx (.idx (.attr (.var 1) 9) (.var 0)) (.lit (.int 1))))) [0])])]
noncomputable def ZO:FD:=⟨"plain_conditions","LexFile.plain_conditions",400,1,[],["self"],PW⟩
noncomputable def PV:List PS:=[.ret (.comp (.var 0) none (.attr (.var 0) 13) (some (.andE (.notE (.meth (.var 0) 18 [])) (.meth (.var 0) 19 [(.var 1)]))) [1])]
noncomputable def ZN:FD:=⟨"live_rules","LexFile.live_rules",405,2,[],["self","condition"],PV⟩
noncomputable def PU:List PS:=[.forS none 2 (.attr (.var 0) 13) [.ife (.andE (.meth (.var 2) 18 []) (.meth (.var 2) 19 [(.var 1)])) [.ret (.var 2)] []],
 .ret (.lit (.none))]
noncomputable def ZM:FD:=⟨"end_rule","LexFile.end_rule",412,2,[],["self","condition","rule"],PU⟩
noncomputable def PO:List PS:=[.ret (.tup [(.bcall 8 [(.comp (.tup [(.var 0),(.meth (.idx (.attr (.var 1) 12) (.var 0)) 39 [])]) none (.attr (.var 0) 12) none [0])]),(.bcall 8 [(.comp (.tup [(.var 0),(.var 1)]) (some 2) (.attr (.var 0) 9) none [])]),(.bcall 8 [(.comp (.meth (.var 0) 39 []) none (.attr (.var 0) 13) none [])]),(.attr (.var 0) 14),(.attr (.var 0) 15)])]
noncomputable def ZL:FD:=⟨"told","LexFile.told",417,1,[],["self"],PO⟩
noncomputable def PN:List PS:=[.raise (.var 1) (.call 2 [(.attr (.var 0) 5),(.var 2)])]
noncomputable def ZK:FD:=⟨"fail","fail",431,3,[],["cursor","what","at"],PN⟩
noncomputable def D7:List PS:=[.assign 1 (.lst false []),
 .assign 2 (.lit (.int 0)),
 .whileS (.cmp .lt (.var 2) (.bcall 0 [(.var 0)])) [.assign 3 (.meth (.var 0) 5 [(.lit (.str [10])),(.var 2)]),
 .ife (.cmp .lt (.var 3) (.lit (.int 0))) [.assign 3 (.bcall 0 [(.var 0)])] [],
 .expr (.meth (.var 1) 0 [(.tup [(.var 2),(.var 3)])]),
 .assign 2 (.bin .add (.var 3) (.lit (.int 1)))],
 .ret (.var 1)]
noncomputable def ZJ:FD:=⟨"lines_of","lines_of",438,1,[],["text","spans","start","end"],D7⟩
noncomputable def PM:List PS:=[.ret (.orE (.cmp .eq (.meth (.var 0) 4 [(.glob 8)]) (.lit (.str []))) (.meth (.var 0) 2 [(.glob 10)]))]
noncomputable def ZI:FD:=⟨"is_left_out","is_left_out",445,1,[],["line"],PM⟩
noncomputable def D6:List PS:=[.assign 2 (.attr (.var 0) 5),
 .assign 3 (.bin .add (.var 1) (.lit (.int 1))),
 .whileS (.andE (.cmp .lt (.var 3) (.bcall 0 [(.var 2)])) (.cmp .ne (.idx (.var 2) (.var 3)) (.lit (.str [34])))) [.augV 3 .add (.ite (.cmp .eq (.idx (.var 2) (.var 3)) (.lit (.str [92]))) (.lit (.int 2)) (.lit (.int 1)))],
 .ife (.cmp .ge (.var 3) (.bcall 0 [(.var 2)])) [.expr (.call 33 [(.var 0),(.lit (.str [97,32,113,117,111,116,101,32,119,105,116,104,111,117,116,32,105,116,115,32,112,97,114,116,110,101,114])),(.var 1)])] [],
 .ret (.bin .add (.var 3) (.lit (.int 1)))]
noncomputable def ZH:FD:=⟨"quote_end","quote_end",452,2,[],["cursor","begun","text","at"],D6⟩
noncomputable def qY:List PS:=[.assign 2 (.attr (.var 0) 5),
 .assign 3 (.bin .add (.var 1) (.lit (.int 1))),
 .ife (.cmp .eq (.slc (.var 2) (some (.var 3)) (some (.bin .add (.var 3) (.lit (.int 1))))) (.lit (.str [94]))) [.augV 3 .add (.lit (.int 1))] [],
 .assign 4 (.lit (.bool true)),
 .whileS (.andE (.cmp .lt (.var 3) (.bcall 0 [(.var 2)])) (.orE (.var 4) (.cmp .ne (.idx (.var 2) (.var 3)) (.lit (.str [93]))))) [.assign 4 (.lit (.bool false)),
 .ife (.andE (.cmp .eq (.slc (.var 2) (some (.var 3)) (some (.bin .add (.var 3) (.lit (.int 2))))) (.lit (.str [91,58]))) (.cmp .ge (.meth (.var 2) 5 [(.lit (.str [58,93])),(.var 3)]) (.lit (.int 0)))) [.assign 3 (.bin .add (.meth (.var 2) 5 [(.lit (.str [58,93])),(.var 3)]) (.lit (.int 2)))] [.augV 3 .add (.ite (.cmp .eq (.idx (.var 2) (.var 3)) (.lit (.str [92]))) (.lit (.int 2)) (.lit (.int 1)))]],
 .ife (.cmp .ge (.var 3) (.bcall 0 [(.var 2)])) [.expr (.call 33 [(.var 0),(.lit (.str [91,32,119,105,116,104,111,117,116,32,105,116,115,32,93])),(.var 1)])] [],
 .ret (.bin .add (.var 3) (.lit (.int 1)))]
noncomputable def ZG:FD:=⟨"class_end","class_end",459,2,[],["cursor","begun","text","at","is_first"],qY⟩
noncomputable def D5:List PS:=[.assign 1 (.attr (.var 0) 5),
 .assign 2 (.attr (.var 0) 4),
 .assign 3 (.var 2),
 .whileS (.andE (.cmp .lt (.var 3) (.bcall 0 [(.var 1)])) (.cmp .nin (.idx (.var 1) (.var 3)) (.glob 8))) [.ife (.cmp .eq (.idx (.var 1) (.var 3)) (.lit (.str [34]))) [.assign 3 (.call 36 [(.var 0),(.var 3)])] [.ife (.cmp .eq (.idx (.var 1) (.var 3)) (.lit (.str [91]))) [.assign 3 (.call 37 [(.var 0),(.var 3)])] [.augV 3 .add (.ite (.cmp .eq (.idx (.var 1) (.var 3)) (.lit (.str [92]))) (.lit (.int 2)) (.lit (.int 1)))]]],
 .ife (.cmp .gt (.var 3) (.bcall 0 [(.var 1)])) [.expr (.call 33 [(.var 0),(.lit (.str [97,32,98,97,99,107,115,108,97,115,104,32,97,116,32,116,104,101,32,101,110,100])),(.bin .sub (.bcall 0 [(.var 1)]) (.lit (.int 1)))])] [],
 .ife (.cmp .eq (.var 3) (.var 2)) [.expr (.call 33 [(.var 0),(.lit (.str [97,32,112,97,116,116,101,114,110,32,105,115,32,109,105,115,115,105,110,103])),(.var 2)])] [],
 .setA (.var 0) 4 (.var 3),
 .ret (.new 6 [(.slc (.var 1) (some (.var 2)) (some (.var 3)))])]
noncomputable def ZF:FD:=⟨"raw_at","raw_at",466,1,[],["cursor","text","begun","at"],D5⟩
noncomputable def mU:List PS:=[.assign 2 (.attr (.var 0) 4),
 .assign 3 (.meth (.var 0) 21 []),
 .ife (.cmp .nin (.var 3) (.glob 14)) [.expr (.call 33 [(.var 0),(.lit (.str [117,110,107,110,111,119,110,32,115,116,101,112])),(.var 2)])] [],
 .assign 4 (.idx (.glob 14) (.var 3)),
 .ife (.cmp .eq (.var 4) (.lit (.str []))) [.ret (.new 4 [(.var 3)])] [],
 .expr (.meth (.var 0) 35 []),
 .assign 2 (.attr (.var 0) 4),
 .ife (.cmp .eq (.var 4) (.lit (.str [110,117,109,98,101,114]))) [.assign 5 (.meth (.var 0) 38 [(.glob 2)]),
 .ife (.orE (.cmp .eq (.var 5) (.lit (.str []))) (.cmp .gt (.bcall 0 [(.var 5)]) (.glob 13))) [.expr (.call 33 [(.var 0),(.bin .add (.lit (.str [97,32,98,97,100,32,110,117,109,98,101,114,32,98,101,104,105,110,100,32])) (.var 3)),(.var 2)])] [],
 .ret (.new 4 [(.var 3),(.bcall 4 [(.var 5)])])] [],
 .ife (.andE (.cmp .eq (.var 4) (.lit (.str [107,105,110,100]))) (.meth (.var 0) 34 [(.lit (.str [39]))])) [.assign 6 (.meth (.var 0) 26 [(.lit (.str [39]))]),
 .ife (.orE (.cmp .is_ (.var 6) (.lit (.none))) (.cmp .ne (.bcall 0 [(.var 6)]) (.lit (.int 1)))) [.expr (.call 33 [(.var 0),(.lit (.str [97,32,108,105,116,101,114,97,108,32,105,115,32,111,110,101,32,115,105,103,110])),(.var 2)])] [],
 .ret (.new 4 [(.var 3),(.bin .add (.bin .add (.lit (.str [39])) (.call 17 [(.var 6),(.lit (.str [39]))])) (.lit (.str [39])))])] [],
 .assign 7 (.meth (.var 0) 21 []),
 .ife (.cmp .eq (.var 7) (.lit (.str []))) [.expr (.call 33 [(.var 0),(.bin .add (.lit (.str [97,32,110,97,109,101,32,105,115,32,109,105,115,115,105,110,103,32,98,101,104,105,110,100,32])) (.var 3)),(.var 2)])] [],
 .ife (.andE (.cmp .eq (.var 4) (.lit (.str [99,111,110,100,105,116,105,111,110]))) (.cmp .nin (.var 7) (.var 1))) [.expr (.call 33 [(.var 0),(.bin .add (.lit (.str [117,110,107,110,111,119,110,32,115,116,97,114,116,32,99,111,110,100,105,116,105,111,110,32])) (.var 7)),(.var 2)])] [],
 .ret (.new 4 [(.var 3),(.var 7)])]
noncomputable def ZE:FD:=⟨"step_at","step_at",473,2,[],["cursor","names","at","word","wanted","figures","sign","name"],mU⟩
noncomputable def D4:List PS:=[.assign 2 (.lst false []),
 .whileS (.lit (.bool true)) [.expr (.meth (.var 0) 35 []),
 .ife (.meth (.var 0) 17 []) [.ife (.notE (.var 2)) [.expr (.call 33 [(.var 0),(.lit (.str [97,32,114,117,108,101,32,119,105,116,104,111,117,116,32,115,116,101,112,115])),(.attr (.var 0) 4)])] [],
 .ret (.var 2)] [],
 .ife (.andE (.var 2) (.cmp .in_ (.attr (.idx (.var 2) (.lit (.int (-1)))) 6) (.glob 15))) [.expr (.call 33 [(.var 0),(.bin .add (.lit (.str [97,32,115,116,101,112,32,98,101,104,105,110,100,32])) (.attr (.idx (.var 2) (.lit (.int (-1)))) 6)),(.attr (.var 0) 4)])] [],
 .expr (.meth (.var 2) 0 [(.call 39 [(.var 0),(.var 1)])]),
 .expr (.meth (.var 0) 35 []),
 .ife (.andE (.notE (.meth (.var 0) 17 [])) (.notE (.meth (.var 0) 34 [(.lit (.str [59]))]))) [.expr (.call 33 [(.var 0),(.lit (.str [97,32,59,32,105,115,32,109,105,115,115,105,110,103])),(.attr (.var 0) 4)])] []]]
noncomputable def ZD:FD:=⟨"steps_at","steps_at",480,2,[],["cursor","names","steps"],D4⟩
noncomputable def PL:List PS:=[.setA (.var 0) 5 (.var 1),
 .setA (.var 0) 16 (.call 34 [(.var 1)]),
 .setA (.var 0) 17 (.lit (.int 0)),
 .setA (.var 0) 12 .dct0,
 .setA (.var 0) 9 (.lst false [(.tup [(.glob 12),(.lit (.bool false))])]),
 .setA (.var 0) 14 (.lit (.bool true)),
 .setA (.var 0) 18 (.lst false []),
 .setA (.var 0) 19 (.lst false []),
 .setA (.var 0) 15 (.lit (.str []))]
noncomputable def ZC:FD:=⟨"__init__","OutlineReader.__init__",494,2,[],["self","text"],PL⟩
noncomputable def PK:List PS:=[.ret (.comp (.var 0) (some 2) (.attr (.var 0) 9) none [])]
noncomputable def ZA:FD:=⟨"names","OutlineReader.names",499,1,[],["self"],PK⟩
noncomputable def PJ:List PS:=[.ret (.call 38 [(.var 1)])]
noncomputable def Zz:FD:=⟨"pattern_of","OutlineReader.pattern_of",506,2,[],["self","cursor"],PJ⟩
noncomputable def PI:List PS:=[.ret (.call 38 [(.var 1)])]
noncomputable def Zy:FD:=⟨"definition_of","OutlineReader.definition_of",513,2,[],["self","cursor"],PI⟩
noncomputable def PH:List PS:=[.expr (.meth (.var 0) 30 []),
 .expr (.meth (.var 0) 32 []),
 .assign 1 (.meth (.var 0) 10 []),
 .ret (.new 7 [(.attr (.var 0) 12),(.attr (.var 0) 9),(.var 1),(.attr (.var 0) 14),(.attr (.var 0) 15)])]
noncomputable def Zx:FD:=⟨"read","OutlineReader.read",520,1,[],["self","rules"],PH⟩
noncomputable def qX:List PS:=[.whileS (.cmp .lt (.attr (.var 0) 17) (.bcall 0 [(.attr (.var 0) 16)])) [.assignT [1,2] (.idx (.attr (.var 0) 16) (.attr (.var 0) 17)),
 .augA (.var 0) 17 .add (.lit (.int 1)),
 .assign 3 (.slc (.attr (.var 0) 5) (some (.var 1)) (some (.var 2))),
 .ife (.cmp .eq (.meth (.var 3) 3 [(.glob 8)]) (.glob 9)) [.ret (.lit .none)] [],
 .ife (.call 35 [(.var 3)]) [.cont] [],
 .assign 4 (.new 3 [(.slc (.attr (.var 0) 5) none (some (.var 2))),(.var 1)]),
 .ife (.meth (.var 3) 2 [(.lit (.str [37]))]) [.expr (.meth (.var 0) 28 [(.var 4)])] [.expr (.meth (.var 0) 29 [(.var 4)])]],
 .raise (.lit (.str [110,111,32,108,105,110,101,32,37,37])) (.call 2 [(.attr (.var 0) 5),(.bcall 0 [(.attr (.var 0) 5)])])]
noncomputable def Zw:FD:=⟨"read_definitions","OutlineReader.read_definitions",527,1,[],["self","start","end","line","cursor"],qX⟩
noncomputable def D0:List PS:=[.assign 2 (.attr (.var 1) 4),
 .expr (.meth (.var 1) 37 []),
 .assign 3 (.meth (.var 1) 21 []),
 .ife (.cmp .nin (.var 3) (.tup [(.lit (.str [115])),(.lit (.str [120])),(.lit (.str [111,112,116,105,111,110]))])) [.expr (.call 33 [(.var 1),(.lit (.str [117,110,107,110,111,119,110,32,100,101,99,108,97,114,97,116,105,111,110])),(.var 2)])] [],
 .expr (.meth (.var 1) 35 []),
 .ife (.meth (.var 1) 17 []) [.expr (.call 33 [(.var 1),(.bin .add (.lit (.str [97,32,110,97,109,101,32,105,115,32,109,105,115,115,105,110,103,32,98,101,104,105,110,100,32,37])) (.var 3)),(.attr (.var 1) 4)])] [],
 .whileS (.notE (.meth (.var 1) 17 [])) [.assign 4 (.attr (.var 1) 4),
 .assign 5 (.meth (.var 1) 21 []),
 .ife (.cmp .eq (.var 5) (.lit (.str []))) [.expr (.call 33 [(.var 1),(.bin .add (.lit (.str [97,32,110,97,109,101,32,105,115,32,109,105,115,115,105,110,103,32,98,101,104,105,110,100,32,37])) (.var 3)),(.var 4)])] [],
 .ife (.cmp .eq (.var 3) (.lit (.str [111,112,116,105,111,110]))) [.ife (.cmp .ne (.var 5) (.lit (.str [110,111,100,101,102,97,117,108,116]))) [.expr (.call 33 [(.var 1),(.bin .add (.lit (.str [117,110,107,110,111,119,110,32,111,112,116,105,111,110,32])) (.var 5)),(.var 4)])] [],
 .setA (.var 0) 14 (.lit (.bool false))] [.ife (.cmp .in_ (.var 5) (.meth (.var 0) 22 [])) [.expr (.call 33 [(.var 1),(.bin .add (.bin .add (.lit (.str [115,116,97,114,116,32,99,111,110,100,105,116,105,111,110,32])) (.var 5)) (.lit (.str [32,105,115,32,116,111,108,100,32,116,119,105,99,101]))),(.var 4)])] [],
 .expr (.meth (.attr (.var 0) 9) 0 [(.tup [(.var 5),(.cmp .eq (.var 3) (.lit (.str [120])))])])],
 .ife (.cmp .nin (.meth (.var 1) 24 []) (.tup [(.lit (.str [])),(.lit (.str [32])),(.lit (.str [9]))])) [.expr (.call 33 [(.var 1),(.lit (.str [97,32,115,105,103,110,32,116,104,97,116,32,115,116,97,110,100,115,32,105,110,32,110,111,32,110,97,109,101])),(.attr (.var 1) 4)])] [],
 .expr (.meth (.var 1) 35 [])]]
noncomputable def Zv:FD:=⟨"read_declaration","OutlineReader.read_declaration",534,2,[],["self","cursor","start","word","at","name"],D0⟩
noncomputable def PG:List PS:=[.assign 2 (.attr (.var 1) 4),
 .assign 3 (.meth (.var 1) 21 []),
 .ife (.cmp .eq (.var 3) (.lit (.str []))) [.expr (.call 33 [(.var 1),(.lit (.str [97,32,100,101,102,105,110,105,116,105,111,110,32,98,101,103,105,110,115,32,119,105,116,104,32,105,116,115,32,110,97,109,101])),(.var 2)])] [],
 .ife (.cmp .in_ (.var 3) (.attr (.var 0) 12)) [.expr (.call 33 [(.var 1),(.bin .add (.bin .add (.lit (.str [100,101,102,105,110,105,116,105,111,110,32])) (.var 3)) (.lit (.str [32,105,115,32,116,111,108,100,32,116,119,105,99,101]))),(.var 2)])] [],
 .ife (.cmp .nin (.meth (.var 1) 24 []) (.tup [(.lit (.str [32])),(.lit (.str [9]))])) [.expr (.call 33 [(.var 1),(.bin .add (.lit (.str [97,32,98,108,97,110,107,32,105,115,32,109,105,115,115,105,110,103,32,98,101,104,105,110,100,32])) (.var 3)),(.attr (.var 1) 4)])] [],
 .expr (.meth (.var 1) 35 []),
 .assign 4 (.meth (.var 0) 14 [(.var 1)]),
 .expr (.meth (.var 1) 35 []),
 .ife (.notE (.meth (.var 1) 17 [])) [.expr (.call 33 [(.var 1),(.lit (.str [97,32,100,101,102,105,110,105,116,105,111,110,32,105,115,32,111,110,101,32,114,101,103,117,108,97,114,32,101,120,112,114,101,115,115,105,111,110])),(.attr (.var 1) 4)])] [],
 .setI (.attr (.var 0) 12) (.var 3) (.var 4)]
noncomputable def Zu:FD:=⟨"read_definition","OutlineReader.read_definition",541,2,[],["self","cursor","start","name","node"],PG⟩
noncomputable def wL:List PS:=[.whileS (.cmp .lt (.attr (.var 0) 17) (.bcall 0 [(.attr (.var 0) 16)])) [.assignT [1,2] (.idx (.attr (.var 0) 16) (.attr (.var 0) 17)),
 .augA (.var 0) 17 .add (.lit (.int 1)),
 .assign 3 (.slc (.attr (.var 0) 5) (some (.var 1)) (some (.var 2))),
 .ife (.cmp .eq (.meth (.var 3) 3 [(.glob 8)]) (.glob 9)) [.setA (.var 0) 15 (.slc (.attr (.var 0) 5) (some (.bin .add (.var 2) (.lit (.int 1)))) none),
 .brk] [],
 .ife (.notE (.call 35 [(.var 3)])) [.expr (.meth (.var 0) 31 [(.new 3 [(.slc (.attr (.var 0) 5) none (some (.var 2))),(.var 1)])])] []],
 .ife (.attr (.var 0) 19) [.raise (.lit (.str [97,32,115,99,111,112,101,32,105,115,32,110,111,116,32,99,108,111,115,101,100])) (.call 2 [(.attr (.var 0) 5),(.idx (.idx (.attr (.var 0) 19) (.lit (.int (-1)))) (.lit (.int 1)))])] []]
noncomputable def Zt:FD:=⟨"read_rules","OutlineReader.read_rules",548,1,[],["self","start","end","line"],wL⟩
noncomputable def kN:List PS:=[.assign 2 (.attr (.var 1) 4),
 .ife (.attr (.var 0) 19) [.expr (.meth (.var 1) 35 []),
 .ife (.meth (.var 1) 36 [(.glob 10)]) [.ret (.lit .none)] [],
 .ife (.cmp .eq (.meth (.slc (.attr (.var 1) 5) (some (.attr (.var 1) 4)) none) 3 [(.glob 8)]) (.lit (.str [125]))) [.expr (.meth (.attr (.var 0) 19) 6 []),
 .ret (.lit .none)] []] [.ife (.cmp .in_ (.meth (.var 1) 24 []) (.tup [(.lit (.str [32])),(.lit (.str [9]))])) [.expr (.call 33 [(.var 1),(.lit (.str [97,32,114,117,108,101,32,98,101,103,105,110,115,32,119,105,116,104,32,105,116,115,32,108,105,110,101])),(.var 2)])] []],
 .assign 3 (.lst true []),
 .ife (.attr (.var 0) 19) [.assign 3 (.idx (.idx (.attr (.var 0) 19) (.lit (.int (-1)))) (.lit (.int 0)))] [],
 .assign 4 (.meth (.var 0) 13 [(.var 1)]),
 .ife (.var 4) [.assign 3 (.bin .add (.var 3) (.var 4)),
 .ife (.cmp .eq (.meth (.slc (.attr (.var 1) 5) (some (.attr (.var 1) 4)) none) 3 [(.glob 8)]) (.lit (.str [123]))) [.expr (.meth (.attr (.var 0) 19) 0 [(.tup [(.var 3),(.var 2)])]),
 .ret (.lit .none)] []] [],
 .ife (.notE (.var 3)) [.assign 3 (.comp (.var 0) none (.bcall 1 [(.bcall 0 [(.attr (.var 0) 9)])]) (some (.notE (.idx (.idx (.attr (.var 1) 9) (.var 0)) (.lit (.int 1))))) [0])] [],
 .assign 5 (.lit (.none)),
 .ife (.notE (.meth (.var 1) 34 [(.glob 11)])) [.assign 5 (.meth (.var 0) 23 [(.var 1)])] [],
 .ife (.cmp .nin (.meth (.var 1) 24 []) (.tup [(.lit (.str [32])),(.lit (.str [9]))])) [.expr (.call 33 [(.var 1),(.lit (.str [97,32,98,108,97,110,107,32,97,110,100,32,115,116,101,112,115,32,97,114,101,32,109,105,115,115,105,110,103,32,98,101,104,105,110,100,32,97,32,112,97,116,116,101,114,110])),(.attr (.var 1) 4)])] [],
 .expr (.meth (.var 1) 35 []),
 .assign 6 (.lit (.none)),
 .ife (.meth (.var 1) 34 [(.lit (.str [124]))]) [.expr (.meth (.var 1) 35 []),
 .ife (.notE (.meth (.var 1) 17 [])) [.expr (.call 33 [(.var 1),(.lit (.str [97,32,115,105,103,110,32,98,101,104,105,110,100,32,124])),(.attr (.var 1) 4)])] []] [.assign 6 (.call 40 [(.var 1),(.meth (.var 0) 22 [])])],
 .expr (.meth (.attr (.var 0) 18) 0 [(.tup [(.tss (.var 3)),(.var 5),(.var 6),(.var 2),(.attr (.var 0) 17)])])]
noncomputable def Zs:FD:=⟨"read_line","OutlineReader.read_line",553,2,[],["self","cursor","start","conditions","own","pattern","steps"],kN⟩
noncomputable def PF:List PS:=[.ife (.orE (.meth (.var 1) 36 [(.glob 11)]) (.notE (.meth (.var 1) 34 [(.lit (.str [60]))]))) [.ret (.lst true [])] [],
 .ife (.meth (.var 1) 34 [(.lit (.str [42,62]))]) [.ret (.bcall 9 [(.bcall 1 [(.bcall 0 [(.attr (.var 0) 9)])])])] [],
 .assign 2 (.meth (.var 0) 22 []),
 .assign 3 (.lst false []),
 .whileS (.lit (.bool true)) [.assign 4 (.attr (.var 1) 4),
 .assign 5 (.meth (.var 1) 21 []),
 .ife (.cmp .nin (.var 5) (.var 2)) [.expr (.call 33 [(.var 1),(.bin .add (.lit (.str [117,110,107,110,111,119,110,32,115,116,97,114,116,32,99,111,110,100,105,116,105,111,110,32])) (.var 5)),(.var 4)])] [],
 .expr (.meth (.var 3) 0 [(.meth (.var 2) 9 [(.var 5)])]),
 .ife (.meth (.var 1) 34 [(.lit (.str [62]))]) [.ret (.var 3)] [],
 .ife (.notE (.meth (.var 1) 34 [(.lit (.str [44]))])) [.expr (.call 33 [(.var 1),(.lit (.str [97,32,44,32,111,114,32,62,32,105,115,32,109,105,115,115,105,110,103])),(.attr (.var 1) 4)])] []]]
noncomputable def Zr:FD:=⟨"conditions_at","OutlineReader.conditions_at",560,2,[],["self","cursor","names","numbers","at","name"],PF⟩
noncomputable def wK:List PS:=[.assign 1 (.lst false []),
 .assign 2 (.lit (.none)),
 .forS none 3 (.bcall 1 [(.bin .sub (.bcall 0 [(.attr (.var 0) 18)]) (.lit (.int 1))),(.lit (.int (-1))),(.lit (.int (-1)))]) [.assignT [4,5,6,7,8] (.idx (.attr (.var 0) 18) (.var 3)),
 .ife (.cmp .isnot (.var 6) (.lit (.none))) [.assign 2 (.var 6)] [],
 .ife (.cmp .is_ (.var 2) (.lit (.none))) [.raise (.lit (.str [110,111,32,114,117,108,101,32,102,111,108,108,111,119,115,32,124])) (.call 2 [(.attr (.var 0) 5),(.var 7)])] [],
 .ife (.cmp .is_ (.var 5) (.lit (.none))) [.forS none 9 (.var 2) [.ife (.cmp .in_ (.attr (.var 9) 6) (.glob 16)) [.raise (.bin .add (.attr (.var 9) 6) (.lit (.str [32,98,101,104,105,110,100,32,60,60,69,79,70,62,62]))) (.call 2 [(.attr (.var 0) 5),(.var 7)])] []]] [],
 .expr (.meth (.var 1) 0 [(.new 5 [(.var 3),(.var 4),(.var 5),(.var 2),(.var 8)])])],
 .expr (.meth (.var 1) 7 []),
 .ret (.var 1)]
noncomputable def Zq:FD:=⟨"built_rules","OutlineReader.built_rules",567,1,[],["self","rules","steps","number","conditions","pattern","own","start","line","step"],wK⟩
noncomputable def PD:List PS:=[.ret (.meth (.new 8 [(.var 0)]) 27 [])]
noncomputable def Zp:FD:=⟨"read_outline","read_outline",581,1,[],["text"],PD⟩
noncomputable def PC:List PS:=[.ret (.meth (.lit (.str [59,32])) 1 [(.comp (.meth (.var 0) 33 []) none (.var 0) none [])])]
noncomputable def Zo:FD:=⟨"show_steps","show_steps",586,1,[],["steps"],PC⟩
noncomputable def DZ:List PS:=[.ife (.andE (.cmp .eq (.var 1) (.meth (.var 0) 25 [])) (.notE (.var 2))) [.ret (.lit (.str []))] [],
 .ife (.cmp .eq (.bcall 0 [(.var 1)]) (.bcall 0 [(.attr (.var 0) 9)])) [.ret (.lit (.str [60,42,62]))] [],
 .ret (.bin .add (.bin .add (.lit (.str [60])) (.meth (.lit (.str [44])) 1 [(.comp (.idx (.idx (.attr (.var 1) 9) (.var 0)) (.lit (.int 0))) none (.var 1) none [0])])) (.lit (.str [62])))]
noncomputable def Zn:FD:=⟨"show_conditions","show_conditions",591,3,[],["file","conditions","is_told"],DZ⟩
noncomputable def wJ:List PS:=[.assign 3 (.lit (.bool false)),
 .ife (.cmp .is_ (.attr (.var 1) 10) (.lit (.none))) [.assign 2 (.glob 11)] [.assign 3 (.orE (.meth (.var 2) 2 [(.lit (.str [60]))]) (.meth (.var 2) 2 [(.glob 10)]))],
 .ret (.bin .add (.bin .add (.bin .add (.call 55 [(.var 0),(.attr (.var 1) 9),(.var 3)]) (.var 2)) (.lit (.str [32]))) (.call 54 [(.attr (.var 1) 11)]))]
noncomputable def Zm:FD:=⟨"show_rule","show_rule",598,3,[],["file","rule","text","is_told"],wJ⟩
noncomputable def ek:List PS:=[.assign 3 (.lst false []),
 .forS (some [4,5]) 0 (.slc (.attr (.var 0) 9) (some (.lit (.int 1))) none) [.expr (.meth (.var 3) 0 [(.bin .add (.ite (.var 5) (.lit (.str [37,120,32])) (.lit (.str [37,115,32]))) (.var 4))])],
 .ife (.notE (.attr (.var 0) 14)) [.expr (.meth (.var 3) 0 [(.lit (.str [37,111,112,116,105,111,110,32,110,111,100,101,102,97,117,108,116]))])] [],
 .forS none 4 (.attr (.var 0) 12) [.expr (.meth (.var 3) 0 [(.bin .add (.bin .add (.var 4) (.lit (.str [32]))) (.idx (.var 1) (.var 4)))])],
 .expr (.meth (.var 3) 0 [(.glob 9)]),
 .forS none 6 (.attr (.var 0) 13) [.expr (.meth (.var 3) 0 [(.call 56 [(.var 0),(.var 6),(.idx (.var 2) (.attr (.var 6) 8))])])],
 .assign 7 (.bin .add (.meth (.lit (.str [10])) 1 [(.var 3)]) (.lit (.str [10]))),
 .ife (.cmp .ne (.attr (.var 0) 15) (.lit (.str []))) [.assign 7 (.bin .add (.bin .add (.bin .add (.var 7) (.glob 9)) (.lit (.str [10]))) (.attr (.var 0) 15))] [],
 .ret (.var 7)]
noncomputable def Zl:FD:=⟨"show_rows","show_rows",605,3,[],["file","definitions","patterns","rows","name","is_exclusive","rule","text"],ek⟩
noncomputable def PB:List PS:=[.assign 1 .dct0,
 .forS none 2 (.attr (.var 0) 12) [.setI (.var 1) (.var 2) (.attr (.idx (.attr (.var 0) 12) (.var 2)) 5)],
 .assign 3 (.comp (.ite (.cmp .is_ (.attr (.var 0) 10) (.lit (.none))) (.lit (.str [])) (.attr (.attr (.var 0) 10) 5)) none (.attr (.var 0) 13) none []),
 .ret (.call 57 [(.var 0),(.var 1),(.var 3)])]
noncomputable def Zk:FD:=⟨"show_outline","show_outline",610,1,[],["file","definitions","name","patterns"],PB⟩
noncomputable def PA:List PS:=[.assign 2 (.idx (.var 0) (.lit (.int 0))),
 .assign 3 (.idx (.var 0) (.lit (.int 1))),
 .setI (.var 0) (.lit (.int 1)) (.bin .add (.var 3) (.lit (.int 1))),
 .ret (.bin .mod (.bin .add (.idx (.var 2) (.bin .mod (.var 3) (.bcall 0 [(.var 2)]))) (.bin .mul (.lit (.int 11)) (.bin .fdiv (.var 3) (.bcall 0 [(.var 2)])))) (.var 1))]
noncomputable def Zj:FD:=⟨"_law_draw","_law_draw",650,2,[],["source","limit","cells","at"],PA⟩
noncomputable def Pz:List PS:=[.ife (.cmp .eq (.var 0) (.lit (.int 0))) [.ret (.tup [(.lit (.str [114,101,116,117,114,110,32,65,49,59])),(.tup [(.tup [(.lit (.str [114,101,116,117,114,110])),(.lit (.str [65,49]))])])])] [],
 .ife (.cmp .eq (.var 0) (.lit (.int 1))) [.ret (.tup [(.lit (.str [114,101,116,117,114,110,32,39,59,39])),(.tup [(.tup [(.lit (.str [114,101,116,117,114,110])),(.lit (.str [39,59,39]))])])])] [],
 .ife (.cmp .eq (.var 0) (.lit (.int 2))) [.ret (.tup [(.bin .add (.bin .add (.lit (.str [98,101,103,105,110,32])) (.var 1)) (.lit (.str [32,59,32,101,99,104,111]))),(.tup [(.tup [(.lit (.str [98,101,103,105,110])),(.var 1)]),(.tup [(.lit (.str [101,99,104,111])),(.lit (.none))])])])] [],
 .ife (.cmp .eq (.var 0) (.lit (.int 3))) [.ret (.tup [(.bin .add (.bin .add (.lit (.str [112,117,115,104,32])) (.var 1)) (.lit (.str [59,114,101,116,117,114,110,32,39,120,39]))),(.tup [(.tup [(.lit (.str [112,117,115,104])),(.var 1)]),(.tup [(.lit (.str [114,101,116,117,114,110])),(.lit (.str [39,120,39]))])])])] [],
 .ife (.cmp .eq (.var 0) (.lit (.int 4))) [.ret (.tup [(.lit (.str [112,111,112,59,32,115,107,105,112,32,59])),(.tup [(.tup [(.lit (.str [112,111,112])),(.lit (.none))]),(.tup [(.lit (.str [115,107,105,112])),(.lit (.none))])])])] [],
 .ife (.cmp .eq (.var 0) (.lit (.int 5))) [.ret (.tup [(.lit (.str [109,111,114,101,59,108,101,115,115,32,48,50,59,114,101,106,101,99,116])),(.tup [(.tup [(.lit (.str [109,111,114,101])),(.lit (.none))]),(.tup [(.lit (.str [108,101,115,115])),(.lit (.int 2))]),(.tup [(.lit (.str [114,101,106,101,99,116])),(.lit (.none))])])])] [],
 .ife (.cmp .eq (.var 0) (.lit (.int 6))) [.ret (.tup [(.lit (.str [108,101,115,115,32,49])),(.tup [(.tup [(.lit (.str [108,101,115,115])),(.lit (.int 1))])])])] [],
 .ife (.cmp .eq (.var 0) (.lit (.int 7))) [.ret (.tup [(.lit (.str [124,32])),(.lit (.none))])] [],
 .ife (.cmp .eq (.var 0) (.lit (.int 8))) [.ret (.tup [(.lit (.str [109,111,114,101,32,59,32,101,99,104,111])),(.tup [(.tup [(.lit (.str [109,111,114,101])),(.lit (.none))]),(.tup [(.lit (.str [101,99,104,111])),(.lit (.none))])])])] [],
 .ife (.cmp .eq (.var 0) (.lit (.int 9))) [.ret (.tup [(.lit (.str [114,101,106,101,99,116])),(.tup [(.tup [(.lit (.str [114,101,106,101,99,116])),(.lit (.none))])])])] [],
 .ret (.tup [(.lit (.str [115,107,105,112])),(.tup [(.tup [(.lit (.str [115,107,105,112])),(.lit (.none))])])])]
noncomputable def Zi:FD:=⟨"_law_steps","_law_steps",657,2,[],["which","goal"],Pz⟩
noncomputable def aV:List PS:=[.assign 5 (.tup []),
 .forS none 6 (.bcall 1 [(.call 59 [(.var 0),(.lit (.int 4))])]) [.assign 7 (.call 59 [(.var 0),(.lit (.int 8))]),
 .assign 8 (.call 59 [(.var 0),(.lit (.int 3))]),
 .assign 9 (.call 59 [(.var 0),(.lit (.int 240))]),
 .assign 10 (.lit (.int 0)),
 .assign 11 (.comp (.var 0) (some 2) (.var 2) none []),
 .ife (.cmp .lt (.var 7) (.lit (.int 3))) [.assign 12 (.bin .add (.idx (.tup [(.lit (.str [37,115,32])),(.lit (.str [37,120,32])),(.lit (.str [37,120,32]))]) (.var 7)) (.idx (.glob 17) (.var 8))),
 .ife (.cmp .in_ (.idx (.glob 17) (.var 8)) (.var 11)) [.assign 10 (.lit (.int 4))] [],
 .expr (.meth (.var 2) 0 [(.tup [(.idx (.glob 17) (.var 8)),(.cmp .gt (.var 7) (.lit (.int 0)))])]),
 .ife (.cmp .eq (.var 7) (.lit (.int 2))) [.assign 12 (.bin .add (.var 12) (.lit (.str [9,32]))),
 .ife (.andE (.cmp .eq (.var 10) (.lit (.int 0))) (.cmp .in_ (.idx (.glob 17) (.bin .mod (.var 9) (.lit (.int 3)))) (.bin .add (.var 11) (.lst true [(.idx (.glob 17) (.var 8))])))) [.assign 10 (.bin .add (.bcall 0 [(.var 12)]) (.lit (.int 1)))] [],
 .expr (.meth (.var 2) 0 [(.tup [(.idx (.glob 17) (.bin .mod (.var 9) (.lit (.int 3)))),(.lit (.bool true))])]),
 .assign 12 (.bin .add (.bin .add (.var 12) (.idx (.glob 17) (.bin .mod (.var 9) (.lit (.int 3))))) (.lit (.str [32])))] []] [.ife (.cmp .lt (.var 7) (.lit (.int 5))) [.assign 12 (.bin .add (.bin .add (.bin .add (.idx (.glob 18) (.var 8)) (.idx (.tup [(.lit (.str [32])),(.lit (.str [9,32]))]) (.bin .sub (.var 7) (.lit (.int 3))))) (.idx (.glob 19) (.bin .mod (.var 9) (.lit (.int 16))))) (.idx (.tup [(.lit (.str [32])),(.lit (.str []))]) (.bin .sub (.var 7) (.lit (.int 3))))),
 .ife (.cmp .in_ (.idx (.glob 18) (.var 8)) (.comp (.var 0) (some 2) (.var 3) none [])) [.assign 10 (.lit (.int 1))] [],
 .expr (.meth (.var 3) 0 [(.tup [(.idx (.glob 18) (.var 8)),(.tup [(.lit (.str [114,97,119])),(.idx (.glob 19) (.bin .mod (.var 9) (.lit (.int 16))))])])])] [.ife (.cmp .eq (.var 7) (.lit (.int 5))) [.assign 12 (.lit (.str [37,111,112,116,105,111,110,32,110,111,100,101,102,97,117,108,116,32,32])),
 .expr (.meth (.var 4) 0 [(.var 12)])] [.ife (.cmp .eq (.var 7) (.lit (.int 6))) [.assign 12 (.idx (.tup [(.lit (.str [])),(.lit (.str [47,47,32,37,120,32,65])),(.lit (.str [32,9]))]) (.var 8))] [.assignT [12,10] (.idx (.glob 20) (.bin .mod (.var 9) (.lit (.int 15))))]]]],
 .expr (.meth (.var 1) 0 [(.var 12)]),
 .ife (.andE (.cmp .gt (.var 10) (.lit (.int 0))) (.cmp .eq (.var 5) (.tup []))) [.assign 5 (.tup [(.bcall 0 [(.var 1)]),(.var 10)])] []],
 .ret (.var 5)]
noncomputable def Zh:FD:=⟨"_law_definitions","_law_definitions",662,5,[],["source","rows","conditions","definitions","options","ends","number","kind","one","two","place","names","text"],aV⟩
noncomputable def wI:List PS:=[.assign 4 (.tup []),
 .assign 5 (.lst false []),
 .assign 6 (.bcall 0 [(.var 2)]),
 .forS none 7 (.bcall 1 [(.call 59 [(.var 0),(.lit (.int 7))])]) [.assign 8 (.call 59 [(.var 0),(.lit (.int 12))]),
 .assign 9 (.call 59 [(.var 0),(.lit (.int 6))]),
 .ife (.orE (.cmp .eq (.var 8) (.lit (.int 11))) (.and3 (.cmp .in_ (.var 8) (.tup [(.lit (.int 8)),(.lit (.int 9))])) (.notE (.var 5)) (.cmp .gt (.var 9) (.lit (.int 0))))) [.assign 8 (.lit (.int 0))] [],
 .ife (.cmp .eq (.var 8) (.lit (.int 4))) [.assign 8 (.lit (.int 7))] [],
 .assign 10 (.ite (.orE (.andE (.cmp .eq (.var 9) (.lit (.int 1))) (.cmp .eq (.var 7) (.lit (.int 2)))) (.andE (.cmp .lt (.var 9) (.lit (.int 4))) (.var 5))) (.idx (.tup [(.lit (.str [32])),(.lit (.str [9]))]) (.bin .mod (.var 7) (.lit (.int 2)))) (.lit (.str []))),
 .assign 11 (.call 59 [(.var 0),(.lit (.int 5))]),
 .assign 12 (.call 59 [(.var 0),(.var 6)]),
 .assign 13 (.call 59 [(.var 0),(.var 6)]),
 .assign 14 (.ite (.var 5) (.idx (.idx (.var 5) (.lit (.int (-1)))) (.lit (.int 0))) (.lst true [])),
 .assign 15 (.ite (.andE (.cmp .ne (.var 10) (.lit (.str []))) (.notE (.var 5))) (.lit (.int 1)) (.lit (.int 0))),
 .assign 16 (.lit (.str [])),
 .assign 17 (.lst true []),
 .ife (.orE (.cmp .eq (.var 11) (.lit (.int 2))) (.andE (.cmp .lt (.var 11) (.lit (.int 2))) (.cmp .eq (.var 8) (.lit (.int 7))))) [.assign 16 (.lit (.str [60,42,62])),
 .assign 17 (.bcall 9 [(.bcall 1 [(.var 6)])])] [],
 .ife (.cmp .eq (.var 11) (.lit (.int 3))) [.assign 16 (.bin .add (.bin .add (.lit (.str [60])) (.idx (.idx (.var 2) (.var 12)) (.lit (.int 0)))) (.lit (.str [62]))),
 .assign 17 (.lst true [(.var 12)])] [],
 .ife (.cmp .eq (.var 11) (.lit (.int 4))) [.assign 16 (.bin .add (.bin .add (.bin .add (.bin .add (.lit (.str [60])) (.idx (.idx (.var 2) (.var 12)) (.lit (.int 0)))) (.lit (.str [44]))) (.idx (.idx (.var 2) (.var 13)) (.lit (.int 0)))) (.lit (.str [62]))),
 .assign 17 (.lst true [(.var 12),(.var 13)])] [],
 .ife (.cmp .lt (.var 8) (.lit (.int 6))) [.assign 18 (.lit (.none)),
 .assign 19 (.lit (.none)),
 .ife (.cmp .lt (.var 8) (.lit (.int 5))) [.assign 18 (.idx (.glob 19) (.call 59 [(.var 0),(.lit (.int 16))])),
 .ife (.andE (.cmp .eq (.var 16) (.lit (.str []))) (.cmp .in_ (.var 18) (.tup [(.lit (.str [60,98])),(.lit (.str [47,47,99]))]))) [.assign 18 (.lit (.str [97]))] [],
 .assign 19 (.tup [(.lit (.str [114,97,119])),(.var 18)])] [],
 .assign 20 (.idx (.tup [(.lit (.str [32])),(.lit (.str [9,32])),(.lit (.str [32,9]))]) (.call 59 [(.var 0),(.lit (.int 3))])),
 .assignT [21,22] (.call 60 [(.call 59 [(.var 0),(.lit (.int 11))]),(.idx (.idx (.var 2) (.var 13)) (.lit (.int 0)))]),
 .assign 10 (.bin .add (.bin .add (.bin .add (.bin .add (.var 10) (.var 16)) (.ite (.cmp .is_ (.var 18) (.lit (.none))) (.lit (.str [60,60,69,79,70,62,62])) (.var 18))) (.var 20)) (.var 21)),
 .assign 23 (.bin .add (.var 14) (.var 17)),
 .ife (.cmp .eq (.var 23) (.lst true [])) [.assign 23 (.comp (.var 0) none (.bcall 1 [(.var 6)]) (some (.notE (.idx (.idx (.var 1) (.var 0)) (.lit (.int 1))))) [2])] [],
 .expr (.meth (.var 3) 0 [(.tup [(.tss (.var 23)),(.var 19),(.var 22),(.bin .add (.bcall 0 [(.var 1)]) (.lit (.int 1)))])])] [.ife (.cmp .eq (.var 8) (.lit (.int 6))) [.assignT [24,25] (.idx (.glob 21) (.call 59 [(.var 0),(.lit (.int 13))])),
 .ife (.cmp .nin (.var 24) (.tup [(.lit (.str [60,67,62,97,32,115,107,105,112])),(.lit (.str [60,73,78,73,84,73,65,76,32,97,32,115,107,105,112]))])) [.assign 10 (.bin .add (.var 10) (.var 16))] [],
 .ife (.cmp .eq (.var 15) (.lit (.int 0))) [.assign 15 (.bin .add (.bcall 0 [(.var 10)]) (.var 25))] [],
 .assign 10 (.bin .add (.var 10) (.var 24))] [.ife (.cmp .eq (.var 8) (.lit (.int 7))) [.assign 10 (.bin .add (.bin .add (.var 10) (.var 16)) (.lit (.str [123,32]))),
 .expr (.meth (.var 5) 0 [(.tup [(.bin .add (.var 14) (.var 17)),(.bin .add (.bcall 0 [(.var 1)]) (.lit (.int 1)))])])] [.ife (.cmp .lt (.var 8) (.lit (.int 10))) [.assign 10 (.bin .add (.var 10) (.idx (.tup [(.lit (.str [125])),(.lit (.str [125,32]))]) (.bin .sub (.var 8) (.lit (.int 8))))),
 .ife (.var 5) [.expr (.meth (.var 5) 6 [])] [.ife (.cmp .eq (.var 15) (.lit (.int 0))) [.assign 15 (.bin .sub (.var 8) (.lit (.int 6)))] []]] [.ife (.cmp .gt (.var 9) (.lit (.int 3))) [.assign 10 (.bin .add (.var 10) (.lit (.str [9]))),
 .assign 15 (.lit (.int 0))] [.assign 10 (.bin .add (.var 10) (.lit (.str [47,47,32,125])))]]]]],
 .expr (.meth (.var 1) 0 [(.var 10)]),
 .ife (.andE (.cmp .gt (.var 15) (.lit (.int 0))) (.cmp .eq (.var 4) (.tup []))) [.assign 4 (.tup [(.bcall 0 [(.var 1)]),(.var 15)])] []],
 .ife (.cmp .gt (.call 59 [(.var 0),(.lit (.int 4))]) (.lit (.int 0))) [.expr (.meth (.var 1) 8 [(.bin .mul (.lst true [(.lit (.str [125]))]) (.bcall 0 [(.var 5)]))]),
 .assign 5 (.lst false [])] [],
 .ife (.andE (.cmp .eq (.var 4) (.tup [])) (.var 5)) [.assign 4 (.tup [(.idx (.idx (.var 5) (.lit (.int (-1)))) (.lit (.int 1))),(.lit (.int 1))])] [],
 .ret (.var 4)]
noncomputable def Zg:FD:=⟨"_law_rules","_law_rules",667,4,[],["source","rows","conditions","drafts","ends","scopes","count","number","kind","manner","text","form","one","two","outer","place","head","own","raw","shape","gap","written","steps","due","suffix","shift"],wI⟩
noncomputable def qW:List PS:=[.assign 2 (.lst false []),
 .assign 3 (.lit (.none)),
 .forS (some [4,5,6,7]) 0 (.rev (.var 0)) [.assign 3 (.ite (.cmp .is_ (.var 6) (.lit (.none))) (.var 3) (.var 6)),
 .assign 8 (.ite (.cmp .is_ (.var 3) (.lit (.none))) (.lst true []) (.comp (.var 0) (some 2) (.var 3) none [])),
 .assign 9 (.andE (.cmp .is_ (.var 5) (.lit (.none))) (.or3 (.cmp .in_ (.lit (.str [109,111,114,101])) (.var 8)) (.cmp .in_ (.lit (.str [108,101,115,115])) (.var 8)) (.cmp .in_ (.lit (.str [114,101,106,101,99,116])) (.var 8)))),
 .ife (.andE (.cmp .eq (.var 1) (.tup [])) (.orE (.cmp .is_ (.var 3) (.lit (.none))) (.var 9))) [.assign 1 (.tup [(.var 7),(.lit (.int 1))])] [],
 .expr (.meth (.var 2) 0 [(.tup [(.var 4),(.var 5),(.var 3)])])],
 .ret (.tup [(.bcall 8 [(.rev (.var 2))]),(.var 1)])]
noncomputable def Zf:FD:=⟨"_law_settled","_law_settled",672,2,[],["drafts","ends","rules","steps","heads","shape","own","line","words","is_bad"],qW⟩
noncomputable def kM:List PS:=[.assignT [1,2,3,4,5] (.var 0),
 .assign 6 (.bcall 8 [(.comp (.var 0) none (.bcall 1 [(.bcall 0 [(.var 2)])]) (some (.notE (.idx (.idx (.var 1) (.var 0)) (.lit (.int 1))))) [2])]),
 .assign 7 (.meth (.lit (.str [])) 1 [(.comp (.bin .add (.bin .add (.ite (.var 1) (.lit (.str [37,120,32])) (.lit (.str [37,115,32]))) (.var 0)) (.lit (.str [10]))) (some 2) (.slc (.var 2) (some (.lit (.int 1))) none) none [])]),
 .ife (.notE (.var 4)) [.assign 7 (.bin .add (.var 7) (.lit (.str [37,111,112,116,105,111,110,32,110,111,100,101,102,97,117,108,116,10])))] [],
 .assign 7 (.bin .add (.bin .add (.var 7) (.meth (.lit (.str [])) 1 [(.comp (.bin .add (.bin .add (.bin .add (.var 0) (.lit (.str [32]))) (.idx (.var 1) (.lit (.int 1)))) (.lit (.str [10]))) (some 2) (.var 1) none [])])) (.lit (.str [37,37,10]))),
 .forS (some [8,9,10]) 0 (.var 3) [.assign 11 (.ite (.cmp .is_ (.var 9) (.lit (.none))) (.lit (.str [60,60,69,79,70,62,62])) (.idx (.var 9) (.lit (.int 1)))),
 .ife (.or3 (.cmp .ne (.var 8) (.var 6)) (.cmp .eq (.var 11) (.lit (.str [60,98]))) (.cmp .eq (.var 11) (.lit (.str [47,47,99])))) [.ife (.cmp .eq (.bcall 0 [(.var 8)]) (.bcall 0 [(.var 2)])) [.assign 7 (.bin .add (.var 7) (.lit (.str [60,42,62])))] [.assign 7 (.bin .add (.bin .add (.bin .add (.var 7) (.lit (.str [60]))) (.meth (.lit (.str [44])) 1 [(.comp (.idx (.idx (.var 1) (.var 0)) (.lit (.int 0))) none (.var 8) none [2])])) (.lit (.str [62])))]] [],
 .assign 12 (.comp (.ite (.cmp .is_ (.var 1) (.lit (.none))) (.var 0) (.bin .add (.bin .add (.var 0) (.lit (.str [32]))) (.bcall 7 [(.var 1)]))) (some 2) (.var 10) none []),
 .assign 7 (.bin .add (.bin .add (.bin .add (.bin .add (.var 7) (.var 11)) (.lit (.str [32]))) (.meth (.lit (.str [59,32])) 1 [(.var 12)])) (.lit (.str [10])))],
 .ret (.ite (.cmp .eq (.var 5) (.lit (.str []))) (.var 7) (.bin .add (.bin .add (.var 7) (.lit (.str [37,37,10]))) (.var 5)))]
noncomputable def Ze:FD:=⟨"_law_shown","_law_shown",677,1,[],["said","definitions","conditions","rules","has_default","tail","plain","text","heads","shape","steps","raw","words"],kM⟩
noncomputable def Ŷ:List PS:=[.assign 1 (.comp (.bcall 4 [(.var 0)]) none (.slc (.var 0) none (some (.lit (.int 60)))) none []),
 .assign 2 (.lst false [(.ite (.var 1) (.var 1) (.lst true [(.lit (.int 0))])),(.lit (.int 0))]),
 .assign 3 (.lst false []),
 .assign 4 (.lst false [(.tup [(.lit (.str [73,78,73,84,73,65,76])),(.lit (.bool false))])]),
 .assign 5 (.lst false []),
 .assign 6 (.lst false []),
 .assign 7 (.lst false []),
 .assign 8 (.tup []),
 .assign 9 (.lit (.str [])),
 .assign 10 (.call 61 [(.var 2),(.var 3),(.var 4),(.var 5),(.var 6)]),
 .ife (.cmp .eq (.call 59 [(.var 2),(.lit (.int 8))]) (.lit (.int 0))) [.ife (.cmp .eq (.var 10) (.tup [])) [.assign 10 (.tup [(.bcall 3 [(.lit (.int 1)),(.bcall 0 [(.var 3)])]),(.bin .add (.lit (.int 1)) (.bcall 0 [(.meth (.lit (.str [])) 1 [(.slc (.var 3) (some (.lit (.int (-1)))) none)])]))])] []] [.expr (.meth (.var 3) 0 [(.idx (.tup [(.lit (.str [37,37])),(.lit (.str [37,37,32,9]))]) (.call 59 [(.var 2),(.lit (.int 2))]))]),
 .ife (.cmp .eq (.var 10) (.tup [])) [.assign 10 (.call 62 [(.var 2),(.var 3),(.var 4),(.var 7)]),
 .assignT [8,10] (.call 63 [(.var 7),(.var 10)])] [],
 .assign 11 (.idx (.tup [(.lst true []),(.lst true [(.lit (.str [37,37])),(.lit (.str [114,101,115,116,32,60,65,62,32,37,37])),(.lit (.str [37,37]))]),(.lst true [(.lit (.str [37,37,32]))])]) (.call 59 [(.var 2),(.lit (.int 3))])),
 .assign 3 (.bin .add (.var 3) (.var 11)),
 .ife (.cmp .eq (.bcall 0 [(.var 11)]) (.lit (.int 3))) [.assign 9 (.lit (.str [114,101,115,116,32,60,65,62,32,37,37,10,37,37]))] []],
 .tryL 12 (.call 53 [(.meth (.lit (.str [10])) 1 [(.var 3)])]) 13 10,
 .assign 14 (.tup [(.bcall 8 [(.var 5)]),(.bcall 8 [(.var 4)]),(.var 8),(.cmp .eq (.var 6) (.lst true [])),(.var 9)]),
 .ife (.or3 (.cmp .ne (.var 10) (.tup [])) (.cmp .ne (.meth (.var 12) 39 []) (.var 14)) (.cmp .ne (.comp (.attr (.var 0) 1) none (.attr (.var 12) 13) none []) (.comp (.idx (.var 0) (.lit (.int 3))) none (.var 7) none []))) [.ret (.lit (.bool false))] [],
 .ife (.cmp .ne (.meth (.var 12) 25 []) (.bcall 8 [(.comp (.var 0) none (.bcall 1 [(.bcall 0 [(.var 4)])]) (some (.notE (.idx (.idx (.var 1) (.var 0)) (.lit (.int 1))))) [4])])) [.ret (.lit (.bool false))] [],
 .forS none 15 (.bcall 1 [(.bcall 0 [(.var 4)])]) [.assign 16 (.comp (.var 0) none (.bcall 1 [(.bcall 0 [(.var 8)])]) (some (.andE (.cmp .is_ (.idx (.idx (.var 2) (.var 0)) (.lit (.int 1))) (.lit (.none))) (.cmp .in_ (.var 1) (.idx (.idx (.var 2) (.var 0)) (.lit (.int 0)))))) [15,8]),
 .assign 17 (.comp (.var 0) none (.bcall 1 [(.bcall 0 [(.var 8)])]) (some (.andE (.cmp .isnot (.idx (.idx (.var 2) (.var 0)) (.lit (.int 1))) (.lit (.none))) (.cmp .in_ (.var 1) (.idx (.idx (.var 2) (.var 0)) (.lit (.int 0)))))) [15,8]),
 .assign 18 (.meth (.var 12) 15 [(.var 15)]),
 .ife (.cmp .ne (.ite (.cmp .is_ (.var 18) (.lit (.none))) (.lit (.int (-1))) (.attr (.var 18) 8)) (.idx (.bin .add (.var 16) (.lst true [(.lit (.int (-1)))])) (.lit (.int 0)))) [.ret (.lit (.bool false))] [],
 .ife (.cmp .ne (.comp (.attr (.var 0) 8) none (.meth (.var 12) 20 [(.var 15)]) none []) (.var 17)) [.ret (.lit (.bool false))] [],
 .ife (.orE (.cmp .ne (.meth (.var 12) 12 [(.idx (.idx (.var 4) (.var 15)) (.lit (.int 0)))]) (.var 15)) (.cmp .ne (.meth (.var 12) 12 [(.lit (.str [68]))]) (.lit (.int (-1))))) [.ret (.lit (.bool false))] []],
 .assign 19 (.call 58 [(.var 12)]),
 .assign 20 (.call 53 [(.var 19)]),
 .ret (.and3 (.cmp .eq (.var 19) (.call 64 [(.var 14)])) (.cmp .eq (.meth (.var 20) 39 []) (.var 14)) (.cmp .eq (.call 58 [(.var 20)]) (.var 19)))]
noncomputable def SH:FD:=⟨"law","law",682,1,[],["script","cells","source","rows","conditions","definitions","options","drafts","rules","tail","ends","closing","file","error","said","condition","lasts","lives","found","shown","back"],Ŷ⟩
noncomputable def c8:Nat->Option FD
 |0=>some fd0
 |1=>some KC
 |2=>some fd2
 |3=>some fd3
 |4=>some fd4
 |5=>some fd5
 |6=>some fd6
 |7=>some fd7
 |8=>some fd8
 |9=>some fd9
 |10=>some Z5
 |11=>some Z4
 |14=>some Z3
 |15=>some Z2
 |16=>some Z1
 |17=>some Z0
 |18=>some ZZ
 |19=>some ZY
 |20=>some ZX
 |21=>some ZW
 |22=>some ZV
 |23=>some ZU
 |24=>some ZT
 |25=>some ZS
 |26=>some ZR
 |27=>some ZQ
 |28=>some ZP
 |29=>some ZO
 |30=>some ZN
 |31=>some ZM
 |32=>some ZL
 |33=>some ZK
 |34=>some ZJ
 |35=>some ZI
 |36=>some ZH
 |37=>some ZG
 |38=>some ZF
 |39=>some ZE
 |40=>some ZD
 |41=>some ZC
 |42=>some ZA
 |43=>some Zz
 |44=>some Zy
 |45=>some Zx
 |46=>some Zw
 |47=>some Zv
 |48=>some Zu
 |49=>some Zt
 |50=>some Zs
 |51=>some Zr
 |52=>some Zq
 |53=>some Zp
 |54=>some Zo
 |55=>some Zn
 |56=>some Zm
 |57=>some Zl
 |58=>some Zk
 |59=>some Zj
 |60=>some Zi
 |61=>some Zh
 |62=>some Zg
 |63=>some Zf
 |64=>some Ze
 |65=>some SH
 |_=>Option.none
noncomputable def Àn:Nat->String:=λ_=>""
abbrev QT:=V->AH->Prop
abbrev qk:=Bool->AH->Prop
abbrev qj:=List V->AH->Prop
abbrev Mo:=Option Int->AH->Prop
abbrev WE:=AH->QT->Prop
abbrev WT:=AH->qk->Prop
abbrev Mk:=AH->qj->Prop
abbrev ST:=Fl->Loc->AH->Prop
abbrev WS:=AH->ST->Prop
noncomputable def vD (c f:Nat):Bool:=(match c with
 |0=>[0,1,2]|3=>[5,4]|4=>[6,7]|5=>[8,9,10,11,1]|6=>[5]|7=>[12,9,13,14,15]|8=>[5,16,17,12,9,14,18,19,15]|_=>[]).contains f
noncomputable def Mj (c f:Nat)(fs:List (Nat×V)):Option V:=cond (vD c f) (fs.lookup f) none
def sq {α:Type}(o:Option α)(K:α->Prop):Prop:=match o with
 |some a=>K a
 |none=>False
def Vj (v:V)(K:Int->Prop):Prop:=match v with
 | .int i=>K i
 |_=>False
@[irreducible] def Call (Φ:Ď)(E:Ĩ)(f:Nat)(Q:QT):qj:=λvs H=>Φ f vs E Q H
@[irreducible] def Q2 (f i:Nat)(H:AH)(Q:QT):Prop:=match H[i]? with
  |some (some (.inst c fs))=>sq (Mj c f fs) λx=>Q x H
  |_=>False
@[irreducible] def sZ (x y:List Nat)(H:AH)(Q:QT):Prop:=x.length+y.length<=ę∧Q (.str (x++y)) H
@[irreducible] def qy (a b:V)(H:AH)(Q:QT):Prop:=match seeL a H with
  | .lst x=>(match seeL b H with| .lst y=>x.length+y.length<=ę∧Q (.lst (x++y)) H|_=>False)
  |_=>False
@[irreducible] def vX (x y:Int)(H:AH)(Q:QT):Prop:=Q (.int (x+y)) H
@[irreducible] def vJ (x y:Int)(H:AH)(Q:QT):Prop:=Q (.int (x-y)) H
@[irreducible] def Ak (x y:Int)(H:AH)(Q:QT):Prop:=x.natAbs<=ę∧y.natAbs<=ę∧Q (.int (x*y)) H
@[irreducible] def vK (x:List V)(n:Int)(H:AH)(Q:QT):Prop:=x.length*n.toNat<=ę∧n.natAbs<=ę∧Q (.lst (List.replicate n.toNat x).flatten) H
@[irreducible] def Ar (x y:Int)(H:AH)(Q:QT):Prop:=0<y∧y<=ę∧x.natAbs<=ę∧Q (.int (x/y)) H
@[irreducible] def vP (x y:Int)(H:AH)(Q:QT):Prop:=0<y∧Q (.int (x%y)) H
noncomputable def Xd (x:V)(es:List (List Nat×V)):Option Bool:=match x with
 | .str k=>some ((es.map (·.1)).contains k)
 |_=>none
noncomputable def Xc (x:V)(o:Option (Option O)):Option Bool:=match o with
 |some (some (.list vs))=>qr x vs
 |some (some (.dict es))=>Xd x es
 |_=>none
noncomputable def Xb (x s:V)(H:AH):Option Bool:=match s with
 | .str l=>(match x with| .str [c]=>some (l.contains c)|_=>none)
 | .tup vs=>qr x vs
 | .lst vs=>qr x vs
 | .dic es=>Xd x es
 | .obj i=>Xc x H[i]?
 |_=>none
noncomputable def isNone:V->Option Bool
 | .none=>some true
 | .obj _=>some false
 | .rcd _ _=>some false
 | .tup _=>some false
 | .lst _=>some false
 | .str _=>some false
 | .int _=>some false
 |_=>none
noncomputable def HF (f:Int->Int->Bool)(a b:V):Option Bool:=match a with
 | .int x=>(match b with| .int y=>some (f x y)|_=>none)
 |_=>none
noncomputable def WX (b:V)(o:Option Bool):Option Bool:=match b with| .none=>o|_=>none
noncomputable def bh (op:Mp)(a b:V)(H:AH):Option Bool:=match op with
 | .eq=>lU (seeL a H) (seeL b H)
 | .ne=>(lU (seeL a H) (seeL b H)).map (!·)
 | .lt=>HF (λx y=>decide (x<y)) a b
 | .gt=>HF (λx y=>decide (y<x)) a b
 | .ge=>HF (λx y=>decide (y<=x)) a b
 | .in_=>Xb a b H
 | .nin=>(Xb a b H).map (!·)
 | .is_=>WX b (isNone a)
 | .isnot=>WX b ((isNone a).map (!·))
@[irreducible] def qt (es:List (List Nat×V))(k:V)(H:AH)(Q:QT):Prop:=match k with
  | .str k=>sq (es.lookup k) λx=>Q x H
  |_=>False
@[irreducible] def G9 (l:List Nat)(i:Int)(H:AH)(Q:QT):Prop:=sq (cS i l.length) λk=>sq l[k]? λc=>Q (.str [c]) H
@[irreducible] def qp (vs:List V)(i:Int)(H:AH)(Q:QT):Prop:=sq (cS i vs.length) λk=>sq vs[k]? λx=>Q x H
@[irreducible] def Kv (j:Nat)(i:V)(H:AH)(Q:QT):Prop:=match H[j]? with
  |some (some (.dict es))=>qt es i H Q
  |some (some (.list vs))=>Vj i λi=>qp vs i H Q
  |_=>False
noncomputable def oQ {α:Type}(l:List α)(lo hi:Option Int):List α:=
 let a:=match lo with|some i=>bP i l.length|none=>0
 let b:=match hi with|some i=>bP i l.length|none=>l.length
 (l.take b).drop a
def Yw (w:V)(lo hi:Option Int)(H:AH)(Q:QT):Prop:=match w with
 | .str l=>Q (.str (oQ l lo hi)) H
 | .lst l=>Q (.lst (oQ l lo hi)) H
 | .tup l=>lo=some 1∧hi=none∧1<=l.length∧Q (.tup (l.drop 1)) H
 |_=>False
@[irreducible] def d6 (a:V)(lo hi:Option Int)(H:AH)(Q:QT):Prop:=
  (∀i,lo=some i->i.natAbs<=ę)∧(∀i,hi=some i->i.natAbs<=ę)∧Yw (seeL a H) lo hi H Q
@[irreducible] def Ag (a:V)(H:AH)(Q:QT):Prop:=match seeL a H with
  | .lst l=>Q (.lst l.reverse) H
  |_=>False
@[irreducible] def vI (a:V)(H:AH)(Q:QT):Prop:=match seeL a H with
  | .lst l=>(match gR l with
    |some xs=>xs.length<=1000∧(∀x∈xs,0<=x∧x<4)∧Q (.tup ((Ē xs).map .int)) H
    |none=>False)
  |_=>False
noncomputable def sX (l:List Nat):Option Int:=if l=[48,50] then some 2 else if l=[49] then some 1 else if l=[50] then some 2 else none
@[irreducible] def Aq (l:List Nat)(H:AH)(Q:QT):Prop:=sq (sX l) λn=>Q (.int n) H
@[irreducible] def Ab (i:Int)(H:AH)(Q:QT):Prop:=0<=i∧i<10∧Q (.str (jT i)) H
@[irreducible] def Ao (i:Nat)(H:AH)(Q:QT):Prop:=match H[i]? with
  |some (some (.list vs))=>Q (.int vs.length) H
  |_=>False
@[irreducible] def zZ (i:Nat)(H:AH)(Q:QT):Prop:=match H[i]? with
  |some (some (.list vs))=>Q (.tup vs) H
  |_=>False
@[irreducible] def Al (a b:Int)(H:AH)(Q:QT):Prop:=Q (.int (if b<a then b else a)) H
@[irreducible] def sV (a b:Int)(H:AH)(Q:QT):Prop:=Q (.int (if a<b then b else a)) H
@[irreducible] def oK (n:Int)(H:AH)(Q:QT):Prop:=n.natAbs<=ę∧Q (.rng 0 n 1) H
@[irreducible] def Af (a b c:Int)(H:AH)(Q:QT):Prop:=a.natAbs<=ę∧b.natAbs<=ę∧c= -1∧Q (.rng a b c) H
@[irreducible] def An (a b c:Int)(H:AH)(Q:QT):Prop:=c=1∧(a.natAbs<=ę∧b.natAbs<=ę∧b-a<=ę)∧Q (.lst (jd a b c)) H
def lmV (m i:Nat)(vs as:List V)(H:AH)(Q:QT):Prop:=match m with
 |0=>(match as with
  |[v]=>vs.length<ę∧Q .none (H.set i (some (.list (vs++[v]))))
  |_=>False)
 |6=>(match as with
  |[]=>sq vs.getLast? λx=>Q x (H.set i (some (.list vs.dropLast)))
  |_=>False)
 |7=>(match as with
  |[]=>Q .none (H.set i (some (.list vs.reverse)))
  |_=>False)
 |8=>(match as with
  |[a]=>(match a with
   | .lst l=>vs.length+l.length<=ę∧Q .none (H.set i (some (.list (vs++l))))
   |_=>False)
  |_=>False)
 |_=>False
@[irreducible] def oj (m i:Nat)(as:List V)(H:AH)(Q:QT):Prop:=match H[i]? with
  |some (some (.list vs))=>lmV m i vs as H Q
  |_=>False
noncomputable def OW (x:V)(vs:List V):Option Nat:=match x with
 | .str k=>(match b7 vs with
   |some ss=>if ss.contains k then some (ss.findIdx (·==k)) else none
   |none=>none)
 |_=>none
@[irreducible] def vS (vs:List V)(x:V)(H:AH)(Q:QT):Prop:=sq (OW x vs) λk=>Q (.int k) H
noncomputable def mA (sub l:List Nat)(yb:Nat):Int:=
 if l.length<yb then-1 else match ü sub (l.drop yb) (l.length+1-yb) with
  |some k=>(yb+k:Nat)
  |none=> -1
@[irreducible] def eS (s:List Nat)(a:V)(H:AH)(Q:QT):Prop:=match seeL a H with
 | .lst l=>(match b7 l with
   |some ss=>(ss.map List.length).sum+s.length*ss.length<=ę∧Q (.str (ø s ss)) H
   |none=>False)
 |_=>False
@[irreducible] def lu (s p:List Nat)(i:Int)(H:AH)(Q:QT):Prop:=0<=i∧i<=ę∧p≠[]∧Q (.int (mA p s i.toNat)) H
inductive MT where
 |fn (f:Nat)|lst|str|idx
noncomputable def x3 (m:Nat)(o:Option (Option O)):Option MT:=match o with
 |some (some (.inst c _))=>(ż c m).map .fn
 |some (some (.list _))=>cond (m==0||m==6||m==7||m==8) (some .lst) none
 |_=>none
noncomputable def T3 (m:Nat)(v:V):Option MT:=match v with
 | .rcd c _=>(ż c m).map .fn
 | .str _=>cond (Nat.ble 1 m&&Nat.ble m 5) (some .str) none
 | .lst _=>cond (m==9) (some .idx) none
 |_=>none
noncomputable def mj (f:Nat)(v:V):List (Nat×V)->List (Nat×V)
 |[]=>[(f,v)]
 |(g,x)::r=>if g=f then (g,v)::r else (g,x)::mj f v r
noncomputable def iP (k:List Nat)(v:V):List (List Nat×V)->List (List Nat×V)
 |[]=>[(k,v)]
 |(g,x)::r=>if g=k then (g,v)::r else (g,x)::iP k v r
@[irreducible] def eP (o:V)(f:Nat)(v:V)(H:AH)(Q:AH->Prop):Prop:=match o with
  | .obj i=>(match H[i]? with
    |some (some (.inst c fs))=>vD c f=true∧fs.length<=20∧Q (H.set i (some (.inst c (mj f v fs))))
    |_=>False)
  |_=>False
def Ts (j:Nat)(es:List (List Nat×V))(i v:V)(H:AH)(Q:AH->Prop):Prop:=match i with
 | .str k=>es.length<=ę∧Q (H.set j (some (.dict (iP k v es))))
 |_=>False
def K3 (j:Nat)(i v:V)(H:AH)(Q:AH->Prop)(o:Option (Option O)):Prop:=match o with
 |some (some (.list vs))=>Vj i λi=>sq (cS i vs.length) λk=>0<=i∧Q (H.set j (some (.list (vs.set k v))))
 |some (some (.dict es))=>Ts j es i v H Q
 |_=>False
@[irreducible] def ll (o i v:V)(H:AH)(Q:AH->Prop):Prop:=match o with
  | .obj j=>K3 j i v H Q H[j]?
  |_=>False
@[irreducible] def qq (c a:Nat)(Q:QT):QT:=λv H'=>v= .none∧match l6 c with
 |true=>(match H'[a]? with
  |some (some (.inst c' fs))=>Q (.rcd c' fs) (H'.set a none)
  |_=>False)
 |false=>Q (.obj a) H'
@[irreducible] def jh (Φ:Ď)(c:Nat)(as:List V)(E:Ĩ)(H:AH)(Q:QT):Prop:=match kH c with
  |some f=>Call Φ E f (qq c H.length Q) (.obj H.length::as) (H++[some (.inst c [])])
  |none=>False
@[irreducible] def mO (W:Mk)(K:MT->qj)(m i:Nat)(H:AH):Prop:=match x3 m H[i]? with
  |some t=>W H (K t)
  |none=>False
noncomputable def cT (k:Option Nat)(x:V)(Ģ:List (Option V)):Option Loc:=match k with
 |none=>some (some x::Ģ)
 |some n=>match x with
  | .tup vs=>if vs.length=n then some (vs.map some++Ģ) else none
  |_=>none
def gL (ok:AH->Prop)(step:V->AH->(Option V->AH->Prop)->Prop):List V->List V->AH->QT->Prop
 |[],acc,H,Q=>ok H∧Q (.lst acc) H
 |x::xs,acc,H,Q=>ok H∧acc.length<ę∧step x H λr H'=>match r with
  |some v=>gL ok step xs (acc++[v]) H' Q
  |none=>gL ok step xs acc H' Q
noncomputable def sL (ρ:Loc)(i:Nat)(v:V):Loc:=ρ.set i (some v)
noncomputable def iV:Loc->List Nat->List V->Option Loc
 |ρ,[],[]=>some ρ
 |ρ,i::is,v::vs=>iV (sL ρ i v) is vs
 |_,_,_=>none
def listAt (x:Option (Option O))(K:List V->Prop):Prop:=match x with
 |some (some (.list vs))=>K vs
 |_=>False
def wG (x:Option (Option O))(K:List (List Nat×V)->Prop):Prop:=match x with
 |some (some (.dict vs))=>K vs
 |_=>False
@[irreducible] def sM (Q:QT)(i:Nat)(H:AH):Prop:=listAt H[i]? λvs=>Q (.lst vs) (H.set i none)
@[irreducible] def pb (a b:Nat)(i:Nat)(w:V)(r:List (Nat×V))(H:AH)(Q:QT):Prop:=match w with
  | .obj j=>wG H[i]? λes=>listAt H[j]? λvs=>i≠j∧Q (.rcd 7 ((a,.dic es)::(b,.lst vs)::r)) ((H.set i none).set j none)
  |_=>False
def b0:Prop:=False∧∀(Φ:Ď) (E:Ĩ) (Q:QT) (H:AH) (W:Mk) (K:MT->qj),Call Φ E 0 Q [] H∧Q2 0 0 H Q∧sZ [] [] H Q∧qy .none .none H Q∧vX 0 0 H Q∧vJ 0 0 H Q∧Ak 0 0 H Q∧vK [] 0 H Q∧Ar 0 0 H Q∧vP 0 0 H Q∧qt [] .none H Q∧G9 [] 0 H Q∧qp [] 0 H Q∧Kv 0 .none H Q∧d6 .none none none H Q∧Ag .none H Q∧vI .none H Q∧Aq [] H Q∧Ab 0 H Q∧Ao 0 H Q∧zZ 0 H Q∧oK 0 H Q∧Al 0 0 H Q∧sV 0 0 H Q∧Af 0 0 0 H Q∧An 0 0 0 H Q∧oj 0 0 [] H Q∧vS [] .none H Q∧eS [] .none H Q∧lu [] [] 0 H Q∧eP .none 0 .none H (λ_=>True)∧ll .none .none .none H (λ_=>True)∧jh Φ 0 [] E H Q∧mO W K 0 0 H∧sM Q 0 H∧pb 0 0 0 .none [] H Q∧gL (λ_=>True) (λ_ _ _=>True) [] [] H Q∧iV [] [] []=none∧bh .eq .none .none H=none∧fB .none H=none∧cT none .none []=none
theorem b0.elim {p:Prop}(h:b0):p:=False.elim (WC h)
def eI (A B:AH->Prop):qk:=λr H=>match r,b0 with
 |true,_=>A H
 |false,_=>B H
def b1:Prop:=b0∧eI (λ_=>True) (λ_=>True) true []
theorem b1.elim {p:Prop}(h:b1):p:=b0.elim (WC h)
def jg (vs:List V)(i:Int)(H:AH)(Q:QT):Prop:=match cS i vs.length with
 |some k=>(match vs[k]? with
  |some x=>Q x H
  |none=>b1)
 |none=>b1
def b2:Prop:=b1∧jg [] 0 [] (λ_ _=>True)
theorem b2.elim {p:Prop}(h:b2):p:=b1.elim (WC h)
def bF (o:Option Bool)(H:AH)(Q:qk):Prop:=match o with
 |some b=>Q b H
 |none=>b2
def bT:Prop:=b2∧bF none [] (λ_ _=>True)
theorem bT.elim {p:Prop}(h:bT):p:=b2.elim (WC h)
@[reducible] def G8 (Φ:Ď)(E:Ĩ)(m:Nat)(v:V)(Q:QT)(t:MT):qj:=λas H=>match t with
  | .fn f=>Call Φ E f Q (v::as) H
  | .lst=>(match v with
    | .obj i=>oj m i as H Q
    |_=>bT)
  | .str=>(match v with
    | .str s=>(match m with
      |1=>(match as with|[a]=>eS s a H Q|_=>bT)
      |2=>(match as with|[.str p]=>Q (.bool (p.isPrefixOf s)) H|_=>bT)
      |3=>(match as with|[.str p]=>Q (.str (aH p s)) H|_=>bT)
      |4=>(match as with|[.str p]=>Q (.str (aH p (fH p s))) H|_=>bT)
      |5=>(match as with|[.str p,.int i]=>lu s p i H Q|_=>bT)
      |_=>bT)
    |_=>bT)
  | .idx=>(match v with
    | .lst vs=>(match as with|[x]=>vS vs x H Q|_=>bT)
    |_=>bT)
@[reducible] def Rx (x:Option (Option V))(H:AH)(Q:QT):Prop:=match x with|some (some v)=>Q v H|_=>bT
@[reducible] def oZ (x:Option V)(H:AH)(Q:QT):Prop:=match x with|some v=>Q v H|none=>bT
@[reducible] def tL (f:Nat)(v:V)(H:AH)(Q:QT):Prop:=match v with
  | .rcd c fs=>oZ (Mj c f fs) H Q
  | .obj i=>Q2 f i H Q
  |_=>bT
@[reducible] def s9 (op:vk)(a b:V)(H:AH)(Q:QT):Prop:=match op with
  | .add=>(match a with
    | .int x=>(match b with| .int y=>vX x y H Q|_=>bT)
    | .str x=>(match b with| .str y=>sZ x y H Q|_=>bT)
    |a=>qy a b H Q)
  | .sub=>(match a with| .int x=>(match b with| .int y=>vJ x y H Q|_=>bT)|_=>bT)
  | .mul=>(match a with
    | .int x=>(match b with| .int y=>Ak x y H Q|_=>bT)
    | .lst x=>(match b with| .int y=>vK x y H Q|_=>bT)
    |_=>bT)
  | .fdiv=>(match a with| .int x=>(match b with| .int y=>Ar x y H Q|_=>bT)|_=>bT)
  | .mod=>(match a with| .int x=>(match b with| .int y=>vP x y H Q|_=>bT)|_=>bT)
@[reducible] def Sz (a i:V)(H:AH)(Q:QT):Prop:=match a with
  | .obj j=>Kv j i H Q
  | .str l=>(match i with| .int i=>G9 l i H Q|_=>bT)
  | .tup vs=>(match i with| .int i=>jg vs i H Q|_=>bT)
  | .lst vs=>(match i with| .int i=>jg vs i H Q|_=>bT)
  | .dic es=>qt es i H Q
  |_=>bT
@[reducible] def dw (f:Nat)(as:List V)(H:AH)(Q:QT):Prop:=match f with
  |0=>(match as with
   |[.str l]=>Q (.int l.length) H
   |[.tup l]=>Q (.int l.length) H
   |[.lst l]=>Q (.int l.length) H
   |[.obj i]=>Ao i H Q
   |_=>bT)
  |1=>(match as with
   |[.int n]=>oK n H Q
   |[.int a,.int b,.int c]=>Af a b c H Q
   |_=>bT)
  |2=>(match as with|[.int a,.int b]=>Al a b H Q|_=>bT)
  |3=>(match as with|[.int a,.int b]=>sV a b H Q|_=>bT)
  |4=>(match as with
   |[.int a]=>Q (.int a) H
   |[.str l]=>Aq l H Q
   |_=>bT)
  |6=>(match as with|[.str [c]]=>Q (.int c) H|_=>bT)
  |7=>(match as with
   |[.int i]=>Ab i H Q
   |[.str l]=>Q (.str l) H
   |_=>bT)
  |8=>(match as with
   |[.lst l]=>Q (.tup l) H
   |[.obj i]=>zZ i H Q
   |_=>bT)
  |9=>(match as with|[.rng a b c]=>An a b c H Q|_=>bT)
  |_=>bT
@[reducible] def kW (W:WE)(Q:QT):AH->Prop:=λH=>(λ_:Prop=>W H Q) bT
@[reducible] def QJ (W:WT)(Q:qk):AH->Prop:=λH=>(λ_:Prop=>W H Q) bT
@[reducible] def L8 (W:WS)(Q:ST):AH->Prop:=λH=>(λ_:Prop=>W H Q) bT
@[reducible] def L9 (Q:qk):QT:=λv H=>(λ_:Prop=>bF (fB v H) H Q) bT
@[reducible] def kR (Q:QT):qk:=λr H=>(λ_:Prop=>Q (.bool r) H) bT
@[reducible] def kNo (Q:qk):qk:=λr H=>(λ_:Prop=>Q (!r) H) bT
@[reducible] def kAt (f:Nat)(Q:QT):QT:=λv H=>tL f v H Q
@[reducible] def kB2 (op:vk)(x:V)(Q:QT):QT:=λy H=>s9 op x y H Q
@[reducible] def kB1 (W:WE)(op:vk)(Q:QT):QT:=λx H=>W H (kB2 op x Q)
@[reducible] def kC2 (op:Mp)(x:V)(Q:qk):QT:=λy H=>(λ_:Prop=>bF (bh op x y H) H Q) bT
@[reducible] def kC1 (W:WE)(op:Mp)(Q:qk):QT:=λx H=>W H (kC2 op x Q)
@[reducible] def Vq (A:AH->Prop)(Q:QT):QT:=λx H=>(λ_:Prop=>bF (fB x H) H (eI A (Q x))) bT
@[reducible] def Vo (A:AH->Prop)(Q:QT):QT:=λx H=>(λ_:Prop=>bF (fB x H) H (eI (Q x) A)) bT
@[reducible] def kI2 (x:V)(Q:QT):QT:=λy H=>Sz x y H Q
@[reducible] def kI1 (W:WE)(Q:QT):QT:=λx H=>W H (kI2 x Q)
@[reducible] def kS3 (x:V)(l:Option Int)(Q:QT):Mo:=λh H=>(λ_:Prop=>d6 x l h H Q) bT
@[reducible] def kS2 (W:AH->Mo->Prop)(x:V)(Q:QT):Mo:=λl H=>W H (kS3 x l Q)
@[reducible] def kS1 (W W2:AH->Mo->Prop)(Q:QT):QT:=λx H=>W H (kS2 W2 x Q)
@[reducible] def kOi (Q:Mo):QT:=λv H=>(match v with| .int i=>Q (some i) H|_=>bT)
@[reducible] def kRv (Q:QT):QT:=λx H=>(λ_:Prop=>Ag x H Q) bT
@[reducible] def kTs (Q:QT):QT:=λx H=>(λ_:Prop=>vI x H Q) bT
@[reducible] def kTu (Q:QT):qj:=λvs H=>(λ_:Prop=>Q (.tup vs) H) bT
@[reducible] def kLs (fz:Bool)(Q:QT):qj:=λvs H=>(match fz,bT with
 |true,_=>Q (.lst vs) H
 |false,_=>Q (.obj H.length) (H++[some (.list vs)]))
@[reducible] def W9 (Φ:Ď)(E:Ĩ)(f:Nat)(Q:QT):qj:=λvs H=>(λ_:Prop=>Call Φ E f Q vs H) bT
@[reducible] def kNw (Φ:Ď)(E:Ĩ)(c:Nat)(Q:QT):qj:=λvs H=>(λ_:Prop=>jh Φ c vs E H Q) bT
@[reducible] def kBc (f:Nat)(Q:QT):qj:=λvs H=>dw f vs H Q
@[reducible] def W8 (Φ:Ď)(E:Ĩ)(W:Mk)(m:Nat)(Q:QT):QT:=λv H=>match v with
  | .obj i=>mO W (G8 Φ E m (.obj i) Q) m i H
  |v=>(match T3 m v with|some t=>W H (G8 Φ E m v Q t)|none=>bT)
@[reducible] def kE2 (v:V)(Q:qj):qj:=λvs H=>(λ_:Prop=>Q (v::vs) H) bT
@[reducible] def kE1 (W:Mk)(Q:qj):QT:=λv H=>W H (kE2 v Q)
@[reducible] def RG (K:Option V->AH->Prop):QT:=λv H=>(λ_:Prop=>K (some v) H) bT
@[reducible] def Vp (K:Option V->AH->Prop):AH->Prop:=λH=>(λ_:Prop=>K none H) bT
def UM (We:Loc->Ĩ->WE)(Wc:Loc->WT)(ρ:Loc)(k:Option Nat)(Ģ:List Nat):V->AH->(Option V->AH->Prop)->Prop:=λx H' K=>match cT k x (Ģ.map λi=>(ρ[i]?).join) with
 |some Ĥ=>Wc Ĥ H' (eI (kW (We Ĥ λ_ _=>False) (RG K)) (Vp K))
 |none=>bT
@[irreducible] def Ku (step:V->AH->(Option V->AH->Prop)->Prop)(Q:QT):QT:=λs H=>(match ŵ s H with
 |some items=>gL (Ũ s H) step items [] H Q
 |none=>False)
mutual
@[reducible] def bA (Φ:Ď):PE->Loc->Ĩ->AH->QT->Prop
  | .lit v,_,_,H,Q=>Q v H
  | .var i,ρ,_,H,Q=>Rx ρ[i]? H Q
  | .glob n,_,_,H,Q=>oZ (Hx n) H Q
  | .attr e f,ρ,E,H,Q=>bA Φ e ρ E H (kAt f Q)
  | .bin op a b,ρ,E,H,Q=>bA Φ a ρ E H (kB1 (bA Φ b ρ E) op Q)
  | .cmp op a b,ρ,E,H,Q=>bA Φ a ρ E H (kC1 (bA Φ b ρ E) op (kR Q))
  | .andE a b,ρ,E,H,Q=>bA Φ a ρ E H (Vq (kW (bA Φ b ρ E) Q) Q)
  | .orE a b,ρ,E,H,Q=>bA Φ a ρ E H (Vo (kW (bA Φ b ρ E) Q) Q)
  | .and3 a b c,ρ,E,H,Q=>bA Φ a ρ E H (Vq (kW (bA Φ b ρ E) (Vq (kW (bA Φ c ρ E) Q) Q)) Q)
  | .or3 a b c,ρ,E,H,Q=>bA Φ a ρ E H (Vo (kW (bA Φ b ρ E) (Vo (kW (bA Φ c ρ E) Q) Q)) Q)
  | .notE a,ρ,E,H,Q=>bA Φ a ρ E H (L9 (kNo (kR Q)))
  | .ite t a b,ρ,E,H,Q=>mh Φ t ρ E H (eI (kW (bA Φ a ρ E) Q) (kW (bA Φ b ρ E) Q))
  | .idx a b,ρ,E,H,Q=>bA Φ a ρ E H (kI1 (bA Φ b ρ E) Q)
  | .slc a lo hi,ρ,E,H,Q=>bA Φ a ρ E H (kS1 (WP Φ lo ρ E) (WP Φ hi ρ E) Q)
  | .rev a,ρ,E,H,Q=>bA Φ a ρ E H (kRv Q)
  | .tss a,ρ,E,H,Q=>bA Φ a ρ E H (kTs Q)
  | .tup es,ρ,E,H,Q=>oH Φ es ρ E H (kTu Q)
  | .lst fz es,ρ,E,H,Q=>oH Φ es ρ E H (kLs fz Q)
  | .dct0,_,_,H,Q=>Q (.obj H.length) (H++[some (.dict [])])
  | .comp elt k src cond Ģ,ρ,E,H,Q=>bA Φ src ρ E H (Ku (UM (bA Φ elt) (Rv Φ cond) ρ k Ģ) Q)
  | .call f es,ρ,E,H,Q=>oH Φ es ρ E H (W9 Φ E f Q)
  | .new c es,ρ,E,H,Q=>oH Φ es ρ E H (kNw Φ E c Q)
  | .bcall f es,ρ,E,H,Q=>oH Φ es ρ E H (kBc f Q)
  | .meth e m es,ρ,E,H,Q=>bA Φ e ρ E H (W8 Φ E (oH Φ es ρ E) m Q)
@[reducible] def mh (Φ:Ď):PE->Loc->Ĩ->AH->qk->Prop
  | .notE a,ρ,E,H,Q=>mh Φ a ρ E H (kNo Q)
  | .andE a b,ρ,E,H,Q=>mh Φ a ρ E H (eI (QJ (mh Φ b ρ E) Q) (Q false))
  | .orE a b,ρ,E,H,Q=>mh Φ a ρ E H (eI (Q true) (QJ (mh Φ b ρ E) Q))
  | .and3 a b c,ρ,E,H,Q=>mh Φ a ρ E H (eI (QJ (mh Φ b ρ E) (eI (QJ (mh Φ c ρ E) Q) (Q false))) (Q false))
  | .or3 a b c,ρ,E,H,Q=>mh Φ a ρ E H (eI (Q true) (QJ (mh Φ b ρ E) (eI (Q true) (QJ (mh Φ c ρ E) Q))))
  | .cmp op a b,ρ,E,H,Q=>bA Φ a ρ E H (kC1 (bA Φ b ρ E) op Q)
  | .lit (.bool b),_,_,H,Q=>Q b H
  | .var i,ρ,_,H,Q=>Rx ρ[i]? H (L9 Q)
  | .attr e f,ρ,E,H,Q=>bA Φ e ρ E H (kAt f (L9 Q))
  | .idx a b,ρ,E,H,Q=>bA Φ a ρ E H (kI1 (bA Φ b ρ E) (L9 Q))
  | .call f es,ρ,E,H,Q=>oH Φ es ρ E H (W9 Φ E f (L9 Q))
  | .meth e m es,ρ,E,H,Q=>bA Φ e ρ E H (W8 Φ E (oH Φ es ρ E) m (L9 Q))
  |_,_,_,_,_=>False
@[reducible] def WP (Φ:Ď):Option PE->Loc->Ĩ->AH->Mo->Prop
  |none,_,_,H,Q=>Q none H
  |some e,ρ,E,H,Q=>bA Φ e ρ E H (kOi Q)
@[reducible] def Rv (Φ:Ď):Option PE->Loc->AH->qk->Prop
  |none,_,H,Q=>Q true H
  |some e,ρ,H,Q=>mh Φ e ρ (λ_ _=>False) H Q
@[reducible] def oH (Φ:Ď):List PE->Loc->Ĩ->AH->qj->Prop
  |[],_,_,H,Q=>Q [] H
  |e::es,ρ,E,H,Q=>bA Φ e ρ E H (kE1 (oH Φ es ρ E) Q)
end
def z5 (x:Option (Option V))(Q:Bool->AH->Prop)(p:V)(H:AH):Prop:=match p with
 | .rcd c fs=>cond (Nat.beq c 0) (Rx x H λv H=>oZ (fs.lookup 1) H λa H=>oZ (fs.lookup 2) H λb H=>bF (lU (.tup [a,b]) v) H Q) False
 |_=>False
@[reducible] def RH (ρ:Loc)(i:Nat)(Q:ST):QT:=λv H=>(λ_:Prop=>Q .next (sL ρ i v) H) bT
@[reducible] def kAT (ρ:Loc)(is:List Nat)(Q:ST):QT:=λv H=>(match v with
 | .tup vs=>(match iV ρ is vs with|some ρ=>Q .next ρ H|none=>bT)
 |_=>bT)
@[reducible] def G7 (ρ:Loc)(Q:ST):AH->Prop:=λH=>(λ_:Prop=>Q .next ρ H) bT
@[reducible] def YS (ρ:Loc)(f:Nat)(v:V)(Q:ST):QT:=λov H=>(λ_:Prop=>eP ov f v H (G7 ρ Q)) bT
@[reducible] def YT (ρ:Loc)(W:WE)(f:Nat)(Q:ST):QT:=λv H=>W H (YS ρ f v Q)
@[reducible] def YO (ρ:Loc)(v ov:V)(Q:ST):QT:=λiv H=>(λ_:Prop=>ll ov iv v H (G7 ρ Q)) bT
@[reducible] def YQ (ρ:Loc)(W:WE)(v:V)(Q:ST):QT:=λov H=>W H (YO ρ v ov Q)
@[reducible] def YR (ρ:Loc)(W W2:WE)(Q:ST):QT:=λv H=>W H (YQ ρ W2 v Q)
@[reducible] def Ht (ρ:Loc)(i:Nat)(op:vk)(x:V)(Q:ST):QT:=λv H=>(match v with
 | .int y=>s9 op x (.int y) H (RH ρ i Q)
 |_=>bT)
@[reducible] def kAV (ρ:Loc)(W:WE)(i:Nat)(op:vk)(x:Option (Option V))(H:AH)(Q:ST):Prop:=match x with
 |some (some (.int x))=>W H (Ht ρ i op (.int x) Q)
 |_=>bT
@[reducible] def Hu (ρ:Loc)(ov:V)(f:Nat)(Q:ST):QT:=λr H=>(λ_:Prop=>eP ov f r H (G7 ρ Q)) bT
@[reducible] def Su (ρ:Loc)(ov:V)(f:Nat)(op:vk)(x:V)(Q:ST):QT:=λv H=>(match x with
 | .int x=>(match v with| .int y=>s9 op (.int x) (.int y) H (Hu ρ ov f Q)|_=>bT)
 |_=>bT)
@[reducible] def MI (ρ:Loc)(W:WE)(ov:V)(f:Nat)(op:vk)(Q:ST):QT:=λx H=>W H (Su ρ ov f op x Q)
@[reducible] def YV (ρ:Loc)(W:WE)(f:Nat)(op:vk)(Q:ST):QT:=λov H=>tL f ov H (MI ρ W ov f op Q)
@[reducible] def kEx (ρ:Loc)(Q:ST):QT:=λ_ H=>(λ_:Prop=>Q .next ρ H) bT
@[reducible] def W7 (ρ:Loc)(Q:ST):QT:=λv H=>(λ_:Prop=>Q (.ret v) ρ H) bT
@[reducible] def YU (E:Ĩ):QT:=λv H=>(λ_:Prop=>E v H) bT
@[reducible] def kRs (E:Ĩ)(W:WE):QT:=λ_ H=>W H (YU E)
@[reducible] def iL (W:Loc->Ĩ->WS)(E:Ĩ)(Q:ST):ST:=λfl ρ H=>match fl,bT with
 | .next,_=>W ρ E H Q
 | .brk,_=>Q .brk ρ H
 | .cont,_=>Q .cont ρ H
 | .ret v,_=>Q (.ret v) ρ H
@[reducible] def kTy (ρ:Loc)(Q:ST):qk:=λr H=>(λ_:Prop=>Q (.ret (.bool r)) ρ H) bT
def tm (test:Loc->Ĩ->WT)(body:Loc->Ĩ->WS)(E:Ĩ)(Q:ST):Nat->Loc->AH->Prop
 |0,_,_=>False
 |n+1,ρ,H=>test ρ E H (eI (L8 (body ρ E) λfl ρ H=>match fl with
   | .next=>tm test body E Q n ρ H
   | .cont=>tm test body E Q n ρ H
   | .brk=>Q .next ρ H
   | .ret v=>Q (.ret v) ρ H) (G7 ρ Q))
@[irreducible] def mH (test:Loc->Ĩ->WT)(body:Loc->Ĩ->WS)(E:Ĩ)(Q:ST)(ρ:Loc)(H:AH):Prop:=∃n,tm test body E Q n ρ H
noncomputable def dd (k:Option (List Nat))(i:Nat)(x:V)(ρ:Loc):Option Loc:=match k with
 |none=>some (sL ρ i x)
 |some is=>match x with
  | .tup vs=>iV ρ is vs
  |_=>none
def oP (k:Option (List Nat))(i:Nat)(ok:AH->Prop)(body:Loc->Ĩ->WS)(E:Ĩ)(Q:ST):List V->Loc->AH->Prop
 |[],ρ,H=>ok H∧Q .next ρ H
 |x::xs,ρ,H=>ok H∧sq (dd k i x ρ) λρ=>body ρ E H (λfl ρ H=>match fl with
   | .next=>oP k i ok body E Q xs ρ H
   | .cont=>oP k i ok body E Q xs ρ H
   | .brk=>Q .next ρ H
   | .ret v=>Q (.ret v) ρ H)
@[irreducible] def kFor (ρ:Loc)(W:Loc->Ĩ->WS)(E:Ĩ)(k:Option (List Nat))(i:Nat)(Q:ST):QT:=λs H=>(match ŵ s H with
 |some items=>oP k i (Ũ s H) W E Q items ρ H
 |none=>False)
mutual
@[reducible] def wpS (Φ:Ď):PS->Loc->Ĩ->AH->ST->Prop
  | .assign i e,ρ,E,H,Q=>bA Φ e ρ E H (RH ρ i Q)
  | .assignT is e,ρ,E,H,Q=>bA Φ e ρ E H (kAT ρ is Q)
  | .setA o f e,ρ,E,H,Q=>bA Φ e ρ E H (YT ρ (bA Φ o ρ E) f Q)
  | .setI o i e,ρ,E,H,Q=>bA Φ e ρ E H (YR ρ (bA Φ o ρ E) (bA Φ i ρ E) Q)
  | .augV i op e,ρ,E,H,Q=>kAV ρ (bA Φ e ρ E) i op ρ[i]? H Q
  | .augA o f op e,ρ,E,H,Q=>bA Φ o ρ E H (YV ρ (bA Φ e ρ E) f op Q)
  | .expr e,ρ,E,H,Q=>bA Φ e ρ E H (kEx ρ Q)
  | .ife t a b,ρ,E,H,Q=>mh Φ t ρ E H (eI (L8 (ì Φ a ρ E) Q) (L8 (ì Φ b ρ E) Q))
  | .whileS t b,ρ,E,H,Q=>mH (mh Φ t) (ì Φ b) E Q ρ H
  | .forS k i src b,ρ,E,H,Q=>bA Φ src ρ E H (kFor ρ (ì Φ b) E k i Q)
  | .ret e,ρ,E,H,Q=>bA Φ e ρ E H (W7 ρ Q)
  | .raise w p,ρ,E,H,_=>bA Φ w ρ E H (kRs E (bA Φ p ρ E))
  | .brk,ρ,_,H,Q=>Q .brk ρ H
  | .cont,ρ,_,H,Q=>Q .cont ρ H
  | .pass,ρ,_,H,Q=>Q .next ρ H
  | .tryL i e er ends,ρ,_,H,Q=>bA Φ e ρ (z5 ρ[ends]? (kTy (ρ.set er none) Q)) H (RH ρ i Q)
@[reducible] def ì (Φ:Ď):List PS->Loc->Ĩ->AH->ST->Prop
  |[],ρ,_,H,Q=>Q .next ρ H
  |s::ss,ρ,E,H,Q=>wpS Φ s ρ E H (iL (ì Φ ss) E Q)
end
noncomputable def tH (n:Nat)(as ds:List V):Option (List V):=
 if as.length<=n∧n<=as.length+ds.length then some (as++ds.drop (as.length+ds.length-n)) else none
@[reducible] def TG (a b:Nat)(v w:V)(r:List (Nat×V))(H:AH)(Q:QT):Prop:=match v with
  | .obj i=>pb a b i w r H Q
  |v=>Q (.rcd 7 ((a,v)::(b,w)::r)) H
@[reducible] def Mw (fs:List (Nat×V))(H:AH)(Q:QT):Prop:=match fs with
  |x::y::r=>TG x.1 y.1 x.2 y.2 r H Q
  |_=>bT
@[reducible] def am (Q:QT):ST:=λfl _ H=>match fl with
  | .ret v=>(match v with
    | .obj i=>sM Q i H
    | .rcd c fs=>(match Nat.beq c 7,bT with|true,_=>Mw fs H Q|false,_=>Q (.rcd c fs) H)
    |v=>Q v H)
  | .next=>Q .none H
  |_=>bT
noncomputable def mT (f:Nat):List PS:=match c8 f with
 |some d=>d.body
 |none=>[]
noncomputable def L6 (f:Nat)(as:List V):Loc:=match c8 f with
 |some d=>(match tH d.np as d.dflts with
  |some vs=>vs.map some++List.replicate (d.slots.length-d.np) none
  |none=>[])
 |none=>[]
noncomputable def QC (f:Nat)(as:List V):Bool:=match c8 f with
 |some d=>(tH d.np as d.dflts).isSome
 |none=>false
@[irreducible] def ú (n:Nat):Ď:=Nat.rec (λ_ _ _ _ _=>False) (λ_ P f as E Q H=>QC f as=true∧ì P (mT f) (L6 f as) E H (am Q)) n
theorem nG {n f:Nat}{as:List V}{E:Ĩ}{Q:QT}{H:AH}:ú (n+1) f as E Q H=(QC f as=true∧ì (ú n) (mT f) (L6 f as) E H (am Q)):=by delta ú;rfl
theorem yS {v:V}{K:Int->Prop}(h:Vj v K):∃i,v= .int i∧K i:=by
 cases v with
 |int i=>exact⟨i,rfl,h⟩
 |_=>exact h.elim
theorem ba {α:Type}{o:Option α}{K:α->Prop}(h:sq o K):∃a,o=some a∧K a:=by
 cases o with
 |some a=>exact⟨a,rfl,h⟩
 |none=>exact h.elim
theorem fj {o:Option Bool}{H:AH}{Q:qk}(h:bF o H Q):∃r,o=some r∧Q r H:=by
 cases o with
 |some a=>exact⟨a,rfl,h⟩
 |none=>exact b2.elim h
structure Cx where
 w:World
 h₀:Heap
 os₀:OsState
 mg:Str->Option Value
 mb:Str->Option Value
 mean:ExcName->Option Value
structure qD (cx:Cx):Prop where
 kin:(KF cx.w.params).In cx.h₀
 top:Top qw (looseW qw iY) cx.mean cx.mg cx.mb cx.h₀
noncomputable abbrev ē (vs:List Value)(n:Nat):Obj:={cls:= .type "list",data:= .seq vs.toArray n}
noncomputable abbrev f7 (vs:List Value):Obj:={cls:= .type "tuple",data:= .seq vs.toArray}
noncomputable abbrev Ca (a b c:Int)(t1 t2 t3:Tok):Obj:={cls:= .type "range",data:= .fields #[.int a t1,.int b t2,.int c t3]}
def fK (cx:Cx):Prop:=∀(s:Shared) (p:Addr) (ys:List Value) (xs:List Int),s.heap=cx.h₀->s.os=cx.os₀->s.gens= #[]->s.heap.get? p=some (ē ys 0)->IntsAre ys xs->xs.length<=63->
 wpAny (model pw cx.w) callerA (call (.ref 682) [.ref p]) (λx s'=>x= .bool true∧(∀a o,s.heap.get? a=some o->s'.heap.get? a=some o)∧s'.os=s.os∧s'.gens= #[]) (λ_ _=>False) s
theorem Uz:Nonempty Cx:=⟨⟨⟨λ_ _=>0,{strHash:=λ_=>0,shareClass:=λ_=>0,mergeTok:=λt=>t,idOf:=λ_=>0,idOfShared:=λ_ _=>0,followText:=λ_=>true,idOfImm:=λ_=>0}⟩,default,default,λ_=>none,λ_=>none,λ_=>none⟩⟩
noncomputable def cx:Cx:= @Classical.epsilon Cx Uz λcx=>qD cx∧¬fK cx
theorem Jy (h:qD cx->fK cx)(c:Cx)(k:qD c):fK c:=Kq λz=>(@Rq Cx (λcx=>qD cx∧¬fK cx) ⟨c,k,z⟩).2 (h (@Rq Cx (λcx=>qD cx∧¬fK cx) ⟨c,k,z⟩).1)
noncomputable abbrev K0:Frag:=KF cx.w.params
noncomputable abbrev M0:Model:=model pw cx.w
noncomputable def ĝ (l:List Nat):Str:=⟨l.toArray⟩
noncomputable def ņ (s:String):List Nat:=s.toList.map Char.toNat
theorem ĺ (s:String):Str.ofString s=ĝ (ņ s):=Str.ofString_eq_toList s
theorem rd {a b:List Nat}(h:ĝ a=ĝ b):a=b:=È (λs=>s.cps.toList) h
theorem dS (a b:List Nat):(ĝ a==ĝ b)=(a==b):=by
 rw[cQ,è,è]
 exact⟨rd,È ĝ⟩
inductive Ro where
 |free
 |still (o:Obj)
 |live (i:Nat)
 |mine (L:Addr)
structure Gh where
 θ:List (Addr×Addr)
 r:Addr->Ro
structure Gh.le (X Y:Gh):Prop where
 t:∀{i:Nat} {t:Addr×Addr},X.θ[i]? =some t->Y.θ[i]? =some t
 f:∀{a:Addr} {o:Obj},X.r a= .still o->Y.r a= .still o
 m:∀{a L:Addr},X.r a= .mine L->Y.r a= .mine L
theorem Gh.le.refl {X:Gh}:X.le X:=⟨id,id,id⟩
theorem Gh.le.trans {X Y Z:Gh}(a:X.le Y)(b:Y.le Z):X.le Z:=⟨λh=>b.t (a.t h),λh=>b.f (a.f h),λh=>b.m (a.m h)⟩
noncomputable abbrev gj (fs:List (Nat×V)):List (List Nat×V):=fs.map λf=>(ņ (ħ f.1),f.2)
noncomputable abbrev HE (k:List Nat)(t:Tok)(x:Value):DictEntry:=⟨PyData.keyHash cx.w.params (ĝ k),.str (ĝ k) t,x⟩
section
variable {X Y:Gh} {a d:Addr} {v:V} {x:Value} {vs us:List V} {xs ys:List Value} {l:List (List Nat×V)} {es:List DictEntry} {n:Nat} {k:List Nat}
mutual
inductive VR (X:Gh):V->Value->Prop
 |none:VR X .none .none
 |bool (b:Bool):VR X (.bool b) (.bool b)
 |int (i:Int) (t:Tok):VR X (.int i) (.int i t)
 |str {l:List Nat} (b:l.length<=ę) (t:Tok):VR X (.str l) (.str (ĝ l) t)
 |tup {vs:List V} {a:Addr} {xs:List Value}:vs.length<=ę->X.r a= .still (f7 xs)->Į X vs xs->VR X (.tup vs) (.ref a)
 |lst {vs:List V} {a:Addr} {xs:List Value} {n:Nat}:vs.length<=ę->X.r a= .still (ē xs n)->Į X vs xs->VR X (.lst vs) (.ref a)
 |rng {lo hi st:Int} {a:Addr} {t1 t2 t3:Tok}:X.r a= .still (Ca lo hi st t1 t2 t3)->VR X (.rng lo hi st) (.ref a)
 |rcd {c:Nat} {fs:List (Nat×V)} {a d:Addr} {es:List DictEntry} {n:Nat}:X.r a= .still (instObj (Ě c) d)->X.r d= .still (dictOf es n)->DR X (gj fs) es->VR X (.rcd c fs) (.ref a)
 |dic {l:List (List Nat×V)} {a:Addr} {es:List DictEntry} {n:Nat}:(a==sysModules)=false->X.r a= .still (dictOf es n)->DR X l es->VR X (.dic l) (.ref a)
 |obj {i:Nat} {a d:Addr}:X.θ[i]? =some (a,d)->VR X (.obj i) (.ref a)
inductive Į (X:Gh):List V->List Value->Prop
 |nil:Į X [] []
 |cons {v:V} {x:Value} {vs:List V} {xs:List Value}:VR X v x->Į X vs xs->Į X (v::vs) (x::xs)
inductive DR (X:Gh):List (List Nat×V)->List DictEntry->Prop
 |nil:DR X [] []
 |cons {k:List Nat} {v:V} {t:Tok} {x:Value} {l:List (List Nat×V)} {es:List DictEntry}:VR X v x->DR X l es->DR X ((k,v)::l) (HE k t x::es)
end
@[elab_as_elim] theorem Į.ind {P:List V->List Value->Prop}(r:Į X vs xs)(h0:P [] [])(h1:∀{v:V} {x:Value} {vs:List V} {xs:List Value},VR X v x->Į X vs xs->P vs xs->P (v::vs) (x::xs)):P vs xs:=
  r.rec (motive_1:=λ_ _ _=>True) (motive_2:=λvs xs _=>P vs xs) (motive_3:=λ_ _ _=>True)
   trivial (λ_=>trivial) (λ_ _=>trivial) (λ_ _=>trivial) (λ_ _ _ _=>trivial) (λ_ _ _ _=>trivial) (λ_=>trivial) (λ_ _ _ _=>trivial) (λ_ _ _ _=>trivial) (λ_=>trivial) h0 (λa b _ i=>h1 a b i) trivial (λ_ _ _ _=>trivial)
@[elab_as_elim] theorem DR.ind {P:List (List Nat×V)->List DictEntry->Prop}(r:DR X l es)(h0:P [] [])(h1:∀{k:List Nat} {v:V} {t:Tok} {x:Value} {l:List (List Nat×V)} {es:List DictEntry},VR X v x->DR X l es->P l es->P ((k,v)::l) (HE k t x::es)):P l es:=
  r.rec (motive_1:=λ_ _ _=>True) (motive_2:=λ_ _ _=>True) (motive_3:=λl es _=>P l es)
   trivial (λ_=>trivial) (λ_ _=>trivial) (λ_ _=>trivial) (λ_ _ _ _=>trivial) (λ_ _ _ _=>trivial) (λ_=>trivial) (λ_ _ _ _=>trivial) (λ_ _ _ _=>trivial) (λ_=>trivial) trivial (λ_ _ _ _=>trivial) h0 (λa b _ i=>h1 a b i)
def VRi (X:Gh)(P:Value->Prop):V->Prop
 | .none=>P .none
 | .bool b=>P (.bool b)
 | .int i=>∀t,P (.int i t)
 | .str l=>∀t,l.length<=ę->P (.str (ĝ l) t)
 | .tup vs=>∀a xs,vs.length<=ę->X.r a= .still (f7 xs)->Į X vs xs->P (.ref a)
 | .lst vs=>∀a xs n,vs.length<=ę->X.r a= .still (ē xs n)->Į X vs xs->P (.ref a)
 | .rng lo hi st=>∀a t1 t2 t3,X.r a= .still (Ca lo hi st t1 t2 t3)->P (.ref a)
 | .rcd c fs=>∀a d es n,X.r a= .still (instObj (Ě c) d)->X.r d= .still (dictOf es n)->DR X (gj fs) es->P (.ref a)
 | .dic l=>∀a es n,(a==sysModules)=false->X.r a= .still (dictOf es n)->DR X l es->P (.ref a)
 | .obj i=>∀a d,X.θ[i]? =some (a,d)->P (.ref a)
@[elab_as_elim] theorem VR.on {P:Value->Prop}(r:VR X v x)(h:VRi X P v):P x:=
  r.casesOn (motive_1:=λv x _=>VRi X P v->P x) (λh=>h) (λ_ h=>h) (λ_ t h=>h t) (λb t h=>h t b) (λb f r h=>h _ _ b f r) (λb f r h=>h _ _ _ b f r) (λf h=>h _ _ _ _ f) (λf g r h=>h _ _ _ _ f g r) (λq f r h=>h _ _ _ q f r) (λe h=>h _ _ e) h
def SZ (X:Gh)(P:List Value->Prop):List V->Prop
 |[]=>P []
 |v::vs=>∀x xs,VR X v x->Į X vs xs->P (x::xs)
@[elab_as_elim] theorem Į.on {P:List Value->Prop}(r:Į X vs xs)(h:SZ X P vs):P xs:=r.casesOn (motive_2:=λvs xs _=>SZ X P vs->P xs) (λh=>h) (λa b h=>h _ _ a b) h
def SY (X:Gh)(P:List V->Prop):List Value->Prop
 |[]=>P []
 |x::xs=>∀v vs,VR X v x->Į X vs xs->P (v::vs)
@[elab_as_elim] theorem Į.onv {P:List V->Prop}(r:Į X vs xs)(h:SY X P xs):P vs:=r.casesOn (motive_2:=λvs xs _=>SY X P xs->P vs) (λh=>h) (λa b h=>h _ _ a b) h
def DRi (X:Gh)(P:List DictEntry->Prop):List (List Nat×V)->Prop
 |[]=>P []
 |e::l=>∀t x es,VR X e.2 x->DR X l es->P (HE e.1 t x::es)
@[elab_as_elim] theorem DR.on {P:List DictEntry->Prop}(r:DR X l es)(h:DRi X P l):P es:=r.casesOn (motive_3:=λl es _=>DRi X P l->P es) (λh=>h) (λa b h=>h _ _ _ a b) h
theorem VR.lf (r:VR X v x)(t:∀{i:Nat} {t:Addr×Addr},X.θ[i]? =some t->Y.θ[i]? =some t)(f:∀{a:Addr} {o:Obj},X.r a= .still o->Y.r a= .still o):VR Y v x:=
 r.rec (motive_1:=λv x _=>VR Y v x) (motive_2:=λvs xs _=>Į Y vs xs) (motive_3:=λl es _=>DR Y l es)
  .none .bool .int .str (λb h _ i=> .tup b (f h) i) (λb h _ i=> .lst b (f h) i) (λh=> .rng (f h)) (λh g _ i=> .rcd (f h) (f g) i) (λq h _ i=> .dic q (f h) i) (λe=> .obj (t e)) .nil (λ_ _ a b=> .cons a b) .nil (λ_ _ a b=> .cons a b)
theorem Į.lf (r:Į X vs xs)(t:∀{i:Nat} {t:Addr×Addr},X.θ[i]? =some t->Y.θ[i]? =some t)(f:∀{a:Addr} {o:Obj},X.r a= .still o->Y.r a= .still o):Į Y vs xs:=r.ind .nil λa _ i=> .cons (a.lf t f) i
theorem DR.lf (r:DR X l es)(t:∀{i:Nat} {t:Addr×Addr},X.θ[i]? =some t->Y.θ[i]? =some t)(f:∀{a:Addr} {o:Obj},X.r a= .still o->Y.r a= .still o):DR Y l es:=r.ind .nil λa _ i=> .cons (a.lf t f) i
theorem VR.mono (r:VR X v x)(h:X.le Y):VR Y v x:=r.lf h.t h.f
theorem Į.mono (r:Į X vs xs)(h:X.le Y):Į Y vs xs:=r.lf h.t h.f
theorem DR.mono (r:DR X l es)(h:X.le Y):DR Y l es:=r.lf h.t h.f
theorem Į.length (r:Į X vs xs):vs.length=xs.length:=r.ind rfl λ_ _ i=>È (·+1) i
theorem Į.get (r:Į X vs xs){i:Nat}:vs[i]? =some v->∃x,xs[i]? =some x∧VR X v x:=by
 have k:∀i:Nat,vs[i]? =some v->∃x,xs[i]? =some x∧VR X v x:=r.ind (λ_ h=>nomatch h) λa _ ih i h=>by
  cases i with
  |zero=>exact Ä h▸⟨_,rfl,a⟩
  |succ i=>exact ih i h
 exact k i
theorem Į.append (r:Į X vs xs)(b:Į X us ys):Į X (vs++us) (xs++ys):=r.ind b λa _ i=> .cons a i
theorem Į.take (r:Į X vs xs):∀n,Į X (vs.take n) (xs.take n):=r.ind (λn=>by rw[List.take_nil,List.take_nil];exact .nil) λa _ ih n=>by
 cases n with
 |zero=>exact .nil
 |succ n=>exact .cons a (ih n)
theorem Į.drop (r:Į X vs xs):∀n,Į X (vs.drop n) (xs.drop n):=r.ind (λn=>by rw[LM,LM];exact .nil) λa b ih n=>by
 cases n with
 |zero=>exact .cons a b
 |succ n=>exact ih n
theorem Į.reverse (r:Į X vs xs):Į X vs.reverse xs.reverse:=r.ind .nil λa _ ih=>by rw[dH,dH];exact ih.append (.cons a .nil)
theorem Į.set (hv:VR X v x)(r:Į X vs xs):∀i,Į X (vs.set i v) (xs.set i x):=r.ind (λ_=>Į.nil) λa b ih i=>by
 cases i with
 |zero=>exact .cons hv b
 |succ i=>exact .cons a (ih i)
@[elab_as_elim] theorem Į.one {P:List Value->Prop}(r:Į X [v] xs)(k:∀x,VR X v x->P [x]):P xs:=r.on λx ys h r=>r.on (P:=λys=>P (x::ys)) (k x h)
@[elab_as_elim] theorem Į.two {u:V}{P:List Value->Prop}(r:Į X [v,u] xs)(k:∀x y,VR X v x->VR X u y->P [x,y]):P xs:=r.on λx ys h r=>r.one (P:=λys=>P (x::ys)) λy g=>k x y h g
end
inductive OR (X:Gh)(h:Heap):Addr×Addr->O->Prop
 |list {a:Addr} {vs:List V} {xs:List Value} {n:Nat}:vs.length<=ę->h.get? a=some (ē xs n)->Į X vs xs->OR X h (a,a) (.list vs)
 |dict {a:Addr} {l:List (List Nat×V)} {es:List DictEntry} {n:Nat}:(a==sysModules)=false->h.get? a=some (dictOf es n)->DR X l es->OR X h (a,a) (.dict l)
 |inst {a d:Addr} {c:Nat} {fs:List (Nat×V)} {es:List DictEntry} {n:Nat}:X.r a= .still (instObj (Ě c) d)->h.get? d=some (dictOf es n)->DR X (gj fs) es->OR X h (a,d) (.inst c fs)
def ORi (X:Gh)(h:Heap)(P:Addr×Addr->Prop):O->Prop
 | .list vs=>∀a xs n,vs.length<=ę->h.get? a=some (ē xs n)->Į X vs xs->P (a,a)
 | .dict l=>∀a es n,(a==sysModules)=false->h.get? a=some (dictOf es n)->DR X l es->P (a,a)
 | .inst c fs=>∀a d es n,X.r a= .still (instObj (Ě c) d)->h.get? d=some (dictOf es n)->DR X (gj fs) es->P (a,d)
structure Sx where
 X:Gh
 H:AH
 s:Shared
noncomputable abbrev Sx.h (T:Sx):Heap:=T.s.heap
structure Fm where
 A:Around
 env:Env
 frs:List Env
 ns:List Str
 st:Bool
noncomputable abbrev Fm.L (c:Fm):Addr:=c.env.locals
noncomputable abbrev d7 (l:List Env):List Addr:=l.filterMap (·.frame)
inductive lL (X:Gh)(env:Env)(h:Heap)(m:Str->Option Value)(x:Str)(v:V):Prop
 |loc (val:Value):env.kindOf x=some .local->m x=some val->VR X v val->lL X env h m x v
 |cell (ca k:Addr) (o:Obj) (val:Value):env.kindOf x=some .cell∨env.kindOf x=some .free->env.cells.lookup x=some ca->X.r ca= .mine k->h.get? ca=some o->o.data= .cell (some val)->VR X v val->lL X env h m x v
structure XW (c:Fm):Prop where
 kind:c.env.scope.kind= .function
 glob:c.env.globals=mainGlobals
 bl:c.env.builtins=builtinsNs
 nd:c.ns.Nodup
 cells:∀x,c.env.kindOf x=some .cell∨c.env.kindOf x=some .free->∃ca,c.env.cells.lookup x=some ca
 frames:c.A.frames=some c.frs
 units:c.A.units+40<cLine
 depth:c.A.depth+40<recursionLimit
structure Wd (T:Sx):Prop where
 g:qD cx
 os:T.s.os=cx.os₀
 gens:T.s.gens= #[]
 base:∀{b o},cx.h₀.get? b=some o->T.X.r b= .still o
 still:∀{a o},T.X.r a= .still o->T.h.get? a=some o
 len:T.H.length=T.X.θ.length
 obj:∀{i o t},T.H[i]? =some (some o)->T.X.θ[i]? =some t->T.X.r t.2= .live i∧OR T.X T.h t o
 live:∀{a i},T.X.r a= .live i->∃o t,T.H[i]? =some (some o)∧T.X.θ[i]? =some t∧t.2=a
 own:∀{a L},T.X.r a= .mine L->T.X.r L= .mine L∧(∃o,T.h.get? L=some o)∧(a=L∨∃o v,T.h.get? a=some o∧o.data= .cell v)
structure Ħ (c:Fm)(ρ:Loc)(T:Sx):Prop extends Wd T where
 k:XW c
 ownL:T.X.r c.L= .mine c.L
 above:cx.h₀.objs.size<=c.L
 frm:∀{L},L∈d7 c.frs->T.X.r L= .mine L
 frames:T.h.FunFrames cx.h₀ c.frs
 cw:c.st=true->∀{x ca},c.env.kindOf x=some .cell->c.env.cells.lookup x=some ca->T.X.r ca= .mine c.L
 loc:∃m,T.h.Ns c.L m∧∀{i:Nat} {x v},c.ns[i]? =some x->ρ[i]? =some (some v)->lL T.X c.env T.h m x v
inductive Tr:Ro->Ro->Prop
 |same {r:Ro}:Tr r r
 |fix {i:Nat} {o:Obj}:Tr (.live i) (.still o)
def Sl (l:List Addr)(a:Addr)(o:Obj)(h:Heap):Prop:=h.get? a=some o∨(a∈l∧∃sl,h.get? a=some {o with slots:=sl})
structure Step (c:Fm)(T T':Sx):Prop where
 keep:∀{a o},T.h.get? a=some o->(∀i,T.X.r a≠ .live i)->T.X.r a≠ .mine c.L->Sl (d7 c.frs) a o T'.h
 grows:∀{a o},T.h.get? a=some o->∃o',T'.h.get? a=some o'
 le:T.X.le T'.X
 tr:∀{a o},T.h.get? a=some o->Tr (T.X.r a) (T'.X.r a)
 mn:∀{a k},T'.X.r a= .mine k->T.X.r a= .mine k∨(T.h.get? k=none∧k≠c.L)
 hl:T.H.length<=T'.H.length
section
variable {c:Fm} {ρ:Loc} {T T' VG:Sx} {X Y:Gh} {h h':Heap} {a L:Addr} {o:Obj} {l:List Addr} {i:Nat} {t:Addr×Addr} {ob:O} {P:Addr×Addr->Prop} {m:Str->Option Value} {x:Str} {v:V} {env:Env}
@[elab_as_elim] theorem OR.on (r:OR X h t ob)(k:ORi X h P ob):P t:=r.casesOn (motive:=λt o _=>ORi X h P o->P t) (λa b c k=>k _ _ _ a b c) (λa b c k=>k _ _ _ a b c) (λa b c k=>k _ _ _ _ a b c) k
theorem OR.foot (r:OR X h t ob):∃o,h.get? t.2=some o∧∀v,o.data≠ .cell v:=by
 induction r<;>exact⟨_,by assumption,λv q=>Data.noConfusion q⟩
theorem OR.lf (r:OR X h t ob)(tt:∀{i:Nat} {t:Addr×Addr},X.θ[i]? =some t->Y.θ[i]? =some t)(f:∀{a:Addr} {o:Obj},X.r a= .still o->Y.r a= .still o)(k:∀o,h.get? t.2=some o->h'.get? t.2=some o):OR Y h' t ob:=by
 induction r with
 |list b e r=>exact .list b (k _ e) (r.lf tt f)
 |dict q e r=>exact .dict q (k _ e) (r.lf tt f)
 |inst g e r=>exact .inst (f g) (k _ e) (r.lf tt f)
theorem OR.mono (r:OR X h t ob)(l:X.le Y)(k:∀o,h.get? t.2=some o->h'.get? t.2=some o):OR Y h' t ob:=r.lf l.t l.f k
theorem Tr.trans {a b c:Ro}(x:Tr a b)(y:Tr b c):Tr a c:=by
 induction x with
 |same=>exact y
 |fix=>
  generalize e:Ro.still _=b at y
  induction y with
  |same=>exact e▸ .fix
  |fix=>exact Ro.noConfusion e
theorem Tr.on {a b:Ro}(x:Tr a b):a=b∨∃o,b= .still o:=by
 induction x with
 |same=>exact .inl rfl
 |fix=>exact .inr ⟨_,rfl⟩
theorem Tr.live {a:Ro}(x:Tr a (.live i)):a= .live i:=x.on.elim id λ⟨_,e⟩=>nomatch e
theorem Tr.mine {a:Ro}(x:Tr a (.mine L)):a= .mine L:=x.on.elim id λ⟨_,e⟩=>nomatch e
theorem Sl.trans (x:Sl l a o h)(y:∀o,h.get? a=some o->Sl l a o h'):Sl l a o h':=by
 rcases x with e|⟨m,sl,e⟩
 ·exact y _ e
 ·rcases y _ e with q|⟨_,sl,q⟩
  ·exact .inr ⟨m,_,q⟩
  ·exact .inr ⟨m,_,q⟩
theorem ci (k:∀o,h.get? a=some o->∃o',h'.get? a=some o')(n:h'.get? a=none):h.get? a=none:=by
 cases e:h.get? a with
 |none=>rfl
 |some o=>obtain⟨o',q⟩:=k o e;rw[n] at q;exact nS q
theorem Step.refl:Step c T T:=⟨λe _ _=> .inl e,λe=>⟨_,e⟩,.refl,λ_=> .same,.inl,Å _⟩
theorem Step.trans (a:Step c T T')(b:Step c T' VG):Step c T VG where
 keep:=λe n m=>(a.keep e n m).trans λo e'=>b.keep e' (λi q=>n i (Tr.live (q▸a.tr e))) λq=>m (Tr.mine (q▸a.tr e))
 grows:=λe=>(a.grows e).elim λ_ e=>b.grows e
 le:=a.le.trans b.le
 tr:=λe=>(a.grows e).elim λ_ e'=>(a.tr e).trans (b.tr e')
 mn:=λe=>(b.mn e).elim a.mn λn=> .inr ⟨ci (λ_=>a.grows) n.1,n.2⟩
 hl:=À a.hl b.hl
theorem lL.mono (r:lL X env h m x v)(l:X.le Y)(k:∀{ca o v k},X.r ca= .mine k->h.get? ca=some o->o.data= .cell v->h'.get? ca=some o):lL Y env h' m x v:=
 r.casesOn (λval a b r=> .loc val a b (r.mono l)) λca kk o val a e q ho hd r=> .cell ca kk o val a e (l.m q) (k q ho hd) hd (r.mono l)
theorem dy {base:Heap}{l:List Env}(r:h.FunFrames base l):(∀L∈d7 l,∀o,h.get? L=some o->(∀vs,o.data≠ .fields vs)->∃o',h'.get? L=some o'∧∀vs,o'.data≠ .fields vs)->h'.FunFrames base l:=by
 induction l with
 |nil=>exact λ_=>trivial
 |cons env l ih=>
  intro k
  obtain⟨hk,⟨L,o,hf,hn,ho,hd⟩,hr⟩:=r
  obtain⟨o',e,d⟩:=k L (iK.mpr ⟨env,.head _,hf⟩) o ho hd
  exact⟨hk,⟨L,o',hf,hn,e,d⟩,ih hr λL' hL=>k L' (iK.mpr ((iK.mp hL).imp λ_ h=>⟨.tail _ h.1,h.2⟩))⟩
theorem vM {o o':Obj}(e:Ro.still o= .still o'):o=o':=by injection e
theorem Ho {i j:Nat}(e:Ro.live i= .live j):i=j:=by injection e
theorem Hm {r:Ro}{P:Prop}(e:r= .still o)(q:r= .mine L):P:=Ro.noConfusion (e.symm.trans q)
theorem oM {r:Ro}{P:Prop}(e:r= .live i)(q:r= .mine L):P:=Ro.noConfusion (e.symm.trans q)
theorem Hn {r:Ro}{P:Prop}(e:r= .live i)(q:r= .still o):P:=Ro.noConfusion (e.symm.trans q)
theorem QG (hn:h.Ns L m):∃o,h.get? L=some o∧(∀vs,o.data≠ .fields vs)∧∀v,o.data≠ .cell v:=by
 obtain⟨o,es,ep,e,d,_⟩:=hn
 exact⟨o,e,λvs q=>Data.noConfusion (d.symm.trans q),λvs q=>Data.noConfusion (d.symm.trans q)⟩
theorem Ħ.cellL (R:Ħ c ρ T){v:Option Value}(e:T.h.get? a=some o)(d:o.data= .cell v):a≠c.L:=λz=>by
 obtain⟨m,hm,_⟩:=R.loc
 obtain⟨o',e',_,n⟩:=QG hm
 rw[z,e'] at e
 exact n v (Ä e▸d)
structure Mv (c:Fm)(T:Sx)(W:Addr->Prop)(h':Heap):Prop where
 w:∀{a},W a->(∀o,T.X.r a≠ .still o)∧∀k,T.X.r a≠ .mine k
 kp:∀{a o},T.h.get? a=some o->a≠c.L->¬W a->h'.get? a=some o
 kn:∀m,T.h.Ns c.L m->h'.Ns c.L m
theorem Mv.mine {W:Addr->Prop}(K:Mv c T W h')(R:Ħ c ρ T)(q:T.X.r a= .mine L)(e:T.h.get? a=some o):∃o',h'.get? a=some o':=by
 by_cases z:a=c.L
 ·obtain⟨m,hm,_⟩:=R.loc
  obtain⟨o',e',_⟩:=QG (K.kn m hm)
  exact⟨o',z▸e'⟩
 ·exact⟨o,K.kp e z λw=>(K.w w).2 _ q⟩
theorem Mv.stay {W:Addr->Prop}(K:Mv c T W h')(R:Ħ c ρ T)(e:T.X.r a= .still o):h'.get? a=some o:=K.kp (R.still e) (λz=>Hm e (z▸R.ownL)) λz=>(K.w z).1 o e
theorem Mv.cell {W:Addr->Prop}(K:Mv c T W h')(R:Ħ c ρ T){v:Option Value}(q:T.X.r a= .mine L)(e:T.h.get? a=some o)(d:o.data= .cell v):h'.get? a=some o:=K.kp e (R.cellL e d) λz=>(K.w z).2 L q
theorem Mv.obj {W:Addr->Prop}(K:Mv c T W h')(R:Ħ c ρ T)(l:T.X.le X)(h1:T.H[i]? =some (some ob))(h2:T.X.θ[i]? =some t)(n:¬W t.2):OR X h' t ob:=
 (R.obj h1 h2).2.mono l λo e=>K.kp e (λz=>oM (R.obj h1 h2).1 (z▸R.ownL)) n
theorem Mv.rel {W:Addr->Prop}{H:AH}{tk:Nat}(K:Mv c T W h')(R:Ħ c ρ T)(le:T.X.le X)(len:H.length=X.θ.length)
 (still:∀{a o},X.r a= .still o->T.X.r a= .still o∨h'.get? a=some o) (mine:∀{a L},X.r a= .mine L->T.X.r a= .mine L)
 (obj:∀{i o t},H[i]? =some (some o)->X.θ[i]? =some t->X.r t.2= .live i∧OR X h' t o) (live:∀{a i},X.r a= .live i->∃o t,H[i]? =some (some o)∧X.θ[i]? =some t∧t.2=a):Ħ c ρ ⟨X,H,{T.s with heap:=h',toks:=tk}⟩ where
 g:=R.g
 os:=R.os
 gens:=R.gens
 base:=λe=>le.f (R.base e)
 still:=λe=>(still e).elim (K.stay R) id
 len:=len
 obj:=obj
 live:=live
 own:=λe=>by
  obtain⟨a,⟨o,b⟩,d⟩:=R.own (mine e)
  exact⟨le.m a,K.mine R a b,d.imp id λ⟨o,v,e',d⟩=>⟨o,v,K.cell R (mine e) e' d,d⟩⟩
 k:=R.k
 ownL:=le.m R.ownL
 above:=R.above
 frm:=λh=>le.m (R.frm h)
 cw:=λh0 _ _ h1 h2=>le.m (R.cw h0 h1 h2)
 frames:=dy R.frames λL hL o e d=>by
  by_cases q:L=c.L
  ·obtain⟨m,hm,_⟩:=R.loc
   obtain⟨o',e',d,_⟩:=QG (K.kn m hm)
   exact⟨o',q▸e',d⟩
  ·exact⟨o,K.kp e q λz=>(K.w z).2 _ (R.frm hL),d⟩
 loc:=by
  obtain⟨m,hm,r⟩:=R.loc
  exact⟨m,K.kn m hm,λh1 h2=>(r h1 h2).mono le (K.cell R)⟩
theorem Mv.step {W:Addr->Prop}{H:AH}{tk:Nat}(K:Mv c T W h')(R:Ħ c ρ T)(gr:∀{a o},T.h.get? a=some o->W a->∃o',h'.get? a=some o')(hw:∀{a},W a->∃i,T.X.r a= .live i)(le:T.X.le X)(tr:∀{a o},T.h.get? a=some o->Tr (T.X.r a) (X.r a))(mine:∀{a L},X.r a= .mine L->T.X.r a= .mine L)(hl:T.H.length<=H.length):Step c T ⟨X,H,{T.s with heap:=h',toks:=tk}⟩ where
 keep:=λe n m=> .inl (K.kp e (λz=>m (z▸R.ownL)) λz=>(hw z).elim n)
 grows:=λ{a o} e=>by
  by_cases z:W a
  ·exact gr e z
  ·by_cases q:a=c.L
   ·exact K.mine R (q▸R.ownL) e
   ·exact⟨o,K.kp e q z⟩
 le:=le
 tr:=tr
 mn:=λe=> .inl (mine e)
 hl:=hl
end
end
section
open PySem PySem.W PyProof.Rows PySem.Calls
set_option backward.match.sparseCases false
structure Nx (c:Fm)(ρ:Loc)(T T':Sx):Prop where
 r:Ħ c ρ T'
 s:Step c T T'
structure KL (L:Addr)(h h':Heap):Prop where
 k:∀a o,a≠L->h.get? a=some o->h'.get? a=some o
 n:∀m,h.Ns L m->h'.Ns L m
structure Ad (T:Sx)(Y:Gh)(h':Heap):Prop where
 th:Y.θ=T.X.θ
 old:∀{a o},T.h.get? a=some o->Y.r a=T.X.r a
 nw:∀{a},T.h.get? a=none->Y.r a= .free∨∃o,Y.r a= .still o∧h'.get? a=some o
noncomputable def Gh.put (X:Gh)(a:Addr)(r:Ro):Gh:=⟨X.θ,λb=>if b=a then r else X.r b⟩
noncomputable def Gh.new (X:Gh)(t:Addr×Addr):Gh:=⟨X.θ++[t],(X.put t.2 (.live X.θ.length)).r⟩
section
variable {c:Fm} {ρ:Loc} {T T' VG:Sx} {X Y:Gh} {h h':Heap} {a b L:Addr} {o:Obj} {i tk:Nat} {t:Addr×Addr} {ob WZ:O} {r:Ro}
theorem aw:(X.put a r).r a=r:=Î rfl
theorem ķ (n:b≠a):(X.put a r).r b=X.r b:=Ñ n
theorem KL.of {L:Addr}{h h':Heap}(k:∀a o,h.get? a=some o->h'.get? a=some o):KL L h h':=⟨λa o _ e=>k a o e,λm n=>n.keeps k⟩
theorem KL.push:KL L h (h.push o):= .of λa ob e=>Ø _ e
theorem Ņ (h:Heap):h.get? h.objs.size=none:=by
 cases e:h.get? h.objs.size with
 |none=>rfl
 |some o=>exact absurd (ā e) (aq _)
theorem KL.mv (R:Ħ c ρ T)(k:KL c.L T.h h'):Mv c T (λ_=>False) h':=⟨λz=>z.elim,λe q _=>k.k _ _ q e,k.n⟩
theorem Wd.there (W:Wd T)(n:T.X.r a≠ .free):∃o,T.h.get? a=some o:=by
 cases e:T.X.r a with
 |free=>exact absurd e n
 |still o=>exact⟨o,W.still e⟩
 |live i=>
  obtain⟨o,t,h1,h2,rfl⟩:=W.live e
  exact (W.obj h1 h2).2.foot.imp λ_ h=>h.1
 |mine L=>exact (W.own e).2.2.elim (λz=>z▸(W.own e).2.1) λ⟨o,_,h,_⟩=>⟨o,h⟩
theorem Wd.free (W:Wd T)(n:T.h.get? a=none):T.X.r a= .free:=Kq λz=>nS (n.symm.trans (W.there z).choose_spec)
theorem Ad.refl (W:Wd T):Ad T T.X h':=⟨rfl,λ_=>rfl,λn=> .inl (W.free n)⟩
theorem Ad.put (W:Wd T)(n:T.h.get? a=none)(e:h'.get? a=some o):Ad T (T.X.put a (.still o)) h':=⟨rfl,λq=>ķ λz=>nS ((z▸n).symm.trans q),λ{b} m=>by
 by_cases z:b=a
 ·subst z
  exact .inr ⟨o,aw,e⟩
 ·rw[ķ z];exact .inl (W.free m)⟩
theorem Ad.le (A:Ad T Y h')(W:Wd T):T.X.le Y:=⟨λh=>A.th▸h,λe=>(A.old (W.still e)).trans e,λe=>(W.there λz=>Ro.noConfusion (z.symm.trans e)).elim λ_ q=>(A.old q).trans e⟩
theorem Ad.tr (A:Ad T Y h')(e:T.h.get? a=some o):Tr (T.X.r a) (Y.r a):=A.old e▸ .same
theorem Ad.at (A:Ad T Y h')(e:Y.r a=r)(n:r≠ .free):T.X.r a=r∨∃o,r= .still o∧h'.get? a=some o:=by
 cases q:T.h.get? a with
 |some o=>exact .inl ((A.old q).symm.trans e)
 |none=>
  rcases A.nw q with z|⟨o,z,k⟩
  ·exact absurd (e.symm.trans z) n
  ·exact .inr ⟨o,e.symm.trans z,k⟩
theorem Ad.still (A:Ad T Y h')(e:Y.r a= .still o):T.X.r a= .still o∨h'.get? a=some o:=(A.at e nofun).imp id λ⟨o',q,k⟩=>vM q▸k
theorem Ad.mine (A:Ad T Y h')(e:Y.r a= .mine L):T.X.r a= .mine L:=(A.at e nofun).elim id λ⟨_,q,_⟩=>nomatch q
theorem Ad.live (A:Ad T Y h')(e:Y.r a= .live i):T.X.r a= .live i:=(A.at e nofun).elim id λ⟨_,q,_⟩=>nomatch q
theorem Ħ.frozen (R:Ħ c ρ T)(k:KL c.L T.h h')(A:Ad T Y h'):Nx c ρ T ⟨Y,T.H,{T.s with heap:=h',toks:=tk}⟩ where
 r:=(k.mv R).rel R (A.le R.toWd) (A.th▸R.len) A.still A.mine (λh1 h2=>by
  rw[A.th] at h2
  obtain⟨q,r⟩:=R.obj h1 h2
  obtain⟨o,e,_⟩:=r.foot
  exact⟨(A.old e).trans q,(k.mv R).obj R (A.le R.toWd) h1 h2 id⟩) λe=>A.th▸R.live (A.live e)
 s:=(k.mv R).step R (λ_ z=>z.elim) (λz=>z.elim) (A.le R.toWd) A.tr A.mine (Å _)
theorem Ħ.grown (R:Ħ c ρ T)(k:KL c.L T.h h'):Nx c ρ T ⟨T.X,T.H,{T.s with heap:=h',toks:=tk}⟩:=R.frozen k (.refl R.toWd)
theorem Ħ.tok (R:Ħ c ρ T):Nx c ρ T ⟨T.X,T.H,{T.s with toks:=tk}⟩:=R.grown (.of λ_ _ e=>e)
theorem t4 {α:Type}{l:List α}{x y:α}{i:Nat}(h:(l++[x])[i]? =some y):l[i]? =some y∨(i=l.length∧x=y):=by
 rcases Ŝ i l.length with hi|hi
 ·exact .inl ((ÿ hi).symm.trans h)
 ·rw[ĭ hi] at h
  cases hj:i-l.length with
  |zero=>
   rw[hj] at h
   exact .inr ⟨BL (U7 hj) hi,Ä h⟩
  |succ n=>rw[hj] at h;exact nS h
theorem Gh.le_new (f:X.r t.2= .free):X.le (X.new t) where
 t:=λh=>(ÿ (Õ.mp h).1).trans h
 f:=λ{a o} e=>(ķ λz=>Ro.noConfusion (f.symm.trans (z▸e))).trans e
 m:=λ{a L} e=>(ķ λz=>Ro.noConfusion (f.symm.trans (z▸e))).trans e
theorem Dp:(X.new t).r t.2= .live X.θ.length:=aw
theorem wm (n:b≠t.2):(X.new t).r b=X.r b:=ķ n
theorem Cy (e:(X.new t).r b=r):(b=t.2∧r= .live X.θ.length)∨X.r b=r:=by
 by_cases z:b=t.2
 ·exact .inl ⟨z,e.symm.trans (z▸Dp)⟩
 ·exact .inr ((wm z).symm.trans e)
theorem Ħ.live' (R:Ħ c ρ T)(k:KL c.L T.h h')(A:Ad T Y h')(n:T.h.get? t.2=none)(f:Y.r t.2= .free)(ho:OR (Y.new t) h' t ob):Nx c ρ T ⟨Y.new t,T.H++[some ob],{T.s with heap:=h',toks:=tk}⟩:=by
 have le:=(A.le R.toWd).trans (Y.le_new f)
 have len:T.H.length=Y.θ.length:=A.th▸R.len
 have mine:∀{a L},(Y.new t).r a= .mine L->T.X.r a= .mine L:=λe=>(Cy e).elim (λz=>nomatch z.2) A.mine
 refine⟨(k.mv R).rel R le ?_ (λe=>(Cy e).elim (λz=>nomatch z.2) A.still) mine (λh1 h2=> ?_) λe=> ?_,(k.mv R).step R (λ_ z=>z.elim) (λz=>z.elim) le (λe=> ?_) mine ?_⟩
 ·show (T.H++[some ob]).length=(Y.θ++[t]).length
  rw[Ã,Ã,len];rfl
 ·rcases t4 h1 with a|⟨a,a'⟩<;>rcases t4 h2 with b|⟨b,b'⟩
  ·rw[A.th] at b
   obtain⟨q,r⟩:=R.obj a b
   obtain⟨o,e,_⟩:=r.foot
   exact⟨(wm λz=>nS ((z▸n).symm.trans e)).trans ((A.old e).trans q),(k.mv R).obj R le a b id⟩
  ·exact absurd (Õ.mp a).1 (Ł.mpr (ð (len.trans b.symm)))
  ·exact absurd (Õ.mp b).1 (Ł.mpr (ð (len.symm.trans a.symm)))
  ·subst b'
   rw[b,←Ä a']
   exact⟨Dp,ho⟩
 ·rcases Cy e with ⟨z,q⟩|q
  ·refine⟨ob,t,?_,?_,z.symm⟩
   ·rw[Ho q,←len];exact ŭ
   ·rw[Ho q];exact ŭ
  ·obtain⟨o,t,h1,h2,h3⟩:=R.live (A.live q)
   exact⟨o,t,(ÿ (Õ.mp h1).1).trans h1,le.t h2,h3⟩
 ·rw[wm λz=>nS ((z▸n).symm.trans e)];exact A.tr e
 ·show T.H.length<=(T.H++[some ob]).length
  rw[Ã];exact Ï _ _
theorem Ħ.live1 (R:Ħ c ρ T)(k:KL c.L T.h h')(n:T.h.get? t.2=none)(ho:OR (T.X.new t) h' t ob):Nx c ρ T ⟨T.X.new t,T.H++[some ob],{T.s with heap:=h',toks:=tk}⟩:=R.live' k (.refl R.toWd) n (R.toWd.free n) ho
theorem mI {α:Type}{l:List α}{i j:Nat}{x y:α}(h:(l.set i x)[j]? =some y):(j=i∧x=y)∨(j≠i∧l[j]? =some y):=by
 rw[jA] at h
 by_cases q:i=j
 ·rw[Î q] at h
  by_cases z:j<l.length
  ·rw[Î (q▸z)] at h
   exact .inl ⟨q.symm,Ä h⟩
  ·rw[Ñ (q▸z)] at h
   exact nS h
 ·rw[Ñ q] at h
  exact .inr ⟨bI q,h⟩
theorem NH {α:Type}{l:List α}{i:Nat}{x y:α}(h:l[i]? =some y):(l.set i x)[i]? =some x:=by
 rw[jA,Î rfl,Î (Õ.mp h).1]
theorem Ħ.turn (R:Ħ c ρ T)(hi:T.H[i]? =some (some ob))(ht:T.X.θ[i]? =some t)(k:∀{a o},T.h.get? a=some o->a≠c.L->a≠t.2->h'.get? a=some o)(kn:∀m,T.h.Ns c.L m->h'.Ns c.L m)(ho:OR T.X h' t WZ):Nx c ρ T ⟨T.X,T.H.set i (some WZ),{T.s with heap:=h',toks:=tk}⟩:=by
 have lv:=(R.obj hi ht).1
 have K:Mv c T (λa=>a=t.2) h':=⟨λz=>⟨λo e=>Hn (z▸lv) e,λ_ e=>oM (z▸lv) e⟩,k,kn⟩
 refine⟨K.rel R .refl (Ġ.trans R.len) .inl id (λh1 h2=> ?_) (λ{b j} e=> ?_),K.step R (λ_ z=>z▸ho.foot.imp λ_ h=>h.1) (λz=>⟨i,z▸lv⟩) .refl (λ_=> .same) id (ð Ġ.symm)⟩
 ·rcases mI h1 with ⟨rfl,e⟩|⟨ne,e⟩
  ·obtain rfl:=Ä (ht.symm.trans h2)
   exact⟨lv,Ä e▸ho⟩
  ·exact⟨(R.obj e h2).1,K.obj R .refl e h2 λz=>ne (Ho ((R.obj e h2).1.symm.trans (z▸lv)))⟩
 ·obtain⟨o,t',h1,h2,h3⟩:=R.live e
  by_cases z:i=j
  ·exact⟨WZ,t',z▸NH hi,h2,h3⟩
  ·exact⟨o,t',(ñ z).trans h1,h2,h3⟩
theorem Ħ.kill (R:Ħ c ρ T)(hi:T.H[i]? =some (some ob))(ht:T.X.θ[i]? =some t)(hb:T.h.get? t.2=some o):Nx c ρ T ⟨T.X.put t.2 (.still o),T.H.set i none,T.s⟩:=by
 have lv:=(R.obj hi ht).1
 have K:=KL.mv R (h':=T.h) (.of λ_ _ e=>e)
 have le:T.X.le (T.X.put t.2 (.still o)):=⟨id,λ{a o} e=>(ķ λz=>Hn (z▸lv) e).trans e,λ{a L} e=>(ķ λz=>oM (z▸lv) e).trans e⟩
 have pr:∀{b r},(T.X.put t.2 (.still o)).r b=r->(b=t.2∧r= .still o)∨(b≠t.2∧T.X.r b=r):=λ{b r} e=>by
  by_cases z:b=t.2
  ·exact .inl ⟨z,e.symm.trans (z▸aw)⟩
  ·exact .inr ⟨z,(ķ z).symm.trans e⟩
 have mine:∀{a L},(T.X.put t.2 (.still o)).r a= .mine L->T.X.r a= .mine L:=λe=>(pr e).elim (λz=>nomatch z.2) (·.2)
 refine⟨K.rel (tk:=T.s.toks) R le (Ġ.trans R.len) (λe=>(pr e).elim (λz=> .inr (by rw[z.1,vM z.2];exact hb)) λz=> .inl z.2) mine (λh1 h2=> ?_) λe=> ?_,K.step (tk:=T.s.toks) R (λ_ z=>z.elim) (λz=>z.elim) le (λ{a _} e=> ?_) mine (ð Ġ.symm)⟩
 ·rcases mI h1 with ⟨_,e⟩|⟨ne,e⟩
  ·exact nS e
  ·have q:=(R.obj e h2).1
   exact⟨(ķ λz=>ne (Ho (q.symm.trans ((È T.X.r z).trans lv)))).trans q,K.obj R le e h2 id⟩
 ·rcases pr e with ⟨_,z⟩|⟨ne,q⟩
  ·exact nomatch z
  ·obtain⟨o,t',h1,h2,rfl⟩:=R.live q
   exact⟨o,t',(ñ λz=>ne (by subst z;rw[Ä (ht.symm.trans h2)])).trans h1,h2,rfl⟩
 ·by_cases z:a=t.2
  ·rw[z,aw,lv];exact .fix
  ·rw[ķ z];exact .same
end
inductive vY (h:Heap)(X:Gh)(h':Heap)(vs:Array Value)(a:Addr):Prop
 |no:vs[1]? =some .none->vY h X h' vs a
 |mk (T:Addr) (oT:Obj) (ts:Array Value):vs[1]? =some (.ref T)->h'.get? T=some oT->oT.data= .fields ts->4<=ts.size->X.r T= .free->T≠a->h.get? T=none->vY h X h' vs a
structure Nb (X:Gh)(p:V)(oe:Obj)(vs:Array Value):Prop where
 cls:oe.cls= .ref (Ě 2)
 data:oe.data= .fields vs
 sz:6<=vs.size
 dict:∃de es n wv,oe.dict=some de∧X.r de= .still (dictOf es n)∧DR X [(ņ "what",wv),(ņ "at",p)] es
inductive vZ (h:Heap)(X:Gh)(h':Heap)(p:V)(a:Addr):Prop
 |mk {oe:Obj} {vs:Array Value}:h'.get? a=some oe->Nb X p oe vs->vY h X h' vs a->X.r a= .free->h.get? a=none->vZ h X h' p a
inductive dJ (c:Fm)(ρ:Loc)(T:Sx)(E:Ĩ)(s':Shared):Value->Prop
 |mk {X':Gh} {H':AH} {p:V} {a:Addr}:Nx c ρ T ⟨X',H',s'⟩->vZ T.h X' s'.heap p a->E p H'->dJ c ρ T E s' (.ref a)
inductive xQ (c:Fm)(T:Sx)(E:Ĩ)(e:Value)(s':Shared):Prop
 |mk {Ĥ:Loc}:dJ c Ĥ T E s' e->xQ c T E e s'
inductive ŝ {β γ:Type}(c:Fm)(ρ:Loc)(T:Sx)(V₁:Gh->γ->β->Prop)(Q:γ->AH->Prop)(b:β)(s':Shared):Prop
 |mk {X':Gh} {H':AH} {v:γ}:Nx c ρ T ⟨X',H',s'⟩->V₁ X' v b->Q v H'->ŝ c ρ T V₁ Q b s'
def ĥ {β γ:Type}(c:Fm)(ρ:Loc)(T:Sx)(t:Sem β)(V₁:Gh->γ->β->Prop)(E:Ĩ)(Q:γ->AH->Prop):Prop:=
 Ħ c ρ T->wpAny M0 c.A t (ŝ c ρ T V₁ Q) (λe s'=>dJ c ρ T E s' e) T.s
abbrev VV:Gh->V->Value->Prop:=VR
abbrev VVs:Gh->List V->List Value->Prop:=Į
abbrev VB:Gh->Bool->Bool->Prop:=λ_ a b=>a=b
abbrev VU:Gh->Unit->Unit->Prop:=λ_ _ _=>True
section
variable {β γ Rt Rr:Type} {c:Fm} {ρ:Loc} {T T₁ cJ:Sx} {t t':Sem β} {b:β} {v:γ} {V₁:Gh->γ->β->Prop} {oS:Gh->Rr->Rt->Prop} {E:Ĩ} {P Q Q':γ->AH->Prop} {oV:Rr->AH->Prop} {h au h':Heap} {X:Gh} {p:V} {a:Addr} {e:Value} {s':Shared} {f:β->Sem Rt}
theorem vY.back {vs:Array Value}(g:∀b,au.get? b=none->h.get? b=none)(x:vY au X h' vs a):vY h X h' vs a:=
 x.casesOn .no λT oT ts q1 q2 q3 q4 q5 q6 q7=> .mk T oT ts q1 q2 q3 q4 q5 q6 (g _ q7)
theorem vZ.back (g:∀b,au.get? b=none->h.get? b=none)(x:vZ au X h' p a):vZ h X h' p a:=
 x.casesOn λh1 h2 h8 h9 XC=> .mk h1 h2 (h8.back g) h9 (g _ XC)
theorem Nx.trans (a:Nx c ρ T T₁)(b:Nx c ρ T₁ cJ):Nx c ρ T cJ:=⟨b.r,a.s.trans b.s⟩
theorem Step.no (s:Step c T T₁):∀b,T₁.h.get? b=none->T.h.get? b=none:=λ_=>ci λ_=>s.grows
theorem dJ.back (n:Step c T T₁)(x:dJ c ρ T₁ E s' e):dJ c ρ T E s' e:=x.casesOn λn₁ k q=> .mk ⟨n₁.r,n.trans n₁.s⟩ (k.back n.no) q
theorem ŝ.back (n:Step c T T₁)(x:ŝ c ρ T₁ V₁ Q b s'):ŝ c ρ T V₁ Q b s':=x.casesOn λn₁ k q=> .mk ⟨n₁.r,n.trans n₁.s⟩ k q
theorem fin (R:Ħ c ρ T)(tk:Nat)(hv:V₁ T.X v b)(q:Q v T.H):ŝ c ρ T V₁ Q b {T.s with toks:=tk}:= .mk R.tok hv q
theorem fin0 (R:Ħ c ρ T)(hv:V₁ T.X v b)(q:Q v T.H):ŝ c ρ T V₁ Q b T.s:= .mk ⟨R,.refl⟩ hv q
theorem ĥ.pure (hv:V₁ T.X v b)(q:Q v T.H):ĥ c ρ T (pure b) V₁ E Q:=λR=>Ê (fin0 R hv q)
theorem ĥ.mono (h:ĥ c ρ T t V₁ E Q)(q:∀v H,Q v H->Q' v H):ĥ c ρ T t V₁ E Q':=λR=>ê (h R) (λb s' k=>k.casesOn λn a b=> .mk n a (q _ _ b)) λ_ _ e=>e
theorem ĥ.eq (e:t=t')(h:ĥ c ρ T t' V₁ E Q):ĥ c ρ T t V₁ E Q:=e▸h
theorem ĥ.back (h:ĥ c ρ T₁ t V₁ E Q)(n:Nx c ρ T T₁):wpAny M0 c.A t (ŝ c ρ T V₁ Q) (λe s'=>dJ c ρ T E s' e) T₁.s:=ê (h n.r) (λ_ _=>ŝ.back n.s) λ_ _=>dJ.back n.s
theorem ĥ.bind (h:ĥ c ρ T t V₁ E P)(k:∀T₁ v b,T.X.le T₁.X->V₁ T₁.X v b->P v T₁.H->ĥ c ρ T₁ (f b) oS E oV):ĥ c ρ T (t >>= f) oS E oV:=λR=>
 Á (ê (h R) (λb Ę x=>x.casesOn λ{X' H' v} n hv p=>(k ⟨X',H',Ę⟩ v b n.s.le hv p).back n) λ_ _ e=>e)
theorem ĥ.hold {vs:List Value}(h:ĥ c ρ T t V₁ E Q):ĥ c ρ T (holding vs t) V₁ E Q:=λR=>ä (h R)
theorem ĥ.at_ {pos:Pos}{f:Unit->Sem β}(h:ĥ c ρ T (f ()) V₁ E Q):ĥ c ρ T (standAt pos >>= f) V₁ E Q:=λR=>Á (ò (h R))
theorem ĥ.op {vs:List Value}{t:Sem Value}{V₁:Gh->γ->Value->Prop}(h:ĥ c ρ T t V₁ E Q):ĥ c ρ T (operate vs t) V₁ E Q:=λR=>Kj (h R)
structure FmOK (c:Fm):Prop where
 hh:c.A.handled=none
theorem Ħ.kin (R:Ħ c ρ T):K0.In T.h:=λ_ _ e=>R.still (R.base (R.g.kin _ _ e))
theorem Ħ.keepB (R:Ħ c ρ T):∀b o,cx.h₀.get? b=some o->T.h.get? b=some o:=λ_ _ e=>R.still (R.base e)
theorem Ħ.topK (R:Ħ c ρ T):Top qw (looseW qw iY) cx.mean cx.mg cx.mb T.h:=R.g.top.keeps R.keepB
variable {i:Nat} {x:Str} {pos:Pos} {Q:QT} {w:V} {val:Value}
theorem ut (hx:c.ns[i]? =some x)(hv:ρ[i]? =some (some w))(sH:(x==("__classdict__" :Str))=false)(q:Q w T.H):ĥ c ρ T (loadName c.env x) VV E Q:=λR=>by
 obtain⟨m,hn,r⟩:=R.loc
 refine (r hx hv).casesOn (λval hk hm hr=>wpAny_loadName_local R.k.kind hk hn hm (fin0 R hr q)) λca k o val hk hl _ e d hr=> ?_
 rcases hk with hk|hk
 ·exact wpAny_loadName_cell R.k.kind hk hl ⟨o,e,d⟩ (fin0 R hr q)
 ·exact wpAny_loadName_free R.k.kind hk hl ⟨o,e,d⟩ (fin0 R hr q) sH
theorem yj (hx:c.ns[i]? =some x)(hv:ρ[i]? =some (some w))(hd:(x==("__debug__" :Str))=false)(sH:(x==("__classdict__" :Str))=false)(q:Q w T.H):ĥ c ρ T (eval (.Name x pos) c.env) VV E Q:=λR=>wpAny_Name (ut hx hv sH q R) hd
theorem FP (hk:c.env.kindOf x=some .globalImplicit)(hg:nsIn K0 mainGlobals x=some (some val))(hr:VR T.X w val)(hd:(x==("__debug__" :Str))=false)(q:Q w T.H):ĥ c ρ T (eval (.Name x pos) c.env) VV E Q:=λR=>
 ź R.k.kind hk (sd (by rw[R.k.glob];exact R.topK.g) (mg_of R.g.kin R.g.top.g hg) (fin0 R hr q)) hd
end
end
section
open PySem PySem.W PyProof.Rows PySem.Calls PySem.SeqAt
set_option backward.match.sparseCases false
def fG (X:Gh)(h:Heap):Prop:=∀{a o},X.r a= .still o->h.get? a=some o
inductive jE (X:Gh)(f:V->V->Option Bool):Value->Value->Bool->Prop
 |none:jE X f .none .none true
 |bool {a b:Bool}:jE X f (.bool a) (.bool b) (a==b)
 |int {a b:Int} {t u:Tok}:jE X f (.int a t) (.int b u) (a==b)
 |str {a b:List Nat} {t u:Tok}:jE X f (.str (ĝ a) t) (.str (ĝ b) u) (a==b)
 |ns {b:List Nat} {u:Tok}:jE X f .none (.str (ĝ b) u) false
 |sn {b:List Nat} {u:Tok}:jE X f (.str (ĝ b) u) .none false
 |tup {as bs:List V} {p q:Addr} {xs ys:List Value} {r:Bool}:X.r p= .still (f7 xs)->X.r q= .still (f7 ys)->Į X as xs->Į X bs ys->sr f as bs=some r->jE X f (.ref p) (.ref q) r
 |lst {as bs:List V} {p q:Addr} {xs ys:List Value} {n m:Nat} {r:Bool}:X.r p= .still (ē xs n)->X.r q= .still (ē ys m)->Į X as xs->Į X bs ys->xs.length=ys.length->sr f as bs=some r->jE X f (.ref p) (.ref q) r
 |len {p q:Addr} {xs ys:List Value} {n m:Nat}:X.r p= .still (ē xs n)->X.r q= .still (ē ys m)->xs.length≠ys.length->jE X f (.ref p) (.ref q) false
section
variable {X:Gh} {s:Shared} {A:Around} {a b:V} {x y:Value} {r r':Bool} {f:V->V->Option Bool} {as bs:List V} {xs ys:List Value} {n m:Nat} {p q:Addr}
theorem Gv {a b:Nat}:(a+1==b+1)=(a==b):=by rw[cQ,è,è,Nat.succ_inj]
theorem HR (h:f7 xs=f7 ys):xs=ys:=by
 have:=È Obj.data h
 simpa using this
theorem zc (h:ē xs n=ē ys m):xs=ys:=by
 have:=È Obj.data h
 simp at this;exact this.1
theorem jE.to (c:jE X f x y r)(e:some r=some r'):jE X f x y r':=Ä e▸c
theorem RT (ha:VR X a x)(hb:VR X b y)(e:sI (n+1) a b=some r):jE X (sI n) x y r:=by
 cases a with
 |none=>cases b with
  |none=>exact ha.on (hb.on (jE.none.to e))
  |str l=>exact ha.on (hb.on λ_ _=>jE.ns.to e)
  |_=>exact nS e
 |bool c=>cases b with
  |bool d=>exact ha.on (hb.on (jE.bool.to e))
  |_=>exact nS e
 |int c=>cases b with
  |int d=>exact ha.on λ_=>hb.on λ_=>jE.int.to e
  |_=>exact nS e
 |str c=>cases b with
  |str d=>exact ha.on λ_ _=>hb.on λ_ _=>jE.str.to e
  |none=>exact ha.on λ_ _=>hb.on (jE.sn.to e)
  |_=>exact nS e
 |tup as=>cases b with
  |tup bs=>exact ha.on λ_ _ _ f r=>hb.on λ_ _ _ f' r'=> .tup f f' r r' e
  |_=>exact nS e
 |lst as=>cases b with
  |lst bs=>
   refine ha.on λ_ _ _ _ f r=>hb.on λ_ _ _ _ f' r'=> ?_
   by_cases h:as.length=bs.length
   ·exact .lst f f' r r' (r.length.symm.trans (h.trans r'.length)) ((Î h).symm.trans e)
   ·exact (jE.len f f' λz=>h (r.length.trans (z.trans r'.length.symm))).to ((Ñ h).symm.trans e)
  |_=>exact nS e
 |_=>exact nS e
theorem jE.same (S:fG X s.heap)(ihs:∀{as bs xs r},Į X as xs->Į X bs xs->sr f as bs=some r->r=true)(c:jE X f x y r)(hy:x=y):r=true:=by
 induction c with
 |none=>rfl
 |bool=>rw[Value.bool.inj hy];exact ô _
 |int=>rw[(Value.int.inj hy).1];exact ô _
 |str=>rw[rd (Value.str.inj hy).1];exact ô _
 |ns=>exact Value.noConfusion hy
 |sn=>exact Value.noConfusion hy
 |tup f f' r r' e=>
  rw[aN hy] at f
  exact ihs r (HR (vM (f.symm.trans f'))▸r') e
 |lst f f' r r' _ e=>
  rw[aN hy] at f
  exact ihs r (zc (vM (f.symm.trans f'))▸r') e
 |len f f' h=>
  rw[aN hy] at f
  exact absurd (È List.length (zc (vM (f.symm.trans f')))) h
theorem zC {a b:V}(e:sr f (a::as) (b::bs)=some r):∃x y,f a b=some x∧sr f as bs=some y∧(x&&y)=r:=by
 change (match f a b,sr f as bs with
  |some x,some y=>some (x&&y)
  |_,_=>none)=some r at e
 cases h1:f a b with
 |none=>rw[h1] at e;exact nS e
 |some x=>cases h2:sr f as bs with
  |none=>rw[h1,h2] at e;exact nS e
  |some y=>rw[h1,h2] at e;exact⟨x,y,rfl,rfl,Ä e⟩
theorem NJ (ih:∀{a b x r},VR X a x->VR X b x->f a b=some r->r=true)(ha:Į X as xs):∀bs r,Į X bs xs->sr f as bs=some r->r=true:=ha.ind
 (λbs r hb=>hb.onv λe=>(Ä e).symm)
 λp _ Xe bs r hb=>hb.onv λb bs p' q' e=>by
  obtain⟨x,y,e1,e2,e3⟩:=zC e
  rw[←e3,ih p p' e1,Xe _ _ q' e2];rfl
theorem pB (S:fG X s.heap):∀(n:Nat) {a b x r},VR X a x->VR X b x->sI n a b=some r->r=true
 |0,_,_,_,_,_,_,e=>nS e
 |n+1,_,_,_,_,ha,hb,e=>(RT ha hb e).same S (λh=>NJ (pB S n) h _ _) rfl
theorem fY (e:s.heap.get? p=some (f7 xs)):s.heap.IsTuple p xs.toArray:=⟨_,e,rfl,0,rfl⟩
theorem Ř (e:s.heap.get? p=some (ē xs n)):s.heap.IsList p xs.toArray:=⟨_,e,rfl,n,rfl⟩
theorem ma (ih:∀{a b x y r},VR X a x->VR X b y->f a b=some r->EqAt A s x y r)(ha:Į X as xs):∀bs ys r,Į X bs ys->sr f as bs=some r->
 ∃e:Nat->Bool,(∀j (h1:j<xs.toArray.size) (h2:j<ys.toArray.size),EqAt A s xs.toArray[j] ys.toArray[j] (e j))∧((List.range (min xs.length ys.length)).all e&&xs.length==ys.length)=r:=ha.ind
 (λbs ys r hb e=>by
  refine⟨λ_=>true,λj h1=>absurd h1 (bf j),?_⟩
  rw[Ŀ,Nat.zero_min,←hb.length]
  cases bs with
  |nil=>exact Ä e
  |cons p q=>exact Ä e)
 λp q Xe bs ys r hb e=>by
  cases bs with
  |nil=>exact hb.on ⟨λ_=>true,λj _ h2=>absurd h2 (bf j),(ī _).trans (Ä e)⟩
  |cons b bs=>
   obtain⟨x,y,e1,e2,e3⟩:=zC e
   refine hb.on λz ys p' q'=> ?_
   obtain⟨g,h1,h2⟩:=Xe _ _ _ q' e2
   rw[←e3,←h2]
   refine⟨λk=>match k with|0=>x|k+1=>g k,λj hj j9=> ?_,?_⟩
   ·cases j with
    |zero=>exact ih p p' e1
    |succ j=>exact h1 j (ı hj) (ı j9)
   ·rw[Ċ,Ċ,Nat.add_min_add_right,Rn,List.all_cons,List.all_map,Bool.and_assoc,Gv];rfl
theorem jE.at (S:fG X s.heap)(hu:A.units<cLine)(ih:∀{a b x y r},VR X a x->VR X b y->f a b=some r->EqAt A.in1 s x y r)(e:jE X f x y r):RcAt A s x y r:=by
 induction e with
 |none=>exact λ_ _ _ _ hq=>EqNone.eq_none_none hq
 |bool=>exact λ_ _ _ _ hq=>eq_bool hq
 |int=>exact λ_ _ _ _ hq=>eq_int hq
 |str=>exact λ_ _ _ _ hq=>eq_str (by rw[dS];exact hq)
 |ns=>exact λ_ _ _ _ hq=>EqNone.eq_none_str hq
 |sn=>exact λ_ _ _ _ hq=>EqNone.eq_str_none hq
 |tup f f' r r' e=>
  obtain⟨g,h1,e⟩:=ma ih r _ _ _ r' e
  exact e▸RcAt.tuples (fY (S f)) (fY (S f')) hu h1
 |lst f f' r r' hl e=>
  obtain⟨g,h1,e⟩:=ma ih r _ _ _ r' e
  rw[←e,←hl,vp,ô,LP]
  exact RcAt.lists (Ř (S f)) (Ř (S f')) hl hu h1
 |len f f' h=>exact RcAt.lists_lengths (Ř (S f)) (Ř (S f')) (ŋ.mpr h) hu
theorem TT {r:Bool}(h:RcAt A s (.ref p) (.ref q) r)(same:p=q->r=true):EqAt A s (.ref p) (.ref q) r:=by
 by_cases z:p=q
 ·rw[same z,z];exact EqAt.same _
 ·exact EqAt.of_refs z h
theorem jE.eq (c:jE X f x y r)(hr:RcAt A s x y r)(same:x=y->r=true):EqAt A s x y r:=by
 induction c with
 |none=>exact EqAt.same _
 |bool=>exact EqAt.bool_bool _ _
 |int=>exact EqAt.int_int _ _ _ _
 |str=>rw[←dS];exact EqAt.str_str _ _ _ _
 |ns=>exact EqAt.none_str _ _
 |sn=>exact EqAt.str_none _ _
 |_=>exact TT hr λz=>same (È _ z)
theorem MW (S:fG X s.heap):∀(n:Nat) {A:Around} {a b x y r},A.units+n<cLine->VR X a x->VR X b y->sI n a b=some r->EqAt A s x y r
 |0,_,_,_,_,_,_,_,_,_,e=>nS e
 |n+1,_,_,_,_,_,_,hu,ha,hb,e=>(RT ha hb e).eq (jE.at S (Í (Ï _ _) hu) (λha hb e=>MW S n (Ĭ _ 1 n▸hu) ha hb e) (RT ha hb e)) λh=>pB S (n+1) ha (h▸hb) e
theorem YA (S:fG X s.heap)(hu:A.units+n<cLine)(ha:VR X a x)(hb:VR X b y)(e:sI n a b=some r):RcAt A s x y r:=by
 cases n with
 |zero=>exact nS e
 |succ n=>exact jE.at S (Í (Ï _ _) hu) (λha hb e=>MW S n (Ĭ _ 1 n▸hu) ha hb e) (RT ha hb e)
end
def Qk {β:Type}(s:Shared)(A:Around)(t:Sem β)(b:β):Prop:=∀{Q:β->Shared->Prop} {E:Value->Shared->Prop},(∀tk,Q b {s with toks:=tk})->wpAny M0 A t Q E s
inductive Tks {α:Type}(f:α->Tok->Value):List α->List Value->Prop
 |nil:Tks f [] []
 |cons {a:α} {t:Tok} {ss:List α} {xs:List Value}:Tks f ss xs->Tks f (a::ss) (f a t::xs)
noncomputable abbrev Hj (l:List Nat)(t:Tok):Value:= .str (ĝ l) t
noncomputable abbrev ML (i:Int)(t:Tok):Value:= .int i t
noncomputable def tE (k:V):Value->Bool:=λy=>match k,y with
 | .str k,.str s _=>s==ĝ k
 | .int i,.int j _=>j==i
 |_,_=>false
noncomputable def gK:Mp->CmpOp
 | .eq=> .Eq| .ne=> .NotEq| .lt=> .Lt| .gt=> .Gt| .ge=> .GtE| .in_=> .In| .nin=> .NotIn| .is_=> .Is| .isnot=> .IsNot
theorem j6 {α:Type}[BEq α][LawfulBEq α]{k:α}(l:List α):l.contains k=l.any (·==k):=by
 induction l with
 |nil=>rfl
 |cons a l ih=>rw[ĕ,LN,ih,Bool.beq_comm]
theorem lN {l:List (List Nat×V)}{k:List Nat}:(l.map (·.1)).contains k=(l.lookup k).isSome:=by
 induction l with
 |nil=>rfl
 |cons p r ih=>
  rw[ß,ĕ,į,ih]
  cases k==p.1<;>rfl
theorem Uv (l:List Nat)(c:Nat):(!(Builtin.Str.occurrences (ĝ l) (ĝ [c]) 0 (ĝ l).length 1).isEmpty)=l.contains c:=by
 rw[show ĝ [c]=({cps:= #[c]}:Str) from rfl,StrLaws.found_one (ĝ l) c,cQ]
 simp[ĝ]
 exact sy
section
variable {α:Type} {f:α->Tok->Value} {ss:List α} {X:Gh} {s:Shared} {A:Around} {c:Fm} {ρ:Loc} {T:Sx} {a b v:V} {x y:Value} {r:Bool} {vs:List V} {xs ys:List Value} {n:Nat} {p:Addr} {h:Heap} {l:List (List Nat×V)} {es:List DictEntry} {k:List Nat} {β:Type} {t:Sem β} {i:Nat}
theorem Tks.any (h:Tks f ss xs){g:Value->Bool}{p:α->Bool}(e:∀a t,g (f a t)=p a):xs.any g=ss.any p:=by
 induction h with
 |nil=>rfl
 |cons _ ih=>rw[LN,LN,e,ih]
theorem Tks.mem (h:Tks f ss xs)(m:x∈xs):∃a t,x=f a t:=by
 induction h with
 |nil=>exact nomatch m
 |cons _ ih=>exact (Û.mp m).elim (λe=>⟨_,_,e⟩) ih
theorem mX (h:Į X vs xs):∀ss,b7 vs=some ss->Tks Hj ss xs:=h.ind (λss e=>Ä e▸ .nil) λ{v _ _ _} a _ ih ss e=>by
 cases v with
 |str l=>
  obtain⟨ss',e',q⟩:=Ć.mp e
  exact q▸a.on (P:=λx=>Tks Hj _ (x::_)) λt _=> .cons (ih _ e')
 |_=>exact nS e
theorem uy (h:Į X vs xs):∀ss,gR vs=some ss->Tks ML ss xs:=h.ind (λss e=>Ä e▸ .nil) λ{v _ _ _} a _ ih ss e=>by
 cases v with
 |int l=>
  obtain⟨ss',e',q⟩:=Ć.mp e
  exact q▸a.on (P:=λx=>Tks ML _ (x::_)) λt=> .cons (ih _ e')
 |_=>exact nS e
theorem eY (hx:VR X a x)(hs:Į X vs xs)(e:qr a vs=some r):(∀(A:Around) (s:Shared),∀y∈xs.toArray,EqAt A s y x (tE a y))∧xs.toArray.any (tE a)=r:=by
 cases a with
 |str k=>
  obtain⟨ss,e1,e2⟩:=Ć.mp e
  have h:=mX hs _ e1
  refine⟨λA s y hy=> ?_,?_⟩
  ·obtain⟨l,t,q⟩:=h.mem (eE.mp hy)
   exact q▸hx.on λt' _=>EqAt.str_str _ _ _ _
  ·rw[ÄX,←e2,j6]
   exact h.any λa t=>dS _ _
 |int k=>
  obtain⟨ss,e1,e2⟩:=Ć.mp e
  have h:=uy hs _ e1
  refine⟨λA s y hy=> ?_,?_⟩
  ·obtain⟨l,t,q⟩:=h.mem (eE.mp hy)
   exact q▸hx.on λt'=>EqAt.int_int _ _ _ _
  ·rw[ÄX,←e2,j6]
   exact h.any λa t=>rfl
 |_=>exact nS e
theorem DR.keys (r:DR X l es):∀e∈es,∃x t,e.key= .str x t∧e.hash=PyData.keyHash cx.w.params x:=
 r.ind (λ_ h=>nomatch h) λ_ _ ih e he=>(Û.mp he).elim (λh=>h▸⟨_,_,rfl,rfl⟩) (ih e)
def Fnd (X:Gh)(o:Option V)(z:Option Value):Prop:=match o with
 |some v=>∃x,z=some x∧VR X v x
 |none=>z=none
theorem DR.find (r:DR X l es):Fnd X (l.lookup k) (findBy Value.isStrOf es.toArray (ĝ k)):=by
 unfold findBy
 rw[Á6]
 refine r.ind rfl λ{k' v t x l es} a _ ih=> ?_
 have hk:Value.isStrOf (ĝ k) (.str (ĝ k') t)=(k==k'):=(dS k' k).trans Bool.beq_comm
 rw[į,List.find?_cons,hk]
 cases k==k' with
 |true=>exact⟨x,rfl,a⟩
 |false=>exact ih
theorem hO (e:h.get? p=some (dictOf es n))(r:DR X l es):h.MapOf (strKind pw cx.w) p (λk=>findBy Value.isStrOf es.toArray k):=
 ⟨_,es.toArray,n,e,⟨rfl,rfl,rfl⟩,rfl,λe he=>by
   obtain⟨x,t,e1,e2⟩:=r.keys e (eE.mp he)
   exact⟨x,e1▸gx pw cx.w x t,e2⟩,λ_=>rfl⟩
@[elab_as_elim] theorem Wd.lst {P:Value->Prop}(W:Wd T)(h:VR X (.obj i) x)(th:X.θ=T.X.θ)(hi:T.H[i]? =some (some (.list vs)))(k:∀a xs n,T.X.θ[i]? =some (a,a)->T.X.r a= .live i->vs.length<=ę->T.h.get? a=some (ē xs n)->Į T.X vs xs->P (.ref a)):P x:=
  h.on λa d ht=>(W.obj hi (th▸ht)).2.on (P:=λt=>T.X.θ[i]? =some t->T.X.r t.2= .live i->P (.ref t.1)) (λa xs n b e r h l=>k a xs n h l b e r) (th▸ht) (W.obj hi (th▸ht)).1
structure qz (T:Sx)(X:Gh):Prop where
 th:X.θ=T.X.θ
 st:∀a,X.r a=T.X.r a∨∃o i,X.r a= .still o∧T.X.r a= .live i∧T.h.get? a=some o
theorem qz.le (S:qz T X):T.X.le X:=⟨λh=>S.th▸h,λe=>(S.st _).elim (·.trans e) λ⟨_,_,_,q,_⟩=>Hn q e,λe=>(S.st _).elim (·.trans e) λ⟨_,_,_,q,_⟩=>oM q e⟩
theorem qz.stands (S:qz T X)(W:Wd T):fG X T.h:=λe=>(S.st _).elim (λq=>W.still (q.symm.trans e)) λ⟨_,_,q,_,k⟩=>vM (q.symm.trans e)▸k
theorem C9 (S:qz T X)(W:Wd T)(h:VR X v x):∃Y:Gh,X.le Y∧qz T Y∧VR Y (seeL v T.H) x:=by
 rcases qG v T.H with e|⟨i,vs,e0,hi,e⟩
 ·exact⟨X,.refl,S,e.symm▸h⟩
 ·subst e0
  rw[e]
  refine W.lst h S.th hi λa xs n ht lv b e r=> ?_
  have S2:qz T (X.put a (.still (ē xs n))):=⟨S.th,λb=>by
   by_cases z:b=a
   ·rw[z];exact .inr ⟨_,i,aw,lv,e⟩
   ·rw[ķ z];exact S.st b⟩
  refine⟨X.put a (.still (ē xs n)),⟨id,λ{b o} q=> ?_,λ{b L} q=> ?_⟩,S2,.lst b aw (r.mono S2.le)⟩
  ·by_cases z:b=a
   ·rw[z] at q⊢
    rw[aw,Ä (e.symm.trans (S.stands W q))]
   ·exact (ķ z).trans q
  ·by_cases z:b=a
   ·rw[z] at q
    exact (S.st a).elim (λw=>oM lv (w.symm.trans q)) λ⟨_,_,w,_⟩=>Hm w q
   ·exact (ķ z).trans q
theorem qz.refl:qz T T.X:=⟨rfl,λ_=> .inl rfl⟩
theorem Si (W:Wd T)(h:VR T.X v x)(g:VR T.X a y):∃Y:Gh,fG Y T.h∧VR Y (seeL v T.H) x∧VR Y (seeL a T.H) y:=by
 obtain⟨X1,l1,S1,r1⟩:=C9 .refl W h
 obtain⟨X2,l2,S2,r2⟩:=C9 S1 W (g.mono l1)
 exact⟨X2,S2.stands W,r1.mono l2,r2⟩
theorem VR.ne_none (h:VR X v x){b:Bool}(e:isNone v=some b):(x==Value.none)=b:=by
 cases v with
 |none=>exact h.on (Ä e)
 |str=>exact h.on λ_ _=>Ä e
 |int=>exact h.on λ_=>Ä e
 |tup=>exact h.on λ_ _ _ _ _=>Ä e
 |lst=>exact h.on λ_ _ _ _ _ _=>Ä e
 |rcd=>exact h.on λ_ _ _ _ _ _ _=>Ä e
 |obj=>exact h.on λ_ _ _=>Ä e
 |_=>exact nS e
variable {Q:Value->Shared->Prop} {E:Value->Shared->Prop}
theorem jE.ne {f:V->V->Option Bool}(S:fG X s.heap)(hu:A.units<cLine)(ih:∀{a b x y r},VR X a x->VR X b y->f a b=some r->EqAt A.in1 s x y r)(e:jE X f x y r)(hq:Q (.bool (!r)) s):wpAny M0 A (compareOp .NotEq x y) Q E s:=by
 induction e with
 |none=>exact EqNone.ne_none_none hq
 |bool=>exact ne_bool hq
 |int=>exact ne_int hq
 |str=>exact ne_str (by show Q (.bool (!(ĝ _==ĝ _))) s;rw[dS];exact hq)
 |ns=>exact EqNone.ne_none_str hq
 |sn=>exact EqNone.ne_str_none hq
 |tup f f' r r' e=>
  obtain⟨g,h1,e⟩:=ma ih r _ _ _ r' e
  rw[←e] at hq
  exact RcNeAt.tuples (fY (S f)) (fY (S f')) hu h1 pw cx.w E Q hq
 |lst f f' r r' hl e=>
  obtain⟨g,h1,e⟩:=ma ih r _ _ _ r' e
  rw[←e,←hl,vp,ô,LP] at hq
  exact RcNeAt.lists (Ř (S f)) (Ř (S f')) hl hu h1 pw cx.w E Q hq
 |len f f' h=>exact RcNeAt.lists_lengths (Ř (S f)) (Ř (S f')) (ŋ.mpr h) hu pw cx.w E Q hq
theorem TV (S:fG X s.heap)(hu:A.units+n<cLine)(ha:VR X a x)(hb:VR X b y)(e:sI n a b=some r)(hq:Q (.bool (!r)) s):wpAny M0 A (compareOp .NotEq x y) Q E s:=by
 cases n with
 |zero=>exact nS e
 |succ n=>exact (RT ha hb e).ne S (Í (Ï _ _) hu) (λha hb e=>MW S n (Ĭ _ 1 n▸hu) ha hb e) hq
theorem uA (hx:VR X a x)(e1:s.heap.get? p=some (dictOf es n))(r1:DR X l es)(hp:(p==sysModules)=false)(e2:Xd a l=some r):Qk s A (compareOp .In x (.ref p)) (.bool r):=λhq=>by
 cases a with
 |str k=>
  have f:=r1.find (k:=k)
  have e2:=(lN.symm.trans (Ä e2):(l.lookup k).isSome=r)
  refine hx.on λt _=>wpAny_in_of (knd:=strKind pw cx.w) (gx pw cx.w _ t) hp (hO e1 r1) ?_
  cases h:l.lookup k with
  |some v=>
   rw[h] at f e2
   obtain⟨z,f,_⟩:=f
   rw[f,show (some z).isSome=r from e2]
   exact hq _
  |none=>
   rw[h] at f e2
   rw[show findBy _ _ _=none from f,show (none:Option Value).isSome=r from e2]
   exact hq _
 |_=>exact nS e2
theorem Sw (W:Wd T)(ha:VR T.X a x)(hb:VR T.X b y)(e:Xb a b T.H=some r):Qk T.s A (compareOp .In x y) (.bool r):=λ{Q E} hq=>by
 have vj:Q (.bool r) T.s:=hq T.s.toks
 cases b with
 |str l=>cases a with
  |str k=>cases k with
   |nil=>exact nS e
   |cons c k=>cases k with
    |nil=>exact ha.on λt _=>hb.on λt' _=>in_str (by rw[Uv,Ä e];exact vj)
    |cons=>exact nS e
  |_=>exact nS e
 |tup vs=>exact hb.on λp xs _ f r1=>in_tupleAt (tE a) (fY (W.still f)) (λy hy=>(eY ha r1 e).1 _ _ y hy) (by rw[(eY ha r1 e).2];exact vj)
 |lst vs=>exact hb.on λp xs n _ f r1=>in_listAt (tE a) (Ř (W.still f)) (λy hy=>(eY ha r1 e).1 _ _ y hy) (by rw[(eY ha r1 e).2];exact vj)
 |dic es=>exact hb.on λp es n hp f r1=>uA ha (W.still f) r1 hp e hq
 |obj i=>
  replace e:Xc a T.H[i]? =some r:=e
  cases hi:T.H[i]? with
  |none=>rw[hi] at e;exact nS e
  |some o=>cases o with
   |none=>rw[hi] at e;exact nS e
   |some o=>
    rw[hi] at e
    refine hb.on λp d ht=>(W.obj hi ht).2.on (P:=λt=>wpAny M0 A (compareOp .In x (.ref t.1)) Q E T.s) ?_
    cases o with
    |list=>exact λp xs n _ f r1=>in_listAt (tE a) (Ř f) (λy hy=>(eY ha r1 e).1 _ _ y hy) (by rw[(eY ha r1 e).2];exact vj)
    |dict=>exact λp es n hp f r1=>uA ha f r1 hp e hq
    |inst=>exact nS e
 |_=>exact nS e
theorem E8 (h:wpAny M0 A (compareOp .In x y) (λv s'=>∀b,v= .bool b->Q (.bool (!b)) s') E s):wpAny M0 A (compareOp .NotIn x y) Q E s:=by
 intro Γ p ig
 have h2:Sem.wp M0 Γ (contains y x >>= λr=>(pure (.bool r):Sem Value)) (λa _ s'=>∀b,a= .bool b->Q (.bool (!b)) s') (λe _ s'=>E e s') p s:=h Γ p ig
 show Sem.wp M0 Γ (contains y x >>= λr=>(pure (.bool (!r)):Sem Value)) (λa _ s'=>Q a s') (λe _ s'=>E e s') p s
 simp only[Sem.wp_bind'] at h2⊢
 exact Sem.wp_mono M0 Γ _ (λa p' s' h'=>h' a rfl) (λ_ _ _ h'=>h') p s h2
theorem rS {f:Int->Int->Bool}{P:Value->Value->Prop}(ha:VR X a x)(hb:VR X b y)(e:HF f a b=some r)(k:∀i j t u,f i j=r->P (.int i t) (.int j u)):P x y:=by
 cases a with
 |int i=>cases b with
  |int j=>exact ha.on λt=>hb.on λu=>k i j t u (Ä e)
  |_=>exact nS e
 |_=>exact nS e
theorem Dk {o:Option Bool}{P:Value->Prop}(hb:VR X b y)(e:WX b o=some r)(k:o=some r->P .none):P y:=by
 cases b with
 |none=>exact hb.on (k e)
 |_=>exact nS e
theorem wH (R:Ħ c ρ T){op:Mp}(ha:VR T.X a x)(hb:VR T.X b y)(e:bh op a b T.H=some r):Qk T.s c.A (compareOp (gK op) x y) (.bool r):=λ{Q E} hq=>by
 have hu:c.A.units+8<cLine:=Í (Ý (by decide) _) R.k.units
 have vj:Q (.bool r) T.s:=hq T.s.toks
 have W:=R.toWd
 cases op with
 |eq=>
  obtain⟨X',S,r1,r2⟩:=Si W ha hb
  exact cmp_ofEq (YA S hu r1 r2 e pw cx.w E Q vj)
 |ne=>
  obtain⟨X',S,r1,r2⟩:=Si W ha hb
  obtain⟨b',e1,e2⟩:=Ć.mp e
  exact TV S hu r1 r2 e1 (e2▸vj)
 |lt=>exact rS (P:=λx y=>wpAny M0 c.A (compareOp .Lt x y) Q E T.s) ha hb e λi j t u z=>lt_int (z▸vj)
 |gt=>exact rS (P:=λx y=>wpAny M0 c.A (compareOp .Gt x y) Q E T.s) ha hb e λi j t u z=>gt_int (z▸vj)
 |ge=>exact rS (P:=λx y=>wpAny M0 c.A (compareOp .GtE x y) Q E T.s) ha hb e λi j t u z=>ge_int (z▸vj)
 |in_=>exact Sw W ha hb e hq
 |nin=>
  obtain⟨b',e1,e2⟩:=Ć.mp e
  exact E8 (Sw W ha hb e1 λtk b hb=>by rw[←Value.bool.inj hb,e2];exact hq tk)
 |is_=>exact Dk (P:=λy=>wpAny M0 c.A (compareOp .Is x y) Q E T.s) hb e λe=>is_none_gen (by rw[ha.ne_none e];exact vj)
 |isnot=>
  refine Dk (P:=λy=>wpAny M0 c.A (compareOp .IsNot x y) Q E T.s) hb e λe=> ?_
  obtain⟨b',e1,e2⟩:=Ć.mp e
  exact isnot_none_gen (by rw[ha.ne_none e1,e2];exact vj)
end
noncomputable def gM:vk->Operator
 | .add=> .Add| .sub=> .Sub| .mul=> .Mult| .fdiv=> .FloorDiv| .mod=> .Mod
noncomputable def td (h:Heap)(L:Addr):List (Addr×Obj):=((List.range h.objs.size).filter λa=>a != L&&(h.get? a).isSome&&(cx.h₀.get? a).isNone).map λa=>(a,(h.get? a).getD default)
section
variable {c:Fm} {ρ:Loc} {T:Sx} {X:Gh} {A:Around} {v a b:V} {x y:Value} {r:Bool} {h':Heap} {L p:Addr} {o:Obj} {vs us:List V} {xs ys:List Value} {n tk:Nat} {Q:QT} {E:Ĩ} {m:Str->Option Value} {nn:List (Addr×Obj)} {h:Heap}
theorem kO {n:Nat}(h:n<=ę):(n:Int)<2^63:=Int.lt_of_le_of_lt (ľ.mpr h) (by decide)
theorem ŉ {n:Nat}(h:n<=ę):n<=sizeLine:=À h (by decide)
theorem ů (l:List Nat):(ĝ l).length=l.length:=Č
theorem I5 (l:List Nat):(((ĝ l).length:Int) != 0)= !l.isEmpty:=by
 rw[ů]
 cases l with
 |nil=>rfl
 |cons a r=>exact ŋ.mpr λz=>nomatch cF z
theorem Į.sz (r:Į X vs xs):vs.length=xs.toArray.size:=r.length.trans Č.symm
theorem Į.isE (r:Į X vs xs):xs.toArray.isEmpty=vs.isEmpty:=by
 cases vs with
 |nil=>exact r.on rfl
 |cons=>exact r.on λ_ _ _ _=>rfl
theorem yk (W:Wd T)(h:VR T.X v x)(e:fB v T.H=some r):Qk T.s A (truthy x) r:=λ{Q E} hq=>by
 have vj:Q r T.s:=hq T.s.toks
 have ls:∀{vs xs p},vs.length<=ę->T.s.heap.IsList p xs.toArray->Į T.X vs xs->some (!vs.isEmpty)=some r->wpAny M0 A (truthy (.ref p)) Q E T.s:=λb i r1 e=>wpAny_truthy_list i (kO (r1.sz▸b)) (by rw[r1.isE,Ä e];exact hq _)
 cases v with
 |none=>exact h.on λ_ _ _=>(Ä e▸vj:Q false T.s)
 |bool=>exact h.on (GY (Ä e▸vj))
 |int=>exact h.on λt=>truthy_int (Ä e▸vj)
 |str l=>exact h.on λt b=>SBL.truthy (kO ((ů l).symm▸b)) (by rw[I5,Ä e];exact hq _)
 |tup=>exact h.on λp xs b f r1=>truthy_tuple (fY (W.still f)) (kO (r1.sz▸b)) (by rw[r1.isE,Ä e];exact hq _)
 |lst=>exact h.on λp xs n b f r1=>ls b (Ř (W.still f)) r1 e
 |obj i=>
  replace e:v7 T.H[i]? =some r:=e
  cases hi:T.H[i]? with
  |none=>rw[hi] at e;exact nS e
  |some o=>cases o with
   |none=>rw[hi] at e;exact nS e
   |some o=>
    rw[hi] at e
    cases o with
    |list vs=>exact W.lst h rfl hi λp xs n _ _ b f r1=>ls b (Ř f) r1 e
    |_=>exact nS e
 |_=>exact nS e
theorem gZ:(p,o)∈td h L↔h.get? p=some o∧p≠L∧cx.h₀.get? p=none:=by
 unfold td
 rw[Þ]
 constructor
 ·rintro ⟨a,ha,e⟩
  obtain⟨_,hb⟩:=f5.mp ha
  rw[Ð,Ð,ŋ,Ĝ] at hb
  obtain⟨o',ho⟩:=LU.mp hb.1.2
  rw[ho] at e
  obtain⟨e1,e2⟩:=Prod.mk.inj e
  rw[←e1,←e2]
  exact⟨ho,hb.1.1,hb.2⟩
 ·rintro ⟨e,hL,hb⟩
  exact⟨p,f5.mpr ⟨Ö.mpr (ā e),by rw[e,hb];exact oA.mpr ⟨oA.mpr ⟨ŋ.mpr hL,rfl⟩,rfl⟩⟩,by rw[e];rfl⟩
theorem Ħ.fr (R:Ħ c ρ T):∃m,Fr cx.h₀ c.L T.h m∧News cx.h₀ c.L T.h (td T.h c.L):=by
 obtain⟨m,hn,_⟩:=R.loc
 exact⟨m,⟨hn,R.keepB,R.above⟩,λp hp=>gZ.mp (p.eta▸hp)⟩
theorem Ns.same {m':Str->Option Value}(a:h.Ns L m)(b:h.Ns L m'):m=m':=by
 obtain⟨o,es,ep,e,d,_,f⟩:=a
 obtain⟨o',Q1,KD,e',d',_,f'⟩:=b
 obtain⟨q,_⟩:=Data.dict.inj (d.symm.trans ((È Obj.data (Ä (e.symm.trans e'))).trans d'))
 funext x
 rw[←f,←f',q]
theorem Ħ.news (R:Ħ c ρ T)(F:Fr cx.h₀ c.L T.h m)(F':Fr cx.h₀ c.L h' m)(N':News cx.h₀ c.L h' nn)(sub:∀p∈td T.h c.L,p∈nn):KL c.L T.h h' where
 k:=λa o hL e=>by
  cases q:cx.h₀.get? a with
  |some ob=>exact Ä ((R.keepB _ _ q).symm.trans e)▸F'.keep _ _ q
  |none=>exact (N' _ (sub _ (gZ.mpr ⟨e,hL,q⟩))).1
 n:=λm' hm=>Ns.same F.ns hm▸F'.ns
theorem jY (R:Ħ c ρ T){w:V}(k:KL c.L T.h h')(e:h'.get? p=some o)(hn:T.h.get? p=none)(hv:∀X:Gh,T.X.le X->X.r p= .still o->VR X w (.ref p))(q:Q w T.H):ŝ c ρ T VV Q (.ref p) {T.s with heap:=h',toks:=tk}:=
 .mk (R.frozen k (.put R.toWd hn e)) (hv _ ((Ad.put R.toWd hn e).le R.toWd) aw) q
theorem jS (R:Ħ c ρ T)(k:KL c.L T.h h')(e:h'.get? p=some (ē xs n))(hn:T.h.get? p=none)(hb:vs.length<=ę)(r:Į T.X vs xs)(q:Q (.lst vs) T.H):ŝ c ρ T VV Q (.ref p) {T.s with heap:=h',toks:=tk}:=
 jY R k e hn (λX l f=> .lst hb f (r.mono l)) q
theorem yZ (R:Ħ c ρ T)(k:KL c.L T.h h')(e:h'.get? p=some (f7 xs))(hn:T.h.get? p=none)(hb:vs.length<=ę)(r:Į T.X vs xs)(q:Q (.tup vs) T.H):ŝ c ρ T VV Q (.ref p) {T.s with heap:=h',toks:=tk}:=
 jY R k e hn (λX l f=> .tup hb f (r.mono l)) q
theorem KN {l m:List V}(h:V.lst l= .lst m):l=m:=by injection h
@[elab_as_elim] theorem Wd.seeL {P:Value->Prop}(W:Wd T)(h:VR T.X v x)(e:seeL v T.H= .lst vs)(k:∀p xs n,T.h.get? p=some (ē xs n)->Į T.X vs xs->vs.length<=ę->P (.ref p)):P x:=by
  rcases qG v T.H with e'|⟨i,us,e0,hi,e'⟩
  ·rw[e'.symm.trans e] at h
   exact h.on λp xs n b f r=>k p xs n (W.still f) r b
  ·rw[e0] at h
   exact W.lst h rfl hi λp xs n _ _ b f r=>k p xs n f (KN (e'.symm.trans e)▸r) (KN (e'.symm.trans e)▸b)
theorem io {K:List V->Prop}{a:V}(h:match a with| .lst x=>K x|_=>False):∃l,a= .lst l∧K l:=by
 cases a with
 |lst l=>exact⟨l,rfl,h⟩
 |_=>exact h.elim
theorem foldl_rep (xs:List Value)(n:Nat):List.foldl (λx1 x2=>x1++x2) #[] (List.replicate (if xs.toArray.isEmpty=true then 0 else n) xs.toArray)=((List.replicate n xs).flatten).toArray:=by
 have key:∀(n:Nat) (acc:Array Value),List.foldl (λx1 x2=>x1++x2) acc (List.replicate n xs.toArray)=acc++((List.replicate n xs).flatten).toArray:=λn=>by
  induction n with
  |zero=>exact λacc=>acc.append_empty.symm
  |succ n ih=>exact λacc=>by rw[gm,ah,ih,gm,vy,Array.append_assoc];exact È _ (ck _ _)
 by_cases h:xs.toArray.isEmpty=true
 ·cases xs with
  |nil=>
   rw[Î h]
   exact È List.toArray (List.flatten_replicate_nil.symm:([]:List Value)=_)
  |cons=>exact Bool.noConfusion h
 ·rw[Ñ h,key];exact Array.empty_append
theorem Į.rep (r:Į X us xs)(n:Nat):Į X (List.replicate n us).flatten (List.replicate n xs).flatten:=by
 induction n with
 |zero=>exact .nil
 |succ n ih=>rw[gm,vy,gm,vy];exact r.append ih
theorem Kg (ha:VR T.X a x)(hb:VR T.X b y)(h:qy a b T.H Q):ĥ c ρ T (binaryOp .Add x y) VV E Q:=λR=>by
 unfold qy at h
 obtain⟨us,e1,h⟩:=io h
 obtain⟨ws,e2,h⟩:=io h
 obtain⟨m,F,N⟩:=R.fr
 refine R.toWd.seeL ha e1 λp xs n i1 r1 _=>R.toWd.seeL hb e2 λp' ys n' i2 r2 _=> ?_
 refine add_lists F N (Ř i1) (Ř i2) (λh' F' N'=> ?_) (by have:=ŉ h.1;rw[r1.length,r2.length] at this;exact this)
 exact jS (n:=0) (tk:=T.s.toks) R (R.news F F' N' λp hp=> .tail _ hp) (N' _ (.head _)).1 (Ņ _) (by rw[Ã];exact h.1) (r1.append r2) h.2
theorem gQ {i:Int}(h:i.natAbs<=ę):i<2^62:=by unfold ę at h;omega
theorem gP {i:Int}(h:i.natAbs<=ę): -2^62<=i:=by unfold ę at h;omega
theorem Di {j:Int}(h:0<j):j≠0:=λz=>Int.lt_irrefl 0 (z▸h)
theorem Od {j:Int}(h:0<j)(k:j<=ę):j.natAbs<1073741824:=by unfold ę at k;omega
theorem Oh {x y:Int}(hx:x.natAbs<=ę):IntMulOk x y:=by
 have:=intBits_le_64 (Int.le_trans (by decide) (gP hx)) (Rb (gQ hx) (by decide))
 unfold IntMulOk
 have h2:¬Builtin.Int.intBits x>shortFactorBits:=Ł.mpr (À this (by decide))
 simp[h2]
def i1 (b:V)(K:Int->Prop):Prop:=match b with
 | .int y=>K y
 |_=>bT
def s1 (b:V)(K:List Nat->Prop):Prop:=match b with
 | .str y=>K y
 |_=>bT
@[elab_as_elim] theorem lq {P:Value->Prop}{K:Int->Prop}(ha:VR X a x)(h:i1 a K)(k:∀i t,K i->P (.int i t)):P x:=by
  cases a with
  |int i=>exact ha.on λt=>k i t h
  |_=>exact bT.elim h
@[elab_as_elim] theorem Tu {P:Value->Prop}{K:List Nat->Prop}(ha:VR X a x)(h:s1 a K)(k:∀l t,l.length<=ę->K l->P (.str (ĝ l) t)):P x:=by
  cases a with
  |str l=>exact ha.on λt b=>k l t b h
  |_=>exact bT.elim h
@[elab_as_elim] theorem ya {P:Value->Value->Prop}{K:Int->Int->Prop}(ha:VR X a x)(hb:VR X b y)(h:i1 a λi=>i1 b (K i))(k:∀i j t u,K i j->P (.int i t) (.int j u)):P x y:=
  lq (P:=λx=>P x y) ha h λi t h=>lq (P:=λy=>P (.int i t) y) hb h λj u h=>k i j t u h
theorem T1 {us:List V}{j:Int}(ha:VR T.X (.lst us) x)(u:Tok)(h:vK us j T.H Q):ĥ c ρ T (binaryOp .Mult x (.int j u)) VV E Q:=λR=>by
 unfold vK at h
 refine ha.on λp xs k _ f r=> ?_
 obtain⟨m,F,N⟩:=R.fr
 have h1:xs.toArray.size*j.toNat<=ę:=r.sz▸h.1
 refine mul_list F N (R.still f) (Int.le_trans (by decide) (gP h.2.1)) (Rb (gQ h.2.1) (by decide)) (ŉ h1) λh' F' N'=> ?_
 refine jS (n:=0) (tk:=T.s.toks) (xs:=(List.replicate j.toNat xs).flatten) R (R.news F F' N' λp hp=> .tail _ hp) ?_ (Ņ _) ?_ (r.rep _) h.2.2
 ·rw[(N' _ (.head _)).1,foldl_rep]
 ·rw[List.length_flatten,Á2,List.sum_replicate_nat,Nat.mul_comm];exact h.1
theorem Qh {op:vk}(ha:VR T.X a x)(hb:VR T.X b y)(h:s9 op a b T.H Q):ĥ c ρ T (binaryOp (gM op) x y) VV E Q:=by
 cases op with
 |add=>
  cases a with
  |int i=>exact ha.on λt=>lq (K:=λj=>vX i j T.H Q) hb h λj u h R=>add_int (fin R _ (.int _ _) (by unfold vX at h;exact h))
  |str l=>
   exact ha.on λt _=>Tu (K:=λm=>sZ l m T.H Q) hb h λm u _ h R=>by
    unfold sZ at h
    have e:ĝ l++ĝ m=ĝ (l++m):=È Str.mk (ck _ _)
    exact add_str (λt' tk=>fin R tk (e▸ .str (by rw[Ã];exact h.1) _) h.2) (by have:=ŉ h.1;rw[←ů,←ů] at this;exact this)
  |_=>exact Kg ha hb h
 |sub=>exact ya (K:=λi j=>vJ i j T.H Q) ha hb h λi j t u h R=>sub_int (fin R _ (.int _ _) (by unfold vJ at h;exact h))
 |mul=>
  cases a with
  |int i=>
   exact ha.on λt=>lq (K:=λj=>Ak i j T.H Q) hb h λj u h R=>by
    unfold Ak at h
    exact mul_int (fin R _ (.int _ _) h.2.2) (Oh h.1)
  |lst us=>exact lq (K:=λj=>vK us j T.H Q) hb h λj u h=>T1 ha u h
  |_=>exact bT.elim h
 |fdiv=>
  exact ya (K:=λi j=>Ar i j T.H Q) ha hb h λi j t u h R=>by
   unfold Ar at h
   refine floordiv_int (Di h.1) (fin R _ ?_ h.2.2.2) (.inl (Ri (Od h.1 h.2.1)))
   rw[Int.fdiv_eq_ediv_of_nonneg _ (Rc h.1)];exact .int _ _
 |mod=>
  exact ya (K:=λi j=>vP i j T.H Q) ha hb h λi j t u h R=>by
   unfold vP at h
   refine mod_int' (Di h.1) (fin R _ ?_ h.2)
   rw[Int.fmod_eq_emod_of_nonneg _ (Rc h.1)];exact .int _ _
end
abbrev Av (slice:Expr):Prop:=∀o i,∃ops,subscripted slice false o i=operate ops (getItem o i)
section
variable {c:Fm} {ρ:Loc} {T:Sx} {X:Gh} {A:Around} {v a b w:V} {x y u:Value} {r:Bool} {L p:Addr} {vs us:List V} {xs ys:List Value} {n k:Nat} {i:Int} {t:Tok} {Q:QT} {E:Ĩ} {value slice:Expr} {l:List (List Nat×V)} {es:List DictEntry}
theorem pL (i:Int)(n:Nat):seqIndex? i n=cS i n:=by
 show (if _ then _ else _)=if _ then _ else _
 exact ite_congr (by rw[Ð,sy,sy]) (λ_=>rfl) λ_=>rfl
theorem dX (h:cS i n=some k)(b:n<=ę): -(2^63:Int)<=i∧i<2^63∧(i<0->-(n:Int)<=i)∧(if i<0 then i+n else i).toNat=k:=by
 unfold cS at h
 dsimp only at h
 by_cases q:0<=(if i<0 then i+↑n else i)∧(if i<0 then i+↑n else i)<↑n
 ·rw[Î q] at h
  have hb:(n:Int)<=1000000:=ľ.mpr b
  by_cases z:i<0
  ·rw[Î z] at q
   exact⟨by omega,by omega,λ_=>by omega,Ä h⟩
  ·rw[Ñ z] at q
   exact⟨by omega,by omega,λy=>absurd y z,Ä h⟩
 ·rw[Ñ q] at h;exact nS h
theorem E7 {s:Shared}{Q:Value->Shared->Prop}{E:Value->Shared->Prop}(il:s.heap.IsList p xs.toArray)(r:Į X vs xs)(hb:vs.length<=ę)(hn:cS i vs.length=some k)(hv:vs[k]? =some v)(hq:∀x,VR X v x->Q x s):wpAny M0 A (getItem (.ref p) (.int i t)) Q E s:=by
 obtain⟨a,b,d,e⟩:=dX hn hb
 obtain⟨x,hx,hr⟩:=r.get hv
 rw[←e,←Ė] at hx
 by_cases hi:i<0
 ·rw[Î hi] at hx
  exact wpAny_getItem_list_neg il hi (r.sz▸d hi) a (r.sz▸hx) (hq x hr)
 ·rw[Ñ hi] at hx
  exact wpAny_getItem_list il (Ť.mp hi) b hx (hq x hr)
theorem yW (h:jg vs i T.H Q):∃k v,cS i vs.length=some k∧vs[k]? =some v∧Q v T.H:=by
 unfold jg at h
 cases e:cS i vs.length with
 |none=>rw[e] at h;exact b1.elim h
 |some k=>cases e2:vs[k]? with
  |none=>rw[e] at h;dsimp only at h;rw[e2] at h;exact b1.elim h
  |some v=>rw[e] at h;dsimp only at h;rw[e2] at h;exact⟨k,v,rfl,e2,h⟩
theorem IL (h:qp vs i T.H Q):∃k v,cS i vs.length=some k∧vs[k]? =some v∧Q v T.H:=by
 unfold qp at h
 obtain⟨k,e,h⟩:=ba h
 obtain⟨v,e2,h⟩:=ba h
 exact⟨k,v,e,e2,h⟩
theorem pZ (e:T.h.get? p=some (dictOf es n))(r:DR T.X l es)(hi:VR T.X w y)(h:qt l w T.H Q):ĥ c ρ T (getItem (.ref p) y) VV E Q:=by
 unfold qt at h
 cases w with
 |str k=>
  have f:=r.find (k:=k)
  obtain⟨v,hv,h⟩:=ba h
  rw[hv] at f
  obtain⟨z,f,hr⟩:=f
  exact hi.on λt _ R=>wpAny_getItem_of (gx pw cx.w (ĝ k) t) (hO e r) f (fin R _ hr h)
 |_=>exact h.elim
theorem Lq (il:T.s.heap.IsList p xs.toArray)(r:Į T.X vs xs)(hb:vs.length<=ę)(h:∃k v,cS i vs.length=some k∧vs[k]? =some v∧Q v T.H):ĥ c ρ T (getItem (.ref p) (.int i t)) VV E Q:=λR=>by
 obtain⟨k,v,e,e2,h⟩:=h
 exact E7 il r hb e e2 λx hx=>fin0 R hx h
theorem o6 {S id:String}(hs:Av slice)(hT:T.s.TypeIs x S)(hl:typeLookup (.type S) "__getitem__" =pure (some (.builtin id)))(hg:ĥ c ρ T (getItem x y) VV E Q):ĥ c ρ T (subscriptTail value slice x y) VV E Q:=λR=>(hs x y).elim λ_ e=>tail_any hT hl (hg R) e
theorem O1 {l:List Nat}{u:Tok}(hs:Av slice)(hb:l.length<=ę)(h:G9 l i T.H Q):ĥ c ρ T (subscriptTail value slice (.str (ĝ l) u) (.int i t)) VV E Q:=by
 unfold G9 at h
 obtain⟨k,hk,h⟩:=ba h
 obtain⟨d,hd,h⟩:=ba h
 obtain⟨q1,q2,_,_⟩:=dX hk hb
 refine o6 hs (typeIs_str T.s _ u) F.slot_str_getitem.lookup λR=>P.getItem_str (c:=d) ?_ ?_ (fin R _ (.str (l:=[d]) (Ì (ý _)) _) h)
 ·rw[fw,Qq,Qq]
  exact⟨Ť.mpr q1,GX.mpr q2⟩
 ·rw[ů,pL,hk]
  exact Ė.trans hd
theorem Uk (hs:Av slice)(f:T.h.get? p=some (f7 xs))(r:Į T.X vs xs)(b:vs.length<=ę)(h:jg vs i T.H Q):ĥ c ρ T (subscriptTail value slice (.ref p) (.int i t)) VV E Q:=by
 obtain⟨k,v,hk,hv,h⟩:=yW h
 obtain⟨q1,q2,_,_⟩:=dX hk b
 obtain⟨z,hx,hr⟩:=r.get hv
 exact o6 hs (fY f).typeIs slot_tuple_getitem.lookup λR=>getItem_tuple (j:=k) (fY f) q1 q2 (by rw[pL,←r.sz];exact hk) (Ė.trans hx) (fin0 R hr h)
theorem Ul (hs:Av slice)(W:Wd T){j:Nat}(ha:VR T.X (.obj j) x)(hi:VR T.X b y)(h:Kv j b T.H Q):ĥ c ρ T (subscriptTail value slice x y) VV E Q:=by
 unfold Kv at h
 cases hj:T.H[j]? with
 |none=>rw[hj] at h;exact h.elim
 |some o=>cases o with
  |none=>rw[hj] at h;exact h.elim
  |some o=>
   rw[hj] at h
   refine ha.on λp d ht=>(W.obj hj ht).2.on (P:=λt=>ĥ c ρ T (subscriptTail value slice (.ref t.1) y) VV E Q) ?_
   cases o with
   |list vs=>
    obtain⟨i,e,h⟩:=yS h
    rw[e] at hi
    exact λp xs n b f r=>hi.on λt=>o6 hs (Ř f).typeIs lP.lookup (Lq (Ř f) r b (IL h))
   |dict es=>exact λp l n ns f r=>o6 hs (hO f r).typeIs slot_dict_getitem.lookup (pZ f r hi h)
   |inst=>exact h.elim
theorem O2 (hs:Av slice)(ha:VR T.X a x)(hi:VR T.X b y)(h:Sz a b T.H Q):ĥ c ρ T (subscriptTail value slice x y) VV E Q:=λR=>by
 have W:=R.toWd
 refine (?_:ĥ c ρ T (subscriptTail value slice x y) VV E Q) R
 cases a with
 |str l=>exact ha.on λt hb=>lq (K:=λi=>G9 l i T.H Q) hi h λi u h=>O1 hs hb h
 |tup vs=>exact ha.on λp xs b f r=>lq (K:=λi=>jg vs i T.H Q) hi h λi u h=>Uk hs (W.still f) r b h
 |lst vs=>exact ha.on λp xs n b f r=>lq (K:=λi=>jg vs i T.H Q) hi h λi u h=>o6 hs (Ř (W.still f)).typeIs lP.lookup (Lq (Ř (W.still f)) r b (yW h))
 |dic es=>exact ha.on λp l n ns f r=>o6 hs (hO (W.still f) r).typeIs slot_dict_getitem.lookup (pZ (W.still f) r hi h)
 |obj j=>exact Ul hs W ha hi h
 |_=>exact bT.elim h
end
section
variable {α:Type} {c:Fm} {ρ:Loc} {T:Sx} {X:Gh} {A:Around} {v a b w:V} {x y u vl vu:Value} {p:Addr} {vs us:List V} {xs ys:List Value} {n k:Nat} {t:Tok} {Q:QT} {E:Ĩ} {value slice:Expr} {l:List Nat} {lo hi:Option Int} {el eu:Option Expr} {ps:Pos}
theorem MG (x:Int):(max 0 x).toNat=x.toNat:=by
 rcases Int.le_total 0 x with h|h
 ·rw[Int.max_eq_right h]
 ·rw[Int.max_eq_left h,Int.toNat_of_nonpos h];rfl
theorem lC (i:Int)(n:Nat):bP i n=clipAt n i:=by
 unfold bP clipAt
 rw[MG]
 by_cases h:i<0
 ·rw[Î h,Î h,Int.min_eq_left (by have:=Int.add_le_add_right (Rc h) n;rwa [Ra] at this)]
 ·rw[Ñ h,Ñ h]
  obtain⟨k,e⟩:=aF (Ť.mp h)
  rw[e,ō]
  rcases Nat.le_total k n with z|z
  ·rw[ag z,Int.min_eq_left (ľ.mpr z)];rfl
  ·rw[ÄU z,Int.min_eq_right (ľ.mpr z)];rfl
noncomputable abbrev xK (lo:Option Int)(n:Nat):Nat:=lo.elim 0 (clipAt n)
noncomputable abbrev Hf (hi:Option Int)(n:Nat):Nat:=hi.elim n (clipAt n)
theorem rR (l:List α)(lo hi:Option Int):oQ l lo hi=(l.drop (xK lo l.length)).take (Hf hi l.length-xK lo l.length):=by
 rw[←oq]
 unfold oQ
 cases lo<;>cases hi<;>dsimp only[xK,Hf,Option.elim]<;>(try rw[lC])<;>(try rw[lC])
theorem Az (n:Nat)(lo hi:Option Int):Builtin.Str.strSliceIndices lo hi 1 n=(List.range (Hf hi n-xK lo n)).map (xK lo n+·):=by
 rw[←sliceRange_one]
 unfold Builtin.Str.strSliceIndices
 cases lo<;>cases hi<;>simp[Option.elim,clipAt_cast,xK,Hf]
theorem uN (l:List α)(lo hi:Option Int):(oQ l lo hi).length<=l.length:=by
 rw[rR]
 exact À (fv _ _) (by rw[ã];exact Ō _ _)
theorem O3 (hi:Option Int)(n:Nat):Hf hi n<=n:=by
 cases hi with
 |none=>exact Å _
 |some i=>
  show (max (0:Int) _).toNat<=n
  rw[MG];exact Int.toNat_le.mpr (Int.min_le_right _ _)
theorem JO {l:List α}{a b:Nat}(hb:b<=l.length)(h:b-a=l.length):(l.drop a).take (b-a)=l:=by
 rw[h,Rk (by rw[ã];exact Ō _ _)]
 cases a with
 |zero=>rfl
 |succ a=>
  have:l=[]:=Ķ (Rj λz=>aq _ (æ (h▸Nat.sub_lt (æ z (h▸Ō _ _)) (gz a):l.length<b) hb))
  rw[this];rfl
theorem oh {lo hi:Option (Int×Tok)}{Q:Value->Shared->Prop}{s:Shared}(hb:l.length<=ę)(h:∀t' tk,Q (.str (ĝ (oQ l (lo.map (·.1)) (hi.map (·.1)))) t') {s with toks:=tk}):(sliceMade (ĝ l) t lo hi none).post Q s:=by
 have e:slicePicked (ĝ l) lo hi none=(List.range (Hf (hi.map (·.1)) l.length-xK (lo.map (·.1)) l.length)).map (xK (lo.map (·.1)) l.length+·):=by
  unfold slicePicked
  rw[ů];exact Az ..
 have e2:=pick_run l.toArray (xK (lo.map (·.1)) l.length) (Hf (hi.map (·.1)) l.length-xK (lo.map (·.1)) l.length)
 rw[rR] at h
 unfold sliceMade
 rw[e]
 by_cases q:((((none:Option (Int×Tok)).map (·.1)).getD 1==1)&&(((List.range (Hf (hi.map (·.1)) l.length-xK (lo.map (·.1)) l.length)).map (xK (lo.map (·.1)) l.length+·)).length==(ĝ l).length))=true
 ·rw[Î q]
  have q:=eq_of_beq (oA.mp q).2
  rw[Â,bK,ů] at q
  rw[JO (O3 ..) q] at h
  exact h t s.toks
 ·rw[Ñ q]
  refine⟨?_,?_⟩
  ·show (List.filterMap (λx=>(ĝ l).cps[x]?) _).toArray.size<=sizeLine
   rw[show List.filterMap (λx=>(ĝ l).cps[x]?) _=_ from e2,Č]
   exact À (fv _ _) (by rw[ã];exact À (Ō _ _) (ŉ hb))
  ·have:=h s.toks (s.toks+1)
   rw[←e2] at this
   exact this
theorem part_of (h:IsPart x lo):∃lp:Option (Int×Tok),lo=lp.map (·.1)∧x=partValue lp:=by
 induction h with
 |none=>exact⟨none,rfl,rfl⟩
 |int i t=>exact⟨some (i,t),rfl,rfl⟩
noncomputable abbrev oJ (vl vu:Value):Obj:={cls:= .type "slice",data:= .fields #[vl,vu,.none]}
noncomputable abbrev Sx.psh (T:Sx)(o:Obj):Sx:=⟨T.X,T.H,{T.s with heap:=T.h.push o}⟩
theorem nq {R:Ħ c ρ T}{o o':Obj}{w:V}(hv:∀X:Gh,T.X.le X->X.r (T.h.push o').objs.size= .still o->VR X w (.ref (T.h.push o').objs.size))(q:Q w T.H)(hf:o.isFreed=false):ŝ c ρ T VV Q (.ref (T.h.push o').objs.size) {T.s with heap:=(T.h.push o').push o}:=
 .back (T₁:=T.psh o') (R.grown (tk:=T.s.toks) .push).s (jY (T:=T.psh o') (tk:=T.s.toks) (R.grown .push).r .push (ë _ hf) (Ņ _) hv q)
theorem KZ (hb:vs.length<=ę)(r:Į T.X vs xs)(il:T.h.get? p=some (ē xs n))(hl:IsPart vl lo)(hu:IsPart vu hi)(h:Q (.lst (oQ vs lo hi)) T.H)(R:Ħ c ρ T):wpAny M0 c.A (subscriptTail value (.Slice el eu none ps) (.ref p) (.ref T.h.objs.size)) (ŝ c ρ T VV Q) (λe s'=>dJ c ρ T E s' e) {T.s with heap:=T.h.push (oJ vl vu)}:=by
 have RK:({T.s with heap:=T.h.push (oJ vl vu)}:Shared).heap.IsList p xs.toArray:=Ř (n:=n) (s:={T.s with heap:=T.h.push (oJ vl vu)}) (Ø _ il)
 refine tail_any (ops:=[.ref T.h.objs.size,.ref p]) RK.typeIs lP.lookup ?_ rfl
 refine ÁZ RK (.new _ _ _ _) hl hu .none nofun ?_ (r.sz▸ŉ hb)
 rw[slicePick_plain,←r.sz]
 have rr:Į T.X (oQ vs lo hi) ((xs.drop (xK lo vs.length)).take (Hf hi vs.length-xK lo vs.length)):=rR vs lo hi▸(r.drop _).take _
 exact nq (R:=R) (λX l f=> .lst (À (uN _ _ _) hb) f (rr.mono l)) h rfl
theorem N1 {P:Value->Prop}{i:Int}(h:IsPart x (some i))(k:∀t,P (.int i t)):P x:=by
 obtain⟨lp,e1,e2⟩:=part_of h
 cases lp with
 |none=>exact nS e1.symm
 |some q=>exact e2▸(È (Value.int · q.2) (Ä e1)▸k q.2:P (.int q.1 q.2))
theorem N0 {P:Value->Prop}(h:IsPart x none)(k:P .none):P x:=by
 obtain⟨lp,e1,e2⟩:=part_of h
 cases lp with
 |none=>exact e2▸k
 |some q=>exact nS e1
theorem Tq (hb:us.length<=ę)(r:Į T.X us xs)(it:T.h.get? p=some (f7 xs))(hl:IsPart vl lo)(hu:IsPart vu hi)(h:lo=some 1∧hi=none∧1<=us.length∧Q (.tup (us.drop 1)) T.H)(R:Ħ c ρ T):wpAny M0 c.A (subscriptTail value (.Slice el eu none ps) (.ref p) (.ref T.h.objs.size)) (ŝ c ρ T VV Q) (λe s'=>dJ c ρ T E s' e) {T.s with heap:=T.h.push (oJ vl vu)}:=by
 have it:∀vl vu,IsTup (T.h.push (oJ vl vu)) p xs.toArray:=λvl vu=>⟨_,Ø _ it,rfl,0,rfl⟩
 rw[h.1] at hl
 rw[h.2.1] at hu
 refine tail_any (ops:=[.ref T.h.objs.size,.ref p]) (it vl vu).typeIs slot_tuple_getitem.lookup ?_ rfl
 refine N1 (P:=λvl=>wpAny M0 c.A _ _ _ {T.s with heap:=T.h.push (oJ vl vu)}) hl λt=>N0 (P:=λvu=>wpAny M0 c.A _ _ _ {T.s with heap:=T.h.push (oJ (.int 1 t) vu)}) hu ?_
 refine getItem_tuple_from (a:=1) (it (.int 1 t) .none) (Heap.IsSliceOf.new ..) (Å 1) (r.sz▸h.2.2.1) ?_ (r.sz▸ŉ hb)
 exact nq (R:=R) (λX l f=> .tup (À (by rw[ã];exact Ō _ _) hb) f ((r.drop 1).mono l)) h.2.2.2 rfl
theorem NC (ha:VR T.X a x)(hl:IsPart vl lo)(hu:IsPart vu hi)(h:d6 a lo hi T.H Q)(R:Ħ c ρ T):wpAny M0 c.A (subscriptTail value (.Slice el eu none ps) x (.ref T.h.objs.size)) (ŝ c ρ T VV Q) (λe s'=>dJ c ρ T E s' e) {T.s with heap:=T.h.push (oJ vl vu)}:=by
 unfold d6 at h
 have h:=h.2.2
 rcases qG a T.H with e|⟨j,us,e0,hi,e⟩
 ·rw[e] at h
  cases a with
  |str l=>
   refine ha.on λt hb=>tail_any (ops:=[.ref T.h.objs.size,.str (ĝ l) t]) (typeIs_str _ _ t) F.slot_str_getitem.lookup ?_ rfl
   obtain⟨lp,e1,e2⟩:=part_of hl
   obtain⟨up,e3,e4⟩:=part_of hu
   rw[e1,e3] at h
   refine wpAny_getItem_str_slice (l:=lp) (u:=up) (st:=none) ⟨_,ë _ rfl,rfl,by rw[e2,e4];rfl⟩ rfl (oh hb λt' tk=> ?_)
   exact .back (T₁:=T.psh (oJ vl vu)) (R.grown (tk:=T.s.toks) .push).s (fin (T:=T.psh (oJ vl vu)) (R.grown (tk:=T.s.toks) .push).r tk (.str (À (uN _ _ _) hb) _) h)
  |lst us=>exact ha.on λp xs n b f r=>KZ b r (R.still f) hl hu h R
  |tup us=>exact ha.on λp xs b f r=>Tq b r (R.still f) hl hu h R
  |_=>exact h.elim
 ·rw[e] at h
  rw[e0] at ha
  exact R.lst ha rfl hi λp xs n _ _ b f r=>KZ b r f hl hu h R
end
noncomputable def jf {α:Type}(o:Option α)(p:α->Bool):Bool:=match o with
 |some a=>p a
 |none=>false
noncomputable abbrev bM (f:Nat):Str:=Str.ofString (ħ f)
noncomputable abbrev SQ (K:Frag)(c f:Nat):Bool:=
 plainGet K (Ě c) (bM f)&&(hasDictIn K (Ě c)&&(jf (findIn K (.ref (Ě c)) (bM f)) (noGet K)&&
 ((findIn K (.ref (Ě c)) "__setattr__" ==some (some (.builtin "object.__setattr__")))&&(plainOver K (Ě c)&&(takerIn K (Ě c) (bM f)==some none)))))
theorem Gj (P:Params):((List.range 9).all λc=>(List.range 20).all λf=> !vD c f||SQ (KF P) c f)=true:=by kernel_rfl
noncomputable def okT:List (List Nat):=[[0,1,2],[],[],[5,4],[6,7],[8,9,10,11,1],[5],[12,9,13,14,15],[5,16,17,12,9,14,18,19,15]]
theorem TS (c f:Nat):vD c f=(okT.getD c []).contains f:=match c with
 |0=>rfl|1=>rfl|2=>rfl|3=>rfl|4=>rfl|5=>rfl|6=>rfl|7=>rfl|8=>rfl|_+9=>rfl
theorem mL {c f:Nat}(h:vD c f=true):c<9∧f<20:=by
 rw[TS] at h
 rcases Ŝ c 9 with hc|hc
 ·exact⟨hc,(by decide:∀c<9,∀f∈okT.getD c [],f<20) c hc f (â.mp h)⟩
 ·rw[ù,mf hc] at h;exact fT h
theorem iW {α:Type}{o:Option α}{p:α->Bool}(h:jf o p=true):∃a,o=some a∧p a=true:=by
 cases o with
 |some a=>exact⟨a,rfl,h⟩
 |none=>exact fT h
theorem Pw {p:Nat->Nat->Bool}{n m a b:Nat}(h:((List.range n).all λa=>(List.range m).all λb=>p a b)=true)(ha:a<n)(hb:b<m):p a b=true:=É.mp (É.mp h a (Ö.mpr ha)) b (Ö.mpr hb)
theorem zL (P:Params){c f:Nat}(h:vD c f=true):SQ (KF P) c f=true:=by
 have:=Pw (Gj P) (mL h).1 (mL h).2
 rw[h] at this
 exact this
theorem u0 {f g:Nat}(hf:f<20)(h:ħ g=ħ f):g=f:=by
 have key:∀f<20,∀g<21,ħ g=ħ f->g=f:=by decide+kernel
 rcases Ŝ g 20 with hg|hg
 ·exact key f hf g (bJ hg) h
 ·have e1:ħ g=ħ 20:=by rw[←aX hg];rfl
  exact absurd (key f hf 20 (by decide) (e1.symm.trans h)) (dD hf)
theorem p0 {s t:String}(h:ņ s=ņ t):s=t:=String.toList_inj.mp ((List.map_inj_right λ_ _=>Char.toNat_inj.mp).mp h)
theorem isStr_of (k:Str)(v:Value):v.isStr k=Value.isStrOf k v:=by cases v<;>rfl
section
variable {c:Fm} {ρ:Loc} {T:Sx} {X:Gh} {v w a:V} {x y:Value} {l:List (List Nat×V)} {es:List DictEntry} {k:List Nat} {t:Tok} {n f cc i:Nat} {fs:List (Nat×V)} {p d:Addr} {Q:QT} {E:Ĩ} {o o' ob:Obj} {m:Str->Option Value} {h':Heap} {nn:List (Addr×Obj)}
theorem DR.noref (r:DR X l es):es.any (·.refKey)=false:=r.ind rfl λ_ _ ih=>ih
theorem DR.look (r:DR X l es)(k:List Nat):match l.lookup k with
 |some v=>∃z,getL (ĝ k) es=some (some z)∧VR X v z
 |none=>getL (ĝ k) es=some none:=by
 have h:=r.find (k:=k)
 have e:findBy Value.isStrOf es.toArray (ĝ k)=(es.find? λd=>d.key.isStr (ĝ k)).map (·.val):=by
  unfold findBy
  rw[Á6,funext λd:DictEntry=>isStr_of (ĝ k) d.key]
 rw[e] at h
 unfold getL
 cases hl:l.lookup k with
 |some v=>
  rw[hl] at h
  obtain⟨z,h1,h2⟩:=(h:∃x,_=some x∧_)
  cases hf:es.find? (λd=>d.key.isStr (ĝ k)) with
  |none=>rw[hf] at h1;exact nS h1
  |some d=>rw[hf] at h1;exact⟨z,È some h1,h2⟩
 |none=>
  rw[hl] at h
  rw[Option.map_eq_none_iff.mp (h:_=none)]
  show (if es.any (·.refKey)=true then none else some none)=some none
  rw[r.noref];rfl
theorem DR.put (hv:VR X v x)(r:DR X l es):DR X (iP k v l) (putL (ĝ k) (PyData.keyHash cx.w.params (ĝ k)) (.str (ĝ k) t) x es):=
 r.ind (.cons hv .nil) λ{k' _ t' _ _ _} a r ih=>by
  have e:Value.isStr (.str (ĝ k') t') (ĝ k)=(k'==k):=dS k' k
  by_cases h:k'=k
  ·rw[iP,putL,Î h,Î (by rw[e];exact è.mpr h),h]
   exact .cons hv r
  ·rw[iP,putL,Ñ h,Ñ (by rw[e];exact λz=>h (eq_of_beq z))]
   exact .cons a ih
theorem DR.len (r:DR X l es):l.length=es.length:=r.ind rfl λ_ _ ih=>È (·+1) ih
theorem EW (l:List (List Nat×V)):(iP k v l).length<=l.length+1:=by
 induction l with
 |nil=>exact Å _
 |cons p r ih=>
  by_cases h:p.1=k
  ·rw[show iP k v (p::r)=_ from Î h];exact å _
  ·rw[show iP k v (p::r)=_ from Ñ h];exact Ì ih
theorem DS (hf:f<20){g:Nat}(h:g≠f):ņ (ħ g)≠ņ (ħ f):=λe=>h (u0 hf (p0 e))
theorem ud (hf:f<20)(l:List (Nat×V)):gj (mj f v l)=iP (ņ (ħ f)) v (gj l):=by
 induction l with
 |nil=>rfl
 |cons p r ih=>
  show gj (if p.1=f then (p.1,v)::r else (p.1,p.2)::mj f v r)=if ņ (ħ p.1)=ņ (ħ f) then (ņ (ħ p.1),v)::gj r else (ņ (ħ p.1),p.2)::iP (ņ (ħ f)) v (gj r)
  by_cases h:p.1=f
  ·rw[Î h,Î (by rw[h])];rfl
  ·rw[Ñ h,Ñ (DS hf h),←ih];rfl
theorem xg (hf:f<20)(l:List (Nat×V)):(gj l).lookup (ņ (ħ f))=l.lookup f:=by
 induction l with
 |nil=>rfl
 |cons p r ih=>
  have:(ņ (ħ f)==ņ (ħ p.1))=(f==p.1):=by
   by_cases h:p.1=f
   ·rw[h,ô,ô]
   ·rw[Ù.mpr (bI h),Ù.mpr (bI (DS hf h))]
  show ((ņ (ħ p.1),p.2)::gj r).lookup _=_
  rw[į,į,this,ih]
theorem VR.handed (h:VR X v x):handedIn x=true:=h.casesOn (motive_1:=λ_ x _=>handedIn x=true) rfl (λ_=>rfl) (λ_ _=>rfl) (λ_ _=>rfl) (λ_ _ _=>rfl) (λ_ _ _=>rfl) (λ_=>rfl) (λ_ _ _=>rfl) (λ_ _ _=>rfl) λ_=>rfl
theorem x6 {α:Type}{b:Bool}{o:Option α}{v:α}(h:cond b o none=some v):b=true∧o=some v:=by
 cases b with
 |true=>exact⟨rfl,h⟩
 |false=>exact nS h
theorem rH {K:Nat->List (Nat×V)->Prop}{o:Option (Option O)}(h:match o with|some (some (.inst c fs))=>K c fs|_=>False):∃c fs,o=some (some (.inst c fs))∧K c fs:=by
 cases o with
 |none=>exact h.elim
 |some o=>cases o with
  |none=>exact h.elim
  |some o=>cases o with
   |inst c fs=>exact⟨c,fs,rfl,h⟩
   |_=>exact h.elim
theorem zN (e1:T.h.get? p=some (instObj (Ě cc) d))(e2:T.h.get? d=some (dictOf es n))(r:DR T.X (gj fs) es)(h:Mj cc f fs=some v)(q:Q v T.H):ĥ c ρ T (getAttr (.ref p) (bM f) true) VV E Q:=λR=>by
 obtain⟨m,F,N⟩:=R.fr
 obtain⟨ho,h⟩:=x6 h
 have hk:=zL cx.w.params ho
 obtain⟨at_,h1,h2⟩:=iW (aL (aR (aR hk)))
 have g:=r.look (ņ (ħ f))
 rw[xg (mL ho).2,h] at g
 obtain⟨z,g,hr⟩:=g
 exact get_own (ox:=instObj (Ě cc) d) F R.g.kin ⟨e1,rfl,rfl,e2⟩ (aL hk) (aL (aR hk)) h1 h2 (by rw[bM,ĺ];exact g) hr.handed (fin R _ hr q)
theorem zM (ha:VR T.X a x)(h:tL f a T.H Q):ĥ c ρ T (getAttr x (bM f) true) VV E Q:=λR=>by
 refine (?_:ĥ c ρ T (getAttr x (bM f) true) VV E Q) R
 cases a with
 |rcd cc fs=>
  replace h:oZ (Mj cc f fs) T.H Q:=h
  cases e:Mj cc f fs with
  |none=>rw[e] at h;exact bT.elim h
  |some v=>rw[e] at h;exact ha.on λp d es n f1 f2 r=>zN (R.still f1) (R.still f2) r e h
 |obj i=>
  replace h:Q2 f i T.H Q:=h
  unfold Q2 at h
  obtain⟨cc,fs,hi,h⟩:=rH (K:=λc fs=>sq (Mj c f fs) λx=>Q x T.H) h
  obtain⟨v,e,h⟩:=ba h
  exact ha.on λp d ht=>(R.obj hi ht).2.on (P:=λt=>ĥ c ρ T (getAttr (.ref t.1) (bM f) true) VV E Q) λp d es n f1 f2 r=>zN (R.still f1) f2 r e h
 |_=>exact bT.elim h
theorem Nd {l:List (Addr×Obj)}(nd:(l.map (·.1)).Nodup)(hm:(d,o)∈l):Upd d o o' l (l.map λp=>if p.1=d then (d,o') else p):=by
 induction l with
 |nil=>exact nomatch hm
 |cons p r ih=>
  rw[ß,bg] at nd
  rw[ß]
  rcases Û.mp hm with h|h
  ·rw[←h] at nd⊢
   have ne:∀q∈r,q.1≠d:=λq hq e=>nd.1 (Þ.mpr ⟨q,hq,e⟩)
   rw[Î rfl,show (r.map λp=>if p.1=d then (d,o') else p)=r from (az λq hq=>Ñ (ne q hq)).trans r.map_id]
   exact .head ne
  ·have hp:p.1≠d:=λe=>nd.1 (by rw[e];exact Þ.mpr ⟨(d,o),h,rfl⟩)
   rw[Ñ hp]
   exact .tail hp (ih nd.2 h)
theorem xH (h:Heap)(L:Addr):((td h L).map (·.1)).Nodup:=by
 unfold td
 rw[õ]
 exact (WG _).symm▸List.nodup_range.filter _
theorem Ax (R:Ħ c ρ T)(F':Fr cx.h₀ c.L h' m)(F:Fr cx.h₀ c.L T.h m)(N':News cx.h₀ c.L h' nn)(hl:∀p∈(td T.h c.L).map (λp=>if p.1=d then (d,o') else p),p∈nn):
 (∀{a ob},T.h.get? a=some ob->a≠c.L->a≠d->h'.get? a=some ob)∧(∀m,T.h.Ns c.L m->h'.Ns c.L m):=by
 refine⟨λ{a ob} e h2 h1=> ?_,λm' hm=>Ns.same F.ns hm▸F'.ns⟩
 cases q:cx.h₀.get? a with
 |some x=>exact Ä ((R.keepB _ _ q).symm.trans e)▸F'.keep _ _ q
 |none=>exact (N' _ (hl _ (Þ.mpr ⟨(a,ob),gZ.mpr ⟨e,h2,q⟩,Ñ h1⟩))).1
theorem Ħ.foot_in {ob:O}(R:Ħ c ρ T){t:Addr×Addr}(hi:T.H[i]? =some (some ob))(ht:T.X.θ[i]? =some t)(e:T.h.get? t.2=some o):(t.2,o)∈td T.h c.L:=by
 have lv:=(R.obj hi ht).1
 refine gZ.mpr ⟨e,λz=>oM lv (z▸R.ownL),?_⟩
 cases q:cx.h₀.get? t.2 with
 |none=>rfl
 |some o=>exact Hn lv (R.base q)
abbrev PQ (Q:AH->Prop):Unit->AH->Prop:=λ_=>Q
theorem NI {Q:AH->Prop}(W:Wd T)(hi:T.H[i]? =some (some (.inst cc fs)))(ht:T.X.θ[i]? =some (p,d))(f1:T.X.r p= .still (instObj (Ě cc) d))(e:T.h.get? d=some (dictOf es n))(r:DR T.X (gj fs) es)(hv:VR T.X v y)(ho:vD cc f=true)(hz:fs.length<=20)(h:Q (T.H.set i (some (.inst cc (mj f v fs))))):ĥ c ρ T (setAttr (.ref p) (bM f) y) VU E (PQ Q):=λR=>by
 obtain⟨m,F,N⟩:=R.fr
 have hk:=zL cx.w.params ho
 have g:=r.look (ņ (ħ f))
 have U:=Nd (o':=dictOf (putL (bM f) (PyData.keyHash cx.w.params (bM f)) (.str (bM f) (T.s.toks+1)) y es) (putN (bM f) es n)) (xH T.h c.L) (R.foot_in hi ht e)
 have r':DR T.X (gj (mj f v fs)) (putL (bM f) (PyData.keyHash cx.w.params (bM f)) (.str (bM f) (T.s.toks+1)) y es):=by
  rw[ud (mL ho).2,bM,ĺ]
  exact r.put hv
 have GQ:=aR (aR (aR hk))
 refine set_dict (ox:=instObj (Ě cc) d) F R.g.kin N ⟨W.still f1,rfl,rfl,e⟩ rfl (eq_of_beq (aL GQ)) (aL (aR GQ)) (eq_of_beq (aR (aR GQ))) (aL (aR hk)) ?_ rfl U ?_ λh' F' N'=> ?_
 ·rw[bM,ĺ]
  revert g
  cases (gj fs).lookup (ņ (ħ f)) with
  |some v=>exact λ⟨_,g,_⟩=>g▸rfl
  |none=>exact λg=>g▸rfl
 ·rw[←r'.len,ud (mL ho).2]
  exact À (EW _) (by rw[Â];exact À (Ì hz) (by decide))
 ·obtain⟨k1,k2⟩:=Ax R F' F N' λp hp=>hp
  exact .mk (v:=()) (R.turn hi ht k1 k2 (.inst f1 (N' _ (Þ.mpr ⟨_,R.foot_in hi ht e,Î rfl⟩)).1 r')) trivial h
theorem yD {Q:AH->Prop}(ha:VR T.X a x)(hv:VR T.X v y)(h:eP a f v T.H Q):ĥ c ρ T (setAttr x (bM f) y) VU E (PQ Q):=λR=>by
 refine (?_:ĥ c ρ T (setAttr x (bM f) y) VU E (PQ Q)) R
 cases a with
 |obj i=>
  unfold eP at h
  obtain⟨cc,fs,hi,h⟩:=rH (K:=λc fs=>vD c f=true∧fs.length<=20∧Q (T.H.set i (some (.inst c (mj f v fs))))) h
  exact ha.on λp d ht=>(R.obj hi ht).2.on (P:=λt=>T.X.θ[i]? =some t->ĥ c ρ T (setAttr (.ref t.1) (bM f) y) VU E (PQ Q)) (λp d es n f1 e r ht=>NI R.toWd hi ht f1 e r hv h.1 h.2.1 h.2.2) ht
 |_=>
  unfold eP at h
  exact h.elim
end
noncomputable def iT:Nat->Value
 |0=> .builtin "len" |1=> .type "range" |2=> .builtin "min" |3=> .builtin "max" |4=> .type "int" |6=> .builtin "ord" |7=> .type "str" |8=> .type "tuple" |9=> .type "list" |_=> .none
section
variable {c:Fm} {ρ:Loc} {T:Sx} {X:Gh} {v u w a:V} {x y:Value} {as vs:List V} {xs ys:List Value} {n f i:Nat} {p:Addr} {Q:QT} {E:Ĩ} {l:List Nat} {lo hi st:Int} {t1 t2 t3:Tok} {h':Heap}
@[elab_as_elim] theorem Į.three {P:List Value->Prop}(r:Į X [v,u,w] xs)(k:∀x y z,VR X v x->VR X u y->VR X w z->P [x,y,z]):P xs:=r.on λx ys h r=>r.two (P:=λys=>P (x::ys)) λy z g g'=>k x y z h g g'
theorem Jx {h h':Heap}(k:∀a o,h.get? a=some o->h'.get? a=some o):h.get? h'.objs.size=none:=by
 cases q:h.get? h'.objs.size with
 |none=>rfl
 |some o=>exact absurd (ā (k _ _ q)) (aq _)
theorem zq {n:Int}(h:sX l=some n):PySem.intText? (ĝ l)=some n∧l.length<=640:=by
 unfold sX at h
 have g:∀{l':List Nat} {m:Int},l=l'->some m=some n->PySem.intText? (ĝ l')=some m∧l'.length<=640->PySem.intText? (ĝ l)=some n∧l.length<=640:=λe q k=>by rw[e,←q];exact k
 by_cases h1:l=[48,50]
 ·exact g h1 ((Î h1).symm.trans h) ⟨by decide+kernel,by decide⟩
 ·rw[Ñ h1] at h
  by_cases h1:l=[49]
  ·exact g h1 ((Î h1).symm.trans h) ⟨by decide+kernel,by decide⟩
  ·rw[Ñ h1] at h
   by_cases h1:l=[50]
   ·exact g h1 ((Î h1).symm.trans h) ⟨by decide+kernel,by decide⟩
   ·rw[Ñ h1] at h;exact nS h
theorem r8 {l:List Int}:∀{ys:List Value},CarriedAll ys (l.map PyData.int)->Į X (l.map V.int) ys:=by
 induction l with
 |nil=>exact λ{ys} h=>by cases ys with
  |nil=>exact .nil
  |cons=>exact nomatch h
 |cons i l ih=>exact λ{ys} h=>by cases h with
  |cons a r=>cases a with
   |int i t=>exact .cons (.int i t) (ih r)
theorem EL (a b:Int):jd a b 1=(rangeInts a 1 (b-a).toNat).map V.int:=by
 unfold jd rangeInts
 rw[Î (by decide),õ,dF,Ś]
 exact az λk _=>È V.int (by rw[Int.mul_comm])
theorem Dw {xs:List Value}(b:vs.length<=ę)(r:Į T.X vs xs)(il:T.s.heap.IsList p xs.toArray)(q:Q (.int vs.length) T.H):ĥ c ρ T (call (.builtin "len") [.ref p]) VV E Q:=λR=>PyProof.Rows.len_list il (kO (r.sz▸b)) (fin R _ (.int _ _) (by rw[←r.sz];exact q))
theorem lW {K:List V->Prop}{o:Option (Option O)}(h:match o with|some (some (.list vs))=>K vs|_=>False):∃vs,o=some (some (.list vs))∧K vs:=by
 cases o with
 |none=>exact h.elim
 |some o=>cases o with
  |none=>exact h.elim
  |some o=>cases o with
   |list vs=>exact⟨vs,rfl,h⟩
   |_=>exact h.elim
theorem UK (ha:Į T.X as xs)(h:dw 0 as T.H Q):ĥ c ρ T (call (iT 0) xs) VV E Q:=λR=>by
 refine (?_:ĥ c ρ T (call (iT 0) xs) VV E Q) R
 cases as with
 |nil=>exact bT.elim h
 |cons a r=>cases a with
  |str l=>cases r with
   |nil=>exact ha.one λx hx=>hx.on λt b R=>P.len_str (GX.mpr (kO ((ů l).symm▸b))) (fin R _ (.int _ _) (by rw[ů];exact h))
   |cons=>exact bT.elim h
  |tup l=>cases r with
   |nil=>exact ha.one λx hx=>hx.on λp xs b f r R=>PyProof.Rows.len_tuple (fY (R.still f)) (kO (r.sz▸b)) (fin R _ (.int _ _) (by rw[←r.sz];exact h))
   |cons=>exact bT.elim h
  |lst l=>cases r with
   |nil=>exact ha.one λx hx=>hx.on λp xs n b f r=>Dw b r (Ř (R.still f)) h
   |cons=>exact bT.elim h
  |obj i=>cases r with
   |nil=>
    replace h:Ao i T.H Q:=h
    unfold Ao at h
    obtain⟨vs,hi,h⟩:=lW (K:=λvs=>Q (.int vs.length) T.H) h
    exact ha.one λx hx=>R.lst hx rfl hi λp xs n _ _ b f r=>Dw b r (Ř f) h
   |cons=>exact bT.elim h
  |_=>exact bT.elim h
def a1 (d:Prop)(as:List V)(K:V->Prop):Prop:=match as with
 |[a]=>K a
 |_=>d
@[elab_as_elim] theorem yg {P:List Value->Prop}{K:V->Prop}{d:Prop}(nd:¬d)(ha:Į X as xs)(h:a1 d as K)(k:∀a x,VR X a x->K a->P [x]):P xs:=by
  cases as with
  |nil=>exact absurd h nd
  |cons a r=>cases r with
   |nil=>exact ha.one λx hx=>k a x hx h
   |cons=>exact absurd h nd
theorem nbT:¬bT:=λh=>bT.elim h
theorem za {tk:Nat}(R:Ħ c ρ T)(q:Q (.rng lo hi st) T.H):ŝ c ρ T VV Q (.ref T.h.objs.size) {T.s with heap:=T.h.push (Ca lo hi st t1 t2 t3),toks:=tk}:=
 jY R .push (ë _ rfl) (Ņ _) (λX _ f=> .rng f) q
theorem UF (ha:Į T.X as xs)(h:dw 1 as T.H Q):ĥ c ρ T (call (iT 1) xs) VV E Q:=by
 cases as with
 |nil=>exact bT.elim h
 |cons a r=>cases a with
  |int i=>cases r with
   |nil=>
    replace h:oK i T.H Q:=h
    unfold oK at h
    exact ha.one λx hx=>hx.on λt R=>call_range_1 (za R h.2)
   |cons a r=>cases a with
    |int j=>cases r with
     |nil=>exact bT.elim h
     |cons a r=>cases a with
      |int k=>cases r with
       |nil=>
        replace h:Af i j k T.H Q:=h
        unfold Af at h
        obtain⟨_,_,e,h⟩:=h
        subst e
        exact ha.three λx y z hx hy hz=>hx.on λt=>hy.on λt'=>hz.on λt'' R=>call_range_3 (by decide) (za R h) (.inl (Ri (by decide)))
       |cons=>exact bT.elim h
      |_=>exact bT.elim h
    |_=>exact bT.elim h
  |_=>exact bT.elim h
def i2L (as:List V)(K:Int->Int->Prop):Prop:=match as with
 |[.int a,.int b]=>K a b
 |_=>bT
theorem Lh {K:Int->Int->Prop}(ha:Į T.X as xs)(h:i2L as K){P:List Value->Prop}(k:∀i j t u,K i j->P [.int i t,.int j u]):P xs:=by
 cases as with
 |nil=>exact bT.elim h
 |cons a r=>cases a with
  |int i=>cases r with
   |nil=>exact bT.elim h
   |cons a r=>cases a with
    |int j=>cases r with
     |nil=>exact ha.two λx y hx hy=>hx.on (P:=λx=>P [x,y]) λt=>hy.on (P:=λy=>P [.int i t,y]) λu=>k i j t u h
     |cons=>exact bT.elim h
    |_=>exact bT.elim h
  |_=>exact bT.elim h
theorem ite_int {p:Prop}[Decidable p]{i j:Int}{t u:Tok}:VR X (.int (if p then i else j)) (if p then .int i t else .int j u):=by
 by_cases q:p
 ·rw[Î q,Î q];exact .int _ _
 ·rw[Ñ q,Ñ q];exact .int _ _
theorem UH (C:FmOK c)(ha:Į T.X as xs)(h:dw 2 as T.H Q):ĥ c ρ T (call (iT 2) xs) VV E Q:=
 Lh (K:=λa b=>Al a b T.H Q) (P:=λxs=>ĥ c ρ T (call (iT 2) xs) VV E Q) ha h λi j t u h R=>by
  unfold Al at h
  exact min_two_ints C.hh λh' tk hk=> .mk (R.grown (.of hk)) ite_int h
theorem UI (C:FmOK c)(ha:Į T.X as xs)(h:dw 3 as T.H Q):ĥ c ρ T (call (iT 3) xs) VV E Q:=
 Lh (K:=λa b=>sV a b T.H Q) (P:=λxs=>ĥ c ρ T (call (iT 3) xs) VV E Q) ha h λi j t u h R=>by
  unfold sV at h
  exact max_two_ints C.hh λh' tk hk=> .mk (R.grown (.of hk)) ite_int h
theorem UL (ha:Į T.X as xs)(h:dw 4 as T.H Q):ĥ c ρ T (call (iT 4) xs) VV E Q:=by
 cases as with
 |nil=>exact bT.elim h
 |cons a r=>cases a with
  |int i=>cases r with
   |nil=>exact ha.one λx hx=>hx.on λt R=>call_int_int (fin0 R (.int _ _) h)
   |cons=>exact bT.elim h
  |str l=>cases r with
   |nil=>
    replace h:Aq l T.H Q:=h
    unfold Aq at h
    obtain⟨n,hn,h⟩:=ba h
    exact ha.one λx hx=>hx.on λt _ R=>KIN.call_text (zq hn).1 (À (ð (ů l)) (zq hn).2) (fin R _ (.int _ _) h)
   |cons=>exact bT.elim h
  |_=>exact bT.elim h
theorem UG (ha:Į T.X as xs)(h:dw 6 as T.H Q):ĥ c ρ T (call (iT 6) xs) VV E Q:=by
 cases as with
 |nil=>exact bT.elim h
 |cons a r=>cases a with
  |str l=>cases l with
   |nil=>exact bT.elim h
   |cons d l=>cases l with
    |nil=>cases r with
     |nil=>exact ha.one λx hx=>hx.on λt _ R=>P.ord_of_char (fin R _ (.int _ _) h)
     |cons=>exact bT.elim h
    |cons=>exact bT.elim h
  |_=>exact bT.elim h
theorem UE (ha:Į T.X as xs)(h:dw 7 as T.H Q):ĥ c ρ T (call (iT 7) xs) VV E Q:=by
 cases as with
 |nil=>exact bT.elim h
 |cons a r=>cases a with
  |int i=>cases r with
   |nil=>
    replace h:Ab i T.H Q:=h
    unfold Ab at h
    obtain⟨h1,h2,h⟩:=h
    have hl:(ņ (toString i)).length<=ę∧i.natAbs.log2<1920:=by
     obtain⟨n,e⟩:=aF h1
     subst e
     exact⟨À ((by decide+kernel:∀n:Nat,n<10->(ņ (toString (n:Int))).length<=1) n (ï.mp h2)) (by decide),Í (Nat.log2_le_self _) (Ą (ï.mp h2) (by decide))⟩
    refine ha.one λx hx=>hx.on λt R=>P.str_of_int hl.2 ?_
    show ŝ c ρ T VV Q (.str (Str.ofString (toString i)) T.s.toks) _
    rw[ĺ]
    exact fin R _ (.str hl.1 _) h
   |cons=>exact bT.elim h
  |str l=>cases r with
   |nil=>exact ha.one λx hx=>hx.on λt b R=>P.str_of_str (fin0 R (.str b _) h)
   |cons=>exact bT.elim h
  |_=>exact bT.elim h
theorem KP {xs:List Value}(b:vs.length<=ę)(r:Į T.X vs xs)(il:T.s.heap.IsList p xs.toArray)(q:Q (.tup vs) T.H):ĥ c ρ T (call (.type "tuple") [.ref p]) VV E Q:=λR=>
 call_tuple_list il (λh' hk=>yZ (tk:=T.s.toks) R (.of λa o e=>Ø _ (hk a o e)) (ë _ rfl) (Jx hk) b r q) (r.sz▸ŉ b)
theorem UD (ha:Į T.X as xs)(h:dw 8 as T.H Q):ĥ c ρ T (call (iT 8) xs) VV E Q:=λR=>by
 refine (?_:ĥ c ρ T (call (iT 8) xs) VV E Q) R
 cases as with
 |nil=>exact bT.elim h
 |cons a r=>cases a with
  |lst l=>cases r with
   |nil=>exact ha.one λx hx=>hx.on λp xs n b f r=>KP b r (Ř (R.still f)) h
   |cons=>exact bT.elim h
  |obj i=>cases r with
   |nil=>
    replace h:zZ i T.H Q:=h
    unfold zZ at h
    obtain⟨vs,hi,h⟩:=lW (K:=λvs=>Q (.tup vs) T.H) h
    exact ha.one λx hx=>R.lst hx rfl hi λp xs n _ _ b f r=>KP b r (Ř f) h
   |cons=>exact bT.elim h
  |_=>exact bT.elim h
theorem Os (C:FmOK c){a b:Int}(f:T.X.r p= .still (Ca a b 1 t1 t2 t3))(hb:a.natAbs<=ę∧b.natAbs<=ę∧b-a<=ę)(h:Q (.lst (jd a b 1)) T.H):ĥ c ρ T (call (.type "list") [.ref p]) VV E Q:=λR=>by
 obtain⟨m,F,N⟩:=R.fr
 have hz:(b-a).toNat<=ę:=Int.toNat_le.mpr hb.2.2
 refine list_rangeD C.hh F N (R.still f) (small_one (gP hb.1) (gQ hb.1) (gP hb.2.1) (gQ hb.2.1)) (rangeSize_nat _ _) (ŉ hz) λh' tk ys F' N' hk hn il pl cr=> ?_
 obtain⟨⟨n,e⟩,_⟩:=pl
 rw[EL] at h
 exact jS (n:=n) R (.of hk) e (Ņ _) (by rw[Â,rangeInts_length];exact hz) (r8 cr) h
theorem UJ (C:FmOK c)(ha:Į T.X as xs)(h:dw 9 as T.H Q):ĥ c ρ T (call (iT 9) xs) VV E Q:=by
 cases as with
 |nil=>exact bT.elim h
 |cons a r=>cases a with
  |rng a b d=>cases r with
   |nil=>
    replace h:An a b d T.H Q:=h
    unfold An at h
    obtain⟨e,hb,h⟩:=h
    subst e
    exact ha.one λx hx=>hx.on λp t1 t2 t3 f=>Os C f hb h
   |cons=>exact bT.elim h
  |_=>exact bT.elim h
theorem uV (C:FmOK c)(ha:Į T.X as xs)(h:dw f as T.H Q):ĥ c ρ T (call (iT f) xs) VV E Q:=match f,h with
 |0,h=>UK ha h
 |1,h=>UF ha h
 |2,h=>UH C ha h
 |3,h=>UI C ha h
 |4,h=>UL ha h
 |5,h=>bT.elim h
 |6,h=>UG ha h
 |7,h=>UE ha h
 |8,h=>UD ha h
 |9,h=>UJ C ha h
 |_+10,h=>bT.elim h
end
section
variable {β γ:Type} {c:Fm} {ρ:Loc} {T:Sx} {X:Gh} {v a w:V} {x y:Value} {as vs Ve:List V} {xs ys:List Value} {n i m tk k:Nat} {p q L:Addr} {Q:QT} {E:Ĩ} {h:Heap} {f:Obj->Obj} {o:Obj}
theorem Ns.up {m:Str->Option Value}(ne:p≠L)(hn:h.Ns L m):(h.update p f).Ns L m:=by
 obtain⟨o,es,ep,e,r⟩:=hn
 exact⟨o,es,ep,(ġ h f ne).trans e,r⟩
theorem fh {V₁:Gh->γ->β->Prop}{Q:γ->AH->Prop}{v:γ}{x:β}(R:Ħ c ρ T)(hi:T.H[i]? =some (some (.list vs)))(ht:T.X.θ[i]? =some (p,p))(e:T.h.get? p=some (ē xs n)){f:Array Value->Array Value}(hf:f xs.toArray=ys.toArray)(r:Į T.X Ve ys)(hb:Ve.length<=ę)(hv:V₁ T.X v x)(q:Q v (T.H.set i (some (.list Ve)))):
 ŝ c ρ T V₁ Q x {T.s with heap:=T.h.update p (Obj.mapSeq f),toks:=tk}:=by
 have q1:=ÄS e f
 rw[hf] at q1
 exact .mk (R.turn hi ht (λe _ ne=>(ġ _ _ ne.symm).trans e) (λm hm=>Ns.up (λz=>oM (R.obj hi ht).1 (z▸R.ownL)) hm) (.list hb q1 r)) hv q
variable (R:Ħ c ρ T) (hi:T.H[i]? =some (some (.list vs))) (ht:T.X.θ[i]? =some (p,p)) (b:vs.length<=ę) (e:T.h.get? p=some (ē xs n)) (r:Į T.X vs xs)
include R hi ht b e r
theorem Ff (hy:VR T.X a y)(h:vs.length<ę∧Q .none (T.H.set i (some (.list (vs++[a]))))):wpAny M0 c.A (call (.builtin "list.append") [.ref p,y]) (ŝ c ρ T VV Q) (λe s'=>dJ c ρ T E s' e) T.s:=
 qe jG ⟨_,e,rfl⟩ Kl (G3 _ _) (G4 p xs.toArray n y (r.sz▸ŉ b)) ⟨e,fh (tk:=T.s.toks) R hi ht e (ys:=xs++[y]) (vw _ _) (r.append (.cons hy .nil)) (by rw[Ã];exact h.1) .none h.2⟩
theorem T7 (h:sq vs.getLast? λx=>Q x (T.H.set i (some (.list vs.dropLast)))):wpAny M0 c.A (call (.builtin "list.pop") [.ref p]) (ŝ c ρ T VV Q) (λe s'=>dJ c ρ T E s' e) T.s:=by
 obtain⟨v,hv,h⟩:=ba h
 rcases Vb xs with q|⟨q,x,e0⟩
 ·have hv0:vs=[]:=Ķ (r.length.trans (È List.length q))
  rw[hv0] at hv;exact nS hv
 ·rw[Vc] at e0
  subst e0
  have hl:vs.length=q.length+1:=r.length.trans Ã
  have Md:(q++[x]).toArray.size-1=q.length:=È (·-1) (Č.trans Ã)
  have hd:=r.take q.length
  rw[oo] at hd
  rw[Ko,hl] at hv
  obtain⟨x',h1,h2⟩:=r.get hv
  have h1:(q++[x])[q.length]? =some x':=h1
  rw[ŭ] at h1
  rw[←Ä h1] at h2
  rw[List.dropLast_eq_take,hl] at h
  refine qe U5 ⟨_,e,rfl⟩ PySem.F.entry_list_pop (PySem.F.args_list_pop_1 _) (PySem.MeetsSeq.list_pop_last p _ n x (by rw[Md,Ė];exact ŭ) (r.sz▸ŉ b)) ⟨e,?_⟩
  exact fh (tk:=T.s.toks) R hi ht e (ys:=q) (by rw[Md,kl_erase,à]) hd (by rw[ű];exact À (ÄT _ _) b) h2 h
theorem T6 (h:Q .none (T.H.set i (some (.list vs.reverse)))):wpAny M0 c.A (call (.builtin "list.reverse") [.ref p]) (ŝ c ρ T VV Q) (λe s'=>dJ c ρ T E s' e) T.s:=
 qe Kk ⟨_,e,rfl⟩ PySem.F.entry_list_reverse (PySem.F.args_list_reverse_1 _) (AutoSeq1.list_reverse_list_0 p _ n (r.sz▸ŉ b)) ⟨e,fh (tk:=T.s.toks) R hi ht e (ys:=xs.reverse) List.reverse_toArray r.reverse (by rw[aA];exact b) .none h⟩
theorem T8 {us:List V}{zs:List Value}{n2:Nat}(f1:T.h.get? q=some (ē zs n2))(r2:Į T.X us zs)(h:vs.length+us.length<=ę∧Q .none (T.H.set i (some (.list (vs++us))))):wpAny M0 c.A (call (.builtin "list.extend") [.ref p,.ref q]) (ŝ c ρ T VV Q) (λe s'=>dJ c ρ T E s' e) T.s:=by
 have hz:xs.toArray.size+zs.toArray.size<=sizeLine:=by rw[←r.sz,←r2.sz];exact ŉ h.1
 refine qe LS ⟨_,e,rfl⟩ PySem.F.entry_list_extend (PySem.F.args_list_extend_2 _ _) (AutoSeq1.list_extend_list_list_0 p xs.toArray n q zs.toArray n2 ?_ (r.sz▸ŉ b) (aj hz)) ⟨e,f1,fh (tk:=T.s.toks) R hi ht e (ys:=xs++zs) (ck _ _) (r.append r2) (by rw[Ã];exact h.1) .none h.2⟩
 unfold Builtin.List.listTooLong
 rw[be (Ł.mpr hz),ī];exact ó
omit hi ht b e r R
theorem Fh (hp:VR T.X (.obj i) x)(ha:Į T.X as ys)(h:oj m i as T.H Q):ĥ c ρ T (call (.builtin ("list." ++fU m)) (x::ys)) VV E Q:=λR=>by
 unfold oj at h
 obtain⟨vs,hi,h⟩:=lW (K:=λvs=>lmV m i vs as T.H Q) h
 refine R.lst hp rfl hi λp xs n ht _ b e r=> ?_
 match m,h with
 |0,h=>exact yg (P:=λys=>wpAny M0 c.A (call (.builtin "list.append") (.ref p::ys)) _ _ T.s) id ha (show a1 False as (λv=>vs.length<ę∧Q .none (T.H.set i (some (.list (vs++[v]))))) from h) λa y hy h=>Ff R hi ht b e r hy h
 |6,h=>cases as with
  |nil=>exact ha.on (P:=λys=>wpAny M0 c.A (call (.builtin "list.pop") (.ref p::ys)) _ _ T.s) (T7 R hi ht b e r h)
  |cons=>exact False.elim h
 |7,h=>cases as with
  |nil=>exact ha.on (P:=λys=>wpAny M0 c.A (call (.builtin "list.reverse") (.ref p::ys)) _ _ T.s) (T6 R hi ht b e r h)
  |cons=>exact False.elim h
 |8,h=>
  exact yg (P:=λys=>wpAny M0 c.A (call (.builtin "list.extend") (.ref p::ys)) _ _ T.s) id ha (show a1 False as (λa=>match a with
   | .lst l=>vs.length+l.length<=ę∧Q .none (T.H.set i (some (.list (vs++l))))
   |_=>False) from h) λa y hy h=>by
   obtain⟨l,ea,h⟩:=io h
   rw[ea] at hy
   exact hy.on λq zs n2 _ f1 r2=>T8 R hi ht b e r (R.still f1) r2 h
 |1,h=>exact h.elim
 |2,h=>exact h.elim
 |3,h=>exact h.elim
 |4,h=>exact h.elim
 |5,h=>exact h.elim
 |_+9,h=>exact h.elim
theorem Tks.at {ss:List (List Nat)}(h:Tks Hj ss xs):∀{j:Nat} {l:List Nat},ss[j]? =some l->∃t,xs[j]? =some (.str (ĝ l) t):=by
 induction h with
 |nil=>exact λe=>nS e
 |cons _ ih=>
  intro j l e
  cases j with
  |zero=>exact⟨_,È some (È (λl=>Value.str (ĝ l) _) (Ä e))⟩
  |succ j=>exact ih e
theorem Tks.len {α:Type}{f:α->Tok->Value}{ss:List α}(h:Tks f ss xs):ss.length=xs.length:=by
 induction h with
 |nil=>rfl
 |cons _ ih=>exact È (·+1) ih
theorem uZ (hp:VR T.X (.lst vs) x)(hx:VR T.X v y)(h:vS vs v T.H Q):ĥ c ρ T (call (.builtin "list.index") [x,y]) VV E Q:=λR=>by
 unfold vS at h
 obtain⟨k,e,hq⟩:=ba h
 clear h
 cases v with
 |str kk=>
  replace e:(match b7 vs with|some ss=>if ss.contains kk then some (ss.findIdx (·==kk)) else none|none=>none)=some k:=e
  cases hs:b7 vs with
  |none=>rw[hs] at e;exact nS e
  |some ss=>
   rw[hs] at e
   dsimp only at e
   by_cases hc:ss.contains kk=true
   ·rw[Î hc] at e
    have e:=Ä e
    refine hp.on λb zs n hb f r=>hx.on λt _=> ?_
    have hk:=mX r _ hs
    have hlen:ss.length=zs.toArray.size:=hk.len.trans Č.symm
    have hj:ss.findIdx (·==kk)<ss.length:=List.findIdx_lt_length.mpr ⟨kk,â.mp hc,ô _⟩
    have at_:∀(j:Nat) (h:j<zs.toArray.size),∃l tt,ss[j]? =some l∧zs.toArray[j]= .str (ĝ l) tt:=λj h=>by
     obtain⟨tt,q⟩:=hk.at (Ç (hlen▸h))
     exact⟨_,tt,Ç (hlen▸h),Ä ((i9 h).symm.trans (Ė.trans q))⟩
    rw[e] at hj
    refine qe Qs ⟨_,R.still f,rfl⟩ PySem.F.entry_list_index (PySem.F.args_list_index_2 _ _)
     (list_indexAt b zs.toArray n none #[] (.str (ĝ kk) t) (λy=>Value.isStrOf (ĝ kk) y) k (hlen▸hj) (Rb (ï.mpr (æ hj (À (ð hlen) (r.sz▸hb)))) (by decide)) ?_ λm hm jD=> ?_) ⟨R.still f,λy hy=> ?_,fin R _ (.int _ _) hq⟩
    ·obtain⟨l,tt,q1,q2⟩:=at_ k (hlen▸hj)
     rw[q2]
     show (ĝ l==ĝ kk)=true
     rw[dS,←Ä ((Ç hj).symm.trans q1)]
     subst e
     exact List.findIdx_getElem (p:=(·==kk)) (w:=hj)
    ·obtain⟨l,tt,q1,q2⟩:=at_ m hm
     rw[q2]
     show (ĝ l==ĝ kk)=false
     subst e
     have:=List.not_of_lt_findIdx jD
     rw[dS,←Ä ((Ç (hlen▸hm)).symm.trans q1)]
     exact Äm.mpr λz=>Bool.noConfusion (z.symm.trans this)
    ·obtain⟨j,j9,e⟩:=Array.mem_iff_getElem.mp hy
     obtain⟨l,tt,_,q⟩:=at_ j j9
     rw[←e,q]
     exact EqAt.str_str _ _ _ _
   ·rw[Ñ hc] at e;exact nS e
 |_=>exact nS e
end
end
section
open PySem PySem.W PyProof.Rows PySem.Calls PySem.StrLaws PySem.Builtin.Str
set_option backward.match.sparseCases false
section
variable {l p:List Nat} {i n k f:Nat}
theorem Vi {l:List Nat}:p.isPrefixOf l=true↔p <+: l:=Ż
theorem Ed:At (ĝ l) (ĝ p) (ĝ l).length i↔i+p.length<=l.length∧p <+: l.drop i:=by
 have e1:l.toArray.extract i (i+p.length)=((l.drop i).take p.length).toArray:=by rw[WN,Kp,aE]
 unfold At subAt
 rw[ů,ů]
 show _∧(l.toArray.extract i (i+p.toArray.size)==p.toArray)=true↔_
 rw[Č,e1,è,Qw]
 exact and_congr_right λ_=>⟨λh=>(È Array.toList h).symm,λh=>È List.toArray h.symm⟩
theorem wM (hp:p≠[]):At (ĝ l) (ĝ p) (ĝ l).length i↔p <+: l.drop i:=Ed.trans ⟨And.right,λh=>⟨by
 have h2:=h.length_le
 rw[ã] at h2
 rcases Ŝ i l.length with z|z
 ·exact ą _ _▸oy (í z) h2
 ·rw[Ŭ z] at h
  exact absurd (BN.mp h) hp,h⟩⟩
def FF (p l:List Nat):Option Nat->Prop
 |none=>∀i,¬p <+: l.drop i
 |some k=>p <+: l.drop k∧∀i,i<k->¬p <+: l.drop i
theorem ff (hp:p≠[]):∀{f:Nat} {l:List Nat},l.length<f->FF p l (ü p l f)
 |0,_,h=>absurd h (bf _)
 |f+1,l,h=>by
  by_cases q:p.isPrefixOf l=true
  ·rw[show ü p l (f+1)=some 0 from by cases l<;>exact Î q]
   exact⟨Vi.mp q,λi h=>absurd h (bf _)⟩
  ·cases l with
   |nil=>
    rw[show ü p [] (f+1)=none from Ñ q]
    exact λi z=>hp (BN.mp (LM▸z))
   |cons a r=>
    have ih:=ff hp (l:=r) (ı h)
    rw[show ü p (a::r) (f+1)=(ü p r f).map (·+1) from Ñ q]
    cases e:ü p r f with
    |none=>
     rw[e] at ih
     exact λi z=>by
      cases i with
      |zero=>exact q (Vi.mpr z)
      |succ i=>exact ih i z
    |some k=>
     rw[e] at ih
     refine⟨ih.1,λi hi z=> ?_⟩
     cases i with
     |zero=>exact q (Vi.mpr z)
     |succ i=>exact ih.2 i (ı hi) z
theorem F0 (hp:p≠[]):Txt.find3 (ĝ l) (ĝ p) (n:Int)=mA p l n:=by
 have hfi:fromIndex (ĝ l).length (n:Int)=n:=by
  unfold fromIndex
  rw[MG,Ñ (Ť.mpr (ł n))];rfl
 unfold Txt.find3 mA
 rw[hfi]
 have no:∀k,n<=k->p <+: l.drop k->∃i,k=n+i∧p <+: (l.drop n).drop i:=λk h q=>⟨k-n,(qf h).symm,by rw[iG,qf h];exact q⟩
 rcases occ_head_from (ĝ l) (ĝ p) n 1 (Å 1) with ⟨h0,hn⟩|⟨k,r,h0,KB,hk,hn⟩
 ·rw[h0]
  dsimp only
  by_cases QN:l.length<n
  ·rw[Î QN]
  ·rw[Ñ QN]
   have h:=ff hp (f:=l.length+1-n) (l:=l.drop n) (by rw[ã];exact WH (Ł.mp QN) (é _))
   cases e:ü p (l.drop n) (l.length+1-n) with
   |none=>rfl
   |some k=>
    rw[e] at h
    exact absurd ((wM hp).mpr (iG▸h.1)) (hn (n+k) (Ï _ _))
 ·rw[h0]
  dsimp only
  have hk:=(wM hp).mp hk
  have QN:¬l.length<n:=λz=>by
   rw[Ŭ (À (í z) KB)] at hk
   exact hp (BN.mp hk)
  rw[Ñ QN]
  have h:=ff hp (f:=l.length+1-n) (l:=l.drop n) (by rw[ã];exact WH (Ł.mp QN) (é _))
  obtain⟨i,ei,hi⟩:=no k KB hk
  cases e:ü p (l.drop n) (l.length+1-n) with
  |none=>rw[e] at h;exact absurd hi (h i)
  |some j=>
   rw[e] at h
   have hj:p <+: l.drop (n+j):=iG▸h.1
   rw[ei] at hn⊢
   rcases Äh i j with z|z|z
   ·exact absurd hi (h.2 i z)
   ·rw[z]
   ·exact absurd ((wM hp).mpr hj) (hn _ (Ï _ _) (Nat.add_lt_add_left z n))
theorem rP {α:Type}(p:α->Bool)(l:List α):l.drop (l.takeWhile p).length=l.dropWhile p:=by
 induction l with
 |nil=>rfl
 |cons a r ih=>
  rw[List.takeWhile_cons,aB]
  cases p a with
  |true=>exact ih
  |false=>rfl
theorem Eo {α:Type}(p:α->Bool)(l:List α):l.take (l.length-(l.reverse.takeWhile p).length)=(l.reverse.dropWhile p).reverse:=by
 rw[←rP,List.drop_reverse,WK]
theorem Ij (l:List Nat)(i j:Nat):strSub (ĝ l) i j=ĝ ((l.drop i).take (j-i)):=È Str.mk ((WN ..).trans (È List.toArray Kp))
theorem tU (vT:Nat->Bool)(lf:Bool)(l:List Nat):Txt.stripBy vT lf true (ĝ l)=ĝ (((if lf then l.dropWhile vT else l).reverse.dropWhile vT).reverse):=by
 have hi:∀k,stripHi vT true (ĝ l) k=l.length-((l.drop k).reverse.takeWhile vT).length:=λk=>by
  show (ĝ l).length-_=_
  rw[ů];rfl
 rw[PyProof.Rows.stripBy_eq,Ij,hi,←Eo]
 cases lf with
 |false=>rfl
 |true=>
  show ĝ ((l.drop (l.takeWhile vT).length).take _)=_
  rw[rP,lJ,←rP vT l,ã,Nat.sub_right_comm];rfl
theorem A0 (sep:List Nat)(r:List (List Nat)):∀a:List Nat,((r.map ĝ).foldl (λacc p=>acc++(ĝ sep).cps++p.cps) a.toArray)=(r.foldl (λacc p=>acc++sep++p) a).toArray:=by
 induction r with
 |nil=>exact λ_=>rfl
 |cons x r ih=>exact λa=>(È (λz=>(r.map ĝ).foldl (λacc p=>acc++(ĝ sep).cps++p.cps) z) ((È (·++x.toArray) (ck _ _)).trans (ck _ _))).trans (ih (a++sep++x))
theorem xk (sep:List Nat)(r:List (List Nat)):∀a:List Nat,ø sep (a::r)=r.foldl (λacc p=>acc++sep++p) a:=by
 induction r with
 |nil=>exact λ_=>rfl
 |cons x r ih=>
  intro a
  rw[ah,←ih]
  cases r with
  |nil=>rfl
  |cons y r=>
   show a++sep++(x++sep++ø sep (y::r))=a++sep++x++sep++ø sep (y::r)
   rw[Æ x,←Æ (a++sep) x,←Æ (a++sep++x)]
theorem FE (sep:List Nat)(ss:List (List Nat)):Txt.join (ĝ sep) (ss.map ĝ)=ĝ (ø sep ss):=by
 cases ss with
 |nil=>rfl
 |cons a r=>
  rw[xk]
  exact È Str.mk (A0 sep r a)
theorem pS (sep:List Nat):∀ss:List (List Nat),(ø sep ss).length<=(ss.map List.length).sum+sep.length*ss.length
 |[]=>ý _
 |[a]=>À (Å a.length) (Ï _ _)
 |a::b::r=>by
  have:=pS sep (b::r)
  rw[Ċ,vn,ß,List.sum_cons]
  show (a++sep++ø sep (b::r)).length<=_
  rw[Ã,Ã]
  exact À (Ý this _) (ð (by rw[Nat.add_add_add_comm,ą sep.length]))
theorem Nn {ss:List (List Nat)}{xs:List Value}(h:Tks Hj ss xs):∃l:List (Str×Tok),strValues l=xs∧l.map (·.1)=ss.map ĝ:=by
 induction h with
 |nil=>exact⟨[],rfl,rfl⟩
 | @cons a t _ _ _ ih=>
   obtain⟨l,h1,h2⟩:=ih
   exact⟨(ĝ a,t)::l,È (_::·) h1,È (_::·) h2⟩
theorem j4 (p:List Nat):(ĝ p).cps.contains=λc=>p.contains c:=funext λc=>List.contains_toArray
end
section
variable {c:Fm} {ρ:Loc} {T:Sx} {a:V} {x y:Value} {as vs:List V} {xs ys:List Value} {m:Nat} {l p:List Nat} {t u v:Tok} {Q:QT} {E:Ĩ} {Φ:Ď}
theorem DU {α:Type}(f:α->Bool)(l:List α):(l.dropWhile f).length<=l.length:=(List.dropWhile_sublist _).length_le
theorem Da (f:Nat->Bool)(l:List Nat):((l.reverse.dropWhile f).reverse).length<=l.length:=by
 rw[aA]
 exact À (DU f _) (ð aA)
theorem Ol (hb:l.length<=ę)(hy:VR T.X a y)(h:eS l a T.H Q):ĥ c ρ T (call (.builtin "str.join") [.str (ĝ l) t,y]) VV E Q:=λR=>by
 unfold eS at h
 obtain⟨vs,e1,h⟩:=io h
 cases e2:b7 vs with
 |none=>rw[e2] at h;exact h.elim
 |some ss=>
  rw[e2] at h
  refine R.toWd.seeL hy e1 λb zs n f r hb=> ?_
  obtain⟨l',h1,h2⟩:=Nn (mX r _ e2)
  refine SC.join (l:=l') (texts:=ss.map ĝ) (by rw[h1];exact Ř f) h2 (joinOk_of ?_) λt' k=>fin R _ ?_ h.2
  ·rw[õ,Â,ů,Nat.mul_comm,show (λx:Str=>x.length)∘ĝ=List.length from funext ů]
   exact À h.1 (by decide)
  ·rw[FE]
   exact .str (À (pS l ss) h.1) _
theorem AC:Txt.startswith (ĝ l) (ĝ p)=p.isPrefixOf l:=by
 have q:=Ed (l:=l) (p:=p) (i:=0)
 rw[cQ,Vi]
 refine ((by rw[Txt.startswith,Ð,ċ];exact Iff.rfl:Txt.startswith (ĝ l) (ĝ p)=true↔At (ĝ l) (ĝ p) (ĝ l).length 0).trans q).trans ⟨And.right,λh=>⟨by rw[Ľ];exact h.length_le,h⟩⟩
def s1L (as:List V)(K:List Nat->Prop):Prop:=match as with
 |[.str p]=>K p
 |_=>bT
theorem WV {K:List Nat->Prop}{t:Value}{id:String}(ha:Į T.X as ys)(h:s1L as K)(k:∀p u,K p->ĥ c ρ T (call (.builtin id) [t,.str (ĝ p) u]) VV E Q):ĥ c ρ T (call (.builtin id) (t::ys)) VV E Q:=by
 cases as with
 |nil=>exact bT.elim h
 |cons a r=>cases a with
  |str p=>cases r with
   |nil=>exact ha.one (P:=λys=>ĥ c ρ T (call (.builtin id) (t::ys)) VV E Q) λx hx=>hx.on λu _=>k p u h
   |cons=>exact bT.elim h
  |_=>exact bT.elim h
theorem m_find {i:Int}(hb:l.length<=ę)(h:lu l p i T.H Q):ĥ c ρ T (call (.builtin "str.find") [.str (ĝ l) t,.str (ĝ p) u,.int i v]) VV E Q:=λR=>by
 unfold lu at h
 obtain⟨h1,h2,h3,h4⟩:=h
 obtain⟨n,e⟩:=aF h1
 subst e
 exact SC.find3 (fin R _ (F0 h3▸ .int _ _) h4)
theorem EF (hp:VR T.X (.str l) x)(ha:Į T.X as ys)(h:G8 Φ E m (.str l) Q .str as T.H):ĥ c ρ T (call (.builtin ("str." ++fU m)) (x::ys)) VV E Q:=hp.on λt b=>by
 have Md:(ĝ l).length<=sizeLine:=ů l▸ŉ b
 match m,h with
 |1,h=>exact yg (P:=λys=>ĥ c ρ T (call (.builtin "str.join") (.str (ĝ l) t::ys)) VV E Q) nbT ha (show a1 bT as (λa=>eS l a T.H Q) from h) λa y hy h=>Ol b hy h
 |2,h=>exact WV (id:="str.startswith") (K:=λp=>Q (.bool (p.isPrefixOf l)) T.H) ha h λp u h R=>SC.startswith (fin0 R (AC▸ .bool _) h)
 |3,h=>exact WV (id:="str.rstrip") (K:=λp=>Q (.str (aH p l)) T.H) ha h λp u h R=>SC.rstripChars (λt' k=>fin R _ (by rw[Txt.rstripChars,tU,j4];exact .str (À (Da _ _) b) _) h) Md
 |4,h=>exact WV (id:="str.strip") (K:=λp=>Q (.str (aH p (fH p l))) T.H) ha h λp u h R=>SC.stripChars (λt' k=>fin R _ (by rw[Txt.stripChars,tU,j4];exact .str (À (Da _ _) (À (DU _ _) b)) _) h) Md
 |5,h=>cases as with
  |nil=>exact bT.elim h
  |cons a r=>cases a with
   |str p=>cases r with
    |nil=>exact bT.elim h
    |cons a r=>cases a with
     |int i=>cases r with
      |nil=>exact ha.two (P:=λys=>ĥ c ρ T (call (.builtin "str.find") (.str (ĝ l) t::ys)) VV E Q) λx y hx hy=>hx.on (P:=λx=>ĥ c ρ T (call (.builtin "str.find") [.str (ĝ l) t,x,y]) VV E Q) λu _=>hy.on λw=>m_find b h
      |cons=>exact bT.elim h
     |_=>exact bT.elim h
   |_=>exact bT.elim h
 |0,h=>exact bT.elim h
 |_+6,h=>exact bT.elim h
end
end
section
open PySem PySem.W PyProof.Rows PySem.Calls PySem.SeqAt
set_option backward.match.sparseCases false
section
variable {c:Fm} {ρ:Loc} {T:Sx} {X:Gh} {v w a o:V} {x y z:Value} {vs:List V} {xs:List Value} {i j k n:Nat} {p:Addr} {t:Tok} {Q:AH->Prop} {E:Ĩ} {l:List (List Nat×V)} {es:List DictEntry} {kk:List Nat} {A:Around}
@[elab_as_elim] theorem Wd.dct {P:Value->Prop}(W:Wd T)(h:VR T.X (.obj i) x)(hi:T.H[i]? =some (some (.dict l)))(k:∀a es n,T.X.θ[i]? =some (a,a)->T.X.r a= .live i->(a==sysModules)=false->T.h.get? a=some (dictOf es n)->DR T.X l es->P (.ref a)):P x:=
  h.on λa d ht=>(W.obj hi ht).2.on (P:=λt=>T.X.θ[i]? =some t->T.X.r t.2= .live i->P (.ref t.1)) (λa es n b e r h l=>k a es n h l b e r) ht (W.obj hi ht).1
theorem r6 (r:DR X l es):(es.toArray.findIdx? λe=>(strKind pw cx.w).is (ĝ kk) e.key)=es.findIdx? (λx=>x.key.isStr (ĝ kk)):=by
 rw[List.findIdx?_toArray]
 exact r.ind rfl λ{k' _ t' _ _ _} a r ih=>by
  rw[Á5,Á5,ih];rfl
theorem wY {prog:Program}{w:World}{A:Around}{E:Value->Shared->Prop}{s:Shared}{l:Addr}{items:Array Value}{n:Nat}{k:Int}{j:Nat}{t:Tok}{v:Value}{Q:Unit->Shared->Prop}(hl:s.heap.IsList l items)(QM:s.heap.get? l=some {cls:= .type "list",data:= .seq items n})
 (h0:0<=k) (Y5:k<2^63) (hk:k=j) (hj:j<items.size) (hQ:Q () {s with heap:=s.heap.update l (Obj.mapSeq (·.setIfInBounds j v))}):wpAny (model prog w) A (setItem (.ref l) (.int k t) v) Q E s:=by
 unfold setItem
 try with_reducible refine ä ?_
 first|refine Á (Ê ?_)|skip
 refine Á (wpAny_sequenceKey hl.typeIs (by decide) ?_)
 refine Á (ey (name:=Str.ofString "__setitem__") hl.typeIs slot_list_setitem
  (bc slot_list_setitem hl.typeIs entry_list_setitem ?_ (args_list_setitem _ _ _)))
 show wpAny _ _ (Builtin.List.listSubscript? (.int k t) >>= _) _ _ s
 refine Á (wpAny_listSubscript_int (fitsIndex_of h0 Y5) ?_)
 subst hk
 show wpAny _ _ ((seqItemAt l j >>= λr=>pure (r.map (j,·))) >>= _) _ _ s
 refine Á (Á (wpAny_seqItemAt QM rfl (Ê ?_)))
 rw[i9 hj]
 show wpAny _ _ (setSeqItemAt l j v >>= _) _ _ s
 refine Á (wpAny_setSeqItemAt QM rfl ?_)
 first
  |exact Á (Ê (Ê ⟨.none,rfl,Ê hQ⟩))
  |exact Ê ⟨.none,rfl,Ê hQ⟩
theorem of_eq {Q1:List DictEntry}(e:Q1=es)(r:DR X l es):DR X l Q1:=e▸r
theorem pY {f:Obj->Obj}{Q1:List DictEntry}{n' tk:Nat}(R:Ħ c ρ T)(hj:T.H[j]? =some (some (.dict l)))(ht:T.X.θ[j]? =some (p,p))(ns:(p==sysModules)=false)(e:T.h.get? p=some (dictOf es n))(hf:f (dictOf es n)=dictOf Q1 n')(r:DR T.X (iP kk v l) Q1)(h:Q (T.H.set j (some (.dict (iP kk v l))))):
 ŝ c ρ T VU (PQ Q) () {T.s with heap:=T.h.update p f,toks:=tk}:=by
 have q1:=ă f e (by rw[hf];rfl)
 rw[hf] at q1
 exact .mk (v:=()) (R.turn hj ht (λe _ ne=>(ġ _ _ ne.symm).trans e) (λm hm=>Ns.up (λz=>oM (R.obj hj ht).1 (z▸R.ownL)) hm) (.dict ns q1 r)) trivial h
theorem Ia (R:Ħ c ρ T)(hj:T.H[j]? =some (some (.dict l)))(ht:T.X.θ[j]? =some (p,p))(ns:(p==sysModules)=false)(e:T.h.get? p=some (dictOf es n))(r:DR T.X l es)(hv:VR T.X v z)(hz:l.length<=ę)(h:Q (T.H.set j (some (.dict (iP kk v l))))):
 wpAny M0 c.A (setItem (.ref p) (.str (ĝ kk) t) z) (ŝ c ρ T VU (PQ Q)) (λe s'=>dJ c ρ T E s' e) T.s:=by
 have hT:=(hO e r).typeIs (s:=T.s)
 have pl:=putL_find (ĝ kk) (PyData.keyHash cx.w.params (ĝ kk)) (.str (ĝ kk) t) z es
 have rp:=r.put (k:=kk) (t:=t) hv
 unfold setItem
 try with_reducible refine ä ?_
 refine Á (wpAny_sequenceKey hT (by decide) ?_)
 refine Á (ey (name:=Str.ofString "__setitem__") hT slot_dict_setitem
  (bc slot_dict_setitem hT entry_dict_setitem ?_ (args_dict_setitem _ _ _)))
 show wpAny _ _ (Builtin.Dict.notOrdered "__setitem__" ⟨[.ref p,.str (ĝ kk) t,z],[]⟩ >>= _) _ _ T.s
 refine Á (wpAny_notOrdered_dict hT ?_)
 show wpAny _ _ (dictSet p (.str (ĝ kk) t) z >>= _) _ _ T.s
 refine Á ?_
 unfold dictSet
 try with_reducible refine ä ?_
 refine Á ((strKind pw cx.w).pyHash (gx pw cx.w (ĝ kk) t) ?_)
 unfold dictSetHashed
 try with_reducible refine ä ?_
 refine Á (wpAny_dictFind_of (s:={T.s with toks:=T.s.toks+1}) (gx pw cx.w (ĝ kk) t) e rfl (λx hx=> ?_) ?_)
 ·obtain⟨a1,a2,a3,a4⟩:=r.keys x (eE.mp hx)
  exact⟨a1,a3▸gx pw cx.w a1 a2,a4⟩
 rw[r6 r]
 cases q:es.findIdx? (λx=>x.key.isStr (ĝ kk)) with
 |some i=>
  rw[q] at pl
  exact Á (BI (Á (wpAny_updateDict (s:={T.s with toks:=T.s.toks+1}) e rfl (wpAny_point (Ê ⟨.none,rfl,Ê (pY (n':=n) R hj ht ns e (È (λa=>({cls:= .type "dict",data:= .dict a n}:Obj)) (List.modify_toArray ..)) (of_eq pl rp) h)⟩)))))
 |none=>
  rw[q] at pl
  exact Á (BI (wpAny_updateDictKeys (hz:=À (ð (Č.trans r.len.symm)) (ŉ hz)) (s:={T.s with toks:=T.s.toks+1}) e rfl (Ê ⟨.none,rfl,Ê (pY (n':=n+1) R hj ht ns e (È (λa=>({cls:= .type "dict",data:= .dict a (n+1)}:Obj)) (vw ..)) (of_eq pl rp) h)⟩)))
theorem H8 (R:Ħ c ρ T)(hj:T.H[j]? =some (some (.list vs)))(ht:T.X.θ[j]? =some (p,p))(b:vs.length<=ę)(e:T.h.get? p=some (ē xs n))(r:Į T.X vs xs)(hi:VR T.X a y)(hv:VR T.X v z)(h:Vj a λi=>sq (cS i vs.length) λk=>0<=i∧Q (T.H.set j (some (.list (vs.set k v))))):
 wpAny M0 c.A (setItem (.ref p) y z) (ŝ c ρ T VU (PQ Q)) (λe s'=>dJ c ρ T E s' e) T.s:=by
 obtain⟨i,ea,h⟩:=yS h
 obtain⟨k,hk,h0,h⟩:=ba h
 obtain⟨i,ei⟩:=aF h0
 subst ea ei
 obtain⟨_,h2,_,h4⟩:=dX hk b
 have h4:i=k:=by rw[Ñ (Ť.mpr h0)] at h4;exact h4
 subst h4
 have jD:i<vs.length:=by
  unfold cS at hk
  dsimp only at hk
  rw[Ñ (Ť.mpr h0)] at hk
  by_cases q:0<=(i:Int)∧(i:Int)<vs.length
  ·exact ï.mp q.2
  ·rw[Ñ q] at hk;exact nS hk
 exact hi.on λt=>wY (Ř e) e h0 h2 rfl (r.sz▸jD) (fh (v:=()) (V₁:=VU) (tk:=T.s.toks) R hj ht e (ys:=xs.set i z) (List.setIfInBounds_toArray ..) (Į.set hv r i) (by rw[Ġ];exact b) trivial h)
theorem Ig (ho:VR T.X o x)(hi:VR T.X a y)(hv:VR T.X v z)(h:ll o a v T.H Q):ĥ c ρ T (setItem x y z) VU E (PQ Q):=λR=>by
 unfold ll at h
 cases o with
 |obj j=>
  replace h:K3 j a v T.H Q T.H[j]? :=h
  cases hj:T.H[j]? with
  |none=>rw[hj] at h;exact h.elim
  |some o=>cases o with
   |none=>rw[hj] at h;exact h.elim
   |some o=>
    rw[hj] at h
    cases o with
    |list=>exact R.lst ho rfl hj λp xs n ht _ b e r=>H8 R hj ht b e r hi hv h
    |dict=>cases a with
     |str=>exact hi.on λt _=>R.toWd.dct ho hj λp es n ht _ ns e r=>Ia R hj ht ns e r hv h.1 h.2
     |_=>exact h.elim
    |_=>exact h.elim
 |_=>exact h.elim
end
abbrev SE (Φ:Ď)(c:Fm)(e:PE)(x:Expr):Prop:=∀{T:Sx} {ρ:Loc} {E:Ĩ} {Q:QT},bA Φ e ρ E T.H Q->ĥ c ρ T (eval x c.env) VV E Q
abbrev jK (Φ:Ď)(c:Fm)(e:PE)(x:Expr):Prop:=∀{T:Sx} {ρ:Loc} {E:Ĩ} {Q:qk},mh Φ e ρ E T.H Q->ĥ c ρ T (isTrue x c.env (eval x c.env)) VB E Q
abbrev VO:Gh->Option Int->Value->Prop:=λ_ v x=>IsPart x v
abbrev RV (Φ:Ď)(c:Fm)(e:Option PE)(x:Option Expr):Prop:=∀{T:Sx} {ρ:Loc} {E:Ĩ} {Q:Mo},WP Φ e ρ E T.H Q->ĥ c ρ T (valueOrNone (evalOpt x c.env)) VO E Q
abbrev VN (n:Nat):Gh->List V->List Value->Prop:=λX vs xs=>Į X vs xs∧vs.length=n
abbrev BG (Φ:Ď)(c:Fm)(es:List PE)(xs:List Expr):Prop:=∀{T:Sx} {ρ:Loc} {E:Ĩ} {Q:qj},oH Φ es ρ E T.H Q->ĥ c ρ T (spliced (xs.map λx=>(false,eval x c.env))) (VN es.length) E Q
structure kz (x:Expr):Prop where
 m:∀(op:CmpOp) (t:Sem Value),markedEach [op] [x] [t]=[t]
 st:∀xs env,starEach (x::xs) env=(false,eval x env)::starEach xs env
 su:Av x
 fo:∀env v,foldedSetIterable x env v=pure v
section
variable {β γ:Type} {Φ:Ď} {c:Fm} {ρ:Loc} {T:Sx} {E:Ĩ} {P Q:QT} {K:qk} {a b d e:PE} {x y z:Expr} {pos p qo sN:Pos} {op:vk} {KG:Mp} {v:V} {u:Value} {oS:Gh->γ->β->Prop} {oV:γ->AH->Prop} {es:List PE} {xs:List Expr} {k:Nat}
theorem ĥ.bind2 {s t:Sem Value}{f:Value->Value->Sem β}{P₂:V->QT}(h:ĥ c ρ T s VV E P)(g:∀T₁ v,P v T₁.H->ĥ c ρ T₁ t VV E (P₂ v))(k:∀cJ v u w z,VR cJ.X v u->VR cJ.X w z->P₂ v w cJ.H->ĥ c ρ cJ (f u z) oS E oV):ĥ c ρ T (s >>= λu=>holding [u] t >>= f u) oS E oV:=
 h.bind λT₁ v u _ hv q=>((g T₁ v q).hold).bind λcJ w z l hw q=>k cJ v u w z (hv.mono l) hw q
theorem pz (h:VR T.X v u)(q:bF (fB v T.H) T.H K):ĥ c ρ T (truthy u) VB E K:=λR=>(fj q).elim λ_ e=>yk R.toWd h e.1 λtk=>fin R tk rfl e.2
theorem ĥ.ift {t:Sem Bool}{f:Bool->Sem β}{A B:AH->Prop}(h:ĥ c ρ T t VB E (eI A B))(k1:∀T₁,T.X.le T₁.X->A T₁.H->ĥ c ρ T₁ (f true) oS E oV)(k0:∀T₁,T.X.le T₁.X->B T₁.H->ĥ c ρ T₁ (f false) oS E oV):ĥ c ρ T (t >>= f) oS E oV:=
 h.bind λT₁ r r' l e q=>(show r=r' from e)▸(match r,q with
  |true,q=>k1 T₁ l q
  |false,q=>k0 T₁ l q)
theorem Np {l:List Nat}(h:l.length<=1000):SE Φ c (.lit (.str l)) (.Constant (.str (ĝ l)) k p):=λq=> .eq (arm_eval_Constant ..) λR=>ÄR (fin R _ (.str (À h (by decide)) _) q)
theorem OT {i:Int}:SE Φ c (.lit (.int i)) (.Constant (.int i) k p):=λq R=>BJ (fin R _ (.int _ _) q)
theorem Ob {i:Int}:SE Φ c (.lit (.int (-i))) (.UnaryOp .USub (.Constant (.int i) k qo) p):=λq R=>wpAny_UnaryOp (BJ (neg_int (fin R _ (.int _ _) q)))
theorem Qg (ha:SE Φ c a x)(hb:SE Φ c b y):SE Φ c (.bin op a b) (.BinOp x (gM op) y pos):=λq=>
 .eq (arm_eval_BinOp ..) ((ha q).bind2 (λ_ _ q=>hb q) λ_ _ _ _ _ hv hw q=> .at_ (.op (Qh hv hw q)))
theorem zI (hs:kz y)(env:Env):eval (.Compare x [gK KG] [y] pos) env=(do
 let l←eval x env
 let rv←holding [l] (eval y env)
 standAt pos
 operate [l,rv] (compareOp (gK KG) l rv)):=by
 rw[arm_eval_Compare,arm_evalEach_cons,arm_evalEach_nil,hs.m]
 rfl
theorem uQ (hs:kz y)(env:Env)(w:Sem Value):isTrue (.Compare x [gK KG] [y] pos) env w=(do
 let l←eval x env
 let rv←holding [l] (eval y env)
 standAt pos
 let c←operate [l,rv] (compareOp (gK KG) l rv)
 holding [c] (truthy c)):=by
 rw[arm_isTrue_Compare,arm_evalEach_cons,arm_evalEach_nil,hs.m]
 rfl
theorem Pt (hs:kz y)(ha:SE Φ c a x)(hb:SE Φ c b y):SE Φ c (.cmp KG a b) (.Compare x [gK KG] [y] pos):=λq=>
 .eq (zI hs _) ((ha q).bind2 (λ_ _ q=>hb q) λ_ _ _ _ _ hv hw q=> .at_ (.op λR=>(fj q).elim λ_ h=>wH R hv hw h.1 λtk=>fin R tk (.bool _) h.2))
theorem Pr (hs:kz y)(ha:SE Φ c a x)(hb:SE Φ c b y):jK Φ c (.cmp KG a b) (.Compare x [gK KG] [y] pos):=λq=>
 .eq (uQ hs _ _) ((ha q).bind2 (λ_ _ q=>hb q) λ_ _ _ _ _ hv hw q=> .at_ λR=>(fj q).elim λ_ h=>Á (Kj (wH R hv hw h.1 λtk=>ä (GY (fin R tk rfl h.2)))))
theorem D9 {ta:Sem Value}{f:Value->Bool->Sem Value}{A B:V->AH->Prop}(ha:ĥ c ρ T ta VV E P)(hp:∀v H,P v H->bF (fB v H) H (eI (A v) (B v)))(k1:∀T₁ v u,VR T₁.X v u->A v T₁.H->ĥ c ρ T₁ (f u true) VV E Q)(k0:∀T₁ v u,VR T₁.X v u->B v T₁.H->ĥ c ρ T₁ (f u false) VV E Q):
 ĥ c ρ T (ta >>= λv=>standAt pos >>= λ_=>holding [v] (truthy v) >>= f v) VV E Q:=
 ha.bind λT₁ v u _ hv p=> .at_ ((pz hv (hp _ _ p)).hold.ift (λcJ l q=>k1 cJ v u (hv.mono l) q) λcJ l q=>k0 cJ v u (hv.mono l) q)
theorem rV {t:Sem Value}{r:List (Sem Value)}{s:Sem Value}{A:AH->Prop}(ha:ĥ c ρ T s VV E (Vq A Q))(hb:∀T₁:Sx,A T₁.H->ĥ c ρ T₁ (boolOp pos .And (t::r)) VV E Q):ĥ c ρ T (boolOp pos .And (s::t::r)) VV E Q:=
 D9 ha (λ_ _ p=>p) (λT₁ _ _ _ q=>hb T₁ q) λ_ _ _ hv q=> .pure hv q
theorem wj {t:Sem Value}{r:List (Sem Value)}{s:Sem Value}{A:AH->Prop}(ha:ĥ c ρ T s VV E (Vo A Q))(hb:∀T₁:Sx,A T₁.H->ĥ c ρ T₁ (boolOp pos .Or (t::r)) VV E Q):ĥ c ρ T (boolOp pos .Or (s::t::r)) VV E Q:=
 D9 ha (λ_ _ p=>p) (λ_ _ _ hv q=> .pure hv q) λT₁ _ _ _ q=>hb T₁ q
theorem Qp (ha:SE Φ c a x)(hb:SE Φ c b y):SE Φ c (.andE a b) (.BoolOp .And [x,y] pos):=λq=>rV (ha q) λ_ q=>hb q
theorem TQ (ha:SE Φ c a x)(hb:SE Φ c b y):SE Φ c (.orE a b) (.BoolOp .Or [x,y] pos):=λq=>wj (ha q) λ_ q=>hb q
theorem Kc (ha:SE Φ c a x)(hb:SE Φ c b y)(hd:SE Φ c d z):SE Φ c (.and3 a b d) (.BoolOp .And [x,y,z] pos):=λq=>rV (ha q) λ_ q=>rV (hb q) λ_ q=>hd q
theorem N3 (ha:SE Φ c a x)(hb:SE Φ c b y)(hd:SE Φ c d z):SE Φ c (.or3 a b d) (.BoolOp .Or [x,y,z] pos):=λq=>wj (ha q) λ_ q=>wj (hb q) λ_ q=>hd q
theorem nF {r:List Expr}{A:AH->Prop}(ha:jK Φ c a x)(q:mh Φ a ρ E T.H (eI A (K false)))(hb:∀T₁:Sx,A T₁.H->ĥ c ρ T₁ (allTrue .And r c.env) VB E K):ĥ c ρ T (allTrue .And (x::r) c.env) VB E K:=
 (ha q).ift (λT₁ _ q=>hb T₁ q) λ_ _ q=> .pure rfl q
theorem ro {r:List Expr}{A:AH->Prop}(ha:jK Φ c a x)(q:mh Φ a ρ E T.H (eI (K true) A))(hb:∀T₁:Sx,A T₁.H->ĥ c ρ T₁ (allTrue .Or r c.env) VB E K):ĥ c ρ T (allTrue .Or (x::r) c.env) VB E K:=
 (ha q).ift (λ_ _ q=> .pure rfl q) λT₁ _ q=>hb T₁ q
theorem jK.lastA (ha:jK Φ c a x)(q:mh Φ a ρ E T.H K):ĥ c ρ T (allTrue .And [x] c.env) VB E K:=(ha q).bind λ_ r r' _ e q=>(show r=r' from e)▸(match r,q with
 |true,q=> .pure rfl q
 |false,q=> .pure rfl q)
theorem jK.lastO (ha:jK Φ c a x)(q:mh Φ a ρ E T.H K):ĥ c ρ T (allTrue .Or [x] c.env) VB E K:=(ha q).bind λ_ r r' _ e q=>(show r=r' from e)▸(match r,q with
 |true,q=> .pure rfl q
 |false,q=> .pure rfl q)
theorem Qo (ha:jK Φ c a x)(hb:jK Φ c b y):jK Φ c (.andE a b) (.BoolOp .And [x,y] pos):=λq=> .eq (lQ ..) (nF ha q λ_ q=>hb.lastA q)
theorem TP (ha:jK Φ c a x)(hb:jK Φ c b y):jK Φ c (.orE a b) (.BoolOp .Or [x,y] pos):=λq=> .eq (lQ ..) (ro ha q λ_ q=>hb.lastO q)
theorem Kb (ha:jK Φ c a x)(hb:jK Φ c b y)(hd:jK Φ c d z):jK Φ c (.and3 a b d) (.BoolOp .And [x,y,z] pos):=λq=> .eq (lQ ..) (nF ha q λ_ q=>nF hb q λ_ q=>hd.lastA q)
theorem N2 (ha:jK Φ c a x)(hb:jK Φ c b y)(hd:jK Φ c d z):jK Φ c (.or3 a b d) (.BoolOp .Or [x,y,z] pos):=λq=> .eq (lQ ..) (ro ha q λ_ q=>ro hb q λ_ q=>hd.lastO q)
theorem N7 (ha:SE Φ c a x):SE Φ c (.notE a) (.UnaryOp .Not x pos):=λq=> .eq (arm_eval_UnaryOp ..) ((ha q).bind λ_ _ _ _ hv q=> .at_ (.hold λR=>not_value ((fj q).elim λ_ h=>yk R.toWd hv h.1 λtk=>fin R tk (.bool _) h.2)))
theorem N6 (ha:jK Φ c a x):jK Φ c (.notE a) (.UnaryOp .Not x pos):=λq=> .eq (arm_isTrue_UnaryOp ..) ((ha q).bind λ_ _ _ _ e q=> .pure (È not e) q)
theorem OM {t:PE}(ht:jK Φ c t x)(ha:SE Φ c a y)(hb:SE Φ c b z):SE Φ c (.ite t a b) (.IfExp x y z pos):=λq=> .eq (arm_eval_IfExp ..) ((ht q).ift (λ_ _ q=>ha q) λ_ _ q=>hb q)
theorem kA (hx:∀env w,isTrue x env w=w >>= λv=>standAt x.pos >>= λ_=>holding [v] (truthy v))(h:SE Φ c e x)(q:bA Φ e ρ E T.H (L9 K)):ĥ c ρ T (isTrue x c.env (eval x c.env)) VB E K:= .eq (hx _ _) ((h q).bind λ_ _ _ _ hv q=> .at_ (.hold (pz hv q)))
theorem rU {f:Nat}(hs:∀a env w,attributeBase x a env w=w)(he:SE Φ c e x):SE Φ c (.attr e f) (.Attribute x (bM f) pos):=λq=>
 .eq ((arm_eval_Attribute ..).trans (È (·>>= _) (hs ..))) ((he q).bind λ_ _ _ _ hv q=> .at_ λR=>Á (ä (ê (zM hv q R) (λ_ _ p=>Á (wpAny_letTemporaryGo (Ê p))) λ_ _ e=>e)))
theorem DN (hy:kz y)(ha:SE Φ c a x)(hb:SE Φ c b y):SE Φ c (.idx a b) (.Subscript x y pos):=λq=>(ha q).bind2 (f:=λo i=>standAt pos >>= λ_=>subscriptTail x y o i) (λ_ _ q=>hb q) λ_ _ _ _ _ hv hw q=> .at_ (O2 hy.su hv hw q)
theorem IP:RV Φ c none none:=λq=> .pure (v:=(none:Option Int)) .none q
theorem H7 (h:SE Φ c e x):RV Φ c (some e) (some x):=λ{T ρ E Q} q R=>ê (h q R) (λb s' k=>k.casesOn λ{X' H' v} n hv q=>by
 cases v with
 |int i=>exact .mk (v:=some i) n (hv.on λt=> .int ..) q
 |_=>exact bT.elim q) λ_ _ e=>e
theorem ĥ.bind' {Rt Rr R8:Type}{t:Sem β}{f:β->Sem Rt}{K:Rt->Sem R8}{V₁:Gh->Rr->R8->Prop}{Q:Rr->AH->Prop}(h:ĥ c ρ T t oS E oV)
 (k:∀T₁ v b,T.X.le T₁.X->oS T₁.X v b->oV v T₁.H->Ħ c ρ T₁->wpAny M0 c.A (f b) (λi s'=>wpAny M0 c.A (K i) (ŝ c ρ T₁ V₁ Q) (λe s'=>dJ c ρ T₁ E s' e) s') (λe s'=>dJ c ρ T₁ E s' e) T₁.s) (R:Ħ c ρ T):
 wpAny M0 c.A (t >>= f) (λi s'=>wpAny M0 c.A (K i) (ŝ c ρ T V₁ Q) (λe s'=>dJ c ρ T E s' e) s') (λe s'=>dJ c ρ T E s' e) T.s:=
 Á (ê (h R) (λb Ę x=>x.casesOn λ{X' H' v} n hv p=>ê (k ⟨X',H',Ę⟩ v b n.s.le hv p n.r) (λ_ _ h=>ê h (λ_ _=>ŝ.back n.s) λ_ _=>dJ.back n.s) λ_ _=>dJ.back n.s) λ_ _ e=>e)
theorem Nz {lo hi:Option PE}{el eu:Option Expr}(ha:SE Φ c a x)(hl:RV Φ c lo el)(hu:RV Φ c hi eu):SE Φ c (.slc a lo hi) (.Subscript x (.Slice el eu none p) pos):=λq=>
 (ha q).bind (f:=λo=>holding [o] (eval (.Slice el eu none p) c.env) >>= λi=>standAt pos >>= λ_=>subscriptTail x (.Slice el eu none p) o i) λT₁ v xv l₁ hv q M7=>by
  refine Á (ä ?_)
  rw[arm_eval_Slice]
  refine ĥ.bind' (hl q) (λcJ vl xl sW hvl q=>ĥ.bind' (hu q).hold λM6 vu xu YK hvu q Àl=> ?_) M7
  refine Á (ä (Ê (ŕ ?_)))
  exact Á (ò (NC ((hv.mono sW).mono YK) (hvl:IsPart xl vl) hvu q Àl))
end
theorem Ip (n:Nat):sliceRange ((n:Int)-1) (-1) (-1)=(List.range n).reverse:=by
 cases n with
 |zero=>rfl
 |succ n=>
  show (List.range (if ((n+1:Nat):Int)-1> -1 then (((n+1:Nat):Int)-1- -1- -1-1)/1 else 0).toNat).map _=_
  rw[Î (by omega),dF,show (((n+1:Nat):Int)-1- -1- -1-1)=((n+1:Nat):Int) by omega,ō]
  refine zQ (by rw[Â,aA]) λi h1 h2=> ?_
  rw[eF,Á3,List.getElem_reverse,Á3,bK]
  omega
theorem E1 (xs:List Value):slicePick xs.toArray none none (some (-1))=xs.reverse.toArray:=by
 show ((sliceRange ((xs.toArray.size:Int)-1) (-1) (-1)).filterMap (xs.toArray[·]?)).toArray=_
 rw[Ip,List.filterMap_reverse,filterMap_getElem?_range]
section
variable {β γ:Type} {Φ:Ď} {c:Fm} {ρ:Loc} {T:Sx} {E:Ĩ} {P Q:QT} {K:qk} {a b d e:PE} {x y z:Expr} {pos p qo sN:Pos} {v:V} {u:Value} {es:List PE} {xs:List Expr} {k:Nat}
noncomputable abbrev Cb (k:Nat)(p qo sN:Pos):Expr:= .Slice none none (some (.UnaryOp .USub (.Constant (.int 1) k qo) sN)) p
theorem NN {t:Tok}(hv:VR T.X v u)(q:Ag v T.H Q)(R:Ħ c ρ T):wpAny M0 c.A (subscriptTail x (Cb k p qo sN) u (.ref T.h.objs.size)) (ŝ c ρ T VV Q) (λe s'=>dJ c ρ T E s' e) {T.s with heap:=T.h.push {cls:= .type "slice",data:= .fields #[.none,.none,.int (-1) t]}}:=by
 unfold Ag at q
 obtain⟨us,e,q⟩:=io q
 refine R.toWd.seeL hv e λpa ws n il r hb=> ?_
 have RK:=Ř (s:={T.s with heap:=T.h.push {cls:= .type "slice",data:= .fields #[.none,.none,.int (-1) t]}}) (Ø _ il)
 refine tail_any (ops:=[.ref pa,.ref T.h.objs.size]) RK.typeIs lP.lookup ?_ rfl
 refine ÁZ RK (.new _ _ _ _) .none .none (.int (-1) _) (by decide) ?_ (by rw[Č,←r.length];exact ŉ hb)
 rw[E1]
 exact nq (R:=R) (o:=ē ws.reverse 0) (λX l f=> .lst (À (ð aA) hb) f (r.reverse.mono l)) q rfl
theorem NM (ha:SE Φ c a x):SE Φ c (.rev a) (.Subscript x (Cb k p qo sN) pos):=λq=>
 (ha q).bind (f:=λo=>holding [o] (eval (Cb k p qo sN) c.env) >>= λi=>standAt pos >>= λ_=>subscriptTail x (Cb k p qo sN) o i) λT₁ v xv l₁ hv q R=>by
  refine Á (ä ?_)
  rw[arm_eval_Slice]
  refine Á (Ê (Á (ä (Ê (Á (ä ?_))))))
  show wpAny _ _ (eval (.UnaryOp .USub (.Constant (.int 1) k qo) sN) c.env) _ _ _
  refine wpAny_UnaryOp (BJ (neg_int (s:={T₁.s with toks:=T₁.s.toks+1}) ?_))
  refine ŕ (Á (ò ?_))
  have n:=R.tok (tk:=T₁.s.toks+1+1)
  exact ê (NN (T:=⟨T₁.X,T₁.H,{T₁.s with toks:=T₁.s.toks+1+1}⟩) hv q n.r) (λ_ _=>ŝ.back n.s) λ_ _=>dJ.back n.s
abbrev Ns (xs:List Expr):Prop:=∀x∈xs,kz x
theorem cB {env:Env}(h:Ns xs):backTo pos (starEach xs env)=xs.map λx=>(false,eval x env):=by
 have:starEach xs env=xs.map λx=>(false,eval x env):=by
  induction xs with
  |nil=>rfl
  |cons x xs ih=>rw[(h x (.head _)).st,ih λy hy=>h y (.tail _ hy),ß]
 rw[this]
 unfold backTo
 rw[õ];rfl
theorem ry:BG Φ c [] []:=λq=> .pure (v:=[]) ⟨.nil,rfl⟩ q
theorem hU (h:SE Φ c e x)(hs:BG Φ c es xs):BG Φ c (e::es) (x::xs):=λq=>
 (h q).bind (f:=λv=>pure [v] >>= λhere=>holding here (spliced (xs.map λx=>(false,eval x c.env))) >>= λvs=>pure (here++vs)) λT₁ v b _ hv q R=>Á (Ê (((hs q).hold.bind λcJ vs bs l BX q=> .pure (v:=v::vs) ⟨.cons (hv.mono l) BX.1,È (·+1) BX.2⟩ q) R))
theorem hM {X:Gh}{n:Nat}{vs:List V}{bs:List Value}(hl:n<=100)(hv:VN n X vs bs):vs.length<=ę∧bs.toArray.size<=sizeLine:=by
 rw[←hv.1.sz,hv.2]
 exact⟨À hl (by decide),À hl (by decide)⟩
theorem CR (hn:Ns xs)(hl:es.length<=100)(h:BG Φ c es xs):SE Φ c (.tup es) (.Tuple xs k pos):=λ{T ρ E Q} q=>by
 rw[arm_eval_Tuple,cB hn]
 refine .at_ ((h q).bind λT₁ vs bs _ hv q R=> ?_)
 refine ŕ ?_ (hd:=(hM hl hv).2)
 exact yZ (tk:=T₁.s.toks) R .push (ë _ rfl) (Ņ _) (hM hl hv).1 hv.1 q
theorem wl {X:Gh}{t:Addr×Addr}{n:Nat}(h:n=X.θ.length):(X.new t).θ[n]? =some t:=h▸ŭ
theorem Oq {fz:Bool}(hn:Ns xs)(hl:es.length<=100)(h:BG Φ c es xs):SE Φ c (.lst fz es) (.List xs pos):=λ{T ρ E Q} q=>by
 rw[arm_eval_List,cB hn]
 refine .at_ ((h q).bind λT₁ vs bs _ hv q R=> ?_)
 refine ŕ ?_ (hd:=(hM hl hv).2)
 cases fz with
 |true=>exact jS (tk:=T₁.s.toks) (n:=0) R .push (ë _ rfl) (Ņ _) (hM hl hv).1 hv.1 q
 |false=>
  have f:=R.toWd.free (Ņ T₁.h)
  exact .mk (R.live1 (tk:=T₁.s.toks) (t:=(T₁.h.objs.size,T₁.h.objs.size)) .push (Ņ _) (.list (xs:=bs) (n:=0) (hM hl hv).1 (ë _ rfl) (hv.1.mono (Gh.le_new f)))) (.obj (wl R.len)) q
theorem Ħ.high (R:Ħ c ρ T):(T.h.objs.size==sysModules)=false:=by
 obtain⟨o,es,ep,e,_⟩:=R.topK.g
 exact Ù.mpr λz=>absurd (iJ (ā e) z) (by decide)
theorem JM:SE Φ c .dct0 (.Dict [] [] pos):=λ{T ρ E Q} q R=>wpAny_Dict_empty (.mk (R.live1 (tk:=T.s.toks) (t:=(T.h.objs.size,T.h.objs.size)) .push (Ņ _) (.dict R.high (ë _ rfl) .nil)) (.obj (wl R.len)) q)
theorem ac {M:Model}{A:Around}{E:Value->Shared->Prop}{f:Value}{Q:Args->Shared->Prop}{s:Shared}{args:List (Bool×Sem Value)}(h:args.any (·.1)=false):wpAny M A (spliced args) (λvs s'=>Q ⟨vs,[]⟩ s') E s->wpAny M A (evalArgs f true args []) Q E s:=by
 cases args with
 |nil=>
  exact λh=>by
   unfold evalArgs
   show wpAny M A (spliced [] >>= _) Q E s
   refine Á (ê h (λvs s' h'=> ?_) λ_ _ x=>x)
   first
    |refine ä ?_
     exact Á (Ê (Á (Ê (Ê h'))))
    |refine Á (Ê (ä ?_))
     exact Á (Ê (Á (Ê (Ê h'))))
 |cons a r=>cases a with
  |mk b x=>cases b with
   |true=>exact Bool.noConfusion h
   |false=>exact evalArgs_plain
abbrev Callee (f:Value):Prop:=∀h,K0.In h->∃k,(k=Keeper.frame∨k=Keeper.machine∨k=Keeper.boundFrame)∧Looks M0 h (keeperOf f) k
theorem Ļ (i:String):Callee (.builtin i):=λh _=>⟨.machine,.inr (.inl rfl),λ_ _ _ _ _ q=>Ê q⟩
theorem ax (i:String):Callee (.type i):=λh _=>⟨.machine,.inr (.inl rfl),λ_ _ _ _ _ q=>Ê q⟩
theorem bG {f:Value}(h:keepIn K0 f=true):Callee f:=keeps_K h
theorem bU {f:Value}{first:List Value}{P:qj}(hf:Callee f)(hn:Ns xs)(ha:ĥ c ρ T (spliced (xs.map λx=>(false,eval x c.env))) (VN k) E P)(h:∀T₁ vs bs,T.X.le T₁.X->Į T₁.X vs bs->P vs T₁.H->ĥ c ρ T₁ (call f (first++bs)) VV E Q):
 ĥ c ρ T (callWith pos f first (backTo pos (starEach xs c.env)) []) VV E Q:=λR=>by
 rw[cB hn]
 have hp:(xs.map λx=>(false,eval x c.env)).any (·.1)=false:=Äl.mpr λz hz=>by
  obtain⟨_,_,e⟩:=Þ.mp hz
  exact e▸ó
 refine i4 (P:=K0.In) (by rw[hp];rfl) hf (ac hp (ê (ha R) (λbs Ę k=>k.casesOn λ{X' H' vs} n hv p=>⟨n.r.kin,?_⟩) λ_ _ e=>e))
 exact (h ⟨X',H',Ę⟩ vs bs n.s.le hv.1 p).back n
end
noncomputable def CF (p:FD->Bool):Bool:=(List.range 66).all λf=>match c8 f with|some d=>p d|none=>true
theorem uE {p:FD->Bool}(h:CF p=true){f:Nat}{d:FD}(e:c8 f=some d):p d=true:=by
 have hf:f<66:=eB λq=>by
  rw[←aX q] at e
  exact nS e
 have:=É.mp h f (Ö.mpr hf)
 rw[e] at this
 exact this
noncomputable def xR (d:FD):Bool:=d.name==d.qual
theorem O9 (P:Params):CF (λd=>keepIn (KF P) (.ref d.addr)&&(!xR d||nsIn (KF P) mainGlobals (Str.ofString d.name)==some (some (.ref d.addr))))=true:=by kernel_rfl
theorem Qi (P:Params):((List.range 10).all λb=>(b==5)||((nsIn (KF P) mainGlobals (Str.ofString (jn b))==some none)&&((bootBuiltins (Str.ofString (jn b))==some (iT b))&& !(Str.ofString (jn b)==("__name__" :Str)))))=true:=by kernel_rfl
theorem Pu (P:Params):((List.range 9).all λc=>(nsIn (KF P) mainGlobals (Str.ofString (jU c))==some (some (.ref (Ě c))))&&keepIn (KF P) (.ref (Ě c)))=true:=by kernel_rfl
noncomputable abbrev mN (m:Nat):Str:=Str.ofString (fU m)
noncomputable abbrev Vm (K:Frag)(c m:Nat):Addr:=match findIn K (.ref (Ě c)) (mN m) with
 |some (some (.ref a))=>a
 |_=>0
theorem Oj (P:Params):(mtL.all λe=>Nat.ble 10 e.1.2&&(Nat.blt e.1.2 40&&(plainGet (KF P) (Ě e.1.1) (mN e.1.2)&&((findIn (KF P) (.ref (Ě e.1.1)) (mN e.1.2)==some (some (.ref (Vm (KF P) e.1.1 e.1.2))))&&(isFn (KF P) (.ref (Vm (KF P) e.1.1 e.1.2))&&(keepIn (KF P) (.ref (Vm (KF P) e.1.1 e.1.2))&&(match c8 e.2 with|some d=>Vm (KF P) e.1.1 e.1.2==d.addr|none=>true)))))))=true:=by kernel_rfl
theorem Uw {f m:Nat}(h0:10<=m)(h1:m<40):ņ (fU m)≠ņ (ħ f):=λh=>by
 have h:=p0 h
 have key:∀m<40,10<=m->∀f<21,fU m≠ħ f:=by decide+kernel
 rcases Ŝ f 20 with hf|hf
 ·exact key m h1 h0 f (bJ hf) h
 ·rw[←aX hf] at h
  exact key m h1 h0 20 (by decide) h
theorem xh {m:Nat}(h0:10<=m)(h1:m<40)(fs:List (Nat×V)):(gj fs).lookup (ņ (fU m))=none:=by
 induction fs with
 |nil=>rfl
 |cons p r ih=>
  show ((ņ (ħ p.1),p.2)::gj r).lookup _=_
  rw[į,Ù.mpr (Uw h0 h1),ih]
noncomputable def Mt:Value->Tok
 | .int _ t=>t| .str _ t=>t|_=>0
noncomputable def ti:Value->Addr
 | .ref a=>a|_=>0
noncomputable def Mu (o:Option Obj):List Value:=match o with
 |some ⟨_,_,.seq xs _,_⟩=>xs.toList
 |_=>[]
noncomputable def MJ (o:Option Obj):Bool:=match o with
 |some ⟨cl,dt,.seq _ k,sl⟩=>(cl== .type "tuple")&&(dt.isNone&&(sl.isEmpty&&(k==0)))
 |_=>false
theorem zo {o:Option Obj}(h:MJ o=true):o=some (f7 (Mu o)):=by
 cases o with
 |none=>exact fT h
 |some o=>cases o with
  |mk cl dt d sl=>cases d with
   |seq xs k=>
    have e1:cl= .type "tuple" :=eq_of_beq (aL h)
    have e2:dt=none:=Ĝ.mp (aL (aR h))
    have e3:sl= #[]:=Array.isEmpty_iff.mp (aL (aR (aR h)))
    have e4:k=0:=eq_of_beq (aR (aR (aR h)))
    rw[e1,e2,e3,e4]
    rfl
   |_=>exact fT h
mutual
noncomputable def Vf (K:Frag):V->Value->Bool
 | .none,x=>x== .none
 | .bool b,x=>x== .bool b
 | .int i,x=>x== .int i (Mt x)
 | .str l,x=>(x== .str (ĝ l) (Mt x))&&Nat.ble l.length 1000
 | .tup vs,x=>(x== .ref (ti x))&&(Nat.ble vs.length 1000&&(MJ (K.lookup (ti x))&&B5 K vs (Mu (K.lookup (ti x)))))
 |_,_=>false
noncomputable def B5 (K:Frag):List V->List Value->Bool
 |[],xs=>xs.isEmpty
 |v::vs,xs=>(!xs.isEmpty)&&(Vf K v (xs.headD .none)&&B5 K vs xs.tail)
end
noncomputable def WU:Tok->List (List Nat×V)->List DictEntry
 |_,[]=>[]
 |t,(k,.str l)::r=>HE k t (.str (ĝ l) (t+1))::WU (t+2) r
 |_,_::_=>[]
theorem CY:(nsIn K0 mainGlobals (Str.ofString (mz 14))=some (some (.ref 246)))∧K0.lookup 246=some (dictOf (WU 539 WR) 9):=⟨by kernel_rfl,by kernel_rfl⟩
theorem O5 (P:Params):((List.range 22).all λn=>(n==14)||((Hx n).isNone||jf (Hx n) λv=>jf (nsIn (KF P) mainGlobals (Str.ofString (mz n))) λx=>jf x (Vf (KF P) v)))=true:=by kernel_rfl
section
variable {c:Fm} {ρ:Loc} {T:Sx} {X:Gh} {v:V} {x:Value} {vs:List V} {xs:List Value}
theorem Wd.kf (W:Wd T){a:Addr}{o:Obj}(h:K0.lookup a=some o):T.X.r a= .still o:=W.base (W.g.kin _ _ h)
theorem CQ (W:Wd T):∀{x},Vf K0 v x=true->VR T.X v x:=
 v.rec (motive_1:=λv=>∀{x},Vf K0 v x=true->VR T.X v x) (motive_2:=λvs=>∀{xs},B5 K0 vs xs=true->Į T.X vs xs) (motive_3:=λ_=>True) (motive_4:=λ_=>True) (motive_5:=λ_=>True) (motive_6:=λ_=>True)
  (λh=>(eq_of_beq h).symm▸ .none) (λb _ h=>(eq_of_beq h).symm▸ .bool b) (λi _ h=>(eq_of_beq h).symm▸ .int i _) (λl _ h=>(eq_of_beq (aL h)).symm▸ .str (À (Ó (aR h)) (by decide)) _)
  (λvs ih _ h=>(eq_of_beq (aL h)).symm▸ .tup (À (Ó (aL (aR h))) (by decide)) (W.kf (zo (aL (aR (aR h))))) (ih (aR (aR (aR h)))))
  (λ_ _ _ h=>fT h) (λ_ _ _ _ h=>fT h) (λ_ _ _ _ h=>fT h) (λ_ _ _ h=>fT h) (λ_ _ h=>fT h)
  (λ{xs} h=>by
   cases xs with
   |nil=>exact .nil
   |cons=>exact fT h)
  (λv vs i1 i2 xs h=>by
   cases xs with
   |nil=>exact fT h
   |cons x xs=>exact .cons (i1 (aL (aR h))) (i2 (aR (aR h)))) trivial (λ_ _ _ _=>trivial) trivial (λ_ _ _ _=>trivial) (λ_ _ _=>trivial) λ_ _ _=>trivial
noncomputable def swB:List (List Nat×V)->Bool
 |[]=>true
 |(_,.str l)::r=>Nat.ble l.length 1000&&swB r
 |_::_=>false
theorem Nm {l:List (List Nat×V)}:∀t,swB l=true->DR X l (WU t l):=by
 induction l with
 |nil=>exact λ_ _=> .nil
 |cons e r ih=>
  cases e with
  |mk k v=>cases v with
   |str l=>exact λt h=> .cons (.str (À (Ó (aL h)) (by decide)) _) (ih _ (aR h))
   |_=>exact λ_ h=>fT h
theorem FN (W:Wd T){n:Nat}(e:Hx n=some v):∃val,nsIn K0 mainGlobals (Str.ofString (mz n))=some (some val)∧VR T.X v val:=by
 have hn:n<22:=eB λq=>by
  rw[←aX q] at e
  exact nS e
 by_cases h:n=14
 ·subst h
  exact Ä e▸⟨_,CY.1,.dic rfl (W.kf CY.2) (Nm _ rfl)⟩
 ·have:=É.mp (O5 cx.w.params) n (Ö.mpr hn)
  rw[beq_false_of_ne h,e] at this
  obtain⟨o,e1,h⟩:=iW (this:jf _ _=true)
  obtain⟨val,e2,h⟩:=iW h
  exact⟨val,e1.trans (È some e2),CQ W h⟩
end
structure xO (k:Nat)(c:Fm)(n:Nat):Prop extends FmOK c where
 u:c.A.units+100*n+k<cLine
 d:c.A.depth+30*n+k<recursionLimit
abbrev lH:=xO 80
abbrev FmD:=xO 60
theorem xO.to {j k:Nat}{c:Fm}{n:Nat}(C:xO k c n)(h:j<=k):xO j c n:=⟨C.1,Í (Ý h _) C.u,Í (Ý h _) C.d⟩
def CP (c:Fm)(ρ:Loc)(T:Sx)(E:Ĩ)(Q:QT)(r:Result)(s':Shared):Prop:=match r with
 | .ok (.ret v)=>ŝ c ρ T VV Q v s'
 | .ok _=>False
 | .error e=>dJ c ρ T E s' e
def di (Φ:Ď)(n:Nat):Prop:=∀{f vs E Q T},Φ f vs E Q T.H->∃d,c8 f=some d∧∀{c ρ xs},FmD c n->Į T.X vs xs->Ħ c ρ T->codeAny M0 c.A (.call (.ref d.addr) ⟨xs,[]⟩) (CP c ρ T E Q) T.s
noncomputable def ū (sc:Scope)(x:Str):Bool:=(sc.names.lookup x==some .globalImplicit)&& !(x==("__debug__" :Str))
def Mn (m:Nat):MT->Value->Prop
 | .fn f,g=>Callee g∧∀d,c8 f=some d->g= .ref d.addr
 | .lst,g=>g= .builtin ("list." ++fU m)
 | .str,g=>g= .builtin ("str." ++fU m)
 | .idx,g=>g= .builtin "list.index"
theorem Mn.callee {m:Nat}{t:MT}{g:Value}(h:Mn m t g):Callee g:=match t,h with
 | .fn _,h=>h.1
 | .lst,h=>(h:g=_)▸Ļ _
 | .str,h=>(h:g=_)▸Ļ _
 | .idx,h=>(h:g=_)▸Ļ _
theorem lm4 {P:Nat->Prop}{m:Nat}(h:(m==0||m==6||m==7||m==8)=true)(h0:P 0)(h6:P 6)(h7:P 7)(h8:P 8):P m:=by
 rcases Ŏ.mp h with h|h
 ·rcases Ŏ.mp h with h|h
  ·rcases Ŏ.mp h with h|h
   ·exact eq_of_beq h▸h0
   ·exact eq_of_beq h▸h6
  ·exact eq_of_beq h▸h7
 ·exact eq_of_beq h▸h8
theorem kD {α β:Type}{o:Option α}{f:α->β}{b:β}(h:o.map f=some b):∃a,o=some a∧f a=b:=Ć.mp h
section
variable {Φ:Ď} {c:Fm} {ρ:Loc} {T:Sx} {X:Gh} {E:Ĩ} {Q:QT} {e:PE} {x:Expr} {pos p apos:Pos} {v:V} {u val:Value} {es:List PE} {xs:List Expr} {n m i:Nat} {t:MT} {K:Value->Sem Value} {A:Around} {Er:Value->Shared->Prop} {pl:Sem Bool} {P:Value×List Value->Shared->Prop} {pa d:Addr} {cc:Nat} {fs:List (Nat×V)} {de:List DictEntry} {y:Str} {ws:List Value} {W:Mk}
theorem rq {f:Value}(h:Ħ c ρ T->codeAny M0 c.A (.call f ⟨ws,[]⟩) (CP c ρ T E Q) T.s):ĥ c ρ T (call f ws) VV E Q:=λR=>
 gv (GW (h R) λr s' h'=>by
  cases r with
  |error e=>exact h'
  |ok f=>cases f<;>exact h')
theorem dP {env:Env}(h:ū env.scope y=true):env.kindOf y=some .globalImplicit∧(y==("__debug__" :Str))=false:=⟨eq_of_beq (aL h),(á _).mp (aR h)⟩
theorem yi {o:Option (Option V)}{H:AH}(h:Rx o H Q):∃v,o=some (some v)∧Q v H:=by
 cases o with
 |none=>exact bT.elim h
 |some o=>cases o with
  |none=>exact bT.elim h
  |some v=>exact⟨v,rfl,h⟩
theorem rL {o:Option V}{H:AH}(h:oZ o H Q):∃v,o=some v∧Q v H:=by
 cases o with
 |none=>exact bT.elim h
 |some v=>exact⟨v,rfl,h⟩
theorem v5 (hx:c.ns[i]? =some y)(hd:(y==("__debug__" :Str))=false)(sH:(y==("__classdict__" :Str))=false):SE Φ c (.var i) (.Name y pos):=λq=>(yi q).elim λ_ h=>yj hx h.1 hd sH h.2
theorem Ju (hk:ū c.env.scope (Str.ofString (mz n))=true):SE Φ c (.glob n) (.Name (Str.ofString (mz n)) pos):=λq R=>(rL q).elim λ_ h=>(FN R.toWd h.1).elim λ_ g=>FP (dP hk).1 g.1 g.2 (dP hk).2 h.2 R
theorem pV (hk:ū c.env.scope y=true)(hg:nsIn K0 mainGlobals y=some (some val))(h:ĥ c ρ T (K val) VV E Q):ĥ c ρ T (eval (.Name y pos) c.env >>= K) VV E Q:=λR=>
 Á (ź R.k.kind (dP hk).1 (sd (by rw[R.k.glob];exact R.topK.g) (mg_of R.g.kin R.g.top.g hg) (h R)) (dP hk).2)
theorem xC (hk:ū c.env.scope y=true)(hg:nsIn K0 mainGlobals y=some none)(hb:bootBuiltins y=some val)(hn:y≠ "__name__")(h:ĥ c ρ T (K val) VV E Q):ĥ c ρ T (eval (.Name y pos) c.env >>= K) VV E Q:=λR=>
 Á (ź R.k.kind (dP hk).1 (Q7 (by rw[R.k.glob];exact R.topK.g) (mg_none_of R.g.kin R.g.top.g hg) (by rw[R.k.bl];exact R.topK.b) (by rw[R.g.top.builtins y hn];exact hb) (h R)) (dP hk).2)
theorem JX (C:lH c n)(W:di Φ n){f:Nat}{d:FD}(hd:c8 f=some d)(ht:xR d=true)(hk:ū c.env.scope (Str.ofString d.name)=true)(hn:Ns xs)(ha:BG Φ c es xs):SE Φ c (.call f es) (.Call (.Name (Str.ofString d.name) p) xs [] pos):=λ{T ρ E Q} q=>by
 have hg:=uE (O9 cx.w.params) hd
 rw[ht] at hg
 refine .eq (Ÿ ..) (pV hk (eq_of_beq (aR hg)) (bU (bG (aL hg)) hn (ha q) λT₁ vs bs _ hv q=> ?_))
 unfold W9 Call at q
 obtain⟨d',e1,e2⟩:=W q
 obtain rfl:=Ä (hd.symm.trans e1)
 exact rq (e2 (C.to (by decide)) hv)
theorem Gk {b:Nat}(h:b<10)(h5:(b==5)=false):Callee (iT b):=match b,h,h5 with
 |0,_,_=>Ļ _|1,_,_=>ax _|2,_,_=>Ļ _|3,_,_=>Ļ _|4,_,_=>ax _
 |5,_,h=>Bool.noConfusion h|6,_,_=>Ļ _|7,_,_=>ax _|8,_,_=>ax _|9,_,_=>ax _
 |_+10,h,_=>absurd h (Ł.mpr (Ğ _ _))
theorem Gw (C:FmOK c){b:Nat}(hb:b<10)(h5:(b==5)=false)(hk:ū c.env.scope (Str.ofString (jn b))=true)(hn:Ns xs)(ha:BG Φ c es xs):SE Φ c (.bcall b es) (.Call (.Name (Str.ofString (jn b)) p) xs [] pos):=λ{T ρ E Q} q=>by
 have hg:=É.mp (Qi cx.w.params) b (Ö.mpr hb)
 rw[h5,Bool.false_or] at hg
 exact .eq (Ÿ ..) (xC hk (eq_of_beq (aL hg)) (eq_of_beq (aL (aR hg))) (λz=>Bool.noConfusion ((aR (aR hg)).symm.trans (È not (è.mpr z)))) (bU (Gk hb h5) hn (ha q) λT₁ vs bs _ hv q=>uV C hv q))
theorem rK (R:Ħ c ρ T)(h1:T.h.get? pa=some (instObj (Ě cc) d))(h2:T.h.get? d=some (dictOf de n))(r:DR T.X (gj fs) de)(h3:(ż cc m).map .fn=some t)(hq:∀g,Mn m t g->P (g,[.ref pa]) T.s):wpAny M0 A (getMethod (.ref pa) (mN m) pl) P Er T.s:=by
 obtain⟨mm,F,N⟩:=R.fr
 obtain⟨f,e,rfl⟩:=kD h3
 obtain⟨l₁,sW,el,_⟩:=Qx.mp e
 have tb:=É.mp (Oj cx.w.params) ((cc,m),f) (by rw[el];exact ļ _ (.head _))
 have g:=r.look (ņ (fU m))
 rw[xh (Ó (aL tb)) (Ó (aL (aR tb)))] at g
 have tb:=aR (aR tb)
 refine method_inst (ox:=instObj (Ě cc) d) F R.g.kin ⟨h1,rfl,rfl,h2⟩ (aL tb) (eq_of_beq (aL (aR tb))) (aL (aR (aR tb))) ((È (getL · de) (ĺ _)).trans g) (hq _ ⟨bG (aL (aR (aR (aR tb)))),λd hd=> ?_⟩)
 have:=aR (aR (aR (aR tb)))
 rw[hd] at this
 exact È Value.ref (eq_of_beq this)
theorem Jt {ws:List Value}{s:Shared}(h1:s.heap.get? pa=some (ē ws n))(hm:(m==0||m==6||m==7||m==8)=true)(h:P (.builtin ("list." ++fU m),[.ref pa]) s):wpAny M0 A (getMethod (.ref pa) (mN m) pl) P Er s:=by
 have hT:s.TypeIs (.ref pa) "list" :=⟨_,h1,rfl⟩
 have hd:∀a,Value.ref pa= .ref a->∃o,s.heap.get? a=some o∧o.dict=none:=λa e=>⟨_,aN e▸h1,rfl⟩
 revert h
 exact lm4 (P:=λm=>P (.builtin ("list." ++fU m),[.ref pa]) s->wpAny M0 A (getMethod (.ref pa) (mN m) pl) P Er s) hm
  (ft hT aD jG PySem.F.type_list_append hd)
  (ft hT aD U5 PySem.F.type_list_pop hd)
  (ft hT aD Kk PySem.F.type_list_reverse hd)
  (ft hT aD LS PySem.F.type_list_extend hd)
theorem O6 {l:List Nat}{u:Tok}{s:Shared}:(Nat.ble 1 m&&Nat.ble m 5)=true->P (.builtin ("str." ++fU m),[.str (ĝ l) u]) s->wpAny M0 A (getMethod (.str (ĝ l) u) (mN m) pl) P Er s:=match m with
 |0=>λh=>fT h
 |1=>λ_ q=>GM.join q
 |2=>λ_ q=>GM.startswith q
 |3=>λ_ q=>GM.rstrip q
 |4=>λ_ q=>GM.strip q
 |5=>λ_ q=>GM.find q
 |_+6=>λh=>fT h
theorem Om {K:MT->qj}{H:AH}(h:mO W K m i H):∃t,x3 m H[i]? =some t∧W H (K t):=by
 unfold mO at h
 cases e:x3 m H[i]? with
 |none=>rw[e] at h;exact h.elim
 |some t=>rw[e] at h;exact⟨t,rfl,h⟩
theorem wo {o:Option MT}{R:MT->Prop}(h:match o with|some t=>R t|none=>bT):∃t,o=some t∧R t:=by
 cases o with
 |none=>exact bT.elim h
 |some t=>exact⟨t,rfl,h⟩
theorem Jv (R:Ħ c ρ T)(hv:VR T.X v u)(q:W8 Φ E W m Q v T.H)(hq:∀t g,Mn m t g->W T.H (G8 Φ E m v Q t)->P (g,[u]) T.s):wpAny M0 A (getMethod u (mN m) pl) P Er T.s:=by
 revert hq
 cases v with
 |rcd cc fs=>
  obtain⟨t,ht,q⟩:=wo (o:=(ż cc m).map .fn) (R:=λt=>W T.H (G8 Φ E m (.rcd cc fs) Q t)) q
  exact hv.on λp d es n f1 f2 r hq=>rK R (R.still f1) (R.still f2) r ht λg hg=>hq t g hg q
 |obj i=>
  obtain⟨t,ht,q⟩:=Om q
  cases hi:T.H[i]? with
  |none=>rw[hi] at ht;exact nS ht
  |some o=>cases o with
   |none=>rw[hi] at ht;exact nS ht
   |some o=>
    rw[hi] at ht
    cases o with
    |list vs=>
     obtain⟨hm,e⟩:=x6 ht
     exact R.lst hv rfl hi λp ws n _ _ b f r hq=>Jt f hm (hq t _ (Ä e▸rfl) q)
    |dict=>exact nS ht
    |inst cc fs=>
     exact hv.on λp d hth=>(R.obj hi hth).2.on (P:=λt'=>(∀t g,Mn m t g->W T.H (G8 Φ E m (.obj i) Q t)->P (g,[.ref t'.1]) T.s)->wpAny M0 A (getMethod (.ref t'.1) (mN m) pl) P Er T.s) λp d es n f1 e r hq=>rK R (R.still f1) e r ht λg hg=>hq t g hg q
 |str l=>
  obtain⟨t,ht,q⟩:=wo (o:=cond (Nat.ble 1 m&&Nat.ble m 5) (some .str) none) (R:=λt=>W T.H (G8 Φ E m (.str l) Q t)) q
  obtain⟨hm,e⟩:=x6 ht
  exact hv.on λu b hq=>O6 hm (hq t _ (Ä e▸rfl) q)
 |lst l=>
  obtain⟨t,ht,q⟩:=wo (o:=cond (m==9) (some .idx) none) (R:=λt=>W T.H (G8 Φ E m (.lst l) Q t)) q
  obtain⟨hm,e⟩:=x6 ht
  exact hv.on λp ws n b f r hq=>by
   have h1:=R.still f
   have hT:T.s.TypeIs (.ref p) "list" :=⟨_,h1,rfl⟩
   rw[eq_of_beq hm]
   exact ft hT aD Qs PySem.F.type_list_index (λa e=>⟨_,(aN e)▸h1,rfl⟩) (hq t _ (Ä e▸rfl) q)
 |_=>exact bT.elim q
theorem iA {few:Bool}{o:Expr}{env:Env}(h:(apos.endLine==pos.line)=true):methodCallPos few o env apos pos=pure pos:=by
 unfold methodCallPos
 rw[Î (by rw[h,Bool.or_true])]
theorem qU {env:Env}(hn:Ns xs)(hl:xs.length<20):methodCallForm (xs.length+([]:List Keyword).length) (backTo pos (starEach xs env)) (backToKw pos (keywordEach [] env))=true:=by
 unfold methodCallForm
 rw[cB hn,List.all_map,show xs.all ((λx:Bool×Sem Value=> !x.1)∘λx=>(false,eval x env))=true from É.mpr λ_ _=>rfl]
 exact bV (Ą hl (by decide:20<30))
theorem Fe (C:lH c n)(Wp:di Φ n){vs:List V}{g:Value}(hg:Mn m t g)(hv:VR T.X v u)(BX:Į T.X vs ws)(q:G8 Φ E m v Q t vs T.H):ĥ c ρ T (call g (u::ws)) VV E Q:=by
 cases t with
 |fn f=>
  replace q:Call Φ E f Q (v::vs) T.H:=q
  unfold Call at q
  obtain⟨d,e1,e2⟩:=Wp q
  rw[hg.2 d e1]
  exact rq (e2 (C.to (by decide)) (.cons hv BX))
 |lst=>
  rw[(hg:g=_)]
  cases v with
  |obj i=>exact Fh hv BX q
  |_=>exact bT.elim q
 |str=>
  rw[(hg:g=_)]
  cases v with
  |str l=>exact EF hv BX q
  |_=>exact bT.elim q
 |idx=>
  rw[(hg:g=_)]
  cases v with
  |lst l=>exact yg (P:=λws=>ĥ c ρ T (call (.builtin "list.index") (u::ws)) VV E Q) (K:=λa=>vS l a T.H Q) nbT BX q λa y hy h=>uZ hv hy h
  |_=>exact bT.elim q
theorem zb (C:lH c n)(Wp:di Φ n)(hs:∀a env w,attributeBase x a env w=w)(my:(apos.endLine==pos.line)=true)(hl:xs.length<20)(hn:Ns xs)(he:SE Φ c e x)(ha:BG Φ c es xs):SE Φ c (.meth e m es) (.Call (.Attribute x (mN m) apos) xs [] pos):=λ{T ρ E Q} q=>by
 rw[Bx,hs]
 refine (he q).bind λT₁ v u _ hv q=> .at_ λR=> ?_
 unfold methodCall
 rw[qU hn hl]
 refine Á (ä (Jv R hv q λt g hg q=> ?_))
 dsimp only
 rw[iA my]
 exact Á (Ê (bU hg.callee hn (ha q) (λcJ vs bs l BX q=>Fe C Wp hg (hv.mono l) BX q) R))
end
noncomputable def Gh.own (X:Gh)(l:List Addr)(L:Addr):Gh:=⟨X.θ,λa=>if a∈l then .mine L else X.r a⟩
structure mi (T:Sx)(L:Addr)(l:List Addr)(h':Heap):Prop where
 k:∀{a o},T.h.get? a=some o->h'.get? a=some o
 n:∀{a},a∈l->T.h.get? a=none∧∃o,h'.get? a=some o∧(a=L∨∃v,o.data= .cell v)
 m:L∈l
section
variable {c c':Fm} {ρ Ĥ:Loc} {T T' VG:Sx} {X Y:Gh} {h h':Heap} {a L D:Addr} {o:Obj} {l:List Addr} {i tk:Nat} {r:Ro} {m:Str->Option Value} {x:Str} {v:V} {env:Env}
theorem tz (e:(X.own l L).r a=r):(a∈l∧r= .mine L)∨(a∉l∧X.r a=r):=by
 by_cases q:a∈l
 ·exact .inl ⟨q,e.symm.trans (Î q)⟩
 ·exact .inr ⟨q,(Ñ q).symm.trans e⟩
theorem mi.old (O:mi T L l h')(e:T.h.get? a=some o):(T.X.own l L).r a=T.X.r a:=Ñ λq=>nS ((O.n q).1.symm.trans e)
theorem mi.le (O:mi T L l h')(W:Wd T):T.X.le (T.X.own l L):=⟨id,λe=>(O.old (W.still e)).trans e,λe=>(W.there λz=>Ro.noConfusion (z.symm.trans e)).elim λ_ q=>(O.old q).trans e⟩
theorem mi.new (O:mi T L l h')(W:Wd T):T.X.r a≠ .mine L:=λq=>(W.own q).2.1.elim λ_ e=>nS ((O.n O.m).1.symm.trans e)
theorem mi.wd (O:mi T L l h')(W:Wd T):Wd ⟨T.X.own l L,T.H,{T.s with heap:=h',toks:=tk}⟩ where
 g:=W.g
 os:=W.os
 gens:=W.gens
 base:=λe=>(O.le W).f (W.base e)
 still:=λe=>(tz e).elim (λz=>nomatch z.2) λz=>O.k (W.still z.2)
 len:=W.len
 obj:=λh1 h2=>by
  obtain⟨q,r⟩:=W.obj h1 h2
  obtain⟨o,e,_⟩:=r.foot
  exact⟨(O.old e).trans q,r.mono (O.le W) λ_=>O.k⟩
 live:=λe=>(tz e).elim (λz=>nomatch z.2) λz=>W.live z.2
 own:=λ{a K} e=>(tz e).elim (λz=>by
  obtain rfl:K=L:=by injection z.2
  obtain⟨_,o,e,q⟩:=O.n z.1
  exact⟨Î O.m,(O.n O.m).2.imp λ_ h=>h.1,q.imp id λ⟨v,d⟩=>⟨o,v,e,d⟩⟩) λz=>by
  obtain⟨q1,⟨o,q2⟩,q3⟩:=W.own z.2
  exact⟨(O.le W).m q1,⟨o,O.k q2⟩,q3.imp id λ⟨o,v,e,d⟩=>⟨o,v,O.k e,d⟩⟩
theorem Sl.same (x:Sl l a o h):∃o',h.get? a=some o'∧o'.data=o.data:=x.elim (λe=>⟨_,e,rfl⟩) λ⟨_,_,e⟩=>⟨_,e,rfl⟩
theorem Ns.sl (hn:h.Ns L m)(k:∀{o},h.get? L=some o->∃o',h'.get? L=some o'∧o'.data=o.data):h'.Ns L m:=by
 obtain⟨o,es,ep,e,d,r⟩:=hn
 obtain⟨o',e',d'⟩:=k e
 exact⟨o',es,ep,e',d'.trans d,r⟩
theorem lL.sl (q:lL X env h m x v)(l:X.le Y)(k:∀{ca o kk},X.r ca= .mine kk->h.get? ca=some o->∃o',h'.get? ca=some o'∧o'.data=o.data):lL Y env h' m x v:=
 q.casesOn (λval a b r=> .loc val a b (r.mono l)) λca kk o val a e q ho hd r=>(k q ho).elim λo' h=> .cell ca kk o' val a e (l.m q) h.1 (h.2.trans hd) (r.mono l)
theorem mi.virt (O:mi T L l h')(S:Step c ⟨T.X.own l L,T.H,{T.s with heap:=h',toks:=tk}⟩ T'):Step c ⟨T.X.own l L,T.H,T.s⟩ T':=
 ⟨λe=>S.keep (O.k e),λe=>S.grows (O.k e),S.le,λe=>S.tr (O.k e),λe=>(S.mn e).imp id λz=>⟨ci (λo e=>⟨o,O.k e⟩) z.1,z.2⟩,S.hl⟩
theorem Ħ.leave (R:Ħ c ρ T)(W':Wd T')(O:mi T c'.L l h)(S:Step c' ⟨T.X.own l c'.L,T.H,T.s⟩ T')(QV:∀L∈d7 c'.frs,L∈d7 c.frs∨T.h.get? L=none):Nx c ρ T T':=by
 have keep:∀{a o},T.h.get? a=some o->(∀i,T.X.r a≠ .live i)->Sl (d7 c.frs) a o T'.h:=λe nl=>
  (S.keep e (λi q=>nl i ((O.old e).symm.trans q)) λq=>O.new R.toWd ((O.old e).symm.trans q)).imp id λz=>(QV _ z.1).elim (λq=>⟨q,z.2⟩) λq=>nS (q.symm.trans e)
 have le:=(O.le R.toWd).trans S.le
 have nL:∀{k},T.h.get? k=none->T.h.get? k=none∧k≠c.L:=λn=>⟨n,λz=>(R.own R.ownL).2.1.elim λ_ e=>nS ((z▸n).symm.trans e)⟩
 have km:∀{a o L},T.X.r a= .mine L->T.h.get? a=some o->∃o',T'.h.get? a=some o'∧o'.data=o.data:=λq e=>(keep e λi z=>oM z q).same
 refine⟨⟨W',R.k,le.m R.ownL,R.above,λh=>le.m (R.frm h),dy R.frames λL hL o e d=>(km (R.frm hL) e).imp λo' h=>⟨h.1,λvs q=>d vs (h.2.symm.trans q)⟩,λh0 _ _ h1 h2=>le.m (R.cw h0 h1 h2),?_⟩,⟨λe n _=>keep e n,λe=>S.grows e,le,λe=>O.old e▸S.tr e,λe=>(S.mn e).elim (λe=>(tz e).elim (λz=> .inr (nL ?_)) λz=> .inl z.2) λz=> .inr (nL z.1),S.hl⟩⟩
 ·obtain⟨m,hn,r⟩:=R.loc
  exact⟨m,Ns.sl hn (km R.ownL),λh1 h2=>(r h1 h2).sl le km⟩
 ·have:Ro.mine _=Ro.mine c'.L:=z.2
  injection this with this
  exact this▸(O.n O.m).1
structure Hh (T:Sx)(D:Addr):Prop where
 f:T.X.r D= .free
 e:∃o,T.h.get? D=some o
theorem Tr.free {r:Ro}(x:Tr .free r):r= .free:=by
 generalize e:Ro.free=b at x
 induction x with
 |same=>rfl
 |fix=>exact Ro.noConfusion e
theorem Hh.keeps (R:Ħ c ρ T)(hd:Hh T D)(S:Step c T T')(e:T.h.get? D=some o):T'.h.get? D=some o:=
 (S.keep e (λi q=>Ro.noConfusion (hd.f.symm.trans q)) λq=>Ro.noConfusion (hd.f.symm.trans q)).elim id λz=>Ro.noConfusion (hd.f.symm.trans (R.frm z.1))
theorem Hh.step (R:Ħ c ρ T)(hd:Hh T D)(S:Step c T T'):Hh T' D:=hd.e.elim λo e=>⟨(hd.f▸S.tr e).free,o,hd.keeps R S e⟩
theorem Ħ.stir (R:Ħ c ρ T)(hd:T.X.r D= .free)(k:∀{a ob},a≠D->T.h.get? a=some ob->h'.get? a=some ob):Ħ c ρ ⟨T.X,T.H,{T.s with heap:=h',toks:=tk}⟩:=by
 have ne:∀{a},T.X.r a≠ .free->a≠D:=λn z=>n (z▸hd)
 have K:Mv c T (λa=>a=D) h':=⟨λz=>⟨λo q=>Ro.noConfusion ((z▸hd).symm.trans q),λ_ q=>Ro.noConfusion ((z▸hd).symm.trans q)⟩,λe _ n=>k n e,λm hn=>Ns.sl hn λe=>⟨_,k (ne λq=>Ro.noConfusion (q.symm.trans R.ownL)) e,rfl⟩⟩
 exact K.rel R .refl R.len .inl id (λh1 h2=>⟨(R.obj h1 h2).1,K.obj R .refl h1 h2 (ne λq=>Ro.noConfusion (q.symm.trans (R.obj h1 h2).1))⟩) R.live
theorem Step.stir (S:Step c T T')(n:T.h.get? D=none)(k:∀{a ob},a≠D->T'.h.get? a=some ob->h'.get? a=some ob):Step c T ⟨T'.X,T'.H,{T'.s with heap:=h',toks:=tk}⟩:=by
 have ne:∀{a o},T.h.get? a=some o->a≠D:=λe z=>nS (n.symm.trans (z▸e))
 exact⟨λe a b=>(S.keep e a b).imp (k (ne e)) λz=>⟨z.1,z.2.imp λ_ q=>k (ne e) q⟩,λe=>(S.grows e).imp λ_ q=>k (ne e) q,S.le,S.tr,S.mn,S.hl⟩
theorem Ħ.forget (R:Ħ c ρ T)(R':Nx c ρ T T')(n:T.h.get? L=none)(q:∀{a},T'.X.r a= .mine L->a=L)(e:T'.X.r L= .mine L)(hm:T'.h.Ns L m):Nx c ρ T ⟨T'.X.put L .free,T'.H,T'.s⟩:=by
 have pr:∀{b r},(T'.X.put L .free).r b=r->r≠ .free->b≠L∧T'.X.r b=r:=λ{b r} h nf=>by
  by_cases z:b=L
  ·exact absurd (h.symm.trans (z▸aw)) nf
  ·exact⟨z,(ķ z).symm.trans h⟩
 have ne:∀{b r},T'.X.r b=r->r≠ .mine L->(T'.X.put L .free).r b=r:=λh nm=>(ķ λz=>nm (h.symm.trans ((È _ z).trans e))).trans h
 have f:∀{a o},T'.X.r a= .still o->(T'.X.put L .free).r a= .still o:=λh=>ne h nofun
 have nk:∀{k},T.X.r k= .mine k->Ro.mine k≠ .mine L:=λh z=>by
  injection z with z
  exact (R.there λw=>Ro.noConfusion (w.symm.trans h)).elim λ_ e=>nS (n.symm.trans (z▸e))
 have le:T.X.le (T'.X.put L .free):=⟨R'.s.le.t,λh=>f (R'.s.le.f h),λh=>ne (R'.s.le.m h) (nk (R.own h).1)⟩
 refine⟨⟨⟨R'.r.g,R'.r.os,R'.r.gens,λh=>f (R'.r.base h),λh=>R'.r.still (pr h nofun).2,R'.r.len,λh1 h2=>⟨ne (R'.r.obj h1 h2).1 nofun,(R'.r.obj h1 h2).2.lf id f λ_ e=>e⟩,λh=>R'.r.live (pr h nofun).2,λ{a K} h=> ?_⟩,R.k,le.m R.ownL,R.above,λh=>le.m (R.frm h),R'.r.frames,λh0 _ _ h1 h2=>le.m (R.cw h0 h1 h2),?_⟩,R'.s.keep,R'.s.grows,le,λ{a o} h=> ?_,λh=>R'.s.mn (pr h nofun).2,R'.s.hl⟩
 ·obtain⟨z,h⟩:=pr h nofun
  have w:=R'.r.own h
  exact⟨ne w.1 λy=>by
   injection y with y
   exact z (q (y▸h)),w.2⟩
 ·obtain⟨m,hn,r⟩:=R'.r.loc
  refine⟨m,hn,λh1 h2=>(r h1 h2).casesOn (λval a b r=> .loc val a b (r.lf id f)) λca kk o val a e' h ho hd r=> ?_⟩
  by_cases z:ca=L
  ·obtain⟨o',e1,_,e2⟩:=QG hm
   exact absurd hd (Ä (e1.symm.trans (z▸ho))▸e2 _)
  ·exact .cell ca kk o val a e' ((ķ z).trans h) ho hd (r.lf id f)
 ·rw[ķ λz=>nS (n.symm.trans (z▸h))]
  exact R'.s.tr h
end
noncomputable def zm (n:String):Bool:= !["enumerate","zip","dict_itemiterator","dict_reverseitemiterator","odict_iterator","itertools.zip_longest","itertools.pairwise"].contains n
def VH (I:Addr)(h:Heap):Prop:=∃o n vs,h.get? I=some o∧o.cls= .type n∧o.data= .fields vs∧zm n=true
inductive jj (A:Around)(I:Addr)(src:V)(items:List V)(i:Nat)(X:Gh)(h:Heap):Prop
 |walk {fp:List Addr} {n:Nat} {P:Nat->Value->Prop} {S:Nat->Heap->Prop}:Walks pw cx.w A I fp [I] n P S->S i h->(∀b∈fp,b=I∨∃o,X.r b= .still o)->n=items.length->
  (∀j v,P j v->∃it,items[j]? =some it∧VR X it v)->(∀j h,S j h->VH I h)->jj A I src items i X h
 |live {j:Nat} {p:Addr}:src= .obj j->X.θ[j]? =some (p,p)->h.IsListIter I p i->jj A I src items i X h
def M9 (src:V)(items:List V)(H:AH):Prop:=match src with
 | .obj j=>H[j]? =some (some (.list items))
 |_=>True
noncomputable abbrev itE (n:String)(vs:Array Value):Obj:={cls:= .type n,data:= .fields vs}
section
variable {c:Fm} {ρ:Loc} {T T':Sx} {X:Gh} {A:Around} {I p:Addr} {src:V} {items:List V} {i n tk:Nat} {h:Heap} {E:Value->Shared->Prop} {Q:Value->Shared->Prop} {xs:List Value} {x v:Value} {l:List Nat} {lo hi st:Int}
theorem ms {s:String}{vs:Array Value}(hn:zm s=true):(∃o,h.get? I=some o∧o.cls= .type s∧o.data= .fields vs)->VH I h:=λ⟨o,e,c,d⟩=>⟨o,s,vs,e,c,d,hn⟩
theorem jj.pl (t:jj A I src items i X h):VH I h:=by
 induction t with
 |walk _ st _ _ _ pl=>exact pl _ _ st
 |live _ _ hit=>exact ms rfl hit
theorem jj.mono (t:jj A I src items i T.X T.h)(W:Wd T)(W':Wd T')(l:T.X.le T'.X)(kI:∀o,T.h.get? I=some o->T'.h.get? I=some o):jj A I src items i T'.X T'.h:=by
 induction t with
 |walk K st f n p pl=>
  exact .walk K (K.frame _ _ _ st λb hb o e=>(f b hb).elim (λz=>z▸kI o (z▸e)) λ⟨o',q⟩=>by
   rw[←Ä ((W.still q).symm.trans e)]
   exact W'.still (l.f q)) (λb hb=>(f b hb).imp id λz=>z.imp λ_ q=>l.f q) n (λj v q=>(p j v q).imp λ_ h=>⟨h.1,h.2.mono l⟩) pl
 |live a b d=>exact .live a (l.t b) (d.at kI)
theorem wc (r:Į X items xs){j:Nat}(hj:xs.toArray[j]? =some v):∃w,items[j]? =some w∧VR X w v:=by
 rw[Ė] at hj
 have hl:j<items.length:=r.length▸(Õ.mp hj).1
 obtain⟨x,h1,h2⟩:=r.get (Ç hl)
 exact⟨_,Ç hl,Ä (h1.symm.trans hj)▸h2⟩
theorem zl (C:FmOK c)(W:Wd T){Q:Option Value->Shared->Prop}(t:jj c.A I src items i T.X T.h)(ok:M9 src items T.H)(hd:Hh T I)(hi:i<=items.length)
 (hn:∀v it h' tk,items[i]? =some it->VR T.X it v->jj c.A I src items (i+1) T.X h'->(∀{a ob},a≠I->T.h.get? a=some ob->h'.get? a=some ob)->Q (some v) {T.s with heap:=h',toks:=tk})
 (hz:∀h' tk,i=items.length->(∀{a ob},a≠I->T.h.get? a=some ob->h'.get? a=some ob)->Q none {T.s with heap:=h',toks:=tk}):wpAny M0 c.A (pyNext (.ref I)) Q E T.s:=by
 have key:∀{fp n P S},Walks pw cx.w c.A I fp [I] n P S->S i T.h->n=items.length->(∀j v,P j v->∃it,items[j]? =some it∧VR T.X it v)->(∀h,S (i+1) h->jj c.A I src items (i+1) T.X h)->wpAny M0 c.A (pyNext (.ref I)) Q E T.s:=λ{fp n P S} W st e p k=>by
  have sub:∀{h':Heap},(∀b o,b∉[I]->T.h.get? b=some o->h'.get? b=some o)->∀{a ob},a≠I->T.h.get? a=some ob->h'.get? a=some ob:=λ{h'} kk {a ob} ne e=>kk a ob (λz=>ne (Ô.mp z)) e
  rcases Ŝ i n with q|q
  ·exact W.item i T.s Q E q st λv h' tk hp kq kk=>(p i v hp).elim λit a=>hn v it h' tk a.1 a.2 (k h' kq) (sub kk)
  ·have e2:=BL (e▸hi) q
   exact W.done T.s Q E (e2▸st) λh' tk kk=>hz h' tk (e2.trans e) (sub kk)
 cases t with
 |walk K st f e p pl=>exact key K st e p λh st=> .walk K st f e p pl
 | @live j p e ht hit=>
   subst e
   replace ok:T.H[j]? =some (some (.list items)):=ok
   refine W.lst (VR.obj ht) rfl ok (P:=λx=>x= .ref p->wpAny M0 c.A (pyNext (.ref I)) Q E T.s) (λp' xs n ht' lv b f r z=> ?_) rfl
   obtain rfl:=aN z
   have jJ:p'≠I:=λz=>Ro.noConfusion (hd.f.symm.trans (z▸lv))
   exact key (Walks.list (prog:=pw) (w:=cx.w) C.hh I p' jJ xs.toArray) ⟨hit,Ř f⟩ r.sz.symm (λj v=>wc r) λh st=> .live rfl ht st.1
theorem DR.pairs {l:List (List Nat×V)}{es:List DictEntry}(r:DR X l es):∃Kt:List (Str×Value),Kt.map (·.1)=l.map (λe=>ĝ e.1)∧Pairs (strKind pw cx.w) es Kt:=
 r.ind ⟨[],rfl,.nil⟩ λ{k _ t x _ _} _ _ ih=>ih.elim λKt h=>⟨(ĝ k,x)::Kt,È (ĝ k::·) h.1,.cons (gx pw cx.w (ĝ k) t) rfl h.2⟩
def pj (target:Expr):Prop:=∀{M:Model} {A:Around} {I:Addr} {v:Value} {s:Shared} {E:Value->Shared->Prop} {Q:Unit->Shared->Prop},VH I s.heap->Q () s->wpAny M A (letOwnedTupleGo target (.ref I) v) Q E s
theorem nQ {y:Str}{pos:Pos}:pj (.Name y pos):=λ_ h=>Ê h
theorem pM {es:List Expr}{k:Nat}{pos:Pos}:pj (.Tuple es k pos):=λ{M A I v s E Q} hp h=>by
 cases v with
 |ref a=>
  obtain⟨o,n,vs,e,hc,hd,hp⟩:=hp
  refine Á (wpAny_load e ?_)
  rw[hc,hd]
  show wpAny M A (if ((["enumerate","zip","dict_itemiterator","dict_reverseitemiterator","odict_iterator","itertools.zip_longest","itertools.pairwise"].contains n&&_)=true) then _ else _) Q E s
  rw[show List.contains _ n=false from (á _).mp hp]
  exact Ê h
 |_=>exact Ê h
abbrev Q5 (c:Fm)(T:Sx)(src:V)(items:List V)(Q:Value->Shared->Prop):Prop:=∀o,jj c.A T.h.objs.size src items 0 T.X (T.h.push o)->Q (.ref T.h.objs.size) {T.s with heap:=T.h.push o}
theorem nj {a:Addr}{o:Obj}(e:h.get? a=some o):a≠h.objs.size:=î (ā e)
theorem v6 {a b c:Addr}{P:Prop}(hb:c∈[a,b])(e:c=b->P):c=a∨P:=(Û.mp hb).imp id λz=>e (Ô.mp z)
theorem jl {s:String}{vs:Array Value}:(h.push (itE s vs)).get? h.objs.size=some (itE s vs):=ë _ rfl
theorem OQ (C:FmOK c)(W:Wd T)(f:T.X.r p= .still (ē xs n))(r:Į T.X items xs)(hq:Q5 c T src items Q):wpAny M0 c.A (pyIter (.ref p)) Q E T.s:=
 GZ (Ř (W.still f)) (hq _ (.walk (Walks.list C.hh _ p (nj (W.still f)) xs.toArray) ⟨⟨_,jl,rfl,rfl⟩,(Ř (W.still f)).push _⟩ (λb hb=>v6 hb λz=>⟨_,z▸f⟩) r.sz.symm (λj v=>wc r) λj h st=>ms rfl st.1))
theorem OO (C:FmOK c)(W:Wd T)(f:T.X.r p= .still (f7 xs))(r:Į T.X items xs)(hq:Q5 c T src items Q):wpAny M0 c.A (pyIter (.ref p)) Q E T.s:=
 wpAny_pyIter_tuple (fY (W.still f)) (hq _ (.walk (Walks.tuple C.hh _ p (nj (W.still f)) xs.toArray) ⟨⟨_,jl,rfl,rfl⟩,(fY (W.still f)).at λo e=>Ø _ e⟩ (λb hb=>v6 hb λz=>⟨_,z▸f⟩) r.sz.symm (λj v=>wc r) λj h st=>ms rfl st.1))
theorem wk {a c:Addr}{P:Prop}(hb:c∈[a]):c=a∨P:= .inl (Ô.mp hb)
theorem yA {j:Nat}(h:SignAt (ĝ l) j v):∃it,(l.map λc=>V.str [c])[j]? =some it∧VR X it v:=by
 obtain⟨ch,u,h1,rfl⟩:=h
 have h1:l.toArray[j]? =some ch:=h1
 rw[Ė] at h1
 exact⟨.str [ch],by rw[Ü,h1];rfl,.str (Ó rfl:[ch].length<=ę) u⟩
theorem C0:(ĝ l).cps.size=(l.map λc=>V.str [c]).length:=Č.trans (Â _).symm
theorem OP {t:Tok}(C:FmOK c)(hq:Q5 c T src (l.map λc=> .str [c]) Q):wpAny M0 c.A (pyIter (.str (ĝ l) t)) Q E T.s:=by
 cases ha:(ĝ l).cps.all (·<128) with
 |false=>exact wpAny_pyIter_wide ha (hq _ (.walk (Walks.strWide C.hh _ (ĝ l) t) ⟨_,jl,rfl,rfl⟩ (λb=>wk) C0 (λj v=>yA) λj h=>ms rfl))
 |true=>exact wpAny_pyIter_ascii ha (hq _ (.walk (Walks.strAscii C.hh _ (ĝ l) t) ⟨_,jl,rfl,rfl⟩ (λb=>wk) C0 (λj v=>yA) λj h=>ms rfl))
theorem DH {t1 t2 t3:Tok}(C:FmOK c)(W:Wd T)(f:T.X.r p= .still (Ca lo hi st t1 t2 t3))(sm:Builtin.Range.small lo hi st=true)(sz:Builtin.Range.rangeSize lo hi st=(n:Int))(e:jd lo hi st=(List.range n).map λk=> .int (lo+st*(k:Int)))(hq:Q5 c T src (jd lo hi st) Q):wpAny M0 c.A (pyIter (.ref p)) Q E T.s:=
 wpAny_pyIter_range (W.still f) sm (hq _ (by
  rw[sz,e]
  refine .walk (Walks.range (n:=n) (c:=st) C.hh _ lo).bound ?_ (λb=>wk) ((Â _).trans bK).symm (λj v hj=> ?_) λj h st=>ms rfl ⟨_,st,rfl,rfl⟩
  ·show IsRangeIter _ _ (lo+((0:Nat):Int)*st) ((n:Int)-((0:Nat):Int)) _
   rw[show ((0:Nat):Int)=0 from rfl,Int.zero_mul,Int.add_zero,vq]
   exact jl
  ·obtain⟨hj,u,rfl⟩:=hj
   exact⟨.int (lo+st*(j:Int)),by rw[Ü,List.getElem?_range hj];rfl,by rw[Int.mul_comm];exact .int _ _⟩))
theorem OS {es:List (List Nat×V)}{de:List DictEntry}(C:FmOK c)(W:Wd T)(nd:(es.map (·.1)).Nodup)(kb:∀e∈es,e.1.length<=ę)(ns:(p==sysModules)=false)(f:T.X.r p= .still (dictOf de n))(r:DR T.X es de)(hq:Q5 c T src (es.map λe=> .str e.1) Q):wpAny M0 c.A (pyIter (.ref p)) Q E T.s:=by
 have e:=W.still f
 obtain⟨Kt,hk,hp⟩:=r.pairs
 have inj:(es.map λe=>ĝ e.1).Nodup:=by
  rw[List.nodup_iff_pairwise_ne,List.pairwise_map] at nd⊢
  exact nd.imp λne z=>ne (rd z)
 have D:T.h.DictAt (strKind pw cx.w) p Kt n:=⟨_,de.toArray,e,⟨rfl,rfl,rfl⟩,rfl,λx hx=>(r.keys x (eE.mp hx)).elim λy h=>h.elim λt h=>⟨y,by rw[h.1];exact gx pw cx.w y t,h.2⟩,hp,by rw[hk];exact inj⟩
 have hl:Kt.length=es.length:=by rw[←Â (·.1),hk,Â]
 refine wpAny_pyIter_dict ns D (hq _ (.walk (Walks.dictKeys (knd:=strKind pw cx.w) C.hh _ p (nj e) Kt n) ⟨⟨_,jl,rfl,rfl⟩,D.push _⟩ (λb hb=>v6 hb λz=>⟨_,z▸f⟩) (hl.trans (Â _).symm) (λj v hj=> ?_) λj h st=>ms rfl st.1))
 obtain⟨k,x,hj,hv⟩:=hj
 obtain⟨t,rfl⟩:=Value.isStrOf_shape hv
 have e1:(es.map λe=>ĝ e.1)[j]? =some k:=by rw[←hk,Ü,hj];rfl
 rw[Ü] at e1
 obtain⟨en,e2,rfl⟩:=kD e1
 exact⟨.str en.1,by rw[Ü,e2];rfl,.str (kb _ (bX e2)) _⟩
theorem rJ {α:Type}{q:Prop}[Decidable q]{a b:α}(h:(if q then some a else none)=some b):q∧a=b:=by
 by_cases k:q
 ·exact⟨k,Ä ((Î k).symm.trans h)⟩
 ·exact nS ((Ñ k).symm.trans h)
theorem ju {o:Option (Option O)}(h:qP o=some items):o=some (some (.list items)):=by
 cases o with
 |none=>exact nS h
 |some o=>cases o with
  |none=>exact nS h
  |some o=>cases o with
   |list=>exact Ä h▸rfl
   |_=>exact nS h
theorem ux (C:FmOK c)(W:Wd T)(hv:VR T.X src x)(e:ŵ src T.H=some items)(hq:Q5 c T src items Q):wpAny M0 c.A (pyIter x) Q E T.s:=by
 cases src with
 |lst=>
  obtain rfl:=Ä e
  exact hv.on λp xs n b f r=>OQ C W f r hq
 |tup=>
  obtain rfl:=Ä e
  exact hv.on λp xs b f r=>OO C W f r hq
 |str=>
  obtain rfl:=Ä e
  exact hv.on λt b=>OP C hq
 |rng lo hi st=>
  obtain⟨⟨q,h2,h3⟩,rfl⟩:=rJ e
  exact hv.on λp t1 t2 t3 f=>by
   rcases q with rfl|rfl
   ·exact DH C W f (small_one (gP h2) (gQ h2) (gP h3) (gQ h3)) (rangeSize_nat _ _) (by unfold jd;rw[Î (by decide),dF,Ś]) hq
   ·exact DH C W f (small_down (gP h2) (gQ h2) (gP h3) (gQ h3)) (rangeSize_downNat _ _) (by unfold jd;rw[Ñ (by decide),Î (by decide),show (- -1:Int)=1 from rfl,dF,show lo-hi- -1-1=lo-hi from Ś _ _]) hq
 |dic es=>
  obtain⟨h,rfl⟩:=rJ e
  exact hv.on λp de n ns f r=>OS C W h.1 h.2 ns f r hq
 |obj i=>exact W.lst hv rfl (ju e) λp xs n ht _ b f r=>GZ (Ř f) (hq _ (.live rfl ht ⟨_,jl,rfl,rfl⟩))
 |_=>exact nS e
theorem Jp (t:jj A I src items i T.X T.h)(h:Q (.ref I) T.s):wpAny M0 A (pyIter (.ref I)) Q E T.s:=by
 cases t with
 |walk W st f hl p pl=>exact W.self _ T.s Q E st h
 |live _ _ hit=>exact wpAny_pyIter_listiter hit h
theorem ÁO {H:AH}(e:ŵ src H=some items):M9 src items H:=by
 cases src with
 |obj i=>exact ju e
 |_=>trivial
end
structure vH (c:Fm):Prop where
 st:c.st=true
 ne:∀{x ca},c.env.cells.lookup x=some ca->ca≠c.L
 apart:∀{x y ca},c.env.cells.lookup x=some ca->c.env.cells.lookup y=some ca->x=y
def oU (c:Fm)(x:Str):Prop:=c.env.kindOf x=some .local∨(c.env.kindOf x=some .cell∧vH c)
inductive BF (c:Fm):List Nat->List Expr->Prop
 |nil:BF c [] []
 |cons {i:Nat} {x:Str} {pos:Pos} {is:List Nat} {es:List Expr}:c.ns[i]? =some x->oU c x->BF c is es->BF c (i::is) (.Name x pos::es)
section
variable {c:Fm} {ρ Ĥ:Loc} {T T':Sx} {X:Gh} {h':Heap} {i tk k:Nat} {x:Str} {v:V} {val:Value} {E:Value->Shared->Prop} {Q:Unit->Shared->Prop} {m:Str->Option Value} {D a:Addr} {o:Obj} {is:List Nat} {es:List Expr} {vs:List V} {xs:List Value} {pos:Pos} {r:Ro}
theorem Ħ.reown (R:Ħ c ρ T)(kk:∀{a ob},T.X.r a≠ .mine c.L->T.h.get? a=some ob->h'.get? a=some ob)(oc:∀{a},T.X.r a= .mine c.L->a=c.L∨∃o v,h'.get? a=some o∧o.data= .cell v)(hn:h'.Ns c.L m)
 (loc:∀{i:Nat} {x v},c.ns[i]? =some x->Ĥ[i]? =some (some v)->lL T.X c.env h' m x v):Nx c Ĥ T ⟨T.X,T.H,{T.s with heap:=h',toks:=tk}⟩:=by
 obtain⟨oL,eL,dL,_⟩:=QG hn
 have gr:∀{a o},T.h.get? a=some o->∃o',h'.get? a=some o':=λ{a o} e=>by
  by_cases q:T.X.r a= .mine c.L
  ·exact (oc q).elim (λz=>⟨oL,z▸eL⟩) λ⟨o,_,e,_⟩=>⟨o,e⟩
  ·exact⟨o,kk q e⟩
 exact⟨{
  g:=R.g
  os:=R.os
  gens:=R.gens
  base:=R.base
  still:=λe=>kk (Hm e) (R.still e)
  len:=R.len
  obj:=λh1 h2=>⟨(R.obj h1 h2).1,(R.obj h1 h2).2.mono .refl λ_=>kk (oM (R.obj h1 h2).1)⟩
  live:=R.live
  own:=λ{a L} e=>by
   obtain⟨q,⟨o,e1⟩,z⟩:=R.own e
   refine⟨q,gr e1,?_⟩
   by_cases w:T.X.r a= .mine c.L
   ·have:Ro.mine L= .mine c.L:=e.symm.trans w
    injection this with this
    exact this▸oc w
   ·exact z.imp id λ⟨o,v,e,d⟩=>⟨o,v,kk w e,d⟩
  k:=R.k
  ownL:=R.ownL
  above:=R.above
  frm:=R.frm
  cw:=R.cw
  frames:=dy R.frames λL hL o e d=>by
   by_cases q:T.X.r L= .mine c.L
   ·have:Ro.mine L= .mine c.L:=(R.frm hL).symm.trans q
    injection this with this
    exact⟨oL,this▸eL,dL⟩
   ·exact⟨o,kk q e,d⟩
  loc:=⟨m,hn,loc⟩},⟨λe _ n=> .inl (kk n e),gr,.refl,λ_=> .same,.inl,Å _⟩⟩
theorem Cw (R:Ħ c ρ T){j:Nat}{y:Str}(hi:c.ns[i]? =some x)(hj:c.ns[j]? =some y)(q:j≠i):y≠x:=λz=>q ((List.getElem?_inj (Õ.mp hj).1 R.k.nd).mp (hj.trans (z▸hi.symm)))
theorem tZ (R:Ħ c ρ T)(hi:c.ns[i]? =some x)(hk:c.env.kindOf x=some .local)(hv:VR T.X v val)(hq:∀s',Nx c (sL ρ i v) T ⟨T.X,T.H,s'⟩->Q () s'):wpAny M0 c.A (bindName c.env x val) Q E T.s:=by
 obtain⟨m,hn,r⟩:=R.loc
 refine WD (wpAny_storeName_local hk hn (λh' Xm hs=>hq _ (R.reown (tk:=T.s.toks+1) (λq e=>hs.extBut _ _ (λz=>q (z▸R.ownL)) e) (λq=>(R.own q).2.2.imp id λ⟨o,v,e,d⟩=>⟨o,v,hs.extBut _ _ (R.cellL e d) e,d⟩) Xm λ{j y u} h1 h2=> ?_)) (by rw[R.k.kind];rfl))
 rcases mI h2 with ⟨rfl,e⟩|⟨q,e⟩
 ·rw[←Ä (hi.symm.trans h1),←Ä e]
  exact .loc val hk (Î rfl) hv
 ·exact (r h1 e).casesOn (λw a b r=> .loc w a ((Ñ (Cw R hi h1 q)).trans b) r) λca kk o w a e q ho hd r=> .cell ca kk o w a e q (hs.extBut _ _ (R.cellL ho hd) ho) hd r
theorem HY (F:vH c)(R:Ħ c ρ T)(hi:c.ns[i]? =some x)(hk:c.env.kindOf x=some .cell)(hv:VR T.X v val)(hq:∀s',Nx c (sL ρ i v) T ⟨T.X,T.H,s'⟩->Q () s'):wpAny M0 c.A (bindName c.env x val) Q E T.s:=by
 obtain⟨m,hn,r⟩:=R.loc
 obtain⟨ca,zX⟩:=R.k.cells x (.inl hk)
 have rc:=R.cw F.st hk zX
 obtain⟨oc,w,ec,dc⟩:=(R.own rc).2.2.resolve_left (F.ne zX)
 refine WD (wpAny_storeName_cell R.k.kind hk zX ⟨oc,ec,dc⟩ (λh' hc hs=>hq _ ?_))
 obtain⟨o',e',d'⟩:=hc
 have kk:∀{a ob},a≠ca->T.h.get? a=some ob->h'.get? a=some ob:=λne e=>hs.extBut _ _ ne e
 refine R.reown (tk:=T.s.toks) (λq e=>kk (λz=>q (z▸rc)) e) (λ{a} q=> ?_) (Ns.sl hn λe=>⟨_,kk (λz=>F.ne zX z.symm) e,rfl⟩) λ{j y u} h1 h2=> ?_
 ·by_cases z:a=ca
  ·exact .inr ⟨o',_,z▸e',d'⟩
  ·exact (R.own q).2.2.imp id λ⟨o,v,e,d⟩=>⟨o,v,kk z e,d⟩
 ·rcases mI h2 with ⟨rfl,e⟩|⟨q,e⟩
  ·rw[←Ä (hi.symm.trans h1),←Ä e]
   exact .cell ca c.L o' val (.inl hk) zX rc e' d' hv
  ·exact (r h1 e).casesOn (λw a b r=> .loc w a b r) λca' l o w a e z ho hd r=> .cell ca' l o w a e z (kk (λz=>Cw R hi h1 q (F.apart (z▸e) zX)) ho) hd r
theorem Qz (hi:c.ns[i]? =some x)(hk:oU c x)(hv:VR T.X v val)(hq:∀s',Nx c (sL ρ i v) T ⟨T.X,T.H,s'⟩->Q () s')(R:Ħ c ρ T):wpAny M0 c.A (bindName c.env x val) Q E T.s:=
 hk.elim (λh=>tZ R hi h hv hq) λh=>HY h.2 R hi h.1 hv hq
theorem BF.each (t:BF c is es)(env:Env):assignEach es env=es.map λe=>(false,assign e env):=by
 induction t with
 |nil=>rfl
 |cons _ _ _ ih=>rw[ß,←ih];rfl
theorem BF.len (t:BF c is es):is.length=es.length:=by
 induction t with
 |nil=>rfl
 |cons _ _ _ ih=>exact È (·+1) ih
theorem Gu (t:BF c is es):∀{vs:List V} {xs:List Value} {ρ:Loc} {s:Shared},Ħ c ρ ⟨X,T.H,s⟩->Į X vs xs->iV ρ is vs=some Ĥ->(∀s',Nx c Ĥ ⟨X,T.H,s⟩ ⟨X,T.H,s'⟩->Q () s')->wpAny M0 c.A (assignInOrder (es.map λe=>assign e c.env) xs) Q E s:=by
 induction t with
 |nil=>
  intro vs xs ρ s R r e hq
  cases vs with
  |nil=>exact r.on (Ê (hq s ⟨Ä e▸R,.refl⟩))
  |cons=>exact nS (show none=some Ĥ from e)
 | @cons i x pos is es h1 h2 t ih=>
   intro vs xs ρ s R r e hq
   cases vs with
   |nil=>exact nS (show none=some Ĥ from e)
   |cons v vs=>
    revert hq
    exact r.on λval xs a r hq=>by
     rw[ß]
     refine wpAny_assignInOrder_more ?_
     rw[sf]
     exact Á (ò (Qz (T:=⟨X,T.H,s⟩) h1 h2 a (λĘ n=>ih n.r r e λs' n'=>hq s' ⟨n'.r,n.s.trans n'.s⟩) R))
theorem AE:∀{vs:List V} {ρ:Loc},iV ρ is vs=some Ĥ->is.length=vs.length:=by
 induction is with
 |nil=>exact λ{vs ρ} h=>by cases vs with
  |nil=>rfl
  |cons=>exact nS h
 |cons i is ih=>exact λ{vs ρ} h=>by cases vs with
  |nil=>exact nS h
  |cons v vs=>exact È (·+1) (ih (vs:=vs) (ρ:=sL ρ i v) h)
theorem jx (C:FmOK c)(t:BF c is es)(hv:VR T.X (.tup vs) val)(e:iV ρ is vs=some Ĥ)(hq:∀s',Nx c Ĥ T ⟨T.X,T.H,s'⟩->Q () s')(R:Ħ c ρ T):wpAny M0 c.A (assign (.Tuple es k pos) c.env val) Q E T.s:=by
 revert hq
 refine hv.on λa xs b f r hq=> ?_
 have he:=t.each c.env
 have hl:=(t.len.symm.trans (AE e)).trans r.length
 have hm:(assignEach es c.env).map (·.2)=es.map λe=>assign e c.env:=by rw[he,õ];rfl
 refine wpAny_assign_Tuple (items:=xs.toArray) C.hh (fY (R.still f)) (by rw[he,Â,Č];exact hl) ?_ λh' hs=> ?_
 ·rw[he,List.findIdx?_eq_none_iff]
  intro p hp
  obtain⟨q,_,rfl⟩:=Þ.mp hp
  rfl
 ·rw[hm]
  have n:=R.grown (tk:=T.s.toks) (h':=h') (.of λa o e=>hs a o (î (ā e)) e)
  exact Gu (T:=T) t n.r r e λs' n'=>hq s' ⟨n'.r,n.s.trans n'.s⟩
theorem Ħ.weak (R:Ħ c ρ T)(h:∀{i:Nat} {v:V},Ĥ[i]? =some (some v)->ρ[i]? =some (some v)):Ħ c Ĥ T:={R with loc:=R.loc.imp λ_ z=>⟨z.1,λh1 h2=>z.2 h1 (h h2)⟩}
theorem Gh.le_put (f:X.r a= .free):X.le (X.put a r):=⟨id,λ{b o} e=>(ķ λz=>Ro.noConfusion (f.symm.trans (z▸e))).trans e,λ{b L} e=>(ķ λz=>Ro.noConfusion (f.symm.trans (z▸e))).trans e⟩
theorem tw {b:Addr}{q:Ro}(e:(X.put a r).r b=q):(b=a∧q=r)∨X.r b=q:=by
 by_cases z:b=a
 ·exact .inl ⟨z,e.symm.trans (z▸aw)⟩
 ·exact .inr ((ķ z).symm.trans e)
theorem Ħ.fix (R:Ħ c ρ T)(hd:T.X.r D= .free)(e:T.h.get? D=some o):Ħ c ρ ⟨T.X.put D (.still o),T.H,T.s⟩:=by
 have K:=KL.mv R (h':=T.h) (.of λ_ _ e=>e)
 refine K.rel (tk:=T.s.toks) R (Gh.le_put hd) R.len (λq=>(tw q).elim (λz=> .inr (by rw[z.1,vM z.2];exact e)) .inl) (λq=>(tw q).elim (λz=>nomatch z.2) id) (λh1 h2=> ?_) λq=>R.live ((tw q).elim (λz=>nomatch z.2) id)
 have lv:=(R.obj h1 h2).1
 exact⟨(ķ λz=>Ro.noConfusion (hd.symm.trans (z▸lv))).trans lv,(R.obj h1 h2).2.mono (Gh.le_put hd) λ_ e=>e⟩
theorem Step.fix (S:Step c T T')(n:T.h.get? D=none)(f:T'.X.r D= .free):Step c T ⟨T'.X.put D (.still o),T'.H,T'.s⟩:=
 ⟨S.keep,S.grows,S.le.trans (Gh.le_put f),λ{a _} e=>by
  rw[ķ λz=>nS (n.symm.trans ((È _ z).symm.trans e))]
  exact S.tr e,λe=>(tw e).elim (λz=>nomatch z.2) S.mn,S.hl⟩
end
structure Kd where
 ch:List Expr
 k:Nat
 nm:Str
 sc:Option Scope
noncomputable abbrev B4 (l:List Expr):Kd:=⟨l,0,⟨#[]⟩,none⟩
noncomputable abbrev dx:Expr:= .Constant .none 0 theWindowsPlace
noncomputable def gOf (l:List Comprehension):List Expr:=match l with
 |g::_=>g.target::g.iter::g.ifs
 |[]=>[]
noncomputable def kd (x:Expr):Kd:=match x with
 | .BoolOp _ l _=>B4 l
 | .BinOp a _ b _=>B4 [a,b]
 | .UnaryOp _ a _=>B4 [a]
 | .IfExp a b c _=>B4 [a,b,c]
 | .ListComp e gs sc _=>⟨e::gOf gs,0,⟨#[]⟩,some sc⟩
 | .Compare a _ l _=>B4 (a::l)
 | .Call f as _ _=>B4 (f::as)
 | .Constant _ k _=>⟨[],k,⟨#[]⟩,none⟩
 | .Attribute a _ _=>B4 [a]
 | .Subscript a b _=>B4 [a,b]
 | .Name s _=>⟨[],0,s,none⟩
 | .List l _=>B4 l
 | .Tuple l k _=>⟨l,k,⟨#[]⟩,none⟩
 | .Slice a b c _=>B4 [a.getD dx,b.getD dx,c.getD dx]
 |_=>B4 []
noncomputable abbrev kx (x:Expr)(i:Nat):Expr:=(kd x).ch.getD i dx
noncomputable abbrev nm (x:Expr):Str:=(kd x).nm
noncomputable abbrev BD (x:Expr):Expr:= .Name (nm x) x.pos
noncomputable def ve (k:Option Nat)(t:Expr):List Str:=match k with
 |none=>[nm t]
 |some _=>[nm (kx t 0),nm (kx t 1)]
noncomputable def BS (k:Option Nat)(t:Expr):Expr:=match k with
 |none=>BD t
 |some _=> .Tuple [BD (kx t 0),BD (kx t 1)] (kd t).k t.pos
theorem E9 {k:Option Nat}{t:Expr}:pj (BS k t):=by
 cases k with
 |none=>exact nQ
 |some=>exact pM
structure pq (c:Fm)(scope:Scope)(k:Option Nat)(tg cap:List Str)(Ģ:List Nat):Prop where
 k2:k=none∨k=some 2
 kind:scope.kind= .function
 nocell:∀y∈scope.names,y.2≠ .cell
 locals:∀y∈scope.names,y.2= .local->scope.names.lookup y.1=some .local
 free:∀y∈scope.names,y.2= .free->c.env.kindOf y.1=some .cell∨c.env.kindOf y.1=some .free
 tgl:∀x∈tg,scope.names.lookup x=some .local
 nd:(tg++cap).Nodup
 cap:∀{j i:Nat} {x:Str},Ģ[j]? =some i->cap[j]? =some x->c.ns[i]? =some x∧scope.names.lookup x=some .free∧(c.env.kindOf x=some .cell∨c.env.kindOf x=some .free)
abbrev HI (scope:Scope)(env:Env)(cl:List (Str×Addr)):Prop:=∀y∈scope.names,y.2= .free->∃ca,cl.lookup y.1=some ca∧env.cells.lookup y.1=some ca
noncomputable abbrev du (c:Fm)(scope:Scope)(cl:List (Str×Addr))(names:List Str)(L:Addr):Fm:=⟨c.A,compEnvC scope cl L c.env,c.frs,names,false⟩
noncomputable def rl (env:Env)(n:Str)(k:NameKind):NameKind:=if (k== .free&&env.scope.kind== .function&&env.kindOf n==some .cell)=true then .cell else k
section
variable {c:Fm} {ρ Ĥ:Loc} {T T':Sx} {scope:Scope} {tg cap:List Str} {Ģ:List Nat} {cl:List (Str×Addr)} {L:Addr} {k:Option Nat} {t:Expr} {env:Env} {x:Str} {v:V} {n:Nat} {names:List (Str×NameKind)}
theorem dU {β:Type}{p:Str×β}{l:List (Str×β)}:(p::l).lookup x=if x=p.1 then some p.2 else l.lookup x:=by
 rw[show p=(p.1,p.2) from rfl,į]
 by_cases q:x=p.1
 ·rw[Î q,è.mpr q]
 ·rw[Ñ q,Ù.mpr q]
theorem fE {β:Type}{b:β}{l:List (Str×β)}(h:l.lookup x=some b):(x,b)∈l:=by
 obtain⟨l₁,sW,e,_⟩:=Qx.mp h
 exact e▸ļ _ (.head _)
theorem zd {β:Type}{p:Str×β}{l:List (Str×β)}(h:l.lookup x≠none):(p::l).lookup x≠none:=by
 rw[dU]
 by_cases q:x=p.1
 ·rw[Î q];exact nofun
 ·rw[Ñ q];exact h
noncomputable def XH (env:Env)(x:Str×NameKind)(r:List (Str×Addr)):Sem (ForInStep (List (Str×Addr))):=if (x.2==NameKind.free)=true then do let a←cellOf env x.1;pure (ForInStep.yield ((x.1,a)::r)) else pure (ForInStep.yield r)
theorem xA {l:List (Str×NameKind)}:∀{cs:List (Str×Addr)},(∀y∈l,y.2= .free->∃ca,env.cells.lookup y.1=some ca)->(∀{x ca},cs.lookup x=some ca->env.cells.lookup x=some ca)->
 ∃KE,forIn l cs (XH env)=pure KE∧(∀{x ca},KE.lookup x=some ca->env.cells.lookup x=some ca)∧(∀{x},cs.lookup x≠none->KE.lookup x≠none)∧∀y∈l,y.2= .free->KE.lookup y.1≠none:=by
 induction l with
 |nil=>exact λ{cs} _ hc=>⟨cs,rfl,hc,id,λ_ h=>nomatch h⟩
 |cons x l ih=>
  intro cs hl hc
  rw[BP]
  by_cases hx:x.2= .free
  ·obtain⟨ca,zX⟩:=hl x (.head _) hx
   have e:cellOf env x.1=pure ca:=by unfold cellOf;rw[zX]
   obtain⟨KE,h1,h2,h3,h4⟩:=ih (cs:=(x.1,ca)::cs) (λy hy=>hl y (.tail _ hy)) λ{z a} hz=>by
    rw[dU] at hz
    by_cases q:z=x.1
    ·rw[Î q] at hz
     rw[q,zX];exact hz
    ·rw[Ñ q] at hz;exact hc hz
   refine⟨KE,?_,h2,λhz=>h3 (zd hz),λy hy hf=>(Û.mp hy).elim (λq=>h3 (by rw[dU,Î (È _ q)];exact nofun)) λq=>h4 y q hf⟩
   rw[show XH env x cs=cellOf env x.1 >>= λa=>pure (ForInStep.yield ((x.1,a)::cs)) from Î (è.mpr hx),e,pure_bind,pure_bind];exact h1
  ·obtain⟨KE,h1,h2,h3,h4⟩:=ih (λy hy=>hl y (.tail _ hy)) hc
   refine⟨KE,?_,h2,h3,λy hy hf=>(Û.mp hy).elim (λq=>absurd (q▸hf) hx) λq=>h4 y q hf⟩
   rw[show XH env x cs=pure (ForInStep.yield cs) from Ñ λz=>hx (eq_of_beq z),pure_bind];exact h1
theorem xy (h:∀y∈scope.names,y.2= .free->∃ca,env.cells.lookup y.1=some ca):∃cl,closureFor scope env=pure cl∧HI scope env cl:=by
 obtain⟨cl,h1,h2,_,h4⟩:=xA (cs:=[]) h λh=>nS h
 refine⟨cl,(È (·>>= pure) h1).trans (pure_bind _ _),λy hy hf=> ?_⟩
 cases e:cl.lookup y.1 with
 |some ca=>exact⟨ca,rfl,h2 e⟩
 |none=>exact absurd e (h4 y hy hf)
theorem kS:(relabel scope env).names.lookup x=(scope.names.lookup x).map (rl env x):=by
 refine (È (λf=>(scope.names.map f).lookup x) (funext λp=> ?_:_=λp=>(p.1,rl env p.1 p.2))).trans ?_
 ·show (if _ then _ else _)=(p.1,if _ then _ else _)
  by_cases q:(p.2==NameKind.free&&env.scope.kind== .function&&env.kindOf p.1==some .cell)=true
  ·rw[Î q,Î q]
  ·rw[Ñ q,Ñ q]
 ·induction scope.names with
  |nil=>rfl
  |cons p r ih=>
   rw[ß,dU,dU,ih]
   by_cases q:x=p.1
   ·rw[Î q,Î q,q];rfl
   ·rw[Ñ q,Ñ q]
theorem Io (h:scope.names.lookup x=some .free):(relabel scope env).names.lookup x=some .cell∨(relabel scope env).names.lookup x=some .free:=by
 rw[kS,h]
 by_cases q:(NameKind.free== .free&&env.scope.kind== .function&&env.kindOf x==some .cell)=true
 ·exact .inl (È some (Î q))
 ·exact .inr (È some (Ñ q))
theorem yG (S:pq c scope k tg cap Ģ){kk:NameKind}(hk:kk= .cell∨kk= .free)(h:(relabel scope c.env).names.lookup x=some kk):(x,.free)∈scope.names:=by
 rw[kS] at h
 obtain⟨k,e,h⟩:=kD h
 have hm:=fE e
 by_cases q:(k== .free&&c.env.scope.kind== .function&&c.env.kindOf x==some .cell)=true
 ·rw[←eq_of_beq (aL (aL q))];exact hm
 ·rw[←(Ñ q).symm.trans h] at hk
  exact hk.elim (λz=>absurd z (S.nocell _ hm)) λz=>z▸hm
theorem Gn (K:XW c)(S:pq c scope k tg cap Ģ)(sG:HI scope c.env cl):XW (du c scope cl (tg++cap) L) where
 kind:=S.kind
 glob:=K.glob
 bl:=K.bl
 nd:=S.nd
 cells:=λx h=>(sG _ (h.elim (yG S (.inl rfl)) (yG S (.inr rfl))) rfl).imp λ_ h=>h.1
 frames:=K.frames
 units:=K.units
 depth:=K.depth
theorem j3 {j:Nat}{Oc:List Str}(C:xO j c n):xO j (du c scope cl Oc L) n:=⟨⟨C.hh⟩,C.u,C.d⟩
noncomputable abbrev jO (Ģ:List Nat)(ρ:Loc):List (Option V):=Ģ.map λi=>(ρ[i]?).join
noncomputable abbrev Ce (tg:List Str)(Ģ:List Nat)(ρ:Loc):Loc:=(tg.map λ_=>none)++jO Ģ ρ
theorem Lj {vs:List V}(h:vs.length=2):∃a b,vs=[a,b]:=by
 cases vs with
 |nil=>exact nomatch h
 |cons a r=>cases r with
  |nil=>exact nomatch h
  |cons b r=>cases r with
   |nil=>exact⟨a,b,rfl⟩
   |cons=>exact nomatch h
theorem Br {ca:List (Option V)}(e:cT (some 2) v ca=some Ĥ):∃a b,v= .tup [a,b]∧some a::some b::ca=Ĥ:=by
 cases v with
 |tup vs=>
  have q:=rJ (show (if vs.length=2 then some (vs.map some++ca) else none)=some Ĥ from e)
  obtain⟨a,b,h⟩:=Lj q.1
  exact⟨a,b,È _ h,(È (λvs=>vs.map some++ca) h).symm.trans q.2⟩
 |_=>exact nS e
theorem uU {P:Prop}(k2:k=none∨k=some 2)(e:cT k v (jO Ģ ρ)=some Ĥ)(h1:k=none->some v::jO Ģ ρ=Ĥ->P)(h2:∀a b,k=some 2->v= .tup [a,b]->some a::some b::jO Ģ ρ=Ĥ->P):P:=
 k2.elim (λz=>h1 z (Ä ((È (cT · v _) z).symm.trans e))) λz=>(Br ((È (cT · v _) z).symm.trans e)).elim λa h=>h.elim λb h=>h2 a b z h.1 h.2
theorem xE (k2:k=none∨k=some 2)(e:cT k v (jO Ģ ρ)=some Ĥ){i:Nat}{w:V}(h:(Ce (ve k t) Ģ ρ)[i]? =some (some w)):Ĥ[i]? =some (some w):=by
 revert h
 refine uU k2 e (λz e'=> ?_) λa b z _ e'=> ?_
 ·subst z;subst e'
  cases i with
  |zero=>exact λh=>nS (Ä h)
  |succ i=>exact λh=>h
 ·subst z;subst e'
  cases i with
  |zero=>exact λh=>nS (Ä h)
  |succ i=>cases i with
   |zero=>exact λh=>nS (Ä h)
   |succ i=>exact λh=>h
theorem Bk (C:FmOK c)(S:pq c scope k (ve k t) cap Ģ){xv:Value}{E:Value->Shared->Prop}{Q:Unit->Shared->Prop}(hv:VR T.X v xv)(e:cT k v (jO Ģ ρ)=some Ĥ)
 (hq:∀s',Nx (du c scope cl (ve k t++cap) L) Ĥ T ⟨T.X,T.H,s'⟩->Q () s') (R:Ħ (du c scope cl (ve k t++cap) L) (Ce (ve k t) Ģ ρ) T):wpAny M0 c.A (assign (BS k t) (compEnvC scope cl L c.env) xv) Q E T.s:=by
 have loc:∀x∈ve k t,oU (du c scope cl (ve k t++cap) L) x:=λx hx=> .inl (by
  show (relabel scope c.env).names.lookup x=_
  rw[kS,S.tgl x hx];rfl)
 revert hq R loc hv
 refine uU S.k2 e (λz e'=> ?_) λa b z z' e'=> ?_
 ·subst z;subst e'
  exact λhv hq R loc=>by
   show wpAny M0 c.A (assign (.Name _ _) _ xv) Q E T.s
   rw[sf]
   exact Á (ò (Qz (ρ:=none::jO Ģ ρ) (c:=du c scope cl _ L) (i:=0) rfl (loc _ (.head _)) hv hq R))
 ·subst z;subst z';subst e'
  exact λhv hq R loc=>jx (ρ:=none::none::jO Ģ ρ) (c:=du c scope cl _ L) (is:=[0,1]) ⟨C.hh⟩ (.cons rfl (loc _ (.head _)) (.cons rfl (loc _ (.tail _ (.head _))) .nil)) hv rfl hq R
end
abbrev RY:Ĩ:=λ_ _=>False
def SC (Φ:Ď)(f:Fm)(cond:Option PE)(ifs:List Expr):Prop:=∀{T:Sx} {ρ:Loc} {Q:qk},Rv Φ cond ρ T.H Q->ĥ f ρ T (forIn ifs true λc r=>if r=true then do let ok←isTrue c f.env (eval c f.env);pure (ForInStep.yield ok) else pure (ForInStep.yield r)) VB RY Q
structure FS (f:Fm)(S:Sx)(I:Addr)(src:V)(items:List V)(ρ:Loc)(i:Nat)(T:Sx):Prop where
 r:Ħ f ρ T
 s:Step f S T
 hI:Hh T I
 it:jj f.A I src items i T.X T.h
 hi:i<=items.length
structure CS (f:Fm)(S:Sx)(I D:Addr)(src:V)(items:List V)(ρ:Loc)(i:Nat)(as:List V)(T:Sx):Prop extends FS f S I src items ρ i T where
 hD:T.X.r D= .free
 l:∃xs n,T.h.get? D=some (ē xs n)∧Į T.X as xs
 hb:as.length<=ę
structure CW (f:Fm)(S:Sx)(I D:Addr)(src:V)(items:List V)(eM:AH):Prop where
 C:FmOK f
 nI:S.h.get? I=none
 nD:S.h.get? D=none
 ne:D≠I
 it:ŵ src eM=some items
section
variable {Φ:Ď} {f:Fm} {S T T':Sx} {I D:Addr} {src w:V} {items as:List V} {ρ Ĥ gG:Loc} {i n tk:Nat} {eM:AH} {h':Heap} {elt:PE} {cond:Option PE} {dK target iter:Expr} {ifs:List Expr} {scope:Scope} {pos:Pos} {Q:QT} {K:Option V->AH->Prop} {Er:Value->Shared->Prop} {k:Option Nat} {Ģ:List Nat} {tK:List (Option V)}
theorem zk {H:AH}(e:ŵ src eM=some items)(s:Ũ src eM H):M9 src items H:=by
 cases src with
 |obj j=>exact (show H[j]? =eM[j]? from s).trans (ju e)
 |_=>trivial
theorem FS.next (fs:FS f S I src items ρ i T)(n:Nx f Ĥ T T'):FS f S I src items Ĥ i T' where
 r:=n.r
 s:=fs.s.trans n.s
 hI:=fs.hI.step fs.r n.s
 it:=fs.it.mono fs.r.toWd n.r.toWd n.s.le λo e=>fs.hI.keeps fs.r n.s e
 hi:=fs.hi
theorem FS.took (nI:S.h.get? I=none)(fs:FS f S I src items ρ i T)(k:∀{a ob},a≠I->T.h.get? a=some ob->h'.get? a=some ob)(hi:i+1<=items.length)(t:jj f.A I src items (i+1) T.X h'):FS f S I src items ρ (i+1) ⟨T.X,T.H,{T.s with heap:=h',toks:=tk}⟩ where
 r:=fs.r.stir fs.hI.f k
 s:=fs.s.stir nI k
 hI:=⟨fs.hI.f,t.pl.imp λ_ z=>z.elim λ_ z=>z.elim λ_ z=>z.1⟩
 it:=t
 hi:=hi
theorem CS.next (cs:CS f S I D src items ρ i as T)(n:Nx f Ĥ T T'):CS f S I D src items Ĥ i as T' where
 toFS:=cs.toFS.next n
 hD:=cs.l.elim λ_ z=>z.elim λ_ z=>(cs.hD▸n.s.tr z.1).free
 l:=cs.l.imp λ_ z=>z.imp λ_ z=>⟨Hh.keeps cs.r ⟨cs.hD,_,z.1⟩ n.s z.1,z.2.mono n.s.le⟩
 hb:=cs.hb
theorem CS.took (W:CW f S I D src items eM)(cs:CS f S I D src items ρ i as T)(k:∀{a ob},a≠I->T.h.get? a=some ob->h'.get? a=some ob)(hi:i+1<=items.length)(t:jj f.A I src items (i+1) T.X h'):CS f S I D src items ρ (i+1) as ⟨T.X,T.H,{T.s with heap:=h',toks:=tk}⟩ where
 toFS:=cs.toFS.took W.nI k hi t
 hD:=cs.hD
 l:=cs.l.imp λ_ z=>z.imp λ_ z=>⟨k W.ne z.1,z.2⟩
 hb:=cs.hb
theorem CS.weak (cs:CS f S I D src items ρ i as T)(h:∀{i:Nat} {v:V},Ĥ[i]? =some (some v)->ρ[i]? =some (some v)):CS f S I D src items Ĥ i as T:={cs with r:=cs.r.weak h}
theorem HN {h:Heap}{xs ys:List Value}{g:Array Value->Array Value}(e:h.get? D=some (ē xs n))(hf:g xs.toArray=ys.toArray):∃m,(h.update D (Obj.mapSeq g)).get? D=some (ē ys m):=by
 have q:=ÄS e g
 rw[hf] at q
 exact⟨_,q⟩
theorem Ga (W:CW f S I D src items eM)(hE:SE Φ f elt dK)(cs:CS f S I D src items ρ i as T)(hl:as.length<ę)(q:bA Φ elt ρ RY T.H (RG K)){P:Unit->Shared->Prop}(hz:∀{w T'},CS f S I D src items ρ i (as++[w]) T'->K (some w) T'.H->P () T'.s):
 wpAny M0 f.A (eval dK f.env >>= λx=>call (.builtin "list.append") [.ref D,x] >>= λ_=>pure ()) P Er T.s:=by
 refine Á (ê (hE q cs.r) (λy s' p=>p.casesOn λ{X' H' w} n hw q=> ?_) λe s' p=>p.casesOn λ_ _ z=>z.elim)
 have cs:=cs.next n
 obtain⟨xs,m,e,r⟩:=cs.l
 refine Á (qe (s:=s') jG ⟨_,e,rfl⟩ Kl (G3 _ _) (G4 D xs.toArray m y (r.sz▸ŉ cs.hb)) ⟨e,Ê ?_⟩)
 have k:∀{a ob},a≠D->s'.heap.get? a=some ob->(s'.heap.update D (Obj.mapSeq (·.push y))).get? a=some ob:=λne e=>(ġ _ _ (bI ne)).trans e
 obtain⟨m',e2⟩:=HN (g:=(·.push y)) e (vw xs y)
 have R:=cs.r.stir (tk:=s'.toks) cs.hD k
 exact hz (T':=⟨X',H',{s' with heap:=s'.heap.update D (Obj.mapSeq (·.push y))}⟩) ⟨⟨R,cs.s.stir W.nD k,⟨cs.hI.f,cs.hI.e.imp λ_ z=>k W.ne.symm z⟩,cs.it.mono cs.r.toWd R.toWd .refl λo e=>k W.ne.symm e,cs.hi⟩,cs.hD,⟨_,m',e2,r.append (.cons hw .nil)⟩,by rw[Ã];exact hl⟩ q
theorem Bh (W:CW f S I D src items eM)(hE:SE Φ f elt dK)(hC:SC Φ f cond ifs)(hL:pj target)
 (hB:∀{T v xv Ĥ Q E},VR T.X v xv->cT k v tK=some Ĥ->(∀s',Nx f Ĥ T ⟨T.X,T.H,s'⟩->Q () s')->Ħ f gG T->wpAny M0 f.A (assign target f.env xv) Q E T.s)
 (hW:∀{v Ĥ},cT k v tK=some Ĥ->∀{j:Nat} {u:V},gG[j]? =some (some u)->Ĥ[j]? =some (some u))
 (cs:CS f S I D src items gG i as T) (q:gL (Ũ src eM) (λx H K=>match cT k x tK with
  |some Ĥ=>Rv Φ cond Ĥ H (eI (kW (bA Φ elt Ĥ RY) (RG K)) (Vp K))
  |none=>bT) (items.drop i) as T.H Q) {P:Fin->Shared->Prop}
 (hd:∀{T' xs n},Ħ f gG T'->Step f S T'->T'.X.r D= .free->T'.h.get? D=some (ē xs n)->Į T'.X as xs->Q (.lst as) T'.H->P (.done .next) T'.s)
 (hz:∀{as T'},CS f S I D src items gG (i+1) as T'->gL (Ũ src eM) (λx H K=>match cT k x tK with
  |some Ĥ=>Rv Φ cond Ĥ H (eI (kW (bA Φ elt Ĥ RY) (RG K)) (Vp K))
  |none=>bT) (items.drop (i+1)) as T'.H Q->i<items.length->P (.again (.compLoop (.ListComp dK [⟨target,iter,ifs,0⟩] scope pos) 0 (.ref I) (.ref D) f.env)) T'.s):
 wpAny M0 f.A (compTurn (.ListComp dK [⟨target,iter,ifs,0⟩] scope pos) 0 (.ref I) (.ref D) f.env) P Er T.s:=by
 rw[compTurn_list]
 have ok:Ũ src eM T.H:=by
  revert q
  cases items.drop i with
  |nil=>exact λq=>q.1
  |cons=>exact λq=>q.1
 refine Á (ò (Á (zl W.C cs.r.toWd cs.it (zk W.it ok) cs.hI cs.hi (λv it h' tk hit hv t kk=> ?_) λh' tk e kk=> ?_)))
 ·have He:=(Õ.mp hit).1
  rw[i8 He,(Õ.mp hit).2] at q
  obtain⟨_,hb,q⟩:=q
  have cs:=cs.took W (tk:=tk) kk He t
  refine Á (hL cs.it.pl (Á ?_))
  cases hk:cT k it tK with
  |none=>rw[hk] at q;exact bT.elim q
  |some Ĥ=>
   rw[hk] at q
   refine hB (T:=⟨T.X,T.H,{T.s with heap:=h',toks:=tk}⟩) hv hk (λĘ n=> ?_) cs.r
   have cs:=cs.next n
   refine Á (ê (hC (T:=⟨T.X,T.H,Ę⟩) q cs.r) (λb f9 p=>p.casesOn λ{X' H' b'} n e q=> ?_) λe s' p=>p.casesOn λ_ _ z=>z.elim)
   have cs:=cs.next n
   obtain rfl:=(e:b'=b)
   cases b' with
   |true=>exact Á (Ga (T:=⟨X',H',f9⟩) W hE cs hb q λcs q=>Ê (hz (cs.weak (hW hk)) q He))
   |false=>exact Ê (hz (T':=⟨X',H',f9⟩) (cs.weak (hW hk)) q He)
 ·obtain⟨xs,m,eD,r⟩:=cs.l
  rw[e,zR] at q
  exact Ê (hd (T':=⟨T.X,T.H,{T.s with heap:=h',toks:=tk}⟩) (cs.r.stir cs.hI.f kk) (cs.s.stir W.nI kk) cs.hD (kk W.ne eD) r q.2)
end
section
variable {Φ:Ď} {c f:Fm} {S T T':Sx} {I D L:Addr} {src v:V} {items as:List V} {ρ Ĥ gG:Loc} {i n tk:Nat} {eM:AH} {h':Heap} {elt se:PE} {cond:Option PE} {dK target iter t:Expr} {ifs:List Expr} {scope:Scope} {pos pos':Pos} {Q:QT} {Er E':Value->Shared->Prop} {k:Option Nat} {Ģ:List Nat} {ca:List (Option V)} {tg cap:List Str} {cl:List (Str×Addr)} {x:Str} {xv:Value} {E:Ĩ} {P:Value->Shared->Prop} {use:Option (Value->Sem Unit)}
abbrev stepK (Φ:Ď)(elt:PE)(cond:Option PE)(k:Option Nat)(ca:List (Option V)):V->AH->(Option V->AH->Prop)->Prop:=λx H K=>match cT k x ca with
 |some Ĥ=>Rv Φ cond Ĥ H (eI (kW (bA Φ elt Ĥ RY) (RG K)) (Vp K))
 |none=>bT
theorem Bi {RR:Result->Shared->Prop}(W:CW f S I D src items eM)(hE:SE Φ f elt dK)(hC:SC Φ f cond ifs)(hL:pj target)
 (hB:∀{T v xv Ĥ Q E},VR T.X v xv->cT k v ca=some Ĥ->(∀s',Nx f Ĥ T ⟨T.X,T.H,s'⟩->Q () s')->Ħ f gG T->wpAny M0 f.A (assign target f.env xv) Q E T.s)
 (hW:∀{v Ĥ},cT k v ca=some Ĥ->∀{j:Nat} {u:V},gG[j]? =some (some u)->Ĥ[j]? =some (some u))
 (cs:CS f S I D src items gG 0 [] T) (q:gL (Ũ src eM) (stepK Φ elt cond k ca) items [] T.H Q)
 (hd:∀{as T' xs n},Ħ f gG T'->Step f S T'->T'.X.r D= .free->T'.h.get? D=some (ē xs n)->Į T'.X as xs->as.length<=ę->Q (.lst as) T'.H->RR (.ok .next) T'.s):
 codeAny M0 f.A (.compLoop (.ListComp dK [⟨target,iter,ifs,0⟩] scope pos) 0 (.ref I) (.ref D) f.env) RR T.s:=by
 refine codeAny_loop rfl (λn s=>∃i as T',n=items.length-i∧T'.s=s∧CS f S I D src items gG i as T'∧gL (Ũ src eM) (stepK Φ elt cond k ca) (items.drop i) as T'.H Q) (λn s hI=> ?_) items.length ⟨0,[],T,rfl,rfl,cs,q⟩
 obtain⟨i,as,T',rfl,rfl,cs,q⟩:=hI
 show wpAny _ f.A ((compTurn (.ListComp dK [⟨target,iter,ifs,0⟩] scope pos) 0 (.ref I) (.ref D) f.env).onRaise (λx=>do noteFrame x f.env;theTreesLotGoes x)) _ _ _
 exact wpAny_noted (Bh W hE hC hL hB hW cs q (λR s h e r q=>hd R s h e r cs.hb q) λ{as T'} cs q hi=>⟨rfl,_,Àv hi (é _),i+1,as,T',rfl,rfl,cs,q⟩)
theorem Fg (h:(Ce tg Ģ ρ)[i]? =some (some v))(hx:(tg++cap)[i]? =some x):∃j i':Nat,Ģ[j]? =some i'∧cap[j]? =some x∧ρ[i']? =some (some v):=by
 rcases Ŝ i tg.length with hi|hi
 ·rw[ÿ (by rw[Â];exact hi),Ü,Ç hi] at h
  exact nS (Ä h)
 ·rw[ĭ hi] at hx
  rw[ĭ (by rw[Â];exact hi),Â,Ü] at h
  obtain⟨i',e,h⟩:=kD h
  exact⟨_,i',e,hx,by
   revert h
   cases ρ[i']? with
   |none=>exact λh=>nS h
   |some w=>exact λh=>È some h⟩
theorem Gg (R:Ħ c ρ T)(S:pq c scope k tg cap Ģ)(sG:HI scope c.env cl)(O:mi T L [L] h'){m:Str->Option Value}(h1:(tg++cap)[i]? =some x)(h2:(Ce tg Ģ ρ)[i]? =some (some v)):lL (T.X.own [L] L) (compEnvC scope cl L c.env) h' m x v:=by
 obtain⟨j,i',e1,e2,e3⟩:=Fg h2 h1
 obtain⟨a1,a2,a3⟩:=S.cap e1 e2
 obtain⟨m',_,r⟩:=R.loc
 refine (r a1 e3).casesOn (λval b _ _=>a3.elim (λz=>nomatch b.symm.trans z) λz=>nomatch b.symm.trans z) λca kk o val a e q ho hd r=> ?_
 obtain⟨ca',z1,z2⟩:=sG _ (fE a2) rfl
 obtain rfl:=Ä (e.symm.trans z2)
 exact .cell ca kk o val (Io a2) z1 ((O.le R.toWd).m q) (O.k ho) hd (r.mono (O.le R.toWd))
structure pu (Φ:Ď)(c:Fm)(elt:PE)(cond:Option PE)(k:Option Nat)(se:PE)(Ģ:List Nat)(dK t iter:Expr)(ifs:List Expr)(scope:Scope)(cap:List Str):Prop where
 S:pq c scope k (ve k t) cap Ģ
 src:SE Φ c se iter
 elt:∀{cl L},FmOK c->SE Φ (du c scope cl (ve k t++cap) L) elt dK
 cond:∀{cl L},FmOK c->SC Φ (du c scope cl (ve k t++cap) L) cond ifs
 it:∀env v,foldedSetIterable iter env v=pure v
theorem Bj (C:FmOK c)(K:pu Φ c elt cond k se Ģ dK t iter ifs scope cap)(sG:HI scope c.env cl)(R:Ħ c ρ T)(hv:VR T.X src xv)(hi:ŵ src T.H=some items)(q:gL (Ũ src T.H) (stepK Φ elt cond k (jO Ģ ρ)) items [] T.H Q)
 {RR:Value->Addr->Result->Shared->Prop} (XA:∀{D L T' as},Nx c ρ T T'->VR T'.X (.lst as) (.ref D)->Q (.lst as) T'.H->T'.X.r L= .free->T.h.get? L=none->(∃m,T'.h.Ns L m)->RR (.ref D) L (.ok .next) T'.s):
 wpAny M0 c.A (pyIter xv) (λit f9=>wpAny M0 c.A (newList []) (λacc d5=>wpAny M0 c.A (newFunctionEnv scope c.env.globals cl [] c.env.qual none .none (some c.env)) (λSR B7=>
  codeAny M0 c.A (.compStart (.ListComp dK [⟨BS k t,iter,ifs,0⟩] scope pos) 0 it acc {SR with scope:=relabel scope c.env}) (RR acc SR.locals) B7) Er d5) Er f9) Er T.s:=by
 refine ux C R.toWd hv hi λo t0=>ŕ (wpAny_newFunctionEnv K.S.nocell (λ_ h=>nomatch h) (λau sF hsb=> ?_) K.S.kind)
 have hD:(T.h.push o).objs.size=T.h.objs.size+1:=cG ..
 have hL:((T.h.push o).push (ē [] 0)).objs.size=T.h.objs.size+2:=(cG ..).trans (È (·+1) hD)
 have fr:∀{a},T.h.objs.size<=a->T.h.get? a=none:=λ{a} ha=>by
  cases e:T.h.get? a with
  |none=>rfl
  |some o'=>exact absurd (ā e) (Ł.mpr ha)
 have kk:∀{a ob},a<T.h.objs.size+2->((T.h.push o).push (ē [] 0)).get? a=some ob->au.get? a=some ob:=λha e=>hsb.extBut _ _ (λz=>aq _ ((z.trans hL)▸ha)) (Ø _ e)
 have fL:T.h.get? ((T.h.push o).push (ē [] 0)).objs.size=none:=fr (hL▸Ï _ _)
 have fD:T.h.get? (T.h.push o).objs.size=none:=fr (hD▸Ï _ _)
 have ME:T.h.objs.size≠((T.h.push o).push (ē [] 0)).objs.size:=hL▸î (cY (by decide))
 have Cc:(T.h.push o).objs.size≠((T.h.push o).push (ē [] 0)).objs.size:=hL▸hD▸î (é _)
 have eD:au.get? (T.h.push o).objs.size=some (ē [] 0):=kk (hD▸é _) (ë _ rfl)
 have MF:(T.h.push o).objs.size≠T.h.objs.size:=hD▸Nat.succ_ne_self _
 have O:mi T ((T.h.push o).push (ē [] 0)).objs.size [((T.h.push o).push (ē [] 0)).objs.size] au:=⟨λe=>kk (Ą (ā e) (cY (by decide))) (Ø _ (Ø _ e)),λh=>by
  rw[Ô.mp h]
  exact⟨fL,sF.imp λ_ z=>z.elim λ_ z=>z.elim λ_ z=>⟨z.1,.inl rfl⟩⟩,.head _⟩
 revert fL fD ME Cc eD MF O sF
 generalize ((T.h.push o).push (ē [] 0)).objs.size=L at*
 generalize (T.h.push o).objs.size=D at*
 intro sF fL fD ME Cc eD MF O
 have W1:Wd ⟨T.X.own [L] L,T.H,{T.s with heap:=au,toks:=T.s.toks+([]:List (Str×Value)).length}⟩:=O.wd R.toWd
 have le:=O.le R.toWd
 have R1:Ħ (du c scope cl (ve k t++cap) L) (Ce (ve k t) Ģ ρ) ⟨T.X.own [L] L,T.H,{T.s with heap:=au,toks:=T.s.toks+([]:List (Str×Value)).length}⟩:=
  ⟨W1,Gn R.k K.S sG,Î (.head _),À R.above (À (í ((R.own R.ownL).2.1.elim λ_ e=>ā e)) (hL▸Ï _ _)),λh=>le.m (R.frm h),dy R.frames λL hL o e d=>⟨o,O.k e,d⟩,nofun,_,sF,λh1 h2=>Gg R K.S sG O h1 h2⟩
 have t1:=t0.mono (T:=⟨T.X,T.H,{T.s with heap:=T.h.push o}⟩) (R.grown (tk:=T.s.toks) .push).r.toWd W1 le λob e=>kk (cY (by decide)) (Ø _ e)
 have fI:=R.free (fr (Å _))
 have loop:=Bi (f:=du c scope cl (ve k t++cap) L) (S:=⟨T.X.own [L] L,T.H,T.s⟩) (RR:=RR (.ref D) L) (iter:=iter) (scope:=scope) (pos:=pos) ⟨⟨C.hh⟩,fr (Å _),fD,MF,hi⟩ (K.elt C) (K.cond C) E9 (λhv e hq R=>Bk C K.S hv e hq R) (λe=>xE K.S.k2 e)
  ⟨⟨R1,O.virt .refl,⟨(Ñ λz=>ME (Ô.mp z)).trans fI,t1.pl.imp λ_ z=>z.elim λ_ z=>z.elim λ_ z=>z.1⟩,t1,ý _⟩,(Ñ λz=>Cc (Ô.mp z)).trans (R.free fD),⟨[],0,eD,.nil⟩,ý _⟩ q λ{as T' xs n} R' S' XB e r hb q=>by
    have n1:=R.leave R'.toWd O S' λ_ h=> .inl h
    have q1:T'.X.r L= .mine L:=S'.le.m (Î (.head _))
    have n2:Nx c ρ T ⟨T'.X.put D (.still (ē xs n)),T'.H,T'.s⟩:=⟨n1.r.fix XB e,n1.s.fix fD XB⟩
    have n3:=R.forget (L:=L) n2 fL (λ{a} h=>(tw h).elim (λz=>nomatch z.2) λh=>(S'.mn h).elim (λh=>(tz h).elim (λz=>Ô.mp z.1) λz=>absurd z.2 (O.new R.toWd)) λz=>absurd rfl z.2) ((ķ (bI Cc)).trans q1) R'.loc.choose_spec.1
    exact XA (T':=⟨(T'.X.put D (.still (ē xs n))).put L .free,T'.H,T'.s⟩) n3 (.lst hb ((ķ Cc).trans aw) (r.lf id λ{a o} h=>(ķ λz=>Hm h ((È T'.X.r z).trans q1)).trans ((ķ λz=>Ro.noConfusion (((È T'.X.r z).trans XB).symm.trans h)).trans h))) q aw fL ⟨_,R'.loc.choose_spec.1⟩
 exact codeAny_compStart_list loop (Jp t1 loop)
end
inductive BE (X:Gh):Fl->Flow->Prop
 |next:BE X .next .next
 |brk:BE X .brk .brk
 |cont:BE X .cont .cont
 |ret {v:V} {x:Value}:VR X v x->BE X (.ret v) (.ret x)
def VFi (X:Gh)(P:Flow->Prop):Fl->Prop
 | .next=>P .next
 | .brk=>P .brk
 | .cont=>P .cont
 | .ret v=>∀x,VR X v x->P (.ret x)
inductive eT (c:Fm)(T:Sx)(Q:ST)(fl:Flow)(s':Shared):Prop
 |mk {X':Gh} {H':AH} {Ĥ:Loc} {f:Fl}:Nx c Ĥ T ⟨X',H',s'⟩->BE X' f fl->Q f Ĥ H'->eT c T Q fl s'
def cK (c:Fm)(ρ:Loc)(T:Sx)(t:Sem Flow)(E:Ĩ)(Q:ST):Prop:=Ħ c ρ T->wpAny M0 c.A t (eT c T Q) (λe s'=>xQ c T E e s') T.s
abbrev SS (Φ:Ď)(c:Fm)(p:PS)(x:Stmt):Prop:=∀{T:Sx} {ρ:Loc} {E:Ĩ} {Q:ST},wpS Φ p ρ E T.H Q->cK c ρ T (exec x c.env) E Q
abbrev vF (Φ:Ď)(c:Fm)(ps:List PS)(xs:List Stmt):Prop:=∀{T:Sx} {ρ:Loc} {E:Ĩ} {Q:ST},ì Φ ps ρ E T.H Q->cK c ρ T (execs xs c.env) E Q
section
variable {β γ:Type} {Φ:Ď} {c:Fm} {T T₁ T':Sx} {ρ Ĥ ρ₁:Loc} {i:Nat} {e elt se:PE} {cond:Option PE} {dK iter t ex:Expr} {ifs:List Expr} {scope:Scope} {pos pos' MY:Pos} {Q:QT} {QS PP:ST} {E':Value->Shared->Prop} {k:Option Nat} {Ģ:List Nat} {cap:List Str} {x:Str} {E:Ĩ} {P:Value->Shared->Prop} {use:Option (Value->Sem Unit)} {X:Gh} {f:Fl} {fl:Flow} {s':Shared} {ev:Value} {V₁:Gh->γ->β->Prop} {S5:γ->AH->Prop} {u:Sem β} {g:β->Sem Flow}
theorem uP (C:FmOK c)(K:pu Φ c elt cond k se Ģ dK t iter ifs scope cap)(R:Ħ c ρ T)(q:bA Φ (.comp elt k se cond Ģ) ρ E T.H Q)(hE:∀e s',dJ c ρ T E s' e->E' e s')
 (XA:∀{D L T' as},Nx c ρ T T'->VR T'.X (.lst as) (.ref D)->Q (.lst as) T'.H->T'.X.r L= .free->T.h.get? L=none->(∃m,T'.h.Ns L m)->compPost M0 c.A E' use P (.ref D) L (.ok .next) T'.s):
 wpAny M0 c.A (comprehension (.ListComp dK [⟨BS k t,iter,ifs,0⟩] scope pos) scope c.env pos' (newList []) false (eval iter c.env) use) P E' T.s:=by
 obtain⟨cl,h1,h2⟩:=xy (scope:=scope) (env:=c.env) λy hy hf=>R.k.cells y.1 (K.S.free y hy hf)
 refine wpAny_comprehension_free (use:=use) rfl (K.it c.env) h1 K.S.kind K.S.locals (ê (K.src q R) (λxv Ę p=>p.casesOn λ{Ài S8 sv} n hv q=> ?_) λe s' h=>hE e s' h)
 unfold Ku at q
 cases hi:ŵ sv S8 with
 |none=>rw[hi] at q;exact q.elim
 |some items=>
  rw[hi] at q
  exact Bj (T:=⟨Ài,S8,Ę⟩) C K h2 n.r hv hi q λn' hv q f fL hn=>XA ⟨n'.r,n.s.trans n'.s⟩ hv q f (ci (λ_=>n.s.grows) fL) hn
theorem uC {L:Addr}{h':Heap}(n:Nx c ρ T T')(f:T'.X.r L= .free)(fL:T.h.get? L=none)(hs:Heap.SameBut L T'.h h'):Nx c ρ T ⟨T'.X,T'.H,{T'.s with heap:=h'}⟩:=
 ⟨n.r.stir (tk:=T'.s.toks) f λne e=>hs.extBut _ _ ne e,n.s.stir (tk:=T'.s.toks) fL λne e=>hs.extBut _ _ ne e⟩
theorem zG (C:FmOK c)(K:pu Φ c elt cond k se Ģ dK t iter ifs scope cap):SE Φ c (.comp elt k se cond Ģ) (.ListComp dK [⟨BS k t,iter,ifs,0⟩] scope pos):=λq=> .eq (eval_ListComp ..) λR=>
 uP C K R q (use:=none) (λ_ _ h=>h) λn hv q f fL ⟨m,hn⟩=>⟨m,hn,λh' hs=> .mk (uC n f fL hs) hv q⟩
@[elab_as_elim] theorem BE.on {P:Flow->Prop}(r:BE X f fl)(h:VFi X P f):P fl:=r.casesOn (motive:=λf fl _=>VFi X P f->P fl) id id id (λa h=>h _ a) h
theorem eT.back (n:Step c T T₁)(x:eT c T₁ QS fl s'):eT c T QS fl s':=x.casesOn λm k q=> .mk ⟨m.r,n.trans m.s⟩ k q
theorem xQ.back (n:Step c T T₁)(x:xQ c T₁ E ev s'):xQ c T E ev s':=x.casesOn λx=> .mk (x.back n)
theorem cK.back {t':Sem Flow}(h:cK c ρ T₁ t' E QS)(n:Nx c ρ T T₁):wpAny M0 c.A t' (eT c T QS) (λe s'=>xQ c T E e s') T₁.s:=ê (h n.r) (λ_ _=>eT.back n.s) λ_ _=>xQ.back n.s
theorem cK.eq {t t':Sem Flow}(e:t=t')(h:cK c ρ T t' E QS):cK c ρ T t E QS:=e▸h
theorem cK.bind (h:ĥ c ρ T u V₁ E S5)(k:∀T₁ v b,T.X.le T₁.X->V₁ T₁.X v b->S5 v T₁.H->cK c ρ T₁ (g b) E QS):cK c ρ T (u >>= g) E QS:=λR=>
 Á (ê (h R) (λb Ę x=>x.casesOn λ{X' H' v} n hv p=>(k ⟨X',H',Ę⟩ v b n.s.le hv p).back n) λ_ _ e=> .mk e)
theorem cK.end_ (hf:BE T.X f fl)(q:QS f ρ T.H):cK c ρ T (pure fl) E QS:=λR=>Ê (.mk ⟨R,.refl⟩ hf q)
theorem cK.at_ {g:Unit->Sem Flow}(h:cK c ρ T (g ()) E QS):cK c ρ T (standAt pos >>= g) E QS:=λR=>Á (ò (h R))
theorem cK.seq {t:Sem Flow}{g:Flow->Sem Flow}(h:cK c ρ T t E PP)(k:∀T₁ ρ₁ f fl,BE T₁.X f fl->PP f ρ₁ T₁.H->cK c ρ₁ T₁ (g fl) E QS):cK c ρ T (t >>= g) E QS:=λR=>
 Á (ê (h R) (λb Ę x=>x.casesOn λ{X' H' Ĥ f} n hv p=>ê (k ⟨X',H',Ę⟩ Ĥ f b hv p n.r) (λ_ _=>eT.back n.s) λ_ _=>xQ.back n.s) λ_ _ e=>e)
theorem rx:vF Φ c [] []:=λq=> .end_ .next q
theorem nA {p:PS}{x:Stmt}{ps:List PS}{xs:List Stmt}(h:SS Φ c p x)(hs:vF Φ c ps xs):vF Φ c (p::ps) (x::xs):=λq=> .eq (gy ..) ((h q).seq λT₁ ρ₁ f fl hv q=>by
 cases f with
 |next=>exact hv.on (hs q)
 |brk=>exact hv.on (.end_ .brk q)
 |cont=>exact hv.on (.end_ .cont q)
 |ret v=>exact hv.on λx r=> .end_ (.ret r) q)
theorem cK.fin {t:Sem Unit}(h:∀{P E'},(∀s',Nx c Ĥ T ⟨T.X,T.H,s'⟩->P () s')->Ħ c ρ T->wpAny M0 c.A t P E' T.s)(hf:BE T.X f fl)(q:QS f Ĥ T.H):cK c ρ T (t >>= λ_=>pure fl) E QS:=λR=>Á (h (λs' n=>Ê (.mk n hf q)) R)
theorem qd (hi:c.ns[i]? =some x)(hk:oU c x)(Hb:swapsWith ex (some (.Name x pos')) pos.line c.env=pure false)(he:SE Φ c e ex):SS Φ c (.assign i e) (.Assign [.Name x pos'] ex pos):=λq=>
 .eq (Rg (env:=c.env) _ _ _ _ Hb) (.at_ (.bind (he q) λ_ _ _ _ hv q=> .at_ (.fin (λh=>Qz hi hk hv h) .next q)))
theorem oX (C:FmOK c)(K:pu Φ c elt cond k se Ģ dK t iter ifs scope cap)(hi:c.ns[i]? =some x)(hk:c.env.kindOf x=some .local)(Hb:swapsWith (.ListComp dK [⟨BS k t,iter,ifs,0⟩] scope MY) (some (.Name x pos')) pos.line c.env=pure true):
 SS Φ c (.assign i (.comp elt k se cond Ģ)) (.Assign [.Name x pos'] (.ListComp dK [⟨BS k t,iter,ifs,0⟩] scope MY) pos):=λ{T ρ E Q} q=> .eq (exec_Assign_Name_used _ _ _ _ Hb) λR=>by
 refine Á (ò (Á ?_))
 show wpAny _ c.A (do let _←comprehension (.ListComp dK [⟨BS k t,iter,ifs,0⟩] scope MY) scope c.env _ (newList []) false (eval iter c.env) (some (assign (.Name x pos') c.env))) _ _ _
 refine Á (ê (uP C K R q (use:=some (assign (.Name x pos') c.env)) (P:=λ_ s'=>eT c T Q .next s') (λ_ _ h=>xQ.mk h) λ{D L T' as} n hv q f fL ⟨m,hn⟩=> ?_) (λ_ s' hq=>Ê (Ê hq)) λ_ _ e=>e)
 show wpAny _ _ (assign (.Name x pos') c.env (.ref D)) _ _ _
 rw[sf]
 refine Á (ò (tZ n.r hi hk hv λjI n'=>⟨m,?_,λh' hs=> .mk (uC (T':=⟨T'.X,T'.H,jI⟩) ⟨n'.r,n.s.trans n'.s⟩ f fL hs) .next q⟩))
 exact Ns.sl hn λe=>⟨_,Hh.keeps n.r ⟨f,_,e⟩ n'.s e,rfl⟩
end
structure xP (c:Fm):Prop where
 head:∃ĳ,c.frs=c.env::ĳ
 frame:c.env.frame=some c.L
def KH (h:Heap)(e:Value):Prop:=∃a oe vs Tb,e= .ref a∧h.get? a=some oe∧oe.data= .fields vs∧vs[1]? =some (.ref Tb)
section
variable {c:Fm} {ρ:Loc} {T:Sx} {X:Gh} {H:AH} {s:Shared} {E:Ĩ} {e:Value} {h h' au:Heap} {a b Tb L:Addr} {o oe:Obj} {vs:Array Value} {p:V} {tk:Nat} {l:List Addr} {A:Around} {Q:Unit->Shared->Prop} {Er:Value->Shared->Prop} {bad:Addr->Prop}
theorem Sl.eq (x:Sl l a o h)(n:a∉l):h.get? a=some o:=x.elim id λz=>absurd z.1 n
theorem Nx.stirS (n:Nx c ρ T ⟨X,H,s⟩)(hb:∀{b},bad b->X.r b= .free∧T.h.get? b=none)(k:∀{b o},¬bad b->s.heap.get? b=some o->Sl (d7 c.frs) b o h'):Nx c ρ T ⟨X,H,{s with heap:=h',toks:=tk}⟩:=by
 have R:=n.r
 have kn:∀{b o r},X.r b=r->r≠ .free->s.heap.get? b=some o->Sl (d7 c.frs) b o h':=λq nf e=>k (λz=>nf (q.symm.trans (hb z).1)) e
 have km:∀{b o L},X.r b= .mine L->s.heap.get? b=some o->∃o',h'.get? b=some o'∧o'.data=o.data:=λq e=>(kn q nofun e).same
 have fr:∀{b r},X.r b=r->(∀L,r≠ .mine L)->b∉d7 c.frs:=λq nm z=>nm _ (q.symm.trans (R.frm z))
 have kt:∀{b o},T.h.get? b=some o->∀{o'},s.heap.get? b=some o'->Sl (d7 c.frs) b o' h':=λe _ e'=>k (λz=>nS ((hb z).2.symm.trans e)) e'
 refine⟨⟨⟨R.g,R.os,R.gens,R.base,λq=>(kn q nofun (R.still q)).eq (fr q nofun),R.len,λh1 h2=>⟨(R.obj h1 h2).1,(R.obj h1 h2).2.mono .refl λo e=>(kn (R.obj h1 h2).1 nofun e).eq (fr (R.obj h1 h2).1 nofun)⟩,R.live,λq=> ?_⟩,R.k,R.ownL,R.above,R.frm,dy R.frames λL hL o e d=>(km (R.frm hL) e).imp λo' h=>⟨h.1,λvs q=>d vs (h.2.symm.trans q)⟩,R.cw,?_⟩,λe n1 n2=>(n.s.keep e n1 n2).trans λo e'=>kt e e',λe=>(n.s.grows e).elim λ_ e'=>(kt e e').same.imp λ_ z=>z.1,n.s.le,n.s.tr,n.s.mn,n.s.hl⟩
 ·obtain⟨q1,⟨o,q2⟩,q3⟩:=R.own q
  exact⟨q1,(km q1 q2).imp λ_ z=>z.1,q3.imp id λ⟨o,v,e,d⟩=>(km q e).elim λo' z=>⟨o',v,z.1,z.2.trans d⟩⟩
 ·obtain⟨m,hn,r⟩:=R.loc
  exact⟨m,Ns.sl hn (km R.ownL),λh1 h2=>(r h1 h2).sl .refl km⟩
theorem Nx.no (n:Nx c ρ T ⟨X,H,s⟩)(e:s.heap.get? b=none):T.h.get? b=none:=ci (λ_=>n.s.grows) e
theorem DT {g:Obj->Obj}{i:Nat}{x:Value}(e:h.get? a=some o)(d:o.data= .fields vs)(hg:g=Obj.mapFields (·.setIfInBounds i x)):(h.update a g).get? a=some (g o)∧(g o).data= .fields (vs.setIfInBounds i x):=by
 subst hg
 have d':=Obj.data_mapFields d (·.setIfInBounds i x)
 exact⟨ă _ e (Obj.isFreed_of_fields d'),d'⟩
theorem KU (x:vY h X h' vs a){P:Prop}(k1:vs[1]? =some .none->P)(k2:∀Tb oT ts,vs[1]? =some (.ref Tb)->h'.get? Tb=some oT->oT.data= .fields ts->4<=ts.size->X.r Tb= .free->Tb≠a->h.get? Tb=none->P):P:=x.casesOn k1 k2
theorem iC (x:dJ c ρ T E s e)(t:KH s.heap e)(fr:Option Addr)(hq:∀jI,dJ c ρ T E jI e->KH jI.heap e->Q () jI):wpAny M0 A (setFlight e fr) Q Er s:=by
 obtain⟨a',oe',Ve,Tb',z,t1,t2,t3⟩:=t
 refine x.casesOn (motive:=λe _=>e= .ref a'->(∀jI,dJ c ρ T E jI e->KH jI.heap e->Q () jI)->wpAny M0 A (setFlight e fr) Q Er s) (λ{X H p a} n ok q z hq=>ok.casesOn λ{oe vs} g1 g2 g3 g4 g5=> ?_) z hq
 obtain rfl:=aN z
 obtain rfl:=Ä (g1.symm.trans t1)
 obtain rfl:=Data.fields.inj (g2.data.symm.trans t2)
 refine KU g3 (λy=>nomatch Ä (y.symm.trans t3)) λTb oT ts y1 y2 y3 y4 y5 y6 y7=> ?_
 unfold setFlight
 refine Á (vm g1 g2.data y1 ?_)
 rw[Î (show (Value.ref Tb != Value.none)=true from rfl)]
 refine fq y2 y3 y4 ?_
 have other:∀{f:Obj->Obj} {b o},b≠Tb->s.heap.get? b=some o->(s.heap.update Tb f).get? b=some o:=λhb e=>(ġ _ _ (bI hb)).trans e
 obtain⟨e1,e2⟩:=DT (i:=3) (x:=fr.elim Value.none λf=>rawInt f) y2 y3 rfl
 exact hq _ (.mk (n.stirS (bad:=(·=Tb)) (tk:=s.toks) (λz=>z▸⟨y5,y7⟩) λz e=> .inl (other z e)) (.mk (other y6.symm g1) g2 (.mk Tb _ _ y1 e1 e2 (by rw[LX];exact y4) y5 y6 y7) g4 g5) q) ⟨_,_,_,_,rfl,other y6.symm g1,g2.data,y1⟩
theorem uG (F:xP c)(n:Nx c ρ T ⟨X,H,s⟩)(g1:s.heap.get? a=some oe)(g2:Nb X p oe vs)(g4:X.r a= .free)(g5:T.h.get? a=none)(q:E p H)(tf:X.r Tb= .free)(tn:T.h.get? Tb=none)(ne:Tb≠a)(tc:∀o,s.heap.get? Tb=some o->∃ts,o.data= .fields ts)
 (k:∀{b o},b≠Tb->s.heap.get? b=some o->au.get? b=some o) (Md:au.objs.size=s.heap.objs.size) (head:Value) (bb:Bool) (hq:∀jI,dJ c ρ T E jI (.ref a)->KH jI.heap (.ref a)->Q () jI):
 wpAny M0 c.A (do setField (.ref a) 1 (←EntryCells.newEntry head (←frameOf c.env) .none (rawInt c.env.locals) .none (←entryPlaceOf c.env.locals bb))) Q Er {s with heap:=au}:=by
 obtain⟨ĳ,Xu⟩:=F.head
 have hfl:au.FunFrames cx.h₀ (c.env::ĳ):=Xu▸dy n.r.frames λL hL o e d=>⟨o,k (λz=>(tc o (z▸e)).elim λ_ q=>d _ q) e,d⟩
 refine Á (wpAny_frameOf_fun (by rw[n.r.k.frames,Xu]) hfl F.frame λgh tG=>Á (wpAny_entryPlaceOf λpl zW=> ?_))
 unfold EntryCells.newEntry newFields
 refine Á (ŕ ?_ (zW.sizeOk5 _ _ _ _ _))
 rw[←Xu] at tG
 have fr:∀{b},X.r b= .free->b∉d7 c.frs:=λq z=>Ro.noConfusion (q.symm.trans (n.r.frm z))
 have HB:=(tG.2.1 a (fr g4)).trans (k ne.symm g1)
 generalize hob:({cls:= .type "traceback",dict:=none,data:= .fields ([head,Value.ref c.env.locals,.none,rawInt c.env.locals,.none]++(if pl.isEmpty then List.replicate 6 Value.none else pl)).toArray}:Obj)=ob
 have dob:ob.data= .fields ([head,Value.ref c.env.locals,.none,rawInt c.env.locals,.none]++(if pl.isEmpty then List.replicate 6 Value.none else pl)).toArray:=by rw[←hob]
 have SJ:=Ø ob HB
 refine fq SJ g2.data (æ (by decide) g2.sz) ?_
 obtain⟨SI,SL⟩:=DT (i:=1) (x:=Value.ref gh.objs.size) SJ g2.data rfl
 have ru:s.heap.get? gh.objs.size=none:=by rw[tG.1,Md];exact Ņ _
 have Sq:gh.objs.size≠a:=λz=>nS (ru.symm.trans (z▸g1))
 have other:∀{f:Obj->Obj} {b o},b≠a->(gh.push ob).get? b=some o->((gh.push ob).update a f).get? b=some o:=λhb e=>(ġ _ _ (bI hb)).trans e
 have n':=n.stirS (bad:=λb=>b=a∨b=Tb) (tk:=s.toks) (λz=>z.elim (λz=>z▸⟨g4,g5⟩) λz=>z▸⟨tf,tn⟩) (h':=(gh.push ob).update a (Obj.mapFields (·.setIfInBounds 1 (Value.ref gh.objs.size)))) λ{b o} z e=>by
  have vV:=k (λy=>z (.inr y)) e
  by_cases hm:b∈d7 c.frs
  ·exact .inr ⟨hm,(tG.2.2 b o vV).imp λ_ e=>other (λy=>z (.inl y)) (Ø _ e)⟩
  ·exact .inl (other (λy=>z (.inl y)) (Ø _ ((tG.2.1 b hm).trans vV)))
 have hd:∀{f:Array Value->Array Value} {o:Obj},(Obj.mapFields f o).dict=o.dict:=λ{f o}=>by
  cases o with
  |mk oc od odt osl=>cases odt<;>rfl
 have v1:(vs.setIfInBounds 1 (Value.ref gh.objs.size))[1]? =some (.ref gh.objs.size):=Array.getElem?_setIfInBounds_self_of_lt (æ (by decide) g2.sz)
 exact hq _ (.mk n' (.mk SI ⟨(Obj.cls_mapFields _ _).trans g2.cls,SL,by rw[LX];exact g2.sz,by rw[hd];exact g2.dict⟩ (.mk _ ob _ v1 (other Sq (ë _ (by rw[←hob];rfl))) dob (by rw[Č,Ã];exact À (show 4<=5 by decide) (Ï 5 _)) (n.r.free ru) Sq (n.no ru)) g4 g5) q) ⟨_,_,_,_,rfl,SI,SL,v1⟩
theorem rt (F:xP c)(x:dJ c ρ T E s e)(hq:∀jI,dJ c ρ T E jI e->KH jI.heap e->Q () jI):wpAny M0 c.A (noteFrame e c.env) Q Er s:=by
 refine x.casesOn (motive:=λe _=>(∀jI,dJ c ρ T E jI e->KH jI.heap e->Q () jI)->wpAny M0 c.A (noteFrame e c.env) Q Er s) (λ{X H p a} n ok q hq=>ok.casesOn λ{oe vs} g1 g2 g3 g4 g5=> ?_) hq
 unfold noteFrame
 rw[F.frame]
 refine KU g3 (λy=> ?_) λTb oT ts y1 y2 y3 y4 y5 y6 y7=> ?_
 ·refine Á (vm g1 g2.data y ?_)
  have z:=Ņ s.heap
  exact uG F n g1 g2 g4 g5 q (n.r.free z) (n.no z) (λw=>nS (z.symm.trans (w▸g1))) (λo e=>nS (z.symm.trans e)) (λ_ e=>e) rfl .none _ hq
 ·refine Á (vm g1 g2.data y1 ?_)
  rw[Î (show (Value.ref Tb != Value.none)=true from rfl)]
  refine Á (vm y2 y3 (i9 y4) ?_)
  cases ts[3]==rawInt c.env.locals with
  |true=>exact Ê (hq _ (.mk n (.mk g1 g2 g3 g4 g5) q) ⟨_,_,_,_,rfl,g1,g2.data,y1⟩)
  |false=>
   rw[Ñ ó]
   refine Á (fq y2 y3 y4 ?_)
   exact uG F n g1 g2 g4 g5 q y5 y7 y6 (λo e=>⟨ts,Ä (e.symm.trans y2)▸y3⟩) (λhb e=>(ġ _ _ (bI hb)).trans e) (Heap.size_update ..) (.ref Tb) _ hq
end
structure Nt (x:Expr):Prop where
 sw:∀t n env,swapsWith x t n env=pure false
 st:∀es k p env,swappedStores [.Tuple es k p] x env=pure none
 sa:∀o a p env,swappedStores [.Attribute o a p] x env=pure none
 si:∀o i p env,swappedStores [.Subscript o i p] x env=pure none
noncomputable def vR (op:vk):Bool:=match op with
 | .add=>true
 | .sub=>true
 |_=>false
inductive KI (c:Fm):Option (List Nat)->Nat->Expr->Prop
 |one {i:Nat} {x:Str} {p:Pos}:c.ns[i]? =some x->oU c x->KI c none i (.Name x p)
 |tup {is:List Nat} {i:Nat} {es:List Expr} {k:Nat} {p:Pos}:BF c is es->KI c (some is) i (.Tuple es k p)
section
variable {Φ:Ď} {c:Fm} {T T':Sx} {ρ Ĥ:Loc} {i k n:Nat} {o e se ie:PE} {x:Str} {xo xi ex xt target iter:Expr} {pos p:Pos} {E:Ĩ} {Q:QT} {QS:ST} {f:Nat} {is:List Nat} {es:List Expr} {op:vk} {v ov:V} {b bo:Value} {a d:List PS} {xa xb:List Stmt} {s':Shared} {ev:Value} {K:Value->Shared->Prop} {A:Around} {ko:Option (List Nat)} {t:PE}
theorem cK.rel {l r:List Value}{g:Unit->Sem Flow}(h:cK c ρ T (g ()) E QS):cK c ρ T (release l r >>= g) E QS:=λR=>Á (wpAny_release' (h R))
theorem ĥ.rel {l r:List Value}{P:AH->Prop}(h:P T.H):ĥ c ρ T (release l r) VU E (PQ P):=λR=>wpAny_release' (fin0 (v:=()) R trivial h)
theorem fO (hc:Nt ex)(h1:swappedStores [xt] ex c.env=pure none)(h2:assignEach [xt] c.env=[(false,assign xt c.env)]):exec (.Assign [xt] ex pos) c.env=(do
 standAt pos
 let v←eval ex c.env
 assign xt c.env v
 pure .next):=by
 rw[arm_exec_Assign,show swapsWithSole [xt] ex pos.line c.env=pure false from hc.sw _ _ _,h1,h2]
 rfl
theorem xG (C:FmOK c)(t:BF c is es)(hc:Nt ex)(he:SE Φ c e ex):SS Φ c (.assignT is e) (.Assign [.Tuple es k p] ex pos):=λq=>
 .eq (fO hc (hc.st ..) rfl) (.at_ (.bind (he q) λT₁ v b l hv q=>by
  cases v with
  |tup vs=>
   replace q:(match iV _ is vs with|some ρ=>_|none=>bT):=q
   revert q
   cases e':iV _ is vs with
   |none=>exact λq=>bT.elim q
   |some Ĥ=>exact λq=> .fin (λh=>jx C t hv e' h) .next q
  |_=>exact bT.elim q))
theorem Ii {P:AH->Prop}(ho:SE Φ c o xo)(hv:VR T.X v b)(q:bA Φ o ρ E T.H λov H=>eP ov f v H P):ĥ c ρ T (assign (.Attribute xo (bM f) p) c.env b) VU E (PQ P):=
 .eq (arm_assign_Attribute ..) ((ho q).hold.bind λT₁ vo bo l Kw q=> .at_ ((yD Kw (hv.mono l) q).hold.bind λcJ _ _ _ _ q=> .rel q))
theorem Ih (hc:Nt ex)(ho:SE Φ c o xo)(he:SE Φ c e ex):SS Φ c (.setA o f e) (.Assign [.Attribute xo (bM f) p] ex pos):=λq=>
 .eq (fO hc (hc.sa ..) rfl) (.at_ (.bind (he q) λT₁ v b l hv q=> .bind (Ii ho hv q) λcJ _ _ _ _ q=> .end_ .next q))
theorem Ie (hc:Nt ex)(ho:SE Φ c o xo)(hi:SE Φ c ie xi)(he:SE Φ c e ex):SS Φ c (.setI o ie e) (.Assign [.Subscript xo xi p] ex pos):=λq=>
 .eq (fO hc (hc.si ..) rfl) (.at_ (.bind (he q) λT₁ v b l hv q=> .bind (V₁:=VU) (.eq (arm_assign_Subscript ..) ((ho q).hold.bind λT₁ vo bo l Kw q=>(hi q).hold.bind λcJ vi bi sW hvi q=> .at_ ((Ig (Kw.mono sW) hvi ((hv.mono l).mono sW) q).hold.bind λM6 _ _ _ _ q=> .rel q))) λcJ _ _ _ _ q=> .end_ .next q))
theorem zu {x y:Int}{t u:Tok}(ho:vR op=true)(h:s9 op (.int x) (.int y) T.H Q):ĥ c ρ T (inplaceOp (gM op) (.int x t) (.int y u)) VV E Q:=by
 cases op with
 |add=>exact λR=>AutoIntOps.iadd_0 (fin R _ (.int _ _) (by unfold s9 vX at h;exact h))
 |sub=>exact λR=>AutoIntOps.isub_0 (fin R _ (.int _ _) (by unfold s9 vJ at h;exact h))
 |_=>exact fT ho
theorem Jo {W:WE}{o:Option (Option V)}{H:AH}(h:kAV ρ W i op o H QS):∃a,o=some (some (.int a))∧W H (Ht ρ i op (.int a) QS):=by
 cases o with
 |none=>exact bT.elim h
 |some o=>cases o with
  |none=>exact bT.elim h
  |some v=>cases v with
   |int a=>exact⟨a,rfl,h⟩
   |_=>exact bT.elim h
theorem J8 {ρ:Loc}{QS:ST}{y:Value}{a:Int}(ho:vR op=true)(hv:VR T.X (.int a) b)(hw:VR T.X v y)(q:Ht ρ i op (.int a) QS v T.H):ĥ c ρ T (operate [b,y] (inplaceOp (gM op) b y)) VV E (RH ρ i QS):=by
 cases v with
 |int j=>exact hv.on λt=>hw.on λu=> .op (zu ho q)
 |_=>exact bT.elim q
theorem J7 (ho:vR op=true)(hi:c.ns[i]? =some x)(hk:oU c x)(sH:(x==("__classdict__" :Str))=false)(he:SE Φ c e ex):SS Φ c (.augV i op e) (.AugAssign (.Name x p) (gM op) ex pos):=λ{T ρ E Q} q=>by
 obtain⟨a,ha,q⟩:=Jo q
 refine .eq (PySem.exec_AugAssign_Name ..) (.at_ (.bind (ut (Q:=λv H=>v= .int a∧bA Φ e ρ E H (Ht ρ i op (.int a) Q)) hi ha sH ⟨rfl,q⟩) λT₁ v b l hv q=> ?_))
 obtain⟨rfl,q⟩:=q
 exact .bind (he q).hold λcJ w y sW hw q=> .at_ (.bind (J8 ho (hv.mono sW) hw q) λM6 r b l hr q=> .at_ (.fin (λh=>Qz hi hk hr h) .next q))
theorem Qm {ρ:Loc}{QS:ST}(Xl:vR op=true)(he:SE Φ c e ex)(Kw:VR T.X ov bo)(q:tL f ov T.H (MI ρ (bA Φ e ρ E) ov f op QS)):ĥ c ρ T (standAt p >>= λ_=>getAttr bo (bM f) true >>= λold=>holding [old] (eval ex c.env) >>= λv=>standAt pos >>= λ_=>operate [old,v] (inplaceOp (gM op) old v)) VV E (Hu ρ ov f QS):=
 .at_ (.bind2 (P:=MI ρ (bA Φ e ρ E) ov f op QS) (P₂:=λx=>Su ρ ov f op x QS) (zM Kw q) (λ_ _ q=>he q) λcJ v a w y hv hw q=> .at_ (.op (ya (P:=λa y=>ĥ c ρ cJ (inplaceOp (gM op) a y) VV E (Hu ρ ov f QS)) (K:=λi j=>s9 op (.int i) (.int j) cJ.H (Hu ρ ov f QS)) hv hw q λi j t u q=>zu Xl q)))
theorem J9 (Xl:vR op=true)(ho:SE Φ c o xo)(he:SE Φ c e ex):SS Φ c (.augA o f op e) (.AugAssign (.Attribute xo (bM f) p) (gM op) ex pos):=λ{T ρ E Q} q=>
 .eq (arm_exec_AugAssign_2 ..) (.at_ (.bind (ho q) λT₁ vo bo l Kw q=> .bind (Qm Xl he Kw q).hold λcJ r y l hr q=> .at_ (.bind (yD (Kw.mono l) hr q).hold λM6 _ _ _ _ q=> .rel (.end_ .next q))))
theorem JC (hc:Nt ex)(he:SE Φ c e ex):SS Φ c (.expr e) (.Expr ex pos):=λq R=>by
 have hi:interactive c.env=false:=by unfold interactive;rw[R.k.kind];rfl
 rw[PySem.exec_Expr (env:=c.env) _ _ hi (hc.sw _ _ _)]
 exact cK.at_ (.bind (he q) λT₁ v b l hv q R=>wpAny_dropValue (.mk ⟨R,.refl⟩ .next q)) R
theorem OZ (ht:jK Φ c t xt)(ha:vF Φ c a xa)(hb:vF Φ c d xb):SS Φ c (.ife t a d) (.If xt xa xb pos):=λq=>
 .eq (arm_exec_If ..) (.at_ (.bind (ht q) λT₁ r r' l e q=>(show r=r' from e)▸(match r,q with
  |true,q=>ha q
  |false,q=>hb q)))
theorem Dc (he:SE Φ c e ex):SS Φ c (.ret e) (.Return (some ex) pos):=λq R=>G0 (ê (he q R) (λb s' k=>k.casesOn λn hv q=> .mk n (.ret hv) q) λ_ _ e=> .mk e)
theorem It:SS Φ c (.ret (.lit .none)) (.Return none pos):=λq R=>wpAny_Return_none (.mk ⟨R,.refl⟩ (.ret .none) q)
theorem Py:SS Φ c .brk (.Break pos):=λq R=>wpAny_Break (.mk ⟨R,.refl⟩ .brk q)
theorem JR:SS Φ c .cont (.Continue pos):=λq R=>wpAny_Continue (.mk ⟨R,.refl⟩ .cont q)
theorem IJ:SS Φ c .pass (.Pass pos):=λq R=>wpAny_Pass (.mk ⟨R,.refl⟩ .next q)
theorem F3 (x:xQ c T E ev s')(t:KH s'.heap ev):cameBackBy M0 A c.env (λe s'=>xQ c T E e s') ev s':=by
 have t':=t
 obtain⟨a,oe,vs,Tb,rfl,e1,d1,h1⟩:=t'
 exact Á (vm e1 d1 h1 (x.casesOn λx=>iC x t _ λjI x' _=> .mk x'))
abbrev NB (c:Fm)(T:Sx)(E:Ĩ):Value->Shared->Prop:=notedBy M0 c.A c.env (λe s'=>cameBackBy M0 c.A c.env (λe s'=>xQ c T E e s') e s')
theorem wC (F:xP c)(n:Step c T T')(x:xQ c T' E ev s'):NB c T E ev s':=x.casesOn λx=>rt F (x.back n) λjI x' t=>F3 (.mk x') t
theorem Ei (F:xP c)(ht:jK Φ c t xt)(hb:vF Φ c a xa):SS Φ c (.whileS t a) (.While xt xa [] pos):=λ{T ρ E Q} q R=>by
 replace q:mH (mh Φ t) (ì Φ a) E Q ρ T.H:=q
 unfold mH at q
 obtain⟨n,q⟩:=q
 refine wpAny_While (codeAny_whileLoop (I:=λk s'=>∃T' Ĥ,T'.s=s'∧Nx c Ĥ T T'∧tm (mh Φ t) (ì Φ a) E Q k Ĥ T'.H) (λk Ę h=> ?_) n ⟨T,ρ,rfl,⟨R,.refl⟩,q⟩)
 obtain⟨T',Ĥ,rfl,n,q⟩:=h
 cases k with
 |zero=>exact q.elim
 |succ k=>
  refine ê (ht q n.r) (λv f9 p=>p.casesOn λ{X' H' v'} oO e q=> ?_) λe s' x=>wC F n.s (.mk x)
  obtain rfl:=(e:v'=v)
  have oO:Nx c Ĥ T ⟨X',H',f9⟩:=⟨oO.r,n.s.trans oO.s⟩
  cases v' with
  |true=>
   refine ê (hb (T:=⟨X',H',f9⟩) q oO.r) (λf d5 p=>p.casesOn λ{XK Q6 Mr fl} vO hf q=> ?_) λe s' x=>wC F oO.s x
   have vO:Nx c Mr T ⟨XK,Q6,d5⟩:=⟨vO.r,oO.s.trans vO.s⟩
   cases fl with
   |next=>exact hf.on ⟨k,é k,⟨XK,Q6,d5⟩,Mr,rfl,vO,q⟩
   |cont=>exact hf.on ⟨k,é k,⟨XK,Q6,d5⟩,Mr,rfl,vO,q⟩
   |brk=>exact hf.on (.mk vO .next q)
   |ret v=>exact hf.on λx r=> .mk vO (.ret r) q
  |false=>exact i5 (.mk oO .next q)
theorem Bp {vs:V}(e:dd (some is) i vs ρ=some Ĥ):∃l,vs= .tup l∧iV ρ is l=some Ĥ:=by
 cases vs with
 |tup l=>exact⟨l,rfl,e⟩
 |_=>exact nS e
theorem Em (C:FmOK c)(tg:KI c ko i target){E:Value->Shared->Prop}{Q:Unit->Shared->Prop}(hv:VR T.X v b)(e:dd ko i v ρ=some Ĥ)(hq:∀s',Nx c Ĥ T ⟨T.X,T.H,s'⟩->Q () s')(R:Ħ c ρ T):wpAny M0 c.A (assign target c.env b) Q E T.s:=by
 revert e
 induction tg with
 |one h1 h2=>
  intro e
  rw[sf]
  exact Á (ò (Qz h1 h2 hv (λs' n=>hq s' (Ä e▸n)) R))
 |tup t=>
  intro e
  obtain⟨l,rfl,e⟩:=Bp e
  exact jx C t hv e hq R
theorem KI.no (tg:KI c ko i target):pj target:=by
 induction tg with
 |one=>exact nQ
 |tup=>exact pM
theorem ÁN {α:Type}{o:Option α}{P:α->Prop}(h:sq o P):∃a,o=some a∧P a:=ba h
theorem FW (F:xP c)(C:FmOK c)(tg:KI c ko i target)(hb:vF Φ c a xa){S:Sx}{I:Addr}{src:V}{items:List V}{eM:AH}(hi:ŵ src eM=some items)(nI:S.h.get? I=none){j:Nat}(fs:FS c S I src items ρ j T)(q:oP ko i (Ũ src eM) (ì Φ a) E QS (items.drop j) ρ T.H)
 {N:Shared->Prop} {R:Flow->Shared->Prop} (hz:∀{Ĥ T'},FS c S I src items Ĥ (j+1) T'->oP ko i (Ũ src eM) (ì Φ a) E QS (items.drop (j+1)) Ĥ T'.H->j<items.length->N T'.s) (hd:∀{f fl X H s' Ĥ},Step c S ⟨X,H,s'⟩->Ħ c Ĥ ⟨X,H,s'⟩->BE X f fl->QS f Ĥ H->R fl s'):
 wpAny M0 c.A (pyNext (.ref I)) (λr Ę=>match r with
  |none=>wpAny M0 c.A (execs [] c.env) (λf d5=>R f d5) (NB c S E) Ę
  |some v=>wpAny M0 c.A (letOwnedTupleGo target (.ref I) v) (λ_ Tj=>
   wpAny M0 c.A (assign target c.env v) (λ_ f9=>wpAny M0 c.A (execs xa c.env) (λf d5=>match f with
    | .next| .cont=>N d5
    | .brk=>R .next d5
    | .ret v=>R (.ret v) d5) (NB c S E) f9) (NB c S E) Tj) (NB c S E) Ę) (NB c S E) T.s:=by
 have ok:Ũ src eM T.H:=by
  revert q
  cases items.drop j with
  |nil=>exact λq=>q.1
  |cons=>exact λq=>q.1
 refine zl C fs.r.toWd fs.it (zk hi ok) fs.hI fs.hi (λv it h' tk hit hv t kk=> ?_) λh' tk e kk=> ?_
 ·have He:=(Õ.mp hit).1
  rw[i8 He,(Õ.mp hit).2] at q
  obtain⟨Ĥ,hk,q⟩:=ba q.2
  have fs:=fs.took nI (tk:=tk) kk He t
  refine tg.no fs.it.pl (Em (T:=⟨T.X,T.H,{T.s with heap:=h',toks:=tk}⟩) C tg hv hk (λĘ n=> ?_) fs.r)
  have fs:=fs.next n
  refine ê (hb (T:=⟨T.X,T.H,Ę⟩) q fs.r) (λf f9 p=>p.casesOn λ{X' H' Ĥ fl} n hf q=> ?_) λe s' x=>wC F fs.s x
  have fs:=fs.next n
  cases fl with
  |next=>exact hf.on (hz (T':=⟨X',H',f9⟩) fs q He)
  |cont=>exact hf.on (hz (T':=⟨X',H',f9⟩) fs q He)
  |brk=>exact hf.on (hd fs.s fs.r .next q)
  |ret v=>exact hf.on λx r=>hd fs.s fs.r (.ret r) q
 ·rw[e,zR] at q
  exact i5 (hd (fs.s.stir nI kk) (fs.r.stir fs.hI.f kk) .next q.2)
theorem O8 (F:xP c)(C:FmOK c)(tg:KI c ko i target)(hi:kz iter)(hs:SE Φ c se iter)(hb:vF Φ c a xa):SS Φ c (.forS ko i se a) (.For target iter xa [] pos):=λ{T ρ E Q} q=>
 .eq (arm_exec_For ..) (.at_ (.bind (hs q) λmr sv xv l hsv q R=>by
  unfold kFor at q
  rw[hi.fo]
  refine Á (Ê (Á (ò (Á (ä ?_)))))
  cases hit:ŵ sv mr.H with
  |none=>rw[hit] at q;exact q.elim
  |some items=>
   rw[hit] at q
   refine ux C R.toWd hsv hit λo t0=>wpAny_runOwn ?_
   rw[show c.A.mark none=c.A from rfl]
   have z:=Ņ mr.h
   have n:=R.grown (tk:=mr.s.toks) (h':=mr.h.push o) .push
   refine codeAny_forLoop_any (I:=λn s=>∃j Ĥ T',n=items.length-j∧T'.s=s∧FS c mr mr.h.objs.size sv items Ĥ j T'∧oP ko i (Ũ sv mr.H) (ì Φ a) E Q (items.drop j) Ĥ T'.H) (λn s h=> ?_) items.length ⟨0,ρ,⟨mr.X,mr.H,{mr.s with heap:=mr.h.push o}⟩,rfl,rfl,⟨n.r,n.s,⟨R.free z,t0.pl.imp λ_ z=>z.elim λ_ z=>z.elim λ_ z=>z.1⟩,t0,ý _⟩,q⟩
   obtain⟨j,Ĥ,T',rfl,rfl,fs,q⟩:=h
   exact FW F C tg hb hit z fs q (λ{Ĥ T'} fs q hl=>⟨_,Àv hl (é _),j+1,Ĥ,T',rfl,rfl,fs,q⟩) λS R hf q=> .mk ⟨R,S⟩ hf q))
end
abbrev SV:Type:=List (Str×Value)
noncomputable def bB (x:Str×Value)(r:SV):Sem (ForInStep SV):=if (r.lookup x.1).isNone=true then pure (ForInStep.yield (r++[(x.1,x.2)])) else pure (ForInStep.yield r)
section
variable {l l' sl:SV} {a1 a2 b names:List Str} {xs d1 d2 ds:List Value} {s:Shared} {fd:FuncData} {x:Str}
theorem J1 (h:∀p∈l,sl.lookup p.1≠none):forIn (l++l') sl bB=forIn l' sl bB:=by
 induction l with
 |nil=>rfl
 |cons p r ih=>
  have e:bB p sl=pure (ForInStep.yield sl):=Ñ λz=>h p (.head _) (Ĝ.mp z)
  rw[bZ,BP,e,pure_bind]
  exact ih λq hq=>h q (.tail _ hq)
theorem Qj:∀{sl:SV},(∀p∈l,sl.lookup p.1=none)->(l.map (·.1)).Nodup->forIn l sl bB=pure (sl++l):=by
 induction l with
 |nil=>exact λ_ _=>È _ (à _).symm
 |cons p r ih=>
  intro sl h nd
  rw[ß,bg] at nd
  have e:bB p sl=pure (ForInStep.yield (sl++[p])):=Î (Ĝ.mpr (h p (.head _)))
  rw[BP,e,pure_bind]
  refine (ih (λq hq=> ?_) nd.2).trans (È _ (Æ ..))
  rw[List.lookup_append,h q (.tail _ hq),dU,Ñ λz=>nd.1 (Þ.mpr ⟨q,hq,z⟩)]
  rfl
theorem I4 (nd:(l.map (·.1)).Nodup):∀p∈l,l.lookup p.1=some p.2:=by
 induction l with
 |nil=>exact λ_ h=>nomatch h
 |cons q r ih=>
  intro p hp
  rw[ß,bg] at nd
  rw[dU]
  rcases Û.mp hp with z|z
  ·rw[Î (È _ z),z]
  ·rw[Ñ λw=>nd.1 (Þ.mpr ⟨p,z,w⟩)]
   exact ih nd.2 p z
theorem Jz (h:∀p∈l',l.lookup p.1=some p.2):(l'.map (·.1)).filterMap (λn=>(l.lookup n).map (n,·))=l':=by
 induction l' with
 |nil=>rfl
 |cons p r ih=>
  have h0:=h p (.head _)
  rw[ß,gp,h0]
  exact È (p::·) (ih λq hq=>h q (.tail _ hq))
theorem tQ (h:names.length<=xs.length)(hx:x∈names):(names.zip xs).lookup x≠none:=λz=>by
 rw[←kg h] at hx
 obtain⟨p,hp,e⟩:=Þ.mp hx
 exact ŋ.mp (Qy.mp z p hp) e.symm
theorem Eh (hx:x∉names):(names.zip xs).lookup x=none:=Qy.mpr λp hp=>ŋ.mpr λz=>hx (z▸(lR (p.eta▸hp)).1)
theorem Bo (nd:(a1++(a2++b)).Nodup)(h1:xs.length=a1.length+a2.length)(h2:d1.length=a2.length)(h3:d2.length=b.length){T T':Sem SV}{M:Model}{A:Around}{E:Value->Shared->Prop}{Q:SV->Shared->Prop}(ho:ds=d1++d2)(hn:names=a1++(a2++b))
 (hq:Q (names.zip (xs++d2)) s):wpAny M A (if (decide (xs.length>names.length)&&(none:Option Arg).isNone)=true then T else if (!((names.take (names.length-(ds.drop (ds.length-names.length)).length)).filter λn=>((names.zip xs).lookup n).isNone).isEmpty)=true then T' else
  (forIn ((names.drop (names.length-(ds.drop (ds.length-names.length)).length)).zip (ds.drop (ds.length-names.length))) (names.zip xs) bB) >>= λr=>pure ((names++[]).filterMap λn=>(r.lookup n).map (n,·))) Q E s:=by
 have ln:names.length=a1.length+(a2.length+b.length):=by rw[hn,Ã,Ã]
 have ld:ds.length=a2.length+b.length:=by rw[ho,Ã,h2,h3]
 have e0:ds.drop (ds.length-names.length)=ds:=by rw[Nat.sub_eq_zero_of_le (by rw[ln,ld];exact Ğ _ _),List.drop_zero]
 have e1:names.length-ds.length=a1.length:=by rw[ln,ld];exact Ź _ _
 have z0:names.zip xs=(a1++a2).zip xs:=by
  have:(names.zip (xs++[]))=(a1++a2).zip xs++b.zip []:=by rw[hn,←Æ];exact BM (by rw[Ã,h1])
  rw[à,List.zip_nil_right,à] at this
  exact this
 have la:(a1++a2).length<=xs.length:=by rw[Ã,h1];exact Å _
 have QH:=nd
 rw[←Æ,jy] at QH
 rw[Ñ (by rw[be (Ł.mpr (by rw[h1,ln];exact Ý (Ï _ _) _))];exact ó),e0,e1,Ñ]
 ·rw[show names.drop a1.length=a2++b by rw[hn];exact G2,ho,BM h2.symm,z0,J1 λp hp=>tQ la (ļ _ (lR (p.eta▸hp)).1),
   Qj (λp hp=>Eh λz=>QH.2.2 _ z _ (lR (p.eta▸hp)).1 rfl) (by rw[kg (ð h3.symm)];exact QH.2.1),pure_bind,à]
  have zz:(a1++a2).zip xs++b.zip d2=names.zip (xs++d2):=by rw[hn,←Æ];exact (BM (by rw[Ã,h1])).symm
  have kk:(names.zip (xs++d2)).map (·.1)=names:=kg (by rw[ln,Ã,h1,h3,þ];exact Å _)
  rw[zz]
  refine Ê (?_:Q _ s)
  have:=Jz (I4 (l:=names.zip (xs++d2)) (by rw[kk,hn];exact nd))
  rw[kk] at this
  rw[this];exact hq
 ·rw[show names.take a1.length=a1 by rw[hn];exact oo,z0,List.filter_eq_nil_iff.mpr λn hn z=>tQ la (Ĉ _ hn) (Ĝ.mp z)]
  exact ó
theorem xD {Mi:List Value}(nd:names.Nodup)(hl:xs.length<=names.length)(hm:names.length<=xs.length+ds.length)(qi:ds.length<=names.length){T T':Sem SV}{M:Model}{A:Around}{E:Value->Shared->Prop}{Q:SV->Shared->Prop}(ho:Mi=ds)
 (hq:Q (names.zip (xs++ds.drop (xs.length+ds.length-names.length))) s):wpAny M A (if (decide (xs.length>names.length)&&(none:Option Arg).isNone)=true then T else if (!((names.take (names.length-(Mi.drop (Mi.length-names.length)).length)).filter λn=>((names.zip xs).lookup n).isNone).isEmpty)=true then T' else
  (forIn ((names.drop (names.length-(Mi.drop (Mi.length-names.length)).length)).zip (Mi.drop (Mi.length-names.length))) (names.zip xs) bB) >>= λr=>pure ((names++[]).filterMap λn=>(r.lookup n).map (n,·))) Q E s:=by
 obtain⟨j,hn⟩:=Qv qi
 have jm:j<=xs.length:=Km (hn▸ą _ _▸hm)
 have ik:xs.length-j<=ds.length:=ou (hn▸hl)
 have lr:(names.drop j).length=ds.length:=by rw[ã,hn,Ź]
 have ln:((names.drop j).take (xs.length-j)).length=xs.length-j:=by rw[ű,lr,ag ik]
 rw[hn,ą xs.length,WI] at hq
 exact Bo (a1:=names.take j) (a2:=(names.drop j).take (xs.length-j)) (b:=(names.drop j).drop (xs.length-j)) (d1:=ds.take (xs.length-j)) (by rw[Ŗ,Ŗ];exact nd)
  (by rw[ln,ű,ag (hn▸Ğ _ _),qf jm]) (by rw[ln,ű,ag ik]) (by rw[ã,ã,lr]) (ho.trans (Ŗ _ ds).symm) (by rw[Ŗ,Ŗ]) hq
theorem oa (h1:fd.params.posonlyargs=[])(h2:fd.params.args.map (·.arg)=names)(h3:fd.params.kwonlyargs=[])(h4:fd.params.vararg=none)(h5:fd.params.kwarg=none)
 (nd:names.Nodup) (hd:∀(M:Model) (A:Around) (E:Value->Shared->Prop) (Q:Option (Array Value)->Shared->Prop),(∀o,(o.getD #[]).toList=ds->Q o s)->wpAny M A (seqItems? fd.defaults) Q E s)
 (hl:xs.length<=names.length) (hm:names.length<=xs.length+ds.length) (qi:ds.length<=names.length):BindsTo s fd ⟨xs,[]⟩ (names.zip (xs++ds.drop (xs.length+ds.length-names.length))):=by
 intro M A E Q hq
 cases fd with
 |mk _ _ pp=>cases pp with
  |mk po as va ko kw=>
   dsimp only at h1 h2 h3 h4 h5 hd
   subst h1 h3 h4 h5 h2
   refine (Á (hd M A E _ λo ho=> ?_):wpAny M A (seqItems? _ >>= _) _ _ _)
   exact xD (names:=as.map (·.arg)) nd hl hm qi ho hq
end
theorem n4 {x:Str}{names:List (Str×NameKind)}:∀{n:Nat} {acc:List (Str×Addr)},(acc.lookup x≠none∨(x,NameKind.cell)∈names)->(cellsFrom n names acc).lookup x≠none:=by
 induction names with
 |nil=>exact λh=>h.elim id λh=>nomatch h
 |cons p r ih=>
  intro n acc h
  show (if (p.2== .cell)=true then cellsFrom (n+1) r ((p.1,n)::acc) else cellsFrom n r acc).lookup x≠none
  by_cases q:(p.2== .cell)=true
  ·rw[Î q]
   exact ih (h.elim (λh=> .inl (zd h)) λh=>(Û.mp h).imp (λe=>by rw[dU,Î (È Prod.fst e)];exact nofun) id)
  ·rw[Ñ q]
   exact ih (h.imp id λh=>(Û.mp h).resolve_left λe=>q (è.mpr (È Prod.snd e).symm))
structure qC (d:FD)(o:Obj)(fd:FuncData)(body:List Stmt)(ns:List Str):Prop where
 look:K0.lookup d.addr=some o
 data:o.data= .func fd
 p1:fd.params.posonlyargs=[]
 p2:fd.params.args.map (·.arg)=ns.take d.np
 p3:fd.params.kwonlyargs=[]
 p4:fd.params.vararg=none
 p5:fd.params.kwarg=none
 np:d.np<=ns.length
 dl:d.dflts.length<=d.np
 nd:ns.Nodup
 clo:fd.closure=[]
 kind:fd.scope.kind= .function
 co:fd.scope.isCoroutine=false
 gen:fd.scope.isGenerator=false
 glob:fd.globals=mainGlobals
 bl:fd.builtins=builtinsNs
 loc:∀x∈ns,fd.scope.names.lookup x=some .local∨fd.scope.names.lookup x=some .cell
 free:∀y∈fd.scope.names,y.2≠ .free
 dfl:(fd.defaults= .none∧d.dflts=[])∨∃Td xs,fd.defaults= .ref Td∧K0.lookup Td=some (f7 xs)∧∀{T:Sx},Wd T->Į T.X d.dflts xs
 code:∃cd oc vs t,fd.code= .ref cd∧K0.lookup cd=some oc∧oc.data= .fields vs∧vs[1]? =some (.str fd.qualname t)
 body:fd.body= .stmts body
noncomputable def ownOf (L:Addr)(cells:List (Str×Addr)):List Addr:=L::(cells.filter λp=>cells.lookup p.1==some p.2).map (·.2)
noncomputable abbrev bu (A:Around)(frs:List Env)(env:Env)(ns:List Str):Fm:=⟨A.deeper env,env,env::frs,ns,true⟩
structure VK (T:Sx)(A:Around)(frs:List Env):Prop where
 W:Wd T
 ff:T.h.FunFrames cx.h₀ frs
 fm:∀{L},L∈d7 frs->T.X.r L= .mine L
 hb:cx.h₀.objs.size<=T.h.objs.size
 fr:A.frames=some frs
 u:A.units+43<cLine
 d:A.depth+41<recursionLimit
section
variable {n f:Nat} {c:Fm} {T T':Sx} {ρ ρ₁:Loc} {A:Around} {frs:List Env} {d:FD} {o:Obj} {fd:FuncData} {body:List Stmt} {ns:List Str} {us:List (Option V)} {vs:List V} {xs ys:List Value} {Ę:Shared} {env:Env} {E:Ĩ} {Q:QT} {fl:Flow} {ff:Fl} {X:Gh} {ko:Str->Option NameKind} {l:SV} {x:Str} {y:Value} {i j:Nat} {H:AH} {v:V}
theorem Gp {F:SV->(Str->Option Value)->Str->Option Value}{P:Str->Prop}[DecidablePred P](h0:∀m,F [] m=m)(h1:∀p r m,P p.1->F (p::r) m=F r λy=>if y=p.1 then some p.2 else m y)(h2:∀p r m,¬P p.1->F (p::r) m=F r m):∀m,x∉l.map (·.1)->F l m x=m x:=by
 induction l with
 |nil=>exact λm _=>congrFun (h0 m) x
 |cons p r ih=>
  intro m h
  rw[ß,Û,not_or] at h
  by_cases q:P p.1
  ·rw[h1 p r m q,ih _ h.2]
   exact Ñ h.1
  ·rw[h2 p r m q,ih _ h.2]
theorem DY {F:SV->(Str->Option Value)->Str->Option Value}{P:Str->Prop}[DecidablePred P](h0:∀m,F [] m=m)(h1:∀p r m,P p.1->F (p::r) m=F r λy=>if y=p.1 then some p.2 else m y)(h2:∀p r m,¬P p.1->F (p::r) m=F r m)(hp:P x):∀m,(l.map (·.1)).Nodup->(x,y)∈l->F l m x=some y:=by
 induction l with
 |nil=>exact λm _ h=>absurd h û
 |cons p r ih=>
  intro m nd h
  rw[ß,bg] at nd
  rcases Û.mp h with e|h
  ·subst e
   rw[h1 _ r m hp,Gp h0 h1 h2 _ nd.1]
   exact Î rfl
  ·by_cases q:P p.1
   ·rw[h1 p r m q];exact ih _ nd.2 h
   ·rw[h2 p r m q];exact ih _ nd.2 h
theorem fk (hk:ko x=some .local)(nd:(l.map (·.1)).Nodup)(h:(x,y)∈l):bindL ko l (λ_=>none) x=some y:=
 DY (F:=bindL ko) (P:=λx=>ko x=some .local) (λ_=>rfl) (λp r m h=>È (bindL ko r) (Î h)) (λp r m h=>È (bindL ko r) (Ñ h)) hk _ nd h
theorem Bq (hk:¬ko x=some .local)(nd:(l.map (·.1)).Nodup)(h:(x,y)∈l):bindC ko l (λ_=>none) x=some y:=
 DY (F:=bindC ko) (P:=λx=>¬ko x=some .local) (λ_=>rfl) (λp r m h=>È (bindC ko r) (Ñ h)) (λp r m h=>È (bindC ko r) (Î (Decidable.not_not.mp h))) hk _ nd h
theorem Ħ.ent (R:Ħ c ρ T)(u:c.A.units+43<cLine)(d:c.A.depth+41<recursionLimit):VK T c.A c.frs:=
 ⟨R.toWd,R.frames,R.frm,À R.above (í ((R.own R.ownL).2.1.elim λ_ e=>ā e)),R.k.frames,u,d⟩
theorem zip_get {names:List Str}(h1:names[i]? =some x)(h2:ys[i]? =some y):(x,y)∈names.zip ys:=bX (List.getElem?_zip_eq_some.mpr ⟨h1,h2⟩)
theorem Gl (e:VK T A frs)(K:qC d o fd body ns)(hv:∀{i:Nat} {v:V},us[i]? =some (some v)->∃y,ys[i]? =some y∧VR T.X v y)(hl:us.length=d.np)(hy:d.np<=ys.length)
 (he:env=newEnv fd.scope T.h.objs.size fd.globals (cellsFrom (T.h.objs.size+1) fd.scope.names []) (fd.qualname++ ".<locals>.") (some d.addr) fd.code none fd.builtins)
 (x:InCallC T.s env.locals (bindL env.kindOf ((ns.take d.np).zip ys) λ_=>none) env.cells (bindC env.kindOf ((ns.take d.np).zip ys) λ_=>none) Ę):
 mi T env.locals (ownOf env.locals env.cells) Ę.heap∧Ħ (bu A frs env ns) (us++List.replicate (d.slots.length-d.np) none) ⟨T.X.own (ownOf env.locals env.cells) env.locals,T.H,Ę⟩∧vH (bu A frs env ns):=by
 have hL:env.locals=T.h.objs.size:=by rw[he];rfl
 have sE:env.scope=fd.scope:=by rw[he];rfl
 have sG:env.cells=cellsFrom (T.h.objs.size+1) fd.scope.names []:=by rw[he];rfl
 have QV:env.frame=some env.locals:=by rw[he];rfl
 have hgb:env.globals=mainGlobals∧env.builtins=builtinsNs:=by rw[he];exact⟨K.glob,K.bl⟩
 clear he
 have hk:∀y,env.kindOf y=fd.scope.names.lookup y:=λy=>by unfold Env.kindOf;rw[sE]
 obtain⟨⟨au,tk,rfl⟩,sF,Ut,_⟩:=x.toInCall
 have fL:T.h.get? env.locals=none:=by rw[hL];exact Ņ _
 have cellOf:∀{y ca},env.cells.lookup y=some ca->T.h.get? ca=none∧ca≠env.locals∧∃o,au.get? ca=some o∧o.data= .cell (bindC env.kindOf ((ns.take d.np).zip ys) (λ_=>none) y):=λ{y ca} e=>by
  have RP:=x.above y ca (fE e)
  refine⟨?_,λz=>aq _ (z▸RP),x.cell y ca e⟩
  cases q:T.h.get? ca with
  |none=>rfl
  |some o'=>exact absurd (Ą (ā q) (hL▸RP)) (aq _)
 have Ll:∀{y},env.kindOf y=some .cell->∃ca,env.cells.lookup y=some ca:=λ{y} h=>by
  have:=n4 (n:=T.h.objs.size+1) (acc:=[]) (.inr (fE ((hk y).symm.trans h)))
  rw[←sG] at this
  exact Option.ne_none_iff_exists'.mp this
 have own:∀{a},a∈ownOf env.locals env.cells->a=env.locals∨∃y,env.cells.lookup y=some a:=λha=>(Û.mp ha).imp id λz=>by
  obtain⟨p,hp,rfl⟩:=Þ.mp z
  exact⟨p.1,eq_of_beq (f5.mp hp).2⟩
 have O:mi T env.locals (ownOf env.locals env.cells) au:=⟨Ut _ _,λha=>(own ha).elim (λz=>by
  rw[z]
  exact⟨fL,sF.imp λ_ z=>z.elim λ_ z=>z.elim λ_ z=>⟨z.1,.inl rfl⟩⟩) λ⟨y,e⟩=>⟨(cellOf e).1,(cellOf e).2.2.imp λ_ z=>⟨z.1,.inr ⟨_,z.2⟩⟩⟩,.head _⟩
 have le:=O.le e.W
 have fb:cx.h₀.get? env.locals=none:=by
  cases z:cx.h₀.get? env.locals with
  |none=>rfl
  |some o=>exact absurd (æ (ā z) (hL▸e.hb)) (aq _)
 have km:∀{y ca},env.cells.lookup y=some ca->ca∈ownOf env.locals env.cells:=λe=> .tail _ (Þ.mpr ⟨(_,_),f5.mpr ⟨fE e,è.mpr e⟩,rfl⟩)
 have nf:∀{y},env.kindOf y≠some .free:=λh=>K.free _ (fE ((hk _).symm.trans h)) rfl
 refine⟨O,⟨O.wd e.W,⟨(È Scope.kind sE).trans K.kind,hgb.1,hgb.2,K.nd,λy h=>h.elim Ll λz=>absurd z nf,(È (Option.map (env::·)) e.fr),by show A.units+3+40<_;exact e.u,by show A.depth+1+40<_;rw[þ];exact e.d⟩,Î (.head _),À e.hb (ð hL.symm),λ{L} hm=> ?_,?_,λ_ {y ca} _ h2=>Î (km h2),_,sF,λ{i y v} h1 h2=> ?_⟩,⟨rfl,λe=>(cellOf e).2.1,λh1 h2=>PySem.name_of_addr x.apart (fE h1) (fE h2)⟩⟩
 ·rw[d7,gp,QV] at hm
  rcases Û.mp hm with z|z
  ·rw[z];exact Î (.head _)
  ·exact le.m (e.fm z)
 ·obtain⟨oL,eL,dL,_⟩:=QG sF
  exact⟨λz=>ScopeKind.noConfusion (z.symm.trans ((È Scope.kind sE).trans K.kind)),⟨env.locals,oL,QV,fb,eL,dL⟩,dy e.ff λL hL o e d=>⟨o,O.k e,d⟩⟩
 ·rcases Ŝ i us.length with hi|hi
  ·rw[ÿ hi] at h2
   obtain⟨val,e1,e2⟩:=hv h2
   have hz:=zip_get ((jH (hl▸hi)).trans h1) e1
   have QH:(((ns.take d.np).zip ys).map (·.1)).Nodup:=by
    rw[kg (À (Àw _ _) hy)]
    exact K.nd.sublist (vv _ _)
   by_cases q:env.kindOf y=some .local
   ·exact .loc val q (fk q QH hz) (e2.mono le)
   ·have qc:=((hk y).trans ((K.loc y (bX h1)).resolve_left λz=>q ((hk y).trans z)))
    obtain⟨ca,zX⟩:=Ll qc
    obtain⟨oc,c1,c2⟩:=(cellOf zX).2.2
    exact .cell ca _ oc val (.inl qc) zX (Î (km zX)) c1 (c2.trans (È _ (Bq q QH hz))) (e2.mono le)
  ·rw[ĭ hi] at h2
   obtain⟨q,z⟩:=Õ.mp h2
   rw[List.getElem_replicate] at z
   exact nS z
end
noncomputable def flV:Flow->Value
 | .ret v=>v
 |_=> .none
section
variable {n f:Nat} {c:Fm} {T T':Sx} {ρ ρ₁:Loc} {A:Around} {d:FD} {o:Obj} {fd:FuncData} {body:List Stmt} {ns:List Str} {vs:List V} {xs ds:List Value} {E:Ĩ} {Q:QT} {fl:Flow} {ff:Fl} {X:Gh} {i j a b:Nat} {v w:V} {x:Value} {r:List (Nat×V)}
theorem Dy (R:Ħ c ρ T)(hv:VR T.X (.obj i) x)(hi:T.H[i]? =some (some (.list vs))):∃X',VR X' (.lst vs) x∧Nx c ρ T ⟨X',T.H.set i none,T.s⟩:=
 R.lst hv rfl hi λp xs n ht _ b e r=>⟨_,.lst b aw (r.mono (R.kill hi ht e).s.le),R.kill hi ht e⟩
theorem OB {l:List (List Nat×V)}(R:Ħ c ρ T)(hv:VR T.X (.obj i) x)(hi:T.H[i]? =some (some (.dict l))):∃X',VR X' (.dic l) x∧Nx c ρ T ⟨X',T.H.set i none,T.s⟩:=
 R.toWd.dct hv hi λp es n ht _ ns e r=>⟨_,.dic ns aw (r.mono (R.kill hi ht e).s.le),R.kill hi ht e⟩
theorem xn {K:List (List Nat×V)->Prop}{o:Option (Option O)}(h:wG o K):∃l,o=some (some (.dict l))∧K l:=by
 cases o with
 |none=>exact h.elim
 |some o=>cases o with
  |none=>exact h.elim
  |some o=>cases o with
   |dict l=>exact⟨l,rfl,h⟩
   |_=>exact h.elim
theorem nR {K:List V->Prop}{o:Option (Option O)}(h:listAt o K):∃l,o=some (some (.list l))∧K l:=lW h
theorem Iq (n:Nx c ρ T T')(hv:VR T'.X (.obj i) x)(q:sM Q i T'.H):ŝ c ρ T VV Q x T'.s:=by
 unfold sM at q
 obtain⟨vs,hi,q⟩:=nR q
 obtain⟨X',hv,n'⟩:=Dy n.r hv hi
 exact .mk ⟨n'.r,n.s.trans n'.s⟩ hv q
theorem AI (n:Nx c ρ T T')(hv:VR T'.X (.rcd 7 ((a,.obj i)::(b,w)::r)) x)(q:pb a b i w r T'.H Q):ŝ c ρ T VV Q x T'.s:=by
 unfold pb at q
 cases w with
 |obj j=>
  obtain⟨l,hi,q⟩:=xn q
  obtain⟨vs,hj,jJ,q⟩:=nR q
  revert q
  refine hv.on λpa pd es m f1 f2 dr q=> ?_
  refine dr.on (P:=λes=>T'.X.r pd= .still (dictOf es m)->ŝ c ρ T VV Q (.ref pa) T'.s) (λt1 x1 es1 h1 dr f2=>dr.on (P:=λes1=>T'.X.r pd= .still (dictOf (_::es1) m)->ŝ c ρ T VV Q (.ref pa) T'.s) (λt2 x2 es2 h2 dr f2=> ?_) f2) f2
  obtain⟨X1,g1,n1⟩:=OB n.r h1 hi
  obtain⟨X2,g2,n2⟩:=Dy n1.r (h2.mono n1.s.le) ((ñ jJ).trans hj)
  have le:=n1.s.le.trans n2.s.le
  exact .mk ⟨n2.r,(n.s.trans n1.s).trans n2.s⟩ (.rcd (fs:=(a,.dic l)::(b,.lst vs)::r) (le.f f1) (le.f f2) (.cons (g1.mono n2.s.le) (.cons g2 (dr.mono le)))) q
 |_=>exact q.elim
theorem TC {fs:List (Nat×V)}(n:Nx c ρ T T')(hv:VR T'.X (.rcd 7 fs) x)(q:Mw fs T'.H Q):ŝ c ρ T VV Q x T'.s:=by
 cases fs with
 |nil=>exact bT.elim q
 |cons y r=>cases r with
  |nil=>exact bT.elim q
  |cons z r=>cases y with
   |mk a v=>cases v with
    |obj i=>exact AI n hv q
    |_=>exact .mk n hv q
theorem TB (n:Nx c ρ T T')(hv:VR T'.X v x)(q:am Q (.ret v) ρ₁ T'.H):ŝ c ρ T VV Q x T'.s:=by
 cases v with
 |obj i=>exact Iq n hv q
 |rcd c' fs=>
  replace q:(match Nat.beq c' 7,bT with|true,_=>Mw fs T'.H Q|false,_=>Q (.rcd c' fs) T'.H):=q
  cases hb:Nat.beq c' 7 with
  |false=>rw[hb] at q;exact .mk n hv q
  |true=>
   rw[hb] at q
   obtain rfl:=U8 hb
   exact TC n hv q
 |_=>exact .mk n hv q
theorem NQ (n:Nx c ρ T T')(hf:BE T'.X ff fl)(q:am Q ff ρ₁ T'.H):ŝ c ρ T VV Q (flV fl) T'.s:=by
 cases ff with
 |next=>exact hf.on (.mk n .none q)
 |brk=>exact bT.elim q
 |cont=>exact bT.elim q
 |ret v=>exact hf.on λx hv=>TB (ρ₁:=ρ₁) n hv q
theorem x4 {a m k j l w z:Nat}(h:a+(m+w)+z<l)(e:j+k<=w+z):a+j+m+k<l:=Í (by
 rw[Ĭ a j,←þ a,þ _ j,þ _ w]
 exact Ý e _) h
theorem xO.deep (C:xO 60 c (n+1)):c.A.units+3+100*n+80<cLine∧c.A.depth+1+30*n+80<recursionLimit∧c.A.units+43<cLine∧c.A.depth+41<recursionLimit∧c.A.depth<recursionLimit:=
 have u:c.A.units+(100*n+100)+60<cLine:=C.u
 have d:c.A.depth+(30*n+30)+60<recursionLimit:=C.d
 have h:c.A.depth+41+30*n+0<recursionLimit:=x4 d (by decide)
 ⟨x4 u (by decide),x4 d (by decide),Í (Ï _ _) (x4 (j:=43) (k:=0) u (by decide)),Í (Ï _ _) h,Í (Ï _ _) (Í (Ï _ _) h)⟩
theorem F1 {m:Nat}{as ds:List V}(h:(tH m as ds).isSome=true):as.length<=m∧m<=as.length+ds.length∧tH m as ds=some (as++ds.drop (as.length+ds.length-m)):=by
 unfold tH at h⊢
 by_cases q:as.length<=m∧m<=as.length+ds.length
 ·exact⟨q.1,q.2,Î q⟩
 ·rw[Ñ q] at h;exact Bool.noConfusion h
theorem qC.dfl_ok (K:qC d o fd body ns)(W:Wd T):∃ds,Į T.X d.dflts ds∧∀(M:Model) (A:Around) (E:Value->Shared->Prop) (Q:Option (Array Value)->Shared->Prop),(∀o,(o.getD #[]).toList=ds->Q o T.s)->wpAny M A (seqItems? fd.defaults) Q E T.s:=by
 rcases K.dfl with ⟨e1,e2⟩|⟨Td,ds,e1,e2,e3⟩
 ·refine⟨[],by rw[e2];exact .nil,λM A E Q h=> ?_⟩
  rw[e1]
  exact Á (Ê (Ê (h _ rfl)))
 ·refine⟨ds,e3 W,λM A E Q h=> ?_⟩
  rw[e1]
  exact wpAny_seqItems (W.still (W.kf e2)) rfl (h _ rfl)
theorem map_some {us:List V}{ys:List Value}(r:Į X us ys)(h:(us.map some)[i]? =some (some v)):∃y,ys[i]? =some y∧VR X v y:=by
 rw[Ü] at h
 obtain⟨v',h1,h2⟩:=kD h
 exact r.get (h1.trans h2)
theorem O7 {frs:List Env}{L:Addr}{env:Env}{l:List Addr}{h':Heap}(QV:env.frame=some env.locals)(O:mi T env.locals l h'):∀L∈d7 (env::frs),L∈d7 frs∨T.h.get? L=none:=λL hm=>by
 rw[d7,gp,QV] at hm
 exact (Û.mp hm).elim (λz=> .inr (z▸(O.n O.m).1)) .inl
structure XX (T:Sx)(A:Around)(frs:List Env)(fd:FuncData)(np sl:Nat)(ns:List Str)(us:List (Option V))(ys:List Value)(env:Env)(Ę:Shared):Prop where
 sc:env.scope=fd.scope
 O:mi T env.locals (ownOf env.locals env.cells) Ę.heap
 r:Ħ (bu A frs env ns) (us++List.replicate (sl-np) none) ⟨T.X.own (ownOf env.locals env.cells) env.locals,T.H,Ę⟩
 w:vH (bu A frs env ns)
 f:xP (bu A frs env ns)
 hn:Ę.heap.Ns env.locals (bindL env.kindOf ((ns.take np).zip ys) λ_=>none)
 fr:∀L∈d7 (env::frs),L∈d7 frs∨T.h.get? L=none
 same:∃tk,Ę={T.s with heap:=Ę.heap,toks:=tk}
theorem hV {frs:List Env}{us:List (Option V)}{ys:List Value}{RR:Result->Shared->Prop}(e:VK T A frs)(K:qC d o fd body ns)(hb:BindsTo T.s fd ⟨xs,[]⟩ ((ns.take d.np).zip ys))(hv:∀{i:Nat} {v:V},us[i]? =some (some v)->∃y,ys[i]? =some y∧VR T.X v y)(hl:us.length=d.np)(hy:d.np<=ys.length)
 (h:∀{env:Env} {Ę:Shared},XX T A frs fd d.np d.slots.length ns us ys env Ę->wpAny M0 (A.deeper env) (execs body env) (λf s'=>RR (.ok (.ret (flV f))) s') (λe s'=>wpAny M0 (A.deeper env) (leaving env e) (λ_ jI=>RR (.error e) jI) (λe' jI=>RR (.error e') jI) s') Ę):
 codeAny M0 A (.call (.ref d.addr) ⟨xs,[]⟩) RR T.s:=by
 have lk:∀{a o},K0.lookup a=some o->T.h.get? a=some o:=λh=>e.W.still (e.W.kf h)
 obtain⟨cd,oc,cvs,ct,k1,k2,k3,k4⟩:=K.code
 refine codeAny_call_function (Í (Ï _ _) e.d) (lk K.look) K.data K.co K.gen K.body ⟨cd,oc,cvs,ct,k1,lk k2,k3,k4⟩ (hb _ _ _ _ ?_)
 rw[K.clo]
 refine wpAny_newFunctionEnv_cells K.kind (λy hy=>(K.loc y.1 (List.mem_of_mem_take (lR (y.eta▸hy)).1)).imp id λh=>⟨h,Option.isSome_iff_ne_none.mpr (n4 (.inr (fE h)))⟩) λenv he Ę x=>⟨(e.W.g.top.keeps λ_ _ h=>e.W.still (e.W.base h)).nolimit.keeps x.toInCall.keep,codeAny_func ?_⟩
 obtain⟨O,M7,Àj⟩:=Gl e K hv hl hy he x
 have S9:xP (bu A frs env ns):=⟨⟨frs,rfl⟩,by rw[he];rfl⟩
 refine ê (h ⟨by rw[he];rfl,O,M7,Àj,S9,x.toInCall.ns,O7 (L:=0) S9.frame O,x.toInCall.same.elim λh z=>z.elim λtk z=>⟨tk,by rw[z]⟩⟩) (λf s' q=> ?_) λ_ _ q=>q
 cases f<;>exact q
theorem XX.virt {frs:List Env}{np sl:Nat}{us:List (Option V)}{ys:List Value}{env:Env}{Ę:Shared}(D:XX T A frs fd np sl ns us ys env Ę)(S:Step (bu A frs env ns) ⟨T.X.own (ownOf env.locals env.cells) env.locals,T.H,Ę⟩ T'):Step (bu A frs env ns) ⟨T.X.own (ownOf env.locals env.cells) env.locals,T.H,T.s⟩ T':=D.same.elim λtk e=>D.O.virt (tk:=tk) (e▸S)
theorem JY (C:FmD c (n+1))(hd:c8 f=some d)(K:qC d o fd body ns)(hB:∀{c'},c'.env.scope=fd.scope->c'.ns=ns->lH c' n->xP c'->vH c'->vF (ú n) c' d.body body)(hv:Į T.X vs xs)(q:ú (n+1) f vs E Q T.H)(R:Ħ c ρ T):
 codeAny M0 c.A (.call (.ref d.addr) ⟨xs,[]⟩) (CP c ρ T E Q) T.s:=by
 rw[nG] at q
 unfold QC L6 mT at q
 rw[hd] at q
 dsimp only at q
 obtain⟨f1,f2,f3⟩:=F1 q.1
 rw[f3] at q
 replace q:=q.2
 dsimp only at q
 obtain⟨u1,u2,u3,u4,u5⟩:=C.deep
 obtain⟨ds,oY,Xw⟩:=K.dfl_ok R.toWd
 have G6:(ns.take d.np).length=d.np:=Rp K.np
 have hb:=oa K.p1 K.p2 K.p3 K.p4 K.p5 (K.nd.sublist (vv _ _)) Xw (xs:=xs) (by rw[G6,←hv.length];exact f1) (by rw[G6,←hv.length,←oY.length];exact f2) (by rw[G6,←oY.length];exact K.dl)
 rw[G6,←hv.length,←oY.length] at hb
 have hys:=hv.append (oY.drop (vs.length+d.dflts.length-d.np))
 have hl:(vs++d.dflts.drop (vs.length+d.dflts.length-d.np)).length=d.np:=by
  obtain⟨t,e⟩:=Qv f1
  rw[Ã,ã,e,WI,eA (Km (e▸f2))]
 refine hV (R.ent u3 u4) K hb (map_some hys) ((Â _).trans hl) (ð (hl.symm.trans hys.length)) λ{env Ę} D=> ?_
 refine ê (hB (c':=bu c.A c.frs env ns) D.sc rfl ⟨⟨C.hh⟩,u1,u2⟩ D.f D.w (T:=⟨T.X.own (ownOf env.locals env.cells) env.locals,T.H,Ę⟩) q D.r) (λfl s' p=>p.casesOn λ{X' H' Ĥ ff} n' hf q=>NQ (T':=⟨X',H',s'⟩) (R.leave n'.r.toWd D.O (D.virt n'.s) D.fr) hf q) λe s' p=>p.casesOn λx'=> ?_
 refine Á (rt D.f x' λjI WO t=>iC WO t _ λd5 Ms _=> ?_)
 exact Ms.casesOn (motive:=λe _=>dJ c ρ T E d5 e) λ{X' H' p a} n' ok q=> .mk (R.leave n'.r.toWd D.O (D.virt n'.s) D.fr) (ok.back λb e=>ci (λo e=>⟨o,D.O.k e⟩) e) q
theorem iE (W:Wd T)(K:qC d o fd body ns)(h:xs.length=d.np):BindsTo T.s fd ⟨xs,[]⟩ ((ns.take d.np).zip xs):=by
 obtain⟨ds,oY,Xw⟩:=K.dfl_ok W
 have G6:(ns.take d.np).length=d.np:=Rp K.np
 have hb:=oa K.p1 K.p2 K.p3 K.p4 K.p5 (K.nd.sublist (vv _ _)) Xw (xs:=xs) (ð (h.trans G6.symm)) (by rw[G6,h];exact Ï _ _) (by rw[G6,←oY.length];exact K.dl)
 rw[G6,h,aE,zR,à] at hb
 exact hb
end
theorem IU (P:Params):((List.range 9).all λc=>(kH c).isNone||jf (kH c) λf=>jf (c8 f) λd=>makesIn (KF P) (Ě c)&&((findIn (KF P) (.ref (Ě c)) "__init__" ==some (some (.ref d.addr)))&&(typeIn (KF P) (.ref d.addr)==some (.type "function"))))=true:=by kernel_rfl
noncomputable abbrev wA (c:Fm)(A:Around):Fm:={c with A:=A}
section
variable {Φ:Ď} {n k f:Nat} {c:Fm} {T T':Sx} {ρ:Loc} {A:Around} {vs:List V} {bs:List Value} {E:Ĩ} {Q:QT} {es:List PE} {xs:List Expr} {p pos:Pos} {e:Value} {s':Shared} {x dx:Addr} {h':Heap} {v:V} {i:Nat}
theorem Nx.ofA (R:Ħ c ρ T)(n:Nx (wA c A) ρ T T'):Nx c ρ T T':=⟨{n.r with k:=R.k},⟨n.s.keep,n.s.grows,n.s.le,n.s.tr,n.s.mn,n.s.hl⟩⟩
theorem dJ.ofA (R:Ħ c ρ T)(x:dJ (wA c A) ρ T E s' e):dJ c ρ T E s' e:=x.casesOn λn ok q=> .mk (n.ofA R) ok q
theorem ŝ.ofA (R:Ħ c ρ T)(x:ŝ (wA c A) ρ T VV Q e s'):ŝ c ρ T VV Q e s':=x.casesOn λn hv q=> .mk (n.ofA R) hv q
theorem Fc {H:AH}(q:jh Φ k vs E H Q):∃f,kH k=some f∧Call Φ E f (qq k H.length Q) (.obj H.length::vs) (H++[some (.inst k [])]):=by
 unfold jh at q
 cases h:kH k with
 |none=>rw[h] at q;exact q.elim
 |some f=>rw[h] at q;exact⟨f,rfl,q⟩
theorem AZ (R:Ħ c ρ T){fs:List (Nat×V)}{cc:Nat}{a:Value}(hv:VR T.X (.obj i) a)(hi:T.H[i]? =some (some (.inst cc fs))):∃X',VR X' (.rcd cc fs) a∧Nx c ρ T ⟨X',T.H.set i none,T.s⟩:=
 hv.on λp d ht=>(R.obj hi ht).2.on (P:=λt=>T.X.θ[i]? =some t->∃X',VR X' (.rcd cc fs) (.ref t.1)∧Nx c ρ T ⟨X',T.H.set i none,T.s⟩) (λp d es n f1 e r ht=>⟨_,.rcd ((R.kill hi ht e).s.le.f f1) aw (r.mono (R.kill hi ht e).s.le),R.kill hi ht e⟩) ht
theorem IW (n:Nx c ρ T T'){a:Value}(hv:VR T'.X (.obj i) a)(q:qq k i Q v T'.H):v= .none∧ŝ c ρ T VV Q a T'.s:=by
 unfold qq at q
 refine⟨q.1,?_⟩
 replace q:=q.2
 cases h:l6 k with
 |false=>rw[h] at q;exact .mk n hv q
 |true=>
  rw[h] at q
  obtain⟨cc,fs,hi,q⟩:=rH (K:=λcc fs=>Q (.rcd cc fs) (T'.H.set i none)) q
  obtain⟨X',hv,n'⟩:=AZ n.r hv hi
  exact .mk ⟨n'.r,n.s.trans n'.s⟩ hv q
theorem AR (R:Ħ c ρ T)(kl:KL c.L T.h h')(hX:h'.get? x=some (instObj (Ě k) dx))(hD:h'.get? dx=some (dictOf [] i))(fX:T.h.get? x=none)(fD:T.h.get? dx=none)(ne:dx≠x):
 Nx c ρ T ⟨(T.X.put x (.still (instObj (Ě k) dx))).new (x,dx),T.H++[some (.inst k [])],{T.s with heap:=h'}⟩∧VR ((T.X.put x (.still (instObj (Ě k) dx))).new (x,dx)) (.obj T.H.length) (.ref x):=
 ⟨R.live' (tk:=T.s.toks) kl (.put R.toWd fX hX) fD ((ķ ne).trans (R.free fD)) (.inst ((ķ (bI ne)).trans aw) hD .nil),.obj (wl (X:=T.X.put x _) R.len)⟩
theorem Li {a m j k z l:Nat}(h:a+m+z<l)(e:j+k<=z):a+j+m+k<l:=Í (by
 rw[Ĭ a j,þ _ j]
 exact Ý e _) h
theorem QI {a m j k z l:Nat}(h:a+m+z<l)(e:j+k<=z):a+j+k<l:=Í (by
 rw[þ,þ]
 exact Ý (À e (Ğ _ _)) _) h
noncomputable abbrev mkA (A:Around)(C:Addr)(bs:List Value):Around:=A.under (.builtin "type.__call__" ⟨.ref C::bs,[]⟩)
theorem xO.make {C:Addr}(c0:xO 80 c n):xO 60 (wA c (mkA c.A C bs)) n:=⟨⟨c0.hh⟩,Li (j:=1) c0.u (by decide),Li (j:=1) c0.d (by decide)⟩
theorem Ħ.make {C:Addr}(R:Ħ c ρ T)(c0:xO 80 c n):Ħ (wA c (mkA c.A C bs)) ρ T:=
 {R with k:={R.k with frames:=R.k.frames,units:=QI (j:=1) c0.u (by decide),depth:=QI (j:=1) c0.d (by decide)}}
theorem IV (C:lH c n)(W:di Φ n)(hv:Į T.X vs bs)(q:jh Φ k vs E T.H Q):ĥ c ρ T (call (.ref (Ě k)) bs) VV E Q:=λR=>by
 obtain⟨f,hf,q⟩:=Fc q
 have hk:k<9:=eB λz=>by
  rw[←aX z] at hf
  exact nS hf
 have ht:=É.mp (IU cx.w.params) k (Ö.mpr hk)
 rw[hf] at ht
 obtain⟨d,hd,ht⟩:=iW (show jf (c8 f) _=true from ht)
 obtain⟨m,F,N⟩:=R.fr
 refine rq (λR=>make_K F N R.kin (aL ht) (eq_of_beq (aL (aR ht))) (eq_of_beq (aR (aR ht))) λx dx h' F' N' jD hdx=> ?_) R
 have hX:=N' _ (.head _)
 have hD:=N' _ (.tail _ (.head _))
 have fresh:∀{a},a≠c.L->cx.h₀.get? a=none->dx<=a->T.h.get? a=none:=λ{a} n1 n2 n3=>by
  cases z:T.h.get? a with
  |none=>rfl
  |some o=>exact absurd (jD _ (gZ.mpr ⟨z,n1,n2⟩)) (Ł.mpr n3)
 obtain⟨n1,ho⟩:=AR R (R.news F F' N' λp hp=> .tail _ (.tail _ hp)) hX.1 hD.1 (fresh hX.2.1 hX.2.2 (í hdx)) (fresh hD.2.1 hD.2.2 (Å _)) (î hdx)
 unfold Call at q
 obtain⟨d',Xy,w⟩:=W (T:=⟨(T.X.put x (.still (instObj (Ě k) dx))).new (x,dx),T.H++[some (.inst k [])],{T.s with heap:=h'}⟩) q
 obtain rfl:=Ä (hd.symm.trans Xy)
 refine GW (w (xO.make C) (.cons ho (hv.mono n1.s.le)) (n1.r.make C)) λr s' hr=> ?_
 cases r with
 |error e=>exact (dJ.ofA n1.r hr).back n1.s
 |ok fl=>cases fl with
  |ret v=>
   exact (ŝ.ofA n1.r hr).casesOn λ{X' H' u} n2 hu q=>by
    obtain⟨e,p⟩:=IW (T':=⟨X',H',s'⟩) ⟨n2.r,n1.s.trans n2.s⟩ (ho.mono n2.s.le) q
    rw[e] at hu
    exact⟨hu.on (P:=λv=>v= .none) rfl,p⟩
  |_=>exact hr.elim
theorem Oa (C:lH c n)(W:di Φ n)(hk9:k<9)(hk:ū c.env.scope (Str.ofString (jU k))=true)(hn:Ns xs)(ha:BG Φ c es xs):SE Φ c (.new k es) (.Call (.Name (Str.ofString (jU k)) p) xs [] pos):=λq=>by
 have hg:=É.mp (Pu cx.w.params) k (Ö.mpr hk9)
 exact .eq (Ÿ ..) (pV hk (eq_of_beq (aL hg)) (bU (bG (aR hg)) hn (ha q) λT₁ vs bs _ hv q=>IV C W hv q))
end
noncomputable def cL (ns:List Str)(i:Nat)(x:Str):Bool:=(ns[i]? ==some x)&&(!(x==("__debug__" :Str))&& !(x==("__classdict__" :Str)))
noncomputable def t8 (scope sc:Scope):Scope:=
 {scope with names:=scope.names.map λ(n,k)=>if (k== .free&&sc.kind== .function&&sc.names.lookup n==some .cell) then (n,.cell) else (n,k)}
noncomputable def Au (ns:List Str)(Ģ:List Nat):List Str:=Ģ.map λi=>(ns[i]?).getD ⟨#[]⟩
noncomputable def XI (sc:Scope)(x:Str):Bool:=(sc.names.lookup x==some .cell)||(sc.names.lookup x==some .free)
noncomputable def LA (sc scope:Scope)(ns:List Str)(k:Option Nat)(tg:List Str)(Ģ:List Nat):Bool:=
 (k.isNone||k==some 2)&&((scope.kind== .function)&&((scope.names.all λy=>y.2 != .cell)&&((scope.names.all λy=>y.2 != .local||scope.names.lookup y.1==some .local)
  &&((scope.names.all λy=>y.2 != .free||XI sc y.1)&&((tg.all λx=>scope.names.lookup x==some .local)&&(decide (tg++Au ns Ģ).Nodup
   &&Ģ.all λi=>jf ns[i]? λx=>(scope.names.lookup x==some .free)&&XI sc x))))))
noncomputable def pe (f:Nat):String:=match c8 f with
 |some d=>d.name
 |none=>""
noncomputable def HA (f:Nat):Bool:=match c8 f with
 |some d=>xR d
 |none=>false
noncomputable def nE (s:String)(x:Expr):Expr:= .Name (Str.ofString s) x.pos
noncomputable def Cf (v:V)(x:Expr):Expr:=match v with
 | .none=> .Constant .none (kd x).k x.pos
 | .bool b=> .Constant (.bool b) (kd x).k x.pos
 | .int (.ofNat n)=> .Constant (.int (.ofNat n)) (kd x).k x.pos
 | .int (.negSucc n)=> .UnaryOp .USub (.Constant (.int ((n+1:Nat):Int)) (kd (kx x 0)).k (kx x 0).pos) x.pos
 | .str l=> .Constant (.str (ĝ l)) (kd x).k x.pos
 |_=> .Constant .none 0 x.pos
noncomputable def WY (v:V):Bool:=match v with
 | .none=>true
 | .bool _=>true
 | .int _=>true
 | .str l=>Nat.ble l.length 1000
 |_=>false
noncomputable def MC (e:PE):Bool:=match e with
 | .call _ es=> !es.isEmpty
 | .new _ es=> !es.isEmpty
 | .bcall _ es=> !es.isEmpty
 |_=>true
noncomputable def Rz (x:Expr):Scope:=(kd x).sc.getD default
mutual
noncomputable def tr:PE->Expr->Expr
 | .lit v,x=>Cf v x
 | .var _,x=>BD x
 | .glob n,x=>nE (mz n) x
 | .attr e f,x=> .Attribute (tr e (kx x 0)) (bM f) x.pos
 | .bin op a b,x=> .BinOp (tr a (kx x 0)) (gM op) (tr b (kx x 1)) x.pos
 | .cmp op a b,x=> .Compare (tr a (kx x 0)) [gK op] [tr b (kx x 1)] x.pos
 | .andE a b,x=> .BoolOp .And [tr a (kx x 0),tr b (kx x 1)] x.pos
 | .orE a b,x=> .BoolOp .Or [tr a (kx x 0),tr b (kx x 1)] x.pos
 | .and3 a b d,x=> .BoolOp .And [tr a (kx x 0),tr b (kx x 1),tr d (kx x 2)] x.pos
 | .or3 a b d,x=> .BoolOp .Or [tr a (kx x 0),tr b (kx x 1),tr d (kx x 2)] x.pos
 | .notE a,x=> .UnaryOp .Not (tr a (kx x 0)) x.pos
 | .ite t a b,x=> .IfExp (tr t (kx x 0)) (tr a (kx x 1)) (tr b (kx x 2)) x.pos
 | .idx a b,x=> .Subscript (tr a (kx x 0)) (tr b (kx x 1)) x.pos
 | .slc a lo hi,x=> .Subscript (tr a (kx x 0)) (.Slice (Ry lo (kx (kx x 1) 0)) (Ry hi (kx (kx x 1) 1)) none (kx x 1).pos) x.pos
 | .rev a,x=> .Subscript (tr a (kx x 0)) (Cb (kd (kx (kx (kx x 1) 2) 0)).k (kx x 1).pos (kx (kx (kx x 1) 2) 0).pos (kx (kx x 1) 2).pos) x.pos
 | .tss a,x=> .Call (nE "tuple" (kx x 0)) [.Call (nE "sorted" (kx (kx x 1) 0)) [.Call (nE "set" (kx (kx (kx x 1) 1) 0)) [tr a (kx (kx (kx x 1) 1) 1)] [] (kx (kx x 1) 1).pos] [] (kx x 1).pos] [] x.pos
 | .tup es,x=> .Tuple (BA es (kd x).ch) (kd x).k x.pos
 | .lst _ es,x=> .List (BA es (kd x).ch) x.pos
 | .dct0,x=> .Dict [] [] x.pos
 | .comp elt k src cond _,x=> .ListComp (tr elt (kx x 0)) [⟨BS k (kx x 1),tr src (kx x 2),(Ry cond (kx x 3)).toList,0⟩] (Rz x) x.pos
 | .call f es,x=> .Call (nE (pe f) (kx x 0)) (BA es (kd x).ch.tail) [] x.pos
 | .new c es,x=> .Call (nE (jU c) (kx x 0)) (BA es (kd x).ch.tail) [] x.pos
 | .bcall b es,x=> .Call (nE (jn b) (kx x 0)) (BA es (kd x).ch.tail) [] x.pos
 | .meth e m es,x=> .Call (.Attribute (tr e (kx (kx x 0) 0)) (mN m) (kx x 0).pos) (BA es (kd x).ch.tail) [] x.pos
noncomputable def BA:List PE->List Expr->List Expr
 |[],_=>[]
 |e::es,l=>tr e (l.headD dx)::BA es l.tail
noncomputable def Ry:Option PE->Expr->Option Expr
 |none,_=>none
 |some e,x=>some (tr e x)
end
mutual
noncomputable def b3:PE->Scope->List Str->Expr->Bool
 | .lit v,_,_,_=>WY v
 | .var i,_,ns,x=>cL ns i (nm x)
 | .glob n,sc,_,_=>ū sc (Str.ofString (mz n))
 | .attr e _,sc,ns,x=>MC e&&b3 e sc ns (kx x 0)
 | .bin _ a b,sc,ns,x=>b3 a sc ns (kx x 0)&&b3 b sc ns (kx x 1)
 | .cmp _ a b,sc,ns,x=>b3 a sc ns (kx x 0)&&b3 b sc ns (kx x 1)
 | .andE a b,sc,ns,x=>b3 a sc ns (kx x 0)&&b3 b sc ns (kx x 1)
 | .orE a b,sc,ns,x=>b3 a sc ns (kx x 0)&&b3 b sc ns (kx x 1)
 | .and3 a b d,sc,ns,x=>b3 a sc ns (kx x 0)&&(b3 b sc ns (kx x 1)&&b3 d sc ns (kx x 2))
 | .or3 a b d,sc,ns,x=>b3 a sc ns (kx x 0)&&(b3 b sc ns (kx x 1)&&b3 d sc ns (kx x 2))
 | .notE a,sc,ns,x=>b3 a sc ns (kx x 0)
 | .ite t a b,sc,ns,x=>b3 t sc ns (kx x 0)&&(b3 a sc ns (kx x 1)&&b3 b sc ns (kx x 2))
 | .idx a b,sc,ns,x=>b3 a sc ns (kx x 0)&&b3 b sc ns (kx x 1)
 | .slc a lo hi,sc,ns,x=>b3 a sc ns (kx x 0)&&(Vk lo sc ns (kx (kx x 1) 0)&&Vk hi sc ns (kx (kx x 1) 1))
 | .rev a,sc,ns,x=>b3 a sc ns (kx x 0)
 | .tss a,sc,ns,x=>ū sc "tuple" &&(ū sc "sorted" &&(ū sc "set" &&b3 a sc ns (kx (kx (kx x 1) 1) 1)))
 | .tup es,sc,ns,x=>Nat.ble es.length 100&&sU es sc ns (kd x).ch
 | .lst _ es,sc,ns,x=>Nat.ble es.length 100&&sU es sc ns (kd x).ch
 | .dct0,_,_,_=>true
 | .comp elt k src cond Ģ,sc,ns,x=>LA sc (Rz x) ns k (ve k (kx x 1)) Ģ&&(b3 src sc ns (kx x 2)&&(b3 elt (t8 (Rz x) sc) (ve k (kx x 1)++Au ns Ģ) (kx x 0)&&Vk cond (t8 (Rz x) sc) (ve k (kx x 1)++Au ns Ģ) (kx x 3)))
 | .call f es,sc,ns,x=>HA f&&(ū sc (Str.ofString (pe f))&&sU es sc ns (kd x).ch.tail)
 | .new c es,sc,ns,x=>Nat.blt c 9&&(ū sc (Str.ofString (jU c))&&sU es sc ns (kd x).ch.tail)
 | .bcall b es,sc,ns,x=>(Nat.blt b 10&& !(b==5))&&(ū sc (Str.ofString (jn b))&&sU es sc ns (kd x).ch.tail)
 | .meth e _ es,sc,ns,x=>MC e&&(((kx x 0).pos.endLine==x.pos.line)&&(Nat.blt es.length 20&&(b3 e sc ns (kx (kx x 0) 0)&&sU es sc ns (kd x).ch.tail)))
noncomputable def sU:List PE->Scope->List Str->List Expr->Bool
 |[],_,_,_=>true
 |e::es,sc,ns,l=>b3 e sc ns (l.headD dx)&&sU es sc ns l.tail
noncomputable def Vk:Option PE->Scope->List Str->Expr->Bool
 |none,_,_,_=>true
 |some e,sc,ns,x=>b3 e sc ns x
end
structure Bt2 (Φ:Ď)(c:Fm)(e:PE)(x:Expr):Prop where
 se:SE Φ c e x
 st:jK Φ c e x
structure BO (Φ:Ď)(c:Fm)(o:Option PE)(x:Option Expr):Prop where
 so:RV Φ c o x
 sc:SC Φ c o x.toList
def tN (Φ:Ď)(n:Nat):Prop:=∀{c:Fm} {a:PE} {y:Expr} {p1 p2 p3 q1 q2 q3:Pos},lH c n->ū c.env.scope "tuple" =true->ū c.env.scope "sorted" =true->ū c.env.scope "set" =true->kz y->SE Φ c a y->
 SE Φ c (.tss a) (.Call (.Name (Str.ofString "tuple") p1) [.Call (.Name (Str.ofString "sorted") p2) [.Call (.Name (Str.ofString "set") p3) [y] [] q3] [] q2] [] q1)
abbrev M1 (Φ:Ď)(n:Nat)(e:PE):Prop:=∀{c:Fm} {x:Expr},lH c n->b3 e c.env.scope c.ns x=true->Bt2 Φ c e (tr e x)
abbrev M2 (Φ:Ď)(n:Nat)(es:List PE):Prop:=∀{c:Fm} {l:List Expr},lH c n->sU es c.env.scope c.ns l=true->BG Φ c es (BA es l)
abbrev M3 (Φ:Ď)(n:Nat)(o:Option PE):Prop:=∀{c:Fm} {x:Expr},lH c n->Vk o c.env.scope c.ns x=true->BO Φ c o (Ry o x)
section
variable {Φ:Ď} {n:Nat} {c:Fm} {x:Expr} {e:PE} {es:List PE} {v:V} {l:List Expr} {k:Option Nat} {scope:Scope} {tg:List Str} {Ģ:List Nat} {i:Nat} {y:Str}
theorem bR (e:PE):kz (tr e x):=by
 cases e with
 |lit v=>cases v with
  |int i=>cases i with
   |ofNat=>exact⟨λ_ _=>rfl,λ_ _=>rfl,λ_ _=>⟨_,rfl⟩,λ_ _=>rfl⟩
   |negSucc=>exact⟨λ_ _=>rfl,λ_ _=>rfl,λ_ _=>⟨_,rfl⟩,λ_ _=>rfl⟩
  |_=>exact⟨λ_ _=>rfl,λ_ _=>rfl,λ_ _=>⟨_,rfl⟩,λ_ _=>rfl⟩
 |_=>exact⟨λ_ _=>rfl,λ_ _=>rfl,λ_ _=>⟨_,rfl⟩,λ_ _=>rfl⟩
theorem bS:∀{l:List Expr},Ns (BA es l):=by
 induction es with
 |nil=>exact λ_ h=>nomatch h
 |cons e es ih=>exact λy hy=>(Û.mp hy).elim (λz=>z▸bR e) (ih y)
theorem yl:∀{l:List Expr},(BA es l).length=es.length:=by
 induction es with
 |nil=>exact rfl
 |cons e es ih=>exact È (·+1) ih
theorem jW (h:MC e=true)(a:Str)(env:Env)(w:Sem Value):attributeBase (tr e x) a env w=w:=by
 cases e with
 |lit v=>cases v with
  |int i=>cases i<;>rfl
  |_=>rfl
 |call _ es=>cases es with
  |nil=>exact fT h
  |cons=>rfl
 |new _ es=>cases es with
  |nil=>exact fT h
  |cons=>rfl
 |bcall _ es=>cases es with
  |nil=>exact fT h
  |cons=>rfl
 |_=>rfl
theorem slot_of (h:cL c.ns i y=true):c.ns[i]? =some y∧(y==("__debug__" :Str))=false∧(y==("__classdict__" :Str))=false:=⟨eq_of_beq (aL h),(á _).mp (aL (aR h)),(á _).mp (aR (aR h))⟩
theorem LC (h:XI c.env.scope y=true):c.env.kindOf y=some .cell∨c.env.kindOf y=some .free:=(Ŏ.mp h).imp eq_of_beq eq_of_beq
theorem aa {α:Type}{p:α->Bool}{l:List α}(h:l.all p=true){a:α}(m:a∈l):p a=true:=É.mp h a m
theorem Lc {α:Type}[BEq α][LawfulBEq α]{a b:α}{q:Bool}(h:(a != b||q)=true)(e:a=b):q=true:=(Ŏ.mp h).resolve_left λz=>ŋ.mp z e
theorem zH (h:LA c.env.scope scope c.ns k tg Ģ=true):pq c scope k tg (Au c.ns Ģ) Ģ where
 k2:=(Ŏ.mp (aL h)).imp Ĝ.mp eq_of_beq
 kind:=eq_of_beq (aL (aR h))
 nocell:=λy m=>ŋ.mp (aa (aL (aR (aR h))) m)
 locals:=λy m e=>eq_of_beq (Lc (aa (aL (aR (aR (aR h)))) m) e)
 free:=λy m e=>LC (Lc (aa (aL (aR (aR (aR (aR h))))) m) e)
 tgl:=λx m=>eq_of_beq (aa (aL (aR (aR (aR (aR (aR h)))))) m)
 nd:=Ā (aL (aR (aR (aR (aR (aR (aR h)))))))
 cap:=λ{j i x} h1 h2=>by
  obtain⟨y,e,q⟩:=iW (aa (aR (aR (aR (aR (aR (aR (aR h))))))) (bX h1))
  have:Au c.ns Ģ=Ģ.map λi=>(c.ns[i]?).getD ⟨#[]⟩:=rfl
  rw[this,Ü,h1] at h2
  have h2:(c.ns[i]?).getD ⟨#[]⟩=x:=Ä h2
  rw[e] at h2
  have h2:y=x:=h2
  exact⟨h2▸e,h2▸eq_of_beq (aL q),h2▸LC (aR q)⟩
theorem Dv (h:WY v=true):SE Φ c (.lit v) (Cf v x):=by
 cases v with
 |none=>exact λq=> .pure .none q
 |bool b=>exact λq=> .pure (.bool b) q
 |int i=>cases i with
  |ofNat=>exact OT
  |negSucc n=>exact Ob (i:=((n+1:Nat):Int))
 |str l=>exact Np (Ó h)
 |_=>exact fT h
theorem Ou (h:WY v=true):jK Φ c (.lit v) (Cf v x):=by
 cases v with
 |bool b=>exact λq=>kA (Φ:=Φ) (e:= .lit (.bool b)) (λ_ _=>rfl) (Dv h) q
 |_=>exact λq=>False.elim q
theorem Ux {f:Nat}(h:HA f=true):∃d,c8 f=some d∧xR d=true∧pe f=d.name:=by
 unfold HA at h
 unfold pe
 cases e:c8 f with
 |none=>rw[e] at h;exact fT h
 |some d=>rw[e] at h;exact⟨d,rfl,h,rfl⟩
theorem uR (W:di Φ n)(C:lH c n){f:Nat}{p pos:Pos}{xs:List Expr}(hf:HA f=true)(hk:ū c.env.scope (Str.ofString (pe f))=true)(hn:Ns xs)(ha:BG Φ c es xs):SE Φ c (.call f es) (.Call (.Name (Str.ofString (pe f)) p) xs [] pos):=by
 obtain⟨d,h1,h2,h3⟩:=Ux hf
 rw[h3] at hk⊢
 exact JX C W h1 h2 hk hn ha
theorem yF:SC Φ c none []:=λq R=>wpAny_tests_nil (fin0 (v:=true) R rfl q)
theorem yE (h:jK Φ c e x):SC Φ c (some e) [x]:=λq R=>wpAny_tests_one (h q R)
theorem tp (W:di Φ n)(Z:tN Φ n)(e:PE):M1 Φ n e:=
 PE.rec (motive_1:=M1 Φ n) (motive_2:=M3 Φ n) (motive_3:=M2 Φ n)
  (λv _ _ C h=>⟨Dv h,Ou h⟩)
  (λi _ _ C h=>⟨v5 (slot_of h).1 (slot_of h).2.1 (slot_of h).2.2,λq=>kA (Φ:=Φ) (e:= .var i) (λ_ _=>rfl) (v5 (slot_of h).1 (slot_of h).2.1 (slot_of h).2.2) q⟩)
  (λg _ _ C h=>⟨Ju h,λq=>False.elim q⟩)
  (λe f i _ _ C h=>⟨rU (jW (aL h)) (i C (aR h)).se,λq=>kA (e:= .attr e f) (λ_ _=>rfl) (rU (jW (aL h)) (i C (aR h)).se) q⟩)
  (λop a b ia ib _ _ C h=>⟨Qg (ia C (aL h)).se (ib C (aR h)).se,λq=>False.elim q⟩)
  (λop a b ia ib _ _ C h=>⟨Pt (bR b) (ia C (aL h)).se (ib C (aR h)).se,Pr (bR b) (ia C (aL h)).se (ib C (aR h)).se⟩)
  (λa b ia ib _ _ C h=>⟨Qp (ia C (aL h)).se (ib C (aR h)).se,Qo (ia C (aL h)).st (ib C (aR h)).st⟩)
  (λa b ia ib _ _ C h=>⟨TQ (ia C (aL h)).se (ib C (aR h)).se,TP (ia C (aL h)).st (ib C (aR h)).st⟩)
  (λa b d ia ib id _ _ C h=>⟨Kc (ia C (aL h)).se (ib C (aL (aR h))).se (id C (aR (aR h))).se,Kb (ia C (aL h)).st (ib C (aL (aR h))).st (id C (aR (aR h))).st⟩)
  (λa b d ia ib id _ _ C h=>⟨N3 (ia C (aL h)).se (ib C (aL (aR h))).se (id C (aR (aR h))).se,N2 (ia C (aL h)).st (ib C (aL (aR h))).st (id C (aR (aR h))).st⟩)
  (λa i _ _ C h=>⟨N7 (i C h).se,N6 (i C h).st⟩)
  (λt a b it ia ib _ _ C h=>⟨OM (it C (aL h)).st (ia C (aL (aR h))).se (ib C (aR (aR h))).se,λq=>False.elim q⟩)
  (λa b ia ib _ _ C h=>⟨DN (bR b) (ia C (aL h)).se (ib C (aR h)).se,λq=>kA (e:= .idx a b) (λ_ _=>rfl) (DN (bR b) (ia C (aL h)).se (ib C (aR h)).se) q⟩)
  (λa lo hi ia il ih _ _ C h=>⟨Nz (ia C (aL h)).se (il C (aL (aR h))).so (ih C (aR (aR h))).so,λq=>False.elim q⟩)
  (λa i _ _ C h=>⟨NM (i C h).se,λq=>False.elim q⟩)
  (λa i _ _ C h=>⟨Z C (aL h) (aL (aR h)) (aL (aR (aR h))) (bR a) (i C (aR (aR (aR h)))).se,λq=>False.elim q⟩)
  (λes i _ _ C h=>⟨CR bS (Ó (aL h)) (i C (aR h)),λq=>False.elim q⟩)
  (λz es i _ _ C h=>⟨Oq bS (Ó (aL h)) (i C (aR h)),λq=>False.elim q⟩)
  (λC h=>⟨JM,λq=>False.elim q⟩)
  (λelt k src cond Ģ ie is ic _ _ C h=>⟨zG C.1 ⟨zH (aL h),(is C (aL (aR h))).se,λ_=>(ie (j3 C) (aL (aR (aR h)))).se,λ_=>(ic (j3 C) (aR (aR (aR h)))).sc,(bR src).fo⟩,λq=>False.elim q⟩)
  (λf es i _ _ C h=>⟨uR W C (aL h) (aL (aR h)) bS (i C (aR (aR h))),λq=>kA (e:= .call f es) (λ_ _=>rfl) (uR W C (aL h) (aL (aR h)) bS (i C (aR (aR h)))) q⟩)
  (λk es i _ _ C h=>⟨Oa C W (Ó (aL h)) (aL (aR h)) bS (i C (aR (aR h))),λq=>False.elim q⟩)
  (λb es i _ _ C h=>⟨Gw C.1 (Ó (aL (aL h))) ((á _).mp (aR (aL h))) (aL (aR h)) bS (i C (aR (aR h))),λq=>False.elim q⟩)
  (λe m es i is _ _ C h=>⟨zb C W (jW (aL h)) (aL (aR h)) (Í (ð yl) (Ó (aL (aR (aR h))))) bS (i C (aL (aR (aR (aR h))))).se (is C (aR (aR (aR (aR h))))),λq=>kA (e:= .meth e m es) (λ_ _=>rfl) (zb C W (jW (aL h)) (aL (aR h)) (Í (ð yl) (Ó (aL (aR (aR h))))) bS (i C (aL (aR (aR (aR h))))).se (is C (aR (aR (aR (aR h)))))) q⟩)
  (λ_ _=>⟨IP,yF⟩)
  (λe i _ _ C h=>⟨H7 (i C h).se,yE (i C h).st⟩)
  (λ_ _=>ry)
  (λe es i is _ _ C h=>hU (i C (aL h)).se (is C (aR h))) e
theorem Pq (W:di Φ n)(Z:tN Φ n)(C:lH c n){elt src:PE}{cond:Option PE}(h:b3 (.comp elt k src cond Ģ) c.env.scope c.ns x=true):pu Φ c elt cond k src Ģ (tr elt (kx x 0)) (kx x 1) (tr src (kx x 2)) (Ry cond (kx x 3)).toList (Rz x) (Au c.ns Ģ):=
 ⟨zH (aL h),(tp W Z src C (aL (aR h))).se,λ_=>(tp W Z elt (j3 C) (aL (aR (aR h)))).se,λ_=>(match cond,h with
  |none,_=>yF
  |some e,h=>yE (tp W Z e (j3 C) (aR (aR (aR h)))).st),(bR src).fo⟩
end
structure Ks where
 es:List Expr
 ps:List Stmt
 qs:List Stmt
 hs:List ExceptHandler
structure Kh where
 t:Expr
 n:Str
 b:List Stmt
 p:Pos
noncomputable abbrev Q0 (l:List Expr):Ks:=⟨l,[],[],[]⟩
noncomputable def ks (x:Stmt):Ks:=match x with
 | .Assign ts e _=>Q0 (e::ts)
 | .AugAssign t _ e _=>Q0 [e,t]
 | .Expr e _=>Q0 [e]
 | .If t a b _=>⟨[t],a,b,[]⟩
 | .While t a _ _=>⟨[t],a,[],[]⟩
 | .For t i a _ _=>⟨[i,t],a,[],[]⟩
 | .Return e _=>Q0 e.toList
 | .Raise e _ _=>Q0 e.toList
 | .Try a hs _ _ _=>⟨[],a,[],hs⟩
 |_=>Q0 []
noncomputable def kh (l:List ExceptHandler):Kh:=match l with
 | .ExceptHandler t n b p::_=>⟨t.getD dx,n.getD ⟨#[]⟩,b,p⟩
 |[]=>⟨dx,⟨#[]⟩,[],theWindowsPlace⟩
noncomputable abbrev ke (x:Stmt):Expr:=(ks x).es.headD dx
noncomputable abbrev kt (x:Stmt):Expr:=(ks x).es.tail.headD dx
noncomputable abbrev ph (l:List Stmt):Stmt:=l.headD (.Pass theWindowsPlace)
noncomputable def tgF (k:Option (List Nat))(t:Expr):Expr:=match k with
 |none=>BD t
 |some _=> .Tuple ((kd t).ch.map BD) (kd t).k t.pos
noncomputable abbrev hc (h:Kh):Expr:=ke (ph h.b)
noncomputable def trH (h:Kh):ExceptHandler:= .ExceptHandler (some (nE "LexError" h.t)) (some h.n) [.Return (some (.Compare (.Call (.Attribute (.Name h.n (kx (kx (kx (hc h) 0) 0) 0).pos) "told" (kx (kx (hc h) 0) 0).pos) [] [] (kx (hc h) 0).pos) [.Eq] [BD (kx (hc h) 1)] (hc h).pos)) (ph h.b).pos] h.p
mutual
noncomputable def trS:PS->Stmt->Stmt
 | .assign _ e,x=> .Assign [BD (kt x)] (tr e (ke x)) x.pos
 | .assignT _ e,x=> .Assign [.Tuple ((kd (kt x)).ch.map BD) (kd (kt x)).k (kt x).pos] (tr e (ke x)) x.pos
 | .setA o f e,x=> .Assign [.Attribute (tr o (kx (kt x) 0)) (bM f) (kt x).pos] (tr e (ke x)) x.pos
 | .setI o i e,x=> .Assign [.Subscript (tr o (kx (kt x) 0)) (tr i (kx (kt x) 1)) (kt x).pos] (tr e (ke x)) x.pos
 | .augV _ op e,x=> .AugAssign (BD (kt x)) (gM op) (tr e (ke x)) x.pos
 | .augA o f op e,x=> .AugAssign (.Attribute (tr o (kx (kt x) 0)) (bM f) (kt x).pos) (gM op) (tr e (ke x)) x.pos
 | .expr e,x=> .Expr (tr e (ke x)) x.pos
 | .ife t a b,x=> .If (tr t (ke x)) (ql a (ks x).ps) (ql b (ks x).qs) x.pos
 | .whileS t b,x=> .While (tr t (ke x)) (ql b (ks x).ps) [] x.pos
 | .forS k _ src b,x=> .For (tgF k (kt x)) (tr src (ke x)) (ql b (ks x).ps) [] x.pos
 | .ret e,x=> .Return ((ks x).es.head?.map (tr e)) x.pos
 | .raise w p,x=> .Raise (some (.Call (nE "LexError" (kx (ke x) 0)) [tr w (kx (ke x) 1),tr p (kx (ke x) 2)] [] (ke x).pos)) none x.pos
 | .brk,x=> .Break x.pos
 | .cont,x=> .Continue x.pos
 | .pass,x=> .Pass x.pos
 | .tryL _ e _ _,x=> .Try [.Assign [BD (kt (ph (ks x).ps))] (tr e (ke (ph (ks x).ps))) (ph (ks x).ps).pos] [trH (kh (ks x).hs)] [] [] x.pos
noncomputable def ql:List PS->List Stmt->List Stmt
 |[],_=>[]
 |p::ps,l=>trS p (ph l)::ql ps l.tail
end
noncomputable def xT (sc:Scope)(x:Str):Bool:=(sc.names.lookup x==some .local)||(sc.names.lookup x==some .cell)
noncomputable def QA (sc:Scope)(ns:List Str)(i:Nat)(x:Str):Bool:=(ns[i]? ==some x)&&xT sc x
noncomputable def Hq (sc:Scope)(ns:List Str):List Nat->List Expr->Bool
 |[],l=>l.isEmpty
 |i::is,l=> !l.isEmpty&&(QA sc ns i (nm (l.headD dx))&&Hq sc ns is l.tail)
noncomputable def La (sc:Scope)(ns:List Str)(k:Option (List Nat))(i:Nat)(t:Expr):Bool:=match k with
 |none=>QA sc ns i (nm t)
 |some is=>Hq sc ns is (kd t).ch
noncomputable def RJ (e:PE):Bool:=match e with| .comp _ _ _ _ _=>true|_=>false
noncomputable def isT (e:PE):Bool:=match e with| .tup _=>true|_=>false
noncomputable def MK (e:PE):Bool:=match e with
 | .lit v=>(match v with| .none=>true|_=>false)
 |_=>false
noncomputable abbrev RB (e:PE):Bool:= !RJ e&& !isT e
mutual
noncomputable def okS:PS->Scope->List Str->Stmt->Bool
 | .assign i e,sc,ns,x=>QA sc ns i (nm (kt x))&&b3 e sc ns (ke x)
 | .assignT is e,sc,ns,x=>RB e&&(Hq sc ns is (kd (kt x)).ch&&b3 e sc ns (ke x))
 | .setA o _ e,sc,ns,x=>RB e&&(b3 o sc ns (kx (kt x) 0)&&b3 e sc ns (ke x))
 | .setI o i e,sc,ns,x=>RB e&&(b3 o sc ns (kx (kt x) 0)&&(b3 i sc ns (kx (kt x) 1)&&b3 e sc ns (ke x)))
 | .augV i op e,sc,ns,x=>vR op&&(cL ns i (nm (kt x))&&(xT sc (nm (kt x))&&b3 e sc ns (ke x)))
 | .augA o _ op e,sc,ns,x=>vR op&&(b3 o sc ns (kx (kt x) 0)&&b3 e sc ns (ke x))
 | .expr e,sc,ns,x=>RB e&&b3 e sc ns (ke x)
 | .ife t a b,sc,ns,x=>b3 t sc ns (ke x)&&(sR a sc ns (ks x).ps&&sR b sc ns (ks x).qs)
 | .whileS t b,sc,ns,x=>b3 t sc ns (ke x)&&sR b sc ns (ks x).ps
 | .forS k i src b,sc,ns,x=>La sc ns k i (kt x)&&(b3 src sc ns (ke x)&&sR b sc ns (ks x).ps)
 | .ret e,sc,ns,x=>(match (ks x).es with|[]=>MK e|a::_=>b3 e sc ns a)
 | .raise w p,sc,ns,x=>ū sc "LexError" &&(b3 w sc ns (kx (ke x) 1)&&b3 p sc ns (kx (ke x) 2))
 | .brk,_,_,_=>true
 | .cont,_,_,_=>true
 | .pass,_,_,_=>true
 | .tryL i e er ends,sc,ns,x=>QA sc ns i (nm (kt (ph (ks x).ps)))&&(!RJ e&&(ū sc "LexError" &&(cL ns er (kh (ks x).hs).n&&(cL ns ends (nm (kx (hc (kh (ks x).hs)) 1))&&((ends != er)&&((sc.names.lookup (kh (ks x).hs).n==some .local)&&(((kx (kx (hc (kh (ks x).hs)) 0) 0).pos.endLine==(kx (hc (kh (ks x).hs)) 0).pos.line)&&b3 e sc ns (ke (ph (ks x).ps)))))))))
noncomputable def sR:List PS->Scope->List Str->List Stmt->Bool
 |[],_,_,_=>true
 |p::ps,sc,ns,l=>okS p sc ns (ph l)&&sR ps sc ns l.tail
end
def zO (Φ:Ď)(n:Nat):Prop:=∀{c:Fm} {w p:PE} {xw xp:Expr} {p1 p2 p3:Pos},lH c n->ū c.env.scope "LexError" =true->kz xw->kz xp->SE Φ c w xw->SE Φ c p xp->
 SS Φ c (.raise w p) (.Raise (some (.Call (.Name (Str.ofString "LexError") p1) [xw,xp] [] p2)) none p3)
def LG (Φ:Ď)(n:Nat):Prop:=∀{c:Fm} {i er ends:Nat} {e:PE} {x y z:Str} {ex:Expr} {q1 q2 p1 p2 p3 p4 p5 p6 p7 p8 p9:Pos},lH c n->xP c->c.ns[i]? =some x->oU c x->swapsWith ex (some (.Name x q1)) q2.line c.env=pure false->SE Φ c e ex->ū c.env.scope "LexError" =true->cL c.ns er y=true->cL c.ns ends z=true->ends≠er->c.env.kindOf y=some .local->(p3.endLine==p4.line)=true->
 SS Φ c (.tryL i e er ends) (.Try [.Assign [.Name x q1] ex q2] [.ExceptHandler (some (.Name (Str.ofString "LexError") p1)) (some y) [.Return (some (.Compare (.Call (.Attribute (.Name y p2) "told" p3) [] [] p4) [.Eq] [.Name z p5] p6)) p7] p8] [] [] p9)
structure q0 (Φ:Ď)(n:Nat):Prop where
 z:tN Φ n
 r:zO Φ n
 t:LG Φ n
abbrev M4 (Φ:Ď)(n:Nat)(p:PS):Prop:=∀{c:Fm} {x:Stmt},lH c n->xP c->vH c->okS p c.env.scope c.ns x=true->SS Φ c p (trS p x)
abbrev M5 (Φ:Ď)(n:Nat)(ps:List PS):Prop:=∀{c:Fm} {l:List Stmt},lH c n->xP c->vH c->sR ps c.env.scope c.ns l=true->vF Φ c ps (ql ps l)
section
variable {Φ:Ď} {n:Nat} {c:Fm} {x:Expr} {e:PE} {es:List PE} {v:V} {l:List Expr} {i:Nat} {y:Str} {is:List Nat} {k:Option (List Nat)} {p:PS} {p1 p2 pos:Pos}
theorem tV (W:vH c)(h:xT c.env.scope y=true):oU c y:=(Ŏ.mp h).imp eq_of_beq λh=>⟨eq_of_beq h,W⟩
theorem jk (W:vH c)(h:QA c.env.scope c.ns i y=true):c.ns[i]? =some y∧oU c y:=⟨eq_of_beq (aL h),tV W (aR h)⟩
theorem yV (W:vH c):∀{l:List Expr},Hq c.env.scope c.ns is l=true->BF c is (l.map BD):=by
 induction is with
 |nil=>
  intro l h
  cases l with
  |nil=>exact .nil
  |cons=>exact fT h
 |cons i is ih=>
  intro l h
  cases l with
  |nil=>exact fT h
  |cons a l=>exact .cons (jk W (aL (aR h))).1 (jk W (aL (aR h))).2 (ih (aR (aR h)))
theorem E6 (W:vH c)(h:La c.env.scope c.ns k i x=true):KI c k i (tgF k x):=by
 cases k with
 |none=>exact .one (jk W h).1 (jk W h).2
 |some is=>exact .tup (yV W h)
theorem Nl (t:Option Expr)(n:Nat)(env:Env):swapsWith (Cf v x) t n env=pure false:=by
 cases v with
 |int i=>cases i<;>rfl
 |_=>rfl
theorem Cr (h:(!RJ e)=true)(t:Option Expr)(n:Nat)(env:Env):swapsWith (tr e x) t n env=pure false:=by
 cases e with
 |comp=>exact fT h
 |lit v=>exact Nl ..
 |_=>rfl
theorem Nw (es:List Expr)(k:Nat)(p:Pos)(env:Env):swappedStores [.Tuple es k p] (Cf v x) env=pure none:=by
 cases v with
 |int i=>cases i<;>rfl
 |_=>rfl
theorem Tp (h:(!isT e)=true)(es:List Expr)(k:Nat)(p:Pos)(env:Env):swappedStores [.Tuple es k p] (tr e x) env=pure none:=by
 cases e with
 |tup=>exact fT h
 |lit v=>exact Nw ..
 |_=>rfl
theorem xZ (h:RB e=true):Nt (tr e x):=⟨Cr (aL h),Tp (aR h),λ_ _ _ _=>rfl,λ_ _ _ _=>rfl⟩
theorem vd (C:lH c n)(Fw:vH c){elt:PE}{cond:Option PE}{k:Option Nat}{src:PE}{Ģ:List Nat}{xe t iter:Expr}{ifs:List Expr}{scope:Scope}{cap:List Str}(K:pu Φ c elt cond k src Ģ xe t iter ifs scope cap)(hi:c.ns[i]? =some y)(hk:oU c y):
 SS Φ c (.assign i (.comp elt k src cond Ģ)) (.Assign [.Name y p1] (.ListComp xe [⟨BS k t,iter,ifs,0⟩] scope p2) pos):=λ{T ρ E Q} q R=>by
 have hb:(c.env.blockKind== .function)=true:=by
  unfold Env.blockKind
  rw[R.k.kind];rfl
 have sw:swapsWith (.ListComp xe [⟨BS k t,iter,ifs,0⟩] scope p2) (some (.Name y p1)) pos.line c.env=pure ((c.env.kindOf y==some .local)&&p1.line==p2.line&& !(scope.names.any λ(n,k)=>n==y&&(k== .local||k== .cell))):=by
  show pure (c.env.blockKind== .function&&_&&_&&_)=_
  rw[hb,jF]
  rfl
 cases h:((c.env.kindOf y==some .local)&&p1.line==p2.line&& !(scope.names.any λ(n,k)=>n==y&&(k== .local||k== .cell))) with
 |true=>
  rw[h] at sw
  exact oX C.1 K hi (eq_of_beq (aL (aL h))) sw q R
 |false=>
  rw[h] at sw
  exact qd hi hk sw (zG C.1 K) q R
theorem Jq (h:RJ e=true):∃elt k src cond Ģ,e= .comp elt k src cond Ģ:=by
 cases e with
 |comp=>exact⟨_,_,_,_,_,rfl⟩
 |_=>exact fT h
theorem FI (h:MK e=true):e= .lit .none:=by
 cases e with
 |lit v=>cases v with
  |none=>rfl
  |_=>exact fT h
 |_=>exact fT h
theorem Bv (W:di Φ n)(Z:tN Φ n)(C:lH c n)(Fw:vH c)(hs:QA c.env.scope c.ns i y=true)(he:b3 e c.env.scope c.ns x=true):SS Φ c (.assign i e) (.Assign [.Name y p1] (tr e x) pos):=by
 obtain⟨h1,h2⟩:=jk Fw hs
 cases h:RJ e with
 |false=>exact qd h1 h2 (Cr (by rw[h];rfl) _ _ _) (tp W Z e C he).se
 |true=>
  obtain⟨elt,k,src,cond,Ģ,e1⟩:=Jq h
  subst e1
  exact vd C Fw (Pq W Z C he) h1 h2
theorem NP {x:Stmt}(he:∀{x:Expr},b3 e c.env.scope c.ns x=true->SE Φ c e (tr e x)):(match (ks x).es with|[]=>MK e|a::_=>b3 e c.env.scope c.ns a)=true->SS Φ c (.ret e) (.Return ((ks x).es.head?.map (tr e)) pos):=by
 cases (ks x).es with
 |nil=>exact λh=>FI h▸It
 |cons a _=>exact λh=>Dc (he h)
theorem Ng (W:di Φ n)(Z:q0 Φ n)(p:PS):M4 Φ n p:=
 have te:∀(e:PE) {c:Fm} {x:Expr},lH c n->b3 e c.env.scope c.ns x=true->Bt2 Φ c e (tr e x):=λe=>tp W Z.z e
 PS.rec (motive_1:=M4 Φ n) (motive_2:=M5 Φ n)
  (λi e _ _ C F Fw h=>Bv W Z.z C Fw (aL h) (aR h))
  (λis e _ _ C F Fw h=>xG C.1 (yV Fw (aL (aR h))) (xZ (aL h)) (te e C (aR (aR h))).se)
  (λo f e _ _ C F Fw h=>Ih (xZ (aL h)) (te o C (aL (aR h))).se (te e C (aR (aR h))).se)
  (λo i e _ _ C F Fw h=>Ie (xZ (aL h)) (te o C (aL (aR h))).se (te i C (aL (aR (aR h)))).se (te e C (aR (aR (aR h)))).se)
  (λi op e _ _ C F Fw h=>J7 (aL h) (slot_of (aL (aR h))).1 (tV Fw (aL (aR (aR h)))) (slot_of (aL (aR h))).2.2 (te e C (aR (aR (aR h)))).se)
  (λo f op e _ _ C F Fw h=>J9 (aL h) (te o C (aL (aR h))).se (te e C (aR (aR h))).se)
  (λe _ _ C F Fw h=>JC (xZ (aL h)) (te e C (aR h)).se)
  (λt a b ia ib _ _ C F Fw h=>OZ (te t C (aL h)).st (ia C F Fw (aL (aR h))) (ib C F Fw (aR (aR h))))
  (λt b ib _ _ C F Fw h=>Ei F (te t C (aL h)).st (ib C F Fw (aR h)))
  (λk i src b ib _ _ C F Fw h=>O8 F C.1 (E6 Fw (aL h)) (bR src) (te src C (aL (aR h))).se (ib C F Fw (aR (aR h))))
  (λe c x C F Fw h=>NP (λh=>(te e C h).se) h)
  (λw p _ _ C F Fw h=>Z.r C (aL h) (bR w) (bR p) (te w C (aL (aR h))).se (te p C (aR (aR h))).se)
  (λ_ _ _ _=>Py) (λ_ _ _ _=>JR) (λ_ _ _ _=>IJ)
  (λi e er ends _ _ C F Fw h=>Z.t C F (jk Fw (aL h)).1 (jk Fw (aL h)).2 (Cr (aL (aR h)) _ _ _) (te e C (aR (aR (aR (aR (aR (aR (aR (aR h))))))))).se (aL (aR (aR h))) (aL (aR (aR (aR h)))) (aL (aR (aR (aR (aR h))))) (ŋ.mp (aL (aR (aR (aR (aR (aR h))))))) (eq_of_beq (aL (aR (aR (aR (aR (aR (aR h)))))))) (aL (aR (aR (aR (aR (aR (aR (aR h)))))))))
  (λ_ _ _ _=>rx)
  (λp ps ip is _ _ C F Fw h=>nA (ip C F Fw (aL h)) (is C F Fw (aR h))) p
end
noncomputable def mR (d:Data):Option FuncData:=match d with
 | .func f=>some f
 |_=>none
noncomputable def fieldsOf (d:Data):Option (Array Value):=match d with
 | .fields f=>some f
 |_=>none
noncomputable def jQ (b:FuncBody):Option (List Stmt):=match b with
 | .stmts b=>some b
 |_=>none
noncomputable def tkO (o:Option Value):Tok:=match o with
 |some x=>Mt x
 |none=>0
noncomputable abbrev iQ (d:FD):List Str:=d.slots.map Str.ofString
noncomputable def MX (K:Frag)(v:Value)(ds:List V):Bool:=match ds with
 |[]=>v== .none
 |_=>(v== .ref (ti v))&&(MJ (K.lookup (ti v))&&B5 K ds (Mu (K.lookup (ti v))))
noncomputable def CI (K:Frag)(v:Value)(q:Str):Bool:=(v== .ref (ti v))&&jf (K.lookup (ti v)) λoc=>jf (fieldsOf oc.data) λvs=>vs[1]? ==some (.str q (tkO vs[1]?))
noncomputable def zx (d:FD)(fd:FuncData):Bool:=
 fd.params.posonlyargs.isEmpty&&(((fd.params.args.map (·.arg))==(iQ d).take d.np)&&(fd.params.kwonlyargs.isEmpty&&(fd.params.vararg.isNone&&(fd.params.kwarg.isNone
  &&(Nat.ble d.np (iQ d).length&&(Nat.ble d.dflts.length d.np&&(decide (iQ d).Nodup&&(fd.closure.isEmpty&&((fd.scope.kind== .function)&&(!fd.scope.isCoroutine&&(!fd.scope.isGenerator
  &&((fd.globals==mainGlobals)&&((fd.builtins==builtinsNs)&&(((iQ d).all λx=>xT fd.scope x)&&(fd.scope.names.all λy=>y.2 != .free)))))))))))))))
noncomputable def RQ (K:Frag)(d:FD)(S:Scope->List Stmt->Bool):Bool:=jf (K.lookup d.addr) λo=>jf (mR o.data) λfd=>jf (jQ fd.body) λbody=>zx d fd&&(MX K fd.defaults d.dflts&&(CI K fd.code fd.qualname&&S fd.scope body))
noncomputable def af (K:Frag)(a:Addr):List Stmt:=match K.lookup a with
 |some o=>(match mR o.data with
  |some fd=>(jQ fd.body).getD []
  |none=>[])
 |none=>[]
theorem Pa (P:Params):CF (λd=>RQ (KF P) d λsc body=>sR d.body sc (iQ d) body)=true:=by kernel_rfl
noncomputable def trB (K:Frag)(f:Nat):List Stmt:=match c8 f with
 |some d=>ql d.body (af K d.addr)
 |none=>[]
noncomputable def inB (K:Frag)(f:Nat):List Stmt:=match c8 f with
 |some d=>af K d.addr
 |none=>[]
theorem Nf (P:Params):(List.range 66).map (trB (KF P))=(List.range 66).map (inB (KF P)):=by kernel_rfl
section
variable {d:FD} {o:Obj} {fd:FuncData} {body:List Stmt} {n f:Nat} {c:Fm} {Φ:Ď} {v:Value} {ds:List V} {q:Str} {S:Scope->List Stmt->Bool}
theorem Ba {d:Data}(h:mR d=some fd):d= .func fd:=by
 cases d with
 |func f=>exact È Data.func (Ä h)
 |_=>exact nS h
theorem u6 {d:Data}{a:Array Value}(h:fieldsOf d=some a):d= .fields a:=by
 cases d with
 |fields f=>exact È Data.fields (Ä h)
 |_=>exact nS h
theorem wV {b:FuncBody}(h:jQ b=some body):b= .stmts body:=by
 cases b with
 |stmts f=>exact È FuncBody.stmts (Ä h)
 |_=>exact nS h
theorem HM {T:Sx}(W:Wd T):∀{xs:List Value},B5 K0 ds xs=true->Į T.X ds xs:=by
 induction ds with
 |nil=>
  intro xs h
  cases xs with
  |nil=>exact .nil
  |cons=>exact fT h
 |cons v vs ih=>
  intro xs h
  cases xs with
  |nil=>exact fT h
  |cons x xs=>exact .cons (CQ W (aL (aR h))) (ih (aR (aR h)))
theorem Pg (h:MX K0 v ds=true):(v= .none∧ds=[])∨∃Td xs,v= .ref Td∧K0.lookup Td=some (f7 xs)∧∀{T:Sx},Wd T->Į T.X ds xs:=by
 cases ds with
 |nil=>exact .inl ⟨eq_of_beq h,rfl⟩
 |cons=>exact .inr ⟨_,_,eq_of_beq (aL h),zo (aL (aR h)),λW=>HM W (aR (aR h))⟩
theorem JS (h:CI K0 v q=true):∃cd oc vs t,v= .ref cd∧K0.lookup cd=some oc∧oc.data= .fields vs∧vs[1]? =some (.str q t):=by
 obtain⟨oc,e1,h2⟩:=iW (aR h)
 obtain⟨vs,e2,h3⟩:=iW h2
 exact⟨_,oc,vs,_,eq_of_beq (aL h),e1,u6 e2,eq_of_beq h3⟩
theorem Gs {a:Addr}(h1:K0.lookup a=some o)(h2:mR o.data=some fd)(h3:jQ fd.body=some body):af K0 a=body:=by
 unfold af
 rw[h1]
 dsimp only
 rw[h2]
 dsimp only
 rw[h3];rfl
theorem EH (h:zx d fd=true)(h1:K0.lookup d.addr=some o)(h2:mR o.data=some fd)(h3:jQ fd.body=some body)(h4:MX K0 fd.defaults d.dflts=true)(h5:CI K0 fd.code fd.qualname=true):qC d o fd body (iQ d) where
 look:=h1
 data:=Ba h2
 body:=wV h3
 dfl:=Pg h4
 code:=JS h5
 p1:=ř.mp (aL h)
 p2:=by
  replace h:=aR h
  exact eq_of_beq (aL h)
 p3:=ř.mp (aL (aR (aR h)))
 p4:=Ĝ.mp (aL (aR (aR (aR h))))
 p5:=Ĝ.mp (aL (aR (aR (aR (aR h)))))
 np:=Ó (aL (aR (aR (aR (aR (aR h))))))
 dl:=Ó (aL (aR (aR (aR (aR (aR (aR h)))))))
 nd:=Ā (aL (aR (aR (aR (aR (aR (aR (aR h))))))))
 clo:=ř.mp (aL (aR (aR (aR (aR (aR (aR (aR (aR h)))))))))
 kind:=eq_of_beq (aL (aR (aR (aR (aR (aR (aR (aR (aR (aR h))))))))))
 co:=(á _).mp (aL (aR (aR (aR (aR (aR (aR (aR (aR (aR (aR h)))))))))))
 gen:=(á _).mp (aL (aR (aR (aR (aR (aR (aR (aR (aR (aR (aR (aR h))))))))))))
 glob:=eq_of_beq (aL (aR (aR (aR (aR (aR (aR (aR (aR (aR (aR (aR (aR h)))))))))))))
 bl:=eq_of_beq (aL (aR (aR (aR (aR (aR (aR (aR (aR (aR (aR (aR (aR (aR h))))))))))))))
 loc:=λx m=>(Ŏ.mp (aa (aL (aR (aR (aR (aR (aR (aR (aR (aR (aR (aR (aR (aR (aR (aR h))))))))))))))) m)).imp eq_of_beq eq_of_beq
 free:=λy m=>ŋ.mp (aa (aR (aR (aR (aR (aR (aR (aR (aR (aR (aR (aR (aR (aR (aR (aR h))))))))))))))) m)
theorem qT (h:RQ K0 d S=true):∃o fd,qC d o fd (af K0 d.addr) (iQ d)∧S fd.scope (af K0 d.addr)=true:=by
 obtain⟨o,e1,h1⟩:=iW h
 obtain⟨fd,e2,h2⟩:=iW h1
 obtain⟨body,e3,h3⟩:=iW h2
 have e:=Gs e1 e2 e3
 rw[e]
 exact⟨o,fd,EH (aL h3) e1 e2 e3 (aL (aR h3)) (aL (aR (aR h3))),aR (aR (aR h3))⟩
theorem HQ (W:di Φ n)(Z:q0 Φ n){ps:List PS}(C:lH c n)(F:xP c)(Fw:vH c):∀{l:List Stmt},sR ps c.env.scope c.ns l=true->vF Φ c ps (ql ps l):=by
 induction ps with
 |nil=>exact λ_=>rx
 |cons p ps ih=>exact λh=>nA (Ng W Z p C F Fw (aL h)) (ih (aR h))
theorem Tg (h:c8 f=some d):ql d.body (af K0 d.addr)=af K0 d.addr:=by
 have hf:f<66:=eB λq=>by
  rw[←aX q] at h
  exact nS h
 have e:=Äj.mp (Nf cx.w.params) f (Ö.mpr hf)
 unfold trB inB at e
 rw[h] at e
 exact e
theorem Nv {ps:List PS}{xs ys:List Stmt}(e:xs=ys)(h:vF Φ c ps xs):vF Φ c ps ys:=e▸h
theorem Lx (h:c8 f=some d)(W:di Φ n)(Z:q0 Φ n):∃o fd,qC d o fd (af K0 d.addr) (iQ d)∧∀{c:Fm},c.env.scope=fd.scope->c.ns=iQ d->lH c n->xP c->vH c->vF Φ c d.body (af K0 d.addr):=by
 obtain⟨o,fd,K,h1⟩:=qT (uE (Pa cx.w.params) h)
 exact⟨o,fd,K,λe1 e2 C F Fw=>Nv (Tg h) (HQ W Z C F Fw (by rw[e1,e2];exact h1))⟩
theorem GL {vs:List V}{E:Ĩ}{Q:QT}{H:AH}(h:ú 0 f vs E Q H):False:=by
 delta ú at h;exact h
theorem Ki {vs:List V}{E:Ĩ}{Q:QT}{H:AH}(h:ú (n+1) f vs E Q H):∃d,c8 f=some d:=by
 rw[nG] at h
 unfold QC at h
 cases e:c8 f with
 |none=>rw[e] at h;exact fT h.1
 |some d=>exact⟨d,rfl⟩
theorem NZ (Z:∀n,di (ú n) n->q0 (ú n) n)(n:Nat):di (ú n) n:=by
 induction n with
 |zero=>exact λq=>(GL q).elim
 |succ n W=>
  intro f vs E Q T q
  obtain⟨d,hd⟩:=Ki q
  obtain⟨o,fd,K,hB⟩:=Lx hd W (Z n W)
  exact⟨d,hd,λC hv R=>JY C hd K hB hv q R⟩
end
noncomputable abbrev eJ (tt:Addr)(de:Option Addr):Obj:=⟨.ref 95,de,.fields #[.ref tt,.none,.none,.none,.bool false,.none],#[]⟩
noncomputable abbrev ol (P:Params):Setting:=⟨pw,P⟩
noncomputable def skL {α β:Type}(n:Nat)(o:Option β)(t:α)(f:β->Nat->α):α:=match n with
 |0=>t
 |n+1=>(match o with
  |some o=>f o n
  |none=>t)
noncomputable def sk {α:Type}(P:Params):Sem α->Nat->Sem α
 | .rule _ k,n=>sk P (k ()) n
 | .at _ k,n=>sk P (k ()) n
 | .point _ k,n=>sk P (k ()) n
 | .ask k,n=>sk P (k (ol P)) n
 | .load a p k,n=>skL n ((KF P).lookup a) (.load a p k) λo n=>sk P (k o) n
 |t,_=>t
noncomputable def ct {α:Type}(t:Sem α)(r:Result)(o:Obj)(a:Nat):Sem α:=match t with
 | .call _ _ _ _ k=>k r
 | .load _ _ k=>k o
 | .alloc _ k=>k a
 | .update _ _ _ k=>k ()
 | .fresh k=>k a
 |t=>t
def noH (h:Option Value)(P:Prop):Prop:=match h with|none=>P|some _=>False
def lm {α:Type}(A:Around)(s:Shared)(t:Sem α)(K:Sem α->Shared->Prop):Prop:=match t with
 | .call c h _ _ k=>noH h (codeAny M0 A c (λr s'=>K (k r) s') s)
 | .load a _ k=>∃o,s.heap.get? a=some o∧K (k o) s
 | .alloc o k=>K (k s.heap.objs.size) {s with heap:=s.heap.push o}
 | .update a _ f k=>(s.heap.get? a).isSome∧K (k ()) {s with heap:=s.heap.update a f}
 | .fresh k=>K (k s.toks) {s with toks:=s.toks+1}
 | .pure a=>K (.pure a) s
 |_=>False
noncomputable def dO:Obj:=⟨.none,none,.fields #[],#[]⟩
noncomputable abbrev Pc:Params:=cx.w.params
section
variable {α β γ:Type} {A:Around} {E:Value->Shared->Prop} {Q:α->Shared->Prop} {s:Shared} {t:Sem α} {r:α} {n:Nat} {c:Code} {a:Addr} {o:Obj} {f:Obj->Obj}
theorem pk {h:Heap}(X:K0.In h)(e:peek K0 (ol Pc) t=some r):Looks M0 h t r:=Looks.of_peek X e
theorem Qn:∀{n:Nat},K0.In s.heap->wpAny M0 A (sk Pc t n) Q E s->wpAny M0 A t Q E s:=by
 induction t with
 |rule _ k ih=>exact λX h Γ p ig=>ih () X h Γ p ig
 |«at» p k ih=>exact λX h Γ _ ig=>ih () X h Γ p ig
 |point _ k ih=>exact λX h Γ p ig=>ih () X h Γ p ig
 |ask k ih=>exact λX h Γ p ig=>ih _ X h Γ p ig
 |load a p k ih=>
  intro n X h
  cases n with
  |zero=>exact h
  |succ n=>
   replace h:wpAny M0 A (skL (n+1) (K0.lookup a) (.load a p k) λo n=>sk Pc (k o) n) Q E s:=h
   cases e:K0.lookup a with
   |none=>rw[e] at h;exact h
   |some o=>
    rw[e] at h
    exact λΓ p ig=>⟨o,X _ _ e,ih o X h Γ p ig⟩
 |_=>exact λ_ h=>h
theorem GK {g:Bool}{l:List Value}{k:Result->Sem α}(h:codeAny M0 A c (λr s'=>wpAny M0 A (k r) Q E s') s):wpAny M0 A (.call c none g l k) Q E s:=λΓ p ig=>GW h (λr s' z=>z Γ p ig) (Γ.enter c none p) p rfl (ig.enter c none p (by intro x;cases x))
theorem GJ:lm A s t (λt' s'=>wpAny M0 A t' Q E s')->wpAny M0 A t Q E s:=by
 cases t with
 |call c h g l k=>cases h with
  |none=>exact GK
  |some=>exact False.elim
 |load a p k=>exact λ⟨o,g,h⟩ Γ p ig=>⟨o,g,h Γ p ig⟩
 |alloc o k=>exact λh Γ p ig=>h Γ p ig
 |update a p f k=>exact λh Γ p ig=>⟨h.1,h.2 Γ p ig⟩
 |fresh k=>exact λh Γ p ig=>h Γ p ig
 |pure=>exact id
 |_=>exact False.elim
theorem st {P:(Sem α->Shared->Prop)->Prop}(n:Nat)(X:K0.In s.heap)(e:lm A s (sk Pc t n)=P)(h:P λt' s'=>wpAny M0 A t' Q E s'):wpAny M0 A t Q E s:=Qn (n:=n) X (GJ (e▸h))
theorem oI (n:Nat)(r:α)(X:K0.In s.heap)(e:lm A s (sk Pc t n)=λK=>K (.pure r) s)(q:Q r s):wpAny M0 A t Q E s:=st n X e (Ê q)
theorem B9 (n:Nat)(c:Code)(X:K0.In s.heap)(e:lm A s (sk Pc t n)=λK=>codeAny M0 A c (λr s'=>K (ct (sk Pc t n) r dO 0) s') s)(h:codeAny M0 A c (λr s'=>wpAny M0 A (ct (sk Pc t n) r dO 0) Q E s') s):wpAny M0 A t Q E s:=st n X e h
theorem fy (n:Nat)(X:K0.In s.heap)(g:s.heap.get? a=some o)(e:lm A s (sk Pc t n)=λK=>∃o,s.heap.get? a=some o∧K (ct (sk Pc t n) (.error .none) o 0) s)(h:wpAny M0 A (ct (sk Pc t n) (.error .none) o 0) Q E s):wpAny M0 A t Q E s:=st n X e ⟨o,g,h⟩
theorem Hk (n:Nat)(o:Obj)(X:K0.In s.heap)(e:lm A s (sk Pc t n)=λK=>K (ct (sk Pc t n) (.error .none) dO s.heap.objs.size) {s with heap:=s.heap.push o})(h:wpAny M0 A (ct (sk Pc t n) (.error .none) dO s.heap.objs.size) Q E {s with heap:=s.heap.push o}):wpAny M0 A t Q E s:=st n X e h
theorem Se (n:Nat)(f:Obj->Obj)(X:K0.In s.heap)(g:s.heap.get? a=some o)(e:lm A s (sk Pc t n)=λK=>(s.heap.get? a).isSome∧K (ct (sk Pc t n) (.error .none) dO 0) {s with heap:=s.heap.update a f})(h:wpAny M0 A (ct (sk Pc t n) (.error .none) dO 0) Q E {s with heap:=s.heap.update a f}):wpAny M0 A t Q E s:=st n X e ⟨by rw[g];rfl,h⟩
theorem Ã6 (n:Nat)(X:K0.In s.heap)(e:lm A s (sk Pc t n)=λK=>K (ct (sk Pc t n) (.error .none) dO s.toks) {s with toks:=s.toks+1})(h:wpAny M0 A (ct (sk Pc t n) (.error .none) dO s.toks) Q E {s with toks:=s.toks+1}):wpAny M0 A t Q E s:=st n X e h
end
theorem Pv (P:Params)(a b:Value):peek (KF P) (ol P) (checkBuiltinCall "Exception.__new__" ⟨[.ref 95,a,b],[]⟩)=some ():=by kernel_rfl
theorem UA (P:Params)(a b:Value):peek (KF P) (ol P) (checkBuiltinCall "type.__call__" ⟨[.ref 95,a,b],[]⟩)=some ():=by kernel_rfl
theorem Oy (P:Params)(a b:Value):peek (KF P) (ol P) (callAny (.ref 95) ⟨[a,b],[]⟩)=some (.again (.call (.builtin "type.__call__") ⟨[.ref 95,a,b],[]⟩)):=by kernel_rfl
theorem Ow (P:Params):peek (KF P) (ol P) (mroOf (.ref 95))=some [.ref 95,.ref 82,.type "Exception",.type "BaseException",.type "object"]:=by kernel_rfl
theorem Wv (P:Params):peek (KF P) (ol P) (Bind.madeBy (.ref 95))=some (some "Exception.__new__"):=by kernel_rfl
theorem Wu (P:Params):peek (KF P) (ol P) (isSubtype (.ref 95) (.ref 95))=some true:=by kernel_rfl
theorem Ww (P:Params):peek (KF P) (ol P) (typeLookup (.ref 95) "__init__")=some (some (.ref 72)):=by kernel_rfl
theorem Wx (P:Params)(e:Value):peek (KF P) (ol P) (bindSpecial (.ref 72) e)=some (.ref 72,[e]):=by kernel_rfl
section
variable {A:Around} {E:Value->Shared->Prop} {s:Shared} {a b:Value} {R:Result->Shared->Prop} {Q:Value->Shared->Prop}
noncomputable abbrev G5 (s:Shared)(a b:Value):Shared:={s with heap:=(s.heap.push (f7 [a,b])).push (eJ s.heap.objs.size none)}
theorem qL:(G5 s a b).heap.get? (s.heap.objs.size+1)=some (eJ s.heap.objs.size none):=by
 rw[show s.heap.objs.size+1=(s.heap.push (f7 [a,b])).objs.size from (cG ..).symm]
 exact ë _ rfl
theorem tA (b':Addr)(o:Obj)(e:s.heap.get? b'=some o):(G5 s a b).heap.get? b'=some o:=Ø _ (Ø _ e)
theorem JE (X:K0.In s.heap)(q:R (.ok (.ret (.ref (s.heap.objs.size+1)))) (G5 s a b)):codeAny M0 A (.builtin "Exception.__new__" ⟨[.ref 95,a,b],[]⟩) R s:=by
 have F:=i7
 have ÁP:=F.ends
 refine PySem.codeAny_builtinAt F.entry ?_
 unfold Builtin.«BaseException.__new__»
 refine PySem.wpAt_bind ?_
 show PySem.wpAt _ _ _ (stack >>= _) _ _ _
 refine PySem.wpAt_bind (PySem.wpAt_stack λp below=>Àu ?_)
 wp_walk
 refine Àu ?_
 rw[F.owner]
 refine Hk 9 (f7 [a,b]) X (by kernel_rfl) (Hk 0 (eJ s.heap.objs.size none) (X.keeps λ_ _=>Ø _) (by kernel_rfl) ?_)
 have X':K0.In (G5 s a b).heap:=X.keeps tA
 exact oI 1 (.done (.ret (.ref (s.heap.push (f7 [a,b])).objs.size))) X' (by kernel_rfl) (by rw[cG];exact q)
def S4 (P:Shared->Prop)(r:Result)(s:Shared):Prop:=match r with
 | .ok f=>(match f with
   | .ret v=>v= .none∧K0.In s.heap∧P s
   |_=>False)
 | .error _=>False
theorem Pd {Q:PySem.Fin->Shared->Prop}(X:K0.In s.heap)(hq:codeAny M0 A (.call (.ref 72) ⟨[.ref (s.heap.objs.size+1),a,b],[]⟩) (S4 (Q (.done (.ret (.ref (s.heap.objs.size+1)))))) (G5 s a b)):
 wpAny M0 A (Builtin.«type.__call__» ⟨[.ref 95,a,b],[]⟩) Q E s:=by
 refine B9 3 (.call (.builtin "Exception.__new__") ⟨[.ref 95,a,b],[]⟩) X (by kernel_rfl) ?_
 refine codeAny_call_builtin_code (BQ _ (by decide+kernel)) ((pk X (Pv _ a b)).here (JE X ?_))
 have X':K0.In (G5 s a b).heap:=X.keeps tA
 refine fy 0 X' qL (by kernel_rfl) (fy 1 X' qL (by kernel_rfl) ?_)
 refine B9 6 (.call (.ref 72) ⟨[.ref (s.heap.objs.size+1),a,b],[]⟩) X' (by kernel_rfl) (GW hq λr s' z=> ?_)
 cases r with
 |error e=>exact z.elim
 |ok f=>cases f with
  |ret v=>
   obtain⟨rfl,X2,z⟩:=z
   exact oI 0 (.done (.ret (.ref (s.heap.objs.size+1)))) X2 (by kernel_rfl) z
  |_=>exact z.elim
theorem F7 (X:K0.In s.heap)(hq:codeAny M0 (A.under (.builtin "type.__call__" ⟨[.ref 95,a,b],[]⟩)) (.call (.ref 72) ⟨[.ref (s.heap.objs.size+1),a,b],[]⟩) (S4 (Q (.ref (s.heap.objs.size+1)))) (G5 s a b)):wpAny M0 A (call (.ref 95) [a,b]) Q E s:=
 gv (i6 ((pk X (Oy cx.w.params a b)).here ⟨rfl,codeAny_call_builtin_at (BQ _ (by decide+kernel)) entry_typeCall ((pk X (UA cx.w.params a b)).here (Pd X hq))⟩))
end
end
section
open PySem PySem.W PyProof.Rows PySem.Calls PySem.SeqAt PySem.Builtin PySem.Builtin.ObjectAttr
set_option backward.match.sparseCases false
noncomputable abbrev x8:List Value:=[.ref 95,.ref 82,.type "Exception",.type "BaseException",.type "object"]
theorem Ox (P:Params):(clsIn (KF P) 95).any (λcd=>cd.hasDict&&(cd.mro==x8))=true:=by kernel_rfl
theorem Dx (P:Params):findIn (KF P) (.ref 95) "__setattr__" =some (some (.builtin "object.__setattr__")):=by kernel_rfl
theorem x7 (P:Params):∃cd,clsIn (KF P) 95=some cd∧cd.hasDict=true∧cd.mro=x8:=(any_some (Ox P)).elim λcd h=>⟨cd,h.1,aL h.2,eq_of_beq (aR h.2)⟩
theorem ze (P:Params):peek (KF P) (ol P) (typeLookup (.ref 95) "what")=some none∧peek (KF P) (ol P) (typeLookup (.ref 95) "at")=some none:=⟨by kernel_rfl,by kernel_rfl⟩
theorem Ov (P:Params):peek (KF P) (ol P) (isSubtype (.ref 95) (.type "object"))=some true:=by kernel_rfl
section
variable {A:Around} {E:Value->Shared->Prop} {s:Shared} {x dx:Addr} {ox:Obj} {od:Option Obj} {name:Str} {tk:Tok} {v:Value} {es:List DictEntry} {n:Nat} {vs:Array Value} {sl:Array (Option Value)}
theorem zy {R:Result->Shared->Prop}(X:K0.In s.heap)(I:InstAt s.heap x ox 95 od)(ht:peek K0 (ol cx.w.params) (typeLookup (.ref 95) name)=some none)
 (h:∀b,wpAny M0 A.in1 (storeInOwnDict (.ref x) (.ref 95) (.str name tk) name v b) (λfin s'=>match fin with| .done f=>R (.ok f) s'| .again c'=>c'.quiet=true∧codeAny M0 A c' R s') (λe s'=>R (.error e) s') s):
 codeAny M0 A (.call (.builtin "object.__setattr__") ⟨[.ref x,.str name tk,v],[]⟩) R s:=by
 have SF:=PySem.F.store_object
 obtain⟨cd,hc,QQ,MQ⟩:=x7 cx.w.params
 have sub:Looks M0 s.heap (isInstance (.ref x) (.type "object")) true:=I.type.andThen (pk X (Ov _))
 refine vr SF.slot.plain SF.entry (@check_slot M0 _ _ s "object.__setattr__" "object" "__setattr__" (.ref x) [.str name tk,v] [] _ SF.kind SF.split sub (SF.args (.ref x) (.str name tk) v) ?_)
 have hm:Looks M0 s.heap (mroOf (.ref 95)) x8:=pk X (Ow _)
 have L3:Looks M0 s.heap (storeTaker? none) none:= .now
 rw[osa_eq,refuse_eq]
 refine Á (Á (I.type.here (Á (hm.here ?_))))
 rw[show refuseLoop (.ref x) "__setattr__" x8=refuseLoop (.ref x) "__setattr__" [.type "Exception",.type "BaseException",.type "object"] by rw[refuseLoop_ref,refuseLoop_ref],PySem.F.store_Exception.passes (.ref x)]
 exact Ê (Á (I.type.here (Á ((pk X ht).here (Á (L3.here (h _)))))))
theorem EV {k:Str}{hs:Int}{kv:Value}:(putL k hs kv v es).length<=es.length+1:=by
 induction es with
 |nil=>exact Å _
 |cons a r ih=>
  unfold putL
  by_cases q:a.key.isStr k=true
  ·rw[Î q];exact å _
  ·rw[Ñ q];exact Ì ih
theorem N8 (hk:es.all (λe=> !e.refKey)=true):es.toArray.any (·.refKey)=false:=by
 rw[←Array.any_toList,Äl]
 exact λy hy z=>Bool.noConfusion ((aa hk hy).symm.trans (È not z))
theorem in_dict {Q:PySem.Fin->Shared->Prop}(hd:s.heap.get? dx=some (dictOf es n))(hz:es.length<=1000)(hk:es.all (λe=> !e.refKey)=true)
 (h:Q (.done (.ret .none)) {s with heap:=s.heap.update dx (Obj.putName name (PyData.keyHash cx.w.params name) (.str name s.toks) v),toks:=s.toks+1}):
 wpAny M0 A (storeInDict dx (.str name tk) name v) Q E s:=by
 have e:Obj.putName name (PyData.keyHash cx.w.params name) (.str name s.toks) v (dictOf es n)=dictOf (putL name (PyData.keyHash cx.w.params name) (.str name s.toks) v es) (putN name es n):=putName_dict ..
 have D':(s.heap.update dx (Obj.putName name (PyData.keyHash cx.w.params name) (.str name s.toks) v)).get? dx=some (dictOf (putL name (PyData.keyHash cx.w.params name) (.str name s.toks) v es) (putN name es n)):=by
  rw[ă _ hd (by rw[e];rfl),e]
 unfold storeInDict newKeyGuard
 refine Á (Ê (Á ?_))
 unfold nsSet
 refine Á (Á (om (Ê (Á (ÄR (Á (kc hd ?_)))))))
 dsimp only
 rw[aRefKeyMayBeTheName_at,N8 hk,ī]
 refine wpAny_updatePart hd ?_
 refine Á (wpAny_lookBehind D' (by exact pastItsLine_dict (À (ð Č) (À EV (À (Ì hz) (by decide))))) ?_)
 exact Ê h
end
theorem I9 (P:Params):peek (KF P) (ol P) (isSubtype (.ref 95) (.type "Exception"))=some true:=by kernel_rfl
noncomputable abbrev qQ:Manifest.Signature:=⟨.positional,"*","Exception",.self,[⟨"args",.varPos,false⟩]⟩
theorem I8 (P:Params):peek (KF P) (ol P) (typeNameWhole (.ref 95))=some "LexError" :=by kernel_rfl
abbrev GU (a:Addr)(h h':Heap):Prop:=∀{b o},b≠a->h.get? b=some o->h'.get? b=some o
section
variable {A:Around} {E:Value->Shared->Prop} {s:Shared} {x dx tt:Addr} {name:Str} {v w:Value} {es:List DictEntry} {n:Nat} {Q:Unit->Shared->Prop}
theorem u9 (X:K0.In s.heap)(hx:s.heap.get? x=some (eJ tt none))(ht:peek K0 (ol cx.w.params) (typeLookup (.ref 95) name)=some none)
 (h:∀h' tk t',h'.get? x=some (eJ tt (some s.heap.objs.size))->h'.get? s.heap.objs.size=some (dictOf [⟨PyData.keyHash cx.w.params name,.str name t',v⟩] 1)->GU x s.heap h'->Q () {s with heap:=h',toks:=tk}):
 wpAny M0 A (setAttr (.ref x) name v) Q E s:=by
 have I:InstAt s.heap x (eJ tt none) 95 none:=⟨hx,rfl,rfl,trivial⟩
 obtain⟨cd,hc,QQ,MQ⟩:=x7 cx.w.params
 refine set_plain X I (Dx _) (zy (s:={s with toks:=s.toks+1}) X I ht λb=> ?_)
 refine Á (Ê (Á (Á (kc hx (Á (looks_clsIn X hc _ _ _ _ (λ_ _ e=>e) ?_))))))
 rw[QQ]
 have Lr:=Ø {cls:= .type "dict",data:= .dict #[]} hx
 have RL:x≠s.heap.objs.size:=î (ā hx)
 refine Á (wpAny_alloc (Á (wpAny_update (o:=eJ tt none) Lr (Ê (a:=some s.heap.objs.size) ?_))))
 have hgd:((s.heap.push {cls:= .type "dict",data:= .dict #[]}).update x λo=>{o with dict:=some s.heap.objs.size}).get? s.heap.objs.size=some (dictOf [] 0):=
  (c6 _ _ _ _ RL.symm).trans (ë _ rfl)
 have hgx:((s.heap.push {cls:= .type "dict",data:= .dict #[]}).update x λo=>{o with dict:=some s.heap.objs.size}).get? x=some (eJ tt (some s.heap.objs.size)):=ă _ Lr rfl
 refine in_dict (s:={s with heap:=(s.heap.push {cls:= .type "dict",data:= .dict #[]}).update x λo=>{o with dict:=some s.heap.objs.size},toks:=s.toks+1}) hgd (ý _) rfl ?_
 have e:=putName_dict name (PyData.keyHash cx.w.params name) (.str name (s.toks+1)) v [] 0
 exact h _ _ (s.toks+1) ((c6 _ _ _ _ RL).trans hgx) (by rw[ă _ hgd (by rw[e];rfl),e];rfl) λhb QX=>(c6 _ _ _ _ (î (ā QX))).trans ((c6 _ _ _ _ hb).trans (Ø _ QX))
theorem u7 (X:K0.In s.heap)(hx:s.heap.get? x=some (eJ tt (some dx)))(hd:s.heap.get? dx=some (dictOf es n))(hz:es.length<=1000)(hk:es.all (λe=> !e.refKey)=true)(ht:peek K0 (ol cx.w.params) (typeLookup (.ref 95) name)=some none)
 (h:∀h' tk t',h'.get? dx=some (dictOf (putL name (PyData.keyHash cx.w.params name) (.str name t') v es) (putN name es n))->GU dx s.heap h'->Q () {s with heap:=h',toks:=tk}):
 wpAny M0 A (setAttr (.ref x) name v) Q E s:=by
 have I:InstAt s.heap x (eJ tt (some dx)) 95 (some (dictOf es n)):=⟨hx,rfl,rfl,hd⟩
 obtain⟨cd,hc,QQ,MQ⟩:=x7 cx.w.params
 refine set_plain X I (Dx _) (zy (s:={s with toks:=s.toks+1}) X I ht λb=> ?_)
 refine Á (Ê (Á (Á (kc hx (Á (looks_clsIn X hc _ _ _ _ (λ_ _ e=>e) ?_))))))
 rw[QQ]
 refine Ê (a:=some dx) (in_dict (s:={s with toks:=s.toks+1}) hd hz hk ?_)
 have e:=putName_dict name (PyData.keyHash cx.w.params name) (.str name (s.toks+1)) v es n
 exact h _ _ (s.toks+1) ((ă _ hd (by rw[e];rfl)).trans (È some e)) λhb QX=>(c6 _ _ _ _ hb).trans QX
theorem OV {a:Value}(X:K0.In s.heap)(t1:Looks M0 s.heap (typeOf a) (.ref 95))(q:Q () s):wpAny M0 A (checkBuiltinCall "Exception.__init__" ⟨[a,w],[]⟩) Q E s:=by
 have F:=i7
 have p1:Looks M0 s.heap (Bind.printed "*" true qQ (some a)) "LexError" :=t1.andThen ((pk X (I8 _)).andThen .now)
 unfold checkBuiltinCall
 rw[F.initKind,F.initSplit,F.initRow]
 refine Á ((t1.andThen (pk X (I9 _))).here ?_)
 show wpAny M0 A (Bind.printed "*" true qQ (some a) >>= λf=>Bind.printed "Exception" false qQ (some a) >>= λsh=>(Bind.check qQ f sh 1 []).onRaise _) Q E s
 refine Á (p1.here (Á (Ê (wpAny_onRaise ?_))))
 rw[check_star_args]
 exact Ê q
theorem F6 {Q:Value->Shared->Prop}(X:K0.In s.heap)(he:s.heap.get? x=some (eJ tt none))(hq:∀h' T,h'.get? x=some (eJ T none)->GU x s.heap h'->Q .none {s with heap:=h'}):
 wpAny M0 A (call (.builtin "Exception.__init__") [.ref x,w]) Q E s:=by
 have F:=i7
 have t1:Looks M0 s.heap (typeOf (.ref x)) (.ref 95):=(Looks.ld he).andThen .now
 refine gv (vr F.init.plain F.initEntry (OV X t1 ?_))
 obtain⟨h,g,d,t,os⟩:=s
 wp_walk
 exact hq _ h.objs.size (ă _ (Ø _ he) rfl) λhb QX=>(ġ _ _ (bI hb)).trans (Ø _ QX)
end
theorem lY (P:Params):peek (KF P) (ol P) (isSubtype (.ref 95) (.type "BaseException"))=some true∧peek (KF P) (ol P) (isSubtype (.ref 95) (.type "type"))=some false∧peek (KF P) (ol P) (typeOf (.ref 95))=some (.type "type"):=⟨by kernel_rfl,by kernel_rfl,by kernel_rfl⟩
section
variable {A:Around} {E:Value->Shared->Prop} {s:Shared} {x:Sem Value} {env:Env} {Q:Flow->Shared->Prop}
theorem Bc (hh:A.handled=none)(h:wpAny M0 A x (λv Ę=>∃e T de,v= .ref e∧K0.In Ę.heap∧Ę.heap.get? e=some (eJ T de)∧E v Ę) E s):wpAny M0 A (raiseStmt env (some x) none) Q E s:=by
 unfold raiseStmt
 refine Á (ê h (λv Ę au=> ?_) λ_ _ x=>x)
 obtain⟨e,t,de,rfl,X,he,hE⟩:=au
 have t1:Looks M0 Ę.heap (typeOf (.ref e)) (.ref 95):=(Looks.ld he).andThen .now
 have b1:=pk X (lY _).1
 have b2:=pk X (lY _).2.1
 have t2:=pk X (lY _).2.2
 obtain⟨hp,g,d,tk,os⟩:=Ę
 unfold excFromValue isType isInstance
 repeat (first|with_reducible refine wpAny_loadPart_at he ?_|with_reducible refine Looks.at (by assumption) ?_|wp_step)
 exact wpAny_raiseNew_none hh hE
end
theorem zA (P:Params):nsIn (KF P) mainGlobals "Exception" =some none∧findCls (KF P) (.type "Exception") (.type "type") "__init__" =some (.val (.builtin "Exception.__init__")):=⟨by kernel_rfl,by kernel_rfl⟩
theorem JG:bootBuiltins "Exception" =some (.type "Exception"):=by kernel_rfl
noncomputable abbrev WW (l:List Stmt):Stmt:=ph l.tail
noncomputable abbrev sI2 (l:List Stmt):Stmt:=ph l.tail.tail
noncomputable def MN (x:Expr):Expr:= .Call (.Attribute (.Name "Exception" (kx (kx x 0) 0).pos) "__init__" (kx x 0).pos) [.Name "self" (kx x 1).pos,.Name "what" (kx x 2).pos] [] x.pos
noncomputable def Hv (n:Str)(x:Stmt):Stmt:= .Assign [.Attribute (.Name "self" (kx (kt x) 0).pos) n (kt x).pos] (.Name n (ke x).pos) x.pos
noncomputable def MM (l:List Stmt):List Stmt:=[.Expr (MN (ke (ph l))) (ph l).pos,Hv "what" (WW l),Hv "at" (sI2 l)]
noncomputable def Sv (l:List Stmt):Bool:=(kx (ke (ph l)) 0).pos.endLine==(ke (ph l)).pos.line
theorem DJ (P:Params):MM (af (KF P) 72)=af (KF P) 72∧Sv (af (KF P) 72)=true:=⟨by kernel_rfl,by kernel_rfl⟩
section
variable {c:Fm} {ρ:Loc} {T:Sx} {h':Heap} {s:Shared} {m:Str->Option Value} {A:Around} {E:Value->Shared->Prop} {env:Env} {a x y:Str} {o v w p:Value} {e tt:Addr} {pos:Pos} {X:Expr} {B:Stmt} {l:List Stmt}
theorem eW {Q:Value->Shared->Prop}(hk:env.scope.kind= .function)(hl:env.kindOf x=some .local)(hn:s.heap.Ns env.locals m)(hv:m x=some v)(hd:(x==("__debug__" :Str))=false)(h:Q v s):wpAny M0 A (eval (.Name x pos) env) Q E s:=wpAny_Name (wpAny_loadName_local hk hl hn hv h) hd
theorem yK {Q:Flow->Shared->Prop}(hk:env.scope.kind= .function)(hx:env.kindOf "self" =some .local)(hy:env.kindOf a=some .local)(hn:s.heap.Ns env.locals m)(hvx:m "self" =some o)(hvy:m a=some v)(hd:(a==("__debug__" :Str))=false)
 (h:wpAny M0 A (setAttr o a v) (λ_ s'=>Q .next s') E s):wpAny M0 A (exec (Hv a B) env) Q E s:=by
 unfold Hv
 rw[fO (c:=⟨A,env,[],[],true⟩) ⟨λ_ _ _=>rfl,λ_ _ _ _=>rfl,λ_ _ _ _=>rfl,λ_ _ _ _=>rfl⟩ rfl rfl]
 refine Á (ò (Á (eW hk hy hn hvy hd ?_)))
 rw[arm_assign_Attribute]
 exact Á (Á (ä (eW hk hx hn hvx (by decide) (Á (ò (Á (ä (ê h (λ_ d5 q=>wpAny_release' (Ê q)) λ_ _ e=>e))))))))
theorem Dl {o:Obj}{vs:Array Value}{L:Addr}(b:GU e s.heap h')(hn:s.heap.Ns L m)(he:s.heap.get? e=some o)(hd:o.data= .fields vs):h'.Ns L m:=by
 obtain⟨o',es,ep,q,d,r⟩:=hn
 exact⟨o',es,ep,b (λz=>by
  rw[z,he] at q
  rw[←Ä q,hd] at d
  exact Data.noConfusion d) q,d,r⟩
theorem Ħ.kb (R:Ħ c ρ T)(hf:T.X.r e= .free)(b:GU e T.h h'):K0.In h':=λ_ _ h=>b (λz=>Ro.noConfusion (hf.symm.trans (z▸R.toWd.kf h))) (R.kin _ _ h)
theorem lg {p:Pos}(a:Str)(env:Env)(t:Sem Value):attributeBase (.Name x p) a env t=t:=rfl
theorem kX {p:Pos}:kz (.Name x p):=⟨λ_ _=>rfl,λ_ _=>rfl,λ_ _=>⟨_,rfl⟩,λ_ _=>rfl⟩
set_option maxHeartbeats 0 in
theorem ET {Q:Value->Shared->Prop}(R:Ħ c ρ T)(hl:((kx X 0).pos.endLine==X.pos.line)=true)(hk:ū c.env.scope "Exception" =true)(l1:c.env.kindOf "self" =some .local)(l2:c.env.kindOf "what" =some .local)(hn:T.h.Ns c.L m)(m1:m "self" =some (.ref e))(m2:m "what" =some w)(he:T.h.get? e=some (eJ tt none))
 (hq:∀h' tk T',h'.get? e=some (eJ T' none)->GU e T.h h'->Q .none {T.s with heap:=h',toks:=tk}):wpAny M0 c.A (eval (MN X) c.env) Q E T.s:=by
 obtain⟨mm,F,N⟩:=R.fr
 unfold MN
 rw[Bx,lg]
 refine Á (ź R.k.kind (dP hk).1 (Q7 (by rw[R.k.glob];exact R.topK.g) (mg_none_of R.g.kin R.g.top.g (zA _).1) (by rw[R.k.bl];exact R.topK.b) (by rw[R.g.top.builtins "Exception" (by decide)];exact JG) ?_) (dP hk).2)
 refine Á (ò ?_)
 unfold methodCall
 have hN:Ns [.Name "self" (kx X 1).pos,.Name "what" (kx X 2).pos]:=λy hy=>(Û.mp hy).elim (λz=>z▸kX) λhy=>Ô.mp hy▸kX
 rw[qU hN (Ó rfl)]
 refine Á (ä (method_type (K:=K0) (T:="Exception") (v:= .builtin "Exception.__init__") F R.g.kin (by kernel_rfl) (by kernel_rfl) (zA _).2 rfl ?_))
 dsimp only
 rw[iA hl]
 refine Á (Ê ?_)
 rw[cB hN]
 refine i4 (P:=K0.In) rfl (Ļ _) (ac rfl ?_)
 refine Á (eW (s:={T.s with toks:=T.s.toks+1}) R.k.kind l1 hn m1 (by decide) (Á (Ê (Á (ä ?_)))))
 refine Á (eW (s:={T.s with toks:=T.s.toks+1}) R.k.kind l2 hn m2 (by decide) (Á (Ê (Á (ä (Ê (Ê (Ê ⟨R.kin,?_⟩))))))))
 exact F6 (s:={T.s with toks:=T.s.toks+1}) R.kin he λh' T' e1 b=>hq h' _ T' e1 b
theorem uT {au gh:Heap}{a:Addr}{o:Obj}(b:GU e au gh)(he:gh.get? e=some o)(n:gh.get? a=none):au.get? a=none:=by
 cases q:au.get? a with
 |none=>rfl
 |some o'=>exact nS (n.symm.trans (b (λz=>nS (n.symm.trans (z▸he))) q))
noncomputable abbrev yc (w p:Value)(t1 t2:Tok):List DictEntry:=[⟨PyData.keyHash cx.w.params "what",.str "what" t1,w⟩,⟨PyData.keyHash cx.w.params "at",.str "at" t2,p⟩]
theorem ES {Q:Flow->Shared->Prop}(R:Ħ c ρ T)(hf:T.X.r e= .free)(hl:Sv l=true)(hk:ū c.env.scope "Exception" =true)(l1:c.env.kindOf "self" =some .local)(l2:c.env.kindOf "what" =some .local)(l3:c.env.kindOf "at" =some .local)(hn:T.h.Ns c.L m)(m1:m "self" =some (.ref e))(m2:m "what" =some w)(m3:m "at" =some p)(he:T.h.get? e=some (eJ tt none))
 (hq:∀h' tk T' de t1 t2 n,h'.get? e=some (eJ T' (some de))->h'.get? de=some (dictOf (yc w p t1 t2) n)->T.h.get? de=none->GU e T.h h'->Q .next {T.s with heap:=h',toks:=tk}):wpAny M0 c.A (execs (MM l) c.env) Q E T.s:=by
 have hi:interactive c.env=false:=by unfold interactive;rw[R.k.kind];rfl
 unfold MM
 rw[gy,PySem.exec_Expr (env:=c.env) _ _ hi rfl]
 refine Á (Á (ò (Á (ET R hl hk l1 l2 hn m1 m2 he λau KS T₁ vV Cn=>wpAny_dropValue ?_))))
 dsimp only
 rw[gy]
 refine Á (yK R.k.kind l1 l2 (Dl Cn hn he rfl) m1 m2 (by decide) (u9 (R.kb hf Cn) vV (ze _).1 λgh ÁM t1 HB Z9 Àd=> ?_))
 have b:GU e T.h gh:=λn q=>Àd n (Cn n q)
 have nd:=Ņ au
 have ne:au.objs.size≠e:=λz=>nS ((z▸nd).symm.trans vV)
 dsimp only
 rw[gy]
 refine Á (yK R.k.kind l1 l3 (Dl b hn he rfl) m1 m3 (by decide) (u7 (R.kb hf b) HB Z9 (Ó rfl) rfl (ze _).2 λCi Th t2 Z8 SU=> ?_))
 exact Ê (hq Ci Th _ _ t1 t2 _ (SU (bI ne) HB) Z8 (uT Cn vV nd) λz q=>SU (λz2=>nS ((uT Cn vV nd).symm.trans (z2▸q))) (b z q))
end
end
section
open PySem PySem.W PyProof.Rows PySem.Calls PySem.SeqAt
set_option backward.match.sparseCases false
noncomputable def d0:FD:=⟨"__init__","ToolError.__init__",72,3,[.none],["self","what","at"],[]⟩
noncomputable def Cd (sc:Scope)(x:Str):Bool:=sc.names.lookup x==some .local
theorem Pk (P:Params):RQ (KF P) d0 (λsc _=>ū sc "Exception" &&(Cd sc "self" &&(Cd sc "what" &&Cd sc "at")))=true:=by kernel_rfl
theorem rE (P:Params):nsIn (KF P) mainGlobals "LexError" =some (some (.ref 95))∧keepIn (KF P) (.ref 95)=true:=⟨by kernel_rfl,by kernel_rfl⟩
section
variable {Φ:Ď} {n nn:Nat} {c:Fm} {ρ:Loc} {T T':Sx} {s':Shared} {L:Addr} {l:List Addr} {h':Heap} {e de tt:Addr} {w p:Value} {wv pv:V} {E:Ĩ} {t1 t2:Tok} {env:Env} {fd:FuncData} {x:Str}
theorem mi.pre (O:mi ⟨T.X,T.H,s'⟩ L l h')(k:∀{a o},T.h.get? a=some o->s'.heap.get? a=some o):mi T L l h':=⟨λe=>O.k (k e),λm=>⟨ci (λ_ e=>⟨_,k e⟩) (O.n m).1,(O.n m).2⟩,O.m⟩
theorem mi.free (O:mi T L l h')(W:Wd T)(a:Addr)(n:h'.get? a=none):(T.X.own l L).r a= .free:=by
 refine (Ñ λm=> ?_).trans (W.free (ci (λ_ e=>⟨_,O.k e⟩) n))
 obtain⟨_,o,e,_⟩:=O.n m
 exact nS (n.symm.trans e)
theorem JD {frs:List Env}{ns:List Str}{A:Around}{Ĥ:Loc}(R:Ħ c ρ T)(O:mi T env.locals l s'.heap)(R':Ħ (bu A frs env ns) Ĥ ⟨T.X.own l env.locals,T.H,s'⟩)(fr:∀L∈d7 (env::frs),L∈d7 c.frs∨T.h.get? L=none)(hg:s'.gens=T.s.gens)(hd:s'.drawn=T.s.drawn)(ho:s'.os=T.s.os)(hf:(T.X.own l env.locals).r e= .free)(fe:T.h.get? e=none){tk:Nat}
 (q1:h'.get? e=some (eJ tt (some de))) (q2:h'.get? de=some (dictOf (yc w p t1 t2) nn)) (q3:s'.heap.get? de=none) (q4:GU e s'.heap h') (ne:e≠de) (hw:VR T.X wv w) (hp:VR T.X pv p) (q:E pv T.H):dJ c ρ T E {s' with heap:=h',toks:=tk} (.ref e):=by
 have R'':=R'.stir (tk:=tk) hf q4
 have e0:({s' with heap:=h',toks:=tk}:Shared)={T.s with heap:=h',toks:=tk}:=by rw[hg,hd,ho]
 have S:=(O.virt (c:=bu A frs env ns) (tk:=0) .refl).stir (tk:=tk) fe q4
 have n1:=R.leave R''.toWd O (e0▸S) fr
 have fd:=O.free R.toWd de q3
 have n2:Nx c ρ T ⟨(T.X.own l env.locals).put de (.still (dictOf (yc w p t1 t2) nn)),T.H,{s' with heap:=h',toks:=tk}⟩:=⟨n1.r.fix fd q2,n1.s.fix (ci (λ_ e=>⟨_,O.k e⟩) q3) fd⟩
 have a1:("what" :Str)=ĝ (ņ "what"):=ĺ "what"
 have a2:("at" :Str)=ĝ (ņ "at"):=ĺ "at"
 refine .mk n2 (.mk q1 ⟨rfl,rfl,Ó rfl,de,_,nn,wv,rfl,aw,?_⟩ (.no rfl) ((ķ ne).trans hf) fe) q
 unfold yc
 rw[a1,a2]
 exact .cons (hw.mono n2.s.le) (.cons (hp.mono n2.s.le) .nil)
theorem x9 (hs:env.scope=fd.scope)(h:Cd fd.scope x=true):env.kindOf x=some .local:=by
 unfold Env.kindOf
 rw[hs];exact eq_of_beq h
theorem YG {i:Nat}{v:V}{P:Prop}(h:([none,none,none]:List (Option V))[i]? =some (some v)):P:=match i,h with
 |0,h=>nS (Ä h)|1,h=>nS (Ä h)|2,h=>nS (Ä h)|_+3,h=>nS h
theorem F5 {Q:Value->Shared->Prop}{Er:Value->Shared->Prop}(C:lH c n)(R:Ħ c ρ T)(hw:VR T.X wv w)(hp:VR T.X pv p)(q:E pv T.H)(k:∀s' e T' de,K0.In s'.heap->s'.heap.get? e=some (eJ T' (some de))->dJ c ρ T E s' (.ref e)->Q (.ref e) s'):wpAny M0 c.A (call (.ref 95) [w,p]) Q Er T.s:=by
 obtain⟨o,fd,K,hb⟩:=qT (Pk cx.w.params)
 have R1:Ħ c ρ ⟨T.X,T.H,G5 T.s w p⟩:=(R.grown (tk:=T.s.toks) (.of tA)).r
 have fe:T.h.get? (T.h.objs.size+1)=none:=by
  cases z:T.h.get? (T.h.objs.size+1) with
  |none=>rfl
  |some o=>exact absurd (ā z) (Ł.mpr (å _))
 refine F7 R.kin (hV (T:=⟨T.X,T.H,G5 T.s w p⟩) (us:=[none,none,none]) ((Ħ.make (C:=95) (bs:=[w,p]) R1 C).ent (QI (j:=1) (k:=43) C.u (by decide)) (QI (j:=1) (k:=41) C.d (by decide))) K (iE R1.toWd K rfl) YG rfl (Å _) λ{env Ę} D=> ?_)
 have O:=D.O.pre (T:=T) (tA _ _)
 have e1:Ę.heap.get? (T.h.objs.size+1)=some (eJ T.h.objs.size none):=D.O.k qL
 have hf:(T.X.own (ownOf env.locals env.cells) env.locals).r (T.h.objs.size+1)= .free:=(Ñ λm=>nS ((D.O.n m).1.symm.trans qL)).trans (R.free fe)
 have l1:=x9 D.sc (aL (aR hb))
 have l2:=x9 D.sc (aL (aR (aR hb)))
 have l3:=x9 D.sc (aR (aR (aR hb)))
 have nd:((((iQ d0).take d0.np).zip [.ref (T.s.heap.objs.size+1),w,p]).map (·.1)).Nodup:=K.nd
 have hg:ū env.scope "Exception" =true:=D.sc▸aL hb
 show wpAny M0 _ (execs (af K0 72) env) _ _ _
 rw[←(DJ _).1]
 refine ES D.r hf (DJ _).2 hg l1 l2 l3 D.hn (fk l1 nd (.head _)) (fk l2 nd (.tail _ (.head _))) (fk l3 nd (.tail _ (.tail _ (.head _)))) e1 λh' tk T' de t1 t2 nn q1 q2 q3 q4=>⟨rfl,D.r.kb hf q4,?_⟩
 have ne:T.h.objs.size+1≠de:=λz=>nS (q3.symm.trans (z▸e1))
 obtain⟨tk',es⟩:=D.same
 refine k _ _ T' de (D.r.kb hf q4) q1 (JD R O D.r (λL h=>(D.fr L h).imp id (ci λo e=>⟨o,tA _ _ e⟩)) ?_ ?_ ?_ hf fe q1 q2 q3 q4 ne hw hp q)
 ·rw[es]
 ·rw[es]
 ·rw[es]
theorem ub:zO Φ n:=λ{c w p xw xp p1 p2 p3} C hk n1 n2 hw hp {T ρ E Q} q=>by
 refine .eq (arm_exec_Raise ..) (.at_ λR=> ?_)
 refine Bc C.hh (Á (ê ?_ (λv d5 Ci=>Á (ò (Ê Ci))) λ_ _ x=>x))
 rw[Ÿ]
 refine Á (ź R.k.kind (dP hk).1 (sd (by rw[R.k.glob];exact R.topK.g) (mg_of R.g.kin R.g.top.g (rE _).1) ?_) (dP hk).2)
 have hN:Ns [xw,xp]:=λy hy=>(Û.mp hy).elim (λz=>z▸n1) λhy=>Ô.mp hy▸n2
 have ha:=hU hw (hU hp ry) (T:=T) (ρ:=ρ) (E:=E) (Q:=λvs H=>match vs with|[_,b]=>E b H|_=>False) q
 rw[cB hN]
 refine i4 (P:=K0.In) rfl (bG (rE _).2) (ac rfl (ê (ha R) (λbs Ę k=>k.casesOn λ{X' H' vs} m hv q=>⟨m.r.kin,?_⟩) λ_ _ e=> .mk e))
 obtain⟨a,b,e⟩:=Lj hv.2
 subst e
 exact hv.1.two λbw bp hw hp=>F5 C m.r hw hp q λs' e T' de X he x=>⟨e,T',some de,rfl,X,he,.mk (x.back m.s)⟩
end
end
section
open PySem PySem.W PyProof.Rows PySem.Calls PySem.SeqAt PySem.Builtin PySem.Builtin.ObjectAttr
set_option backward.match.sparseCases false
theorem tB (P:Params):findIn (KF P) (.ref 95) "__getattribute__" =some (some (.builtin "BaseException.__getattribute__"))∧findIn (KF P) (.ref 95) "__getattr__" =some none∧findIn (KF P) (.ref 95) "at" =some none:=⟨by kernel_rfl,by kernel_rfl,by kernel_rfl⟩
theorem rD (P:Params):findIn (KF P) (.ref 95) "told" =some (some (.ref 79))∧typeIn (KF P) (.ref 79)=some (.type "function")∧keepIn (KF P) (.ref 79)=true:=⟨by kernel_rfl,by kernel_rfl,by kernel_rfl⟩
theorem xF:Manifest.canonical "BaseException.__getattribute__" = "object.__getattribute__" :=by decide+kernel
theorem qb:builtinKind "BaseException.__getattribute__" =some .slot∧splitId "BaseException.__getattribute__" =some ("BaseException","__getattribute__"):=⟨by decide+kernel,by decide+kernel⟩
section
variable {A:Around} {E:Value->Shared->Prop} {s:Shared} {x:Addr} {ox:Obj} {es:List DictEntry} {n:Nat}
theorem JF {expr:Bool}{v:Value}{Q:Value->Shared->Prop}(X:K0.In s.heap)(I:InstAt s.heap x ox 95 (some (dictOf es n)))(hl:getL "at" es=some (some v))(hh:handedIn v=true)(h:Q v {s with toks:=s.toks+1}):
 wpAny M0 A (getAttr (.ref x) "at" expr) Q E s:=by
 obtain⟨cd,hc,QQ,MQ⟩:=x7 cx.w.params
 have Y9:hasDictIn K0 95=true:=by unfold hasDictIn;rw[hc];exact QQ
 have hf:findObj K0 95 (some (dictOf es n)) "at" =some (.value v):=findObj_own Y9 (tB cx.w.params).2.2 rfl hl
 have ht:Looks M0 s.heap (typeOf (.ref x)) (.ref 95):=I.type
 have Y6:(Value.builtin "BaseException.__getattribute__" ==Value.builtin "object.__getattribute__")=false:=by decide+kernel
 refine Á (ÄR (ä (Á (ht _ _ _ _ (λ_ _ e=>e) (Á (LI X (tB cx.w.params).1 _ _ _ _ (λ_ _ e=>e) ?_))))))
 dsimp only
 rw[Y6,ī,Ñ (by decide)]
 have hb:Looks M0 s.heap (hookBefore (.ref 95)) none:=looks_hook X (tB cx.w.params).2.1
 refine Á (hb _ _ _ _ (λ_ _ e=>e) (Á (Bw (ä ?_))))
 unfold callGetattribute
 rw[show (expr&&onTheHeap (Value.builtin "BaseException.__getattribute__"))=false from ī _,Ñ (by decide)]
 unfold boundAndCalled
 rw[Rh.ga.bind]
 refine Á (Ê ?_)
 show wpAny _ _ (call (.builtin "BaseException.__getattribute__") [.ref x,.str "at" s.toks]) _ _ _
 refine gv (vr Rh.ga.plain PySem.F.entry_bexc_ga (@check_slot M0 _ _ {s with toks:=s.toks+1} "BaseException.__getattribute__" "BaseException" "__getattribute__" (.ref x) [.str "at" s.toks] [] _ qb.1 qb.2 (ht.andThen (pk X (lY _).1)) (PySem.F.args_bexc_ga (.ref x) (.str "at" s.toks)) ?_))
 obtain⟨hh',g,d,t,os⟩:=s
 have L1:=looks_find (M:=M0) X I hf
 refine Á (Ê (Á (Ê (Á (ht.at (Á (L1.at (Ê ?_))))))))
 show wpAny _ _ (handedOut v) _ _ _
 rw[handedOut_of hh];exact Ê h
theorem xm {pl:Sem Bool}{Q:Value×List Value->Shared->Prop}(X:K0.In s.heap)(I:InstAt s.heap x ox 95 (some (dictOf es n)))(hl:getL "told" es=some none)(h:Q (.ref 79,[.ref x]) s):
 wpAny M0 A (getMethod (.ref x) "told" pl) Q E s:=by
 have hs:shadowIn (some (dictOf es n)) "told" =some false:=by show (lookIn "told" (dictOf es n)).map _=_;rw[lookIn_dict,hl];rfl
 unfold getMethod specialOf
 refine Á (Á (I.type.here ((LI X (tB cx.w.params).1).here ?_)))
 dsimp only
 rw[xF,Ñ (by decide)]
 refine Á (Á (I.type.here ((LI X (tB cx.w.params).2.1).here ?_)))
 refine Á (Á (I.type.here ((LI X (rD cx.w.params).1).here (Á ((looks_typeIn X (rD cx.w.params).2.1).here ?_)))))
 rw[Ñ (by decide+kernel)]
 refine Á (kc I.at_ ?_)
 have hd:=I.dict
 cases e:ox.dict with
 |none=>exact Á (BI (Ê h))
 |some dx=>
  rw[e] at hd
  obtain⟨r,a,b⟩:=kD hs
  refine Á (Á (kc hd ?_))
  rw[nsLook_of a]
  refine Ê ?_
  rw[b]
  exact Á (BI (Ê h))
end
end
section
open PySem PySem.W PyProof.Rows PySem.Calls PySem.SeqAt
set_option backward.match.sparseCases false
noncomputable abbrev sP:PE:= .tup [.attr (.var 0) 1,.attr (.var 0) 2]
theorem IB (P:Params):RQ (KF P) KC (λsc b=>b3 sP sc (iQ KC) (ke (ph b)))=true:=by kernel_rfl
theorem NX (P:Params):af (KF P) 43=[.Return (some (tr sP (ke (ph (af (KF P) 43))))) (ph (af (KF P) 43)).pos]:=by kernel_rfl
abbrev Ru:Ď:=λ_ _ _ _ _=>False
abbrev S3 (c:Fm)(ρ:Loc)(T:Sx)(a b:V):Value->Shared->Prop:=ŝ c ρ T VV λv H'=>v= .tup [a,b]∧H'=T.H
section
variable {c:Fm} {ρ:Loc} {T T':Sx} {x:Expr} {fs:List (Nat×V)} {u:Value} {a b:V} {E:Value->Shared->Prop}
theorem LD {f:Nat}(h:cL c.ns 0 (nm (kx x 0))=true):SE Ru c (.attr (.var 0) f) (tr (.attr (.var 0) f) x):=rU (jW rfl) (v5 (slot_of h).1 (slot_of h).2.1 (slot_of h).2.2)
theorem NW (h:b3 sP c.env.scope c.ns x=true):SE Ru c sP (tr sP x):=by
 have e:BG Ru c [.attr (.var 0) 1,.attr (.var 0) 2] (BA [.attr (.var 0) 1,.attr (.var 0) 2] (kd x).ch):=hU (LD (aR (aL (aR h)))) (hU (LD (aR (aL (aR (aR h))))) ry)
 show SE Ru c sP (.Tuple (BA [.attr (.var 0) 1,.attr (.var 0) 2] (kd x).ch) (kd x).k x.pos)
 exact CR bS (Ó (aL h)) e
theorem LF {f:Nat}{H:AH}{Q:QT}(ok:vD 0 f=true)(h:fs.lookup f=some a)(q:Q a H):tL f (.rcd 0 fs) H Q:=by
 show oZ (cond (vD 0 f) (fs.lookup f) none) H Q
 rw[ok,h];exact q
theorem EY (u1:c.A.units+43<cLine)(u2:c.A.depth+41<recursionLimit)(R:Ħ c ρ T)(hx:VR T.X (.rcd 0 fs) u)(h1:fs.lookup 1=some a)(h2:fs.lookup 2=some b):wpAny M0 c.A (call (.ref 43) [u]) (S3 c ρ T a b) E T.s:=by
 obtain⟨o,fd,K,hb⟩:=qT (IB cx.w.params)
 refine gv (hV (d:=KC) (us:=[some (.rcd 0 fs)]) (R.ent u1 u2) K (iE R.toWd K rfl) (λ{i v} hi=> ?_) rfl (Å _) λ{env Ę} D=> ?_)
 ·match i,hi with
  |0,hi=>exact⟨u,rfl,Ä (Ä hi)▸hx⟩
  |_+1,hi=>exact nS hi
 rw[show af K0 KC.addr=_ from NX cx.w.params]
 have hs:vF Ru (bu c.A c.frs env (iQ KC)) [.ret sP] [.Return (some (tr sP (ke (ph (af K0 43))))) (ph (af K0 43)).pos]:=nA (Dc (NW (by rw[show (bu c.A c.frs env (iQ KC)).env.scope=fd.scope from D.sc];exact hb))) rx
 refine ê (hs (T:=⟨T.X.own (ownOf env.locals env.cells) env.locals,T.H,Ę⟩) (E:=λ_ _=>False) (Q:=λf _ H'=>f= .ret (.tup [a,b])∧H'=T.H) (LF rfl h1 (LF rfl h2 ⟨rfl,rfl⟩)) D.r) (λfl s' p=>p.casesOn λ{X' H' Ĥ ff} n' hf q=> ?_) λe s' p=>p.casesOn λx=>x.casesOn λ_ _ q=>q.elim
 obtain⟨rfl,rfl⟩:=q
 exact hf.on λx hv=> .mk (R.leave n'.r.toWd D.O (D.virt n'.s) D.fr) hv ⟨rfl,rfl⟩
end
noncomputable def dT:FD:=⟨"told","ToolError.told",79,1,[],["self"],[]⟩
noncomputable def B6 (x:Expr):Expr:= .Attribute (.Name "self" (kx x 0).pos) "at" x.pos
noncomputable abbrev WQ (l:List Stmt):Expr:=ke (WW l)
noncomputable def Vh (x:Expr):Expr:= .Compare (B6 (kx x 0)) [gK .is_] [.Constant .none (kd (kx x 1)).k (kx x 1).pos] x.pos
noncomputable def toC (x:Expr):Expr:= .Call (.Attribute (B6 (kx (kx x 0) 0)) (mN 39) (kx x 0).pos) [] [] x.pos
noncomputable def toS (l:List Stmt):List Stmt:=[.If (Vh (ke (ph l))) (ks (ph l)).ps [] (ph l).pos,.Return (some (toC (WQ l))) (WW l).pos]
theorem KR (P:Params):toS (af (KF P) 79)=af (KF P) 79∧((kx (WQ (af (KF P) 79)) 0).pos.endLine==(WQ (af (KF P) 79)).pos.line)=true:=⟨by kernel_rfl,by kernel_rfl⟩
theorem El (P:Params):RQ (KF P) dT (λsc _=>Cd sc "self")=true:=by kernel_rfl
theorem OD (P:Params):keepIn (KF P) (.ref 43)=true:=by kernel_rfl
section
variable {c:Fm} {ρ:Loc} {T T':Sx} {s:Shared} {X:Expr} {env:Env} {m:Str->Option Value} {fs:List (Nat×V)} {u v:Value} {a b wv:V} {A:Around} {E:Value->Shared->Prop} {e de:Addr} {oe:Obj} {vs:Array Value} {es:List DictEntry} {n:Nat}
theorem Df {Q:Value->Shared->Prop}(hk:env.scope.kind= .function)(hl:env.kindOf "self" =some .local)(hn:s.heap.Ns env.locals m)(hv:m "self" =some (.ref e))(Kn:K0.In s.heap)(I:InstAt s.heap e oe 95 (some (dictOf es n)))(hg:getL "at" es=some (some v))(hh:handedIn v=true)(h:Q v {s with toks:=s.toks+1}):
 wpAny M0 A (eval (B6 X) env) Q E s:=by
 unfold B6
 rw[arm_eval_Attribute,lg]
 exact Á (eW hk hl hn hv (by decide) (Á (ò (Á (ä (JF Kn I hg hh (Á (wpAny_letTemporaryGo (Ê h)))))))))
theorem no1 {i:Nat}{v:V}{P:Prop}(h:([none]:List (Option V))[i]? =some (some v)):P:=match i,h with
 |0,h=>nS (Ä h)|_+1,h=>nS h
theorem J2 {x:Expr}(a:Str)(env:Env)(t:Sem Value):attributeBase (B6 x) a env t=t:=rfl
theorem Oi {g:Value}(h:Mn 39 (.fn 1) g):g= .ref 43:=h.2 KC rfl
theorem uz {h:Heap}(he:h.get? e=some oe)(hc:oe.cls= .ref 95)(Xv:oe.data= .fields vs)(hd:oe.dict=some de)(f:h.get? de=some (dictOf es n)):InstAt h e oe 95 (some (dictOf es n)):=by
 refine⟨he,hc,?_,by rw[hd];exact f⟩
 cases oe with
 |mk a b d f=>
  obtain rfl:=(Xv:d=_)
  rfl
theorem ER {Q:Bool->Shared->Prop}{ap:Addr}(hk:env.scope.kind= .function)(hl:env.kindOf "self" =some .local)(hn:s.heap.Ns env.locals m)(hv:m "self" =some (.ref e))(Kn:K0.In s.heap)(I:InstAt s.heap e oe 95 (some (dictOf es n)))(hg:getL "at" es=some (some (.ref ap)))(h:Q false {s with toks:=s.toks+1}):
 wpAny M0 A (isTrue (Vh X) env (eval (Vh X) env)) Q E s:=by
 unfold Vh
 rw[uQ ⟨λ_ _=>rfl,λ_ _=>rfl,λ_ _=>⟨_,rfl⟩,λ_ _=>rfl⟩]
 exact Á (Df hk hl hn hv Kn I hg rfl (Á (ä (Ê (Á (ò (Á (Kj (is_none_gen (ä (GY h)))))))))))
theorem F4 (u1:c.A.units+46<cLine)(u2:c.A.depth+42<recursionLimit)(R:Ħ c ρ T)(he:T.h.get? e=some oe)(hc:oe.cls= .ref 95)(Xv:oe.data= .fields vs)(hd:oe.dict=some de)(f:T.X.r de= .still (dictOf es n))(r:DR T.X [(ņ "what",wv),(ņ "at",.rcd 0 fs)] es)(h1:fs.lookup 1=some a)(h2:fs.lookup 2=some b):
 wpAny M0 c.A (call (.ref 79) [.ref e]) (S3 c ρ T a b) E T.s:=by
 obtain⟨o,fd,K,hb⟩:=qT (El cx.w.params)
 obtain⟨val,g,YX⟩:=(r.look (ņ "at"):∃z,getL (ĝ (ņ "at")) es=some (some z)∧VR T.X (.rcd 0 fs) z)
 rw[←ĺ] at g
 revert g
 refine YX.on λap ad aes an f1 f2 ra g=> ?_
 refine gv (hV (d:=dT) (us:=[none]) (R.ent (Í (Ý (by decide) _) u1) (Í (Ý (by decide) _) u2)) K (iE R.toWd K rfl) no1 rfl (Å _) λ{env Ę} D=> ?_)
 have le:=D.O.le R.toWd
 have hl:=x9 D.sc hb
 have nd:((((iQ dT).take dT.np).zip [Value.ref e]).map (·.1)).Nodup:=K.nd
 have m0:=fk hl nd (.head _)
 have I:=uz (D.O.k he) hc Xv hd (D.r.still (le.f f))
 have Kn:=D.r.kin
 show wpAny M0 _ (execs (af K0 79) env) _ _ _
 rw[←(KR _).1]
 unfold toS
 rw[gy,arm_exec_If]
 refine Á (Á (ò (Á (ER D.r.k.kind hl D.hn m0 Kn I g (i5 (env:=env) ?_)))))
 dsimp only
 rw[gy]
 refine Á (G0 ?_)
 unfold toC
 rw[Bx,J2]
 refine Á (Df (s:={Ę with toks:=Ę.toks+1}) D.r.k.kind hl D.hn m0 Kn I g rfl (Á (ò ?_)))
 unfold methodCall
 rw[qU (xs:=[]) (λ_ h=>absurd h û) (by decide)]
 have R2:=(D.r.tok (tk:=Ę.toks+1+1)).r
 refine Á (ä (rK R2 (R2.still (le.f f1)) (R2.still (le.f f2)) (ra.mono le) (m:=39) (t:= .fn 1) rfl λgf hgf=> ?_))
 obtain rfl:=Oi hgf
 dsimp only
 rw[iA (KR _).2]
 refine Á (Ê ?_)
 refine i4 (P:=K0.In) rfl (bG (OD _)) (ac rfl (Ê ⟨Kn,?_⟩))
 refine ê (EY (c:=bu c.A c.frs env (iQ dT)) (E:=λ_ _=>False) (by show c.A.units+3+43<_;exact u1) (by show c.A.depth+1+41<_;rw[þ];exact u2) R2 (VR.rcd (le.f f1) (le.f f2) (ra.mono le)) h1 h2) (λx s' p=>p.casesOn λ{X' H' v} n' hv q=> ?_) λ_ _ h=>h.elim
 obtain⟨rfl,rfl⟩:=q
 have n3:=(D.r.tok (tk:=Ę.toks+1+1)).s.trans n'.s
 exact Ê (.mk (R.leave n'.r.toWd D.O (D.virt n3) D.fr) hv ⟨rfl,rfl⟩)
end
theorem I7 (P:Params):(KF P).lookup 95=some (excClassObj "LexError" "LexError" 95 94 [.ref 82] [.ref 82,.type "Exception",.type "BaseException",.type "object"] true [] [] false none none (some (.ref 86)) none (some (.str "LexError" 326)) (some (.str "LexError" 334)) (some (.bool true)) "Exception.__new__"):=by kernel_rfl
section
variable {Φ:Ď} {n:Nat} {c:Fm} {ρ Ĥ:Loc} {T T':Sx} {h':Heap} {s:Shared} {i er ends tk:Nat} {e:PE} {x y z:Str} {ex:Expr} {m:Str->Option Value} {val:Option Value} {A:Around} {R:Result->Shared->Prop} {ev v:Value} {MZ:Stmt} {body:List Stmt} {pos p2 p3 p4 p5 p6 p7:Pos} {a de:Addr} {oe:Obj} {vs:Array Value} {es:List DictEntry} {env:Env} {p:V} {H:AH} {QB:Bool->AH->Prop} {Er:Value->Shared->Prop}
theorem oi (h:wpAny M0 A (setFlight ev none) (λ_ Ę=>wpAny M0 A (bindName env y ev) (λ_ f9=>wpAny M0 A (execs (MZ::body) env) (λf d5=>R (.ok f) d5) (λ_ _=>False) f9) (λ_ _=>False) Ę) (λ_ _=>False) s):
 codeAny M0 A (.handlers ev [.ExceptHandler none (some y) (MZ::body) pos] env) R s:=by
 refine i6 ?_
 show wpAny _ A (do return PySem.Fin.done (←(handleWith ev env [.ExceptHandler none (some y) (MZ::body) pos]).onRaise (λx=>do noteFrame x env;theTreesLotGoes x))) _ _ s
 refine Á (wpAny_noted ?_)
 unfold handleWith
 exact Á (ò (Á (ê h (λ_ Ę au=>Á (ê au (λ_ f9 gh=>Á (Bw (ê gh (λf d5 Ci=>Ê (Ê Ci)) λ_ _ z=>z.elim))) λ_ _ z=>z.elim)) λ_ _ z=>z.elim)))
theorem ur (R:Ħ c ρ T)(hi:c.ns[i]? =some y)(r:∀{i:Nat} {x v},c.ns[i]? =some x->ρ[i]? =some (some v)->lL T.X c.env T.h m x v)(Xm:h'.Ns c.L (λx=>if x=y then val else m x))(hs:Heap.SameBut c.L T.h h'):Nx c (ρ.set i none) T ⟨T.X,T.H,{T.s with heap:=h',toks:=tk}⟩:=
 R.reown (λq e=>hs.extBut _ _ (λz=>q (z▸R.ownL)) e) (λq=>(R.own q).2.2.imp id λ⟨o,v,e,d⟩=>⟨o,v,hs.extBut _ _ (R.cellL e d) e,d⟩) Xm λ{j y u} h1 h2=>(mI h2).elim (λz=>nS z.2) λq=>
  (r h1 q.2).casesOn (λw a b r=> .loc w a ((Ñ (Cw R hi h1 q.1)).trans b) r) λca kk o w a e q ho hd r=> .cell ca kk o w a e q (hs.extBut _ _ (R.cellL ho hd) ho) hd r
theorem Ek {x:Option (Option V)}(q:z5 x QB p H):∃fs v a b r,p= .rcd 0 fs∧x=some (some v)∧fs.lookup 1=some a∧fs.lookup 2=some b∧lU (.tup [a,b]) v=some r∧QB r H:=by
 cases p with
 |rcd c fs=>
  replace q:cond (Nat.beq c 0) (Rx x H λv H=>oZ (fs.lookup 1) H λa H=>oZ (fs.lookup 2) H λb H=>bF (lU (.tup [a,b]) v) H QB) False:=q
  cases hc:Nat.beq c 0 with
  |false=>rw[hc] at q;exact q.elim
  |true=>
   rw[hc] at q
   obtain⟨v,e1,q⟩:=yi (o:=x) (Q:=λv H=>oZ (fs.lookup 1) H λa H=>oZ (fs.lookup 2) H λb H=>bF (lU (.tup [a,b]) v) H QB) q
   obtain⟨a,e2,q⟩:=rL (Q:=λa H=>oZ (fs.lookup 2) H λb H=>bF (lU (.tup [a,b]) v) H QB) q
   obtain⟨b,e3,q⟩:=rL (Q:=λb H=>bF (lU (.tup [a,b]) v) H QB) q
   obtain⟨r,e4,q⟩:=fj q
   exact⟨fs,v,a,b,r,by rw[U8 hc],e1,e2,e3,e4,q⟩
 |_=>exact q.elim
noncomputable abbrev W4 (c:Fm)(a:Addr):Fm:=wA c (c.A.mark (some (.ref a)))
theorem Ħ.mark (R:Ħ c ρ T):Ħ (W4 c a) ρ T:={R with k:={R.k with frames:=R.k.frames,units:=R.k.units,depth:=R.k.depth}}
theorem Px {w:V}{fs:List (Nat×V)}{va vb:V}{r:Bool}{QS:ST}(C:lH c n)(R:Ħ c ρ T)(hy:cL c.ns er y=true)(hz:cL c.ns ends z=true)(ne:ends≠er)(ly:c.env.kindOf y=some .local)(my:(p3.endLine==p4.line)=true)
 (g1:T.h.get? a=some oe) (ok:Nb T.X (.rcd 0 fs) oe vs) (hf:T.X.r a= .free) (hv:ρ[ends]? =some (some w)) (f1:fs.lookup 1=some va) (f2:fs.lookup 2=some vb) (he:lU (.tup [va,vb]) w=some r) (q:QS (.ret (.bool r)) (ρ.set er none) T.H) {KK:Flow->Shared->Prop} (hK:∀fl s',eT c T QS fl s'->KK fl s'):
 wpAny M0 (c.A.mark (some (.ref a))) (bindName c.env y (.ref a)) (λ_ f9=>wpAny M0 (c.A.mark (some (.ref a))) (execs [.Return (some (.Compare (.Call (.Attribute (.Name y p2) "told" p3) [] [] p4) [gK .eq] [.Name z p5] p6)) p7] c.env) (λf d5=>wpAny M0 c.A (do bindName c.env y .none;unbindBehindTheSuite c.env y pos) (λ_ B7=>KK f B7) Er d5) (λ_ _=>False) f9) (λ_ _=>False) T.s:=by
 obtain⟨m,hn,hr⟩:=R.loc
 refine WD (wpAny_storeName_local ly hn (λMO Lv Ls=> ?_) (by rw[R.k.kind];rfl))
 have n5:=ur (tk:=T.s.toks+1) R (slot_of hy).1 hr Lv Ls
 have g1':MO.get? a=some oe:=Ls.extBut a _ (λz=>Ro.noConfusion (hf.symm.trans ((È T.X.r z).trans R.ownL))) g1
 obtain⟨de,es,nn,wv,k1,k2,k3⟩:=ok.dict
 have I:=uz g1' ok.cls ok.data k1 (n5.r.still k2)
 have gT:getL (ĝ (ņ "told")) es=some none:=k3.look (ņ "told")
 rw[←ĺ] at gT
 rw[gy]
 refine Á (G0 ?_)
 rw[zI kX]
 refine Á ?_
 rw[Bx,lg]
 refine Á (eW (s:={T.s with heap:=MO,toks:=T.s.toks+1}) R.k.kind ly Lv (Î rfl) (slot_of hy).2.1 (Á (ò ?_)))
 unfold methodCall
 rw[qU (xs:=[]) (λ_ h=>absurd h û) (by decide)]
 refine Á (ä (xm (s:={T.s with heap:=MO,toks:=T.s.toks+1}) n5.r.kin I gT ?_))
 dsimp only
 rw[iA my]
 refine Á (Ê ?_)
 refine i4 (P:=K0.In) rfl (bG (rD _).2.2) (ac rfl (Ê ⟨n5.r.kin,?_⟩))
 refine ê (F4 (c:=W4 c a) (E:=λ_ _=>False) (QI (j:=0) (k:=46) C.u (by decide)) (QI (j:=0) (k:=42) C.d (by decide)) n5.r.mark g1' ok.cls ok.data k1 k2 k3 f1 f2) (λÃZ Ys p=>p.casesOn λ{Àg Äg Ã1} n6 hv6 q6=> ?_) λ_ _ h=>h.elim
 obtain⟨rfl,rfl⟩:=q6
 refine Á (ä ?_)
 refine ê (yj (c:=W4 c a) (T:=⟨Àg,T.H,Ys⟩) (pos:=p5) (slot_of hz).1 ((ñ (bI ne)).trans hv) (slot_of hz).2.1 (slot_of hz).2.2 ⟨rfl,rfl⟩ (E:=λ_ _=>False) (Q:=λv' H'=>v'=w∧H'=T.H) n6.r) (λÃY Ã5 p=>p.casesOn λ{Äe Äf R9} n7 hv7 q7=> ?_) λe s' p=>p.casesOn λ_ _ z=>z.elim
 obtain⟨rfl,rfl⟩:=q7
 refine Á (ò (Kj (wH n7.r (op:= .eq) (r:=r) (hv6.mono n7.s.le) hv7 ?_ λtk=>Ê ?_)))
 ·show lU (.tup [va,vb]) (seeL R9 T.H)=some r
  rcases qG R9 T.H with e|⟨i,vs,e,_⟩
  ·rw[e];exact he
  ·rw[e] at he;exact nS he
 have n67:=Nx.ofA n5.r (n6.trans n7)
 have n8:=n67.r.tok (tk:=tk)
 obtain⟨Ã9,Us,Uo⟩:=n8.r.loc
 refine wpAny_nameGoes_keeps ly Us (by rw[R.k.kind];rfl) λÄb Ã0 Ur Un=> ?_
 have n9:=ur (tk:=tk+1) n8.r (slot_of hy).1 Uo Ur Un
 rw[Q9] at n9
 exact hK _ _ (.mk ⟨n9.r,((n5.s.trans n67.s).trans n8.s).trans n9.s⟩ (.ret (.bool r)) q)
end
section
variable {Φ:Ď} {n:Nat} {c:Fm} {ρ Ĥ:Loc} {T T':Sx} {s:Shared} {er ends:Nat} {y z:Str} {p1 p2 p3 p4 p5 p6 p7 p8:Pos} {a:Addr} {p:V} {E:Ĩ} {Q:ST} {X:Gh} {H:AH}
noncomputable abbrev exH (y z:Str)(p1 p2 p3 p4 p5 p6 p7 p8:Pos):ExceptHandler:= .ExceptHandler (some (.Name (Str.ofString "LexError") p1)) (some y) [.Return (some (.Compare (.Call (.Attribute (.Name y p2) "told" p3) [] [] p4) [gK .eq] [.Name z p5] p6)) p7] p8
theorem dJ.on {P:Prop}{E:Ĩ}(x:dJ c ρ T E s (.ref a))(k:∀X H p,Nx c ρ T ⟨X,H,s⟩->vZ T.h X s.heap p a->E p H->P):P:=x.casesOn (motive:=λe _=>e= .ref a->P) (λn ok q z=>k _ _ _ n (aN z▸ok) q) rfl
theorem Tf (C:lH c n)(hL:ū c.env.scope "LexError" =true)(hy:cL c.ns er y=true)(hz:cL c.ns ends z=true)(ne:ends≠er)(ly:c.env.kindOf y=some .local)(my:(p3.endLine==p4.line)=true)
 (m:Nx c ρ T ⟨X,H,s⟩) (ok:vZ T.h X s.heap p a) (q:z5 ρ[ends]? (kTy (ρ.set er none) Q) p H) (t:KH s.heap (.ref a)):wpAny M0 c.A (handleBy (.ref a) c.env [exH y z p1 p2 p3 p4 p5 p6 p7 p8]) (eT c T Q) (λe s'=>xQ c T E e s') s:=by
 refine wpAny_handleBy_cons (codeAny_handlers_test ?_) (λz=>nomatch z)
 have R:=m.r
 refine ź R.k.kind (dP hL).1 (sd (by rw[R.k.glob];exact R.topK.g) (mg_of R.g.kin R.g.top.g (rE _).1) ?_) (dP hL).2
 refine ok.casesOn λ{oe vs} g1 g2 g3 g4 g5=>wpAny_excMatches_sub_self (R.kin _ _ (I7 _)) g1 g2.cls (by decide+kernel) ?_
 show codeAny _ _ _ _ _
 refine oi (iC (.mk m ok q) t none λB7 XZ Ã2=> ?_)
 refine XZ.on λÀh Àm Ã7 So TR YB=>TR.casesOn λg1 g2 g3 g4 g5=> ?_
 obtain⟨fs,w,va,vb,r,ep,hv,f1,f2,he,q⟩:=Ek YB
 rw[ep] at g2
 exact Px (T:=⟨Àh,Àm,B7⟩) (QS:=Q) C So.r hy hz ne ly my g1 g2 g4 hv f1 f2 he q λ_ _=>eT.back So.s
theorem CU:LG Φ n:=λ{c i er ends e x y z ex q1 q2 p1 p2 p3 p4 p5 p6 p7 p8 p9} C F hi hk Hb he hL hy hz ne ly my {T ρ E Q} q R=>by
 refine wpAny_Try_except ?_
 rw[gy,Rg (env:=c.env) _ _ _ _ Hb]
 refine Á (Á (ò (Á (ê (he q R) (λb Ę k=>k.casesOn λ{X H v} n₁ hv q=>Á (ò (Á (Qz (T:=⟨X,H,Ę⟩) hi hk hv (λs' oO=>Ê (i5 (env:=c.env) (i5 (env:=c.env) (eT.mk ⟨oO.r,n₁.s.trans oO.s⟩ .next q)))) n₁.r)))) λee s' x=> ?_))))
 refine rt F x λjI WO t=>iC WO t none λd5 Ms Sa=> ?_
 have Te:=Sa
 obtain⟨a,oe,vs,Tb,rfl,_⟩:=Te
 exact Ms.on λX H p m ok q=>Tf C hL hy hz ne ly my m ok q Sa
end
noncomputable abbrev lh (σ:List Nat)(led:Bool):SetTable:={mask:=7,place:=σ.toArray,dummies:= #[],finger:=0,led:=led,moves:=0,plain:=true}
noncomputable abbrev ji (σ:List Nat)(τ:Nat->Tok):List (Int×Value):=σ.map λ(k:Nat)=>((k:Int),Value.int (k:Int) (τ k))
noncomputable def sC (σ:List Nat)(τ:Nat->Tok)(ep:Nat)(led:Bool):Obj:={cls:= .type "set",data:= .set (ji σ τ).toArray ep (lh σ led)}
noncomputable def gH (σ:List Nat)(v:Nat):List Nat:=if σ.contains v then σ else σ.filter (·<v)++v::σ.filter (v<·)
noncomputable def c7:List (List Nat):=[[],[0],[1],[2],[3],[0,1],[0,2],[0,3],[1,2],[1,3],[2,3],[0,1,2],[0,1,3],[0,2,3],[1,2,3],[0,1,2,3]]
def r1 {α:Type}(P:Params)(a:Addr):Sem α->Obj->(α->Obj->Prop)->Prop
 | .pure x,o,Q=>Q x o
 | .rule _ k,o,Q=>r1 P a (k ()) o Q
 | .at _ k,o,Q=>r1 P a (k ()) o Q
 | .point _ k,o,Q=>r1 P a (k ()) o Q
 | .ask k,o,Q=>r1 P a (k (ol P)) o Q
 | .load b _ k,o,Q=>b=a∧r1 P a (k o) o Q
 | .update b _ f k,o,Q=>b=a∧(f o).isFreed=false∧r1 P a (k ()) (f o) Q
 |_,_,_=>False
noncomputable def Sb (τ:Nat->Tok)(v:Nat)(t:Tok)(k:Nat):Tok:=if k=v then t else τ k
noncomputable abbrev HH (a:Addr)(t:Tok)(v:Nat):Sem Bool:=setAddHashed a (.int (v:Int) t) (hashInt (v:Int))
noncomputable abbrev pairs:List (List Nat×Nat):=(c7.flatMap λσ=>[0,1,2,3].map λv=>(σ,v)).filter λx=> !x.1.contains x.2
theorem Kf (P:Params)(a:Addr)(t:Tok)(τ:Nat->Tok)(ep:Nat)(led:Bool):(pairs.map λx=>r1 P a (HH a t x.2) (sC x.1 τ ep led))=
 pairs.map λx=>λK=>a=a∧a=a∧a=a∧false=false∧K true (sC (gH x.1 x.2) (Sb τ x.2 t) (ep+1) led):=by kernel_rfl
theorem FZ (τ:Nat->Tok):(c7.all λσ=>[0,1,2,3].all λ(v:Nat)=>((ji σ τ).findIdx? λe=>(intKind pw cx.w).is (v:Int) e.2).isSome==σ.contains v)=true:=by kernel_rfl
theorem JA (led:Bool):(c7.all λσ=>(lh σ led).fits σ.length&&(Nat.ble σ.length 4&&(σ.all λv=>Nat.blt v 4)))=true:=by
 cases led<;>decide+kernel
theorem EE:(c7.all λσ=>[0,1,2,3].all λv=>c7.contains (gH σ v))=true:=by decide+kernel
section
variable {α:Type} {A:Around} {E:Value->Shared->Prop} {s:Shared} {t:Sem α} {a:Addr} {o o':Obj} {Q:α->Shared->Prop} {σ:List Nat} {τ:Nat->Tok} {ep v:Nat} {led:Bool} {tk:Tok}
theorem Tc {R:α->Obj->Prop}:∀{s:Shared} {o:Obj},s.heap.get? a=some o->r1 Pc a t o R->(∀x h' o',R x o'->Heap.SameBut a s.heap h'->h'.get? a=some o'->Q x {s with heap:=h'})->wpAny M0 A t Q E s:=by
 induction t with
 |pure x=>exact λ{s o} g h k=>Ê (k x s.heap o h (.refl a _) g)
 |rule _ k ih=>exact λg h q Γ p ig=>ih () g h q Γ p ig
 |«at» p k ih=>exact λg h q Γ _ ig=>ih () g h q Γ p ig
 |point _ k ih=>exact λg h q Γ p ig=>ih () g h q Γ p ig
 |ask k ih=>exact λg h q Γ p ig=>ih _ g h q Γ p ig
 |load b _ k ih=>exact λ{s o} g h q Γ p ig=>⟨o,h.1▸g,ih o g h.2 q Γ p ig⟩
 |update b _ f k ih=>
  intro s o g h q
  obtain⟨rfl,h1,h2⟩:=h
  exact λΓ p ig=>⟨by rw[g];rfl,ih () (s:={s with heap:=s.heap.update b f}) (ă _ g h1) h2 (λx h' o' z sb=>q x h' o' z ((jB s.heap b f).trans sb)) Γ p ig⟩
 |_=>exact λ_ h=>False.elim h
theorem Hr (h:v<4):v∈[0,1,2,3]:=match v,h with
 |0,_=> .head _|1,_=> .tail _ (.head _)|2,_=> .tail _ (.tail _ (.head _))|3,_=> .tail _ (.tail _ (.tail _ (.head _)))
 |_+4,h=>absurd h (Ł.mpr (Ğ _ _))
theorem kL (iM:σ∈c7)(led:Bool):(lh σ led).fits σ.length=true∧σ.length<=4∧∀v∈σ,v<4:=
 have h:=aa (JA led) iM
 ⟨aL h,Ó (aL (aR h)),λv m=>Ó (aa (aR (aR h)) m)⟩
theorem Ly (h:∀v∈σ,v<4):ElemsOf (intKind pw cx.w) (ji σ τ).toArray.toList:=λe he=>by
 obtain⟨k,m,rfl⟩:=Þ.mp he
 have key:∀v<4,((v:Nat):Int)=hashInt ((v:Nat):Int):=by decide+kernel
 exact⟨⟨(k:Int),intKind_is pw cx.w (k:Int) (τ k),key k (h k m)⟩,rfl⟩
theorem Àf {Q:Bool->Shared->Prop}(iM:σ∈c7)(hv:v<4)(g:s.heap.get? a=some (sC σ τ ep led))(k:∀b h' LY KD,Heap.SameBut a s.heap h'->h'.get? a=some (sC (gH σ v) LY KD led)->Q b {s with heap:=h'}):wpAny M0 A (HH a tk v) Q E s:=by
 cases hc:σ.contains v with
 |false=>
  have hp:(σ,v)∈pairs:=f5.mpr ⟨List.mem_flatMap.mpr ⟨σ,iM,Þ.mpr ⟨v,Hr hv,rfl⟩⟩,by show (!σ.contains v)=true;rw[hc];rfl⟩
  have e:=Äj.mp (Kf Pc a tk τ ep led) (σ,v) hp
  refine Tc (R:=λb o=>b=true∧o=sC (gH σ v) (Sb τ v tk) (ep+1) led) g (by rw[show r1 Pc a (HH a tk v) (sC σ τ ep led)=_ from e];exact⟨rfl,rfl,rfl,rfl,rfl,rfl⟩) λx h' o' z sb e'=> ?_
  rw[z.2] at e'
  exact k x h' _ _ sb e'
 |true=>
  obtain⟨f1,f2,f3⟩:=kL iM led
  have sz:(ji σ τ).toArray.size=σ.length:=(Č).trans (Â _)
  have hf:(lh σ led).fits (ji σ τ).toArray.size=true:=by rw[sz];exact f1
  have hb:(ji σ τ).toArray.size<scanBound:=by rw[sz];exact Í f2 (by decide)
  have fd:=eq_of_beq (aa (aa (FZ τ) iM) (Hr hv))
  rw[hc] at fd
  obtain⟨j,hj⟩:=LU.mp fd
  have hs:gH σ v=σ:=Î hc
  unfold HH setAddHashed setAddHashedIn
  refine ä (Á (lO g rfl hf ?_))
  dsimp only
  rw[byScan_of (knd:=intKind pw cx.w) rfl hb (Ly f3),Î rfl]
  refine Á (Á (BI (Á (wpAny_setScan_of (knd:=intKind pw cx.w) (k:=(v:Int)) (intKind_is _ _ _ _) g rfl hf (Ly f3) ?_))))
  rw[show List.findIdx? _ (ji σ τ).toArray.toList=some j from hj]
  exact Ê (Ê (k false s.heap τ ep (.refl a _) (hs.symm▸g)))
end
section
variable {A:Around} {E:Value->Shared->Prop} {s:Shared} {S I p:Addr} {o o':Obj} {R:Result->Shared->Prop} {σ ns:List Nat} {τ:Nat->Tok} {ep v:Nat} {led:Bool} {tk:Tok} {items:Array Value}
theorem tT (h:σ∈c7)(hv:v<4):gH σ v∈c7:=â.mp (aa (aa EE h) (Hr hv))
theorem Ub (hh:A.handled=none)(n1:p≠I)(n2:S≠I)(n3:S≠p)(hx:∀{i n:Nat} {u},ns[i]? =some n->items[i]? =some u->∃t,u= .int (n:Int) t)(hl:items.size=ns.length)(sF:∀v∈ns,v<4)(rest:List Nat):
 ∀{pre:List Nat} {s:Shared} {σ τ ep},ns=pre++rest->s.heap.IsListIter I p pre.length->s.heap.IsList p items->σ∈c7->s.heap.get? S=some (sC σ τ ep led)->
 (∀h' tk LY KD,(∀b o,b≠S->b≠I->s.heap.get? b=some o->h'.get? b=some o)->h'.get? S=some (sC (rest.foldl gH σ) LY KD led)->R (.ok (.ret .none)) {s with heap:=h',toks:=tk})->
 codeAny M0 A (.builtin "set.update.loop" ⟨[.ref S,.ref I],[]⟩) R s:=by
 have W:=Walks.list (prog:=pw) (w:=cx.w) (A:=A.in1) hh I p n1 items
 have sub:∀{h h':Heap},(∀b o,b∉[I]->h.get? b=some o->h'.get? b=some o)->∀{b o},b≠I->h.get? b=some o->h'.get? b=some o:=λ{_ _} k {b o} n e=>k b o (λz=>n (Ô.mp z)) e
 induction rest with
 |nil=>
  intro pre s σ τ ep e it ls iM g k
  rw[à] at e
  refine bW qh ?_
  rw[aC cm _]
  show wpAny _ A.in1 (pyNext (.ref I) >>= _) _ _ s
  refine Á (W.done s _ _ (hl.trans (È _ e)▸⟨it,ls⟩) λh' tk kk=> ?_)
  show wpAny _ A.in1 (ret Value.none) _ _ _
  exact Ê (k h' tk τ ep (λb o _ n e=>sub kk n e) (sub kk n2 g))
 |cons v rest ih=>
  intro pre s σ τ ep e it ls iM g k
  have hv:v<4:=sF v (e▸ļ _ (.head _))
  have hi:ns[pre.length]? =some v:=by rw[e,ĭ (Å _),Q8];rfl
  refine bW qh ?_
  rw[aC cm _]
  show wpAny _ A.in1 (pyNext (.ref I) >>= _) _ _ s
  refine Á (W.item pre.length s _ _ (by rw[hl];exact (Õ.mp hi).1) ⟨it,ls⟩ λu au KS hu st kk=> ?_)
  obtain⟨t,rfl⟩:=hx hi hu
  show wpAny _ A.in1 (holding [Value.int (v:Int) t] (setAdd S (.int (v:Int) t)) >>= _) _ _ _
  refine Á (ä ?_)
  unfold setAdd
  refine ä (Á ((intKind pw cx.w).pyHash (k:=(v:Int)) (intKind_is _ _ _ _) (Àf (s:={s with heap:=au,toks:=KS+1}) (σ:=σ) iM hv (sub kk n2 g) λb gh ÁL ÁU sb Zb=>Ê ⟨mc cm _,?_⟩)))
  refine ih (pre:=pre++[v]) (by rw[Æ];exact e) ?_ ?_ (tT iM hv) Zb λh' tk LY KD k' g'=>k h' tk LY KD (λb o n m e=>k' b o n m (sb.extBut b o n (sub kk m e))) g'
  ·rw[Ã]
   exact st.1.at λo e=>sb.extBut _ _ (bI n2) e
  ·exact st.2.at λo e=>sb.extBut _ _ (bI n3) e
end
noncomputable abbrev ku:Bool:= !Pc.followText "set-order"
noncomputable abbrev qm:Obj:=sC [] (λ_=>0) 0 ku
section
variable {A:Around} {E:Value->Shared->Prop} {s:Shared} {p:Addr} {n:Nat} {Q:Value->Shared->Prop} {ns:List Nat} {xs:List Value} {R:Result->Shared->Prop}
theorem Ic (X:K0.In s.heap)(h:R (.ok (.ret (.ref s.heap.objs.size))) {s with heap:=s.heap.push qm}):codeAny M0 A (.call (.builtin "set.__new__") ⟨[.type "set",.ref p],[]⟩) R s:=by
 refine i6 (oI 0 (.again (.builtin "set.__new__" ⟨[.type "set",.ref p],[]⟩)) X (by kernel_rfl) ⟨mc U6 _,bW PySem.F.entry_set_new ?_⟩)
 rw[aC U6 _]
 exact Hk 0 qm X (by kernel_rfl) (oI 0 (.done (.ret (.ref s.heap.objs.size))) (X.keeps λ_ _=>Ø _) (by kernel_rfl) h)
theorem Yv {α:Type}{t t':Sem α}{Q:α->Shared->Prop}(e:t=t')(h:wpAny M0 A t' Q E s):wpAny M0 A t Q E s:=e▸h
theorem EI (hh:A.handled=none)(X:K0.In s.heap)(g:s.heap.get? p=some (ē xs n))(hx:∀{i n:Nat} {u},ns[i]? =some n->xs.toArray[i]? =some u->∃t,u= .int (n:Int) t)(hl:xs.toArray.size=ns.length)(sF:∀v∈ns,v<4)
 (k:∀h' tk τ ep,(∀b o,s.heap.get? b=some o->h'.get? b=some o)->h'.get? s.heap.objs.size=some (sC (ns.foldl gH []) τ ep ku)->Q (.ref s.heap.objs.size) {s with heap:=h',toks:=tk}):wpAny M0 A (call (.type "set") [.ref p]) Q E s:=by
 refine gv (i6 ?_)
 show wpAny _ _ (callAny (.type "set") ⟨[.ref p],[]⟩) _ _ _
 refine oI 0 (.again (.builtin "type.__call__" ⟨[.type "set",.ref p],[]⟩)) X (by kernel_rfl) ⟨BQ _ (by decide+kernel),bW PySem.F.entry_type_call ?_⟩
 rw[Around.under_plain (weight_type_call_type "set" [.ref p] []) rfl]
 refine B9 0 (.call (.builtin "set.__new__") ⟨[.type "set",.ref p],[]⟩) X (by kernel_rfl) (Ic X ?_)
 have k1:∀b o,s.heap.get? b=some o->(s.heap.push qm).get? b=some o:=λ_ _=>Ø _
 have X1:=X.keeps k1
 have gS:(s.heap.push qm).get? s.heap.objs.size=some qm:=ë _ rfl
 refine fy 0 X1 gS (by kernel_rfl) (fy 0 X1 gS (by kernel_rfl) ?_)
 refine B9 0 (.call (.builtin "set.__init__") ⟨[.ref s.heap.objs.size,.ref p],[]⟩) X1 (by kernel_rfl) (i6 ?_)
 refine fy 0 X1 gS (by kernel_rfl) (fy 0 X1 gS (by kernel_rfl) ?_)
 refine oI 0 (.again (.builtin "set.__init__" ⟨[.ref s.heap.objs.size,.ref p],[]⟩)) X1 (by kernel_rfl) ⟨mc Á0.init.plain _,bW PySem.F.entry_set_init ?_⟩
 rw[aC Á0.init.plain _]
 have g1:=k1 _ _ g
 refine fy 0 X1 gS (by kernel_rfl) (fy 0 X1 gS (by kernel_rfl) (fy 0 X1 g1 (by kernel_rfl) ?_))
 refine fy 0 X1 g1 (by kernel_rfl) (fy 0 X1 g1 (by kernel_rfl) (Yv (t':=(pyIter (.ref p) >>= λit=>runValue (.builtin "set.update.loop" ⟨[.ref s.heap.objs.size,it],[]⟩) >>= λ_=>pure ()) >>= λ_=>ret .none) (by kernel_rfl) ?_))
 refine Á (Á (GZ (Ř g1) (Á (wpAny_runValue ?_))))
 have hp:=ā g
 have hs:(s.heap.push qm).objs.size=s.heap.objs.size+1:=cG ..
 have k2:∀{b o},(s.heap.push qm).get? b=some o->((s.heap.push qm).push {cls:= .type "list_iterator",data:= .fields #[.ref p,.int 0 0]}).get? b=some o:=λe=>Ø _ e
 refine Ub (A:=A.in1.in1) (items:=xs.toArray) (led:=ku) (σ:=[]) (pre:=[]) (s:={s with heap:=(s.heap.push qm).push {cls:= .type "list_iterator",data:= .fields #[.ref p,.int 0 0]}}) (τ:=λ_=>0) (ep:=0) hh (λz=>absurd (z.trans hs) (î (bJ hp))) (λz=>absurd (z.trans hs) (î (é _))) (dD hp) hx hl sF ns rfl ⟨_,ë _ rfl,rfl,rfl⟩ (Ř (k2 g1)) (.head _) (k2 gS) λh' tk LY KD kk g'=> ?_
 have k3:∀b o,s.heap.get? b=some o->h'.get? b=some o:=λb o e=>kk b o (î (ā e)) (λz=>absurd (z.trans hs) (î (bJ (ā e)))) (k2 (k1 _ _ e))
 refine Ê (Ê ?_)
 exact oI 0 (.done (.ret (.ref s.heap.objs.size))) (X.keeps k3) (by kernel_rfl) (k h' tk LY KD k3 g')
end
theorem F9:entryFor table "set.__iter__" =some Builtin.«frozenset.__iter__»:=entryFor_alias (id':="frozenset.__iter__") (by kernel_rfl) rfl (by decide+kernel) (by kernel_rfl)
theorem eV:Slot "set_iterator" "__next__" "set_iterator.__next__" :=
 .of (owner:="set_iterator") (n:="__next__") (by rw[typeLookup_type,builtinLookup_eq_fast];kernel_rfl) (by decide+kernel) (by decide+kernel) (by decide+kernel)
  (by first|exact .inl (by decide+kernel)|exact .inr (by decide+kernel)) (by rw[WF];kernel_rfl)
theorem t5:Slot "set_iterator" "__iter__" "set_iterator.__iter__" :=
 .of (owner:="set_iterator") (n:="__iter__") (by rw[typeLookup_type,builtinLookup_eq_fast];kernel_rfl) (by decide+kernel) (by decide+kernel) (by decide+kernel)
  (by first|exact .inl (by decide+kernel)|exact .inr (by decide+kernel)) (by rw[WF];kernel_rfl)
theorem pX:entryFor table "set_iterator.__next__" =some Builtin.«set_iterator.__next__»:=entryFor_of_tree (by kernel_rfl)
theorem Be:entryFor table "set_iterator.__iter__" =some Builtin.«dict_keyiterator.__iter__»:=entryFor_alias (id':="dict_keyiterator.__iter__") (by kernel_rfl) rfl (by decide+kernel) (by kernel_rfl)
theorem uW (a:Value):argsOk "set_iterator.__next__" ⟨[a],[]⟩:=by unfold argsOk;kernel_rfl
theorem GH (a:Value):argsOk "set_iterator.__iter__" ⟨[a],[]⟩:=by unfold argsOk;kernel_rfl
theorem IH {α:Type}(next:Nat->Nat)(f:Nat):∀{k:Nat} {l:List α} {out:Array α},l.length<=f->(pickOrder.go next f k l out).toList.Perm (out.toList++l):=by
 induction f with
 |zero=>
  intro k l out h
  obtain rfl:=Ķ (Nat.le_zero.mp h)
  rw[à]
  unfold pickOrder.go
  exact .refl _
 |succ f ih=>
  intro k l out h
  cases l with
  |nil=>
   rw[à]
   unfold pickOrder.go
   exact .refl _
  |cons a r=>
   have hi:next k%(a::r).length<(a::r).length:=sx _ (gz _)
   unfold pickOrder.go
   rw[Ç hi]
   refine (ih (by rw[List.length_eraseIdx_of_lt hi];exact ou h)).trans ?_
   rw[Array.toList_push,Æ,List.eraseIdx_eq_take_drop_succ]
   refine List.Perm.append_left _ ((List.perm_middle (l₁:=(a::r).take (next k%(a::r).length))).symm.trans (.of_eq ?_))
   rw[List.getElem_cons_drop,Ŗ]
theorem AM {α:Type}(next:Nat->Nat)(xs:Array α):(pickOrder next xs).toList.Perm xs.toList:=IH next xs.size (ð Àx)
noncomputable abbrev BR:Bool:=Pc.followText "set-order"
noncomputable def slotAt (bt:Bool)(σ:List Nat)(i:Nat):Nat:=if bt then 0 else if i=0 then 0 else σ.getD (i-1) 0+1
theorem Ay:(c7.all λσ=>(List.range (σ.length+1)).all λi=>SetTable.below σ.toArray (slotAt false σ i)==i)=true:=by decide+kernel
noncomputable abbrev VC (σ:List Nat)(τ:Nat->Tok):Array (Int×Value):=(ji σ τ).toArray
noncomputable def fQ (S:Addr)(ep:Nat)(σ:List Nat)(τ:Nat->Tok):List (Int×Value):=if BR then (pickOrder (Pc.setOrder S ep) (VC σ τ)).toList else ji σ τ
section
variable {A:Around} {E:Value->Shared->Prop} {s:Shared} {S I:Addr} {ep i:Nat} {σ:List Nat} {τ:Nat->Tok}
theorem px:(fQ S ep σ τ).Perm (ji σ τ):=by
 unfold fQ
 cases BR with
 |true=>exact AM _ _
 |false=>exact .refl _
theorem tI:(VC σ τ).size=σ.length:=Č.trans (Â _)
theorem mW:(fQ S ep σ τ).length=σ.length:=px.length_eq.trans (Â _)
theorem wD (iM:σ∈c7):(lh σ ku).fits (VC σ τ).size=true:=by rw[tI];exact (kL iM ku).1
theorem yY {led:Bool}{Q:Option (Value×Nat)->Shared->Prop}(hl:led= !BR)(iM:σ∈c7)(g:s.heap.get? S=some (sC σ τ ep led))(hi:i<=σ.length)(h:Q (((fQ S ep σ τ)[i]?).map λe=>(e.2,slotAt BR σ (i+1))) s):
 wpAny M0 A (setNext S (slotAt BR σ i) i ep) Q E s:=by
 have hf:(lh σ led).fits (VC σ τ).size=true:=by rw[tI];exact (kL iM led).1
 have ask:∀{b} {Q:Bool->Shared->Prop},BR=b->Q b s->wpAny M0 A setsByText Q E s:=λe q=>Á (om (Ê (by subst e;exact q)))
 unfold setNext
 refine Á (lO g rfl hf ?_)
 unfold fQ at h
 cases hb:BR with
 |true=>
  rw[hb,Î rfl] at h
  refine Á (ask hb ?_)
  rw[Î rfl,Ñ (by rw[vt];exact ó)]
  unfold setWalk
  refine Á (Á (lO g rfl hf (Á (ask hb ?_))))
  rw[Î rfl]
  refine Á (om (Ê (Ê ?_)))
  rw[Vd] at h
  exact h
 |false=>
  rw[hb,Ñ ó] at h
  rw[hb] at hl
  subst hl
  refine Á (ask hb (Á (Ê (Ê ?_))))
  have hb2:SetTable.below (lh σ !false).place (slotAt false σ i)=i:=eq_of_beq (aa (aa Ay iM) (Ö.mpr (dG hi)))
  rw[hb2,Ė]
  cases hx:(ji σ τ)[i]? with
  |none=>rw[hx] at h;exact h
  |some e=>
   rw[hx] at h
   have jD:i<σ.length:=(Â (as:=σ) _)▸(Õ.mp hx).1
   rw[show (lh σ !false).place[i]? =some σ[i] from (Ė ..).trans (Ç jD)]
   have:slotAt false σ (i+1)=σ[i]+1:=by
    show σ.getD i 0+1=_
    rw[ù,Ç jD];rfl
   rw[Option.map_some,this] at h
   exact h
end
noncomputable abbrev itO (sl i:Nat)(S:Addr)(n ep:Nat):Obj:={cls:= .type "set_iterator",data:= .fields #[.int (sl:Int) 0,.int (i:Int) 0,.ref S,.int (n:Int) 0,.int (ep:Int) 0]}
theorem Ew:isSubtype (.type "StopIteration") (.type "StopIteration")=pure true:=by rw[WF];kernel_rfl
section
variable {A:Around} {E:Value->Shared->Prop} {s:Shared} {S I:Addr} {ep i:Nat} {σ:List Nat} {τ:Nat->Tok}
noncomputable abbrev Ha (σ:List Nat)(S:Addr)(ep i:Nat):Obj:=itO (slotAt BR σ i) i S σ.length ep
theorem H9 {e:Int×Value}{Q:Option Value->Shared->Prop}(iM:σ∈c7)(hI:s.heap.get? I=some (Ha σ S ep i))(g:s.heap.get? S=some (sC σ τ ep ku))(hx:(fQ S ep σ τ)[i]? =some e)
 (hQ:∀h',h'.get? I=some (Ha σ S ep (i+1))->Heap.SameBut I s.heap h'->Q (some e.2) {s with heap:=h'}):wpAny M0 A (pyNext (.ref I)) Q E s:=by
 have hT:s.TypeIs (.ref I) "set_iterator" :=⟨_,hI,rfl⟩
 have hi:i<σ.length:=mW▸(Õ.mp hx).1
 unfold pyNext
 refine Á (Bw (ey (name:=Str.ofString "__next__") hT eV (bc eV hT pX ?_ (uW _))))
 refine Á (Ê (Á (wpAny_fieldsOf hI rfl ?_)))
 dsimp only
 refine Á (zP g rfl (wD iM) ?_)
 rw[Ñ (by rw[tI,vt];exact ó)]
 refine Á (yY (ep:=ep) (i:=i) rfl iM g (í hi) ?_)
 rw[hx]
 refine Á (fq hI rfl (Ó rfl) ?_)
 have h1:=ă (Obj.mapFields (·.setIfInBounds 0 (rawInt (slotAt BR σ (i+1):Nat)))) hI rfl
 refine Á (fq h1 rfl (Ó rfl) ?_)
 have h2:=ă (Obj.mapFields (·.setIfInBounds 1 (rawInt ((i:Int)+1)))) h1 rfl
 exact Ê ⟨e.2,rfl,Ê (hQ _ h2 ((jB s.heap I _).trans (jB _ I _)))⟩
theorem NG {Q:Option Value->Shared->Prop}(hh:A.handled=none)(iM:σ∈c7)(hI:s.heap.get? I=some (Ha σ S ep σ.length))(g:s.heap.get? S=some (sC σ τ ep ku))(hQ:∀h',Heap.ExtBut I s.heap h'->Q none {s with heap:=h'}):
 wpAny M0 A (pyNext (.ref I)) Q E s:=by
 have hT:s.TypeIs (.ref I) "set_iterator" :=⟨_,hI,rfl⟩
 unfold pyNext
 refine Á (Bw (ey (name:=Str.ofString "__next__") hT eV (bc eV hT pX ?_ (uW _))))
 refine Á (Ê (Á (wpAny_fieldsOf hI rfl ?_)))
 dsimp only
 refine Á (zP g rfl (wD iM) ?_)
 rw[Ñ (by rw[tI,vt];exact ó)]
 refine Á (yY (ep:=ep) (i:=σ.length) rfl iM g (Å _) ?_)
 rw[mf (ð mW)]
 refine Á (fq hI rfl (Ó rfl) ?_)
 show wpAny _ _ (newExc (.type "StopIteration") [] >>= _) _ _ _
 refine Á ?_
 unfold newExc newTuple
 refine Á (ŕ ?_ (by size_fits))
 refine Á (m:=firstArgMember _ _) (wpAny_of_eq (a:=Value.none) rfl ?_)
 refine ŕ ?_ (by size_fits)
 unfold raiseNew
 refine Á (wpAny_handled ?_)
 rw[show A.in1.handled=none from hh]
 refine Á (Ê (wpAny_throw ?_))
 refine Á (wpAny_isInstance (T:="StopIteration") (b:=true) ⟨_,ë _ rfl,rfl⟩ Ew ?_)
 exact Ê (hQ _ (((jB ..).extBut.push _).push _))
theorem EG (hh:A.handled=none)(jJ:S≠I)(iM:σ∈c7):Walks pw cx.w A I [I,S] [I] σ.length (λi v=>∃e,(fQ S ep σ τ)[i]? =some e∧v=e.2) (λi h=>h.get? I=some (Ha σ S ep i)∧h.get? S=some (sC σ τ ep ku)) where
 sub:=λb hb=> .head _ |> λh=>(Ô.mp hb)▸h
 frame:=λ_ _ _ st hk=>⟨hk I (.head _) _ st.1,hk S (.tail _ (.head _)) _ st.2⟩
 item:=λi s Q E hi st hQ=>by
  have hl:i<(fQ S ep σ τ).length:=mW▸hi
  exact H9 iM st.1 st.2 (Ç hl) λh' Y4 zV=>hQ _ h' s.toks ⟨_,Ç hl,rfl⟩ ⟨Y4,zV.extBut _ _ jJ st.2⟩ λb o hb e=>zV.extBut b o (λh=>hb (h▸ .head _)) e
 done:=λs Q E st hQ=>NG hh iM st.1 st.2 λh' he'=>hQ h' s.toks λb o hb e=>he' b o (λh=>hb (h▸ .head _)) e
 self:=λi s Q E st hQ=>by
  have hT:s.TypeIs (.ref I) "set_iterator" :=⟨_,st.1,rfl⟩
  refine wpAny_pyIter_slot hT t5 (bc t5 hT Be ?_ (GH _))
  show wpAny _ _ (ret (.ref I)) _ _ s
  exact Ê ⟨_,rfl,"set_iterator",_,hT,eV.lookup,hQ⟩
theorem Nc {α:Type}{c:Prop}[Decidable c]{t e:Sem α}{Q:α->Shared->Prop}(h:¬c)(k:wpAny M0 A e Q E s):wpAny M0 A (if c then t else e) Q E s:=by rw[Ñ h];exact k
theorem FG {Q:Value->Shared->Prop}(iM:σ∈c7)(g:s.heap.get? S=some (sC σ τ ep ku))(hQ:Q (.ref s.heap.objs.size) {s with heap:=s.heap.push (Ha σ S ep 0)}):wpAny M0 A (pyIter (.ref S)) Q E s:=by
 have hf:=wD (τ:=τ) iM
 have hT:s.TypeIs (.ref S) "set" :=⟨_,g,rfl⟩
 refine wpAny_pyIter_slot hT U0 (bc U0 hT F9 ?_ (PySem.F.args_set_iter_1 _))
 unfold Builtin.«frozenset.__iter__»
 refine Á (Ê ?_)
 unfold Builtin.Frozenset.sizeOf
 refine Á (Á (zP g rfl hf (Ê ?_)))
 unfold setDrawn
 refine Á (Á (lO g rfl hf ?_))
 unfold setsByText
 refine Á (Á (om (Ê (Ê ?_))))
 dsimp only
 refine Nc (λz=>ó ((ī _).symm.trans z)) ?_
 refine Á (Ê (Á (wpAny_setEpoch_of g rfl hf ?_)))
 have Xx:slotAt BR σ 0=0:=by unfold slotAt;cases BR<;>rfl
 refine Á (ŕ (Ê ⟨_,rfl,"set_iterator",_,⟨_,ë _ rfl,rfl⟩,eV.lookup,?_⟩))
 unfold Ha at hQ
 rw[Xx,←tI (τ:=τ)] at hQ
 exact hQ
end
section
variable {A:Around} {E:Value->Shared->Prop} {s:Shared} {S I:Addr} {ep i:Nat} {σ:List Nat} {τ:Nat->Tok}
set_option maxHeartbeats 0 in
theorem vc {Q:List Value->Shared->Prop}(hh:A.handled=none)(X:K0.In s.heap)(iM:σ∈c7)(g:s.heap.get? S=some (sC σ τ ep ku))
 (hQ:∀h' tk acc,(∀b o,s.heap.get? b=some o->h'.get? b=some o)->ItemsOf (λi v=>∃e,(fQ S ep σ τ)[i]? =some e∧v=e.2) acc σ.length->Q acc.toList {s with heap:=h',toks:=tk}):
 wpAny M0 A (collect (.ref S)) Q E s:=by
 have hp:∀{h:Heap} {o},∀b ob,h.get? b=some ob->(h.push o).get? b=some ob:=λ_ _=>Ø _
 have lS:=ā g
 have gD:(s.heap.push (ē [] 0)).get? s.heap.objs.size=some (ē [] 0):=ë _ rfl
 have g1:=hp (o:=ē [] 0) _ _ g
 have nS':(s.heap.objs.size==S)=false:=Ù.mpr (dD lS)
 refine B9 0 (.builtin "proto.collect" ⟨[.ref S],[]⟩) X (by kernel_rfl) (bW PySem.F.entry_proto_collect ?_)
 rw[aC PySem.F.plain_proto_collect _]
 refine Hk 0 (ē [] 0) X (by kernel_rfl) (oI 0 (.again (.builtin "list.__iadd__" ⟨[.ref s.heap.objs.size,.ref S],[]⟩)) (X.keeps hp) (by kernel_rfl) ⟨mc Qt _,bW PySem.F.entry_list_iadd ?_⟩)
 rw[aC Qt _]
 show wpAny _ A.in1 (Builtin.List.listExtendWith (.ref s.heap.objs.size) (.ref S) (.ref s.heap.objs.size)) _ _ _
 unfold Builtin.List.listExtendWith
 refine Á (wpAny_typeOf (T:="set") ⟨_,g1,rfl⟩ ?_)
 rw[Ñ (by show¬((s.heap.objs.size==S)||_||_)=true;rw[nS'];decide)]
 refine Á (FG iM g1 ?_)
 have X2:K0.In ((s.heap.push (ē [] 0)).push (Ha σ S ep 0)):=(X.keeps hp).keeps hp
 have g2:=hp (o:=Ha σ S ep 0) _ _ g1
 have d2:=hp (o:=Ha σ S ep 0) _ _ gD
 refine fy 0 X2 g2 (by kernel_rfl) (fy 0 X2 g2 (by kernel_rfl) (fy 0 X2 g2 (by kernel_rfl) (fy 0 X2 d2 (by kernel_rfl) (Se 0 (Obj.mapSeq (·.push .none)) X2 d2 (by kernel_rfl) ?_))))
 have d3:=ă (Obj.mapSeq (·.push Value.none)) d2 rfl
 have o3:∀{f:Obj->Obj} {h:Heap},∀b o,b≠s.heap.objs.size->h.get? b=some o->(h.update s.heap.objs.size f).get? b=some o:=λb o hb e=>(ġ _ _ (bI hb)).trans e
 have X3:=λ{f} b o e=>o3 (f:=f) b o (î (ā (X b o e))) (X2 b o e)
 refine fy 0 X3 d3 (by kernel_rfl) (fy 0 X3 d3 (by kernel_rfl) (Se 0 (Obj.mapSeq (·.pop)) X3 d3 (by kernel_rfl) ?_))
 have d4:=ă (Obj.mapSeq (·.pop)) d3 rfl
 have sl:s.heap.objs.size<(s.heap.push (ē [] 0)).objs.size:=by rw[cG];exact é _
 have sS:=Ą lS sl
 have hSf:s.heap.objs.size∉[(s.heap.push (ē [] 0)).objs.size,S]:=λh=>(Û.mp h).elim (î sl) λh=>dD lS (Ô.mp h)
 have hn:σ.length<=sizeLine:=À (kL iM ku).2.1 (by decide)
 have X4:=λ{f1 f2} b o e=>o3 (f:=f1) b o (î (ā (X b o e))) (X3 (f:=f2) b o e)
 refine fy 0 X4 d4 (by kernel_rfl) (oI 0 (.again (.builtin "list.extend.loop" ⟨[.ref s.heap.objs.size,.ref (s.heap.push (ē [] 0)).objs.size,.ref s.heap.objs.size],[]⟩)) X4 (by kernel_rfl) ⟨mc PySem.F.plain_extend_loop _,codeAny_extend_loopS (EG (A:=A.in1) hh (î sS) iM).toS hn _ hSf _ σ.length 0 _ _ _ rfl (ý _) ⟨o3 _ _ (dD sl) (o3 _ _ (dD sl) (ë _ rfl)),o3 _ _ (î lS) (o3 _ _ (î lS) g2)⟩ d4 (ItemsOf.nil _) λs' Co c' m hS' ha=> ?_⟩)
 obtain⟨h',g',d',tk',os'⟩:=s'
 obtain rfl:g'=s.gens:=m.gens
 obtain rfl:d'=s.drawn:=m.drawn
 obtain rfl:os'=s.os:=m.os
 have fin:∀b o,s.heap.get? b=some o->h'.get? b=some o:=λb o e=>have lb:=ā e
  m.heap b o (λz=>(Û.mp z).elim (î lb) λz=>î (Ą lb sl) (Ô.mp z)) (o3 _ _ (î lb) (o3 _ _ (î lb) (hp _ _ (hp _ _ e))))
 exact fy 0 (X.keeps fin) hS' (by kernel_rfl) (oI 0 Co.toList (X.keeps fin) (by kernel_rfl) (hQ h' tk' Co fin ha))
theorem Ex:(c7.all λσ=>decide ((σ.map λn:Nat=>(n:Int)).Pairwise (·<=·)))=true:=by decide+kernel
theorem zB:∀{ν:List Nat},IntsAre ((ji ν τ).map (·.2)) (ν.map λn:Nat=>(n:Int))
 |[]=> .nil
 |_::_=> .cons _ _ zB
theorem HL:∃ν:List Nat,ν.Perm σ∧fQ S ep σ τ=ji ν τ:=by
 have p:=px (S:=S) (ep:=ep) (σ:=σ) (τ:=τ)
 refine⟨(fQ S ep σ τ).map (·.1.toNat),?_,?_⟩
 ·have h:=p.map (·.1.toNat)
  rwa [õ,show ((λx:Int×Value=>x.1.toNat)∘λ(k:Nat)=>((k:Int),Value.int (k:Int) (τ k)))=id from rfl,WG] at h
 ·show _=((fQ S ep σ τ).map (·.1.toNat)).map _
  rw[õ]
  refine ((WG _).symm.trans (az λe he=> ?_))
  obtain⟨k,_,rfl⟩:=Þ.mp (p.mem_iff.mp he)
  rfl
theorem wX {Q:Value->Shared->Prop}(hh:A.handled=none)(X:K0.In s.heap)(iM:σ∈c7)(g:s.heap.get? S=some (sC σ τ ep ku))
 (hQ:∀h' tk L xs e,(∀b o,s.heap.get? b=some o->h'.get? b=some o)->s.heap.get? L=none->h'.get? L=some (ē xs e)->IntsAre xs (σ.map λn:Nat=>(n:Int))->Q (.ref L) {s with heap:=h',toks:=tk}):
 wpAny M0 A (call (.builtin "sorted") [.ref S]) Q E s:=by
 refine Calls.call_function_entry kind_sorted plain_sorted entry_sorted (args_sorted1 _) ?_
 unfold Builtin.«sorted»
 refine Á (m:=checkCount "sorted" 1 1 _) (Ê ?_)
 refine Á (vc hh X iM g λau tk acc k₁ ha=> ?_)
 obtain⟨ν,pν,ew⟩:=HL (S:=S) (ep:=ep) (σ:=σ) (τ:=τ)
 rw[ew] at ha
 have ln:(ji ν τ).length=σ.length:=(Â _).trans pν.length_eq
 have BX:acc.toList=(ji ν τ).map (·.2):=Äk λi=>by
  rw[Ü,Vd]
  cases hx:acc[i]? with
  |none=>rw[mf (ln.symm▸ha.1▸Array.getElem?_eq_none_iff.mp hx)];rfl
  |some v=>
   obtain⟨e,h1,rfl⟩:=ha.2 i v hx
   rw[h1];rfl
 have hI:IntsAre acc.toList (ν.map λn:Nat=>(n:Int)):=BX▸zB
 have h64:acc.toList.length<64:=by rw[Àx,ha.1];exact Í (kL iM ku).2.1 (by decide)
 refine Á (wpAny_newList ?_)
 have oL:(au.push (ē acc.toList 0)).get? au.objs.size=some (ē acc.toList 0):=ë _ rfl
 refine Á (ä (bc slot_list_sort ⟨_,oL,rfl⟩ entry_list_sort (list_sort_tree oL hI h64 λout ns' a1 a2 a3=>⟨_,rfl,?_⟩) (args_list_sort _)))
 obtain⟨e,he⟩:=sortedHeap_at (out:=out) oL
 have sF:ns'=σ.map λn:Nat=>(n:Int):=List.Perm.eq_of_pairwise (le:=λa b:Int=>a<=b) (λa b _ _ h1 h2=>Int.le_antisymm h1 h2) a3 (Ā (aa Ex iM)) (a2.trans (pν.map _))
 refine Ê ⟨_,rfl,hQ _ _ _ out.toList e (λb o hb=> ?_) ?_ he (sF▸a1)⟩
 ·have hb1:=k₁ b o hb
  have jD:=ā hb1
  exact (sortedHeap_old (î jD) (by rw[cG];exact bJ jD)).trans (Ø _ hb1)
 ·cases z:s.heap.get? au.objs.size with
  |none=>rfl
  |some o=>exact absurd (ā (k₁ _ o z)) (aq _)
end
theorem Nk (P:Params):(["tuple","sorted","set"].all λx=>(nsIn (KF P) mainGlobals (Str.ofString x)==some none)&& !(Str.ofString x==("__name__" :Str)))=true:=by kernel_rfl
theorem EC:(c7.all λσ=>[0,1,2,3].all λv=>((gH σ v).map λn:Nat=>(n:Int))==insI (v:Int) (σ.map λn:Nat=>(n:Int)))=true:=by decide+kernel
theorem uB:∀{l σ:List Nat},σ∈c7->(∀v∈l,v<4)->l.foldl gH σ∈c7∧(l.foldl gH σ).map (λn:Nat=>(n:Int))=(l.map λn:Nat=>(n:Int)).foldl (λa x=>insI x a) (σ.map λn:Nat=>(n:Int))
 |[],_,h,_=>⟨h,rfl⟩
 |v::l,σ,h,hl=>by
  have hv:=hl v (.head _)
  rw[ß,ah,ah,←eq_of_beq (aa (aa EC h) (Hr hv))]
  exact uB (tT h hv) λu hu=>hl u (.tail _ hu)
theorem Nh {xs:List Int}(h:∀x∈xs,0<=x∧x<4):∃ns:List Nat,xs=ns.map (λn:Nat=>(n:Int))∧∀v∈ns,v<4:=by
 induction xs with
 |nil=>exact⟨[],rfl,nofun⟩
 |cons x xs ih=>
  obtain⟨ns,e,k⟩:=ih λy m=>h y (.tail _ m)
  obtain⟨a,b⟩:=h x (.head _)
  obtain⟨n,rfl⟩:=aF a
  exact⟨n::ns,by rw[e];rfl,λv m=>(Û.mp m).elim (λz=>z▸ï.mp b) (k v)⟩
section
variable {Φ:Ď} {n:Nat} {c:Fm} {ρ:Loc} {T:Sx} {E:Ĩ} {Q:QT} {a:PE} {x y:Expr} {X:Gh} {p1 p2 p3 q1 q2 q3 pos:Pos} {xs:List Value} {Er:Value->Shared->Prop}
theorem zp {zs:List Value}{is:List Int}(h:IntsAre zs is):Į X (is.map .int) zs:=by
 induction h with
 |nil=>exact .nil
 |cons k t _ ih=>exact .cons (.int k t) ih
theorem Tks.get_int {ss:List Nat}(h:Tks ML (ss.map λn:Nat=>(n:Int)) xs):xs.length=ss.length∧∀{i n:Nat} {u},ss[i]? =some n->xs[i]? =some u->∃t,u= .int (n:Int) t:=by
 induction ss generalizing xs with
 |nil=>cases h;exact⟨rfl,nofun⟩
 |cons s ss ih=>
  cases h with
  |cons h=>
   obtain⟨a,b⟩:=ih h
   refine⟨È (·+1) a,λ{i _ _} e1 e2=> ?_⟩
   cases i with
   |zero=>exact⟨_,(Ä e2).symm.trans (È (λn:Nat=>Value.int (n:Int) _) (Ä e1))⟩
   |succ i=>exact b e1 e2
theorem yx {t:Sem Value}(h:ĥ c ρ T t VV E Q):ĥ c ρ T (spliced [(false,t)]) (VN 1) E λvs H=>∃v,vs=[v]∧Q v H:=
 h.bind (f:=λv=>pure [v] >>= λhere=>holding here (spliced []) >>= λvs=>pure (here++vs)) λT₁ v b _ hv q R=>Á (Ê (Á (ä (Ê (ĥ.pure (v:=[v]) ⟨.cons hv .nil,rfl⟩ ⟨v,rfl,q⟩ R)))))
theorem lc {β:Type}{K:Value->Sem β}{Qr:β->Shared->Prop}{val:Value}{w:String}(R:Ħ c ρ T)(hk:ū c.env.scope (Str.ofString w)=true)(hm:w∈["tuple","sorted","set"])(hb:bootBuiltins (Str.ofString w)=some val)(h:wpAny M0 c.A (K val) Qr Er T.s):wpAny M0 c.A (eval (.Name (Str.ofString w) pos) c.env >>= K) Qr Er T.s:=by
 have tb:=É.mp (Nk cx.w.params) w hm
 exact Á (ź R.k.kind (dP hk).1 (Q7 (by rw[R.k.glob];exact R.topK.g) (mg_none_of R.g.kin R.g.top.g (eq_of_beq (aL tb))) (by rw[R.k.bl];exact R.topK.b) (by rw[R.g.top.builtins _ (λz=>Bool.noConfusion ((aR tb).symm.trans (È not (è.mpr z))))];exact hb) h) (dP hk).2)
theorem Ej {v:V}{H:AH}(h:vI v H Q):∃l xs,seeL v H= .lst l∧gR l=some xs∧(∀x∈xs,0<=x∧x<4)∧Q (.tup ((Ē xs).map .int)) H:=by
 unfold vI at h
 obtain⟨l,e,h⟩:=io h
 cases q:gR l with
 |none=>rw[q] at h;exact h.elim
 |some xs=>rw[q] at h;exact⟨l,xs,e,q,h.2.1,h.2.2⟩
theorem H0 {v:V}{z:Value}{K:Value->Sem Value}(C:lH c n)(R:Ħ c ρ T)(hv:VR T.X v z)(q:vI v T.H Q):
 wpAny M0 c.A (call (.type "set") [z]) (λb s'=>K0.In s'.heap∧wpAny M0 c.A (call (.builtin "sorted") [b]) (ŝ c ρ T VV λv H'=>∃xs:List Int,v= .lst (xs.map .int)∧Q (.tup (xs.map .int)) H') Er s') Er T.s:=by
 obtain⟨l,xs,e1,e2,e3,q⟩:=Ej q
 obtain⟨ns,rfl,sF⟩:=Nh e3
 refine R.seeL hv e1 λp ys m f r _=> ?_
 obtain⟨h1,h2⟩:=(uy r _ e2).get_int
 refine EI C.hh R.kin f (λa b=>h2 a (Ė.symm.trans b)) h1 sF λh' tk τ ep k g=> ?_
 have X':=R.kin.keeps k
 obtain⟨SA,SG⟩:=uB (l:=ns) (.head _) sF
 refine⟨X',wX C.hh X' SA g λh'' X7 L zs e k'' fL eL hI=> ?_⟩
 have hn:T.h.get? L=none:=by
  cases z:T.h.get? L with
  |none=>rfl
  |some o=>exact nS (fL.symm.trans (k _ _ z))
 have hb:(Ē (ns.map λn:Nat=>(n:Int))).length<=4:=by
  have:=(kL SA false).2.1
  rw[←Â (f:=λn:Nat=>(n:Int)),SG] at this
  exact this
 rw[SG] at hI
 exact jS (tk:=X7) R (KL.of λa o z=>k'' a o (k a o z)) eL hn (by rw[Â];exact À hb (by decide)) (zp hI) ⟨_,rfl,q⟩
theorem pN {f:Expr}{l:List Expr}:kz (.Call f l [] pos):=⟨λ_ _=>rfl,λ_ _=>rfl,λ_ _=>⟨_,rfl⟩,λ_ _=>rfl⟩
theorem CT:tN Φ n:=λ{c a y p1 p2 p3 q1 q2 q3} C k1 k2 k3 hy ha {T ρ E Q} q=>by
 have inner:ĥ c ρ T (eval (.Call (.Name (Str.ofString "sorted") p2) [.Call (.Name (Str.ofString "set") p3) [y] [] q3] [] q2) c.env) VV E (λv H'=>∃xs:List Int,v= .lst (xs.map .int)∧Q (.tup (xs.map .int)) H'):=λR=>by
  rw[Ÿ]
  refine lc R k2 (.tail _ (.head _)) (val:= .builtin "sorted") (by kernel_rfl) ?_
  rw[cB λx hx=>Ô.mp hx▸pN]
  refine i4 (P:=K0.In) rfl (Ļ _) (ac rfl ?_)
  refine Á ?_
  rw[Ÿ]
  refine lc R k3 (.tail _ (.tail _ (.head _))) (val:= .type "set") (by kernel_rfl) ?_
  rw[cB λx hx=>Ô.mp hx▸hy]
  refine i4 (P:=K0.In) rfl (ax _) (ac rfl (ê (yx (ha q) R) (λbs Ę k=>k.casesOn λ{X' H' vs} n₁ hv q=>⟨n₁.r.kin,?_⟩) λ_ _ e=>e))
  obtain⟨v,rfl,q⟩:=q
  obtain⟨hv,_⟩:=hv
  cases hv with
  |cons hv hn=>cases hn with
   |nil=>exact ê (H0 (K:= .pure) (T:=⟨X',H',Ę⟩) C n₁.r hv q) (λb s' k=>by
    refine Á (Ê (Á (ä (Ê (Ê ?_)))))
    exact⟨k.1,ê k.2 (λ_ _=>ŝ.back n₁.s) λ_ _=>dJ.back n₁.s⟩) λ_ _=>dJ.back n₁.s
 exact .eq (Ÿ ..) λR=>lc R k1 (.head _) (val:= .type "tuple") (by kernel_rfl) (bU (ax _) (λx hx=>Ô.mp hx▸pN) (yx inner) (λT₁ vs bs _ hv q=>by obtain⟨v,rfl,xs,rfl,q⟩:=q;exact uV (f:=8) C.toFmOK hv q) R)
end
theorem II (n:Nat):di (ú n) n:=NZ (λ_ _=>⟨CT,ub,CU⟩) n
noncomputable abbrev Äa (xs:List Int):Loc:=[some (.lst (xs.map .int))].append (List.replicate 20 none)
noncomputable def dj (h:Heap)(a:Addr):Ro:=match h.get? a with|some o=> .still o|none=> .free
theorem Ey {h:Heap}{a:Addr}{o:Obj}(e:dj h a= .still o):h.get? a=some o:=by
 unfold dj at e
 cases q:h.get? a with
 |some o'=>rw[q] at e;injection e with e;rw[e]
 |none=>rw[q] at e;exact nomatch e
theorem tW {h:Heap}{a:Addr}{r:Ro}(e:dj h a=r)(n:∀o,r≠ .still o)(n':r≠ .free):False:=by
 unfold dj at e
 cases q:h.get? a with
 |some o'=>rw[q] at e;exact n _ e.symm
 |none=>rw[q] at e;exact n' e.symm
theorem mY {h:Heap}{a:Addr}{o:Obj}(e:h.get? a=some o):dj h a= .still o:=by unfold dj;rw[e]
theorem Ud (d:FD)(hd:c8 65=some d)(np:d.np=1)(ad:d.addr=682)(G:qD cx)(q:∀xs:List Int,ì (ú 17) d.body ([some (V.lst (xs.map .int))]++List.replicate (d.slots.length-d.np) none) (λ_ _=>False) [] (λfl _ _=>match fl with| .ret v=>v= .bool true|_=>False)):fK cx:=by
 intro s p ys xs hs ho hg hp hI hl
 have W:Wd ⟨⟨[],dj s.heap⟩,[],s⟩:=⟨G,ho,hg,λe=>mY (hs▸e),Ey,rfl,λh _=>nS h,λe=>(tW e (λ_ z=>nomatch z) λz=>nomatch z).elim,λe=>(tW e (λ_ z=>nomatch z) λz=>nomatch z).elim⟩
 obtain⟨o,fd,K,hB⟩:=Lx hd (II 17) ⟨CT,ub,CU⟩
 have hb:=iE (xs:=[.ref p]) W K np.symm
 have hv:VR (⟨[],dj s.heap⟩:Gh) (.lst (xs.map .int)) (.ref p):= .lst (by rw[Â];exact À hl (by decide)) (mY hp) (zp hI)
 have e:VK ⟨⟨[],dj s.heap⟩,[],s⟩ callerA []:=⟨W,trivial,nofun,ð (È (·.objs.size) hs.symm),rfl,by decide,by decide⟩
 have hm:∀{i:Nat} {v:V},([V.lst (xs.map .int)].map some)[i]? =some (some v)->∃y,[Value.ref p][i]? =some y∧VR (⟨[],dj s.heap⟩:Gh) v y:=map_some (.cons hv .nil)
 rw[←ad]
 refine gv (hV e K hb hm np.symm (ð np) λ{env Ę} D=> ?_)
 refine ê (hB (c:=bu callerA [] env (iQ d)) D.sc rfl ⟨⟨rfl⟩,Ó rfl,Ó rfl⟩ D.f D.w (T:=⟨Gh.own ⟨[],dj s.heap⟩ (ownOf env.locals env.cells) env.locals,[],Ę⟩) (q xs) D.r) (λfl s' k=>k.casesOn λ{X' H' Ĥ f} n hf q=> ?_) λ_ _ k=>k.casesOn λx=>x.casesOn λ_ _ z=>z.elim
 cases f with
 |ret v=>
  obtain rfl:v= .bool true:=q
  exact hf.on λx h=>h.on ⟨rfl,λa o e=>n.r.still (n.s.le.f ((D.O.le W).f (mY e))),n.r.os.trans ho.symm,n.r.gens⟩
 |_=>exact q.elim
end
section
open PySem PySem.W PyProof.Rows
set_option backward.match.sparseCases false
noncomputable abbrev small:Nat:=200000
theorem aU {n:Nat}(h:n<=small):n<=ę:=À h (by decide)
section
variable {H:AH} {Q:QT} {ρ:Loc} {E:Ĩ} {n i:Nat} {Φ:Ď}
theorem Ń {f c:Nat}{fs:List (Nat×V)}{v:V}(h:H[i]? =some (some (.inst c fs)))(e:Mj c f fs=some v)(q:Q v H):Q2 f i H Q:=by
 unfold Q2
 rw[h];dsimp only;rw[e];exact q
theorem mo {m c f:Nat}{fs:List (Nat×V)}{W:Mk}{K:MT->qj}(h:H[i]? =some (some (.inst c fs)))(e:ż c m=some f)(q:W H (K (.fn f))):mO W K m i H:=by
 unfold mO
 rw[h];show (match (ż c m).map MT.fn with|some t=>W H (K t)|none=>False)
 rw[e];exact q
theorem Ae {c f:Nat}{fs GR:List (Nat×V)}{v:V}{Q:AH->Prop}(h:H[i]? =some (some (.inst c fs)))(e:cond (vD c f) (Nat.ble fs.length 20) false=true)(e2:mj f v fs=GR)(q:Q (H.set i (some (.inst c GR)))):eP (.obj i) f v H Q:=by
 subst e2
 unfold eP
 cases hh:vD c f with
 |false=>rw[hh] at e;cases e
 |true=>rw[hh] at e;dsimp only;rw[h];exact⟨hh,Ó e,q⟩
theorem bC {A B:AH->Prop}{r:Bool}(a:r=true->A H)(b:r=false->B H):eI A B r H:=by
 cases r with
 |true=>exact a rfl
 |false=>exact b rfl
theorem if2 {A B:AH->Prop}{A' B':Prop}{r:Bool}(q:if r then A' else B')(a:A'->r=true->A H)(b:B'->r=false->B H):eI A B r H:=by
 cases r with
 |true=>exact a q rfl
 |false=>exact b q rfl
theorem ift {A B:AH->Prop}{r:Bool}(e:r=true)(a:A H):eI A B r H:=by rw[e];exact a
theorem ar {A B:AH->Prop}{r:Bool}(e:r=false)(a:B H):eI A B r H:=by rw[e];exact a
theorem bo {o:Option Bool}{b:Bool}{Q:qk}(e:o=some b)(q:Q b H):bF o H Q:=by rw[e];exact q
theorem call {f:Nat}{as:List V}(e:QC f as=true)(q:ì (ú n) (mT f) (L6 f as) E H (am Q)):Call (ú (n+1)) E f Q as H:=by
 unfold Call
 rw[nG];exact⟨e,q⟩
theorem ň {x y z:Int}(e:x+y=z)(q:Q (.int z) H):vX x y H Q:=by
 subst e
 unfold vX;exact q
theorem li {x y z:Int}(e:x-y=z)(q:Q (.int z) H):vJ x y H Q:=by
 subst e
 unfold vJ;exact q
theorem dR {x:Option O}(h:H[i]? =some x)(y:Option O):(H.set i y)[i]? =some y:=by
 rw[jA,Î rfl,Î (Õ.mp h).1]
theorem jX {x:Option O}(h:H[i]? =some x):H.set i x=H:=by
 apply Äk
 intro j
 rw[jA]
 by_cases q:i=j
 ·subst q;rw[Î rfl,Î (Õ.mp h).1,h]
 ·rw[Ñ q]
end
noncomputable def pn (t r:List Nat):Nat:=t.length-r.length
noncomputable def ps (t r:List Nat):Int:=((pn t r:Nat):Int)
noncomputable abbrev cu (t r:List Nat):O:= .inst 3 [(5,.str t),(4,.int (ps t r))]
section
variable {H:AH} {Q:QT} {ρ:Loc} {E:Ĩ} {n i c d:Nat} {t r:List Nat}
theorem gU (h:r <:+ t):t.drop (pn t r)=r:=by
 obtain⟨p,rfl⟩:=h
 simp[pn]
theorem a9 (h:r <:+ t):r.length<=t.length:=h.length_le
theorem eU (h:c::r <:+ t):r <:+ t:=(Ă c r).trans h
theorem ĩ (h:r <:+ t)(k:Nat):r.drop k <:+ t:=(eG k r).trans h
theorem qE (h:r <:+ t)(p:Nat->Bool):r.dropWhile p <:+ t:=(List.dropWhile_suffix p).trans h
theorem HV (h:c::r <:+ t):t[pn t (c::r)]? =some c:=by
 have:=gU h
 rw[←List.head?_drop,this];rfl
theorem ŏ:pn t r<=t.length:=Ō ..
theorem rj (h:c::r <:+ t):pn t (c::r)+1=pn t r:=by
 have:=a9 h
 unfold pn
 simp at this⊢;omega
theorem TM (h:c::r <:+ t):pn t (c::r)<t.length:=(a9 h:r.length+1<=t.length) |> λq=>Nat.sub_lt (æ (gz _) q) (gz _)
theorem lV (h:c::r <:+ t):ps t (c::r)+1=ps t r:=È Int.ofNat (rj h)
theorem NU (h:c::d::r <:+ t):ps t (c::d::r)+2=ps t r:=È Int.ofNat ((È (·+1) (rj h)).trans (rj (eU h)))
theorem Cu (h:c::r <:+ t):ps t (c::r)<(t.length:Int):=ï.mpr (TM h)
theorem Àp:ps t []=(t.length:Int):=rfl
theorem not_lt {x y:Int}(h:y<=x):decide (x<y)=false:=be (Ť.mpr h)
theorem Lo {A B:AH->Prop}(h:c::r <:+ t)(q:A H):eI A B (decide (ps t (c::r)<(t.length:Int))) H:=ift (bV (Cu h)) q
theorem DM {A B:AH->Prop}(q:B H):eI A B (decide (ps t []<(t.length:Int))) H:=ar (not_lt (aW _)) q
theorem iz {k n:Nat}(h:k<n):cS (k:Int) n=some k:=by
 show (if _ then some (Int.toNat _) else none)=_
 rw[Ñ (Ť.mpr (ł k)),Î ⟨ł k,ï.mpr h⟩,ō]
theorem Lp {l:List Nat}{k c:Nat}(h:l[k]? =some c)(q:Q (.str [c]) H):G9 l (k:Int) H Q:=by
 unfold G9
 rw[iz (Õ.mp h).1]
 show sq l[k]? _
 rw[h];exact q
theorem wx (h:c::r <:+ t)(q:Q (.str [c]) H):G9 t (ps t (c::r)) H Q:=Lp (HV h) q
theorem Iy (h:r <:+ t):decide ((t.length:Int)<=ps t r)=r.isEmpty:=by
 cases r with
 |nil=>exact bV (aW _)
 |cons c r=>exact be (GX.mpr (Cu h))
theorem yd {x:Int}{r':List Nat}{Q:AH->Prop}(h:H[i]? =some (some (cu t r)))(e:x=ps t r')(q:Q (H.set i (some (cu t r')))):eP (.obj i) 4 (.int x) H Q:=by
 subst e
 exact Ae h rfl rfl q
theorem wu (hr:r <:+ t)(h:H[i]? =some (some (cu t r)))(q:Q (.bool r.isEmpty) H):Call (ú (n+1)) E 4 Q [.obj i] H:=by
 refine call rfl ?_
 refine Ń h rfl ?_
 refine Ń h rfl ?_
 rw[←Iy hr] at q
 exact q
theorem wr (hr:r <:+ t)(h:H[i]? =some (some (cu t r)))(q:Q (.str (r.take 1)) H):Call (ú (n+1)) E 5 Q [.obj i] H:=by
 refine call rfl (Ń h rfl (ň (Int.add_zero _) (Ń h rfl ?_)))
 cases r with
 |nil=>exact DM q
 |cons c r=>exact Lo hr (Ń h rfl (wx hr q))
theorem DB (hr:c::r <:+ t)(h:H[i]? =some (some (cu t (c::r))))(q:Q (.str [c]) (H.set i (some (cu t r)))):Call (ú (n+2)) E 7 Q [.obj i] H:=by
 refine call rfl ?_
 refine mo h rfl ?_
 refine wu hr h ?_
 refine Ń h rfl ?_
 refine Ń h rfl ?_
 refine wx hr ?_
 refine Ń h rfl ?_
 refine ň (lV hr) ?_
 refine yd h rfl ?_
 exact q
end
structure LK (J:Loc->AH->Prop)(Q K:ST):Prop where
 n:∀{ρ:Loc} {H:AH},J ρ H->K .next ρ H
 c:∀{ρ:Loc} {H:AH},J ρ H->K .cont ρ H
 b:∀{ρ:Loc} {H:AH},Q .next ρ H->K .brk ρ H
 r:∀{v:V} {ρ:Loc} {H:AH},Q (.ret v) ρ H->K (.ret v) ρ H
abbrev W5 (I:Nat->Loc->AH->Prop)(m:Nat):Loc->AH->Prop:=λρ H=>∃m',m'<m∧I m' ρ H
section
variable {n i c d:Nat} {H:AH} {E:Ĩ} {ρ:Loc} {Q:QT} {t r:List Nat}
theorem bQ {tt:Loc->Ĩ->WT}{b:Loc->Ĩ->WS}{Q:ST}(I:Nat->Loc->AH->Prop){m:Nat}(h:I m ρ H)(step:∀m ρ H,I m ρ H->∀K,LK (W5 I m) Q K->tt ρ E H (eI (L8 (b ρ E) K) (G7 ρ Q))):mH tt b E Q ρ H:=by
 have key:∀M m ρ H,m<M->I m ρ H->tm tt b E Q M ρ H:=by
  intro M
  induction M with
  |zero=>exact λm ρ H hm=>absurd hm (bf m)
  |succ M ih=>exact λm ρ H hm h=>step m ρ H h _ ⟨λh=>h.elim λm' h=>ih m' _ _ (æ h.1 (ak hm)) h.2,λh=>h.elim λm' h=>ih m' _ _ (æ h.1 (ak hm)) h.2,id,id⟩
 unfold mH
 exact⟨m+1,key _ m ρ H (é m) h⟩
theorem vg {A B:AH->Prop}{x y:Bool}(e:x=y)(q:eI A B y H):eI A B x H:=by rw[e];exact q
theorem dB {k n:Nat}:bP (k:Int) n=min k n:=by
 unfold bP
 rw[Ñ (Ť.mpr (ł k)),ō]
theorem rQ {α:Type}(l:List α)(a b:Nat):(l.take (min b l.length)).drop (min a l.length)=(l.take b).drop a:=by
 rw[←md]
 rcases Nat.le_total a l.length with h|h
 ·rw[ag h]
 ·rw[ÄU h,Ŭ (À (fv _ _) (Å _)),Ŭ (À (fv _ _) h)]
theorem Ã8 {k:Nat}(h:k<=ę):((k:Int)).natAbs<=ę:=h
theorem wa {l:List Nat}{a b:Nat}(h1:a<=ę)(h2:b<=ę)(q:Q (.str ((l.take b).drop a)) H):d6 (.str l) (some (a:Int)) (some (b:Int)) H Q:=by
 unfold d6
 refine⟨λi h=>Ä h▸h1,λi h=>Ä h▸h2,?_⟩
 show Q (.str ((l.take (bP b _)).drop (bP a _))) H
 rw[dB,dB,rQ];exact q
theorem K2 {l:List Nat}{a:Nat}(h1:a<=ę)(q:Q (.str (l.drop a)) H):d6 (.str l) (some (a:Int)) none H Q:=by
 unfold d6
 refine⟨λi h=>Ä h▸h1,nofun,?_⟩
 show Q (.str ((l.take l.length).drop (bP a _))) H
 have:=rQ l a l.length
 rw[vp] at this
 rw[dB,this,eC];exact q
theorem K1 {l:List Nat}{b:Nat}(h2:b<=ę)(q:Q (.str (l.take b)) H):d6 (.str l) none (some (b:Int)) H Q:=by
 unfold d6
 refine⟨nofun,λi h=>Ä h▸h2,?_⟩
 show Q (.str ((l.take (bP b _)).drop 0)) H
 rw[dB,←md];exact q
theorem xI {a b:Nat}(h1:a<=small)(h2:b<=small):a+b<=ę:=À (Ë h1 h2) (by decide)
theorem mJ (hl:t.length<=small):pn t r<=ę:=aU (À ŏ hl)
theorem rb (hl:t.length<=small){w:List Nat}(hw:w.length<=small)(q:Q (.str ((t.take (pn t r+w.length)).drop (pn t r))) H):d6 (.str t) (some (ps t r)) (some (ps t r+(w.length:Int))) H Q:=
 wa (a:=pn t r) (b:=pn t r+w.length) (mJ hl) (xI (À ŏ hl) hw) q
theorem wg (hr:r <:+ t)(w:List Nat):((t.take (pn t r+w.length)).drop (pn t r)==w)=w.isPrefixOf r:=by
 rw[cQ,è,Ż,Qw,oq,aE,gU hr]
 exact⟨Eq.symm,Eq.symm⟩
theorem wh (hr:r <:+ t){r':List Nat}(h:r' <:+ r):pn t r'=pn t r+(r.length-r'.length):=by
 obtain⟨p,rfl⟩:=hr
 obtain⟨p',rfl⟩:=h
 simp only[pn,Ã]
 rw[Ź p.length,Ź p'.length,←þ,Ź]
theorem rh (hr:r <:+ t){k:Nat}(hk:k<=r.length):ps t r+(k:Int)=ps t (r.drop k):=by
 refine È Int.ofNat ((wh hr (eG k r)).trans ?_).symm
 rw[ã,eA hk]
theorem JN (hr:r <:+ t){r':List Nat}(h:r' <:+ r):(t.take (pn t r')).drop (pn t r)=r.take (r.length-r'.length):=by
 rw[oq,gU hr,wh hr h,aE]
theorem yy (hl:t.length<=small)(hr:r <:+ t){r':List Nat}(h:r' <:+ r)(q:Q (.str (r.take (r.length-r'.length))) H):d6 (.str t) (some (ps t r)) (some (ps t r')) H Q:=by
 rw[←JN hr h] at q
 exact wa (a:=pn t r) (b:=pn t r') (mJ hl) (mJ hl) q
theorem HO (p:Nat->Bool)(r:List Nat):r.take (r.length-(r.dropWhile p).length)=r.takeWhile p:=by
 have e:=List.takeWhile_append_dropWhile (p:=p) (l:=r)
 generalize r.takeWhile p=a at*
 generalize r.dropWhile p=b at*
 subst e
 rw[Ã,Ź,oo]
theorem nr (hl:t.length<=small)(hr:r <:+ t)(h:H[i]? =some (some (cu t r))){w:List Nat}(hw:w.length<=small)(q:Q (.bool (w.isPrefixOf r)) H):Call (ú (n+1)) E 6 Q [.obj i,.str w] H:=by
 refine call rfl ?_
 refine Ń h rfl ?_
 refine Ń h rfl ?_
 refine Ń h rfl ?_
 refine ň rfl (rb hl hw ?_)
 rw[←wg hr w] at q
 exact q
theorem qO (hl:t.length<=small)(hr:r <:+ t)(h:H[i]? =some (some (cu t r))){w:List Nat}(hw:w.length<=small)(q1:w.isPrefixOf r=true->Q (.bool true) (H.set i (some (cu t (r.drop w.length)))))(q2:w.isPrefixOf r=false->Q (.bool false) H):Call (ú (n+2)) E 8 Q [.obj i,.str w] H:=by
 refine call rfl ?_
 refine mo h rfl ?_
 refine nr hl hr h hw ?_
 cases hp:w.isPrefixOf r with
 |true=>
  refine Ń h rfl ?_
  refine ň (rh hr (Ż.mp hp).length_le) (yd h rfl ?_)
  exact q1 hp
 |false=>exact q2 hp
theorem o8 {s:List Nat}(hr:r <:+ t)(e:r=c::s):s <:+ t:=eU (e▸hr)
theorem gJ {s:List Nat}(e:r=c::s):s.length<r.length:=e▸é _
theorem sO {s:List Nat}(hr:r <:+ t)(e:r=c::s):ps t r+1=ps t s:=by subst e;exact lV hr
theorem jN {s:List Nat}(hr:r <:+ t)(e:r=c::s)(q:Q (.str [c]) H):G9 t (ps t r) H Q:=by subst e;exact wx hr q
theorem qR {A B:AH->Prop}(hr:r <:+ t)(b:r=[]->B H)(a:∀c s,r=c::s->A H):eI A B (decide (ps t r<(t.length:Int))) H:=by
 cases r with
 |nil=>exact DM (b rfl)
 |cons c s=>exact Lo hr (a c s rfl)
inductive RZ (t r w:List Nat)(i:Nat)(H:AH):Nat->Loc->AH->Prop
 |mk {r':List Nat}:r' <:+ r->r'.dropWhile (w.contains ·)=r.dropWhile (w.contains ·)->RZ t r w i H r'.length [some (.obj i),some (.str w),some (.int (ps t r))] (H.set i (some (cu t r')))
theorem RZ.base {w:List Nat}(h:H[i]? =some (some (cu t r))):RZ t r w i H r.length [some (.obj i),some (.str w),some (.int (ps t r))] H:=by
 have:=RZ.mk (t:=t) (i:=i) (H:=H) (w:=w) (đ r) rfl
 rw[jX h] at this;exact this
theorem Pf {p:Nat->Bool}(e:r=[]):r.dropWhile p=r:=e▸rfl
theorem SM {p:Nat->Bool}{s:List Nat}(e:r=c::s)(h:p c=true):r.dropWhile p=s.dropWhile p:=e▸List.dropWhile_cons_of_pos h
theorem SN {p:Nat->Bool}{s:List Nat}(e:r=c::s)(h:p c=false):r.dropWhile p=r:=e▸List.dropWhile_cons_of_neg (by rw[h];exact ó)
theorem MH (hl:t.length<=small)(hr:r <:+ t)(h:H[i]? =some (some (cu t r))){w:List Nat}(q:Q (.str (r.takeWhile (w.contains ·))) (H.set i (some (cu t (r.dropWhile (w.contains ·)))))):Call (ú (n+1)) E 9 Q [.obj i,.str w] H:=by
 rw[←HO] at q
 refine call rfl ?_
 refine Ń h rfl ?_
 refine bQ (RZ t r w i H) (m:=r.length) (.base h) λm ρ H' I=> ?_
 induction I with| @mk r' hs e=> ?_
 intro K kk
 have hg:=dR h (some (cu t r'))
 refine Ń hg rfl (Ń hg rfl ?_)
 have fin:r'.dropWhile (w.contains ·)=r'->G7 [some (.obj i),some (.str w),some (.int (ps t r))] (iL (ì (ú n) [.ret (.slc (.attr (.var 0) 5) (some (.var 2)) (some (.attr (.var 0) 4)))]) E (am Q)) (H.set i (some (cu t r'))):=λe'=>Ń hg rfl (Ń hg rfl (yy hl hr hs (by rw[←e,e'] at q;exact q)))
 refine qR (hs.trans hr) (λe'=>fin (Pf e')) λc s e'=>Ń hg rfl (Ń hg rfl (jN (hs.trans hr) e' ?_))
 refine bC (λhc=> ?_) (λhc=>fin (SN e' hc))
 refine Ń hg rfl (ň (sO (hs.trans hr) e') (yd hg rfl (kk.n ⟨_,gJ e',?_⟩)))
 rw[Q9]
 exact .mk ((e'▸Ă c s:s <:+ r').trans hs) ((SM e' hc).symm.trans e)
end
end
local macro_rules
  | `(tactic| simp_arith!) => `(tactic| repeat first | refine Ń (by assumption) rfl ?_ | refine mo (by assumption) rfl ?_)
section
open PySem PySem.W PyProof.Rows
set_option backward.match.sparseCases false
noncomputable def aG (r:List Nat):List Nat:=r.dropWhile λc=>ij.contains c
noncomputable def ç (r:List Nat):List Nat×List Nat:=match r with
 |[]=>([],[])
 |c::_=>if !Mm.contains c||tj.contains c then ([],r) else (r.takeWhile λc=>Mm.contains c,r.dropWhile λc=>Mm.contains c)
theorem ŷ {t r:List Nat}(h:r <:+ t):(ç r).2 <:+ t:=by
 cases r with
 |nil=>exact h
 |cons c r=>
  unfold ç
  dsimp only
  split
  ·exact h
  ·exact qE h _
theorem iy (r:List Nat):(ç r).1.length<=r.length:=by
 cases r with
 |nil=>exact Å _
 |cons c r=>
  unfold ç
  dsimp only
  split
  ·exact ý _
  ·exact (Rm _).length_le
section
variable {n i c d:Nat} {H:AH} {E:Ĩ} {ρ:Loc} {Q:QT} {t r:List Nat}
theorem Ss (hl:t.length<=small)(hr:r <:+ t)(h:H[i]? =some (some (cu t r)))(q:Q .none (H.set i (some (cu t (aG r))))):Call (ú (n+2)) E 10 Q [.obj i] H:=by
 refine call rfl ?_
 simp_arith!
 exact MH hl hr h q
theorem wt (hl:t.length<=small)(hr:r <:+ t)(h:H[i]? =some (some (cu t r)))(q:Q (.str (ç r).1) (H.set i (some (cu t (ç r).2)))):Call (ú (n+2)) E 11 Q [.obj i] H:=by
 refine call rfl ?_
 simp_arith!
 refine wr hr h ?_
 cases r with
 |nil=>
  rw[show ç []=([],[]) from rfl,jX h] at q
  exact q
 |cons c r=>
  have bad:(!Mm.contains c||tj.contains c)=true->Q (.str []) H:=λe=>by
   rw[show ç (c::r)=([],c::r) from Î e,jX h] at q
   exact q
  refine bC (λhc=>bad (by rw[show (!Mm.contains c)=true from hc];rfl)) (λhc=> ?_)
  refine bC (λhf=>bad (by rw[show tj.contains c=true from hf,Bool.or_true])) (λhf=> ?_)
  rw[show ç (c::r)=_ from Ñ (by rw[show (!Mm.contains c)=false from hc,show tj.contains c=false from hf];exact ó)] at q
  simp_arith!
  exact MH hl hr h q
end
section
variable {n i:Nat} {H:AH} {E:Ĩ} {ρ:Loc}
theorem dN {α:Type}{o:Option α}{a:α}{K:α->Prop}(e:o=some a)(k:K a):sq o K:=by rw[e];exact k
theorem CD {k:Option (List Nat)}{ok:AH->Prop}{b:Loc->Ĩ->WS}{Q:ST}(I:List V->Loc->AH->Prop)(h0:∀ρ H,I [] ρ H->ok H∧Q .next ρ H)(step:∀x xs ρ H,I (x::xs) ρ H->ok H∧∃Ĥ,dd k i x ρ=some Ĥ∧∀K,LK (I xs) Q K->b Ĥ E H K):∀(xs:List V) (ρ:Loc) (H:AH),I xs ρ H->oP k i ok b E Q xs ρ H
 |[],ρ,H,h=>h0 ρ H h
 |x::xs,ρ,H,h=>(step x xs ρ H h).elim λh1 h2=>h2.elim λ_ h2=>cX h1 (dN h2.1 (h2.2 _ ⟨CD I h0 step xs _ _,CD I h0 step xs _ _,id,id⟩))
theorem Cg {W:Loc->Ĩ->WS}{k:Option (List Nat)}{s:V}{items:List V}{Q:ST}(e:ŵ s H=some items)(I:List V->Loc->AH->Prop)(h:I items ρ H)(h0:∀ρ H',I [] ρ H'->Ũ s H H'∧Q .next ρ H')(step:∀x xs ρ H',I (x::xs) ρ H'->Ũ s H H'∧∃Ĥ,dd k i x ρ=some Ĥ∧∀K,LK (I xs) Q K->W Ĥ E H' K):kFor ρ W E k i Q s H:=by
 unfold kFor
 rw[e]
 exact CD I h0 step items ρ H h
variable {Q:QT} {t r:List Nat}
theorem T4 {a b:Int}(h:b<=a)(q:Q (.int a) H):sV a b H Q:=by
 unfold sV
 rw[Ñ (Ť.mpr h)];exact q
theorem T2 {a b:Int}(h:a<=b)(q:Q (.int a) H):Al a b H Q:=by
 unfold Al
 rw[Ñ (Ť.mpr h)];exact q
theorem eR {k:Nat}(h:k<=ę)(q:Q (.rng 0 (k:Int) 1) H):oK (k:Int) H Q:=by
 unfold oK
 exact⟨h,q⟩
theorem cv {x y:Option O}:(H++[x]).set H.length y=H++[y]:=by simp
theorem ć {x:Option O}:(H++[x])[H.length]? =some x:=by simp
theorem fJ {x:Option O}(h:H[i]? =some x)(l:AH):(H++l)[i]? =some x:=by rw[ÿ (Õ.mp h).1];exact h
theorem VM {x:Option O}(h:H[i]? =some x)(y:Option O)(l:AH):(H++l).set i y=H.set i y++l:=by rw[WJ _ _ (Õ.mp h).1]
theorem ų {c f:Nat}{fs GR:List (Nat×V)}{v:V}{Q:AH->Prop}(e:cond (vD c f) (Nat.ble fs.length 20) false=true)(e2:mj f v fs=GR)(q:Q (H++[some (.inst c GR)])):eP (.obj H.length) f v (H++[some (.inst c fs)]) Q:=by
 refine Ae ć e e2 ?_
 rw[cv];exact q
theorem gN {c f:Nat}{as:List V}(e:kH c=some f)(e2:QC f (.obj H.length::as)=true)(q:ì (ú n) (mT f) (L6 f (.obj H.length::as)) E (H++[some (.inst c [])]) (am (qq c H.length Q))):jh (ú (n+1)) c as E H Q:=by
 unfold jh
 rw[e]
 exact call e2 q
theorem kE {c:Nat}{fs:List (Nat×V)}(e:l6 c=true)(q:Q (.rcd c fs) (H++[none])):qq c H.length Q .none (H++[some (.inst c fs)]):=by
 unfold qq
 refine⟨rfl,?_⟩
 rw[e];dsimp only;rw[ć];dsimp only;rw[cv];exact q
theorem TY {a b c:V}(q:Q (.rcd 0 [(0,a),(1,b),(2,c)]) (H++[none])):jh (ú (n+1)) 0 [a,b,c] E H Q:=by
 refine gN rfl rfl ?_
 refine ų rfl rfl ?_
 refine ų rfl rfl ?_
 refine ų rfl rfl ?_
 exact kE rfl q
end
noncomputable def ĉ (t:List Nat):Nat->Nat
 |0=>1
 |j+1=>if t[j]? =some 10 then ĉ t j+1 else ĉ t j
noncomputable def Ő (t:List Nat):Nat->Nat
 |0=>0
 |j+1=>if t[j]? =some 10 then j+1 else Ő t j
theorem og (t:List Nat):∀j,Ő t j<=j
 |0=>Å _
 |j+1=>by
  unfold Ő
  split
  ·exact Å _
  ·exact aj (og t j)
noncomputable def fA (t:List Nat)(k:Nat):V:= .rcd 0 [(0,.int (k:Int)),(1,.int (ĉ t k:Nat)),(2,.int ((k:Int)-(Ő t k:Nat)+1))]
noncomputable def fS (a n:Nat):List V:=(List.range' a n).map λj:Nat=>V.int (j:Int)
theorem cg {k:Nat}{H:AH}(hk:k<=ę):ŵ (.rng 0 (k:Int) 1) H=some (fS 0 k):=by
 show (if _ then some (jd 0 (k:Int) 1) else none)=_
 rw[Î ⟨.inl rfl,ý _,hk⟩]
 have:(((k:Int)-0+1-1)/1).toNat=k:=by rw[vq,Ś,dF,ō]
 unfold jd fS
 rw[Î (by decide),this,WL]
 exact È some (az λj _=>È V.int (by rw[Int.one_mul,Ra]))
section
variable {n i:Nat} {H:AH} {E:Ĩ} {ρ:Loc} {Q:QT} {t r:List Nat}
theorem rM {k:Option (List Nat)}{b:Loc->Ĩ->WS}{Q:ST}(I:Nat->Loc->AH->Prop)(m:Nat)(h0:∀ρ H,I m ρ H->Q .next ρ H)(step:∀j ρ H,j<m->I j ρ H->∃Ĥ,dd k i (.int (j:Int)) ρ=some Ĥ∧∀K,LK (I (j+1)) Q K->b Ĥ E H K):∀(d j:Nat) (ρ:Loc) (H:AH),j+d=m->I j ρ H->oP k i (λ_=>True) b E Q (fS j d) ρ H
 |0,j,ρ,H,e,h=>⟨trivial,h0 _ _ (e▸h)⟩
 |d+1,j,ρ,H,e,h=>(step j ρ H (e▸cY (gz d)) h).elim λ_ h2=>cX trivial (dN h2.1 (h2.2 _ ⟨rM I m h0 step d (j+1) _ _ ((Ĭ j 1 d).trans e),rM I m h0 step d (j+1) _ _ ((Ĭ j 1 d).trans e),id,id⟩))
theorem hA {W:Loc->Ĩ->WS}{k:Option (List Nat)}{m:Nat}{Q:ST}(I:Nat->Loc->AH->Prop)(hm:m<=ę)(h:I 0 ρ H)(h0:∀ρ H',I m ρ H'->Q .next ρ H')(step:∀j ρ H',j<m->I j ρ H'->∃Ĥ,dd k i (.int (j:Int)) ρ=some Ĥ∧∀K,LK (I (j+1)) Q K->W Ĥ E H' K):kFor ρ W E k i Q (.rng 0 (m:Int) 1) H:=by
 unfold kFor
 rw[cg hm]
 exact rM I m h0 step m 0 ρ H (Ľ m) h
inductive Na (t:List Nat)(k:V)(H:AH):Nat->Loc->AH->Prop
 |mk {j:Nat} {x:Option V}:Na t k H j [some (.str t),some k,some k,some (.int (ĉ t j:Nat)),some (.int (Ő t j:Nat)),x] H
theorem tD (hl:t.length<=small){k:Nat}(hk:k<=t.length)(q:∀l,Q (fA t k) (H++l)):Call (ú (n+2)) E 2 Q [.str t,.int (k:Int)] H:=by
 have hkb:=aU (À hk hl)
 refine call rfl ?_
 refine T4 (ł k) ?_
 refine T2 (ľ.mpr hk) ?_
 refine eR hkb ?_
 refine hA (Na t (.int k) H) hkb .mk (λρ H' I=> ?_) (λj ρ H' hj I=> ?_)
 ·induction I
  exact li rfl (ň rfl (TY (q _)))
 ·induction I with| @mk x=> ?_
  have ge:=Ç (æ hj hk)
  refine⟨_,rfl,λK kk=> ?_⟩
  refine Lp ge ?_
  have nx:= @Na.mk t (.int k) H (j+1) (some (.int (j:Int)))
  refine bC (λhc=>ň rfl (ň rfl (kk.n ?_))) (λhc=>kk.n ?_)
  ·have Mh:t[j]? =some 10:=ge.trans (È some (Ŋ (è.mp hc)).1)
   rw[show ĉ t (j+1)=ĉ t j+1 from Î Mh,show Ő t (j+1)=j+1 from Î Mh] at nx
   exact nx
  ·have Mh:¬t[j]? =some 10:=λz=>by rw[Ä (ge.symm.trans z)] at hc;cases hc
   rw[show ĉ t (j+1)=ĉ t j from Ñ Mh,show Ő t (j+1)=Ő t j from Ñ Mh] at nx
   exact nx
theorem kF (hl:t.length<=small){a:V}{k:Nat}{w:V}{Er:V->Prop}(h:H[i]? =some (some (.inst 3 [(5,.str t),(4,a)])))(hk:k<=t.length)(q:Er (fA t k)):Call (ú (n+3)) (λp _=>Er p) 33 Q [.obj i,w,.int (k:Int)] H:=by
 refine call rfl ?_
 simp_arith!
 exact tD hl hk λ_=>q
end
noncomputable def cI:List Nat->Option (List Nat)
 |[]=>none
 |c::r=>if c==34 then some r else if c==92 then (match r with|[]=>none|_::r'=>cI r') else cI r
theorem kU (c:Nat)(r:List Nat):cI (c::r)=if c==34 then some r else if c==92 then (match r with|[]=>none|_::r'=>cI r') else cI r:=by rw[cI.eq_def]
theorem gW:∀{r r':List Nat},cI r=some r'->r' <:+ r
 |[],_,h=>by contradiction
 |c::r,r',h=>by
  unfold cI at h
  split at h
  ·obtain rfl:=Ä h;exact Ă c r
  ·split at h
   ·cases r with
    |nil=>contradiction
    |cons d r=>
     have:=gW h
     exact this.trans ((Ă d r).trans (Ă c _))
   ·exact (gW h).trans (Ă c r)
theorem SW (c d:Nat):(([c]:List Nat)==[d])=(c==d):=by simp[List.beq_cons_cons]
theorem nT {b:Bool}(h:b=false):¬b=true:=by rw[h];exact ó
section
variable {n i c d x:Nat} {H:AH} {E:Ĩ} {ρ:Loc} {Q:QT} {t r r':List Nat} {Er:V->Prop} {A B:AH->Prop}
theorem ef (a:(d==x)=true->A H)(b:(d==x)=false->B H):eI A B ([d]==[x]) H:=by
 rw[SW];exact bC a b
theorem DL (a:(d==x)=false->A H)(b:(d==x)=true->B H):eI A B (!([d]==[x])) H:=by
 rw[SW]
 cases h:d==x with
 |true=>exact b h
 |false=>exact a h
theorem Ln {x y:Int}(h:y<=x)(q:A H):eI A B (decide (y<=x)) H:=ift (bV h) q
theorem O0 (h:c::r <:+ t)(q:B H):eI A B (decide ((t.length:Int)<=ps t (c::r))) H:=ar (be (GX.mpr (Cu h))) q
theorem Iw (h:[d] <:+ t):ps t [d]+2=(t.length:Int)+1:=by
 show ps t [d]+(1+1)=_
 rw[←LO,lV h];rfl
theorem lt1:r.length<(c::r).length:=é _
theorem lt2:r.length<(c::d::r).length:=bJ (é _)
theorem Ào (h:c::r <:+ t)(q:Q (.int (ps t r)) H):Q (.int (ps t (c::r)+1)) H:=by rw[lV h];exact q
inductive LQ (t r:List Nat)(p:V)(i:Nat)(H:AH):Nat->Loc->AH->Prop
 |a {r':List Nat} (h:r' <:+ t) (e:cI r'=cI r):LQ t r p i H r'.length [some (.obj i),some p,some (.str t),some (.int (ps t r'))] H
 |b (e:cI r=none):LQ t r p i H 0 [some (.obj i),some p,some (.str t),some (.int (t.length+1))] H
theorem YC {s:List Nat}(e:r=c::s)(h:(c==34)=true):cI r=some s:=e▸(kU c s).trans (Î h)
theorem YD {s:List Nat}(e:r=c::s)(h:(c==34)=false)(h2:(c==92)=false):cI r=cI s:=e▸(kU c s).trans ((Ñ (nT h)).trans (Ñ (nT h2)))
theorem YE {s:List Nat}(e:r=c::s)(h:(c==34)=false)(h2:(c==92)=true):(s=[]∧cI r=none)∨∃d u,s=d::u∧cI r=cI u:=by
 have:=(kU c s).trans ((Ñ (nT h)).trans (Î h2))
 subst e
 cases s with
 |nil=>exact .inl ⟨rfl,this⟩
 |cons d u=>exact .inr ⟨d,u,rfl,this⟩
theorem My {s:List Nat}(hr:r <:+ t)(e:r=c::s)(e2:s=[]):ps t r+2=(t.length:Int)+1:=by subst e2;subst e;exact Iw hr
theorem Mz {s u:List Nat}(hr:r <:+ t)(e:r=c::s)(e2:s=d::u):ps t r+2=ps t u:=by subst e2;subst e;exact NU hr
theorem KX {s u:List Nat}(hr:r <:+ t)(e:r=c::s)(e2:s=d::u):u <:+ t:=o8 (o8 hr e) e2
theorem Lk {s u:List Nat}(e:r=c::s)(e2:s=d::u):u.length<r.length:=Ą (gJ e2) (gJ e)
theorem Sy {s:List Nat}(hr:r <:+ t)(e:r=c::s)(q:B H):eI A B (decide ((t.length:Int)<=ps t r)) H:=by subst e;exact O0 hr q
theorem YM (hl:t.length<=small){a:V}(h:H[i]? =some (some (.inst 3 [(5,.str t),(4,a)]))){iO:List Nat}(hr:iO <:+ t)(Cm:iO=c::r)(q1:∀r',cI r=some r'->Q (.int (ps t r')) H)(q2:cI r=none->Er (fA t (pn t iO))):
 Call (ú (n+4)) (λp _=>Er p) 36 Q [.obj i,.int (ps t iO)] H:=by
 refine call rfl ?_
 simp_arith!
 refine ň (sO hr Cm) ?_
 have fin:∀x:Int,(t.length:Int)<=x->cI r=none->G7 [some (.obj i),some (.int (ps t iO)),some (.str t),some (.int x)] (iL (ì (ú (n+3)) (D6.drop 3)) (λp _=>Er p) (am Q)) H:=λx hx e=>Ln hx (kF hl h ŏ (q2 e))
 refine bQ (LQ t r (.int (ps t iO)) i H) (m:=r.length) (.a (o8 hr Cm) rfl) λm ρ H' I=> ?_
 induction I with
 | @a r' fP e=>
   intro K kk
   refine qR fP (λe'=>fin _ (e'▸aW _) (e.symm.trans (e'▸rfl))) λd s e'=>jN fP e' ?_
   refine DL (λh1=>jN fP e' (ef (λh2=> ?_) (λh2=> ?_))) (λh1=>Sy fP e' (ň (sO fP e') (q1 _ (e.symm.trans (YC e' h1)))))
   ·rcases YE e' h1 h2 with ⟨e2,e3⟩|⟨f,u,e2,e3⟩
    ·exact ň (My fP e' e2) (kk.n ⟨0,Í (ý _) (gJ e'),.b (e.symm.trans e3)⟩)
    ·exact ň (Mz fP e' e2) (kk.n ⟨_,Lk e' e2,.a (KX fP e' e2) (e3.symm.trans e)⟩)
   ·exact ň (sO fP e') (kk.n ⟨_,gJ e',.a (o8 fP e') ((YD e' h1 h2).symm.trans e)⟩)
 |b e=>exact λK kk=>ar (not_lt (iH (aW _))) (fin _ (iH (aW _)) e)
end
noncomputable def hZ (b:List PS)(k:Nat):List PS:=match b[k]? with
 |some (.whileS _ b)=>b
 |some (.forS _ _ _ b)=>b
 |_=>[]
theorem dY {sub:List Nat}:∀{l:List Nat} {f k:Nat},ü sub l f=some k->k+sub.length<=l.length
 |l,0,k,h=>by unfold ü at h;contradiction
 |l,f+1,k,h=>by
  unfold ü at h
  split at h
  ·rename_i hp
   obtain rfl:=Ä h
   rw[Ľ]
   exact (Ż.mp hp).length_le
  ·split at h
   ·contradiction
   ·obtain⟨k',h1,rfl⟩:=Ć.mp h
    rw[Ĭ]
    exact Ì (dY h1)
noncomputable def cW:Nat->Bool->List Nat->Option (List Nat)
 |0,_,_=>none
 |_+1,_,[]=>none
 |f+1,first,c::r=>if !first&&c==93 then some r
  else if [91,58].isPrefixOf (c::r) then (match ü [58,93] (c::r) (r.length+2) with
   |some k=>cW f false ((c::r).drop (k+2))
   |none=>cW f false r)
  else if c==92 then (match r with|[]=>none|_::r'=>cW f false r') else cW f false r
theorem uS (f:Nat)(b:Bool):cW f b []=none:=by cases f<;>rfl
theorem fi (f:Nat)(b:Bool)(c:Nat)(r:List Nat):cW (f+1) b (c::r)=if !b&&c==93 then some r
 else if [91,58].isPrefixOf (c::r) then (match ü [58,93] (c::r) (r.length+2) with
  |some k=>cW f false ((c::r).drop (k+2))
  |none=>cW f false r)
 else if c==92 then (match r with|[]=>none|_::r'=>cW f false r') else cW f false r:=rfl
theorem e9:∀{f:Nat} {b:Bool} {r r':List Nat},cW f b r=some r'->r' <:+ r
 |0,b,r,r',h=>by unfold cW at h;contradiction
 |f+1,b,[],r',h=>by simp only[uS] at h;contradiction
 |f+1,b,c::r,r',h=>by
  simp only[fi] at h
  split at h
  ·obtain rfl:=Ä h;exact Ă c r
  ·split at h
   ·split at h
    ·exact (e9 h).trans (eG _ _)
    ·exact (e9 h).trans (Ă c r)
   ·split at h
    ·cases r with
     |nil=>contradiction
     |cons d r=>exact (e9 h).trans ((Ă d r).trans (Ă c _))
    ·exact (e9 h).trans (Ă c r)
noncomputable def cb (r:List Nat):Option (List Nat):=if [94].isPrefixOf r then cW (r.length+1) true (r.drop 1) else cW (r.length+1) true r
theorem jw {r r':List Nat}(h:cb r=some r'):r' <:+ r:=by
 unfold cb at h
 split at h
 ·exact (e9 h).trans (eG _ _)
 ·exact e9 h
structure CE (f:Nat)(b:Bool)(r:List Nat)(d:Nat)(s:List Nat)(g:Nat):Prop where
 lt:s.length<g
 q:(!b&&d==93)=true->cW f b r=some s
 k:(!b&&d==93)=false->∀k,[91,58].isPrefixOf r=true->ü [58,93] r (r.length+1)=some k->cW f b r=cW g false (r.drop (k+2))
 o:(!b&&d==93)=false->([91,58].isPrefixOf r=true->ü [58,93] r (r.length+1)=none)->(d==92)=false->cW f b r=cW g false s
 b:(!b&&d==93)=false->([91,58].isPrefixOf r=true->ü [58,93] r (r.length+1)=none)->(d==92)=true->(s=[]∧cW f b r=none)∨∃c u,s=c::u∧cW f b r=cW g false u
theorem UB {f:Nat}{b:Bool}{r:List Nat}{d:Nat}{s:List Nat}(e:r=d::s)(h:r.length<f):∃g,CE f b r d s g:=by
 subst e
 cases f with
 |zero=>exact absurd h (bf _)
 |succ g=>
  have no:[91,58].isPrefixOf (d::s)=true->(d==92)=true->False:=λh1 h2=>by
   have h3:=(vW (show (91==d&&[58].isPrefixOf s)=true from h1)).1
   rw[è] at h2 h3
   rw[←h3] at h2
   exact absurd h2 (by decide)
  refine⟨g,ı h,λhq=>(fi ..).trans (Î hq),λhq k h1 h2=> ?_,λhq Mg h2=> ?_,λhq Mg h2=> ?_⟩
  ·refine (fi ..).trans ((Ñ (nT hq)).trans ((Î h1).trans ?_))
   rw[show ü [58,93] (d::s) (s.length+2)=some k from h2]
  ·refine (fi ..).trans ((Ñ (nT hq)).trans ?_)
   cases h1:[91,58].isPrefixOf (d::s) with
   |true=>rw[Î rfl,show ü [58,93] (d::s) (s.length+2)=none from Mg h1]
   |false=>exact (Ñ ó).trans (Ñ (nT h2))
  ·have e1:=(fi g b d s).trans ((Ñ (nT hq)).trans ((Ñ λz=>no z h2).trans (Î h2)))
   cases s with
   |nil=>exact .inl ⟨rfl,e1⟩
   |cons c u=>exact .inr ⟨c,u,rfl,e1⟩
noncomputable def Hz (x:Int)(z:Option Nat):Int:=match z with|some k=>x+(k:Int)|none=> -1
section
variable {n i c d:Nat} {H:AH} {E:Ĩ} {Q:QT} {t r:List Nat} {Er:V->Prop} {A B:AH->Prop}
theorem rO (hl:t.length<=small)(hr:r <:+ t){w:List Nat}{z:Option Nat}(hw:w≠[])(hf:ü w r (r.length+1)=z)(q:Q (.int (Hz (ps t r) z)) H):lu t w (ps t r) H Q:=by
 unfold lu
 refine⟨ł _,ľ.mpr (mJ hl),hw,?_⟩
 have e:mA w t (pn t r)=Hz (ps t r) z:=by
  unfold mA
  rw[Ñ (Ł.mpr ŏ),gU hr,show t.length+1-pn t r=r.length+1 from by rw[Nat.succ_sub ŏ];exact È Nat.succ (eA (a9 hr)),hf]
  cases z with
  |none=>rfl
  |some k=>rfl
 rw[show (ps t r).toNat=pn t r from rfl,e];exact q
inductive XU (i:Nat)(t:List Nat)(p:V)(r:List Nat)(H:AH):Nat->Loc->AH->Prop
 |a {f:Nat} {b:Bool} {r':List Nat}:r' <:+ t->r'.length<f->cW f b r'=cb r->XU i t p r H r'.length [some (.obj i),some p,some (.str t),some (.int (ps t r')),some (.bool b)] H
 |z {b:Bool}:cb r=none->XU i t p r H 0 [some (.obj i),some p,some (.str t),some (.int ((t.length:Int)+1)),some (.bool b)] H
theorem YN (hl:t.length<=small){a:V}(h:H[i]? =some (some (.inst 3 [(5,.str t),(4,a)]))){iO:List Nat}(hr:iO <:+ t)(Cm:iO=c::r)(q1:∀r',cb r=some r'->Q (.int (ps t r')) H)(q2:cb r=none->Er (fA t (pn t iO))):
 Call (ú (n+4)) (λp _=>Er p) 37 Q [.obj i,.int (ps t iO)] H:=by
 have Vu:=o8 hr Cm
 refine call rfl ?_
 simp_arith!
 refine ň (sO hr Cm) ?_
 have main:∀f r1,r1 <:+ t->r1.length<f->cW f true r1=cb r->ì (ú (n+3)) (qY.drop 3) [some (.obj i),some (.int (ps t iO)),some (.str t),some (.int (ps t r1)),none] (λp _=>Er p) H (am Q):=λf r1 Vt hf e1=>by
  have fin:∀x b,(t.length:Int)<=x->cb r=none->G7 [some (.obj i),some (.int (ps t iO)),some (.str t),some (.int x),some (.bool b)] (iL (ì (ú (n+3)) (qY.drop 5)) (λp _=>Er p) (am Q)) H:=λx b hx e=>Ln hx (kF hl h ŏ (q2 e))
  refine bQ (XU i t (.int (ps t iO)) r H) (m:=r1.length) (.a Vt hf e1) λm ρ H' I=> ?_
  induction I with
  | @a f b r' fP hf e=>
    intro K kk
    refine qR fP (λe'=>fin _ _ (e'▸aW _) (e.symm.trans (e'▸uS f b))) λd s e'=> ?_
    obtain⟨g,ce⟩:=UB (b:=b) e' hf
    have Sp:(!b&&d==93)=false->ì (ú (n+3)) (hZ qY 4) [some (.obj i),some (.int (ps t iO)),some (.str t),some (.int (ps t r')),some (.bool b)] (λp _=>Er p) H K:=λhq=>by
     refine ň rfl (rb (w:=[91,58]) hl (by decide) ?_)
     have plain:([91,58].isPrefixOf r'=true->ü [58,93] r' (r'.length+1)=none)->wpS (ú (n+3)) (.augV 3 .add (.ite (.cmp .eq (.idx (.var 2) (.var 3)) (.lit (.str [92]))) (.lit (.int 2)) (.lit (.int 1)))) [some (.obj i),some (.int (ps t iO)),some (.str t),some (.int (ps t r')),some (.bool false)] (λp _=>Er p) H (iL (ì (ú (n+3)) []) (λp _=>Er p) K):=λMg=>by
      refine jN fP e' (ef (λh2=> ?_) (λh2=> ?_))
      ·rcases ce.b hq Mg h2 with ⟨e2,e3⟩|⟨c,u,e2,e3⟩
       ·exact ň (My fP e' e2) (kk.n ⟨0,Í (ý _) (gJ e'),.z (e.symm.trans e3)⟩)
       ·exact ň (Mz fP e' e2) (kk.n ⟨_,Lk e' e2,.a (KX fP e' e2) (Ą (gJ e2) ce.lt) (e3.symm.trans e)⟩)
      ·exact ň (sO fP e') (kk.n ⟨_,gJ e',.a (o8 fP e') ce.lt ((ce.o hq Mg h2).symm.trans e)⟩)
     refine vg (wg fP [91,58]) (bC (λhp=> ?_) (λhp=>plain λz=>absurd z (nT hp)))
     cases QW:ü [58,93] r' (r'.length+1) with
     |none=>exact rO (w:=[58,93]) hl fP (by decide) QW (plain λ_=>QW)
     |some k=>
      have hk:=dY QW
      refine rO (w:=[58,93]) hl fP (by decide) QW (rO (w:=[58,93]) hl fP (by decide) QW ?_)
      have jD:(r'.drop (k+2)).length<s.length+1:=by rw[ã,e'];exact dG (ou (Ý (Ğ 1 (k+1)) _))
      exact ň ((LO ..).trans (rh fP (k:=k+2) hk)) (kk.n ⟨_,iJ jD (È List.length e'.symm),.a (ĩ fP _) (Í (ak jD) ce.lt) ((ce.k hq k hp QW).symm.trans e)⟩)
    refine bC (λhb=>Sp (by rw[hb];rfl)) (λhb=>jN fP e' (DL (λh1=>Sp (by rw[h1,ī])) λh1=> ?_))
    exact Sy fP e' (ň (sO fP e') (q1 _ (e.symm.trans (ce.q (by rw[hb,h1];rfl)))))
  |z e=>exact λK kk=>ar (not_lt (iH (aW _))) (fin _ _ (iH (aW _)) e)
 refine ň rfl (rb (w:=[94]) hl (by decide) (vg (wg Vu [94]) (bC (λhp=> ?_) (λhp=> ?_))))
 ·exact ň (rh Vu (k:=1) (Ż.mp hp).length_le) (main (r.length+1) (r.drop 1) (ĩ Vu 1) (dG (List.drop_sublist 1 r).length_le) (Î hp).symm)
 ·exact main (r.length+1) r Vu (é _) (Ñ (nT hp)).symm
end
noncomputable def hp (H:AH)(i:Nat)(t r:List Nat)(L:AH):AH:=H.set i (some (cu t r))++L
theorem ai {H:AH}{i:Nat}{x:Option O}(h:H[i]? =some x):i<H.length:=(Õ.mp h).1
section
variable {H L l:AH} {i j:Nat} {t r r':List Nat} {y z:Option O}
theorem b9 (hi:i<H.length):(hp H i t r L)[i]? =some (some (cu t r)):=by
 unfold hp;rw[ÿ (by rw[Ġ];exact hi),List.getElem?_set_self hi]
theorem kK (hi:i<H.length):(hp H i t r L).set i (some (cu t r'))=hp H i t r' L:=by
 unfold hp;rw[WJ _ _ (by rw[Ġ];exact hi),Q9]
theorem wy:hp H i t r L++l=hp H i t r (L++l):=Æ ..
theorem fF:(hp H i t r (y::l))[H.length]? =some y:=by
 unfold hp;rw[ĭ (ð Ġ),Ġ,Q8];rfl
theorem pU:(hp H i t r (y::l)).set H.length z=hp H i t r (z::l):=by
 unfold hp;rw[List.set_append_right _ _ (ð Ġ),Ġ,Q8];rfl
theorem zv (h:H[i]? =some (some (cu t r))):hp H i t r L=H++L:=by unfold hp;rw[jX h]
theorem Wz:H.set i (some (cu t r'))=hp H i t r' []:=(à _).symm
theorem CC (hi:i<H.length):hp (hp H i t r L) i t r' l=hp H i t r' (L++l):=by
 show (hp H i t r L).set i _++l=_
 rw[kK hi,wy]
theorem Àr (hj:j<H.length)(jJ:j≠i):(hp H i t r L)[j]? =H[j]? :=by
 unfold hp;rw[ÿ (by rw[Ġ];exact hj),ñ (bI jJ)]
end
inductive PR (α:Type) where
 |ok (v:α) (r:List Nat)
 |err (r:List Nat)
 |bad
def PR.on {α:Type}(K:α->List Nat->Prop)(Er:List Nat->Prop):PR α->Prop
 | .ok v r=>K v r
 | .err r=>Er r
 | .bad=>False
inductive RR where
 |stop (r:List Nat)
 |over
 |bad (r:List Nat)
noncomputable def ae:Nat->List Nat->RR
 |0,r=> .stop r
 |_+1,[]=> .stop []
 |f+1,c::r=>if ij.contains c then .stop (c::r) else if c==34 then (match cI r with|some r'=>ae f r'|none=> .bad (c::r))
  else if c==91 then (match cb r with|some r'=>ae f r'|none=> .bad (c::r))
  else if c==92 then (match r with|[]=> .over|_::r'=>ae f r') else ae f r
theorem EU (f:Nat):ae f []= .stop []:=by cases f<;>rfl
theorem kT (f:Nat)(c:Nat)(r:List Nat):ae (f+1) (c::r)=if ij.contains c then .stop (c::r) else if c==34 then (match cI r with|some r'=>ae f r'|none=> .bad (c::r))
 else if c==91 then (match cb r with|some r'=>ae f r'|none=> .bad (c::r))
 else if c==92 then (match r with|[]=> .over|_::r'=>ae f r') else ae f r:=rfl
noncomputable def aO (r:List Nat):PR (List Nat):=match ae (r.length+1) r with
 | .stop r'=>if r'.length==r.length then .err r else .ok (r.take (r.length-r'.length)) r'
 | .over=> .err (r.drop (r.length-1))
 | .bad r'=> .err r'
theorem Sm {r r':List Nat}(e:ae (r.length+1) r= .stop r')(h:(r'.length==r.length)=true):aO r= .err r:=by
 unfold aO;rw[e];exact Î h
theorem Sk {r r':List Nat}(e:ae (r.length+1) r= .stop r')(h:(r'.length==r.length)=false):aO r= .ok (r.take (r.length-r'.length)) r':=by
 unfold aO;rw[e];exact Ñ (nT h)
theorem Sj {r:List Nat}(e:ae (r.length+1) r= .over):aO r= .err (r.drop (r.length-1)):=by
 unfold aO;rw[e]
theorem Sn {r r':List Nat}(e:ae (r.length+1) r= .bad r'):aO r= .err r':=by
 unfold aO;rw[e]
structure RW (f:Nat)(r:List Nat)(d:Nat)(s:List Nat)(g:Nat):Prop where
 lt:s.length<g
 z:ij.contains d=true->ae f r= .stop r
 q:ij.contains d=false->(d==34)=true->(∀u,cI s=some u->ae f r=ae g u)∧(cI s=none->ae f r= .bad r)
 k:ij.contains d=false->(d==34)=false->(d==91)=true->(∀u,cb s=some u->ae f r=ae g u)∧(cb s=none->ae f r= .bad r)
 b:ij.contains d=false->(d==34)=false->(d==91)=false->(d==92)=true->(s=[]∧ae f r= .over)∨∃c u,s=c::u∧ae f r=ae g u
 o:ij.contains d=false->(d==34)=false->(d==91)=false->(d==92)=false->ae f r=ae g s
theorem Tv {f:Nat}{r:List Nat}{d:Nat}{s:List Nat}(e:r=d::s)(h:r.length<f):∃g,RW f r d s g:=by
 subst e
 cases f with
 |zero=>exact absurd h (bf _)
 |succ g=>
  have e:=kT g d s
  refine⟨g,ı h,λh1=>e.trans (Î h1),λh1 h2=> ?_,λh1 h2 h3=> ?_,λh1 h2 h3 h4=> ?_,λh1 h2 h3 h4=>e.trans ((Ñ (nT h1)).trans ((Ñ (nT h2)).trans ((Ñ (nT h3)).trans (Ñ (nT h4)))))⟩
  ·replace e:=e.trans ((Ñ (nT h1)).trans (Î h2))
   exact⟨λu hu=>by rw[hu] at e;exact e,λhu=>by rw[hu] at e;exact e⟩
  ·replace e:=e.trans ((Ñ (nT h1)).trans ((Ñ (nT h2)).trans (Î h3)))
   exact⟨λu hu=>by rw[hu] at e;exact e,λhu=>by rw[hu] at e;exact e⟩
  ·replace e:=e.trans ((Ñ (nT h1)).trans ((Ñ (nT h2)).trans ((Ñ (nT h3)).trans (Î h4))))
   cases s with
   |nil=>exact .inl ⟨rfl,e⟩
   |cons c u=>exact .inr ⟨c,u,rfl,e⟩
inductive LR (t r:List Nat)(i:Nat)(H:AH):Nat->Loc->AH->Prop
 |a {f:Nat} {r':List Nat} (h:r' <:+ r) (hf:r'.length<f) (e:ae f r'=ae (r.length+1) r):LR t r i H r'.length [some (.obj i),some (.str t),some (.int (ps t r)),some (.int (ps t r'))] H
 |b (e1:r≠[]) (e2:ae (r.length+1) r= .over):LR t r i H 0 [some (.obj i),some (.str t),some (.int (ps t r)),some (.int ((t.length:Int)+1))] H
section
variable {n i c d:Nat} {H:AH} {E:Ĩ} {Q:QT} {t r:List Nat} {Er:V->Prop} {A B:AH->Prop}
theorem GP {b:Bool}(x:b=false->A H)(y:b=true->B H):eI A B (!b) H:=by
 cases b with
 |true=>exact y rfl
 |false=>exact x rfl
theorem TX {a:V}(q:Q (.rcd 6 [(5,a)]) (H++[none])):jh (ú (n+1)) 6 [a] E H Q:=
 gN rfl rfl (ų rfl rfl (kE rfl q))
theorem TK:ps t r<=(t.length:Int):=ľ.mpr ŏ
theorem NV {r':List Nat}(hr:r <:+ t)(h:r' <:+ r):(ps t r'==ps t r)=(r'.length==r.length):=by
 have e:pn t r=t.length-r.length:=rfl
 have e2:=wh hr h
 have e3:=h.length_le
 rw[cQ,è,è]
 constructor
 ·intro z
  have z:pn t r'=pn t r:=cF z
  rw[e2] at z
  exact BL e3 (U7 (Nat.add_left_cancel (z.trans (Nat.add_zero _).symm)))
 ·intro z
  show ((t.length-r'.length:Nat):Int)=((t.length-r.length:Nat):Int)
  rw[z]
theorem Fk {l:List Nat}(h:l≠[])(k:l <:+ t):(t.length:Int)-1=ps t (l.drop (l.length-1)):=by
 have h1:1<=l.length:=Nat.pos_of_ne_zero λz=>h (Ķ z)
 have h2:=À h1 (a9 k)
 show _=((t.length-(l.drop (l.length-1)).length:Nat):Int)
 rw[ã,eA h1]
 exact (Int.ofNat_sub h2).symm
theorem Lm (hl:t.length<=small)(hr:r <:+ t)(h:H[i]? =some (some (cu t r)))(q:PR.on (λv r'=>∀l,Q (.rcd 6 [(5,.str v)]) (hp H i t r' l)) (λr'=>Er (fA t (pn t r'))) (aO r)):
 Call (ú (n+5)) (λp _=>Er p) 38 Q [.obj i] H:=by
 refine call rfl ?_
 simp_arith!
 have stop:∀r',r' <:+ r->ae (r.length+1) r= .stop r'->G7 [some (.obj i),some (.str t),some (.int (ps t r)),some (.int (ps t r'))] (iL (ì (ú (n+4)) (D5.drop 4)) (λp _=>Er p) (am Q)) H:=λr' hs e=>by
  refine ar (not_lt TK) (vg (NV hr hs) (bC (λhc=> ?_) (λhc=> ?_)))
  ·rw[Sm e hc] at q
   exact kF hl h ŏ q
  ·rw[Sk e hc] at q
   exact yd h rfl (yy hl hr hs (TX (q [none])))
 refine bQ (LR t r i H) (m:=r.length) (.a (đ r) (é _) rfl) λm ρ H' I=> ?_
 induction I with
 | @a f r' hs hf e=>
   intro K kk
   have fP:=hs.trans hr
   refine qR fP (λe'=>stop r' hs (e.symm.trans (e'▸EU f))) λd s e'=>jN fP e' ?_
   have zV:s <:+ r:=(e'▸Ă d s:s <:+ r').trans hs
   obtain⟨g,w⟩:=Tv e' hf
   have bad:ae f r'= .bad r'->Er (fA t (pn t r')):=λe2=>by
    rw[Sn (e.symm.trans e2)] at q
    exact q
   have on:∀u,u <:+ s->ae f r'=ae g u->K .next [some (.obj i),some (.str t),some (.int (ps t r)),some (.int (ps t u))] H:=λu hu e2=>
    kk.n ⟨_,Í hu.length_le (gJ e'),.a (hu.trans zV) (Í hu.length_le w.lt) (e2.symm.trans e)⟩
   refine GP (λh0=> ?_) (λh0=>stop r' hs (e.symm.trans (w.z h0)))
   replace h0:ij.contains d=false:=h0
   refine jN fP e' (ef (λh1=> ?_) λh1=>jN fP e' (ef (λh2=> ?_) λh2=>jN fP e' (ef (λh3=> ?_) λh3=> ?_)))
   ·exact YM hl h fP e' (λu hu=>on u (gW hu) ((w.q h0 h1).1 u hu)) λhu=>bad ((w.q h0 h1).2 hu)
   ·exact YN hl h fP e' (λu hu=>on u (jw hu) ((w.k h0 h1 h2).1 u hu)) λhu=>bad ((w.k h0 h1 h2).2 hu)
   ·rcases w.b h0 h1 h2 h3 with ⟨e2,e3⟩|⟨c,u,e2,e3⟩
    ·exact ň (My fP e' e2) (kk.n ⟨0,Í (ý _) (gJ e'),.b (λz=>by rw[z,List.suffix_nil] at hs;rw[hs] at e';contradiction) (e.symm.trans e3)⟩)
    ·exact ň (Mz fP e' e2) (on u (e2▸Ă c u) e3)
   ·exact ň (sO fP e') (on s (đ s) (w.o h0 h1 h2 h3))
 |b e1 e2=>
  intro K kk
  rw[Sj e2] at q
  exact ar (not_lt (iH (aW _))) (ar rfl (ift (bV (Int.lt_add_one_of_le (aW _))) (li (Fk e1 hr) (kF hl h ŏ q))))
end
section
variable {n i c d:Nat} {H L l:AH} {E:Ĩ} {Q:QT} {t r:List Nat} {Er:V->Prop} {A B:AH->Prop} {ρ:Loc}
theorem PR.mono {α:Type}{K K':α->List Nat->Prop}{Er:List Nat->Prop}(f:∀v r,K v r->K' v r):∀{x:PR α},PR.on K Er x->PR.on K' Er x
 | .ok _ _,h=>f _ _ h
 | .err _,h=>h
 | .bad,h=>h
theorem wz (hi:i<H.length)(hr:r <:+ t)(q:Q (.bool r.isEmpty) (hp H i t r L)):Call (ú (n+1)) E 4 Q [.obj i] (hp H i t r L):=wu hr (b9 hi) q
theorem Àt (hi:i<H.length)(hr:r <:+ t)(q:Q (.str (r.take 1)) (hp H i t r L)):Call (ú (n+1)) E 5 Q [.obj i] (hp H i t r L):=wr hr (b9 hi) q
theorem O4 (hi:i<H.length)(hr:r <:+ t){s:List Nat}(e:r=c::s)(q:Q (.str [c]) (hp H i t s L)):Call (ú (n+2)) E 7 Q [.obj i] (hp H i t r L):=by
 subst e;exact DB hr (b9 hi) (by rw[kK hi];exact q)
theorem UZ (hl:t.length<=small)(hi:i<H.length)(hr:r <:+ t){w:List Nat}(hw:w.length<=small)(q:Q (.bool (w.isPrefixOf r)) (hp H i t r L)):Call (ú (n+1)) E 6 Q [.obj i,.str w] (hp H i t r L):=nr hl hr (b9 hi) hw q
theorem DP (hl:t.length<=small)(hi:i<H.length)(hr:r <:+ t){w:List Nat}(hw:w.length<=small)(q1:w.isPrefixOf r=true->Q (.bool true) (hp H i t (r.drop w.length) L))(q2:w.isPrefixOf r=false->Q (.bool false) (hp H i t r L)):Call (ú (n+2)) E 8 Q [.obj i,.str w] (hp H i t r L):=
 qO hl hr (b9 hi) hw (λh=>by rw[kK hi];exact q1 h) q2
theorem Za (hl:t.length<=small)(hi:i<H.length)(hr:r <:+ t){w:List Nat}(q:Q (.str (r.takeWhile (w.contains ·))) (hp H i t (r.dropWhile (w.contains ·)) L)):Call (ú (n+1)) E 9 Q [.obj i,.str w] (hp H i t r L):=
 MH hl hr (b9 hi) (by rw[kK hi];exact q)
theorem MV (hl:t.length<=small)(hi:i<H.length)(hr:r <:+ t)(q:Q .none (hp H i t (aG r) L)):Call (ú (n+2)) E 10 Q [.obj i] (hp H i t r L):=
 Ss hl hr (b9 hi) (by rw[kK hi];exact q)
theorem DQ (hl:t.length<=small)(hi:i<H.length)(hr:r <:+ t)(q:Q (.str (ç r).1) (hp H i t (ç r).2 L)):Call (ú (n+2)) E 11 Q [.obj i] (hp H i t r L):=
 wt hl hr (b9 hi) (by rw[kK hi];exact q)
theorem ÁQ (hl:t.length<=small)(hi:i<H.length)(hr:r <:+ t)(q:PR.on (λv r'=>∀l,Q (.rcd 6 [(5,.str v)]) (hp H i t r' (L++l))) (λr'=>Er (fA t (pn t r'))) (aO r)):Call (ú (n+5)) (λp _=>Er p) 38 Q [.obj i] (hp H i t r L):=
 Lm hl hr (b9 hi) (PR.mono (λv r' h l=>by rw[CC hi];exact h l) q)
theorem eg (hl:t.length<=small)(hi:i<H.length){k:Nat}{w:V}(hk:k<=t.length)(q:Er (fA t k)):Call (ú (n+3)) (λp _=>Er p) 33 Q [.obj i,w,.int (k:Int)] (hp H i t r L):=kF hl (b9 hi) hk q
theorem bL {vs:List V}{m:Nat}{W:Mk}{K:MT->qj}(h:H[i]? =some (some (.list vs)))(hm:(m==0||m==6||m==7||m==8)=true)(q:W H (K .lst)):mO W K m i H:=by
 unfold mO x3
 rw[h];dsimp only;rw[hm];exact q
theorem eK {vs:List V}{v:V}(h:H[i]? =some (some (.list vs)))(hb:vs.length<ę)(q:Q .none (H.set i (some (.list (vs++[v]))))):oj 0 i [v] H Q:=by
 unfold oj
 rw[h];exact⟨hb,q⟩
theorem z6 {vs:List V}(h:H[i]? =some (some (.list vs))):fB (.obj i) H=some (!vs.isEmpty):=È v7 h
theorem gB {vs:List V}{k:Int}(h:H[i]? =some (some (.list vs)))(q:qp vs k H Q):Kv i (.int k) H Q:=by
 unfold Kv
 rw[h];exact q
theorem xX {vs:List V}(h:H[i]? =some (some (.list vs)))(q:Q (.lst vs) (H.set i none)):sM Q i H:=by
 unfold sM listAt
 rw[h];exact q
theorem Ee {vs:List V}{v:V}(hb:vs.length<ę)(q:Q .none (hp H i t r (some (.list (vs++[v]))::l))):oj 0 H.length [v] (hp H i t r (some (.list vs)::l)) Q:=eK fF hb (by rw[pU];exact q)
theorem dm {vs:List V}{k:Nat}{x:V}(h:vs[k]? =some x)(q:Q x H):qp vs (k:Int) H Q:=by
 unfold qp
 exact dN (iz (Õ.mp h).1) (dN h q)
theorem xf {n:Nat}:cS (-1) (n+1)=some n:=by
 show (if _ then some (Int.toNat _) else none)=_
 rw[Î (show (-1:Int)<0 by decide),show (-1:Int)+((n+1:Nat):Int)=(n:Int) from (Re ..).trans (Int.add_neg_cancel_right (n:Int) 1)]
 exact Î ⟨ł n,ï.mpr (é n)⟩
theorem eX {vs:List V}{x:V}(h:vs.getLast? =some x)(q:Q x H):qp vs (-1) H Q:=by
 unfold qp
 obtain⟨m,hm⟩:=Bz (λz=>by rw[Ķ z] at h;contradiction:vs.length≠0)
 rw[Ko,hm] at h
 rw[hm]
 exact dN xf (dN h q)
theorem nB {ok:AH->Prop}{step:V->AH->(Option V->AH->Prop)->Prop}(g:V->Option V)(kr:ok H):∀(xs acc:List V),(∀x∈xs,∀K,K (g x) H->step x H K)->xs.length+acc.length<=ę->Q (.lst (acc++xs.filterMap g)) H->gL ok step xs acc H Q
 |[],acc,_,_,q=>⟨kr,by rw[←à acc];exact q⟩
 |x::xs,acc,hs,hb,q=>by
  have B0:xs.length+(acc.length+1)<=ę:=Ĭ xs.length 1 acc.length▸hb
  refine cX kr (cX (æ (é _) (À (Ğ _ _) B0)) (hs x (.head _) _ ?_))
  cases hg:g x with
  |none=>
   rw[LW hg] at q
   exact nB g kr xs acc (λy hy=>hs y (.tail _ hy)) (À (Ý (å _) _) B0) q
  |some v=>
   rw[LV hg,eH] at q
   exact nB g kr xs (acc++[v]) (λy hy=>hs y (.tail _ hy)) (by rw[Ã];exact B0) q
theorem eh {step:V->AH->(Option V->AH->Prop)->Prop}{s:V}{items:List V}(g:V->Option V)(e:ŵ s H=some items)(kr:Ũ s H H)(hb:items.length<=ę)(q:Q (.lst (items.filterMap g)) H)(hs:∀x∈items,∀K,K (g x) H->step x H K):Ku step Q s H:=by
 unfold Ku
 rw[e]
 exact nB g kr items [] hs hb q
theorem č {x y:List Nat}(h:x.length+y.length<=ę)(q:Q (.str (x++y)) H):sZ x y H Q:=by
 unfold sZ;exact⟨h,q⟩
end
end
local macro_rules
  | `(tactic| simp_all_arith) => `(tactic| repeat first | refine Ń (b9 (by assumption)) rfl ?_ | refine mo (b9 (by assumption)) rfl ?_)
section
open PySem PySem.W PyProof.Rows
set_option backward.match.sparseCases false
noncomputable def ki (c:Nat):Bool:=c != 39
theorem Uh (l:List Nat):ø [] (l.map λc=>[c])=l:=by
 induction l with
 |nil=>rfl
 |cons a l ih=>
  cases l with
  |nil=>rfl
  |cons b l=>exact È (a::·) ih
theorem Tn (l:List Nat):b7 (l.map λc=>V.str [c])=some (l.map λc=>[c]):=by
 induction l with
 |nil=>rfl
 |cons a l ih=>exact È (Option.map _) ih
theorem Yu (l:List Nat):((l.map λc=>[c]).map List.length).sum=l.length:=by
 induction l with
 |nil=>rfl
 |cons a l ih=>exact (È (1+·) ih).trans (ą ..)
section
variable {n i c d:Nat} {H L l:AH} {E:Ĩ} {Q:QT} {t r:List Nat} {Er:V->Prop} {A B:AH->Prop} {ρ:Loc}
theorem zj {a:V}{l:List Nat}(h:seeL a H= .lst (l.map λc=>V.str [c]))(hb:l.length<=ę)(q:Q (.str l) H):eS [] a H Q:=by
 unfold eS
 rw[h];dsimp only;rw[Tn];dsimp only;rw[Yu,Uh]
 exact⟨À (ð (by rw[Ŀ,Nat.zero_mul,Nat.add_zero])) hb,q⟩
theorem X0 {p:Nat->Bool}{s:List Nat}(e:r=c::s)(h:p c=true):r.takeWhile p=c::s.takeWhile p:=e▸List.takeWhile_cons_of_pos h
theorem X5 {p:Nat->Bool}{s:List Nat}(e:r=c::s)(h:p c=false):r.takeWhile p=[]:=e▸List.takeWhile_cons_of_neg (nT h)
inductive IQ (t r:List Nat)(i:Nat)(H:AH):Nat->Loc->AH->Prop
 |mk {r1 pre:List Nat} {x:Option V}:r1 <:+ r->r.takeWhile ki=pre++r1.takeWhile ki->r.dropWhile ki=r1.dropWhile ki->IQ t r i H r1.length [some (.obj i),some (.str [39]),some (.obj H.length),x] (hp H i t r1 [some (.list (pre.map λc=>V.str [c]))])
theorem IQ.base (h:H[i]? =some (some (cu t r))):IQ t r i H r.length [some (.obj i),some (.str [39]),some (.obj H.length),none] (H++[some (.list [])]):=
 zv h▸@IQ.mk t r i H r [] none (đ r) rfl rfl
theorem Fy (hl:t.length<=small)(hr:r <:+ t)(h:H[i]? =some (some (cu t r)))(QZ:(r.takeWhile ki).all (λc=>c != 92)=true)(q1:r.dropWhile ki=[]->∀l,Q .none (hp H i t [] l))(q2:∀d r',r.dropWhile ki=d::r'->∀l,Q (.str (r.takeWhile ki)) (hp H i t r' l)):
 Call (ú (n+3)) E 14 Q [.obj i,.str [39]] H:=by
 have hi:=ai h
 refine call rfl ?_
 refine bQ (IQ t r i H) (m:=r.length) (.base h) λm ρ H' I=> ?_
 induction I with| @mk r1 pre x hs e1 e2=> ?_
 intro K kk
 have Vt:=hs.trans hr
 simp_all_arith
 refine wz hi Vt ?_
 refine GP (λh1=> ?_) (λh1=> ?_)
 rotate_left
 ·have h1:r1=[]:=ř.mp h1
  rw[h1] at e2⊢
  exact q1 e2 _
 have h1:r1≠[]:=λz=>by rw[z] at h1;contradiction
 obtain⟨c,s,e'⟩:=List.exists_cons_of_ne_nil h1
 have zW:pre.length<=small:=by
  refine À ?_ (À (Rm ki (l:=r)).length_le (À (a9 hr) hl))
  rw[e1,Ã];exact Ï ..
 simp_all_arith
 refine O4 hi Vt e' ?_
 refine ef (λhc=> ?_) (λhc=> ?_)
 ·have hq:ki c=false:=È not hc
  rw[X5 e' hq,à] at e1
  refine zj (xV fF) (aU zW) ?_
  rw[←e1]
  exact kk.r (q2 _ _ ((e2.trans (SN e' hq)).trans e') _)
 ·have hq:ki c=true:=È not hc
  rw[X0 e' hq] at e1
  have Y7:(c==92)=false:=by
   have:=É.mp QZ c (e1▸ļ _ (.head _))
   exact (á _).mp this
  refine ef (λz=>absurd z (nT Y7)) (λ_=> ?_)
  refine bL fF rfl (Ee (by rw[Â];exact Í zW (by decide)) (kk.n ⟨_,gJ e',?_⟩))
  have:= @IQ.mk t r i H s (pre++[c]) (some (.str [c])) ((e'▸Ă c s:s <:+ r1).trans hs) (by rw[e1,Æ];rfl) (e2.trans (SM e' hq))
  rw[Ú] at this
  exact this
end
noncomputable def sD (b:List PS)(k:Nat):List PS:=match b[k]? with
 |some (PS.ife _ a _)=>a
 |_=>[]
noncomputable def BW (b:List PS)(k:Nat):List PS:=match b[k]? with
 |some (PS.ife _ _ a)=>a
 |_=>[]
noncomputable def kC (c:Nat):Bool:=32<=c&&c<=126&&c != 39&&c != 92
section
variable {n i c d:Nat} {H L l:AH} {E:Ĩ} {Q:QT} {t r:List Nat} {Er:V->Prop} {A B:AH->Prop} {ρ:Loc}
theorem OI {c:Nat}(hc:kC c=true)(q:Q (.str [c]) H):Call (ú (n+2)) E 17 Q [.str [c],.str [39]] H:=by
 have hc:=hc
 unfold kC at hc
 obtain⟨hc,h4⟩:=vW hc
 obtain⟨hc,h3⟩:=vW hc
 have h1:32<=c:=Ā (aL hc)
 have h2:c<=126:=Ā (aR hc)
 have h4:(c==92)=false:=(á _).mp h4
 have h3:(c==39)=false:=(á _).mp h3
 have lt:∀d,d<32->(c==d)=false:=λd hd=>Ù.mpr λz=>absurd h1 (z▸ÁY.mpr hd)
 refine call rfl ?_
 refine eh some rfl trivial (Ó rfl) (zj (l:=[c]) rfl (Ó rfl) q) λx hx K k=> ?_
 obtain rfl:=Ô.mp hx
 refine call rfl ?_
 refine ef (λz=>absurd z (nT (lt 10 (by decide)))) λ_=>ef (λz=>absurd z (nT (lt 9 (by decide)))) λ_=> ?_
 refine bC (λz=> ?_) λ_=>ef (λz=>absurd z (nT h4)) λ_=> ?_
 ·have z:=â.mp (z:[39].contains c=true)
  rw[Ô.mp z] at h3
  contradiction
 ·refine ar (be (Ť.mpr (ľ.mpr h1))) (ar (be (Ť.mpr (ľ.mpr h2))) ?_)
  exact k
theorem wn {a b:V}(q:Q (.rcd 4 [(6,a),(7,b)]) (H++[none])):jh (ú (n+1)) 4 [a,b] E H Q:=
 gN rfl rfl (ų rfl rfl (ų rfl rfl (kE rfl q)))
theorem I0 {a:V}(q:Q (.rcd 4 [(6,a),(7,.none)]) (H++[none])):jh (ú (n+1)) 4 [a] E H Q:=
 gN rfl rfl (ų rfl rfl (ų rfl rfl (kE rfl q)))
end
noncomputable def cs (s:String):List Nat:=s.toList.map Char.toNat
noncomputable def LZ:List (List Nat×List Nat):=[(cs "return",cs "kind"),(cs "skip",[]),(cs "begin",cs "condition"),(cs "push",cs "condition"),(cs "pop",[]),(cs "more",[]),(cs "less",cs "number"),(cs "reject",[]),(cs "echo",[])]
theorem CZ:WR=LZ.map λe=>(e.1,.str e.2):=by kernel_rfl
noncomputable def qM:List (List Nat):=[cs "return",cs "reject"]
theorem Ft:Cz=qM.map .str:=by kernel_rfl
abbrev St:=List Nat×V
noncomputable def Ū (s:St):V:= .rcd 4 [(6,.str s.1),(7,s.2)]
noncomputable def aJ (nm:List Nat->Bool)(r:List Nat):PR St:=
 match LZ.lookup (ç r).1 with
 |none=> .err r
 |some wanted=>
  if wanted==[] then .ok ((ç r).1,.none) (ç r).2 else
  let r2:=aG (ç r).2
  if wanted==cs "number" then
   let f:=r2.takeWhile λc=>tj.contains c
   if f==[]||decide (6<f.length) then .err r2 else match sX f with
    |some k=> .ok ((ç r).1,.int k) (r2.dropWhile λc=>tj.contains c)
    |none=> .bad
  else if wanted==cs "kind" &&[39].isPrefixOf r2 then
   let r3:=r2.drop 1
   if (r3.takeWhile ki).all (λc=>c != 92) then match r3.dropWhile ki with
    |[]=> .err r2
    |_::r4=>match r3.takeWhile ki with
     |[c]=>if kC c then .ok ((ç r).1,.str [39,c,39]) r4 else .bad
     |_=> .err r2
   else .bad
  else
   let n:=(ç r2).1
   if n==[] then .err r2 else if wanted==cs "condition" && !nm n then .err r2 else .ok ((ç r).1,.str n) (ç r2).2
section
variable {n i c d:Nat} {H L l:AH} {E:Ĩ} {Q:QT} {t r:List Nat} {Er:V->Prop} {A B:AH->Prop} {ρ:Loc}
theorem lA {α β:Type}(f:α->β)(k:List Nat):∀l:List (List Nat×α),(l.map λe=>(e.1,f e.2)).lookup k=(l.lookup k).map f
 |[]=>rfl
 |(a,b)::l=>by
  rw[ß,į,į]
  cases k==a
  ·exact lA f k l
  ·rfl
theorem j5 {α β:Type}(f:α->β)(k:List Nat):∀l:List (List Nat×α),((l.map λe=>(e.1,f e.2)).map (·.1)).contains k=(l.lookup k).isSome
 |[]=>rfl
 |(a,b)::l=>by
  rw[ß,ß,ĕ,j5 f k l,į]
  cases k==a<;>rfl
theorem strs_map (l:List (List Nat)):b7 (l.map .str)=some l:=by
 induction l with
 |nil=>rfl
 |cons a l ih=>exact È (Option.map _) ih
theorem jZ {k:List Nat}{l:List (List Nat)}:qr (.str k) (l.map .str)=some (l.contains k):=È (Option.map λs:List (List Nat)=>s.contains k) (strs_map l)
theorem ÁS {o:Option V}{v:V}(e:o=some v)(q:Q v H):oZ o H Q:=by rw[e];exact q
theorem OC {k:List Nat}{es:List (List Nat×V)}{v:V}(h:es.lookup k=some v)(q:Q v H):qt es (.str k) H Q:=by
 unfold qt;exact dN h q
theorem Ui {l:List Nat}{k:Int}(h:sX l=some k)(q:Q (.int k) H):Aq l H Q:=by
 unfold Aq;exact dN h q
theorem b5 {α:Type}{P:α->Prop}{x y:α}{b:Bool}(q:P (if b=true then x else y))(a:P x->b=true->A H)(c:P y->b=false->B H):eI A B b H:=by
 cases b with
 |true=>exact a q rfl
 |false=>exact c q rfl
theorem cf {x y:List Nat}(hx:x.length<=1000)(hy:y.length<=small)(q:Q (.str (x++y)) H):sZ x y H Q:=č (À (Ë hx hy) (by decide)) q
theorem ab (h:r <:+ t):aG r <:+ t:=qE h _
abbrev SK (i:Nat)(t:List Nat)(H L:AH)(Q:QT)(s:St)(r':List Nat):Prop:=∀l,Q (Ū s) (hp H i t r' (L++l))
abbrev EP (t:List Nat)(Er:V->Prop)(r':List Nat):Prop:=Er (fA t (pn t r'))
theorem kJ {α:Type}{P:α->Prop}{x y:α}{a b:Bool}(q:P (if (a&&b)=true then x else y))(k1:a=true->P (if b=true then x else y)->A H)(k0:a=false->P y->B H):eI A B a H:=by
 cases a with
 |true=>exact k1 rfl q
 |false=>exact k0 rfl q
theorem Uj {α:Type}{P:α->Prop}{x y:α}{a b:Bool}(q:P (if (a||b)=true then x else y))(k1:a=true->P x->A H)(k0:a=false->P (if b=true then x else y)->B H):eI A B a H:=by
 cases a with
 |true=>exact k1 rfl q
 |false=>exact k0 rfl q
theorem Dm {k:List Nat}{l:List (List Nat)}:bh .nin (.str k) (.lst (l.map .str)) H=some (!l.contains k):=by
 show (qr (.str k) (l.map .str)).map _=_
 rw[jZ];rfl
theorem mw {k:List Nat}{l:List (List Nat)}:bh .in_ (.str k) (.lst (l.map .str)) H=some (l.contains k):=jZ
theorem CB {k:List Nat}{l:List (List Nat)}:bh .in_ (.str k) (.tup (l.map .str)) H=some (l.contains k):=jZ
theorem Po:cs "number" =[110,117,109,98,101,114]:=by decide
theorem JP:cs "kind" =[107,105,110,100]:=by decide
theorem JQ:cs "condition" =[99,111,110,100,105,116,105,111,110]:=by decide
theorem we {s:St}{r':List Nat}(q:SK i t H L Q s r'):Q (Ū s) (hp H i t r' L++[none]):=by rw[wy];exact q _
theorem Iv {s:St}{r':List Nat}(q:SK i t H L Q s r'):Q (Ū s) (hp H i t r' (L++l)++[none]):=by rw[wy,Æ];exact q _
theorem yw (hl:t.length<=small)(hi:i<H.length){r2:List Nat}(vh:r2 <:+ t){w wanted:List Nat}(hw:w.length<=small){names:List (List Nat)}(q:PR.on (SK i t H L Q) (EP t Er) (if (ç r2).1==[] then PR.err r2 else if wanted==cs "condition" && !names.contains (ç r2).1 then PR.err r2 else PR.ok (w,V.str (ç r2).1) (ç r2).2)):
 ì (ú (n+4)) (mU.drop 9) [some (.obj i),some (.lst (names.map .str)),some (.int (ps t r2)),some (.str w),some (.str wanted),none,none,none] (λp _=>Er p) (hp H i t r2 L) (am Q):=by
 rw[JQ] at q
 simp_all_arith
 refine DQ hl hi vh ?_
 have hml:=À (iy r2) (À (a9 vh) hl)
 refine b5 q (λq _=>cf (by decide) hw (eg hl hi ŏ q)) λq _=> ?_
 have ok:PR.on (SK i t H L Q) (EP t Er) (PR.ok (w,V.str (ç r2).1) (ç r2).2)->ì (ú (n+4)) (mU.drop 12) [some (.obj i),some (.lst (names.map .str)),some (.int (ps t r2)),some (.str w),some (.str wanted),none,none,some (.str (ç r2).1)] (λp _=>Er p) (hp H i t (ç r2).2 L) (am Q):=λq=>wn (we q)
 refine kJ q (λ_ q=>bo Dm (b5 q (λq _=>cf (by decide) hml (eg hl hi ŏ q)) λq _=>ok q)) λ_ q=>ok q
theorem Nr (hl:t.length<=small)(hi:i<H.length){r2:List Nat}(vh:r2 <:+ t){w wanted:List Nat}(hw:w.length<=small){nv:V}{f r3:List Nat}(q:PR.on (SK i t H L Q) (EP t Er) (if f==[]||decide (6<f.length) then PR.err r2 else match sX f with|some k=>PR.ok (w,.int k) r3|none=> .bad)){R:List PS}:
 ì (ú (n+4)) ((sD mU 7).drop 1) [some (.obj i),some nv,some (.int (ps t r2)),some (.str w),some (.str wanted),some (.str f),none,none] (λp _=>Er p) (hp H i t r3 L) (iL (ì (ú (n+4)) R) (λp _=>Er p) (am Q)):=by
 refine Uj q (λ_ q=>cf (by decide) hw (eg hl hi ŏ q)) λ_ q=>vg (decide_eq_decide.mpr ï) (b5 q (λq _=>cf (by decide) hw (eg hl hi ŏ q)) λq _=> ?_)
 cases hk:sX f with
 |none=>rw[hk] at q;exact q.elim
 |some k=>
  rw[hk] at q
  exact Ui hk (wn (we q))
theorem gC {α:Type}{P:α->Prop}{x y:α}{b:Bool}(q:P (if b=true then x else y))(a:P x->b=true->B H)(c:P y->b=false->A H):eI A B (!b) H:=by
 cases b with
 |true=>exact a q rfl
 |false=>exact c q rfl
theorem pt {α:Type}{P:α->Prop}{x y:α}{b:Bool}(h:b=true)(q:P (if b=true then x else y)):P x:=by rw[h] at q;exact q
theorem pf {α:Type}{P:α->Prop}{x y:α}{b:Bool}(h:b=false)(q:P (if b=true then x else y)):P y:=by rw[h] at q;exact q
theorem FM (hl:t.length<=small)(hi:i<H.length)(hr:r <:+ t)(QZ:(r.takeWhile ki).all (λc=>c != 92)=true)(q1:r.dropWhile ki=[]->∀l,Q .none (hp H i t [] (L++l)))(q2:∀d r',r.dropWhile ki=d::r'->∀l,Q (.str (r.takeWhile ki)) (hp H i t r' (L++l))):
 Call (ú (n+3)) E 14 Q [.obj i,.str [39]] (hp H i t r L):=
 Fy hl hr (b9 hi) QZ (λe l=>by rw[CC hi];exact q1 e _) (λd r' e l=>by rw[CC hi];exact q2 d r' e _)
theorem Nq (hl:t.length<=small)(hi:i<H.length){r2 r3:List Nat}(vh:r2 <:+ t)(hs3:r3 <:+ t){w wanted:List Nat}{nv:V}(q:PR.on (SK i t H L Q) (EP t Er) (if (r3.takeWhile ki).all (λc=>c != 92) then match r3.dropWhile ki with
        |[]=>PR.err r2
        |_::r4=>match r3.takeWhile ki with
         |[c]=>if kC c then PR.ok (w,.str [39,c,39]) r4 else .bad
         |_=>PR.err r2
 else .bad)) {R:List PS}:
 ì (ú (n+4)) (sD mU 8) [some (.obj i),some nv,some (.int (ps t r2)),some (.str w),some (.str wanted),none,none,none] (λp _=>Er p) (hp H i t r3 L) (iL (ì (ú (n+4)) R) (λp _=>Er p) (am Q)):=by
 have QZ:(r3.takeWhile ki).all (λc=>c != 92)=true:=by
  cases h:(r3.takeWhile ki).all (λc=>c != 92) with
  |true=>rfl
  |false=>exact (pf h q).elim
 replace q:=pt QZ q
 simp_all_arith
 refine FM hl hi hs3 QZ (λe l=> ?_) (λd r' e l=> ?_)
 ·rw[e] at q
  exact eg hl hi ŏ q
 ·rw[e] at q
  generalize r3.takeWhile ki=sg at q
  refine GP (λh=> ?_) (λh=> ?_)
  ·have q:EP t Er r2:=by
    cases sg with
    |nil=>exact q
    |cons c u=>cases u with
     |nil=>exact nomatch (show true=false from h)
     |cons c' u=>exact q
   exact eg hl hi ŏ q
  ·obtain⟨c,rfl⟩:=List.length_eq_one_iff.mp (cF (è.mp h))
   have hc:kC c=true:=by
    cases h:kC c with
    |true=>rfl
    |false=>exact (pf h q).elim
   exact OI hc (č (Ó rfl) (č (Ó rfl) (wn (Iv (pt (P:=PR.on (SK i t H L Q) (EP t Er)) hc q)))))
theorem OE (hl:t.length<=small)(hi:i<H.length)(hr:r <:+ t){names:List (List Nat)}(q:PR.on (SK i t H L Q) (EP t Er) (aJ (names.contains ·) r)):
 Call (ú (n+5)) (λp _=>Er p) 39 Q [.obj i,.lst (names.map .str)] (hp H i t r L):=by
 refine call rfl ?_
 simp_all_arith
 refine DQ hl hi hr ?_
 have Mf:=ŷ hr
 have hw:=À (iy r) (À (a9 hr) hl)
 delta aJ at q
 generalize (ç r).1=w at q hw
 generalize (ç r).2=r1 at q Mf
 refine vg (È not (CZ▸j5 V.str w LZ)) ?_
 cases Hb:LZ.lookup w with
 |none=>
  rw[Hb] at q
  exact eg hl hi ŏ q
 |some wanted=>
  rw[Hb] at q
  refine OC (CZ▸(lA V.str w LZ).trans (È (Option.map V.str) Hb)) ?_
  refine b5 q (λq _=>I0 (we q)) λq _=> ?_
  simp_all_arith
  refine MV hl hi Mf ?_
  have vh:=ab Mf
  dsimp only at q
  generalize aG r1=r2 at q vh
  rw[Po] at q
  simp_all_arith
  refine b5 q (λq _=> ?_) λq _=> ?_
  ·simp_all_arith
   exact Za hl hi vh (Nr hl hi vh hw q)
  ·rw[JP] at q
   refine kJ q (λ_ q=> ?_) λ_ q=>yw hl hi vh hw q
   simp_all_arith
   refine DP hl hi vh (by decide) (λh=> ?_) λh=>yw hl hi vh hw (pf h q)
   exact Nq hl hi vh (ĩ vh 1) (pt h q)
end
noncomputable def qN (prev:List St):Bool:=match prev.getLast? with|some s=>qM.contains s.1|none=>false
noncomputable def ŗ (nm:List Nat->Bool):Nat->List St->List Nat->PR (List St)
 |0,_,_=> .bad
 |f+1,prev,r=>if aG r==[] then (if prev.isEmpty then .err (aG r) else .ok prev (aG r))
  else if qN prev then .err (aG r)
  else match aJ nm (aG r) with
   | .err r'=> .err r'
   | .bad=> .bad
   | .ok s r2=>if aG r2==[] then ŗ nm f (prev++[s]) (aG r2) else if [59].isPrefixOf (aG r2) then ŗ nm f (prev++[s]) ((aG r2).drop 1) else .err (aG r2)
section
variable {n i c d:Nat} {H L l:AH} {E:Ĩ} {Q:QT} {t r:List Nat} {Er:V->Prop} {A B:AH->Prop} {ρ:Loc}
theorem isE (r:List Nat):r.isEmpty=(r==[]):=by cases r<;>rfl
theorem dC {α:Type}{P:α->Prop}{x y:α}{b:Bool}(a:P x)(c:P y):P (if b=true then x else y):=by
 cases b with
 |true=>exact a
 |false=>exact c
theorem uf {nm:List Nat->Bool}(hr:r <:+ t):PR.on (λs r'=>r' <:+ t∧s.1=(ç r).1) (λ_=>True) (aJ nm r)∨aJ nm r= .bad:=by
 have h1:=ŷ hr
 have h2:=ab h1
 have h3:=ĩ h2 1
 have P:∀{x:PR St},PR.on (λs r'=>r' <:+ t∧s.1=(ç r).1) (λ_=>True) x->PR.on (λs r'=>r' <:+ t∧s.1=(ç r).1) (λ_=>True) x∨x= .bad:= .inl
 delta aJ
 cases LZ.lookup (ç r).1 with
 |none=>exact P trivial
 |some w=>
  refine dC (P:=λx:PR St=>PR.on _ _ x∨x= .bad) (P ⟨h1,rfl⟩) (dC (P:=λx:PR St=>PR.on _ _ x∨x= .bad) (dC (P:=λx:PR St=>PR.on _ _ x∨x= .bad) (P trivial) ?_) (dC (P:=λx:PR St=>PR.on _ _ x∨x= .bad) (dC (P:=λx:PR St=>PR.on _ _ x∨x= .bad) ?_ (.inr rfl)) (dC (P:=λx:PR St=>PR.on _ _ x∨x= .bad) (P trivial) (dC (P:=λx:PR St=>PR.on _ _ x∨x= .bad) (P trivial) (P ⟨ŷ h2,rfl⟩)))))
  ·cases sX ((aG (ç r).2).takeWhile λc=>tj.contains c) with
   |none=>exact .inr rfl
   |some k=>exact P ⟨qE h2 _,rfl⟩
  ·have h4:=qE h3 ki
   generalize ((aG (ç r).2).drop 1).takeWhile ki=a
   generalize ((aG (ç r).2).drop 1).dropWhile ki=b at h4
   cases b with
   |nil=>exact P trivial
   |cons d r4=>cases a with
    |nil=>exact P trivial
    |cons c a=>cases a with
     |nil=>exact dC (P:=λx:PR St=>PR.on _ _ x∨x= .bad) (P ⟨eU h4,rfl⟩) (.inr rfl)
     |cons=>exact P trivial
theorem pE {nm:List Nat->Bool}{s:St}{r r':List Nat}(hr:r <:+ t)(h:aJ nm r= .ok s r'):r' <:+ t:=by
 have:=uf (nm:=nm) hr
 rw[h] at this
 exact this.elim (·.1) nofun
theorem w5 {nm:List Nat->Bool}{s:St}{r r':List Nat}(h:aJ nm r= .ok s r'):s.1=(ç r).1:=by
 have:=uf (nm:=nm) (đ r)
 rw[h] at this
 exact this.elim (·.2) nofun
theorem Ir {vs:List V}(q:Q (.lst vs) (hp H i t r (none::l))):sM Q H.length (hp H i t r (some (.list vs)::l)):=xX fF (by rw[pU];exact q)
theorem Js {k:List Nat}:bh .in_ (.str k) (.tup Cz) H=some (qM.contains k):=by rw[Ft];exact CB
theorem rz {α:Type}{l:List α}(h:l.isEmpty=false):∃s,l.getLast? =some s:=by
 cases hx:l.getLast? with
 |none=>rw[Ŕ.mp hx] at h;contradiction
 |some s=>exact⟨s,rfl⟩
theorem uv {s:St}{prev:List St}(h:prev.getLast? =some s):(prev.map Ū).getLast? =some (Ū s):=by rw[jz,h];rfl
abbrev Q3 (i:Nat)(t:List Nat)(H:AH)(Q:QT)(s:List St)(r':List Nat):Prop:=∀l,Q (.lst (s.map Ū)) (hp H i t r' l)
inductive R7 (i:Nat)(t:List Nat)(H:AH)(Q:QT)(Er:V->Prop)(names:List (List Nat)):Nat->Loc->AH->Prop
 |mk {m:Nat} {prev:List St} {r1:List Nat} {l:AH}:r1 <:+ t->prev.length+m<=small->(∀s∈prev,s.1.length<=small)->PR.on (Q3 i t H Q) (EP t Er) (ŗ (names.contains ·) m prev r1)->R7 i t H Q Er names m [some (.obj i),some (.lst (names.map .str)),some (.obj H.length)] (hp H i t r1 (some (.list (prev.map Ū))::l))
theorem R7.base {names:List (List Nat)}{F:Nat}(h:H[i]? =some (some (cu t r)))(hr:r <:+ t)(hF:F<=small)(q:PR.on (Q3 i t H Q) (EP t Er) (ŗ (names.contains ·) F [] r)):R7 i t H Q Er names F [some (.obj i),some (.lst (names.map .str)),some (.obj H.length)] (H++[some (.list [])]):=
 zv h▸@R7.mk i t H Q Er names F [] r [] hr (by rw[Ŀ,Ľ];exact hF) nofun q
theorem k_steps (hl:t.length<=small)(hr:r <:+ t)(h:H[i]? =some (some (cu t r))){names:List (List Nat)}{F:Nat}(hF:F<=small)(q:PR.on (Q3 i t H Q) (EP t Er) (ŗ (names.contains ·) F [] r)):
 Call (ú (n+6)) (λp _=>Er p) 40 Q [.obj i,.lst (names.map .str)] H:=by
 have hi:=ai h
 refine call rfl ?_
 refine bQ (R7 i t H Q Er names) (m:=F) (.base h hr hF q) λm ρ H' I=> ?_
 induction I with| @mk prev r1 l h1 hm hps q=> ?_
 intro K kk
 cases m with
 |zero=>exact q.elim
 |succ m=>
 have h2:=ab h1
 simp_all_arith
 refine MV hl hi h1 ?_
 simp_all_arith
 refine wz hi h2 (vg (isE _) (b5 q (λq _=> ?_) λq _=> ?_))
 ·refine bo (z6 fF) (vg (show (!!(prev.map Ū).isEmpty)=prev.isEmpty by rw[Rf,İ]) (b5 q (λq _=> ?_) λq _=>kk.r (Ir (q _))))
  simp_all_arith
  exact eg hl hi ŏ q
 have rest:PR.on (Q3 i t H Q) (EP t Er) (match aJ (names.contains ·) (aG r1) with
  | .err r'=> .err r'
  | .bad=> .bad
  | .ok s r2=>if aG r2==[] then ŗ (names.contains ·) m (prev++[s]) (aG r2) else if [59].isPrefixOf (aG r2) then ŗ (names.contains ·) m (prev++[s]) ((aG r2).drop 1) else .err (aG r2))->ì (ú (n+5)) ((hZ D4 1).drop 3) [some (.obj i),some (.lst (names.map .str)),some (.obj H.length)] (λp _=>Er p) (hp H i t (aG r1) (some (.list (prev.map Ū))::l)) K:=λq=>by
  refine bL fF rfl (OE hl hi h2 ?_)
  cases kq:aJ (names.contains ·) (aG r1) with
  |err r'=>rw[kq] at q;exact q
  |bad=>rw[kq] at q;exact q
  |ok s r3=>
   rw[kq] at q
   intro l'
   have h3:=pE h2 kq
   have h4:=ab h3
   have Mf:s.1.length<=small:=by rw[w5 kq];exact À (iy _) (À (a9 h2) hl)
   have Y2:(prev++[s]).map Ū=prev.map Ū++[Ū s]:=Ú
   have next:∀r4,r4 <:+ t->PR.on (Q3 i t H Q) (EP t Er) (ŗ (names.contains ·) m (prev++[s]) r4)->K .next [some (.obj i),some (.lst (names.map .str)),some (.obj H.length)] (hp H i t r4 (some (.list (prev.map Ū++[Ū s]))::(l++l'))):=λr4 h4 q=>by
    rw[←Y2]
    exact kk.n ⟨m,é m,.mk h4 (by rw[Ã,þ,ą _ m];exact hm) (λs' zV=>(ö.mp zV).elim (hps s') λz=>Ô.mp z▸Mf) q⟩
   refine Ee (by rw[Â];exact æ (dG (Ï _ m)) (À (À hm (Å _)) (by decide))) ?_
   simp_all_arith
   refine MV hl hi h3 ?_
   simp_all_arith
   refine wz hi h4 (vg (È not (isE _)) ?_)
   refine gC q (λq _=>next _ h4 q) λq _=> ?_
   simp_all_arith
   refine DP hl hi h4 (by decide) (λh=>next _ (ĩ h4 1) (pt h q)) (λh=> ?_)
   simp_all_arith
   exact eg hl hi ŏ (pf (P:=PR.on (Q3 i t H Q) (EP t Er)) h q)
 refine bo (z6 fF) (GP (λjJ=> ?_) λhe=>rest (pf (show qN prev=false by rw[İ] at he;rw[ř.mp he];rfl) q))
 obtain⟨s0,Vs⟩:=rz (İ▸jJ:prev.isEmpty=false)
 have hli:qN prev=qM.contains s0.1:=by unfold qN;rw[Vs]
 rw[hli] at q
 refine gB fF (eX (uv Vs) (bo Js (b5 q (λq _=> ?_) λq _=>rest q)))
 refine gB fF (eX (uv Vs) (cf (by decide) (hps s0 (fu Vs)) ?_))
 simp_all_arith
 exact eg hl hi ŏ q
end
noncomputable def Đ (t:List Nat):Nat->Nat->List (Nat×Nat)
 |0,_=>[]
 |f+1,a=>if t.length<=a then [] else match ü [10] (t.drop a) (t.length+1-a) with
  |some k=>(a,a+k)::Đ t f (a+k+1)
  |none=>[(a,t.length)]
noncomputable def lj (e:Nat×Nat):V:= .tup [.int (e.1:Int),.int (e.2:Int)]
noncomputable def ŀ (l:List Nat):Bool:=aH ij (fH ij l)==[]||[47,47].isPrefixOf l
theorem iB {t:List Nat}(f a:Nat)(h:a<t.length):Đ t (f+1) a=match ü [10] (t.drop a) (t.length+1-a) with
 |some k=>(a,a+k)::Đ t f (a+k+1)
 |none=>[(a,t.length)]:=by rw[Đ,Ñ (ÁY.mpr h)]
theorem rA {t:List Nat}{f a k:Nat}(h:a<t.length)(e:ü [10] (t.drop a) (t.length+1-a)=some k):Đ t (f+1) a=(a,a+k)::Đ t f (a+k+1):=by rw[iB f a h,e]
theorem rB {t:List Nat}{f a:Nat}(h:a<t.length)(e:ü [10] (t.drop a) (t.length+1-a)=none):Đ t (f+1) a=[(a,t.length)]:=by rw[iB f a h,e]
theorem lX {t:List Nat}{f a:Nat}(h:t.length<=a):Đ t f a=[]:=by
 cases f with
 |zero=>rfl
 |succ f=>exact Î h
section
variable {n i c d:Nat} {H L l:AH} {E:Ĩ} {Q:QT} {t r:List Nat} {Er:V->Prop} {A B:AH->Prop} {ρ:Loc}
theorem DE {l:List Nat}(q:Q (.bool (ŀ l)) H):Call (ú (n+1)) E 35 Q [.str l] H:=by
 refine call rfl ?_
 unfold ŀ at q
 refine bC (λh=> ?_) λh=> ?_
 ·rw[show (aH ij (fH ij l)==[])=true from h] at q;rw[show (aH ij (fH ij l)==[])=true from h];exact q
 ·rw[show (aH ij (fH ij l)==[])=false from h] at q;exact q
theorem uD {w:List Nat}{a:Nat}{z:Option Nat}(ha:a<=t.length)(hl:t.length<=small)(hw:w≠[])(hf:ü w (t.drop a) (t.length+1-a)=z)(q:Q (.int (Hz (a:Int) z)) H):lu t w (a:Int) H Q:=by
 unfold lu
 refine⟨ł _,ľ.mpr (aU (À ha hl)),hw,?_⟩
 have e:mA w t a=Hz (a:Int) z:=by
  unfold mA
  rw[Ñ (Ł.mpr ha),hf]
  cases z<;>rfl
 rw[show ((a:Nat):Int).toNat=a from rfl,e];exact q
theorem Ka {vs:List V}{v:V}(hb:vs.length<ę)(q:Q .none (H++[some (.list (vs++[v]))])):oj 0 H.length [v] (H++[some (.list vs)]) Q:=eK ć hb (by rw[cv];exact q)
theorem EM {vs:List V}(q:Q (.lst vs) (H++[none])):sM Q H.length (H++[some (.list vs)]):=xX ć (by rw[cv];exact q)
inductive VI (t:List Nat)(H:AH):Nat->Loc->AH->Prop
 |mk {m:Nat} {ss:List (Nat×Nat)} {a:Nat} {y:Option V}:ss.length<=a->a<=t.length+1->t.length+1<=m+a->ss++Đ t m a=Đ t (t.length+1) 0->VI t H m [some (.str t),some (.obj H.length),some (.int (a:Int)),y] (H++[some (.list (ss.map lj))])
theorem Jj (hl:t.length<=small)(q:∀l,Q (.lst ((Đ t (t.length+1) 0).map lj)) (H++l)):Call (ú (n+1)) E 34 Q [.str t] H:=by
 refine call rfl ?_
 refine bQ (VI t H) (m:=t.length+1) (@VI.mk t H _ [] 0 none (Å _) (ý _) (Å _) rfl) λm ρ H' I=> ?_
 induction I with| @mk ss a y h1 h2 h3 h4=> ?_
 intro K kk
 refine bC (λh=> ?_) λh=> ?_
 ·have jD:=ï.mp (Ā h)
  obtain⟨m,rfl⟩:=Bz (λz:m=0=>absurd (æ jD (ĵ h3)) (by rw[z,Ľ];exact aq _))
  have next:∀b,a<=b->b<=t.length->(ss++[(a,b)])++Đ t m (b+1)=Đ t (t.length+1) 0->oj 0 H.length [.tup [.int (a:Int),.int (b:Int)]] (H++[some (.list (ss.map lj))]) (kEx [some (.str t),some (.obj H.length),some (.int (a:Int)),some (.int (b:Int))] (iL (ì (ú n) ((hZ D7 2).drop 3)) E K)):=λb RP hb e=>by
   refine Ka (by rw[Â];exact Í (À h1 h2) (Í (Ì hl) (by decide))) (ň rfl (kk.n ⟨m,é m,?_⟩))
   have:= @VI.mk t H m (ss++[(a,b)]) (b+1) (some (.int (b:Int))) (by rw[Ã];exact Ì (À h1 RP)) (Ì hb) (À h3 (by rw[Nat.succ_add];exact Ì (Ý RP m))) e
   rw[Ú] at this
   exact this
  cases hf:ü [10] (t.drop a) (t.length+1-a) with
  |some k=>
   have hk:=dY hf
   rw[ã] at hk
   refine uD (í jD) hl (by decide) hf (bL ć rfl ?_)
   exact next (a+k) (Ï ..) (ą k a▸oy (í jD) (ĵ hk)) (by rw[Æ];exact (È (ss++·) (rA jD hf)).symm.trans h4)
  |none=>
   refine uD (í jD) hl (by decide) hf (bL ć rfl ?_)
   exact next t.length (í jD) (Å _) (by rw[Æ,lX (å _)];exact (È (ss++·) (rB jD hf)).symm.trans h4)
 ·have e:=ľ.mp (Ť.mp (iI h))
  rw[lX e,à] at h4
  refine EM ?_
  rw[h4];exact q _
end
structure Dr where
 heads:List Int
 pat:Option (List Nat)
 steps:Option (List St)
 start:Nat
 line:Nat
structure RS where
 row:Nat
 defs:List (List Nat×List Nat)
 conds:List (List Nat×Bool)
 dflt:Bool
 drafts:List Dr
 scopes:List (List Int×Nat)
 tail:List Nat
noncomputable def vL (l:List Nat):V:= .rcd 6 [(5,.str l)]
noncomputable def Aj:Option (List Nat)->V
 |none=> .none
 |some l=>vL l
noncomputable def B8:Option (List St)->V
 |none=> .none
 |some l=> .lst (l.map Ū)
noncomputable def VD (d:Dr):V:= .tup [.tup (d.heads.map .int),Aj d.pat,B8 d.steps,.int (d.start:Int),.int (d.line:Int)]
noncomputable def Ň (e:List Nat×Bool):V:= .tup [.str e.1,.bool e.2]
noncomputable def cM (e:List Int×Nat):V:= .tup [.lst (e.1.map .int),.int (e.2:Int)]
noncomputable def sY (e:List Nat×List Nat):List Nat×V:=(e.1,vL e.2)
noncomputable def GN (x:Nat->Nat)(t:List Nat)(ls:List (Nat×Nat))(s:RS):Nat->O
 |0=> .inst 8 [(5,.str t),(16,.lst (ls.map lj)),(17,.int (s.row:Int)),(12,.obj (x 1)),(9,.obj (x 2)),(14,.bool s.dflt),(18,.obj (x 3)),(19,.obj (x 4)),(15,.str s.tail)]
 |1=> .dict (s.defs.map sY)
 |2=> .list (s.conds.map Ň)
 |3=> .list (s.drafts.map VD)
 |_=> .list (s.scopes.map cM)
structure Rd (H:AH)(x:Nat->Nat)(t:List Nat)(ls:List (Nat×Nat))(s:RS):Prop where
 at_:∀k,k<5->H[x k]? =some (some (GN x t ls s k))
 inj:∀j k,j<5->k<5->x j=x k->j=k
 le:∀k,x 0<=x k
def Up (B:Nat)(H H':AH):Prop:=(∀j,j<B->H'[j]? =H[j]?)∧H.length<=H'.length
theorem Up.refl (B:Nat)(H:AH):Up B H H:=⟨λ_ _=>rfl,Å _⟩
theorem Up.trans {B:Nat}{H H' Q6:AH}(a:Up B H H')(b:Up B H' Q6):Up B H Q6:=⟨λj hj=>(b.1 j hj).trans (a.1 j hj),À a.2 b.2⟩
theorem Up.app {B:Nat}{H:AH}(h:B<=H.length)(l:AH):Up B H (H++l):=⟨λj hj=>ÿ (æ hj h),by rw[Ã];exact Ï ..⟩
theorem Up.set {B i:Nat}{H:AH}(h:B<=i)(y:Option O):Up B H (H.set i y):=⟨λj hj=>ñ (dD (æ hj h)),ð Ġ.symm⟩
section
variable {H H':AH} {x:Nat->Nat} {t:List Nat} {ls:List (Nat×Nat)} {s:RS}
theorem Rd.keep (R:Rd H x t ls s)(k:∀j,j<5->H'[x j]? =H[x j]?):Rd H' x t ls s:=⟨λj hj=>(k j hj).trans (R.at_ j hj),R.inj,R.le⟩
theorem Rd.app (R:Rd H x t ls s)(l:AH):Rd (H++l) x t ls s:=R.keep λj hj=>ÿ (ai (R.at_ j hj))
theorem Rd.set (R:Rd H x t ls s){i:Nat}{y:Option O}(hi:∀k,k<5->x k≠i):Rd (H.set i y) x t ls s:=R.keep λj hj=>ñ (hi j hj).symm
theorem Rd.up (R:Rd H x t ls s)(k:Nat)(s':RS)(hk:k<5)(e:∀j,j≠k->GN x t ls s' j=GN x t ls s j):Rd (H.set (x k) (some (GN x t ls s' k))) x t ls s':=⟨λj hj=>by
 by_cases h:j=k
 ·subst h;exact dR (R.at_ j hj) _
 ·rw[ñ λz=>h (R.inj j k hj hk z.symm),e j h];exact R.at_ j hj,R.inj,R.le⟩
theorem Rd.lt (R:Rd H x t ls s){k:Nat}(hk:k<5):x k<H.length:=ai (R.at_ k hk)
end
structure RC (B:AH)(x:Nat->Nat)(t:List Nat)(ls:List (Nat×Nat))(i:Nat)(tt:List Nat)(s:RS)(r:List Nat)(H:AH):Prop where
 R:Rd H x t ls s
 c:H[i]? =some (some (cu tt r))
 h:r <:+ tt
 u:Up (x 0) B H
 n:∀k,k<5->x k≠i
 g:x 0<=i
section
variable {B H H':AH} {x:Nat->Nat} {t tt r:List Nat} {ls:List (Nat×Nat)} {s:RS} {i n c:Nat} {Q:QT} {E:Ĩ} {Er:V->Prop}
theorem RC.cur (C:RC B x t ls i tt s r H){r':List Nat}(h:r' <:+ tt):RC B x t ls i tt s r' (H.set i (some (cu tt r'))):=⟨C.R.set C.n,dR C.c _,h,C.u.trans (Up.set C.g _),C.n,C.g⟩
theorem RC.app (C:RC B x t ls i tt s r H)(l:AH):RC B x t ls i tt s r (H++l):=⟨C.R.app l,fJ C.c l,C.h,C.u.trans (Up.app (í (C.R.lt (by decide))) l),C.n,C.g⟩
theorem RC.hp (C:RC B x t ls i tt s r H){r':List Nat}(h:r' <:+ tt)(l:AH):RC B x t ls i tt s r' (hp H i tt r' l):=(C.cur h).app l
theorem RC.up (C:RC B x t ls i tt s r H)(k:Nat)(s':RS)(hk:k<5)(e:∀j,j≠k->GN x t ls s' j=GN x t ls s j):RC B x t ls i tt s' r (H.set (x k) (some (GN x t ls s' k))):=⟨C.R.up k s' hk e,by rw[ñ (C.n k hk)];exact C.c,C.h,C.u.trans (Up.set (C.R.le k) _),C.n,C.g⟩
theorem qJ (C:RC B x t ls i tt s r H)(q:Q (.bool r.isEmpty) H):Call (ú (n+1)) E 4 Q [.obj i] H:=wu C.h C.c q
theorem qI (C:RC B x t ls i tt s r H)(q:Q (.str (r.take 1)) H):Call (ú (n+1)) E 5 Q [.obj i] H:=wr C.h C.c q
theorem uc (hl:tt.length<=small)(C:RC B x t ls i tt s r H){w:List Nat}(hw:w.length<=small)(q:Q (.bool (w.isPrefixOf r)) H):Call (ú (n+1)) E 6 Q [.obj i,.str w] H:=nr hl C.h C.c hw q
theorem NT (C:RC B x t ls i tt s r H){u:List Nat}(e:r=c::u)(q:∀H',RC B x t ls i tt s u H'->Q (.str [c]) H'):Call (ú (n+2)) E 7 Q [.obj i] H:=by
 subst e
 exact DB C.h C.c (q _ (C.cur (eU C.h)))
theorem qH (hl:tt.length<=small)(C:RC B x t ls i tt s r H){w:List Nat}(hw:w.length<=small)(q1:w.isPrefixOf r=true->∀H',RC B x t ls i tt s (r.drop w.length) H'->Q (.bool true) H')(q2:w.isPrefixOf r=false->Q (.bool false) H):Call (ú (n+2)) E 8 Q [.obj i,.str w] H:=
 qO hl C.h C.c hw (λh=>q1 h _ (C.cur (ĩ C.h _))) q2
theorem vN (hl:tt.length<=small)(C:RC B x t ls i tt s r H)(q:∀H',RC B x t ls i tt s (aG r) H'->Q .none H'):Call (ú (n+2)) E 10 Q [.obj i] H:=Ss hl C.h C.c (q _ (C.cur (ab C.h)))
theorem wf (hl:tt.length<=small)(C:RC B x t ls i tt s r H)(q:∀H',RC B x t ls i tt s (ç r).2 H'->Q (.str (ç r).1) H'):Call (ú (n+2)) E 11 Q [.obj i] H:=wt hl C.h C.c (q _ (C.cur (ŷ C.h)))
theorem bk (hl:tt.length<=small)(C:RC B x t ls i tt s r H){k:Nat}{w:V}(hk:k<=tt.length)(q:Er (fA tt k)):Call (ú (n+3)) (λp _=>Er p) 33 Q [.obj i,w,.int (k:Int)] H:=kF hl C.c hk q
theorem fN (hl:tt.length<=small)(C:RC B x t ls i tt s r H):(ç r).1.length<=small:=À (iy r) (À (a9 C.h) hl)
noncomputable def vU:V->Option V
 | .tup [a,_]=>some a
 |_=>none
theorem pW (l:List (List Nat×Bool)):(l.map Ň).filterMap vU=(l.map (·.1)).map .str:=by
 induction l with
 |nil=>rfl
 |cons a l ih=>exact È (V.str a.1::·) ih
theorem rG {vs:List V}{j:Nat}(h:H[j]? =some (some (.list vs))):ŵ (.obj j) H=some vs:=È qP h
theorem rF (R:Rd H x t ls s)(hc:s.conds.length<=ę)(q:Q (.lst ((s.conds.map (·.1)).map .str)) H):Call (ú (n+1)) E 42 Q [.obj (x 0)] H:=by
 refine call rfl ?_
 refine Ń (R.at_ 0 (by decide)) rfl ?_
 rw[←pW] at q
 refine eh vU (rG (R.at_ 2 (by decide))) rfl (by rw[Â];exact hc) q λy hy K k=> ?_
 obtain⟨e,he,rfl⟩:=Þ.mp hy
 exact k
end
end
local macro_rules
  | `(tactic| simp_all_arith!) => `(tactic| repeat first | refine Ń (RC.c (by assumption)) rfl ?_ | refine mo (RC.c (by assumption)) rfl ?_ | refine Ń (Rd.at_ (RC.R (by assumption)) 0 (Nat.le_of_ble_eq_true rfl)) rfl ?_ | refine mo (Rd.at_ (RC.R (by assumption)) 0 (Nat.le_of_ble_eq_true rfl)) rfl ?_)
section
open PySem PySem.W PyProof.Rows
set_option backward.match.sparseCases false
section
variable {B H H':AH} {x:Nat->Nat} {t tt r:List Nat} {ls:List (Nat×Nat)} {s:RS} {i n c:Nat} {Q:QT} {E:Ĩ} {Er:V->Prop}
theorem RC.up0 (C:RC B x t ls i tt s r H)(row:Nat)(df:Bool)(tl:List Nat):RC B x t ls i tt {s with row:=row,dflt:=df,tail:=tl} r (H.set (x 0) (some (GN x t ls {s with row:=row,dflt:=df,tail:=tl} 0))):=C.up 0 _ (by decide) λj h=>by
 rcases j with _|_|_|_|j
 ·exact absurd rfl h
 all_goals rfl
theorem RC.up1 (C:RC B x t ls i tt s r H)(df:List (List Nat×List Nat)):RC B x t ls i tt {s with defs:=df} r (H.set (x 1) (some (.dict (df.map sY)))):=C.up 1 {s with defs:=df} (by decide) λj h=>by
 rcases j with _|_|_|_|j
 ·rfl
 ·exact absurd rfl h
 all_goals rfl
theorem RC.up2 (C:RC B x t ls i tt s r H)(cd:List (List Nat×Bool)):RC B x t ls i tt {s with conds:=cd} r (H.set (x 2) (some (.list (cd.map Ň)))):=C.up 2 {s with conds:=cd} (by decide) λj h=>by
 rcases j with _|_|_|_|j
 ·rfl
 ·rfl
 ·exact absurd rfl h
 all_goals rfl
theorem Pn:cs "option" =[111,112,116,105,111,110]:=by decide
theorem Pp:cs "nodefault" =[110,111,100,101,102,97,117,108,116]:=by decide
theorem Àc:cs "x" =[120]:=by decide
noncomputable def HG (r:List Nat):Bool:=[[],[32],[9]].contains (r.take 1)
noncomputable def qv (r:List Nat):Bool:=[[32],[9]].contains (r.take 1)
theorem IR:bh .nin (.str (r.take 1)) (.tup [.str [],.str [32],.str [9]]) H=some (!HG r):=rfl
theorem yX:bh .nin (.str (r.take 1)) (.tup [.str [32],.str [9]]) H=some (!qv r):=rfl
noncomputable def eb (word:List Nat):Nat->List (List Nat×Bool)->Bool->List Nat->PR (List (List Nat×Bool)×Bool)
 |0,_,_,_=> .bad
 |f+1,cd,df,r=>if r==[] then .ok (cd,df) r else
  if (ç r).1==[] then .err r
  else if word==cs "option" then (if (ç r).1==cs "nodefault" then (if HG (ç r).2 then eb word f cd false (aG (ç r).2) else .err (ç r).2) else .err r)
  else if (cd.map (·.1)).contains (ç r).1 then .err r
  else if HG (ç r).2 then eb word f (cd++[((ç r).1,word==cs "x")]) df (aG (ç r).2) else .err (ç r).2
noncomputable def ww (w:List Nat):Bool:=[cs "s",cs "x",cs "option"].contains w
theorem Fb {w:List Nat}:bh .nin (.str w) (.tup [.str [115],.str [120],.str [111,112,116,105,111,110]]) H=some (!ww w):=rfl
noncomputable def aK (F:Nat)(cd:List (List Nat×Bool))(df:Bool)(r:List Nat):PR (List (List Nat×Bool)×Bool):=
 let r0:=r.drop 1
 let word:=(ç r0).1
 if ww word then
  (if aG (ç r0).2==[] then .err (aG (ç r0).2) else eb word F cd df (aG (ç r0).2))
 else .err r
abbrev DK (B:AH)(x:Nat->Nat)(t:List Nat)(ls:List (Nat×Nat))(s:RS)(Q:QT)(oD:List (List Nat×Bool)×Bool)(_:List Nat):Prop:=∀H',Rd H' x t ls {s with conds:=oD.1,dflt:=oD.2}->Up (x 0) B H'->Q .none H'
inductive I47 (B:AH)(x:Nat->Nat)(t:List Nat)(ls:List (Nat×Nat))(i:Nat)(tt:List Nat)(s:RS)(Q:QT)(Er:V->Prop)(word:List Nat)(p:V)(m:Nat):Loc->AH->Prop
 |mk {H':AH} {cd:List (List Nat×Bool)} {df:Bool} {r3:List Nat} {y1 y2:Option V}:RC B x t ls i tt {s with conds:=cd,dflt:=df} r3 H'->cd.length+m<=small+small->PR.on (DK B x t ls s Q) (EP tt Er) (eb word m cd df r3)->I47 B x t ls i tt s Q Er word p m [some (.obj (x 0)),some (.obj i),some p,some (.str word),y1,y2] H'
theorem OL (hl:tt.length<=small){u:List Nat}(C:RC B x t ls i tt s (c::u) H)(hc:s.conds.length<=small){F:Nat}(hF:F<=small)(q:PR.on (DK B x t ls s Q) (EP tt Er) (aK F s.conds s.dflt (c::u))):Call (ú (n+4)) (λp _=>Er p) 47 Q [.obj (x 0),.obj i] H:=by
 delta aK at q
 replace q:PR.on (DK B x t ls s Q) (EP tt Er) (if ww (ç u).1 then (if aG (ç u).2==[] then .err (aG (ç u).2) else eb (ç u).1 F s.conds s.dflt (aG (ç u).2)) else .err (c::u)):=q
 refine call rfl ?_
 simp_all_arith!
 refine NT C rfl λH1 C1=> ?_
 simp_all_arith!
 have hw:=fN hl C1
 refine wf hl C1 λH2 C2=>bo Fb (gC q (λq _=> ?_) λq _=>bk hl C2 ŏ q)
 generalize (ç u).1=word at q hw
 simp_all_arith!
 refine vN hl C2 λH3 C3=> ?_
 simp_all_arith!
 refine qJ C3 (vg (isE _) (b5 q (λq _=>cf (by decide) hw ?_) λq _=> ?_))
 ·simp_all_arith!
  exact bk hl C3 ŏ q
 refine bQ (I47 B x t ls i tt s Q Er word (.int (ps tt (c::u)))) (m:=F) (.mk C3 (Ë hc hF) q) λm ρ H' I=> ?_
 induction I with| @mk H' cd df r3 y1 y2 C hm q=> ?_
 intro K kk
 cases m with
 |zero=>exact q.elim
 |succ m=>
 simp_all_arith!
 refine qJ C (vg (È not (isE _)) (gC q (λq _=>q _ C.R C.u) λq _=> ?_))
 simp_all_arith!
 have hn:=fN hl C
 refine wf hl C λH4 C4=> ?_
 refine b5 q (λq _=>cf (by decide) hw (bk hl C4 ŏ q)) λq _=> ?_
 rw[Pn] at q
 have fin:∀H5 VE XG,RC B x t ls i tt {s with conds:=VE,dflt:=XG} (ç r3).2 H5->VE.length+m<=small+small->PR.on (DK B x t ls s Q) (EP tt Er) (if HG (ç r3).2 then eb word m VE XG (aG (ç r3).2) else .err (ç r3).2)->ì (ú (n+3)) ((hZ D0 6).drop 4) [some (.obj (x 0)),some (.obj i),some (.int (ps tt (c::u))),some (.str word),some (.int (ps tt r3)),some (.str (ç r3).1)] (λp _=>Er p) H5 K:=λH5 VE XG C5 h5 q=>by
  simp_all_arith!
  refine qI C5 (bo IR (gC q (λq _=> ?_) λq _=> ?_))
  ·simp_all_arith!
   exact vN hl C5 λH6 C6=>kk.n ⟨m,é m,.mk C6 h5 q⟩
  ·simp_all_arith!
   exact bk hl C5 ŏ q
 refine b5 q (λq _=> ?_) λq _=> ?_
 ·rw[Pp] at q
  refine gC q (λq _=> ?_) λq _=>cf (by decide) hn (bk hl C4 ŏ q)
  exact Ae (C4.R.at_ 0 (by decide)) rfl rfl (fin _ _ _ (C4.up0 s.row false s.tail) (ĵ hm) q)
 ·simp_all_arith!
  refine rF C4.R (À (À (Ï ..) hm) (by decide)) (bo mw (b5 q (λq _=>cf (by decide) hn (č (À (Ë (by rw[Ã];exact Ë (Å _) hn) (Å _)) (by decide)) (bk hl C4 ŏ q))) λq _=> ?_))
  rw[Àc] at q
  have C5:=C4.up2 (cd++[((ç r3).1,word==[120])])
  rw[Ú] at C5
  simp_all_arith!
  exact bL (C4.R.at_ 2 (by decide)) rfl (eK (C4.R.at_ 2 (by decide)) (by rw[Â];exact Í (À (Ï ..) hm) (by decide)) (fin _ _ _ C5 (by rw[Ã,þ,ą _ m];exact hm) q))
end
section
variable {B H H':AH} {x:Nat->Nat} {t tt r:List Nat} {ls:List (Nat×Nat)} {s:RS} {i n c:Nat} {Q:QT} {E:Ĩ} {Er:V->Prop}
theorem ua:∀{f:Nat} {r r':List Nat},ae f r= .stop r'->r' <:+ r
 |0,r,r',h=>by cases h;exact đ _
 |f+1,[],r',h=>by cases h;exact đ _
 |f+1,c::r,r',h=>by
  have hs:=Ă c r
  have on:∀{u:List Nat},u <:+ r->ae f u= .stop r'->r' <:+ c::r:=λhu e=>(ua e).trans (hu.trans hs)
  have e:=(kT f c r).symm.trans h
  revert e
  refine dC (P:=λz:RR=>z= .stop r'->r' <:+ c::r) (λe=> ?_) (dC (P:=λz:RR=>z= .stop r'->r' <:+ c::r) ?_ (dC (P:=λz:RR=>z= .stop r'->r' <:+ c::r) ?_ (dC (P:=λz:RR=>z= .stop r'->r' <:+ c::r) ?_ (on (đ r)))))
  ·cases e;exact đ _
  ·cases h2:cI r with
   |none=>exact nofun
   |some u=>exact on (gW h2)
  ·cases h2:cb r with
   |none=>exact nofun
   |some u=>exact on (jw h2)
  ·cases r with
   |nil=>exact nofun
   |cons d r=>exact on (Ă d r)
theorem nh {r' l:List Nat}(hr:r <:+ t)(h:aO r= .ok l r'):r' <:+ t:=by
 cases hq:ae (r.length+1) r with
 |over=>rw[Sj hq] at h;cases h
 |bad=>rw[Sn hq] at h;cases h
 |stop u=>
  cases hc:u.length==r.length with
  |true=>rw[Sm hq hc] at h;cases h
  |false=>rw[Sk hq hc] at h;cases h;exact (ua hq).trans hr
theorem m8 {k:List Nat}{v:V}:∀{es:List (List Nat×V)},(es.map (·.1)).contains k=false->iP k v es=es++[(k,v)]
 |[],_=>rfl
 |(g,y)::es,h=>by
  rw[ß,ĕ,fw,Ù] at h
  rw[iP,Ñ (λz=>h.1 z.symm),m8 h.2];rfl
theorem Àb {j:Nat}{k:List Nat}{es:List (List Nat×V)}(h:H[j]? =some (some (.dict es))):bh .in_ (.str k) (.obj j) H=some ((es.map (·.1)).contains k):=È (Xc (.str k)) h
theorem Sh {j:Nat}{k:List Nat}{v:V}{es:List (List Nat×V)}{Q:AH->Prop}(h:H[j]? =some (some (.dict es)))(hb:es.length<=ę)(q:Q (H.set j (some (.dict (iP k v es))))):ll (.obj j) (.str k) v H Q:=by
 unfold ll
 dsimp only
 rw[h];exact⟨hb,q⟩
theorem uo (l:List (List Nat×List Nat)):(l.map sY).map (·.1)=l.map (·.1):=by
 rw[õ];rfl
noncomputable def je (df:List (List Nat×List Nat))(r:List Nat):PR (List (List Nat×List Nat)):=
 let nm:=(ç r).1
 if nm==[] then .err r
 else if (df.map (·.1)).contains nm then .err r
 else if qv (ç r).2 then (match aO (aG (ç r).2) with
  | .ok raw r2=>if aG r2==[] then .ok (df++[(nm,raw)]) (aG r2) else .err (aG r2)
  | .err r'=> .err r'
  | .bad=> .bad)
 else .err (ç r).2
theorem K7 (hl:tt.length<=small)(C:RC B x t ls i tt s r H)(q:PR.on (λv r'=>∀H',RC B x t ls i tt s r' H'->Q (vL v) H') (EP tt Er) (aO r)):Call (ú (n+5)) (λp _=>Er p) 38 Q [.obj i] H:=by
 refine Lm hl C.h C.c ?_
 cases h:aO r with
 |ok v r'=>rw[h] at q;exact λl=>q _ (C.hp (nh C.h h) l)
 |err r'=>rw[h] at q;exact q
 |bad=>rw[h] at q;exact q
theorem TJ {v:V}(hl:tt.length<=small)(C:RC B x t ls i tt s r H)(q:PR.on (λv r'=>∀H',RC B x t ls i tt s r' H'->Q (vL v) H') (EP tt Er) (aO r)):Call (ú (n+6)) (λp _=>Er p) 44 Q [v,.obj i] H:=
 call rfl (K7 hl C (Q:=W7 (L6 44 [v,.obj i]) (am Q)) q)
theorem TI {v:V}(hl:tt.length<=small)(C:RC B x t ls i tt s r H)(q:PR.on (λv r'=>∀H',RC B x t ls i tt s r' H'->Q (vL v) H') (EP tt Er) (aO r)):Call (ú (n+6)) (λp _=>Er p) 43 Q [v,.obj i] H:=
 call rfl (K7 hl C (Q:=W7 (L6 43 [v,.obj i]) (am Q)) q)
abbrev FK (B:AH)(x:Nat->Nat)(t:List Nat)(ls:List (Nat×Nat))(s:RS)(Q:QT)(df:List (List Nat×List Nat))(_:List Nat):Prop:=∀H',Rd H' x t ls {s with defs:=df}->Up (x 0) B H'->Q .none H'
theorem Ug (hl:tt.length<=small)(C:RC B x t ls i tt s r H)(hc:s.defs.length<=small)(q:PR.on (FK B x t ls s Q) (EP tt Er) (je s.defs r)):Call (ú (n+8)) (λp _=>Er p) 48 Q [.obj (x 0),.obj i] H:=by
 delta je at q
 dsimp only at q
 refine call rfl ?_
 simp_all_arith!
 have hw:=fN hl C
 refine wf hl C λH1 C1=>b5 q (λq _=>bk hl C1 ŏ q) λq _=> ?_
 generalize (ç r).1=nm at q hw
 simp_all_arith!
 refine bo ((Àb (C1.R.at_ 1 (by decide))).trans (È (λl:List (List Nat)=>some (l.contains nm)) (uo _))) (b5 q (λq _=>cf (by decide) hw (č (À (Ë (by rw[Ã];exact Ë (Å _) hw) (Å _)) (by decide)) (bk hl C1 ŏ q))) λq Xr=> ?_)
 simp_all_arith!
 refine qI C1 (bo yX (gC q (λq _=> ?_) λq _=>cf (by decide) hw ?_))
 rotate_left
 ·simp_all_arith!
  exact bk hl C1 ŏ q
 simp_all_arith!
 refine vN hl C1 λH2 C2=> ?_
 simp_all_arith!
 refine TJ hl C2 ?_
 cases hp:aO (aG (ç r).2) with
 |bad=>rw[hp] at q;exact q
 |err r'=>rw[hp] at q;exact q
 |ok raw r3=>
  rw[hp] at q
  intro H3 C3
  simp_all_arith!
  refine vN hl C3 λH4 C4=> ?_
  simp_all_arith!
  refine qJ C4 (vg (È not (isE _)) (gC q (λq _=> ?_) λq _=> ?_))
  ·have C5:=C4.up1 (s.defs++[(nm,raw)])
   rw[Ú] at C5
   refine Ń (C4.R.at_ 0 (by decide)) rfl (Sh (C4.R.at_ 1 (by decide)) (by rw[Â];exact aU hc) ?_)
   rw[m8 (by rw[uo];exact Xr)]
   exact q _ C5.R C5.u
  ·simp_all_arith!
   exact bk hl C4 ŏ q
end
noncomputable def av (n:Nat):List Int:=(List.range n).map λk:Nat=>(k:Int)
theorem NL (n:Nat):jd 0 (n:Int) 1=(av n).map .int:=by
 have:(((n:Int)-0+1-1)/1).toNat=n:=by rw[vq,Ś,dF,ō]
 unfold jd av
 rw[Î (by decide),this,õ]
 exact az λj _=>È V.int (by rw[Int.one_mul,Ra])
noncomputable def cV:List Nat:=[60,60,69,79,70,62,62]
noncomputable def bq (nm:List (List Nat)):Nat->List Int->List Nat->PR (List Int)
 |0,_,_=> .bad
 |f+1,acc,r=>if nm.contains (ç r).1 then
   (let Co:=acc++[(nm.findIdx (·==(ç r).1):Int)]
   let r2:=(ç r).2
   if [62].isPrefixOf r2 then .ok Co (r2.drop 1)
   else if [44].isPrefixOf r2 then bq nm f Co (r2.drop 1)
   else .err r2)
  else .err r
noncomputable def Š (nm:List (List Nat))(F:Nat)(r:List Nat):PR (List Int):=
 if cV.isPrefixOf r then .ok [] r
 else if [60].isPrefixOf r then (if [42,62].isPrefixOf (r.drop 1) then .ok (av nm.length) ((r.drop 1).drop 2) else bq nm F [] (r.drop 1))
 else .ok [] r
section
variable {B H H':AH} {x:Nat->Nat} {t tt r:List Nat} {ls:List (Nat×Nat)} {s:RS} {i n c a:Nat} {Q:QT} {E:Ĩ} {Er:V->Prop}
theorem nM {nm:List (List Nat)}:∀{f:Nat} {acc v:List Int} {r r':List Nat},r <:+ t->bq nm f acc r= .ok v r'->r' <:+ t
 |0,acc,v,r,r',hr,h=>by contradiction
 |f+1,acc,v,r,r',hr,h=>by
  have h1:=ĩ (ŷ hr) 1
  revert h
  refine dC (P:=λz:PR (List Int)=>z= .ok v r'->r' <:+ t) (dC (P:=λz:PR (List Int)=>z= .ok v r'->r' <:+ t) (λe=> ?_) (dC (P:=λz:PR (List Int)=>z= .ok v r'->r' <:+ t) (nM h1) nofun)) nofun
  cases e;exact h1
theorem w9 {nm:List (List Nat)}{f:Nat}{v:List Int}{r':List Nat}(hr:r <:+ t)(h:Š nm f r= .ok v r'):r' <:+ t:=by
 have h1:=ĩ hr 1
 revert h
 refine dC (P:=λz:PR (List Int)=>z= .ok v r'->r' <:+ t) (λe=> ?_) (dC (P:=λz:PR (List Int)=>z= .ok v r'->r' <:+ t) (dC (P:=λz:PR (List Int)=>z= .ok v r'->r' <:+ t) (λe=> ?_) (nM h1)) (λe=> ?_))
 ·cases e;exact hr
 ·cases e;exact ĩ h1 2
 ·cases e;exact hr
theorem Um {k:List Nat}{l:List (List Nat)}(h:l.contains k=true)(q:Q (.int (l.findIdx (·==k):Nat)) H):vS (l.map .str) (.str k) H Q:=by
 unfold vS
 refine dN ?_ q
 show (match b7 (l.map .str) with|some ss=>if ss.contains k then some (ss.findIdx (·==k)) else none|none=>none)=_
 rw[strs_map];exact Î h
theorem fV {vs:List V}(h:H[i]? =some (some (.list vs)))(q:Q (.int vs.length) H):Ao i H Q:=by
 unfold Ao
 rw[h];exact q
theorem x5 {m:Nat}(h:m<=ę)(q:Q (.lst ((av m).map .int)) H):An 0 (m:Int) 1 H Q:=by
 unfold An
 rw[NL]
 exact⟨rfl,⟨ý _,h,by rw[vq];exact ľ.mpr h⟩,q⟩
structure VJ (x:Nat->Nat)(i a:Nat):Prop where
 nx:∀k,k<5->x k≠a
 ni:i≠a
 ge:x 0<=a
theorem RC.oth (C:RC B x t ls i tt s r H)(f:VJ x i a){y:Option O}:RC B x t ls i tt s r (H.set a y):=⟨C.R.set f.nx,by rw[ñ f.ni.symm];exact C.c,C.h,C.u.trans (Up.set f.ge _),C.n,C.g⟩
theorem RC.fre (C:RC B x t ls i tt s r H):VJ x i H.length:=⟨λk hk=>î (C.R.lt hk),î (ai C.c),í (C.R.lt (by decide))⟩
theorem VJ.get (f:VJ x i a){y:Option O}{z:Option (Option O)}(h:H[a]? =z):(H.set i y)[a]? =z:=by rw[ñ f.ni];exact h
abbrev CK (B:AH)(x:Nat->Nat)(t:List Nat)(ls:List (Nat×Nat))(i:Nat)(tt:List Nat)(s:RS)(Q:QT)(v:List Int)(r':List Nat):Prop:=∀H',RC B x t ls i tt s r' H'->Q (.lst (v.map .int)) H'
inductive XR (B:AH)(x:Nat->Nat)(t:List Nat)(ls:List (Nat×Nat))(i:Nat)(tt:List Nat)(s:RS)(Q:QT)(Er:V->Prop)(nm:List (List Nat))(a m:Nat):Loc->AH->Prop
 |mk {H':AH} {acc:List Int} {r1:List Nat} {y1 y2:Option V}:RC B x t ls i tt s r1 H'->H'[a]? =some (some (.list (acc.map .int)))->acc.length+m<=small->PR.on (CK B x t ls i tt s Q) (EP tt Er) (bq nm m acc r1)->XR B x t ls i tt s Q Er nm a m [some (.obj (x 0)),some (.obj i),some (.lst (nm.map .str)),some (.obj a),y1,y2] H'
theorem Jm (hl:tt.length<=small)(C:RC B x t ls i tt s r H)(hc:s.conds.length<=small){F:Nat}(hF:F<=small)(q:PR.on (CK B x t ls i tt s Q) (EP tt Er) (Š (s.conds.map (·.1)) F r)):Call (ú (n+4)) (λp _=>Er p) 51 Q [.obj (x 0),.obj i] H:=by
 delta Š at q
 refine call rfl ?_
 simp_all_arith!
 refine uc (w:=cV) hl C (by decide) (b5 q (λq _=>q _ C) λq _=> ?_)
 simp_all_arith!
 refine qH hl C (by decide) (λe H1 C1=> ?_) (λe=>pf (P:=PR.on (CK B x t ls i tt s Q) (EP tt Er)) e q _ C)
 replace q:=pt e q
 simp_all_arith!
 refine qH hl C1 (by decide) (λe H2 C2=> ?_) (λe=> ?_)
 ·have q:=pt (P:=PR.on (CK B x t ls i tt s Q) (EP tt Er)) e q
  simp_all_arith!
  refine fV (C2.R.at_ 2 (by decide)) ?_
  rw[Â] at q⊢
  exact eR (aU hc) (x5 (aU hc) (q _ C2))
 replace q:=pf e q
 simp_all_arith!
 refine rF C1.R (aU hc) ?_
 have f:=C1.fre
 generalize s.conds.map (·.1)=nm at q
 refine bQ (XR B x t ls i tt s Q Er nm H1.length) (m:=F) (.mk (acc:=[]) (C1.app _) ć (by rw[Ŀ,Ľ];exact hF) q) λm ρ H' I=> ?_
 induction I with| @mk H' acc r1 y1 y2 C g hm q=> ?_
 intro K kk
 cases m with
 |zero=>exact q.elim
 |succ m=>
 simp_all_arith!
 have hw:=fN hl C
 have C2:=C.cur (ŷ C.h)
 refine wt hl C.h C.c (bo Dm (gC q (λq Xr=> ?_) λq _=>cf (by decide) hw (bk hl C2 ŏ q)))
 have g2:=f.get (y:=some (cu tt (ç r1).2)) g
 refine bL g2 rfl (Um Xr (eK g2 (by rw[Â];exact Í (À (Ï ..) hm) (by decide)) ?_))
 have C3:=C2.oth f (y:=some (.list ((acc++[((nm.findIdx (·==(ç r1).1):Nat):Int)]).map .int)))
 have g3:=dR g2 (some (.list ((acc++[((nm.findIdx (·==(ç r1).1):Nat):Int)]).map .int)))
 rw[Ú] at C3 g3
 simp_all_arith!
 refine qO (w:=[62]) hl C3.h C3.c (by decide) (λe=> ?_) (λe=> ?_)
 ·have q:=pt (P:=PR.on (CK B x t ls i tt s Q) (EP tt Er)) e q
  refine kk.r (xX (f.get g3) ?_)
  have:=q _ ((C3.cur (ĩ C3.h 1)).oth f (y:=none))
  rw[Ú] at this
  exact this
 replace q:=pf e q
 simp_all_arith!
 refine qO (w:=[44]) hl C3.h C3.c (by decide) (λe=> ?_) (λe=> ?_)
 ·have:= @XR.mk B x t ls i tt s Q Er nm H1.length m _ (acc++[((nm.findIdx (·==(ç r1).1):Nat):Int)]) _ (some (.int (ps tt r1))) (some (.str (ç r1).1)) (C3.cur (ĩ C3.h 1)) (by rw[Ú];exact f.get g3) (by rw[Ã,þ,ą _ m];exact hm) (pt e q)
  exact kk.n ⟨m,é m,this⟩
 ·simp_all_arith!
  exact bk hl C3 ŏ (pf (P:=PR.on (CK B x t ls i tt s Q) (EP tt Er)) e q)
end
noncomputable def Ţ (cd:List (List Nat×Bool)):List Int:=(List.range cd.length).filterMap λk=>match cd[k]? with|some e=>(if e.2 then none else some (k:Int))|none=>none
noncomputable def vC (l:List Int):Bool:=l.all (λx=>decide (0<=x∧x<4))&&decide (l.length<=1000)
noncomputable def jL (s:RS)(start:Nat)(cn:List Int)(pat:Option (List Nat))(sj:Option (List St)):RS:={s with drafts:=s.drafts++[⟨Ē cn,pat,sj,start,s.row⟩]}
noncomputable def dM (s:RS)(F start:Nat)(cn:List Int)(pat:Option (List Nat))(r1:List Nat):PR RS:=
 if qv r1 then
  (let r2:=aG r1
  if [124].isPrefixOf r2 then (let r3:=aG (r2.drop 1);if r3==[] then (if vC cn then .ok (jL s start cn pat none) r3 else .bad) else .err r3)
  else match ŗ ((s.conds.map (·.1)).contains ·) F [] r2 with
   | .ok ss r3=>if vC cn then .ok (jL s start cn pat (some ss)) r3 else .bad
   | .err r'=> .err r'
   | .bad=> .bad)
 else .err r1
noncomputable def a0 (s:RS)(F start:Nat)(cn:List Int)(r:List Nat):PR RS:=
 if cV.isPrefixOf r then dM s F start cn none (r.drop 7)
 else match aO r with
  | .ok raw r1=>dM s F start cn (some raw) r1
  | .err r'=> .err r'
  | .bad=> .bad
noncomputable def Ap (c:Nat)(r:List Nat):Bool:=aH ij r==[c]
noncomputable def Ŵ (s:RS)(F start:Nat)(cn:List Int)(r:List Nat):PR RS:=
 match Š (s.conds.map (·.1)) F r with
 | .ok own r1=>if own.length+cn.length<=1000 then
  (if own==[] then a0 s F start (if cn==[] then Ţ s.conds else cn) r1
   else if Ap 123 r1 then .ok {s with scopes:=s.scopes++[(cn++own,start)]} r1
   else a0 s F start (cn++own) r1)
  else .bad
 | .err r'=> .err r'
 | .bad=> .bad
noncomputable def œ (s:RS)(F start:Nat)(r:List Nat):PR RS:=
 match s.scopes.getLast? with
 |some sc=>(let r0:=aG r
  if [47,47].isPrefixOf r0 then .ok s r0
  else if Ap 125 r0 then .ok {s with scopes:=s.scopes.dropLast} r0
  else Ŵ s F start sc.1 r0)
 |none=>if qv r then .err r else Ŵ s F start [] r
theorem ints_map (l:List Int):gR (l.map .int)=some l:=by
 induction l with
 |nil=>rfl
 |cons a l ih=>exact È (Option.map _) ih
theorem Xa (l:List Int):(l.map V.int).isEmpty=(l==[]):=by cases l<;>rfl
section
variable {B H H':AH} {x:Nat->Nat} {t tt r:List Nat} {ls:List (Nat×Nat)} {s:RS} {i n c a:Nat} {Q:QT} {E:Ĩ} {Er:V->Prop}
theorem KQ {l:List Int}(h:vC l=true)(q:Q (.tup ((Ē l).map .int)) H):vI (.lst (l.map .int)) H Q:=by
 unfold vI
 show (match gR (l.map .int) with|some xs=>xs.length<=1000∧(∀x∈xs,0<=x∧x<4)∧Q (.tup ((Ē xs).map .int)) H|none=>False)
 rw[ints_map]
 exact⟨Ā (aR h),λx hx=>Ā (É.mp (aL h) x hx),q⟩
theorem tM {a b:List V}(h:a.length+b.length<=ę)(q:Q (.lst (a++b)) H):qy (.lst a) (.lst b) H Q:=by
 unfold qy;exact⟨h,q⟩
theorem K9 {vs:List V}{v:V}(h:H[i]? =some (some (.list vs)))(e:vs.getLast? =some v)(q:Q v (H.set i (some (.list vs.dropLast)))):oj 6 i [] H Q:=by
 unfold oj
 rw[h];exact dN e q
theorem yz (hl:tt.length<=small)(hr:r <:+ tt)(q:Q (.str r) H):d6 (.str tt) (some (ps tt r)) none H Q:=
 K2 (a:=pn tt r) (mJ hl) (by rw[gU hr];exact q)
theorem OY:bh .in_ (.str (r.take 1)) (.tup [.str [32],.str [9]]) H=some (qv r):=rfl
theorem Rd.up3 (R:Rd H x t ls s)(dr:List Dr):Rd (H.set (x 3) (some (.list (dr.map VD)))) x t ls {s with drafts:=dr}:=R.up 3 {s with drafts:=dr} (by decide) λj h=>by
 rcases j with _|_|_|_|j
 ·rfl
 ·rfl
 ·rfl
 ·exact absurd rfl h
 ·rfl
theorem Rd.up4 (R:Rd H x t ls s)(sc:List (List Int×Nat)):Rd (H.set (x 4) (some (.list (sc.map cM)))) x t ls {s with scopes:=sc}:=⟨λj hj=>by
 rcases j with _|_|_|_|_|j
 ·rw[ñ λz=>absurd (R.inj 4 0 (by decide) hj z) (by decide)];exact R.at_ 0 hj
 ·rw[ñ λz=>absurd (R.inj 4 1 (by decide) hj z) (by decide)];exact R.at_ 1 hj
 ·rw[ñ λz=>absurd (R.inj 4 2 (by decide) hj z) (by decide)];exact R.at_ 2 hj
 ·rw[ñ λz=>absurd (R.inj 4 3 (by decide) hj z) (by decide)];exact R.at_ 3 hj
 ·exact dR (R.at_ 4 hj) _
 ·exact absurd hj (Ł.mpr (Ğ 5 j)),R.inj,R.le⟩
abbrev BH (B:AH)(x:Nat->Nat)(t:List Nat)(ls:List (Nat×Nat))(Q:QT)(s:RS)(_:List Nat):Prop:=∀H',Rd H' x t ls s->Up (x 0) B H'->Q .none H'
theorem Iu (hl:tt.length<=small)(C:RC B x t ls i tt s r H){names:List (List Nat)}{F:Nat}(hF:F<=small)(q:PR.on (λss _=>∀H',Rd H' x t ls s->Up (x 0) B H'->Q (.lst (ss.map Ū)) H') (EP tt Er) (ŗ (names.contains ·) F [] r)):Call (ú (n+6)) (λp _=>Er p) 40 Q [.obj i,.lst (names.map .str)] H:=
 k_steps hl C.h C.c hF (PR.mono (λss r' q l=>q _ ((C.R.set C.n).app l) ((C.u.trans (Up.set C.g _)).trans (Up.app (í ((C.R.set C.n).lt (by decide))) l))) q)
theorem DC (hl:tt.length<=small)(C:RC B x t ls i tt s r H)(hc:s.conds.length<=small)(hd:s.drafts.length<=small){F start:Nat}(hF:F<=small){cn:List Int}{pat:Option (List Nat)}{v4:Option V}(q:PR.on (BH B x t ls Q) (EP tt Er) (dM s F start cn pat r)):
 ì (ú (n+8)) (kN.drop 9) [some (.obj (x 0)),some (.obj i),some (.int (start:Int)),some (.lst (cn.map .int)),v4,some (Aj pat),none] (λp _=>Er p) H (am Q):=by
 delta dM at q
 dsimp only at q
 have fin:∀H5 sj,Rd H5 x t ls s->Up (x 0) B H5->vC cn=true->BH B x t ls Q (jL s start cn pat sj) []->ì (ú (n+8)) (kN.drop 13) [some (.obj (x 0)),some (.obj i),some (.int (start:Int)),some (.lst (cn.map .int)),v4,some (Aj pat),some (B8 sj)] (λp _=>Er p) H5 (am Q):=λH5 sj R U ho q=>by
  refine Ń (R.at_ 0 (by decide)) rfl (bL (R.at_ 3 (by decide)) rfl (KQ ho (Ń (R.at_ 0 (by decide)) rfl (eK (R.at_ 3 (by decide)) (by rw[Â];exact Í hd (by decide)) ?_))))
  have R6:=R.up3 (s.drafts++[⟨Ē cn,pat,sj,start,s.row⟩])
  rw[Ú] at R6
  exact q _ R6 (U.trans (Up.set (R.le 3) _))
 simp_all_arith!
 refine qI C (bo yX (gC q (λq _=> ?_) λq _=> ?_))
 rotate_left
 ·simp_all_arith!
  exact bk hl C ŏ q
 simp_all_arith!
 refine vN hl C λH2 C2=> ?_
 simp_all_arith!
 refine qH hl C2 (by decide) (λe H3 C3=> ?_) (λe=> ?_)
 ·replace q:=pt e q
  simp_all_arith!
  refine vN hl C3 λH4 C4=> ?_
  simp_all_arith!
  refine qJ C4 (vg (È not (isE _)) (gC q (λq _=> ?_) λq _=> ?_))
  ·cases ho:vC cn with
   |false=>exact (pf (P:=PR.on (BH B x t ls Q) (EP tt Er)) ho q).elim
   |true=>exact fin _ none C4.R C4.u ho (pt (P:=PR.on (BH B x t ls Q) (EP tt Er)) ho q)
  ·simp_all_arith!
   exact bk hl C4 ŏ q
 ·replace q:=pf e q
  simp_all_arith!
  refine rF C2.R (aU hc) (Iu hl C2 hF ?_)
  cases hp:ŗ ((s.conds.map (·.1)).contains ·) F [] (aG r) with
  |err r'=>rw[hp] at q;exact q
  |bad=>rw[hp] at q;exact q
  |ok ss r3=>
   rw[hp] at q
   intro H3 R3 U3
   cases ho:vC cn with
   |false=>exact (pf (P:=PR.on (BH B x t ls Q) (EP tt Er)) ho q).elim
   |true=>exact fin _ (some ss) R3 U3 ho (pt (P:=PR.on (BH B x t ls Q) (EP tt Er)) ho q)
theorem wq (hl:tt.length<=small)(C:RC B x t ls i tt s r H)(hc:s.conds.length<=small)(hd:s.drafts.length<=small){F start:Nat}(hF:F<=small){cn:List Int}{v4:Option V}(q:PR.on (BH B x t ls Q) (EP tt Er) (a0 s F start cn r)):
 ì (ú (n+8)) (kN.drop 7) [some (.obj (x 0)),some (.obj i),some (.int (start:Int)),some (.lst (cn.map .int)),v4,none,none] (λp _=>Er p) H (am Q):=by
 delta a0 at q
 simp_all_arith!
 refine qH (w:=cV) hl C (by decide) (λe H1 C1=>DC (pat:=none) hl C1 hc hd hF (pt (P:=PR.on (BH B x t ls Q) (EP tt Er)) e q)) (λe=> ?_)
 replace q:=pf e q
 simp_all_arith!
 refine TI hl C ?_
 cases hp:aO r with
 |err r'=>rw[hp] at q;exact q
 |bad=>rw[hp] at q;exact q
 |ok raw r1=>
  rw[hp] at q
  exact λH1 C1=>DC (pat:=some raw) hl C1 hc hd hF q
end
noncomputable def pl (cd:List (List Nat×Bool))(k:Nat):Option Int:=match cd[k]? with|some e=>(if e.2 then none else some (k:Int))|none=>none
theorem tx {cd:List (List Nat×Bool)}{k:Nat}(h:k<cd.length):pl cd k=if cd[k].2 then none else some (k:Int):=by
 unfold pl;rw[Ç h]
noncomputable def dk (cd:List (List Nat×Bool))(v:V):Option V:=match v with
 | .int k=>(pl cd k.toNat).map .int
 |_=>none
theorem fg (cd:List (List Nat×Bool)):(fS 0 cd.length).filterMap (dk cd)=(Ţ cd).map .int:=by
 unfold fS
 rw[←WL,List.filterMap_map,show Ţ cd=(List.range cd.length).filterMap (pl cd) from rfl,List.map_filterMap]
 rfl
section
variable {B H H':AH} {x:Nat->Nat} {t tt r:List Nat} {ls:List (Nat×Nat)} {s:RS} {i n c a:Nat} {Q:QT} {E:Ĩ} {Er:V->Prop}
theorem Jk (hl:tt.length<=small)(C:RC B x t ls i tt s r H)(hc:s.conds.length<=small)(hd:s.drafts.length<=small)(hs:s.scopes.length<=small){F start:Nat}(hF:F<=small){cn:List Int}(q:PR.on (BH B x t ls Q) (EP tt Er) (Ŵ s F start cn r)):
 ì (ú (n+8)) (kN.drop 4) [some (.obj (x 0)),some (.obj i),some (.int (start:Int)),some (.lst (cn.map .int)),none,none,none] (λp _=>Er p) H (am Q):=by
 delta Ŵ at q
 simp_all_arith!
 refine Jm hl C hc hF ?_
 cases hp:Š (s.conds.map (·.1)) F r with
 |err r'=>rw[hp] at q;exact q
 |bad=>rw[hp] at q;exact q
 |ok own r1=>
  rw[hp] at q
  dsimp only at q
  intro H1 C1
  by_cases hlen:own.length+cn.length<=1000
  rotate_left
  ·rw[Ñ hlen] at q;exact q.elim
  rw[Î hlen] at q
  refine vg (È not (Xa own)) (gC q (λq ho=> ?_) λq ho=> ?_)
  ·refine vg ((Rf _).trans (Xa cn)) (b5 (P:=λz=>PR.on (BH B x t ls Q) (EP tt Er) (a0 s F start z r1)) q (λq _=> ?_) λq _=>wq hl C1 hc hd hF q)
   refine Ń (C1.R.at_ 0 (by decide)) rfl (fV (C1.R.at_ 2 (by decide)) ?_)
   rw[Â]
   refine eR (aU hc) (eh (dk s.conds) (cg (aU hc)) trivial (by unfold fS;rw[Â,aY];exact aU hc) (by rw[fg];exact wq hl C1 hc hd hF q) λy hy K k=> ?_)
   obtain⟨j,hj,rfl⟩:=Þ.mp hy
   have j9:j<s.conds.length:=(Ľ s.conds.length▸(dI.mp hj).2:j<s.conds.length)
   have iR:(s.conds.map Ň)[j]? =some (Ň s.conds[j]):=by rw[Ü,Ç j9];rfl
   have hk:dk s.conds (.int (j:Int))=if s.conds[j].2 then none else some (.int (j:Int)):=by
    refine (È (Option.map V.int) (tx j9)).trans ?_
    cases s.conds[j].2<;>rfl
   rw[hk] at k
   refine Ń (C1.R.at_ 0 (by decide)) rfl (gB (C1.R.at_ 2 (by decide)) (dm iR (gC (P:=λz=>K z H1) k (λk _=>k) λk _=>k)))
  ·refine tM (by rw[Â,Â,ą];exact À hlen (by decide)) ?_
   rw[←Ú]
   simp_all_arith!
   refine yz hl C1.h (b5 q (λq _=> ?_) λq _=> ?_)
   ·refine Ń (C1.R.at_ 0 (by decide)) rfl (bL (C1.R.at_ 4 (by decide)) rfl (eK (C1.R.at_ 4 (by decide)) (by rw[Â];exact Í hs (by decide)) ?_))
    have R6:=C1.R.up4 (s.scopes++[(cn++own,start)])
    rw[Ú] at R6
    exact q _ R6 (C1.u.trans (Up.set (C1.R.le 4) _))
   ·have e:(cn++own==[])=false:=by
     cases own with
     |nil=>contradiction
     |cons a l=>cases cn<;>rfl
    exact vg ((Rf _).trans (Xa _)) (ar e (wq hl C1 hc hd hF q))
theorem ir {sc:List Int×Nat}{l:List (List Int×Nat)}(h:l.getLast? =some sc):(l.map cM).getLast? =some (cM sc):=by rw[jz,h];rfl
theorem zg (hl:tt.length<=small)(C:RC B x t ls i tt s r H)(hc:s.conds.length<=small)(hd:s.drafts.length<=small)(hs:s.scopes.length<=small){F start:Nat}(hF:F<=small){cn:List Int}(hcn:(s.scopes=[]∧cn=[])∨∃st,s.scopes.getLast? =some (cn,st))(q:PR.on (BH B x t ls Q) (EP tt Er) (Ŵ s F start cn r)):
 ì (ú (n+8)) (kN.drop 2) [some (.obj (x 0)),some (.obj i),some (.int (start:Int)),none,none,none,none] (λp _=>Er p) H (am Q):=by
 have rest:=Jk (n:=n) hl C hc hd hs hF q
 refine Ń (C.R.at_ 0 (by decide)) rfl (bo (z6 (C.R.at_ 4 (by decide))) ?_)
 rcases hcn with ⟨h1,h2⟩|⟨st,h1⟩
 ·rw[h2] at rest
  exact ar (by rw[h1];rfl) rest
 ·refine ift (by rw[İ];cases h:s.scopes with|nil=>rw[h] at h1;cases h1|cons a l=>rfl) (Ń (C.R.at_ 0 (by decide)) rfl (gB (C.R.at_ 4 (by decide)) (eX (ir h1) rest)))
theorem OH (hl:tt.length<=small)(C:RC B x t ls i tt s r H)(hc:s.conds.length<=small)(hd:s.drafts.length<=small)(hs:s.scopes.length<=small){F:Nat}(hF:F<=small)(q:PR.on (BH B x t ls Q) (EP tt Er) (œ s F (pn tt r) r)):Call (ú (n+9)) (λp _=>Er p) 50 Q [.obj (x 0),.obj i] H:=by
 unfold œ at q
 refine call rfl ?_
 simp_all_arith!
 refine bo (z6 (C.R.at_ 4 (by decide))) (GP (λh=> ?_) λh=> ?_)
 ·obtain⟨sc,sE⟩:=rz (İ▸h:s.scopes.isEmpty=false)
  rw[sE] at q
  simp_all_arith!
  refine vN hl C λH1 C1=> ?_
  simp_all_arith!
  refine uc hl C1 (by decide) (b5 q (λq _=>q _ C1.R C1.u) λq _=> ?_)
  simp_all_arith!
  refine yz hl C1.h (b5 q (λq _=> ?_) λq _=>zg hl C1 hc hd hs hF (.inr ⟨_,sE⟩) q)
  refine Ń (C1.R.at_ 0 (by decide)) rfl (bL (C1.R.at_ 4 (by decide)) rfl (K9 (C1.R.at_ 4 (by decide)) (ir sE) ?_))
  have R6:=C1.R.up4 s.scopes.dropLast
  rw[vx] at R6
  exact q _ R6 (C1.u.trans (Up.set (C1.R.le 4) _))
 ·have hn:s.scopes=[]:=ř.mp (İ▸h:s.scopes.isEmpty=true)
  rw[show s.scopes.getLast? =none by rw[hn];rfl] at q
  simp_all_arith!
  exact qI C (bo OY (b5 q (λq _=>bk hl C ŏ q) λq _=>zg hl C hc hd hs hF (.inl ⟨hn,rfl⟩) q))
end
noncomputable abbrev FU:Nat:=12
noncomputable abbrev TL:Nat:=10000
theorem lB {t:List Nat}{b:Nat}:∀{k:Nat},k<=b->ĉ (t.take b) k=ĉ t k
 |0,_=>rfl
 |k+1,h=>by
  show (if (t.take b)[k]? =some 10 then ĉ (t.take b) k+1 else ĉ (t.take b) k)=_
  rw[jH h,lB (ĵ h)];rfl
theorem j7 {t:List Nat}{b:Nat}:∀{k:Nat},k<=b->Ő (t.take b) k=Ő t k
 |0,_=>rfl
 |k+1,h=>by
  show (if (t.take b)[k]? =some 10 then k+1 else Ő (t.take b) k)=_
  rw[jH h,j7 (ĵ h)];rfl
theorem AK {t:List Nat}{b k:Nat}(h:k<=b):fA (t.take b) k=fA t k:=by
 unfold fA;rw[lB h,j7 h]
theorem jt {t:List Nat}:∀{f a:Nat},∀e∈Đ t f a,e.1<=e.2∧e.2<=t.length
 |0,a,e,h=>by contradiction
 |f+1,a,e,h=>by
  rcases Ŝ a t.length with jD|Xs
  ·cases hk:ü [10] (t.drop a) (t.length+1-a) with
   |some k=>
    have:=dY hk
    rw[ã] at this
    rw[rA jD hk] at h
    rcases Û.mp h with rfl|h
    ·exact⟨Ï ..,ą k a▸oy (í jD) (ĵ this)⟩
    ·exact jt e h
   |none=>
    rw[rB jD hk] at h
    rcases Û.mp h with rfl|h
    ·exact⟨í jD,Å _⟩
    ·contradiction
  ·rw[lX Xs] at h
   contradiction
theorem dA {t:List Nat}:∀{f a:Nat},(Đ t f a).length<=f
 |0,a=>Å _
 |f+1,a=>by
  rcases Ŝ a t.length with jD|Xs
  ·cases hk:ü [10] (t.drop a) (t.length+1-a) with
   |some k=>rw[rA jD hk];exact Ì dA
   |none=>rw[rB jD hk];exact Ì (ý _)
  ·rw[lX Xs];exact ý _
structure Bd (T:Nat)(s:RS):Prop where
 c:s.conds.length<=1+12*s.row
 d:s.defs.length<=s.row
 r:s.drafts.length<=s.row
 q:s.scopes.length<=s.row
 sp:∀e∈s.scopes,e.2<=T
 dp:∀e∈s.drafts,e.start<=T
inductive PT where
 |ok (s:RS)
 |err (k:Nat)
 |bad
def PT.on (K:RS->Prop)(Er:Nat->Prop):PT->Prop
 | .ok s=>K s
 | .err k=>Er k
 | .bad=>False
noncomputable def ń (l:List Nat):Bool:=aH ij l==[37,37]
noncomputable def Œ (t:List Nat)(e:Nat×Nat):List Nat:=(t.take e.2).drop e.1
noncomputable def ő (s:RS)(l:List Nat):PR RS:=
 if [37].isPrefixOf l then (match aK FU s.conds s.dflt l with
  | .ok oD r'=> .ok {s with conds:=oD.1,dflt:=oD.2} r'
  | .err r'=> .err r'
  | .bad=> .bad)
 else match je s.defs l with
  | .ok df r'=> .ok {s with defs:=df} r'
  | .err r'=> .err r'
  | .bad=> .bad
noncomputable def bN (t:List Nat):List (Nat×Nat)->RS->PT
 |[],_=> .err t.length
 |e::es,s=>
  if ń (Œ t e) then .ok {s with row:=s.row+1}
  else if ŀ (Œ t e) then bN t es {s with row:=s.row+1}
  else match ő {s with row:=s.row+1} (Œ t e) with
   | .ok s' _=>bN t es s'
   | .err r'=> .err (e.2-r'.length)
   | .bad=> .bad
theorem jr {word:List Nat}:∀{f:Nat} {cd:List (List Nat×Bool)} {df:Bool} {r r':List Nat} {v:List (List Nat×Bool)×Bool},eb word f cd df r= .ok v r'->v.1.length<=cd.length+f
 |0,cd,df,r,r',v,h=>by contradiction
 |f+1,cd,df,r,r',v,h=>by
  let P:PR (List (List Nat×Bool)×Bool)->Prop:=λz=>z= .ok v r'->v.1.length<=cd.length+(f+1)
  refine (show P (eb word (f+1) cd df r) from dC (P:=P) (λe=> ?_) (dC (P:=P) nofun (dC (P:=P) (dC (P:=P) (dC (P:=P) (λe=>aj (jr e)) nofun) nofun) (dC (P:=P) nofun (dC (P:=P) (λe=> ?_) nofun))))) h
  ·cases e;exact Ï ..
  ·have:=jr e
   rw[Ã,þ,ą _ f] at this
   exact this
theorem AP {F:Nat}{cd:List (List Nat×Bool)}{df:Bool}{r r':List Nat}{v:List (List Nat×Bool)×Bool}(h:aK F cd df r= .ok v r'):v.1.length<=cd.length+F:=by
 let P:PR (List (List Nat×Bool)×Bool)->Prop:=λz=>z= .ok v r'->v.1.length<=cd.length+F
 exact (show P (aK F cd df r) from dC (P:=P) (dC (P:=P) nofun jr) nofun) h
theorem E2 {df v:List (List Nat×List Nat)}{r r':List Nat}(h:je df r= .ok v r'):v.length<=df.length+1:=by
 let P:PR (List (List Nat×List Nat))->Prop:=λz=>z= .ok v r'->v.length<=df.length+1
 refine (show P (je df r) from dC (P:=P) nofun (dC (P:=P) nofun (dC (P:=P) ?_ nofun))) h
 cases aO (aG (ç r).2) with
 |err=>exact nofun
 |bad=>exact nofun
 |ok raw r2=>
  refine dC (P:=P) (λe=> ?_) nofun
  cases e;rw[Ã];exact Å _
section
variable {B H H':AH} {x:Nat->Nat} {t tt r:List Nat} {ls:List (Nat×Nat)} {s:RS} {i n c a b:Nat} {Q:QT} {E:Ĩ} {Er:V->Prop}
theorem Dn {a c:Nat}(e:l6 c=false)(q:Q (.obj a) H'):qq c a Q .none H':=by
 unfold qq
 refine⟨rfl,?_⟩
 rw[e];exact q
theorem Lf {a b:V}(q:Q (.obj H.length) (H++[some (.inst 3 [(5,a),(4,b)])])):jh (ú (n+1)) 3 [a,b] E H Q:=
 gN rfl rfl (ų rfl rfl (ų rfl rfl (Dn rfl q)))
theorem xj:Œ t (a,b) <:+ t.take b:=eG _ _
theorem Dh (h1:a<=b)(h2:b<=t.length):ps (t.take b) (Œ t (a,b))=(a:Int):=by
 show (((t.take b).length-((t.take b).drop a).length:Nat):Int)=(a:Int)
 rw[ã,ű,ag h2,eA h1]
theorem NY (h2:b<=t.length):pn (t.take b) r=b-r.length:=by
 unfold pn
 rw[ű,ag h2]
theorem Rd.up0 (R:Rd H x t ls s)(row:Nat)(tl:List Nat):Rd (H.set (x 0) (some (GN x t ls {s with row:=row,tail:=tl} 0))) x t ls {s with row:=row,tail:=tl}:=R.up 0 _ (by decide) λj h=>by
 rcases j with _|_|_|_|j
 ·exact absurd rfl h
 all_goals rfl
theorem Bd.row {T:Nat}(B:Bd T s){tl:List Nat}:Bd T {s with row:=s.row+1,tail:=tl}:=⟨À B.c (Ý (Ò 12 (å _)) 1),aj B.d,aj B.r,aj B.q,B.sp,B.dp⟩
theorem Bd.cs {T:Nat}(B:Bd T s)(h:s.row<=10001):s.conds.length<=small:=À B.c (À (Ý (Ò 12 h) 1) (by decide))
theorem NR (R:Rd H x t ls s)(U:Up (x 0) B H){l:List Nat}{a:Int}(hs:l <:+ tt)(e:ps tt l=a):RC B x t ls H.length tt s l (H++[some (.inst 3 [(5,.str tt),(4,.int a)])]):=by
 subst e
 exact⟨R.app _,ć,hs,U.trans (Up.app (í (R.lt (by decide))) _),λk hk=>î (R.lt hk),í (R.lt (by decide))⟩
theorem Ĕ {vs:List V}{k:Nat}{v:V}(h:vs[k]? =some v)(q:Q v H):jg vs (k:Int) H Q:=by
 unfold jg
 rw[iz (Õ.mp h).1]
 show (match vs[k]? with|some x=>Q x H|none=>b1)
 rw[h];exact q
theorem Oo {α β:Type}{f:α->β}{l:List α}{k:Int}:decide (k<((l.map f).length:Int))=decide (k<(l.length:Int)):=by rw[Â]
theorem mZ {e:Nat×Nat}{es:List (Nat×Nat)}{k:Nat}(h:ls.drop k=e::es):(ls.map lj)[k]? =some (lj e)∧ls.drop (k+1)=es∧k<ls.length∧e∈ls:=by
 have hk:k<ls.length:=eB λz=>by rw[Ŭ z] at h;contradiction
 obtain⟨e1,e2⟩:=Ŋ ((i8 hk).symm.trans h)
 exact⟨by rw[Ü,Ç hk,e1];rfl,e2,hk,e1▸Ų hk⟩
theorem yI {ρ:Loc}{A C:AH->Prop}(R:Rd H x t ls s)(k0:ls.drop s.row=[]->C H)(k1:∀e es,ls.drop s.row=e::es->A H):mh (ú n) (.cmp .lt (.attr (.var 0) 17) (.bcall 0 [(.attr (.var 0) 16)])) (some (.obj (x 0))::ρ) E H (eI A C):=by
 refine Ń (R.at_ 0 (by decide)) rfl (Ń (R.at_ 0 (by decide)) rfl (vg Oo ?_))
 cases hd:ls.drop s.row with
 |nil=>exact ar (not_lt (ľ.mpr (List.drop_eq_nil_iff.mp hd))) (k0 hd)
 |cons e es=>exact ift (bV (ï.mpr (mZ hd).2.2.1)) (k1 e es hd)
theorem yJ {e:Nat×Nat}{S:List PS}{y1 y2 y3:Option V}{ρ:Loc}{K:ST}(kj:t.length<=small)(R:Rd H x t ls s)(U:Up (x 0) B H)(hg:(ls.map lj)[s.row]? =some (lj e))(he:e.1<=e.2∧e.2<=t.length)(k:∀H1,Rd H1 x t ls {s with row:=s.row+1}->Up (x 0) B H1->ì (ú n) S (some (.obj (x 0))::some (.int e.1)::some (.int e.2)::some (.str (Œ t e))::ρ) E H1 K):ì (ú n) ((hZ qX 0).take 3++S) (some (.obj (x 0))::y1::y2::y3::ρ) E H K:=by
 refine Ń (R.at_ 0 (by decide)) rfl (Ń (R.at_ 0 (by decide)) rfl (Ĕ hg ?_))
 refine Ń (R.at_ 0 (by decide)) rfl (ň rfl (Ae (R.at_ 0 (by decide)) rfl rfl ?_))
 have R1:=R.up0 (s.row+1) s.tail
 exact Ń (R1.at_ 0 (by decide)) rfl (wa (aU (À he.1 (À he.2 kj))) (aU (À he.2 kj)) (k _ R1 (U.trans (Up.set (R.le 0) _))))
theorem Dd {e:Nat×Nat}(R:Rd H x t ls s)(U:Up (x 0) B H)(he:e.1<=e.2∧e.2<=t.length):RC B x t ls H.length (t.take e.2) s (Œ t e) (H++[some (.inst 3 [(5,.str (t.take e.2)),(4,.int e.1)])]):=NR R U xj (Dh he.1 he.2)
theorem CG {e:Nat×Nat}(he:e.2<=t.length){r':List Nat}(q:Er (fA t (e.2-r'.length))):EP (t.take e.2) Er r':=by
 show Er (fA (t.take e.2) (pn (t.take e.2) r'))
 rw[NY he,AK (Ō ..)];exact q
theorem jo (kj:t.length<=small){b:Nat}:(t.take b).length<=small:=by rw[ű];exact À (ÄT ..) kj
abbrev xN (B:AH)(x:Nat->Nat)(t:List Nat)(ls:List (Nat×Nat))(Q:QT)(s:RS):Prop:=∀H',Rd H' x t ls s->Up (x 0) B H'->Bd t.length s->Q .none H'
abbrev oE (t:List Nat)(Er:V->Prop)(k:Nat):Prop:=Er (fA t k)
noncomputable def SX (t:List Nat)(es:List (Nat×Nat))(b:Nat):PR RS->PT
 | .ok s' _=>bN t es s'
 | .err r'=> .err (b-r'.length)
 | .bad=> .bad
theorem Pj {S:List PS}{K:ST}{e:Nat×Nat}{es:List (Nat×Nat)}(kj:t.length<=small)(R:Rd H x t ls s)(U:Up (x 0) B H)(Bs:Bd t.length s)(SB:s.row<=10001)(he:e.1<=e.2∧e.2<=t.length)(hB:s.conds.length+12<=1+12*s.row∧s.defs.length+1<=s.row)
 (k:∀s2 H2 y4,s2.row=s.row->Rd H2 x t ls s2->Up (x 0) B H2->Bd t.length s2->PT.on (xN B x t ls Q) (oE t Er) (bN t es s2)->K .next [some (.obj (x 0)),some (.int e.1),some (.int e.2),some (.str (Œ t e)),y4] H2)
 (q:PT.on (xN B x t ls Q) (oE t Er) (SX t es e.2 (ő s (Œ t e)))) {y4:Option V}:ì (ú (n+9)) ((hZ qX 0).drop 5) [some (.obj (x 0)),some (.int e.1),some (.int e.2),some (.str (Œ t e)),y4] (λp _=>Er p) H K:=by
 refine Ń (R.at_ 0 (by decide)) rfl (K1 (aU (À he.2 kj)) (Lf ?_))
 have C:=Dd R U he
 refine b5 (P:=λz=>PT.on (xN B x t ls Q) (oE t Er) (SX t es e.2 z)) q (λq Xj=> ?_) λq _=> ?_
 ·replace Xj:[37].isPrefixOf (Œ t e)=true:=Xj
  generalize Œ t e=l at q C Xj k
  cases l with
  |nil=>contradiction
  |cons c u=>
  simp_all_arith!
  refine OL (F:=FU) (jo kj) C (Bs.cs SB) (by decide) ?_
  cases hp:aK FU s.conds s.dflt (c::u) with
  |bad=>rw[hp] at q;exact q
  |err r'=>rw[hp] at q;exact CG he.2 q
  |ok oD r'=>
   rw[hp] at q
   exact λH3 R3 U3=>k {s with conds:=oD.1,dflt:=oD.2} _ _ rfl R3 U3 ⟨À (AP hp) hB.1,Bs.d,Bs.r,Bs.q,Bs.sp,Bs.dp⟩ q
 ·simp_all_arith!
  refine Ug (jo kj) C (À Bs.d (À SB (by decide))) ?_
  cases hp:je s.defs (Œ t e) with
  |bad=>rw[hp] at q;exact q
  |err r'=>rw[hp] at q;exact CG he.2 q
  |ok df r'=>
   rw[hp] at q
   exact λH3 R3 U3=>k {s with defs:=df} _ _ rfl R3 U3 ⟨Bs.c,À (E2 hp) hB.2,Bs.r,Bs.q,Bs.sp,Bs.dp⟩ q
inductive XT (B:AH)(x:Nat->Nat)(t:List Nat)(ls:List (Nat×Nat))(Q:QT)(Er:V->Prop)(m:Nat):Loc->AH->Prop
 |mk {H':AH} {s:RS} {y1 y2 y3 y4:Option V}:Rd H' x t ls s->Up (x 0) B H'->Bd t.length s->(ls.drop s.row).length=m->PT.on (xN B x t ls Q) (oE t Er) (bN t (ls.drop s.row) s)->XT B x t ls Q Er m [some (.obj (x 0)),y1,y2,y3,y4] H'
theorem OK (ht:t.length<=TL)(RM:ls=Đ t (t.length+1) 0)(R:Rd H x t ls s)(U:Up (x 0) B H)(Bs:Bd t.length s)(q:PT.on (xN B x t ls Q) (oE t Er) (bN t (ls.drop s.row) s)):Call (ú (n+10)) (λp _=>Er p) 46 Q [.obj (x 0)] H:=by
 have hlen:ls.length<=10001:=À (by rw[RM];exact dA) (Ì ht)
 have Ck:∀e∈ls,e.1<=e.2∧e.2<=t.length:=by rw[RM];exact jt
 have kj:t.length<=small:=À ht (by decide)
 refine call rfl ?_
 refine bQ (XT B x t ls Q Er) (m:=(ls.drop s.row).length) (.mk R U Bs rfl q) λm ρ H' I=> ?_
 clear R U Bs q
 induction I with| @mk H' s y1 y2 y3 y4 R U Bs hm q=> ?_
 intro K kk
 refine yI R (λhd=> ?_) λe es hd=> ?_
 ·rw[hd] at q
  exact Ń (R.at_ 0 (by decide)) rfl (Ń (R.at_ 0 (by decide)) rfl (tD kj (Å _) λl=>q))
 ·obtain⟨h1,h2,h3,h4⟩:=mZ hd
  rw[hd] at q hm
  have he:=Ck _ h4
  have B1:=Bs.row (tl:=s.tail)
  have nx:∀s2 H2 (y4:Option V),s2.row=s.row+1->Rd H2 x t ls s2->Up (x 0) B H2->Bd t.length s2->PT.on (xN B x t ls Q) (oE t Er) (bN t es s2)->W5 (XT B x t ls Q Er) m [some (.obj (x 0)),some (.int e.1),some (.int e.2),some (.str (Œ t e)),y4] H2:=λs2 H2 y4 e2 R2 U2 B2 q=>
   ⟨es.length,iJ (é _) hm,.mk R2 U2 B2 (by rw[e2,h2]) (by rw[e2,h2];exact q)⟩
  refine yJ (S:=(hZ qX 0).drop 3) kj R U h1 he λH1 R1 U1=> ?_
  refine b5 (P:=PT.on (xN B x t ls Q) (oE t Er)) q (λq _=>kk.r (q _ R1 U1 B1)) λq _=> ?_
  refine DE (b5 (P:=PT.on (xN B x t ls Q) (oE t Er)) q (λq _=>kk.c (nx _ _ _ rfl R1 U1 B1 q)) λq _=> ?_)
  exact Pj (S:=[]) kj R1 U1 B1 (À h3 hlen) he ⟨À (ě Bs.c 12) (ð (by rw[þ];rfl)),Ì Bs.d⟩ (λs2 H2 y4 e R2 U2 B2 q=>kk.n (nx s2 H2 y4 e R2 U2 B2 q)) q
end
structure Gr (start:Nat)(s s':RS):Prop where
 row:s'.row=s.row
 c:s'.conds=s.conds
 d:s'.defs=s.defs
 r:s'.drafts=s.drafts∨∃d:Dr,s'.drafts=s.drafts++[d]∧d.start=start
 q:s'.scopes=s.scopes∨s'.scopes=s.scopes.dropLast∨∃e:List Int×Nat,s'.scopes=s.scopes++[e]∧e.2=start
abbrev vG (start:Nat)(s s':RS)(r':List Nat)(z:PR RS):Prop:=z= .ok s' r'->Gr start s s'
theorem ue {s s':RS}{F start:Nat}{cn:List Int}{pat:Option (List Nat)}{r r':List Nat}:vG start s s' r' (dM s F start cn pat r):=by
 have ok:∀{st r2},vG start s s' r' (if vC cn then .ok (jL s start cn pat st) r2 else .bad):=dC (P:=vG start s s' r') (λe=>by cases e;exact⟨rfl,rfl,rfl,.inr ⟨_,rfl,rfl⟩,.inl rfl⟩) nofun
 refine dC (P:=vG start s s' r') (dC (P:=vG start s s' r') (dC (P:=vG start s s' r') ok nofun) ?_) nofun
 cases ŗ ((s.conds.map (·.1)).contains ·) F [] (aG r) with
 |ok ss r3=>exact ok
 |err=>exact nofun
 |bad=>exact nofun
theorem ug {s s':RS}{F start:Nat}{cn:List Int}{r r':List Nat}:vG start s s' r' (a0 s F start cn r):=by
 refine dC (P:=vG start s s' r') ue ?_
 cases aO r with
 |ok raw r1=>exact ue
 |err=>exact nofun
 |bad=>exact nofun
theorem pH {s s':RS}{F start:Nat}{cn:List Int}{r r':List Nat}:vG start s s' r' (Ŵ s F start cn r):=by
 unfold Ŵ
 cases Š (s.conds.map (·.1)) F r with
 |err=>exact nofun
 |bad=>exact nofun
 |ok own r1=>
  dsimp only
  by_cases h:own.length+cn.length<=1000
  ·rw[Î h]
   exact dC (P:=vG start s s' r') ug (dC (P:=vG start s s' r') (λe=>by cases e;exact⟨rfl,rfl,rfl,.inl rfl,.inr (.inr ⟨_,rfl,rfl⟩)⟩) ug)
  ·rw[Ñ h];exact nofun
theorem gY {s s':RS}{F start:Nat}{r r':List Nat}:vG start s s' r' (œ s F start r):=by
 unfold œ
 cases s.scopes.getLast? with
 |none=>exact dC (P:=vG start s s' r') nofun pH
 |some sc=>exact dC (P:=vG start s s' r') (λe=>by cases e;exact⟨rfl,rfl,rfl,.inl rfl,.inl rfl⟩) (dC (P:=vG start s s' r') (λe=>by cases e;exact⟨rfl,rfl,rfl,.inl rfl,.inr (.inl rfl)⟩) pH)
theorem Gr.bd {start T:Nat}{s s':RS}(g:Gr start {s with row:=s.row+1} s')(B:Bd T s)(hs:start<=T):Bd T s':=by
 have B1:=B.row (tl:=s.tail)
 refine⟨by rw[g.row,g.c];exact B1.c,by rw[g.row,g.d];exact B1.d,?_,?_,?_,?_⟩
 ·rw[g.row]
  rcases g.r with h|⟨d,h,_⟩
  ·rw[h];exact B1.r
  ·rw[h,Ã];exact Ì B.r
 ·rw[g.row]
  rcases g.q with h|h|⟨d,h,_⟩
  ·rw[h];exact B1.q
  ·rw[h,oz];exact À (Ō ..) B1.q
  ·rw[h,Ã];exact Ì B.q
 ·intro e he
  rcases g.q with h|h|⟨d,h,hd⟩
  ·rw[h] at he;exact B.sp e he
  ·rw[h] at he;exact B.sp e ((ez _).subset he)
  ·rw[h] at he
   exact (ö.mp he).elim (B.sp e) λz=>by rw[Ô.mp z,hd];exact hs
 ·intro e he
  rcases g.r with h|⟨d,h,hd⟩
  ·rw[h] at he;exact B.dp e he
  ·rw[h] at he
   exact (ö.mp he).elim (B.dp e) λz=>by rw[Ô.mp z,hd];exact hs
noncomputable def sQ (s:RS):PT:=match s.scopes.getLast? with
 |some sc=> .err sc.2
 |none=> .ok s
noncomputable def b8 (t:List Nat):List (Nat×Nat)->RS->PT
 |[],s=>sQ s
 |e::es,s=>
  if ń (Œ t e) then sQ {s with row:=s.row+1,tail:=t.drop (e.2+1)}
  else if ŀ (Œ t e) then b8 t es {s with row:=s.row+1}
  else match œ {s with row:=s.row+1} FU e.1 (Œ t e) with
   | .ok s' _=>b8 t es s'
   | .err r'=> .err (e.2-r'.length)
   | .bad=> .bad
section
variable {B H H':AH} {x:Nat->Nat} {t tt r:List Nat} {ls:List (Nat×Nat)} {s:RS} {i n c a b:Nat} {Q:QT} {E:Ĩ} {Er:V->Prop}
inductive XS (B:AH)(x:Nat->Nat)(t:List Nat)(ls:List (Nat×Nat))(Q:QT)(Er:V->Prop)(m:Nat):Loc->AH->Prop
 |mk {H':AH} {s:RS} {y1 y2 y3:Option V}:Rd H' x t ls s->Up (x 0) B H'->Bd t.length s->(ls.drop s.row).length=m->PT.on (xN B x t ls Q) (oE t Er) (b8 t (ls.drop s.row) s)->XS B x t ls Q Er m [some (.obj (x 0)),y1,y2,y3] H'
theorem K8 {y1 y2 y3:Option V}(kj:t.length<=small)(R:Rd H x t ls s)(U:Up (x 0) B H)(Bs:Bd t.length s)(q:PT.on (xN B x t ls Q) (oE t Er) (sQ s)):ì (ú (n+10)) (wL.drop 1) [some (.obj (x 0)),y1,y2,y3] (λp _=>Er p) H (am Q):=by
 unfold sQ at q
 refine Ń (R.at_ 0 (by decide)) rfl (bo (z6 (R.at_ 4 (by decide))) (GP (λh=> ?_) λh=> ?_))
 ·obtain⟨sc,sE⟩:=rz (İ▸h:s.scopes.isEmpty=false)
  rw[sE] at q
  refine Ń (R.at_ 0 (by decide)) rfl (Ń (R.at_ 0 (by decide)) rfl (gB (R.at_ 4 (by decide)) (eX (ir sE) ?_)))
  exact tD kj (Bs.sp sc (fu sE)) λl=>q
 ·have hn:s.scopes=[]:=ř.mp (İ▸h:s.scopes.isEmpty=true)
  rw[show s.scopes.getLast? =none by rw[hn];rfl] at q
  exact q _ R U Bs
theorem Jh (ht:t.length<=TL)(RM:ls=Đ t (t.length+1) 0)(R:Rd H x t ls s)(U:Up (x 0) B H)(Bs:Bd t.length s)(q:PT.on (xN B x t ls Q) (oE t Er) (b8 t (ls.drop s.row) s)):Call (ú (n+11)) (λp _=>Er p) 49 Q [.obj (x 0)] H:=by
 have hlen:ls.length<=10001:=À (by rw[RM];exact dA) (Ì ht)
 have Ck:∀e∈ls,e.1<=e.2∧e.2<=t.length:=by rw[RM];exact jt
 have kj:t.length<=small:=À ht (by decide)
 refine call rfl ?_
 refine bQ (XS B x t ls Q Er) (m:=(ls.drop s.row).length) (.mk R U Bs rfl q) λm ρ H' I=> ?_
 clear R U Bs q
 induction I with| @mk H' s y1 y2 y3 R U Bs hm q=> ?_
 intro K kk
 refine yI R (λhd=> ?_) λe es hd=> ?_
 ·rw[hd] at q
  exact K8 kj R U Bs q
 ·obtain⟨h1,h2,h3,h4⟩:=mZ hd
  rw[hd] at q hm
  have he:=Ck _ h4
  have B1:=Bs.row (tl:=s.tail)
  have nx:∀s2 H2,s2.row=s.row+1->Rd H2 x t ls s2->Up (x 0) B H2->Bd t.length s2->PT.on (xN B x t ls Q) (oE t Er) (b8 t es s2)->W5 (XS B x t ls Q Er) m [some (.obj (x 0)),some (.int e.1),some (.int e.2),some (.str (Œ t e))] H2:=λs2 H2 e2 R2 U2 B2 q=>
   ⟨es.length,iJ (é _) hm,.mk R2 U2 B2 (by rw[e2,h2]) (by rw[e2,h2];exact q)⟩
  refine yJ (S:=(hZ wL 0).drop 3) kj R U h1 he λH1 R1 U1=> ?_
  refine b5 (P:=PT.on (xN B x t ls Q) (oE t Er)) q (λq _=> ?_) λq _=> ?_
  ·refine Ń (R1.at_ 0 (by decide)) rfl (ň (z:=((e.2+1:Nat):Int)) rfl (K2 (À (Ì (À he.2 kj)) (by decide)) (Ae (R1.at_ 0 (by decide)) rfl rfl (kk.b ?_))))
   exact K8 kj (R1.up0 (s.row+1) (t.drop (e.2+1))) (U1.trans (Up.set (R1.le 0) _)) Bs.row q
  refine DE (gC (P:=PT.on (xN B x t ls Q) (oE t Er)) q (λq _=>kk.n (nx _ _ rfl R1 U1 B1 q)) λq _=> ?_)
  refine mo (R1.at_ 0 (by decide)) rfl (Ń (R1.at_ 0 (by decide)) rfl (K1 (aU (À he.2 kj)) (Lf ?_)))
  have hb:s.row+1<=small:=À h3 (À hlen (by decide))
  refine OH (F:=FU) (jo kj) (Dd R1 U1 he) (B1.cs (À h3 hlen)) (À B1.r hb) (À B1.q hb) (by decide) ?_
  rw[show pn (t.take e.2) (Œ t e)=e.1 from cF (Dh he.1 he.2)]
  cases hp:œ {s with row:=s.row+1} FU e.1 (Œ t e) with
  |bad=>rw[hp] at q;exact q
  |err r'=>rw[hp] at q;exact CG he.2 q
  |ok s' r'=>
   rw[hp] at q
   have g:=gY hp
   exact λH3 R3 U3=>kk.n (nx s' _ g.row R3 U3 (g.bd Bs (À he.1 he.2)) q)
end
structure Rl where
 n:Nat
 heads:List Int
 pat:Option (List Nat)
 steps:List St
 line:Nat
noncomputable def aZ (r:Rl):V:= .rcd 5 [(8,.int (r.n:Int)),(9,.tup (r.heads.map .int)),(10,Aj r.pat),(11,.lst (r.steps.map Ū)),(1,.int (r.line:Int))]
noncomputable def fC:List (List Nat):=[cs "more",cs "less",cs "reject"]
theorem IM:MD=fC.map .str:=by kernel_rfl
inductive BT where
 |ok (l:List Rl)
 |err (k:Nat)
 |bad
def BT.on (K:List Rl->Prop)(Er:Nat->Prop):BT->Prop
 | .ok s=>K s
 | .err k=>Er k
 | .bad=>False
noncomputable def ũ (ss:List St):Bool:=ss.any λe=>fC.contains e.1
noncomputable def ĸ (dr:List Dr):Nat->Option (List St)->List Rl->BT
 |0,_,acc=> .ok acc.reverse
 |j+1,st,acc=>match dr[j]? with
  |none=> .bad
  |some d=>match (match d.steps with|some o=>some o|none=>st) with
   |none=> .err d.start
   |some ss=>if d.pat.isNone&&ũ ss then .err d.start else ĸ dr j (some ss) (acc++[⟨j,d.heads,d.pat,ss,d.line⟩])
noncomputable def tJ:Nat->List V
 |0=>[]
 |j+1=> .int (j:Int)::tJ j
theorem Gb (n:Nat):tJ n=(List.range n).map λk:Nat=>V.int ((n:Int)-1+ -1*(k:Int)):=by
 induction n with
 |zero=>rfl
 |succ n ih=>
  rw[Rn,ß,õ,tJ,ih,ÄY,Ś]
  congr 1
  refine az λj _=>È V.int ?_
  show (n:Int)-1+ -1*(j:Int)=(n:Int)+ -1*((j:Int)+1)
  rw[Int.mul_add,Int.mul_one,←LO,Int.sub_eq_add_neg,Int.add_right_comm]
theorem pP {n:Nat}(h:n<=small):((n:Int)-1).natAbs<=ę:=by
 cases n with
 |zero=>decide
 |succ n=>rw[ÄY,Ś];exact À (ĵ h) (by decide)
theorem EK {n:Nat}{H:AH}(h:n<=small):ŵ (.rng ((n:Int)-1) (-1) (-1)) H=some (tJ n):=by
 show (if _ then some (jd ((n:Int)-1) (-1) (-1)) else none)=_
 rw[Î ⟨.inr rfl,pP h,by decide⟩]
 have:(((n:Int)-1- -1- -1-1)/(- -1)).toNat=n:=by
  rw[show (- -1:Int)=1 from rfl,dF,Int.sub_neg,Int.sub_neg,Ś,Int.sub_add_cancel,ō]
 unfold jd
 rw[Ñ (by decide),Î (by decide),Gb,this]
theorem xd {w:List Nat}(h:fC.contains w=true):w.length<=6:=É.mp (show fC.all (λw=>decide (w.length<=6))=true by decide) w (â.mp h) |> Ā
section
variable {B H H':AH} {x:Nat->Nat} {t tt r:List Nat} {ls:List (Nat×Nat)} {s:RS} {i n c a b:Nat} {Q:QT} {E:Ĩ} {Er:V->Prop} {ρ:Loc}
theorem nu {k:Option (List Nat)}{b:Loc->Ĩ->WS}{Q:ST}(I:Nat->Loc->AH->Prop){m:Nat}(h0:∀ρ H,I 0 ρ H->Q .next ρ H)(step:∀j ρ H,j<m->I (j+1) ρ H->∃Ĥ,dd k i (.int (j:Int)) ρ=some Ĥ∧∀K,LK (I j) Q K->b Ĥ E H K):∀(d:Nat) (ρ:Loc) (H:AH),d<=m->I d ρ H->oP k i (λ_=>True) b E Q (tJ d) ρ H
 |0,ρ,H,e,h=>⟨trivial,h0 _ _ h⟩
 |d+1,ρ,H,e,h=>(step d ρ H e h).elim λ_ h2=>cX trivial (dN h2.1 (h2.2 _ ⟨nu I h0 step d _ _ (ĵ e),nu I h0 step d _ _ (ĵ e),id,id⟩))
theorem AW {W:Loc->Ĩ->WS}{k:Option (List Nat)}{m:Nat}{Q:ST}(I:Nat->Loc->AH->Prop)(hm:m<=small)(h:I m ρ H)(h0:∀ρ H',I 0 ρ H'->Q .next ρ H')(step:∀j ρ H',j<m->I (j+1) ρ H'->∃Ĥ,dd k i (.int (j:Int)) ρ=some Ĥ∧∀K,LK (I j) Q K->W Ĥ E H' K):kFor ρ W E k i Q (.rng ((m:Int)-1) (-1) (-1)) H:=by
 unfold kFor
 rw[EK hm]
 exact nu I h0 step m ρ H (Å m) h
theorem rN {α:Type}{f:α->V}{k:Option (List Nat)}{ok:AH->Prop}{b:Loc->Ĩ->WS}{Q:ST}(I:List α->Loc->AH->Prop)(h0:∀ρ H,I [] ρ H->ok H∧Q .next ρ H)(step:∀x xs ρ H,I (x::xs) ρ H->ok H∧∃Ĥ,dd k i (f x) ρ=some Ĥ∧∀K,LK (I xs) Q K->b Ĥ E H K):∀(xs:List α) (ρ:Loc) (H:AH),I xs ρ H->oP k i ok b E Q (xs.map f) ρ H
 |[],ρ,H,h=>h0 ρ H h
 |x::xs,ρ,H,h=>(step x xs ρ H h).elim λh1 h2=>h2.elim λ_ h2=>cX h1 (dN h2.1 (h2.2 _ ⟨rN I h0 step xs _ _,rN I h0 step xs _ _,id,id⟩))
theorem Fu {α:Type}{f:α->V}{l:List α}{W:Loc->Ĩ->WS}{k:Option (List Nat)}{s:V}{Q:ST}(e:ŵ s H=some (l.map f))(I:List α->Loc->AH->Prop)(h:I l ρ H)(h0:∀ρ H',I [] ρ H'->Ũ s H H'∧Q .next ρ H')(step:∀x xs ρ H',I (x::xs) ρ H'->Ũ s H H'∧∃Ĥ,dd k i (f x) ρ=some Ĥ∧∀K,LK (I xs) Q K->W Ĥ E H' K):kFor ρ W E k i Q s H:=by
 unfold kFor
 rw[e]
 exact rN I h0 step l ρ H h
theorem Tz {n:Nat}(h:n<=small)(q:Q (.rng ((n:Int)-1) (-1) (-1)) H):Af ((n:Int)-1) (-1) (-1) H Q:=by
 unfold Af
 exact⟨pP h,by decide,rfl,q⟩
theorem Oe {a b c d e:V}(q:Q (.rcd 5 [(8,a),(9,b),(10,c),(11,d),(1,e)]) (H++[none])):jh (ú (n+1)) 5 [a,b,c,d,e] E H Q:=
 gN rfl rfl (ų rfl rfl (ų rfl rfl (ų rfl rfl (ų rfl rfl (ų rfl rfl (kE rfl q))))))
theorem TA {vs:List V}(h:H[i]? =some (some (.list vs)))(q:Q .none (H.set i (some (.list vs.reverse)))):oj 7 i [] H Q:=by
 unfold oj
 rw[h];exact q
theorem rk (p:Option (List Nat)):bh .is_ (Aj p) .none H=some p.isNone:=by cases p<;>rfl
theorem HW (p:Option (List St)):bh .isnot (B8 p) .none H=some (!p.isNone):=by cases p<;>rfl
theorem OX {k:List Nat}:bh .in_ (.str k) (.tup MD) H=some (fC.contains k):=by rw[IM];exact CB
abbrev BK (B:AH)(x:Nat->Nat)(t:List Nat)(ls:List (Nat×Nat))(s:RS)(Q:QT)(rs:List Rl):Prop:=∀H',Rd H' x t ls s->Up (x 0) B H'->Q (.lst (rs.map aZ)) H'
inductive XQ (B:AH)(x:Nat->Nat)(t:List Nat)(ls:List (Nat×Nat))(s:RS)(Q:QT)(Er:V->Prop)(a:Nat)(j:Nat):Loc->AH->Prop
 |mk {H':AH} {st:Option (List St)} {acc:List Rl} {y3 y4 y5 y6 y7 y8 y9:Option V}:Rd H' x t ls s->Up (x 0) B H'->H'[a]? =some (some (.list (acc.map aZ)))->acc.length+j<=small->BT.on (BK B x t ls s Q) (oE t Er) (ĸ s.drafts j st acc)->XQ B x t ls s Q Er a j [some (.obj (x 0)),some (.obj a),some (B8 st),y3,y4,y5,y6,y7,y8,y9] H'
noncomputable def bl (x:Nat->Nat)(a j:Nat)(d:Dr)(v2 y9:Option V):Loc:=[some (.obj (x 0)),some (.obj a),v2,some (.int (j:Int)),some (.tup (d.heads.map .int)),some (Aj d.pat),some (B8 d.steps),some (.int (d.start:Int)),some (.int (d.line:Int)),y9]
inductive S7 (x:Nat->Nat)(a j:Nat)(d:Dr)(v2:Option V)(ss:List St)(H':AH)(rest:List St):Loc->AH->Prop
 |mk {y9:Option V}:ũ rest=ũ ss->S7 x a j d v2 ss H' rest (bl x a j d v2 y9) H'
theorem Ec {y9:Option V}{j:Nat}{d:Dr}{ss:List St}{acc:List Rl}{K:ST}(kj:t.length<=small)(R:Rd H x t ls s)(U:Up (x 0) B H)(g:H[a]? =some (some (.list (acc.map aZ))))(QY:acc.length+(j+1)<=small)(hx:∀k,k<5->x k≠a)(Ma:x 0<=a)(kq:d.start<=t.length)
 (q:BT.on (BK B x t ls s Q) (oE t Er) (if d.pat.isNone&&ũ ss then .err d.start else ĸ s.drafts j (some ss) (acc++[⟨j,d.heads,d.pat,ss,d.line⟩])))
 (k:∀H2 y9,XQ B x t ls s Q Er a j (bl x a j d (some (.lst (ss.map Ū))) y9) H2->K .next (bl x a j d (some (.lst (ss.map Ū))) y9) H2):ì (ú (n+9)) ((hZ wK 2).drop 2) (bl x a j d (some (.lst (ss.map Ū))) y9) (λp _=>Er p) H K:=by
 have last:∀y9,BT.on (BK B x t ls s Q) (oE t Er) (ĸ s.drafts j (some ss) (acc++[⟨j,d.heads,d.pat,ss,d.line⟩]))->ì (ú (n+9)) ((hZ wK 2).drop 4) (bl x a j d (some (.lst (ss.map Ū))) y9) (λp _=>Er p) H K:=λy9 q=>by
  have g2:=fJ g [none]
  refine bL g rfl (Oe (eK g2 (by rw[Â];exact æ (dG (Ï _ j)) (À QY (by decide))) (k _ _ ?_)))
  refine .mk (acc:=acc++[⟨j,d.heads,d.pat,ss,d.line⟩]) ((R.app [none]).set hx) ((U.trans (Up.app (í (R.lt (by decide))) _)).trans (Up.set Ma _)) ?_ (by rw[Ã,þ,ą _ j];exact QY) q
  rw[dR g2,Ú];rfl
 refine bo rfl (ar rfl (bo (rk d.pat) (kJ q (λ_ q=> ?_) λ_ q=>last _ q)))
 refine Fu (f:=Ū) rfl (S7 x a j d (some (.lst (ss.map Ū))) ss H) (.mk rfl) (λρ H' I=> ?_) λz zs ρ H' I=> ?_
 ·induction I with| @mk y9 e=> ?_
  exact⟨trivial,last _ (pf (P:=BT.on (BK B x t ls s Q) (oE t Er)) e.symm q)⟩
 ·induction I with| @mk y9 e=> ?_
  refine⟨trivial,_,rfl,λK kk=>bo OX (bC (λh=> ?_) λh=>kk.n (.mk ((show ũ (z::zs)=(fC.contains z.1||ũ zs) from rfl).symm.trans e |> λe=>by rw[h] at e;exact e)))⟩
  have hb:ũ ss=true:=e.symm.trans (by show (fC.contains z.1||ũ zs)=true;rw[h];rfl)
  refine č (À (ě (xd h) _) (by decide)) (Ń (R.at_ 0 (by decide)) rfl ?_)
  exact tD kj kq λl=>pt (P:=BT.on (BK B x t ls s Q) (oE t Er)) hb q
theorem Jn (ht:t.length<=TL)(R:Rd H x t ls s)(U:Up (x 0) B H)(Bs:Bd t.length s)(hd:s.drafts.length<=small)(q:BT.on (BK B x t ls s Q) (oE t Er) (ĸ s.drafts s.drafts.length none [])):Call (ú (n+10)) (λp _=>Er p) 52 Q [.obj (x 0)] H:=by
 have kj:t.length<=small:=À ht (by decide)
 have hx:∀k,k<5->x k≠H.length:=λk hk=>î (R.lt hk)
 have Ma:x 0<=H.length:=í (R.lt (by decide))
 have R0:=R.app [some (.list [])]
 refine call rfl ?_
 refine Ń (R0.at_ 0 (by decide)) rfl (fV (R0.at_ 3 (by decide)) (li (z:=(s.drafts.length:Int)-1) (by rw[Â]) (Tz hd ?_)))
 refine AW (XQ B x t ls s Q Er H.length) hd (.mk (st:=none) (acc:=[]) R0 (U.trans (Up.app Ma _)) ć (by rw[Ŀ,Ľ];exact hd) q) (λρ H' I=> ?_) λj ρ H' hj I=> ?_
 ·induction I with| @mk H' st acc y3 y4 y5 y6 y7 y8 y9 R U g QY q=> ?_
  refine bL g rfl (TA g (xX (dR g _) ?_))
  rw[←ÄW]
  exact q _ ((R.set hx).set hx) ((U.trans (Up.set Ma _)).trans (Up.set Ma _))
 ·induction I with| @mk H' st acc y3 y4 y5 y6 y7 y8 y9 R U g QY q=> ?_
  have iR:(s.drafts.map VD)[j]? =some (VD s.drafts[j]):=by rw[Ü,Ç hj];rfl
  have kq:s.drafts[j].start<=t.length:=Bs.dp _ (Ų hj)
  unfold ĸ at q
  rw[Ç hj] at q
  dsimp only at q
  generalize s.drafts[j]=d at q iR kq
  refine⟨_,rfl,λK kk=>Ń (R.at_ 0 (by decide)) rfl (gB (R.at_ 3 (by decide)) (dm iR (bo (HW d.steps) (GP (λh=> ?_) λh=> ?_))))⟩
  ·cases oY:d.steps with
   |none=>rw[oY] at h;contradiction
   |some o=>
    rw[oY] at q
    have:=Ec (n:=n) (y9:=y9) (K:=K) kj R U g QY hx Ma kq q λH2 y9 I=>kk.n I
    unfold bl at this
    rw[oY] at this
    exact this
  ·cases oY:d.steps with
   |some o=>rw[oY] at h;contradiction
   |none=>
    rw[oY] at q
    cases st with
    |some o=>
     have:=Ec (n:=n) (y9:=y9) (K:=K) kj R U g QY hx Ma kq q λH2 y9 I=>kk.n I
     unfold bl at this
     rw[oY] at this
     exact this
    |none=>exact Ń (R.at_ 0 (by decide)) rfl (tD kj kq λl=>q)
end
noncomputable def da:List Nat:=cs "INITIAL"
theorem FJ:da=[73,78,73,84,73,65,76]:=by decide
noncomputable def xJ:RS:=⟨0,[],[(da,false)],true,[],[],[]⟩
theorem NK (T:Nat):Bd T xJ:=⟨by decide,by decide,by decide,by decide,nofun,nofun⟩
noncomputable def ao (s:RS)(rl:List Rl):V:= .rcd 7 [(12,.dic (s.defs.map sY)),(9,.lst (s.conds.map Ň)),(13,.lst (rl.map aZ)),(14,.bool s.dflt),(15,.str s.tail)]
inductive FT where
 |ok (s:RS) (rl:List Rl)
 |err (k:Nat)
 |bad
def FT.on (K:RS->List Rl->Prop)(Er:Nat->Prop):FT->Prop
 | .ok s rl=>K s rl
 | .err k=>Er k
 | .bad=>False
noncomputable def gX (t:List Nat):FT:=match bN t (Đ t (t.length+1) 0) xJ with
 | .err k=> .err k
 | .bad=> .bad
 | .ok s1=>match b8 t ((Đ t (t.length+1) 0).drop s1.row) s1 with
   | .err k=> .err k
   | .bad=> .bad
   | .ok s2=>match ĸ s2.drafts s2.drafts.length none [] with
     | .err k=> .err k
     | .bad=> .bad
     | .ok rl=> .ok s2 rl
structure Ke (h:Nat)(A A':AH):Prop where
 o:∀{j:Nat} {z:Option O},h<j->A[j]? =some z->A'[j]? =some z
 u:Up h A A'
theorem Ke.trans {h:Nat}{A B C:AH}(a:Ke h A B)(b:Ke h B C):Ke h A C:=⟨λj e=>b.o j (a.o j e),a.u.trans b.u⟩
section
variable {A H H':AH} {h n c f i:Nat} {fs GR:List (Nat×V)} {v:V} {Q:AH->Prop} {y:Option O}
theorem QK (g:A[h]? =some (some (.inst c fs)))(e:cond (vD c f) (Nat.ble fs.length 20) false=true)(e2:mj f v fs=GR)(q:∀A',A'[h]? =some (some (.inst c GR))->Ke h A A'->Q A'):eP (.obj h) f v A Q:=
 Ae g e e2 (q _ (dR g _) ⟨λj z=>by rw[ñ (î j)];exact z,Up.set (Å h) _⟩)
theorem lZ (g:A[h]? =some (some (.inst c fs)))(e:cond (vD c f) (Nat.ble fs.length 20) false=true)(e2:mj f v fs=GR)(q:∀A',A'[h]? =some (some (.inst c GR))->A'[A.length]? =some y->A.length<A'.length->Ke h A A'->Q A'):eP (.obj h) f v (A++[y]) Q:=
 have hl:=ai g
 have k:Ke h A (A++[y]):=⟨λ_ z=>fJ z [y],Up.app (í hl) [y]⟩
 QK (fJ g [y]) e e2 λA' g' k'=>q A' g' (k'.o hl ć) (ai (k'.o hl (ć (x:=y)))) (k.trans k')
end
noncomputable def xs (h d c r s:Nat):Nat->Nat
 |0=>h
 |1=>d
 |2=>c
 |3=>r
 |_=>s
theorem Ta {h d c r s:Nat}(a1:h<d)(a2:d<c)(a3:c<r)(a4:r<s):∀k,k<4->xs h d c r s k<xs h d c r s (k+1)
 |0,_=>a1
 |1,_=>a2
 |2,_=>a3
 |3,_=>a4
theorem OU {x:Nat->Nat}(h:∀k,k<4->x k<x (k+1)):∀j k,j<5->k<5->x j=x k->j=k:=by
 have lt:∀d j,j+(d+1)<5->x j<x (j+(d+1)):=λd=>by
  induction d with
  |zero=>exact λj hj=>h j (ı hj)
  |succ d ih=>exact λj hj=>Ą (ih j (Nat.lt_of_succ_lt hj)) (h _ (ı hj))
 intro j k hj hk e
 rcases Äh j k with z|z|z
 ·obtain⟨d,rfl⟩:=Qu z
  exact absurd e (î (lt d j hk))
 ·exact z
 ·obtain⟨d,rfl⟩:=Qu z
  exact absurd e.symm (î (lt d k hj))
section
variable {B H H':AH} {x:Nat->Nat} {t tt r:List Nat} {ls:List (Nat×Nat)} {s:RS} {i n c a b:Nat} {Q:QT} {E:Ĩ} {Er:V->Prop} {ρ:Loc}
theorem Fd (hl:t.length<=TL)(q:∀H' x,x 0=H.length->Rd H' x t (Đ t (t.length+1) 0) xJ->Up H.length H H'->Q (.obj H.length) H'):jh (ú (n+2)) 8 [.str t] E H Q:=by
 refine gN rfl rfl ?_
 refine QK ć rfl rfl λA1 g1 k1=> ?_
 refine Jj (À hl (by decide)) λl=>QK (fJ g1 l) rfl rfl λA2 g2 k2=> ?_
 have h1:=ai g1
 refine QK g2 rfl rfl λA3 g3 k3=>lZ g3 rfl rfl λA4 g4 d4 l4 k4=>lZ g4 rfl rfl λA5 g5 c5 l5 k5=>QK g5 rfl rfl λA6 g6 k6=>lZ g6 rfl rfl λA7 g7 r7 l7 k7=>lZ g7 rfl rfl λA8 g8 s8 l8 k8=>QK g8 rfl rfl λA9 g9 k9=> ?_
 have a1:=ai g3
 have a3:=æ l5 k6.u.2
 have lt:=Ta a1 l4 a3 l7
 have k69:=k7.trans (k8.trans k9)
 have k59:=k6.trans k69
 have k49:=k5.trans k59
 refine Dn rfl (q A9 (xs H.length A3.length A4.length A6.length A7.length) rfl ⟨λk hk=> ?_,OU lt,λk=> ?_⟩ ?_)
 ·rcases k with _|_|_|_|k
  ·exact g9
  ·exact k49.o a1 d4
  ·rw[show GN (xs H.length A3.length A4.length A6.length A7.length) t (Đ t (t.length+1) 0) xJ 2= .list [.tup [.str [73,78,73,84,73,65,76],.bool false]] from È (λz=>O.list [V.tup [.str z,.bool false]]) FJ]
   exact k59.o (Ą a1 l4) c5
  ·exact (k8.trans k9).o (Ą a1 (Ą l4 a3)) r7
  ·exact k9.o (Ą a1 (Ą l4 (Ą a3 l7))) s8
 ·rcases k with _|_|_|_|k
  ·exact Å _
  ·exact í a1
  ·exact í (Ą a1 l4)
  ·exact í (Ą a1 (Ą l4 a3))
  ·exact í (Ą a1 (Ą l4 (Ą a3 l7)))
 ·exact (Up.app (Å _) _).trans (k1.u.trans ((Up.app (í h1) l).trans (k2.u.trans (k3.u.trans (k4.u.trans k49.u)))))
theorem Og {a b c d e:V}(q:Q (.rcd 7 [(12,a),(9,b),(13,c),(14,d),(15,e)]) (H++[none])):jh (ú (n+1)) 7 [a,b,c,d,e] E H Q:=
 gN rfl rfl (ų rfl rfl (ų rfl rfl (ų rfl rfl (ų rfl rfl (ų rfl rfl (kE rfl q))))))
theorem EN {j:Nat}{es:List (List Nat×V)}{vs:List V}{r:List (Nat×V)}(hi:H[i]? =some (some (.dict es)))(hj:H[j]? =some (some (.list vs)))(jJ:i≠j)(q:Q (.rcd 7 ((12,.dic es)::(9,.lst vs)::r)) ((H.set i none).set j none)):pb 12 9 i (.obj j) r H Q:=by
 unfold pb wG listAt
 rw[hi];dsimp only;rw[hj]
 exact⟨jJ,q⟩
theorem pI:∀{es:List (Nat×Nat)} {s s':RS},bN t es s= .ok s'->s'.row<=s.row+es.length
 |[],s,s',h=>by contradiction
 |e::es,s,s',h=>by
  have on:∀{s2:RS},s2.row=s.row+1->bN t es s2= .ok s'->s'.row<=s.row+(es.length+1):=λhr h=>by
   have:=pI h
   rw[hr,þ,ą 1] at this
   exact this
  refine dC (P:=λz:PT=>z= .ok s'->s'.row<=s.row+(es.length+1)) (λe=> ?_) (dC (P:=λz:PT=>z= .ok s'->s'.row<=s.row+(es.length+1)) (on rfl) ?_) h
  ·cases e;exact Ý (Ğ 1 _) _
  ·refine dC (P:=λz:PR RS=>(match z with| .ok s' _=>bN t es s'| .err r'=> .err (e.2-r'.length)| .bad=> .bad)= .ok s'->s'.row<=s.row+(es.length+1)) ?_ ?_
   ·cases aK FU s.conds s.dflt (Œ t e) with
    |ok oD r'=>exact on rfl
    |err=>exact nofun
    |bad=>exact nofun
   ·cases je s.defs (Œ t e) with
    |ok oD r'=>exact on rfl
    |err=>exact nofun
    |bad=>exact nofun
theorem uj {s s':RS}(h:sQ s= .ok s'):s'=s:=by
 unfold sQ at h
 cases hs:s.scopes.getLast? with
 |none=>rw[hs] at h;cases h;rfl
 |some sc=>rw[hs] at h;cases h
theorem nJ:∀{es:List (Nat×Nat)} {s s':RS},b8 t es s= .ok s'->s'.row<=s.row+es.length
 |[],s,s',h=>by rw[uj h];exact Ï ..
 |e::es,s,s',h=>by
  have on:∀{s2:RS},s2.row=s.row+1->b8 t es s2= .ok s'->s'.row<=s.row+(es.length+1):=λhr h=>by
   have:=nJ h
   rw[hr,þ,ą 1] at this
   exact this
  refine dC (P:=λz:PT=>z= .ok s'->s'.row<=s.row+(es.length+1)) (λe=> ?_) (dC (P:=λz:PT=>z= .ok s'->s'.row<=s.row+(es.length+1)) (on rfl) ?_) h
  ·rw[uj e];exact Ý (Ğ 1 _) _
  ·cases hp:œ {s with row:=s.row+1} FU e.1 (Œ t e) with
   |ok s2 r'=>exact on (gY hp).row
   |err=>exact nofun
   |bad=>exact nofun
theorem AY (ht:t.length<=TL)(q:FT.on (λs rl=>∀H',Up H.length H H'->Q (ao s rl) H') (oE t Er) (gX t)):Call (ú (n+13)) (λp _=>Er p) 53 Q [.str t] H:=by
 delta gX at q
 refine call rfl (Fd ht λH1 x hx R U=> ?_)
 rw[←hx] at U⊢
 refine mo (R.at_ 0 (by decide)) rfl (call rfl (mo (R.at_ 0 (by decide)) rfl (OK (B:=H) ht rfl R U (NK _) ?_)))
 show PT.on _ _ (bN t (Đ t (t.length+1) 0) xJ)
 cases Hd:bN t (Đ t (t.length+1) 0) xJ with
 |bad=>rw[Hd] at q;exact q
 |err k=>rw[Hd] at q;exact q
 |ok s1=>
 rw[Hd] at q
 intro H2 R2 U2 B2
 refine mo (R2.at_ 0 (by decide)) rfl (Jh ht rfl R2 U2 B2 ?_)
 cases Ky:b8 t ((Đ t (t.length+1) 0).drop s1.row) s1 with
 |bad=>dsimp only at q;rw[Ky] at q;exact q
 |err k=>dsimp only at q;rw[Ky] at q;exact q
 |ok s2=>
 dsimp only at q
 rw[Ky] at q
 intro H3 R3 U3 B3
 have r1:=pI Hd
 have r2:=nJ Ky
 rw[ã] at r2
 have r3:s2.drafts.length<=small:=À B3.r (À r2 (À (Ë r1 (Ō ..)) (À (Ë (Ý dA 0) dA) (À (Ë (Ý (Ì ht) 0) (Ì ht)) (by decide)))))
 refine mo (R3.at_ 0 (by decide)) rfl (Jn ht R3 U3 B3 r3 ?_)
 cases Xk:ĸ s2.drafts s2.drafts.length none [] with
 |bad=>dsimp only at q;rw[Xk] at q;exact q
 |err k=>dsimp only at q;rw[Xk] at q;exact q
 |ok rl=>
 dsimp only at q
 rw[Xk] at q
 intro H4 R4 U4
 have g0:=R4.at_ 0 (by decide)
 have R5:=R4.app [none]
 refine Ń g0 rfl (Ń g0 rfl (Ń g0 rfl (Ń g0 rfl (Og (EN (R5.at_ 1 (by decide)) (R5.at_ 2 (by decide)) (λz=>absurd (R4.inj 1 2 (by decide) (by decide) z) (by decide)) ?_)))))
 refine q _ ?_
 rw[←hx]
 exact U4.trans ((Up.app (í (R4.lt (by decide))) _).trans ((Up.set (R4.le 1) _).trans (Up.set (R4.le 2) _)))
end
inductive QD where
 |ok (s:RS) (rest:List (List Nat))
 |err (l c:Nat)
 |bad
noncomputable def aI:List (List Nat)->Nat->Nat->RS->QD
 |[],l,c,_=> .err l c
 |w::ws,l,c,s=>
  if ń w then .ok {s with row:=s.row+1} ws
  else if ŀ w then aI ws (s.row+1) (w.length+1) {s with row:=s.row+1}
  else match ő {s with row:=s.row+1} w with
   | .ok s' _=>aI ws (s.row+1) (w.length+1) s'
   | .err r'=> .err (s.row+1) (w.length-r'.length+1)
   | .bad=> .bad
inductive QR where
 |ok (s:RS)
 |err (l c:Nat)
 |bad
noncomputable def qn (s:RS):QR:=match s.scopes.getLast? with
 |some sc=> .err sc.2 1
 |none=> .ok s
noncomputable def ģ:List (List Nat)->RS->QR
 |[],s=>qn s
 |w::ws,s=>
  if ń w then qn {s with row:=s.row+1,tail:=ø [10] ws}
  else if ŀ w then ģ ws {s with row:=s.row+1}
  else match œ {s with row:=s.row+1} FU (s.row+1) w with
   | .ok s' _=>ģ ws s'
   | .err r'=> .err (s.row+1) (w.length-r'.length+1)
   | .bad=> .bad
inductive QF where
 |ok (s:RS) (rl:List Rl)
 |err (l c:Nat)
 |bad
noncomputable def tv (s2:RS):QF:=match ĸ s2.drafts s2.drafts.length none [] with
 | .err l=> .err l 1
 | .bad=> .bad
 | .ok rl=> .ok s2 rl
noncomputable def Ĺ (rows:List (List Nat)):QF:=match aI rows 1 1 xJ with
 | .err l c=> .err l c
 | .bad=> .bad
 | .ok s1 rest=>match ģ rest s1 with
   | .err l c=> .err l c
   | .bad=> .bad
   | .ok s2=>tv s2
noncomputable def mD (f:Nat->Nat)(d:Dr):Dr:={d with start:=f d.start}
noncomputable def mC (f:Nat->Nat)(e:List Int×Nat):List Int×Nat:=(e.1,f e.2)
noncomputable def mS (f:Nat->Nat)(s:RS):RS:={s with drafts:=s.drafts.map (mD f),scopes:=s.scopes.map (mC f)}
noncomputable def mP (f:Nat->Nat):PR RS->PR RS
 | .ok s r=> .ok (mS f s) r
 | .err r=> .err r
 | .bad=> .bad
theorem Eg (f:Nat->Nat)(s:RS)(st:Nat)(cn:List Int)(pat:Option (List Nat))(sj:Option (List St)):jL (mS f s) (f st) cn pat sj=mS f (jL s st cn pat sj):=by
 simp only[jL,mS,Ú,ß,dE,mD]
theorem yO (f:Nat->Nat)(s:RS)(F st:Nat)(cn:List Int)(pat:Option (List Nat))(r:List Nat):dM (mS f s) F (f st) cn pat r=mP f (dM s F st cn pat r):=by
 unfold dM
 have e:(mS f s).conds=s.conds:=rfl
 rw[e]
 split
 ·dsimp only
  split
  ·split
   ·split
    ·simp only[Eg];rfl
    ·rfl
   ·rfl
  ·generalize ŗ _ _ _ _=p
   cases p with
   |ok ss r3=>
    dsimp only
    split
    ·simp only[Eg];rfl
    ·rfl
   |err r'=>rfl
   |bad=>rfl
 ·rfl
theorem yP (f:Nat->Nat)(s:RS)(F st:Nat)(cn:List Int)(r:List Nat):a0 (mS f s) F (f st) cn r=mP f (a0 s F st cn r):=by
 unfold a0
 split
 ·exact yO ..
 ·cases aO r with
  |ok raw r1=>exact yO ..
  |err r'=>rfl
  |bad=>rfl
theorem ui (f:Nat->Nat)(s:RS)(F st:Nat)(cn:List Int)(r:List Nat):Ŵ (mS f s) F (f st) cn r=mP f (Ŵ s F st cn r):=by
 unfold Ŵ
 have e:(mS f s).conds=s.conds:=rfl
 rw[e]
 cases Š (s.conds.map (·.1)) F r with
 |ok own r1=>
  dsimp only
  split
  ·split
   ·exact yP ..
   ·split
    ·simp only[mP,mS,Ú,ß,dE,mC]
    ·exact yP ..
  ·rfl
 |err r'=>rfl
 |bad=>rfl
theorem yQ (f:Nat->Nat)(s:RS)(F st:Nat)(r:List Nat):œ (mS f s) F (f st) r=mP f (œ s F st r):=by
 unfold œ
 have e:(mS f s).scopes.getLast? =s.scopes.getLast?.map (mC f):=jz
 rw[e]
 cases hs:s.scopes.getLast? with
 |none=>
  dsimp only[Option.map_none]
  split
  ·rfl
  ·exact ui ..
 |some sc=>
  dsimp only[Option.map_some]
  split
  ·rfl
  ·split
   ·simp only[mP,mS,vx]
   ·exact ui ..
theorem Pb {w:List Nat}(h:∀c∈w,c≠10):∀(v:List Nat) (f:Nat),w.length<f->ü [10] (w++10::v) f=some w.length:=by
 induction w with
 |nil=>
  intro v f hf
  obtain⟨f,rfl⟩:∃f',f=f'+1:=⟨f-1,by lia⟩
  rfl
 |cons c w ih=>
  intro v f hf
  obtain⟨f,rfl⟩:∃f',f=f'+1:=⟨f-1,by lia⟩
  have hc:(10==c)=false:=by
   have:=h c (.head _)
   rw[Ù];lia
  rw[bZ,ü]
  simp only[List.isPrefixOf,hc,ot,ś,ka]
  rw[ih (λc hc=>h c (.tail _ hc)) v f (by simp at hf;lia)]
  simp
theorem JB {w:List Nat}(h:∀c∈w,c≠10):∀(f:Nat),ü [10] w f=none:=by
 induction w with
 |nil=>
  intro f
  cases f with
  |zero=>rfl
  |succ f=>simp[ü]
 |cons c w ih=>
  intro f
  cases f with
  |zero=>rfl
  |succ f=>
   have hc:(10==c)=false:=by
    have:=h c (.head _)
    simp only[Ù];lia
   simp only[ü]
   simp only[List.isPrefixOf,hc,ot,ś,ka]
   simp only[ih (λc hc=>h c (.tail _ hc)) f];rfl
theorem nW {t:List Nat}{a:Nat}:∀{c:Nat},(∀j,j<c->t[a+j]?≠some 10)->ĉ t (a+c)=ĉ t a
 |0,_=>rfl
 |c+1,h=>by
  rw[←þ]
  show (if t[a+c]? =some 10 then _ else _)=_
  rw[Ñ (h c (by omega)),nW (λj hj=>h j (by omega))]
theorem lD {t:List Nat}{a:Nat}:∀{c:Nat},(∀j,j<c->t[a+j]?≠some 10)->Ő t (a+c)=Ő t a
 |0,_=>rfl
 |c+1,h=>by
  rw[←þ]
  show (if t[a+c]? =some 10 then _ else _)=_
  rw[Ñ (h c (by lia)),lD (λj hj=>h j (by lia))]
structure At (t:List Nat)(a n:Nat)(ws:List (List Nat)):Prop where
 le:a<=t.length
 d:t.drop a=ø [10] ws
 l:ĉ t a=n+1
 b:Ő t a=a
 ok:∀w∈ws,∀c∈w,c≠10
theorem At.head {t:List Nat}{a n:Nat}{w:List Nat}{ws:List (List Nat)}(h:At t a n (w::ws)):a+w.length<=t.length∧(∀j,j<w.length->t[a+j]? =w[j]?)∧Œ t (a,a+w.length)=w:=by
 have e:t.drop a=w++(match ws with|[]=>[]|_::_=>[10]++ø [10] ws):=by
  rw[h.d]
  cases ws with
  |nil=>simp[ø]
  |cons v vs=>simp[ø]
 generalize (match ws with|[]=>[]|_::_=>[10]++ø [10] ws)=z at e
 have hl:=È List.length e
 rw[ã,Ã] at hl
 refine⟨by have:=h.le;omega,λj hj=> ?_,?_⟩
 ·rw[←Á4,e,ÿ hj]
 ·unfold Œ
  dsimp only
  rw[oq,e,aE,oo]
theorem At.pos {t:List Nat}{a n:Nat}{w:List Nat}{ws:List (List Nat)}(h:At t a n (w::ws)){c:Nat}(hc:c<=w.length):ĉ t (a+c)=n+1∧Ő t (a+c)=a:=by
 have hh:∀j,j<c->t[a+j]?≠some 10:=λj hj z=>by
  rw[h.head.2.1 j (by omega),Ç (by omega)] at z
  have:=h.ok w (.head _) w[j] (Ų _)
  simp at z;omega
 simp only[nW hh,lD hh]
 exact⟨h.l,h.b⟩
theorem At.next {t:List Nat}{a n:Nat}{w v:List Nat}{ws:List (List Nat)}(h:At t a n (w::v::ws)):At t (a+w.length+1) (n+1) (v::ws)∧a+w.length<t.length:=by
 have e:t.drop a=w++10::ø [10] (v::ws):=by
  simp only[h.d];simp[ø]
 have hl:=È List.length e
 simp only[ã,Ã,Ċ] at hl
 have hg:t[a+w.length]? =some 10:=by
  simp only[←Á4,e,ĭ (Å _)];simp
 have hp:=h.pos (Å w.length)
 have:=h.le
 refine⟨⟨by omega,?_,?_,?_,λu hu=>h.ok u (.tail _ hu)⟩,by omega⟩
 ·simp only[þ,←iG,e]
  simp only[show w.length+1=w.length+1 from rfl,←iG,G2];rfl
 ·show (if t[a+w.length]? =some 10 then _ else _)=_
  simp only[Î hg,hp.1]
 ·show (if t[a+w.length]? =some 10 then _ else _)=_
  simp only[Î hg]
theorem nU {t:List Nat}{a n:Nat}{w v:List Nat}{ws:List (List Nat)}(h:At t a n (w::v::ws))(f:Nat):Đ t (f+1) a=(a,a+w.length)::Đ t f (a+w.length+1):=by
 have e:t.drop a=w++10::ø [10] (v::ws):=by
  rw[h.d];simp[ø]
 have hn:=h.next.2
 rw[iB f a (by lia),e,Pb (h.ok w (.head _)) _ _ (by lia)]
theorem nV {t:List Nat}{a n:Nat}{w:List Nat}(h:At t a n [w])(f:Nat):Đ t (f+1) a=(if w=[] then [] else [(a,a+w.length)])∧a+w.length=t.length:=by
 have e:t.drop a=w:=by rw[h.d];rfl
 have hl:=È List.length e
 rw[ã] at hl
 have hle:=h.le
 cases w with
 |nil=>simp at hl⊢;exact⟨by rw[Đ,Î (by lia)],by lia⟩
 |cons c w=>
  have Vw:a+(c::w).length=t.length:=by simp only[Ċ] at hl⊢;lia
  refine⟨?_,Vw⟩
  rw[iB f a (by simp only[Ċ] at Vw;lia),e,JB (h.ok _ (.head _)),Ñ (by simp),Vw]
def v0 (t:List Nat)(k l c:Nat):Prop:=ĉ t k=l∧k-Ő t k+1=c
theorem GV {s s':RS}{w r:List Nat}(h:ő s w= .err r):True:=trivial
theorem l9 {t:List Nat}{a n:Nat}{w:List Nat}{ws:List (List Nat)}(h:At t a n (w::ws))(r:List Nat):v0 t (a+w.length-r.length) (n+1) (w.length-r.length+1)∨w.length<r.length:=by
 rcases Ŝ w.length r.length with z|z
 ·exact .inr z
 ·left
  have hp:=h.pos (show w.length-r.length<=w.length by lia)
  rw[show a+w.length-r.length=a+(w.length-r.length) by lia]
  exact⟨hp.1,by rw[hp.2];lia⟩
def ÁT (w:List Nat){α:Type}(p:PR α):Prop:=∀r,p= .err r->r.length<=w.length
theorem Bf {t:List Nat}:∀(ws:List (List Nat)) (w:List Nat) (a f:Nat) (s:RS) (l c:Nat),At t a s.row (w::ws)->t.length<f+a->(∀s r w',w'∈w::ws->ő s w'= .err r->r.length<=w'.length)->
 match aI (w::ws) l c s with
 | .ok s1 rest=>bN t (Đ t f a) s= .ok s1∧s.row<s1.row∧((rest=[]∧(Đ t f a).drop (s1.row-s.row)=[])∨∃a' f',At t a' s1.row rest∧rest≠[]∧(Đ t f a).drop (s1.row-s.row)=Đ t f' a'∧t.length<f'+a')
 | .err l c=>∃k,bN t (Đ t f a) s= .err k∧v0 t k l c
 | .bad=>True:=by
 intro ws
 induction ws with
 |nil=>
  intro w a f s l c h hf he
  have h1:=h.head
  obtain⟨f,rfl⟩:∃f',f=f'+1:=⟨f-1,by have:=h.le;lia⟩
  obtain⟨e1,e2⟩:=nV h f
  have MS:v0 t t.length (s.row+1) (w.length+1):=by
   have hp:=h.pos (Å w.length)
   rw[←e2]
   exact⟨hp.1,by rw[hp.2];lia⟩
  rw[e1]
  unfold aI
  by_cases hw:w=[]
  ·subst hw
   rw[Î rfl]
   simp only[show ń []=false from rfl,show ŀ []=true from rfl,ś,ka,gu]
   exact⟨_,rfl,MS⟩
  ·rw[Ñ hw]
   unfold bN
   rw[h1.2.2]
   cases QO:ń w with
   |true=>
    simp only[gu]
    exact⟨trivial,by lia,.inl ⟨trivial,by rw[show s.row+1-s.row=1 by lia];rfl⟩⟩
   |false=>
    dsimp only[b4]
    cases KB:ŀ w with
    |true=>dsimp only[lJ];exact⟨_,rfl,MS⟩
    |false=>
     dsimp only[b4]
     cases hp:ő {s with row:=s.row+1} w with
     |bad=>trivial
     |err r=>
      have:=he _ _ _ (.head _) hp
      rcases l9 h r with z|z
      ·exact⟨_,rfl,z⟩
      ·lia
     |ok s' r=>exact⟨_,rfl,MS⟩
 |cons v ws ih=>
  intro w a f s l c h hf he
  have h1:=h.head
  obtain⟨f,rfl⟩:∃f',f=f'+1:=⟨f-1,by have:=h.le;lia⟩
  have hn:=h.next
  rw[nU h f]
  unfold aI bN
  rw[h1.2.2]
  have next:∀s':RS,s'.row=s.row+1->match aI (v::ws) (s.row+1) (w.length+1) s' with
   | .ok s1 rest=>bN t (Đ t f (a+w.length+1)) s'= .ok s1∧s.row<s1.row∧((rest=[]∧((a,a+w.length)::Đ t f (a+w.length+1)).drop (s1.row-s.row)=[])∨∃a' f',At t a' s1.row rest∧rest≠[]∧((a,a+w.length)::Đ t f (a+w.length+1)).drop (s1.row-s.row)=Đ t f' a'∧t.length<f'+a')
   | .err l c=>∃k,bN t (Đ t f (a+w.length+1)) s'= .err k∧v0 t k l c
   | .bad=>True:=by
   intro s' e
   have i:=ih v (a+w.length+1) f s' (s.row+1) (w.length+1) (by rw[e];exact hn.1) (by lia) (λs r w' hw=>he s r w' (.tail _ hw))
   cases hq:aI (v::ws) (s.row+1) (w.length+1) s' with
   |bad=>trivial
   |err l c=>rw[hq] at i;exact i
   |ok s1 rest=>
    rw[hq] at i
    dsimp only at i⊢
    have ed:((a,a+w.length)::Đ t f (a+w.length+1)).drop (s1.row-s.row)=(Đ t f (a+w.length+1)).drop (s1.row-s'.row):=by
     rw[show s1.row-s.row=(s1.row-s'.row)+1 by lia];rfl
    rw[ed]
    exact⟨i.1,by lia,i.2.2⟩
  cases QO:ń w with
  |true=>
   simp only[gu]
   exact⟨trivial,by lia,.inr ⟨_,f,hn.1,by simp,by rw[show s.row+1-s.row=1 by lia];rfl,by lia⟩⟩
  |false=>
   dsimp only[b4]
   cases KB:ŀ w with
   |true=>dsimp only[lJ];exact next _ rfl
   |false=>
    dsimp only[b4]
    cases hp:ő {s with row:=s.row+1} w with
    |bad=>trivial
    |err r=>
     have:=he _ _ _ (.head _) hp
     rcases l9 h r with z|z
     ·exact⟨_,rfl,z⟩
     ·lia
    |ok s' r=>
     have e:s'.row=s.row+1:=by
      unfold ő at hp
      split at hp
      ·split at hp
       ·cases hp;rfl
       ·contradiction
       ·contradiction
      ·split at hp
       ·cases hp;rfl
       ·contradiction
       ·contradiction
     exact next s' e
theorem gV {t:List Nat}:∀{f:Nat} {r r':List Nat},r <:+ t->ae f r= .bad r'->r' <:+ t
 |0,r,r',hr,h=>by contradiction
 |f+1,[],r',hr,h=>by contradiction
 |f+1,c::r,r',hr,h=>by
  have hs:=eU hr
  rw[kT] at h
  split at h
  ·contradiction
  ·split at h
   ·split at h
    ·rename_i q hq;exact gV ((gW hq).trans hs) h
    ·cases h;exact hr
   ·split at h
    ·split at h
     ·rename_i q hq;exact gV ((jw hq).trans hs) h
     ·cases h;exact hr
    ·split at h
     ·split at h
      ·contradiction
      ·exact gV (eU hs) h
     ·exact gV hs h
theorem uh {t r r':List Nat}(hr:r <:+ t)(h:aO r= .err r'):r' <:+ t:=by
 unfold aO at h
 split at h
 ·split at h
  ·cases h;exact hr
  ·contradiction
 ·cases h;exact ĩ hr _
 ·rename_i q hq;cases h;exact gV hr hq
theorem AN {nm:List Nat->Bool}{t r r':List Nat}(hr:r <:+ t)(h:aJ nm r= .err r'):r' <:+ t:=by
 have h1:=ŷ hr
 have h2:=ab h1
 unfold aJ at h
 split at h
 ·cases h;exact hr
 ·split at h
  ·contradiction
  ·dsimp only at h
   repeat' split at h
   all_goals first|(cases h;done)|(cases h;exact h2)
theorem jq {nm:List Nat->Bool}{t:List Nat}:∀{f:Nat} {prev:List St} {r r':List Nat},r <:+ t->ŗ nm f prev r= .err r'->r' <:+ t
 |0,prev,r,r',hr,h=>by contradiction
 |f+1,prev,r,r',hr,h=>by
  have h1:=ab hr
  unfold ŗ at h
  split at h
  ·split at h
   ·cases h;exact h1
   ·contradiction
  ·split at h
   ·cases h;exact h1
   ·split at h
    ·rename_i q hq;cases h;exact AN h1 hq
    ·contradiction
    ·rename_i s r2 hq
     have h2:=ab (pE h1 hq)
     split at h
     ·exact jq h2 h
     ·split at h
      ·exact jq (ĩ h2 1) h
      ·cases h;exact h2
theorem nN {nm:List (List Nat)}{t:List Nat}:∀{f:Nat} {acc:List Int} {r r':List Nat},r <:+ t->bq nm f acc r= .err r'->r' <:+ t
 |0,acc,r,r',hr,h=>by contradiction
 |f+1,acc,r,r',hr,h=>by
  have h1:=ŷ hr
  unfold bq at h
  split at h
  ·dsimp only at h
   split at h
   ·contradiction
   ·split at h
    ·exact nN (ĩ h1 1) h
    ·cases h;exact h1
  ·cases h;exact hr
theorem xc {nm:List (List Nat)}{t:List Nat}{f:Nat}{r r':List Nat}(hr:r <:+ t)(h:Š nm f r= .err r'):r' <:+ t:=by
 unfold Š at h
 split at h
 ·contradiction
 ·split at h
  ·split at h
   ·contradiction
   ·exact nN (ĩ hr 1) h
  ·contradiction
theorem js {w t:List Nat}:∀{f:Nat} {cd:List (List Nat×Bool)} {df:Bool} {r r':List Nat},r <:+ t->eb w f cd df r= .err r'->r' <:+ t
 |0,cd,df,r,r',hr,h=>by contradiction
 |f+1,cd,df,r,r',hr,h=>by
  have h1:=ŷ hr
  have h2:=ab h1
  unfold eb at h
  split at h
  ·contradiction
  ·split at h
   ·cases h;exact hr
   ·split at h
    ·split at h
     ·split at h
      ·exact js h2 h
      ·cases h;exact h1
     ·cases h;exact hr
    ·split at h
     ·cases h;exact hr
     ·split at h
      ·exact js h2 h
      ·cases h;exact h1
theorem AQ {F:Nat}{cd:List (List Nat×Bool)}{df:Bool}{t r r':List Nat}(hr:r <:+ t)(h:aK F cd df r= .err r'):r' <:+ t:=by
 have h1:=ab (ŷ (ĩ hr 1))
 unfold aK at h
 dsimp only at h
 split at h
 ·split at h
  ·cases h;exact h1
  ·exact js h1 h
 ·cases h;exact hr
theorem E3 {df:List (List Nat×List Nat)}{t r r':List Nat}(hr:r <:+ t)(h:je df r= .err r'):r' <:+ t:=by
 have h1:=ŷ hr
 have h2:=ab h1
 unfold je at h
 dsimp only at h
 split at h
 ·cases h;exact hr
 ·split at h
  ·cases h;exact hr
  ·split at h
   ·split at h
    ·rename_i raw r2 hq
     split at h
     ·contradiction
     ·cases h;exact ab (nh h2 hq)
    ·rename_i q hq;cases h;exact uh h2 hq
    ·contradiction
   ·cases h;exact h1
theorem w8 {s:RS}{r r':List Nat}(h:ő s r= .err r'):r'.length<=r.length:=by
 unfold ő at h
 split at h
 ·split at h
  ·contradiction
  ·rename_i q hq;cases h;exact a9 (AQ (đ _) hq)
  ·contradiction
 ·split at h
  ·contradiction
  ·rename_i q hq;cases h;exact a9 (E3 (đ _) hq)
  ·contradiction
theorem pD {s:RS}{F st:Nat}{cn:List Int}{pat:Option (List Nat)}{t r r':List Nat}(hr:r <:+ t)(h:dM s F st cn pat r= .err r'):r' <:+ t:=by
 have h1:=ab hr
 unfold dM at h
 split at h
 ·dsimp only at h
  split at h
  ·split at h
   ·split at h
    ·contradiction
    ·contradiction
   ·cases h;exact ab (ĩ h1 1)
  ·split at h
   ·split at h
    ·contradiction
    ·contradiction
   ·rename_i q hq;cases h;exact jq h1 hq
   ·contradiction
 ·cases h;exact hr
theorem pF {s:RS}{F st:Nat}{cn:List Int}{t r r':List Nat}(hr:r <:+ t)(h:a0 s F st cn r= .err r'):r' <:+ t:=by
 unfold a0 at h
 split at h
 ·exact pD (ĩ hr 7) h
 ·split at h
  ·rename_i raw r1 hq;exact pD (nh hr hq) h
  ·rename_i q hq;cases h;exact uh hr hq
  ·contradiction
theorem nK {s:RS}{F st:Nat}{cn:List Int}{t r r':List Nat}(hr:r <:+ t)(h:Ŵ s F st cn r= .err r'):r' <:+ t:=by
 unfold Ŵ at h
 split at h
 ·rename_i own r1 hq
  have h1:=w9 hr hq
  split at h
  ·split at h
   ·exact pF h1 h
   ·split at h
    ·contradiction
    ·exact pF h1 h
  ·contradiction
 ·rename_i q hq;cases h;exact xc hr hq
 ·contradiction
theorem pG {s:RS}{F st:Nat}{r r':List Nat}(h:œ s F st r= .err r'):r'.length<=r.length:=by
 apply a9
 unfold œ at h
 split at h
 ·dsimp only at h
  have h0:=ab (đ r)
  split at h
  ·contradiction
  ·split at h
   ·contradiction
   ·exact nK h0 h
 ·split at h
  ·cases h;exact đ _
  ·exact nK (đ _) h
def Sg (t:List Nat)(s:RS):Prop:=(∀e∈s.scopes,Ő t e.2=e.2)∧(∀d∈s.drafts,Ő t d.start=d.start)
theorem Sg.gr {t:List Nat}{s s':RS}{a:Nat}(g:Gr a s s')(S:Sg t s)(ha:Ő t a=a):Sg t s':=by
 refine⟨λe he=> ?_,λd hd=> ?_⟩
 ·rcases g.q with h|h|⟨z,h,hz⟩
  ·rw[h] at he;exact S.1 e he
  ·rw[h] at he;exact S.1 e ((ez _).subset he)
  ·rw[h,ö,Ô] at he
   rcases he with he|rfl
   ·exact S.1 e he
   ·rw[hz,ha]
 ·rcases g.r with h|⟨z,h,hz⟩
  ·rw[h] at hd;exact S.2 d hd
  ·rw[h,ö,Ô] at hd
   rcases hd with hd|rfl
   ·exact S.2 d hd
   ·rw[hz,ha]
def M8 (t:List Nat)(p:PT)(q:QR):Prop:=match q with
 | .ok s2=>∃BB,p= .ok BB∧s2={mS (ĉ t) BB with row:=s2.row}∧Sg t BB
 | .err l c=>∃k,p= .err k∧v0 t k l c
 | .bad=>True
theorem eZ {t:List Nat}{s:RS}{n:Nat}(S:Sg t s):M8 t (sQ s) (qn {mS (ĉ t) s with row:=n}):=by
 unfold qn sQ
 have e:(({mS (ĉ t) s with row:=n}:RS)).scopes.getLast? =s.scopes.getLast?.map (mC (ĉ t)):=jz
 rw[e]
 cases h:s.scopes.getLast? with
 |none=>exact⟨s,rfl,rfl,S⟩
 |some sc=>exact⟨sc.2,rfl,rfl,by rw[S.1 sc (fu h)];lia⟩
theorem AO {s s':RS}{st:Nat}{r w:List Nat}(h:œ {s with row:=s.row+1} FU st w= .ok s' r):s'.row=s.row+1:=(gY h).row
theorem wZ {t:List Nat}:∀(ws:List (List Nat)) (w:List Nat) (a f:Nat) (s:RS),At t a s.row (w::ws)->t.length<f+a->Sg t s->M8 t (b8 t (Đ t f a) s) (ģ (w::ws) (mS (ĉ t) s)):=by
 intro ws
 induction ws with
 |nil=>
  intro w a f s h hf S
  have h1:=h.head
  obtain⟨f,rfl⟩:∃f',f=f'+1:=⟨f-1,by have:=h.le;omega⟩
  obtain⟨e1,e2⟩:=nV h f
  rw[e1]
  unfold ģ
  by_cases hw:w=[]
  ·subst hw
   rw[Î rfl]
   simp only[show ń []=false from rfl,show ŀ []=true from rfl,ś,ka,gu]
   exact eZ (s:=s) S
  ·rw[Ñ hw]
   unfold b8
   rw[h1.2.2]
   cases QO:ń w with
   |true=>
    dsimp only[lJ]
    have et:t.drop (a+w.length+1)=ø [10] []:=by rw[Ŭ (by omega)];rfl
    rw[et]
    exact eZ (s:={s with row:=s.row+1,tail:=ø [10] []}) S
   |false=>
    dsimp only[b4]
    cases KB:ŀ w with
    |true=>dsimp only[lJ];exact eZ (s:={s with row:=s.row+1}) S
    |false=>
     dsimp only[b4]
     have em:=yQ (ĉ t) {s with row:=s.row+1} FU a w
     rw[h.l] at em
     have XD:œ {mS (ĉ t) s with row:=(mS (ĉ t) s).row+1} FU ((mS (ĉ t) s).row+1) w=mP (ĉ t) (œ {s with row:=s.row+1} FU a w):=em
     rw[XD]
     cases hp:œ {s with row:=s.row+1} FU a w with
     |bad=>trivial
     |err r=>
      have:=pG hp
      rcases l9 h r with z|z
      ·exact⟨_,rfl,z⟩
      ·omega
     |ok s' r=>exact eZ (s:=s') (S.gr (gY hp) h.b)
 |cons v ws ih=>
  intro w a f s h hf S
  have h1:=h.head
  obtain⟨f,rfl⟩:∃f',f=f'+1:=⟨f-1,by have:=h.le;omega⟩
  have hn:=h.next
  rw[nU h f]
  have er:ģ (w::v::ws) (mS (ĉ t) s)=if ń w then qn {mS (ĉ t) s with row:=(mS (ĉ t) s).row+1,tail:=ø [10] (v::ws)}
  else if ŀ w then ģ (v::ws) {mS (ĉ t) s with row:=(mS (ĉ t) s).row+1}
  else match œ {mS (ĉ t) s with row:=(mS (ĉ t) s).row+1} FU ((mS (ĉ t) s).row+1) w with
   | .ok s' _=>ģ (v::ws) s'
   | .err r'=> .err ((mS (ĉ t) s).row+1) (w.length-r'.length+1)
   | .bad=> .bad:=by rw[ģ]<;>rfl
  rw[er]
  unfold b8
  rw[h1.2.2]
  cases QO:ń w with
  |true=>
   dsimp only[lJ]
   rw[hn.1.d]
   exact eZ (s:={s with row:=s.row+1,tail:=ø [10] (v::ws)}) S
  |false=>
   dsimp only[b4]
   cases KB:ŀ w with
   |true=>dsimp only[lJ];exact ih v _ f {s with row:=s.row+1} hn.1 (by omega) S
   |false=>
    dsimp only[b4]
    have em:=yQ (ĉ t) {s with row:=s.row+1} FU a w
    rw[h.l] at em
    have XD:œ {mS (ĉ t) s with row:=(mS (ĉ t) s).row+1} FU ((mS (ĉ t) s).row+1) w=mP (ĉ t) (œ {s with row:=s.row+1} FU a w):=em
    rw[XD]
    cases hp:œ {s with row:=s.row+1} FU a w with
    |bad=>trivial
    |err r=>
     have:=pG hp
     rcases l9 h r with z|z
     ·exact⟨_,rfl,z⟩
     ·omega
    |ok s' r=>exact ih v _ f s' (by rw[AO hp];exact hn.1) (by omega) (S.gr (gY hp) h.b)
noncomputable def mB (f:Nat->Nat):BT->BT
 | .ok l=> .ok l
 | .err k=> .err (f k)
 | .bad=> .bad
theorem uk (f:Nat->Nat)(dr:List Dr):∀(j:Nat) (st:Option (List St)) (acc:List Rl),ĸ (dr.map (mD f)) j st acc=mB f (ĸ dr j st acc)
 |0,st,acc=>rfl
 |j+1,st,acc=>by
  unfold ĸ
  rw[Ü]
  cases dr[j]? with
  |none=>rfl
  |some d=>
   dsimp only[Option.map_some]
   have e1:(mD f d).steps=d.steps:=rfl
   have e2:(mD f d).pat=d.pat:=rfl
   rw[e1,e2]
   have fin:∀ss:List St,(if (d.pat.isNone&&ũ ss)=true then BT.err (f d.start) else ĸ (dr.map (mD f)) j (some ss) (acc++[⟨j,d.heads,d.pat,ss,d.line⟩]))=mB f (if (d.pat.isNone&&ũ ss)=true then BT.err d.start else ĸ dr j (some ss) (acc++[⟨j,d.heads,d.pat,ss,d.line⟩])):=by
    intro ss
    split
    ·rfl
    ·exact uk f dr j (some ss) _
   cases d.steps with
   |some o=>exact fin o
   |none=>
    cases st with
    |none=>rfl
    |some o=>exact fin o
theorem nP (dr:List Dr):∀(j:Nat) (st:Option (List St)) (acc:List Rl) (k:Nat),ĸ dr j st acc= .err k->∃d∈dr,d.start=k
 |0,st,acc,k,h=>by contradiction
 |j+1,st,acc,k,h=>by
  unfold ĸ at h
  split at h
  ·contradiction
  ·rename_i d hd
   have hm:=bX hd
   split at h
   ·cases h;exact⟨d,hm,rfl⟩
   ·split at h
    ·cases h;exact⟨d,hm,rfl⟩
    ·exact nP dr j _ _ k h
theorem jp:∀(ws:List (List Nat)) (l c:Nat) (s s1:RS) (rest:List (List Nat)),aI ws l c s= .ok s1 rest->s1.drafts=s.drafts∧s1.scopes=s.scopes
 |[],l,c,s,s1,rest,h=>by contradiction
 |w::ws,l,c,s,s1,rest,h=>by
  unfold aI at h
  split at h
  ·cases h;exact⟨rfl,rfl⟩
  ·split at h
   ·exact jp ws _ _ {s with row:=s.row+1} _ _ h
   ·split at h
    ·rename_i s' r hp
     have i:=jp ws _ _ _ _ _ h
     have:s'.drafts=s.drafts∧s'.scopes=s.scopes:=by
      unfold ő at hp
      split at hp
      ·split at hp
       ·cases hp;exact⟨rfl,rfl⟩
       ·contradiction
       ·contradiction
      ·split at hp
       ·cases hp;exact⟨rfl,rfl⟩
       ·contradiction
       ·contradiction
     exact⟨i.1.trans this.1,i.2.trans this.2⟩
    ·contradiction
    ·contradiction
theorem Ua {f:Nat->Nat}{s:RS}(h1:s.drafts=[])(h2:s.scopes=[]):mS f s=s:=by
 cases s;dsimp only at h1 h2;subst h1 h2;rfl
theorem r5 {rows:List (List Nat)}(kr:∀w∈rows,∀c∈w,c≠10):match Ĺ rows with
 | .ok s rl=>∃s',gX (ø [10] rows)= .ok s' rl∧ao s' rl=ao s rl
 | .err l c=>∃k,gX (ø [10] rows)= .err k∧v0 (ø [10] rows) k l c
 | .bad=>True:=by
 cases rows with
 |nil=>exact⟨0,rfl,rfl,rfl⟩
 |cons w ws=>
 generalize ht:ø [10] (w::ws)=t
 have h0:At t 0 xJ.row (w::ws):=⟨by lia,by rw[List.drop_zero,ht],rfl,rfl,kr⟩
 have hd:=Bf ws w 0 (t.length+1) xJ 1 1 h0 (by lia) (λs r w' _ h=>w8 h)
 unfold Ĺ gX
 cases hq:aI (w::ws) 1 1 xJ with
 |bad=>trivial
 |err l c=>
  rw[hq] at hd
  obtain⟨k,h1,h2⟩:=hd
  rw[h1]
  exact⟨k,rfl,h2⟩
 |ok s1 rest=>
  rw[hq] at hd
  obtain⟨h1,h2,h3⟩:=hd
  have hk:=jp _ _ _ _ _ _ hq
  rw[h1]
  dsimp only
  have S1:Sg t s1:=⟨λe he=>(by rw[hk.2] at he;exact absurd he û),λe he=>(by rw[hk.1] at he;exact absurd he û)⟩
  have hm:mS (ĉ t) s1=s1:=Ua hk.1 hk.2
  have hR:M8 t (b8 t ((Đ t (t.length+1) 0).drop s1.row) s1) (ģ rest s1):=by
   rw[show s1.row-xJ.row=s1.row from rfl] at h3
   rcases h3 with ⟨rfl,h4⟩|⟨a',f',h4,h5,h6,h7⟩
   ·rw[h4]
    have:=eZ (n:=s1.row) S1
    rw[show ({mS (ĉ t) s1 with row:=s1.row}:RS)=s1 by rw[hm]] at this
    exact this
   ·rw[h6]
    cases rest with
    |nil=>exact (h5 rfl).elim
    |cons v vs=>
     have:=wZ vs v a' f' s1 h4 h7 S1
     rw[hm] at this
     exact this
  cases hq2:ģ rest s1 with
  |bad=>trivial
  |err l c=>
   rw[hq2] at hR
   obtain⟨k,h4,h5⟩:=hR
   rw[h4]
   exact⟨k,rfl,h5⟩
  |ok s2=>
   rw[hq2] at hR
   obtain⟨BB,h4,h5,h6⟩:=hR
   rw[h4]
   dsimp only
   unfold tv
   have ed:s2.drafts=BB.drafts.map (mD (ĉ t)):=by rw[h5];rfl
   have hb:=uk (ĉ t) BB.drafts BB.drafts.length none []
   rw[←ed,show BB.drafts.length=s2.drafts.length by rw[ed,Â]] at hb
   rw[hb,show s2.drafts.length=BB.drafts.length by rw[ed,Â]]
   cases hp:ĸ BB.drafts BB.drafts.length none [] with
   |bad=>trivial
   |err k=>
    obtain⟨d,hd1,hd2⟩:=nP _ _ _ _ _ hp
    have:=h6.2 d hd1
    rw[hd2] at this
    exact⟨k,rfl,rfl,by lia⟩
   |ok rl=>
    refine⟨BB,rfl,?_⟩
    rw[h5];rfl
noncomputable def ď:List (List Nat):=[cs "A",cs "B_2",cs "c3"]
noncomputable def c9:List (List Nat):=[cs "D",cs "E_1",cs "A"]
noncomputable def Ů:List (List Nat):=[cs "a",cs "[ \t\"]+",cs "\" |\"",cs "\\ x",cs "[]a]",cs "[^] ]",cs "[[:alpha:] \"]*",cs "x/[ ]$",cs "a\"b c\"d",cs "^{D}+",cs "[\"\\]]\"]\"",cs "<b",cs "//c",cs "\"\\\" ]\"",cs "[[: x]",cs "[^\\] ]"]
noncomputable def HK:List (List Nat×Nat):=[(cs "%y A",1),(cs "%option x",9),(cs "%x",3),(cs "%s  ",5),(cs "%s c4,",6),(cs "%x 9",4),(cs "F",2),(cs "F  ",4),(cs "F a b",5),(cs " F a",1),(cs "F \"a",3),(cs "F [^]",3),(cs "F a\\",4),(cs "F [a\\",3),(cs "F \"a\\",3)]
noncomputable def HJ:List (List Nat×Nat):=[(cs "a",2),(cs "a  ",4),(cs "\"a skip",1),(cs "[a] skip skip",10),(cs "a halt",3),(cs "a begin C",9),(cs "a less",7),(cs "a return 'xy'",10),(cs "a | x",5),(cs "a return N; pop",13),(cs "<<EOF>>skip",8),(cs "<C>a skip",2),(cs "<INITIAL a skip",9)]
noncomputable def plV (e:List Nat×Nat):V:= .tup [.str e.1,.int (e.2:Int)]
theorem EZ:Cv=ď.map .str:=by kernel_rfl
theorem Gd:CH=c9.map .str:=by kernel_rfl
theorem EO:Ct=Ů.map .str:=by kernel_rfl
theorem GA:CM=HK.map plV:=by kernel_rfl
theorem Gy:CL=HJ.map plV:=by kernel_rfl
noncomputable def bE (w:List Nat):Bool:= !ń w&& !ŀ w
theorem Pi (cd:List (List Nat×Bool))(df:Bool):∀i,i<3->aK FU cd df (cs "%s " ++ď.getD i [])=if (cd.map (·.1)).contains (ď.getD i [])=true then .err (ď.getD i []) else .ok (cd++[(ď.getD i [],false)],df) []
 |0,_=>by kernel_rfl
 |1,_=>by kernel_rfl
 |2,_=>by kernel_rfl
theorem Ph (cd:List (List Nat×Bool))(df:Bool):∀i,i<3->aK FU cd df (cs "%x " ++ď.getD i [])=if (cd.map (·.1)).contains (ď.getD i [])=true then .err (ď.getD i []) else .ok (cd++[(ď.getD i [],true)],df) []
 |0,_=>by kernel_rfl
 |1,_=>by kernel_rfl
 |2,_=>by kernel_rfl
theorem JL (cd:List (List Nat×Bool))(df:Bool):∀i j,i<3->j<3->aK FU cd df (cs "%x " ++ď.getD i []++cs "\t " ++ď.getD j []++cs " ")=
 if (cd.map (·.1)).contains (ď.getD i [])=true then .err (ď.getD i []++cs "\t " ++ď.getD j []++cs " ")
 else if ((cd++[(ď.getD i [],true)]).map (·.1)).contains (ď.getD j [])=true then .err (ď.getD j []++cs " ")
 else .ok (cd++[(ď.getD i [],true)]++[(ď.getD j [],true)],df) []
 |0,0,_,_=>by kernel_rfl
 |0,1,_,_=>by kernel_rfl
 |0,2,_,_=>by kernel_rfl
 |1,0,_,_=>by kernel_rfl
 |1,1,_,_=>by kernel_rfl
 |1,2,_,_=>by kernel_rfl
 |2,0,_,_=>by kernel_rfl
 |2,1,_,_=>by kernel_rfl
 |2,2,_,_=>by kernel_rfl
theorem Gf (cd:List (List Nat×Bool))(df:Bool):aK FU cd df (cs "%option nodefault  ")= .ok (cd,false) []:=by kernel_rfl
theorem Bg (cd:List (List Nat×Bool))(df:Bool):aK FU cd df (cs "%option nodefault")= .ok (cd,false) []:=by kernel_rfl
noncomputable def mE (r:List Nat):PR (List Nat):=if qv (ç r).2 then (match aO (aG (ç r).2) with
 | .ok raw r2=>if aG r2==[] then .ok raw (aG r2) else .err (aG r2)
 | .err r'=> .err r'
 | .bad=> .bad)
 else .err (ç r).2
theorem rn (df:List (List Nat×List Nat))(r:List Nat):je df r=if (ç r).1==[] then .err r else if (df.map (·.1)).contains (ç r).1 then .err r else (match mE r with
 | .ok raw r2=> .ok (df++[((ç r).1,raw)]) r2
 | .err r'=> .err r'
 | .bad=> .bad):=by
 unfold je mE
 dsimp only
 split
 ·rfl
 ·split
  ·rfl
  ·split
   ·cases aO (aG (ç r).2) with
    |ok raw r2=>dsimp only;split<;>rfl
    |err r'=>rfl
    |bad=>rfl
   ·rfl
noncomputable def Hy (k:Nat):List Nat:=if k=1 then cs "\t " else cs " "
noncomputable def HC (k:Nat):List Nat:=if k=0 then cs " " else []
noncomputable def gg (i k w:Nat):List Nat:=c9.getD i []++Hy k++Ů.getD w []++HC k
noncomputable def LB (row nm raw:List Nat):Bool:=bE row&& !([37].isPrefixOf row)&&((ç row).1==nm)&& !(nm==[])&&(match mE row with| .ok Hl r=>Hl==raw&&r==[]|_=>false)
theorem Bn:((List.range 3).all λi=>(List.range 3).all λk=>(List.range 16).all λw=>LB (gg i k w) (c9.getD i []) (Ů.getD w []))=true:=by kernel_rfl
theorem JK {i k w:Nat}(hi:i<3)(hk:k<3)(hw:w<16)(df:List (List Nat×List Nat)):bE (gg i k w)=true∧([37].isPrefixOf (gg i k w))=false∧je df (gg i k w)=if (df.map (·.1)).contains (c9.getD i [])=true then .err (gg i k w) else .ok (df++[(c9.getD i [],Ů.getD w [])]) []:=by
 have h:=Bn
 simp only[É,Ö] at h
 have h:=h i hi k hk w hw
 simp only[LB,Ð,è,á] at h
 obtain⟨⟨⟨⟨h1,h2⟩,h3⟩,h4⟩,h5⟩:=h
 refine⟨h1,h2,?_⟩
 rw[rn,h3,h4]
 cases hc:mE (gg i k w) with
 |ok raw r=>
  rw[hc] at h5
  simp only[Ð,è] at h5
  rw[h5.1,h5.2];rfl
 |err r=>rw[hc] at h5;cases h5
 |bad=>rw[hc] at h5;cases h5
noncomputable def jM {α:Type}(p:PR α)(k:Nat):Bool:=match p with| .err r=>r.length==k|_=>false
theorem wF {α:Type}{p:PR α}{k:Nat}(h:jM p k=true):∃r,p= .err r∧r.length=k:=by
 cases p with
 |err r=>exact⟨r,rfl,by simpa[jM] using h⟩
 |ok v r=>cases h
 |bad=>cases h
def ÁR (cd:List (List Nat×Bool))(df:List (List Nat×List Nat)):Prop:=(cd.map (·.1)).contains (cs "c4")=false∧(df.map (·.1)).contains (cs "F")=false
theorem w7 {df:List (List Nat×List Nat)}{r:List Nat}{k:Nat}(h:(df.map (·.1)).contains (ç r).1=false)(hn:(if (ç r).1==[] then r.length==k else jM (mE r) k)=true):jM (je df r) k=true:=by
 rw[rn]
 split at hn
 ·rename_i z;rw[Î z];exact hn
 ·rename_i z
  rw[Ñ z,h]
  dsimp only[b4]
  cases hc:mE r with
  |ok raw r=>rw[hc] at hn;cases hn
  |err r=>rw[hc] at hn;exact hn
  |bad=>rw[hc] at hn;cases hn
noncomputable def b6 (k:Nat):List Nat:=(HK.getD k ([],0)).1
noncomputable def lK (k:Nat):Nat:=(HK.getD k ([],0)).2
theorem GD (cd:List (List Nat×Bool))(df:Bool)(hc:(cd.map (·.1)).contains (cs "c4")=false):∀k,k<6->jM (aK FU cd df (b6 k)) ((b6 k).length+1-lK k)=true
 |0,_=>by kernel_rfl
 |1,_=>by kernel_rfl
 |2,_=>by kernel_rfl
 |3,_=>by kernel_rfl
 |4,_=>by
  have:aK FU cd df (b6 4)=if (cd.map (·.1)).contains (cs "c4")=true then .err (cs "c4,") else .err (cs ","):=by kernel_rfl
  rw[this,hc];rfl
 |5,_=>by kernel_rfl
noncomputable def DX (k:Nat):Bool:= !([37].isPrefixOf (b6 k))&&((ç (b6 k)).1==cs "F" ||(ç (b6 k)).1==[])&&(if (ç (b6 k)).1==[] then (b6 k).length==(b6 k).length+1-lK k else jM (mE (b6 k)) ((b6 k).length+1-lK k))
theorem xB:((List.range 9).all λk=>DX (k+6))=true:=by kernel_rfl
theorem qa:((List.range 15).all λk=>bE (b6 k)&&decide (1<=lK k∧lK k<=(b6 k).length+1)&&(if k<6 then [37].isPrefixOf (b6 k) else true))=true:=by kernel_rfl
theorem J3 {s:RS}{k:Nat}(hk:k<15)(h1:(s.conds.map (·.1)).contains (cs "c4")=false)(h2:(s.defs.map (·.1)).contains (cs "F")=false):bE (b6 k)=true∧∃r,ő s (b6 k)= .err r∧(b6 k).length-r.length+1=lK k:=by
 have h:=qa
 simp only[É,Ö,Ð,ċ] at h
 obtain⟨⟨h3,h4,h5⟩,h6⟩:=h k hk
 refine⟨h3,?_⟩
 unfold ő
 by_cases hk6:k<6
 ·rw[Î hk6] at h6
  rw[h6,Î rfl]
  obtain⟨r,h7,h8⟩:=wF (GD s.conds s.dflt h1 k hk6)
  rw[h7]
  exact⟨r,rfl,by omega⟩
 ·have h:=xB
  simp only[É,Ö] at h
  have h:=h (k-6) (by omega)
  rw[show k-6+6=k by omega] at h
  simp only[DX,Ð,á,ť,è] at h
  obtain⟨⟨h7,h8⟩,h9⟩:=h
  rw[h7]
  dsimp only[b4]
  have XC:jM (je s.defs (b6 k)) ((b6 k).length+1-lK k)=true:=by
   by_cases hn:(ç (b6 k)).1=[]
   ·rw[rn,hn]
    rw[Î hn] at h9
    simpa[jM] using h9
   ·refine w7 ?_ ?_
    ·rcases h8 with z|z
     ·rw[z];exact h2
     ·exact (hn z).elim
    ·rw[Ñ hn] at h9
     rw[Ñ (by simpa using hn)]
     exact h9
  obtain⟨r,h11,h12⟩:=wF XC
  rw[h11]
  exact⟨r,rfl,by omega⟩
noncomputable def Cs (l:List (List (List Nat×Bool))):List (List (List Nat×Bool)):=l.flatMap λcd=>ď.flatMap λp=>if (cd.map (·.1)).contains p then [] else [cd++[(p,false)],cd++[(p,true)]]
noncomputable def qx:List (List (List Nat×Bool)):=
 let a:=[[(da,false)]]
 let b:=Cs a
 let c:=Cs b
 a++b++c++Cs c
def GoodC (cd:List (List Nat×Bool)):Prop:=cd∈qx
noncomputable def ckC (cd:List (List Nat×Bool)):Bool:=(ď.all λp=>(cd.map (·.1)).contains p||(qx.contains (cd++[(p,false)])&&qx.contains (cd++[(p,true)])))&& !(cd.map (·.1)).contains (cs "c4")&& !(cd.map (·.1)).contains (cs "C")&& !(cd.map (·.1)).contains (cs "D")&&decide (cd.length<=4)&&decide (1<=cd.length)
theorem JW:(qx.all ckC)=true:=by kernel_rfl
structure GC (cd:List (List Nat×Bool)):Prop where
 step:∀p∈ď,(cd.map (·.1)).contains p=false->∀b,GoodC (cd++[(p,b)])
 c4:(cd.map (·.1)).contains (cs "c4")=false
 C:(cd.map (·.1)).contains (cs "C")=false
 D:(cd.map (·.1)).contains (cs "D")=false
 len:cd.length<=4
 pos:1<=cd.length
theorem GoodC.g {cd:List (List Nat×Bool)}(h:GoodC cd):GC cd:=by
 have:=JW
 simp only[É] at this
 have:=this cd h
 simp only[ckC,Ð,É,ť,á,ċ] at this
 obtain⟨⟨⟨⟨⟨h1,h2⟩,h3⟩,h4⟩,h5⟩,h6⟩:=this
 refine⟨λp hp hc b=> ?_,h2,h3,h4,h5,h6⟩
 rcases h1 p hp with z|z
 ·simp only[z] at hc;contradiction
 ·cases b
  ·exact â.mp z.1
  ·exact â.mp z.2
structure bO (df:List (List Nat×List Nat)):Prop where
 m:∀e∈df,e.1∈c9∧e.2∈Ů
 nd:(df.map (·.1)).Nodup
theorem bO.F {df:List (List Nat×List Nat)}(h:bO df){w:List Nat}(hw:w∉c9):(df.map (·.1)).contains w=false:=by
 cases hc:(df.map (·.1)).contains w with
 |false=>rfl
 |true=>
  rw[â,Þ] at hc
  obtain⟨e,he,rfl⟩:=hc
  exact (hw (h.m e he).1).elim
theorem bO.step {df:List (List Nat×List Nat)}(h:bO df){d r:List Nat}(hd:d∈c9)(hr:r∈Ů)(hc:(df.map (·.1)).contains d=false):bO (df++[(d,r)]):=by
 refine⟨λe he=> ?_,?_⟩
 ·rw[ö,Ô] at he
  rcases he with he|rfl
  ·exact h.m e he
  ·exact⟨hd,hr⟩
 ·rw[Ú,jy]
  refine⟨h.nd,by simp,λa ha b hb=> ?_⟩
  simp only[ß,dE,Ô] at hb
  rintro rfl
  rw[hb] at ha
  rw[â.mpr ha] at hc
  contradiction
noncomputable def dZ (w:List Nat):Bool:=w.all (λc=>c != 10)&&decide (w.length<=80)
noncomputable def mu (rows:List (List Nat)):Nat:=max 1 rows.length
noncomputable def tC (rows:List (List Nat)):Nat:=(rows.getLast?.getD []).length+1
noncomputable def oB (n:Nat)(cd:List (List Nat×Bool))(df:List (List Nat×List Nat))(op:Bool):RS:=⟨n,df,cd,op,[],[],[]⟩
structure DI (rows:List (List Nat))(cd:List (List Nat×Bool))(df:List (List Nat×List Nat))(op:Bool)(ends:Option (Nat×Nat)):Prop where
 ok:∀w∈rows,dZ w=true
 m:match ends with
  |none=>GoodC cd∧bO df∧∀rest,aI (rows++rest) 1 1 xJ=aI rest (mu rows) (tC rows) (oB rows.length cd df op)
  |some e=>0<e.2∧∀rest,aI (rows++rest) 1 1 xJ= .err e.1 e.2
structure eo (cd:List (List Nat×Bool))(df:List (List Nat×List Nat))(op:Bool)(w:List Nat)(place:Nat)(cd':List (List Nat×Bool))(df':List (List Nat×List Nat))(op':Bool):Prop where
 ok:place=0->ń w=false∧((ŀ w=true∧cd'=cd∧df'=df∧op'=op)∨(ŀ w=false∧GoodC cd'∧bO df'∧∀n,∃r,ő (oB n cd df op) w= .ok (oB n cd' df' op') r))
 err:0<place->bE w=true∧∀n,∃r,ő (oB n cd df op) w= .err r∧w.length-r.length+1=place
noncomputable def gI (ends:Option (Nat×Nat))(n place:Nat):Option (Nat×Nat):=match ends with
 |some e=>some e
 |none=>if 0<place then some (n+1,place) else none
theorem Ī {w:List Nat}:bE w=true↔ń w=false∧ŀ w=false:=by
 simp only[bE,Ð,á]
theorem Fs (rows:List (List Nat))(w:List Nat):mu (rows++[w])=rows.length+1∧tC (rows++[w])=w.length+1:=by
 unfold mu tC
 rw[Ã,List.getLast?_append]
 simp
theorem DI.step {rows:List (List Nat)}{cd cd':List (List Nat×Bool)}{df df':List (List Nat×List Nat)}{op op':Bool}{ends:Option (Nat×Nat)}(D:DI rows cd df op ends){w:List Nat}{place:Nat}(hw:dZ w=true)(h:ends=none->GoodC cd->bO df->eo cd df op w place cd' df' op'):DI (rows++[w]) cd' df' op' (gI ends rows.length place):=by
 refine⟨λv hv=> ?_,?_⟩
 ·rw[ö,Ô] at hv
  rcases hv with hv|rfl
  ·exact D.ok v hv
  ·exact hw
 ·have m:=D.m
  cases ends with
  |some e=>
   dsimp only[gI] at m⊢
   refine⟨m.1,λrest=> ?_⟩
   rw[Æ];exact m.2 _
  |none=>
   dsimp only[gI] at m⊢
   obtain⟨m1,m2,m3⟩:=m
   have S:=h rfl m1 m2
   by_cases hp:0<place
   ·rw[Î hp]
    obtain⟨s1,s2⟩:=S.err hp
    obtain⟨r,s3,s4⟩:=s2 (rows.length+1)
    obtain⟨s5,s6⟩:=Ī.mp s1
    refine⟨hp,λrest=> ?_⟩
    rw[Æ,m3]
    show aI (w::rest) _ _ _=_
    rw[aI,s5,s6]
    dsimp only[b4]
    have e:({oB rows.length cd df op with row:=(oB rows.length cd df op).row+1}:RS)=oB (rows.length+1) cd df op:=rfl
    rw[e,s3]
    dsimp only
    rw[s4];rfl
   ·rw[Ñ hp]
    obtain⟨s1,s2⟩:=S.ok (by lia)
    obtain⟨l1,l2⟩:=Fs rows w
    have e:({oB rows.length cd df op with row:=(oB rows.length cd df op).row+1}:RS)=oB (rows.length+1) cd df op:=rfl
    rcases s2 with ⟨s3,rfl,rfl,rfl⟩|⟨s3,s4,s5,s6⟩
    ·refine⟨m1,m2,λrest=> ?_⟩
     rw[Æ,m3]
     show aI (w::rest) _ _ _=_
     rw[aI,s1,s3]
     dsimp only[b4,lJ]
     rw[e,l1,l2,Ã];rfl
    ·refine⟨s4,s5,λrest=> ?_⟩
     obtain⟨r,s7⟩:=s6 (rows.length+1)
     rw[Æ,m3]
     show aI (w::rest) _ _ _=_
     rw[aI,s1,s3]
     dsimp only[b4]
     rw[e,s7]
     dsimp only
     rw[l1,l2,Ã];rfl
theorem m9 {i:Nat}(h:i<3):ď.getD i []∈ď:=by
 match i,h with
 |0,_=>decide
 |1,_=>decide
 |2,_=>decide
theorem Gc {i:Nat}(h:i<3):c9.getD i []∈c9:=by
 match i,h with
 |0,_=>decide
 |1,_=>decide
 |2,_=>decide
theorem t9 {i:Nat}(h:i<16):Ů.getD i []∈Ů:=by
 have:i<Ů.length:=h
 simp only[ù,Ç this]
 exact Ų _
noncomputable def dQ (b:Bool)(i:Nat):List Nat:=(if b then cs "%x " else cs "%s ")++ď.getD i []
theorem uK:((List.range 3).all λi=>[true,false].all λb=>bE (dQ b i)&&[37].isPrefixOf (dQ b i)&&dZ (dQ b i)&&(dQ b i).length==(ď.getD i []).length+3)=true:=by kernel_rfl
theorem DV (cd:List (List Nat×Bool))(df b:Bool)(i:Nat)(h:i<3):aK FU cd df (dQ b i)=if (cd.map (·.1)).contains (ď.getD i [])=true then .err (ď.getD i []) else .ok (cd++[(ď.getD i [],b)],df) []:=by
 cases b
 ·exact Pi cd df i h
 ·exact Ph cd df i h
theorem pA {cd:List (List Nat×Bool)}{df:List (List Nat×List Nat)}{op:Bool}(b:Bool){i:Nat}(hi:i<3)(hc:GoodC cd)(hd:bO df):eo cd df op (dQ b i) (if (cd.map (·.1)).contains (ď.getD i [])=true then 4 else 0) (cd++[(ď.getD i [],b)]) df op:=by
 have h:=uK
 simp only[É,Ö,Ð,è] at h
 obtain⟨⟨⟨h1,h2⟩,h3⟩,h4⟩:=h i hi b (by cases b<;>simp)
 obtain⟨h5,h6⟩:=Ī.mp h1
 constructor
 ·intro hp
  refine⟨h5,.inr ⟨h6,?_,hd,λn=>⟨[],?_⟩⟩⟩
  ·cases hh:(cd.map (·.1)).contains (ď.getD i []) with
   |true=>rw[hh,Î rfl] at hp;contradiction
   |false=>exact hc.g.step _ (m9 hi) hh b
  ·unfold ő
   rw[h2,Î rfl]
   show (match aK FU cd op (dQ b i) with| .ok oD r'=>_| .err r'=>_| .bad=>_)=_
   rw[DV cd op b i hi]
   cases hh:(cd.map (·.1)).contains (ď.getD i []) with
   |true=>rw[hh,Î rfl] at hp;contradiction
   |false=>rfl
 ·intro hp
  refine⟨h1,λn=>⟨ď.getD i [],?_,?_⟩⟩
  ·unfold ő
   rw[h2,Î rfl]
   show (match aK FU cd op (dQ b i) with| .ok oD r'=>_| .err r'=>_| .bad=>_)=_
   rw[DV cd op b i hi]
   cases hh:(cd.map (·.1)).contains (ď.getD i []) with
   |true=>rfl
   |false=>rw[hh] at hp;simp at hp
  ·cases hh:(cd.map (·.1)).contains (ď.getD i []) with
   |true=>rw[Î rfl];lia
   |false=>rw[hh] at hp;simp at hp
noncomputable def pg (i:Nat):List Nat:=cs "%x " ++ď.getD i []++cs "\t "
noncomputable def fZ (i j:Nat):List Nat:=pg i++ď.getD j []++cs " "
theorem uM:((List.range 3).all λi=>(List.range 3).all λj=>bE (fZ i j)&&[37].isPrefixOf (fZ i j)&&dZ (fZ i j))=true:=by kernel_rfl
theorem uL:((List.range 3).all λi=>(pg i).length==5+(ď.getD i []).length)=true:=by kernel_rfl
theorem yU {b:Bool}{i:Nat}(hi:i<3):dZ (dQ b i)=true:=by
 have h:=uK
 simp only[É,Ö,Ð,è] at h
 exact (h i hi b (by cases b<;>simp)).1.2
theorem E5 {i j:Nat}(hi:i<3)(hj:j<3):dZ (fZ i j)=true:=by
 have h:=uM
 simp only[É,Ö,Ð,è] at h
 exact (h i hi j hj).2
noncomputable def wi (cd:List (List Nat×Bool))(i j:Nat):Nat:=if (cd.map (·.1)).contains (ď.getD i [])=true then 4 else if ((cd++[(ď.getD i [],true)]).map (·.1)).contains (ď.getD j [])=true then (pg i).length+1 else 0
theorem wW {cd:List (List Nat×Bool)}{df:List (List Nat×List Nat)}{op:Bool}{i j:Nat}(hi:i<3)(hj:j<3)(hc:GoodC cd)(hd:bO df):eo cd df op (fZ i j) (wi cd i j) (cd++[(ď.getD i [],true)]++[(ď.getD j [],true)]) df op:=by
 have h:=uM
 simp only[É,Ö,Ð,è] at h
 obtain⟨⟨h1,h2⟩,h3⟩:=h i hi j hj
 have h4:=uL
 simp only[É,Ö,è] at h4
 have h4:=h4 i hi
 obtain⟨h5,h6⟩:=Ī.mp h1
 have hx:=JL cd op i j hi hj
 have ew:cs "%x " ++ď.getD i []++cs "\t " ++ď.getD j []++cs " " =fZ i j:=rfl
 simp only[ew] at hx
 have hl:(fZ i j).length=(pg i).length+(ď.getD j []).length+1:=by simp only[fZ,Ã,Ã];rfl
 have Mf:(cs "\t ").length=2:=rfl
 have vh:(cs " ").length=1:=rfl
 have Hc:∀n,ő (oB n cd df op) (fZ i j)=match aK FU cd op (fZ i j) with
  | .ok oD r'=> .ok (oB n oD.1 df oD.2) r'| .err r'=> .err r'| .bad=> .bad:=by
  intro n
  unfold ő
  simp only[h2,Î rfl];rfl
 unfold wi
 constructor
 ·intro hp
  refine⟨h5,.inr ⟨h6,?_,hd,λn=>⟨[],?_⟩⟩⟩
  ·cases hh:(cd.map (·.1)).contains (ď.getD i []) with
   |true=>simp only[hh,Î rfl] at hp;contradiction
   |false=>
    simp only[hh] at hp
    dsimp only[b4] at hp
    have g1:=hc.g.step _ (m9 hi) hh true
    cases QU:((cd++[(ď.getD i [],true)]).map (·.1)).contains (ď.getD j []) with
    |true=>simp only[QU,Î rfl] at hp;contradiction
    |false=>exact g1.g.step _ (m9 hj) QU true
  ·simp only[Hc,hx]
   cases hh:(cd.map (·.1)).contains (ď.getD i []) with
   |true=>simp only[hh,Î rfl] at hp;contradiction
   |false=>
    simp only[hh] at hp
    dsimp only[b4] at hp⊢
    cases QU:((cd++[(ď.getD i [],true)]).map (·.1)).contains (ď.getD j []) with
    |true=>simp only[QU,Î rfl] at hp;contradiction
    |false=>rfl
 ·intro hp
  refine⟨h1,λn=> ?_⟩
  simp only[Hc,hx]
  cases hh:(cd.map (·.1)).contains (ď.getD i []) with
  |true=>
   simp only[Î rfl]
   refine⟨_,rfl,?_⟩
   simp only[hl,Î rfl,Ã,Ã,Ã,Mf,vh]
   lia
  |false=>
   simp only[hh] at hp
   dsimp only[b4] at hp⊢
   cases QU:((cd++[(ď.getD i [],true)]).map (·.1)).contains (ď.getD j []) with
   |true=>
    simp only[Î rfl]
    refine⟨_,rfl,?_⟩
    simp only[hl,Î rfl,Ã,vh]
    lia
   |false=>simp only[QU] at hp;simp at hp
theorem Im:((List.range 3).all λi=>(List.range 3).all λk=>(List.range 16).all λw=>dZ (gg i k w))=true:=by kernel_rfl
theorem yT {i k w:Nat}(hi:i<3)(hk:k<3)(hw:w<16):dZ (gg i k w)=true:=by
 have h:=Im
 simp only[É,Ö] at h
 exact h i hi k hk w hw
theorem tX {cd:List (List Nat×Bool)}{df:List (List Nat×List Nat)}{op:Bool}{i k w:Nat}(hi:i<3)(hk:k<3)(hw:w<16)(hc:GoodC cd)(hd:bO df):eo cd df op (gg i k w) (if (df.map (·.1)).contains (c9.getD i [])=true then 1 else 0) cd (df++[(c9.getD i [],Ů.getD w [])]) op:=by
 obtain⟨h1,h2,h3⟩:=JK hi hk hw df
 obtain⟨h5,h6⟩:=Ī.mp h1
 have Hc:∀n,ő (oB n cd df op) (gg i k w)=match je df (gg i k w) with
  | .ok df' r'=> .ok (oB n cd df' op) r'| .err r'=> .err r'| .bad=> .bad:=by
  intro n
  unfold ő
  rw[h2];rfl
 constructor
 ·intro hp
  cases hh:(df.map (·.1)).contains (c9.getD i []) with
  |true=>rw[hh,Î rfl] at hp;contradiction
  |false=>
   refine⟨h5,.inr ⟨h6,hc,hd.step (Gc hi) (t9 hw) hh,λn=>⟨[],?_⟩⟩⟩
   rw[Hc,h3,hh];rfl
 ·intro hp
  cases hh:(df.map (·.1)).contains (c9.getD i []) with
  |false=>rw[hh] at hp;simp at hp
  |true=>
   refine⟨h1,λn=>⟨gg i k w,?_,?_⟩⟩
   ·rw[Hc,h3,hh];rfl
   ·rw[Î rfl];lia
noncomputable def ml:List Nat:=cs "%option nodefault  "
theorem N4:(bE ml&&[37].isPrefixOf ml&&dZ ml)=true:=by kernel_rfl
theorem EB {cd:List (List Nat×Bool)}{df:List (List Nat×List Nat)}{op:Bool}(hc:GoodC cd)(hd:bO df):eo cd df op ml 0 cd df false:=by
 have h:=N4
 simp only[Ð] at h
 obtain⟨⟨h1,h2⟩,h3⟩:=h
 obtain⟨h5,h6⟩:=Ī.mp h1
 refine⟨λ_=>⟨h5,.inr ⟨h6,hc,hd,λn=>⟨[],?_⟩⟩⟩,λh=>by omega⟩
 have Hc:ő (oB n cd df op) ml=match aK FU cd op ml with
  | .ok oD r'=> .ok (oB n oD.1 df oD.2) r'| .err r'=> .err r'| .bad=> .bad:=by
  unfold ő
  rw[h2,Î rfl];rfl
 rw[Hc,show ml=cs "%option nodefault  " from rfl,Gf]
noncomputable def KJ:List (List Nat):=[[],cs "// %x A",cs " \t"]
theorem Qf:(KJ.all λw=> !ń w&&ŀ w&&dZ w)=true:=by kernel_rfl
theorem tY {cd:List (List Nat×Bool)}{df:List (List Nat×List Nat)}{op:Bool}{w:List Nat}(hw:w∈KJ):dZ w=true∧eo cd df op w 0 cd df op:=by
 have h:=Qf
 simp only[É,Ð,á] at h
 obtain⟨⟨h1,h2⟩,h3⟩:=h w hw
 exact⟨h3,λ_=>⟨h1,.inl ⟨h2,rfl,rfl,rfl⟩⟩,λh=>by omega⟩
theorem Ea:((List.range 15).all λk=>dZ (b6 k))=true:=by kernel_rfl
theorem ED {cd cd':List (List Nat×Bool)}{df df':List (List Nat×List Nat)}{op op':Bool}{k:Nat}(hk:k<15)(hc:GoodC cd)(hd:bO df):dZ (b6 k)=true∧0<lK k∧eo cd df op (b6 k) (lK k) cd' df' op':=by
 have h:=qa
 simp only[É,Ö,Ð,ċ] at h
 obtain⟨⟨h3,h4,h5⟩,h6⟩:=h k hk
 have h7:=Ea
 simp only[É,Ö] at h7
 refine⟨h7 k hk,h4,λh=>by lia,λ_=>⟨h3,λn=> ?_⟩⟩
 exact (J3 (s:=oB n cd df op) hk hc.g.c4 (hd.F (by decide))).2
structure cD where
 heads:List Int
 pat:Option (List Nat)
 steps:Option (List St)
 line:Nat
noncomputable def Mx:List Nat:=[114,97,119]
noncomputable def aQ:Option (List Nat)->V
 |none=> .none
 |some l=> .tup [.str Mx,.str l]
noncomputable def Am (s:St):V:= .tup [.str s.1,s.2]
noncomputable def cq:Option (List St)->V
 |none=> .none
 |some l=> .tup (l.map Am)
noncomputable def fW (e:List Nat×List Nat):V:= .tup [.str e.1,.tup [.str Mx,.str e.2]]
noncomputable def mq (d:cD):V:= .tup [.tup (d.heads.map .int),aQ d.pat,cq d.steps,.int (d.line:Int)]
noncomputable def ŧ:Option (Nat×Nat)->V
 |none=> .tup []
 |some e=> .tup [.int (e.1:Int),.int (e.2:Int)]
noncomputable def LH (cells:List Int)(at_:Nat)(rows:List (List Nat))(cd:List (List Nat×Bool))(df:List (List Nat×List Nat))(ops:List (List Nat))(dr:List cD)(L:AH):AH:=
 some (.list [.lst (cells.map .int),.int (at_:Int)])::some (.list (rows.map .str))::some (.list (cd.map Ň))::some (.list (df.map fW))::some (.list (ops.map .str))::some (.list (dr.map mq))::L
def Ű (cells:List Int):Prop:=cells≠[]∧cells.length<=60
section
variable {n i:Nat} {H:AH} {E:Ĩ} {Q:QT} {cells:List Int} {at_:Nat} {rows:List (List Nat)} {cd:List (List Nat×Bool)} {df:List (List Nat×List Nat)} {ops:List (List Nat)} {dr:List cD} {L:AH}
theorem W6:(LH cells at_ rows cd df ops dr L)[0]? =some (some (.list [.lst (cells.map .int),.int (at_:Int)])):=rfl
theorem vf:(LH cells at_ rows cd df ops dr L)[1]? =some (some (.list (rows.map .str))):=rfl
theorem zU:(LH cells at_ rows cd df ops dr L)[2]? =some (some (.list (cd.map Ň))):=rfl
theorem RE:(LH cells at_ rows cd df ops dr L)[3]? =some (some (.list (df.map fW))):=rfl
theorem Vn:(LH cells at_ rows cd df ops dr L)[4]? =some (some (.list (ops.map .str))):=rfl
theorem RD:(LH cells at_ rows cd df ops dr L)[5]? =some (some (.list (dr.map mq))):=rfl
theorem VF {w:List Nat}(hb:rows.length<=small)(q:Q .none (LH cells at_ (rows++[w]) cd df ops dr L)):oj 0 1 [.str w] (LH cells at_ rows cd df ops dr L) Q:=
 eK vf (by rw[Â];exact Í hb (by decide)) (by unfold LH at q;rw[Ú] at q;exact q)
theorem XJ {e:List Nat×Bool}(hb:cd.length<=small)(q:Q .none (LH cells at_ rows (cd++[e]) df ops dr L)):oj 0 2 [Ň e] (LH cells at_ rows cd df ops dr L) Q:=
 eK zU (by rw[Â];exact Í hb (by decide)) (by unfold LH at q;rw[Ú (f:=Ň)] at q;exact q)
theorem ap3 {e:List Nat×List Nat}(hb:df.length<=small)(q:Q .none (LH cells at_ rows cd (df++[e]) ops dr L)):oj 0 3 [fW e] (LH cells at_ rows cd df ops dr L) Q:=
 eK RE (by rw[Â];exact Í hb (by decide)) (by unfold LH at q;rw[Ú (f:=fW)] at q;exact q)
theorem ap4 {w:List Nat}(hb:ops.length<=small)(q:Q .none (LH cells at_ rows cd df (ops++[w]) dr L)):oj 0 4 [.str w] (LH cells at_ rows cd df ops dr L) Q:=
 eK Vn (by rw[Â];exact Í hb (by decide)) (by unfold LH at q;rw[Ú (l₁:=ops)] at q;exact q)
theorem ap5 {e:cD}(hb:dr.length<=small)(q:Q .none (LH cells at_ rows cd df ops (dr++[e]) L)):oj 0 5 [mq e] (LH cells at_ rows cd df ops dr L) Q:=
 eK RD (by rw[Â];exact Í hb (by decide)) (by unfold LH at q;rw[Ú (f:=mq)] at q;exact q)
theorem Yx {k:Nat}{vs:List V}{v:V}{Q:AH->Prop}(h:H[i]? =some (some (.list vs)))(hk:k<vs.length)(q:Q (H.set i (some (.list (vs.set k v))))):ll (.obj i) (.int (k:Int)) v H Q:=by
 unfold ll
 dsimp only
 rw[h]
 exact dN (iz hk) ⟨ł k,q⟩
theorem Lg {x y:Int}(h:0<y)(q:Q (.int (x%y)) H):vP x y H Q:=by
 unfold vP;exact⟨h,q⟩
theorem iX {a b:Nat}(h:0<b)(q:Q (.int ((a%b:Nat):Int)) H):vP (a:Int) (b:Int) H Q:=Lg (ï.mpr h) q
theorem Uy {a b:Nat}(h:0<b)(hb:b<=ę)(ha:a<=ę)(q:Q (.int ((a/b:Nat):Int)) H):Ar (a:Int) (b:Int) H Q:=by
 unfold Ar
 exact⟨ï.mpr h,ľ.mpr hb,ha,q⟩
theorem TZ {a b:Nat}(ha:a<=ę)(hb:b<=ę)(q:Q (.int ((a*b:Nat):Int)) H):Ak (a:Int) (b:Int) H Q:=by
 unfold Ak
 exact⟨ha,hb,q⟩
theorem OJ (hc:Ű cells)(ii:at_<=1000){lim:Int}(hl:0<lim)(q:∀r:Int,0<=r->r<lim->Q (.int r) (LH cells (at_+1) rows cd df ops dr L)):Call (ú (n+1)) E 59 Q [.obj 0,.int lim] (LH cells at_ rows cd df ops dr L):=by
 have jJ:0<cells.length:=List.length_pos_iff.mpr hc.1
 have hk:at_%cells.length<cells.length:=sx _ jJ
 have hg:(cells.map V.int)[at_%(cells.map V.int).length]? =some (.int cells[at_%cells.length]):=by rw[Â,Ü,Ç hk];rfl
 have SD:0<(cells.map V.int).length:=by rw[Â];exact jJ
 refine call rfl (gB W6 (dm (k:=0) rfl (gB W6 (dm (k:=1) rfl (ň rfl (Yx (k:=1) W6 (by decide:1<2) ?_))))))
 refine iX SD (Ĕ hg (Uy SD (by rw[Â];exact À hc.2 (by decide)) (À ii (by decide)) (TZ (a:=11) (by decide) (À (Nat.div_le_self ..) (À ii (by decide))) (ň rfl (Lg hl ?_)))))
 exact q _ (Int.emod_nonneg _ (Int.ne_of_gt hl)) (Int.emod_lt_of_pos _ hl)
end
theorem cy {i:Nat}(h:i<3):Cv[i]? =some (.str (ď.getD i [])):=by
 have hl:i<ď.length:=h
 rw[EZ,Ü,ù,Ç hl];rfl
theorem nz {i:Nat}(h:i<3):CH[i]? =some (.str (c9.getD i [])):=by
 have hl:i<c9.length:=h
 rw[Gd,Ü,ù,Ç hl];rfl
theorem m7 {i:Nat}(h:i<16):Ct[i]? =some (.str (Ů.getD i [])):=by
 have hl:i<Ů.length:=h
 rw[EO,Ü,ù,Ç hl];rfl
theorem Gz {i:Nat}(h:i<15):CM[i]? =some (.tup [.str (b6 i),.int (lK i:Nat)]):=by
 have hl:i<HK.length:=h
 rw[GA,Ü,b6,lK,ù,Ç hl];rfl
theorem nc {i:Nat}(h:i<3):(ď.getD i []).length<=3:=(by decide:∀i<3,(ď.getD i []).length<=3) i h
theorem uJ {i:Nat}(h:i<3):(c9.getD i []).length<=3:=(by decide:∀i<3,(c9.getD i []).length<=3) i h
theorem m6 {i:Nat}(h:i<16):(Ů.getD i []).length<=20:=by
 have:((List.range 16).all λi=>decide ((Ů.getD i []).length<=20))=true:=by kernel_rfl
 exact Ā (É.mp this i (Ö.mpr h))
theorem J4 {k:Nat}(h:k<15):dZ (b6 k)=true:=É.mp Ea k (Ö.mpr h)
theorem FV (l:List (List Nat×List Nat)):(l.map fW).filterMap vU=(l.map (·.1)).map .str:=by
 induction l with
 |nil=>rfl
 |cons a l ih=>exact È (V.str a.1::·) ih
theorem ul {ends:Option (Nat×Nat)}{r place:Nat}(h:decide ((0:Int)<(place:Int))=false):gI ends r place=ends:=by
 cases ends with
 |some e=>rfl
 |none=>exact Ñ λz=>iI h (ï.mpr z)
theorem pO {r place:Nat}(h:decide ((0:Int)<(place:Int))=true):gI none r place=some (r+1,place):=Î (ï.mp (Ā h))
theorem qK {r:Int}(h:0<=r):∃k:Nat,r=(k:Int):=⟨r.toNat,(gq h).symm⟩
section
variable {n a:Nat} {H:AH} {E:Ĩ} {Q:QT} {K:ST} {cells:List Int} {at_:Nat} {rows:List (List Nat)} {cd:List (List Nat×Bool)} {df:List (List Nat×List Nat)} {ops:List (List Nat)} {dr:List cD} {L:AH} {ends:Option (Nat×Nat)} {x:Option V} {one two:Nat}
theorem j2 (ends:Option (Nat×Nat)):bh .eq (ŧ ends) (.tup []) H=some ends.isNone:=by cases ends<;>rfl
theorem š (hc:Ű cells)(ii:at_<=1000){lim:Nat}(hl:0<lim)(q:∀r:Nat,r<lim->Q (.int (r:Int)) (LH cells (at_+1) rows cd df ops dr L)):Call (ú (n+1)) E 59 Q [.obj 0,.int (lim:Int)] (LH cells at_ rows cd df ops dr L):=
 OJ hc ii (ï.mpr hl) λr h0 h1=>by
  obtain⟨k,rfl⟩:=qK h0
  exact q k (ï.mp h1)
noncomputable abbrev lI (ends:Option (Nat×Nat))(x y7 y8 y9 y10 y11 y12:Option V):Loc:=[some (.obj 0),some (.obj 1),some (.obj 2),some (.obj 3),some (.obj 4),some (ŧ ends),x,y7,y8,y9,y10,y11,y12]
theorem Eu {place:Nat}{w:List Nat}{y6 y7 y8 y9 y11:Option V}(hr:rows.length<=small)
 (k:K .next (lI (gI ends rows.length place) y6 y7 y8 y9 (some (.int (place:Int))) y11 (some (.str w))) (LH cells at_ (rows++[w]) cd df ops dr L)):
 ì (ú n) ((hZ aV 1).drop 6) (lI ends y6 y7 y8 y9 (some (.int (place:Int))) y11 (some (.str w))) E (LH cells at_ rows cd df ops dr L) K:=by
 refine bL vf rfl (VF hr (bC (λh=>bo (j2 ends) ?_) λh=>ar rfl ?_))
 ·cases ends with
  |some e=>exact ar rfl k
  |none=>
   rw[pO h] at k
   refine ift rfl (fV vf ?_)
   rw[Â,Ã]
   exact k
 ·rw[ul h] at k
  exact k
def yh (n:Nat)(E:Ĩ)(K:ST)(cells:List Int)(a:Nat)(L:AH)(rows:List (List Nat))(cd:List (List Nat×Bool))(df:List (List Nat×List Nat))(ops:List (List Nat))(ends:Option (Nat×Nat))(x y7 y8 y9 y11:Option V):Prop:=
 ∀(w:List Nat) (place:Nat) (cd':List (List Nat×Bool)) (df':List (List Nat×List Nat)) (Hp:List (List Nat)),dZ w=true->(GoodC cd->bO df->eo cd df ops.isEmpty w place cd' df' Hp.isEmpty)->cd'.length<=cd.length+2->df'.length<=df.length+1->Hp.length<=ops.length+1->
  ì (ú n) ((hZ aV 1).drop 6) (lI ends x y7 y8 y9 (some (.int (place:Int))) y11 (some (.str w))) E (LH cells a rows cd' df' Hp [] L) K
noncomputable abbrev BC (cd:List (List Nat×Bool)):V:= .lst ((cd.map (·.1)).map .str)
theorem yt {kind:Nat}{pre:List Nat}(hk:∀H Q,Q (.str pre) H->jg [.str [37,115,32],.str [37,120,32],.str [37,120,32]] (kind:Int) H Q)(hp:pre.length<=1000)(hi:one<3){y9 y12:Option V}{K':ST}
 (k:∀place:Nat,place=(if (cd.map (·.1)).contains (ď.getD one [])=true then 4 else 0)->ì (ú n) ((sD (hZ aV 1) 5).drop 2) (lI ends x (some (.int (kind:Int))) (some (.int (one:Int))) y9 (some (.int (place:Int))) (some (BC cd)) (some (.str (pre++ď.getD one [])))) E (LH cells a rows cd df ops [] L) K'):
 ì (ú n) (sD (hZ aV 1) 5) (lI ends x (some (.int (kind:Int))) (some (.int (one:Int))) y9 (some (.int 0)) (some (BC cd)) y12) E (LH cells a rows cd df ops [] L) K':=by
 refine hk _ _ (Ĕ (cy hi) (cf hp (À (nc hi) (by decide)) (Ĕ (cy hi) (bo mw (bC (λh=> ?_) λh=> ?_)))))
 ·exact k 4 (Î h).symm
 ·exact k 0 (Ñ (nT h)).symm
theorem la {l m:List Nat}{a b:Nat}(h1:l.length<=a)(h2:m.length<=b):(l++m).length<=a+b:=by rw[Ã];exact Ë h1 h2
theorem GI {α:Type}{l:List α}{a b:α}:(l++[a]++[b]).length<=l.length+2:=by rw[Ã,Ã];exact Å _
theorem cC {α:Type}{l:List α}{a:α}:(l++[a]).length<=l.length+1:=by rw[Ã];exact Å _
theorem CV {kind:Nat}{b:Bool}{pre:List Nat}(hk:∀H Q,Q (.str pre) H->jg [.str [37,115,32],.str [37,120,32],.str [37,120,32]] (kind:Int) H Q)(hp:pre.length<=1000)(hg:decide ((0:Int)<(kind:Int))=b)(h2:((kind:Int)==2)=false)(hw:pre++ď.getD one []=dQ b one)(hi:one<3)(hc:cd.length<=7){y12:Option V}
 (fin:yh n E K cells a L rows cd df ops ends x (some (.int (kind:Int))) (some (.int (one:Int))) (some (.int (two:Int))) (some (BC cd))):
 ì (ú n) (sD (hZ aV 1) 5) (lI ends x (some (.int (kind:Int))) (some (.int (one:Int))) (some (.int (two:Int))) (some (.int 0)) (some (BC cd)) y12) E (LH cells a rows cd df ops [] L) (iL (ì (ú n) ((hZ aV 1).drop 6)) E K):=by
 refine yt hk hp hi λplace zW=> ?_
 subst hg
 refine bL zU rfl (Ĕ (cy hi) (XJ (e:=(_,_)) (À hc (by decide)) (ar h2 ?_)))
 rw[hw]
 exact fin _ place _ df ops (yU hi) (λhc hd=>zW▸pA _ hi hc hd) (aj cC) (å _) (å _)
theorem HU (hi:one<3)(hc:cd.length<=7){y12:Option V}
 (fin:yh n E K cells a L rows cd df ops ends x (some (.int (2:Nat))) (some (.int (one:Int))) (some (.int (two:Int))) (some (BC cd))):
 ì (ú n) (sD (hZ aV 1) 5) (lI ends x (some (.int (2:Nat))) (some (.int (one:Int))) (some (.int (two:Int))) (some (.int 0)) (some (BC cd)) y12) E (LH cells a rows cd df ops [] L) (iL (ì (ú n) ((hZ aV 1).drop 6)) E K):=by
 have hj:two%3<3:=sx _ (by decide)
 have Hd:=nc hi
 have Ky:=nc hj
 have sp:=λ(hc:GoodC cd) (hd:bO df)=>wW (op:=ops.isEmpty) hi hj hc hd
 unfold wi at sp
 refine yt (kind:=2) (pre:=[37,120,32]) (λH Q q=>q) (by decide) hi λplace zW=> ?_
 refine bL zU rfl (Ĕ (cy hi) (XJ (e:=(ď.getD one [],true)) (À hc (by decide)) (č (À (Ë (la (a:=3) (Å 3) Hd) (Å 2)) (by decide)) ?_)))
 have rest:∀(p2:Nat),(GoodC cd->bO df->eo cd df ops.isEmpty (fZ one (two%3)) p2 (cd++[(ď.getD one [],true)]++[(ď.getD (two%3) [],true)]) df ops.isEmpty)->ì (ú n) ((sD (sD (hZ aV 1) 5) 3).drop 2) (lI ends x (some (.int (2:Nat))) (some (.int (one:Int))) (some (.int (two:Int))) (some (.int (p2:Int))) (some (BC cd)) (some (.str ([37,120,32]++ď.getD one []++[9,32])))) E (LH cells a rows (cd++[(ď.getD one [],true)]) df ops [] L) (iL (ì (ú n) []) E (iL (ì (ú n) ((hZ aV 1).drop 6)) E K)):=λp2 sp=>by
  refine bL zU rfl (iX (b:=3) (by decide) (Ĕ (cy hj) (XJ (e:=(ď.getD (two%3) [],true)) (À (À cC (Ì hc)) (by decide)) (iX (b:=3) (by decide) (Ĕ (cy hj) (č ?_ (č ?_ ?_)))))))
  ·exact À (Ë (la (la (a:=3) (Å 3) Hd) (Å 2)) Ky) (by decide)
  ·exact À (Ë (la (la (la (a:=3) (Å 3) Hd) (Å 2)) Ky) (Å 1)) (by decide)
  ·exact fin (fZ one (two%3)) p2 _ df ops (E5 hi hj) sp GI (å _) (å _)
 cases h1:(cd.map (·.1)).contains (ď.getD one []) with
 |true=>
  rw[h1] at zW sp
  obtain rfl:place=4:=zW
  exact rest 4 sp
 |false=>
  rw[h1] at zW sp
  obtain rfl:place=0:=zW
  refine iX (b:=3) (by decide) (Ĕ (cy hj) (Ĕ (cy hi) (tM (by rw[Â,Â];exact À (Ì hc) (by decide)) ?_)))
  rw[show (cd.map (·.1)).map V.str++[V.str (ď.getD one [])]=((cd++[(ď.getD one [],true)]).map (·.1)).map V.str by rw[Ú,Ú];rfl]
  refine bo mw (bC (λh2=> ?_) λh2=> ?_)
  ·rw[h2] at sp
   have h4:(pg one).length=5+(ď.getD one []).length:=è.mp (É.mp uL one (Ö.mpr hi))
   refine ň (z:=(((pg one).length+1:Nat):Int)) ?_ (rest _ sp)
   rw[h4,Ã,Ã,ą 5]
   show ((3+(ď.getD one []).length+2:Nat):Int)+1=_
   rw[ą 3];rfl
  ·rw[h2] at sp
   exact rest 0 sp
end
section
variable {n a:Nat} {H:AH} {E:Ĩ} {Q:QT} {K:ST} {cells:List Int} {at_:Nat} {rows:List (List Nat)} {cd:List (List Nat×Bool)} {df:List (List Nat×List Nat)} {ops:List (List Nat)} {dr:List cD} {L:AH} {ends:Option (Nat×Nat)} {x:Option V} {one two:Nat}
theorem Jw {k:Nat}(h:k<2):(Hy k).length<=2:=(by decide:∀k<2,(Hy k).length<=2) k h
theorem JJ {k:Nat}(h:k<2):(HC k).length<=2:=(by decide:∀k<2,(HC k).length<=2) k h
theorem KV {kind:Nat}{k:Nat}(GQ:k<2)(e3:(kind:Int)-3=(k:Int))(h1:∀H Q,Q (.str (Hy k)) H->jg [.str [32],.str [9,32]] (k:Int) H Q)(h2:∀H Q,Q (.str (HC k)) H->jg [.str [32],.str []] (k:Int) H Q)(hi:one<3)(hd:df.length<=3){y12:Option V}
 (fin:yh n E K cells a L rows cd df ops ends x (some (.int (kind:Int))) (some (.int (one:Int))) (some (.int (two:Int))) (some (BC cd))):
 ì (ú n) (sD (BW (hZ aV 1) 5) 0) (lI ends x (some (.int (kind:Int))) (some (.int (one:Int))) (some (.int (two:Int))) (some (.int 0)) (some (BC cd)) y12) E (LH cells a rows cd df ops [] L) (iL (ì (ú n) []) E (iL (ì (ú n) ((hZ aV 1).drop 6)) E K)):=by
 have hw:two%16<16:=sx _ (by decide)
 have QL:=m6 hw
 have qi:=uJ hi
 have hg:=Jw GQ
 have he:=JJ GQ
 refine Ĕ (nz hi) (li e3 (h1 _ _ (č (À (Ë qi hg) (by decide)) (iX (b:=16) (by decide) (Ĕ (m7 hw) (č (À (Ë (la qi hg) QL) (by decide)) (li e3 (h2 _ _ (č (À (Ë (la (la qi hg) QL) he) (by decide)) ?_)))))))))
 have rest:∀place:Nat,place=(if (df.map (·.1)).contains (c9.getD one [])=true then 1 else 0)->ì (ú n) ((sD (BW (hZ aV 1) 5) 0).drop 2) (lI ends x (some (.int (kind:Int))) (some (.int (one:Int))) (some (.int (two:Int))) (some (.int (place:Int))) (some (BC cd)) (some (.str (gg one k (two%16))))) E (LH cells a rows cd df ops [] L) (iL (ì (ú n) []) E (iL (ì (ú n) ((hZ aV 1).drop 6)) E K)):=λplace zW=>by
  refine bL RE rfl (Ĕ (nz hi) (iX (b:=16) (by decide) (Ĕ (m7 hw) (ap3 (e:=(_,_)) (À hd (by decide)) ?_))))
  exact fin (gg one k (two%16)) place cd _ ops (yT hi (æ GQ (by decide)) hw) (λhc hd=>zW▸tX hi (æ GQ (by decide)) hw hc hd) (Ï _ 2) cC (å _)
 refine Ĕ (nz hi) (eh vU (rG RE) rfl (by rw[Â];exact À hd (by decide)) ?_ λy hy K k=> ?_)
 ·rw[FV]
  refine bo mw (bC (λh=> ?_) λh=> ?_)
  ·exact rest 1 (Î h).symm
  ·exact rest 0 (Ñ (nT h)).symm
 ·obtain⟨e,he,rfl⟩:=Þ.mp hy
  exact k
theorem lt8 {k:Nat}(h:k<8):k=0∨k=1∨k=2∨k=3∨k=4∨k=5∨k=6∨k=7:=(by decide:∀k<8,k=0∨k=1∨k=2∨k=3∨k=4∨k=5∨k=6∨k=7) k h
theorem J0 {i:Nat}(h:i<3):([V.str [],V.str [47,47,32,37,120,32,65],V.str [32,9]]:List V)[i]? =some (.str (KJ.getD i [])):=by
 rcases (by decide:∀k<3,k=0∨k=1∨k=2) i h with rfl|rfl|rfl<;>rfl
theorem Es {kind:Nat}(hk:kind<8)(hi:one<3)(hc:cd.length<=7)(hd:df.length<=3)(ho:ops.length<=3){y12:Option V}
 (fin:yh n E K cells a L rows cd df ops ends x (some (.int (kind:Int))) (some (.int (one:Int))) (some (.int (two:Int))) (some (BC cd))):
 ì (ú n) ((hZ aV 1).drop 5) (lI ends x (some (.int (kind:Int))) (some (.int (one:Int))) (some (.int (two:Int))) (some (.int 0)) (some (BC cd)) y12) E (LH cells a rows cd df ops [] L) K:=by
 rcases lt8 hk with rfl|rfl|rfl|rfl|rfl|rfl|rfl|rfl
 ·exact CV (kind:=0) (b:=false) (pre:=[37,115,32]) (λH Q q=>q) (by decide) rfl rfl rfl hi hc fin
 ·exact CV (kind:=1) (b:=true) (pre:=[37,120,32]) (λH Q q=>q) (by decide) rfl rfl rfl hi hc fin
 ·exact HU hi hc fin
 ·exact KV (kind:=3) (k:=0) (by decide) rfl (λH Q q=>q) (λH Q q=>q) hi hd fin
 ·exact KV (kind:=4) (k:=1) (by decide) rfl (λH Q q=>q) (λH Q q=>q) hi hd fin
 ·refine bL Vn rfl (ap4 (w:=ml) (À ho (by decide)) ?_)
  have e:(ops++[ml]).isEmpty=false:=by cases ops<;>rfl
  exact fin ml 0 cd df (ops++[ml]) (by decide) (λhc hd=>by rw[e];exact EB hc hd) (Ï _ 2) (å _) cC
 ·refine Ĕ (J0 hi) ?_
  have hm:KJ.getD one []∈KJ:=(by decide:∀k<3,KJ.getD k []∈KJ) one hi
  exact fin (KJ.getD one []) 0 cd df ops (tY (cd:=cd) (df:=df) (op:=true) hm).1 (λhc hd=>(tY hm).2) (Ï _ 2) (å _) (å _)
 ·have hw:two%15<15:=sx _ (by decide)
  refine iX (b:=15) (by decide) (Ĕ (Gz hw) ?_)
  exact fin (b6 (two%15)) (lK (two%15)) cd df ops (J4 hw) (λhc hd=>(ED hw hc hd).2.2) (Ï _ 2) (å _) (å _)
inductive I61 (cells:List Int)(at_:Nat)(L:AH)(j:Nat):Loc->AH->Prop
 |mk {a:Nat} {rows:List (List Nat)} {cd:List (List Nat×Bool)} {df:List (List Nat×List Nat)} {ops:List (List Nat)} {ends:Option (Nat×Nat)} {y6 y7 y8 y9 y10 y11 y12:Option V} (D:DI rows cd df ops.isEmpty ends) (h1:rows.length<=j) (h2:cd.length<=1+2*j) (h3:df.length<=j) (h4:ops.length<=j) (h5:a<=at_+1+3*j):
  I61 cells at_ L j (lI ends y6 y7 y8 y9 y10 y11 y12) (LH cells a rows cd df ops [] L)
theorem Jl (hc:Ű cells)(ii:at_<=100)(q:∀at' rows cd df ops ends,DI rows cd df ops.isEmpty ends->rows.length<=3->cd.length<=7->df.length<=3->at'<=at_+10->Q (ŧ ends) (LH cells at' rows cd df ops [] L)):Call (ú (n+2)) E 61 Q [.obj 0,.obj 1,.obj 2,.obj 3,.obj 4] (LH cells at_ [] [(da,false)] [] [] [] L):=by
 refine call rfl (š (lim:=4) hc (À ii (by decide)) (by decide) λm hm=>eR (À (í hm) (by decide)) ?_)
 refine hA (I61 cells at_ L) (À (í hm) (by decide)) (.mk (rows:=[]) (df:=[]) (ops:=[]) (ends:=none) ⟨nofun,?_,⟨nofun,G1⟩,λrest=>rfl⟩ (Å _) (Å 1) (Å _) (Å _) (Å _)) (λρ H I=> ?_) λj ρ H hj I=> ?_
 ·exact â.mp (by decide+kernel)
 ·have Kz:m<=3:=ak hm
  induction I with| @mk a rows cd df ops ends _ _ _ _ _ _ _ D h1 h2 h3 h4 h5=> ?_
  have q':=q a rows cd df ops ends D (À h1 Kz) (À h2 (Ý (Ò 2 Kz) 1)) (À h3 Kz) (À h5 (Ý (Ò 3 Kz) (at_+1)))
  cases ends with
  |none=>exact q'
  |some e=>exact q'
 ·have RN:j<=3:=í (æ hj (ak hm))
  induction I with| @mk a rows cd df ops ends _ _ _ _ _ _ _ D h1 h2 h3 h4 h5=> ?_
  have ha:a<=200:=À h5 (À (Ë (Ì ii) (Ò 3 RN)) (by decide))
  have sG:cd.length<=7:=À h2 (Ý (Ò 2 RN) 1)
  refine⟨_,rfl,λK kk=> ?_⟩
  refine š (lim:=8) hc (À ha (by decide)) (by decide) λkind hk=> ?_
  refine š (lim:=3) hc (À (Ì ha) (by decide)) (by decide) λone hi=> ?_
  refine š (lim:=240) hc (À (Ì (Ì ha)) (by decide)) (by decide) λtwo ht=> ?_
  refine eh vU (rG zU) rfl (by rw[Â];exact À sG (by decide)) ?_ λy hy K k=> ?_
  ·rw[pW]
   refine Es hk hi sG (À h3 RN) (À h4 RN) λw place cd' df' Hp hw hs Mh Xy QM=>Eu (À h1 (À RN (by decide))) (kk.n ?_)
   exact .mk (D.step hw λ_=>hs) (À cC (Ì h1)) (À Mh (ě h2 2)) (À Xy (Ì h3)) (À QM (Ì h4)) (ě h5 3)
  ·obtain⟨e,he,rfl⟩:=Þ.mp hy
   exact k
end
noncomputable def bj:List (List Nat):=da::ď
noncomputable def nameAt (cd:List (List Nat×Bool))(k:Nat):List Nat:=(cd.getD k ([],false)).1
noncomputable def ckN (cd:List (List Nat×Bool)):Bool:=(List.range cd.length).all λk=>(cd.map (·.1)).findIdx (·==nameAt cd k)==k&&(cd.map (·.1)).contains (nameAt cd k)&&bj.contains (nameAt cd k)
theorem JV:(qx.all ckN)=true:=by kernel_rfl
structure NA (cd:List (List Nat×Bool))(k:Nat):Prop where
 i:(cd.map (·.1)).findIdx (·==nameAt cd k)=k
 c:(cd.map (·.1)).contains (nameAt cd k)=true
 m:nameAt cd k∈bj
theorem GoodC.na {cd:List (List Nat×Bool)}(h:GoodC cd){k:Nat}(hk:k<cd.length):NA cd k:=by
 have:=JV
 simp only[É] at this
 have:=this cd h
 simp only[ckN,Ð,É,è,Ö] at this
 obtain⟨⟨h1,h2⟩,h3⟩:=this k hk
 exact⟨h1,h2,â.mp h3⟩
theorem GoodC.init {cd:List (List Nat×Bool)}(h:GoodC cd):(cd.map (·.1)).contains da=true:=by
 have:(qx.all λcd=>(cd.map (·.1)).contains da)=true:=by kernel_rfl
 simp only[É] at this
 exact this cd h
theorem a8 {nm:List Nat}(h:nm∈bj)(b:List Nat):ç (nm++62::b)=(nm,62::b)∧ç (nm++44::b)=(nm,44::b)∧nm.length<=7∧1<=nm.length∧(∀c∈nm,c≠10):=by
 simp only[bj,ď,Û,û,cE] at h
 rcases h with rfl|rfl|rfl|rfl
 ·exact⟨by kernel_rfl,by kernel_rfl,by decide,by decide,by decide⟩
 ·exact⟨by kernel_rfl,by kernel_rfl,by decide,by decide,by decide⟩
 ·exact⟨by kernel_rfl,by kernel_rfl,by decide,by decide,by decide⟩
 ·exact⟨by kernel_rfl,by kernel_rfl,by decide,by decide,by decide⟩
theorem uO {cd:List (List Nat×Bool)}(hc:GoodC cd)(b:List Nat):∀(hs:List Nat) (F:Nat) (acc:List Int),hs≠[]->hs.length<=F->(∀k∈hs,k<cd.length)->bq (cd.map (·.1)) F acc (ø [44] (hs.map (nameAt cd))++62::b)= .ok (acc++hs.map (λk:Nat=>(k:Int))) b
 |[],F,acc,h,_,_=>(h rfl).elim
 |[k],F,acc,_,hF,hk=>by
  obtain⟨F,rfl⟩:∃F',F=F'+1:=⟨F-1,by simp at hF;lia⟩
  have na:=hc.na (hk k (.head _))
  have ns:=a8 na.m b
  simp only[ß,dE,ø]
  unfold bq
  rw[ns.1]
  rw[na.c,na.i]
  simp
 |k::k'::hs,F,acc,_,hF,hk=>by
  obtain⟨F,rfl⟩:∃F',F=F'+1:=⟨F-1,by simp at hF;lia⟩
  have na:=hc.na (hk k (.head _))
  have ns:=(a8 na.m (ø [44] ((k'::hs).map (nameAt cd))++62::b)).2.1
  have et:ø [44] ((k::k'::hs).map (nameAt cd))++62::b=nameAt cd k++44::(ø [44] ((k'::hs).map (nameAt cd))++62::b):=by
   simp only[ß,ø,Æ];rfl
  rw[et]
  unfold bq
  rw[ns]
  rw[na.c,na.i]
  have ih:=uO hc b (k'::hs) F (acc++[(k:Int)]) (by simp) (by simp at hF⊢;lia) (λj hj=>hk j (.tail _ hj))
  dsimp only[lJ,List.isPrefixOf]
  simp only[show (62==44)=false from rfl,ot,ś,ka,ô,jF,gu]
  have e2:(44::(ø [44] ((k'::hs).map (nameAt cd))++62::b)).drop 1=ø [44] ((k'::hs).map (nameAt cd))++62::b:=rfl
  rw[e2,ih]
  simp
noncomputable def iZ (cd:List (List Nat×Bool))(hs:List Nat):List Nat:=60::(ø [44] (hs.map (nameAt cd))++[62])
noncomputable def o9:List Nat:=[60,42,62]
theorem uY {cd:List (List Nat×Bool)}{hs:List Nat}(h:hs≠[]):∃r,ø [44] (hs.map (nameAt cd))=nameAt cd (hs.head h)++r:=by
 match hs,h with
 |[k],_=>exact⟨[],by simp[ø]⟩
 |k::k'::hs,_=>exact⟨[44]++ø [44] ((k'::hs).map (nameAt cd)),by simp[ø]⟩
theorem FY {nm:List Nat}(h:nm∈bj):∃c r,nm=c::r∧c≠60∧c≠42:=by
 simp only[bj,ď,Û,û,cE] at h
 rcases h with rfl|rfl|rfl|rfl
 ·exact⟨73,[78,73,84,73,65,76],rfl,by decide,by decide⟩
 ·exact⟨65,[],rfl,by decide,by decide⟩
 ·exact⟨66,[95,50],rfl,by decide,by decide⟩
 ·exact⟨99,[51],rfl,by decide,by decide⟩
theorem xx {cd:List (List Nat×Bool)}(hc:GoodC cd)(b:List Nat){hs:List Nat}(h:hs≠[])(hF:hs.length<=FU)(hk:∀k∈hs,k<cd.length):Š (cd.map (·.1)) FU (iZ cd hs++b)= .ok (hs.map (λk:Nat=>(k:Int))) b:=by
 have hl:=uO hc b hs FU [] h hF hk
 obtain⟨r,hr⟩:=uY (cd:=cd) h
 obtain⟨c,r',hn,h1,h2⟩:=FY (hc.na (hk _ (List.head_mem h))).m
 unfold Š iZ
 have e:60::(ø [44] (hs.map (nameAt cd))++[62])++b=60::(ø [44] (hs.map (nameAt cd))++62::b):=by simp
 rw[e]
 have e1:cV.isPrefixOf (60::(ø [44] (hs.map (nameAt cd))++62::b))=false:=by
  rw[hr,hn]
  have:(60==c)=false:=by rw[Ù];exact λz=>h1 z.symm
  simp[cV,List.isPrefixOf,this]
 have e2:([42,62]:List Nat).isPrefixOf (ø [44] (hs.map (nameAt cd))++62::b)=false:=by
  rw[hr,hn]
  have:(42==c)=false:=by rw[Ù];exact λz=>h2 z.symm
  simp[List.isPrefixOf,this]
 have e3:(60::(ø [44] (hs.map (nameAt cd))++62::b)).drop 1=ø [44] (hs.map (nameAt cd))++62::b:=rfl
 rw[e1,e3,e2,hl]
 simp[List.isPrefixOf]
theorem xq (nm:List (List Nat))(b:List Nat):Š nm FU (o9++b)= .ok (av nm.length) b:=by
 unfold Š o9
 simp[cV,List.isPrefixOf]
theorem xr (nm:List (List Nat))(b:List Nat)(h:cV.isPrefixOf b=true∨[60].isPrefixOf b=false):Š nm FU b= .ok [] b:=by
 unfold Š
 cases h1:cV.isPrefixOf b with
 |true=>rfl
 |false=>
  rcases h with z|z
  ·rw[z] at h1;contradiction
  ·rw[z];rfl
theorem nY {c d:Nat}{u:List Nat}(hd:d≠c)(hb:ij.contains d=false):Ap c (d::u)=false:=by
 unfold Ap aH
 simp only[Ù]
 intro z
 have h2:∀l:List Nat,∃m,((l++[d]).dropWhile λc=>ij.contains c)=m++[d]:=by
  intro l
  induction l with
  |nil=>exact⟨[],by simp only[ğ,aB,hb];rfl⟩
  |cons a l ih=>
   simp only[bZ,aB]
   split
   ·exact ih
   ·exact⟨a::l,rfl⟩
 obtain⟨m,hm⟩:=h2 u.reverse
 simp only[dH,hm,ay] at z
 simp at z
 exact hd z.1
noncomputable def cp:List (List Nat):=[[],[32],[9]]
noncomputable def ĳ (sc:List (List Int×Nat)):List Int:=match sc.getLast? with|some e=>e.1|none=>[]
noncomputable def L5 (c:Nat):Bool:= !ij.contains c&&c != 47&&c != 125
theorem jR {ind:List Nat}(h:ind∈cp){c:Nat}{u:List Nat}(hc:ij.contains c=false):aG (ind++c::u)=c::u:=by
 have e:aG (c::u)=c::u:=by unfold aG;rw[aB,hc];rfl
 simp only[cp,Û,û,cE] at h
 rcases h with rfl|rfl|rfl
 ·exact e
 ·exact e
 ·exact e
theorem Ql {c:Nat}{u:List Nat}(hc:ij.contains c=false):qv (c::u)=false:=by
 unfold qv
 simp only[ij,ĕ,vz,Bool.or_false,fw,Ù,WB] at hc
 simp only[List.take_succ_cons,List.take_zero,ĕ,vz,Bool.or_false,fw,Ù,WB,List.cons.injEq,and_true]
 exact hc
theorem rC {s:RS}{F st:Nat}{ind:List Nat}(hi:ind∈cp){c:Nat}{u:List Nat}(hc:L5 c=true)(h:ind=[]∨s.scopes≠[]):œ s F st (ind++c::u)=Ŵ s F st (ĳ s.scopes) (c::u):=by
 simp only[L5,Ð,á,ŋ,WB] at hc
 obtain⟨⟨h1,h2⟩,h3⟩:=hc
 unfold œ ĳ
 cases hs:s.scopes.getLast? with
 |none=>
  have hn:=Ŕ.mp hs
  rcases h with rfl|h
  ·dsimp only
   rw[ğ,Ql h1];rfl
  ·exact (h hn).elim
 |some e=>
  dsimp only
  rw[jR hi h1]
  have e1:([47,47]:List Nat).isPrefixOf (c::u)=false:=by
   have:(47==c)=false:=by rw[Ù];exact λz=>h2 z.symm
   simp[List.isPrefixOf,this]
  rw[e1,nY h3 h1];rfl
theorem Fi {s:RS}{F st:Nat}{ind:List Nat}(hi:ind∈cp){u:List Nat}(h:ind≠[])(hs:s.scopes=[]):œ s F st (ind++u)= .err (ind++u):=by
 unfold œ
 rw[hs]
 simp only[List.getLast?_nil]
 simp only[cp,Û,û,cE] at hi
 rcases hi with rfl|rfl|rfl
 ·exact (h rfl).elim
 ·rfl
 ·rfl
noncomputable def aM (cd:List (List Nat×Bool))(l:List Int):List Int:=if l==[] then Ţ cd else l
theorem Fj {s:RS}{F st:Nat}{cn own:List Int}{w body:List Nat}(hp:Š (s.conds.map (·.1)) F w= .ok own body)(hl:own.length+cn.length<=1000)(hb:Ap 123 body=false):Ŵ s F st cn w=a0 s F st (aM s.conds (cn++own)) body:=by
 unfold Ŵ aM
 rw[hp]
 dsimp only
 rw[Î hl,hb]
 cases own with
 |nil=>simp
 |cons a own=>simp
theorem ng {nm nm':List Nat->Bool}{r:List Nat}(h:nm (ç (aG (ç r).2)).1=nm' (ç (aG (ç r).2)).1):aJ nm r=aJ nm' r:=by
 unfold aJ
 dsimp only
 rw[h]
theorem w6 {nm nm':List Nat->Bool}{r r':List Nat}{s:St}(hm:∀x,nm x=true->nm' x=true)(h:aJ nm r= .ok s r'):aJ nm' r= .ok s r':=by
 cases h1:nm (ç (aG (ç r).2)).1 with
 |true=>rw[←ng (nm:=nm) (by rw[h1,hm _ h1])];exact h
 |false=>
  cases h2:nm' (ç (aG (ç r).2)).1 with
  |false=>rw[←ng (nm:=nm) (by rw[h1,h2])];exact h
  |true=>
   rw[←h]
   unfold aJ at h⊢
   dsimp only at h⊢
   rw[h1] at h⊢
   rw[h2]
   cases hl:LZ.lookup (ç r).1 with
   |none=>rfl
   |some w=>
    rw[hl] at h
    dsimp only at h⊢
    cases hc:w==cs "condition" with
    |false=>dsimp only[Z6]
    |true=>
     rw[hc] at h
     simp only[Bool.not_false,LP,gu,Bool.not_true,ī] at h⊢
     have hw:w=cs "condition" :=by simpa using hc
     subst hw
     simp only[show (cs "condition" ==[])=false from rfl,show (cs "condition" ==cs "number")=false from rfl,show (cs "condition" ==cs "kind")=false from rfl,ot,ś,ka] at h⊢
     split at h
     ·contradiction
     ·contradiction
theorem dW {nm nm':List Nat->Bool}(hm:∀x,nm x=true->nm' x=true):∀{f:Nat} {prev:List St} {r r':List Nat} {ss:List St},ŗ nm f prev r= .ok ss r'->ŗ nm' f prev r= .ok ss r'
 |0,prev,r,r',ss,h=>by contradiction
 |f+1,prev,r,r',ss,h=>by
  unfold ŗ at h⊢
  split
  ·rename_i z;rw[Î z] at h;exact h
  ·rename_i z
   rw[Ñ z] at h
   split
   ·rename_i z2;rw[Î z2] at h;exact h
   ·rename_i z2
    rw[Ñ z2] at h
    cases hp:aJ nm (aG r) with
    |err r2=>rw[hp] at h;contradiction
    |bad=>rw[hp] at h;contradiction
    |ok s r2=>
     rw[hp] at h
     rw[w6 hm hp]
     dsimp only at h⊢
     split
     ·rename_i z3;rw[Î z3] at h;exact dW hm h
     ·rename_i z3
      rw[Ñ z3] at h
      split
      ·rename_i z4;rw[Î z4] at h;exact dW hm h
      ·rename_i z4;rw[Ñ z4] at h;contradiction
noncomputable def lF (k:Nat)(g:List Nat):List Nat:=match k with
 |0=>cs "return A1;"
 |1=>cs "return ';'"
 |2=>cs "begin " ++g++cs " ; echo"
 |3=>cs "push " ++g++cs ";return 'x'"
 |4=>cs "pop; skip ;"
 |5=>cs "more;less 02;reject"
 |6=>cs "less 1"
 |7=>cs "| "
 |8=>cs "more ; echo"
 |9=>cs "reject"
 |_=>cs "skip"
noncomputable def oC (k:Nat)(g:List Nat):List Nat:=match k with
 |0=>cs "return A1"
 |1=>cs "return ';'"
 |2=>cs "begin " ++g++cs "; echo"
 |3=>cs "push " ++g++cs "; return 'x'"
 |4=>cs "pop; skip"
 |5=>cs "more; less 2; reject"
 |6=>cs "less 1"
 |7=>cs ""
 |8=>cs "more; echo"
 |9=>cs "reject"
 |_=>cs "skip"
noncomputable def vA (k:Nat)(g:List Nat):List St:=match k with
 |0=>[(cs "return",.str (cs "A1"))]
 |1=>[(cs "return",.str (cs "';'"))]
 |2=>[(cs "begin",.str g),(cs "echo",.none)]
 |3=>[(cs "push",.str g),(cs "return",.str (cs "'x'"))]
 |4=>[(cs "pop",.none),(cs "skip",.none)]
 |5=>[(cs "more",.none),(cs "less",.int 2),(cs "reject",.none)]
 |6=>[(cs "less",.int 1)]
 |7=>[]
 |8=>[(cs "more",.none),(cs "echo",.none)]
 |9=>[(cs "reject",.none)]
 |_=>[(cs "skip",.none)]
noncomputable def BU (k:Nat)(g:List Nat):Option (List St):=if k=7 then none else some (vA k g)
theorem Ez {g:List Nat}(hg:g∈bj){k:Nat}(hk:k<11)(h7:k≠7):ŗ (λx=>x==g) FU [] (lF k g)= .ok (vA k g) []:=by
 simp only[bj,ď,Û,û,cE] at hg
 match k,hk,h7 with
 |0,_,_=>rcases hg with rfl|rfl|rfl|rfl<;>kernel_rfl
 |1,_,_=>rcases hg with rfl|rfl|rfl|rfl<;>kernel_rfl
 |2,_,_=>rcases hg with rfl|rfl|rfl|rfl<;>kernel_rfl
 |3,_,_=>rcases hg with rfl|rfl|rfl|rfl<;>kernel_rfl
 |4,_,_=>rcases hg with rfl|rfl|rfl|rfl<;>kernel_rfl
 |5,_,_=>rcases hg with rfl|rfl|rfl|rfl<;>kernel_rfl
 |6,_,_=>rcases hg with rfl|rfl|rfl|rfl<;>kernel_rfl
 |7,_,h=>exact (h rfl).elim
 |8,_,_=>rcases hg with rfl|rfl|rfl|rfl<;>kernel_rfl
 |9,_,_=>rcases hg with rfl|rfl|rfl|rfl<;>kernel_rfl
 |10,_,_=>rcases hg with rfl|rfl|rfl|rfl<;>kernel_rfl
theorem EA {g:List Nat}(hg:g∈bj){k:Nat}(hk:k<11)(h7:k≠7):ŗ (λx=>x==g) FU [] (oC k g)= .ok (vA k g) []:=by
 simp only[bj,ď,Û,û,cE] at hg
 match k,hk,h7 with
 |0,_,_=>rcases hg with rfl|rfl|rfl|rfl<;>kernel_rfl
 |1,_,_=>rcases hg with rfl|rfl|rfl|rfl<;>kernel_rfl
 |2,_,_=>rcases hg with rfl|rfl|rfl|rfl<;>kernel_rfl
 |3,_,_=>rcases hg with rfl|rfl|rfl|rfl<;>kernel_rfl
 |4,_,_=>rcases hg with rfl|rfl|rfl|rfl<;>kernel_rfl
 |5,_,_=>rcases hg with rfl|rfl|rfl|rfl<;>kernel_rfl
 |6,_,_=>rcases hg with rfl|rfl|rfl|rfl<;>kernel_rfl
 |7,_,h=>exact (h rfl).elim
 |8,_,_=>rcases hg with rfl|rfl|rfl|rfl<;>kernel_rfl
 |9,_,_=>rcases hg with rfl|rfl|rfl|rfl<;>kernel_rfl
 |10,_,_=>rcases hg with rfl|rfl|rfl|rfl<;>kernel_rfl
noncomputable def lM:List (List Nat):=[cs " ",cs "\t ",cs " \t"]
noncomputable def ye (raw rest:List Nat):Bool:= !cV.isPrefixOf (raw++rest)&&(match aO (raw++rest) with| .ok v r=>v==raw&&r==rest|_=>false)
theorem w4:(Ů.all λraw=>lM.all λgap=>(List.range 11).all λk=>bj.all λg=>ye raw (gap++lF k g)&&ye raw (gap++oC k g))=true:=by kernel_rfl
noncomputable def yf (gap w:List Nat):Bool:=qv (gap++w)&&(aG (gap++w)==w)
theorem nZ:(lM.all λgap=>(List.range 11).all λk=>bj.all λg=>yf gap (lF k g)&&(k==7||(yf gap (oC k g)&& !([124].isPrefixOf (lF k g))&& !([124].isPrefixOf (oC k g)))))=true:=by kernel_rfl
theorem De {raw gap g:List Nat}{k:Nat}(hr:raw∈Ů)(hp:gap∈lM)(hk:k<11)(hg:g∈bj):(cV.isPrefixOf (raw++(gap++lF k g))=false∧aO (raw++(gap++lF k g))= .ok raw (gap++lF k g))∧(cV.isPrefixOf (raw++(gap++oC k g))=false∧aO (raw++(gap++oC k g))= .ok raw (gap++oC k g)):=by
 have h:=w4
 simp only[É,Ö,Ð] at h
 have h:=h raw hr gap hp k hk g hg
 have key:∀rest,ye raw rest=true->cV.isPrefixOf (raw++rest)=false∧aO (raw++rest)= .ok raw rest:=by
  intro rest h
  simp only[ye,Ð,á] at h
  refine⟨h.1,?_⟩
  have h2:=h.2
  cases hp:aO (raw++rest) with
  |ok v r=>simp only[hp] at h2;simp only[Ð,è] at h2;simp only[h2.1,h2.2]
  |err r=>simp only[hp] at h2;cases h2
  |bad=>simp only[hp] at h2;cases h2
 exact⟨key _ h.1,key _ h.2⟩
theorem yn {s:RS}{st k:Nat}{cn:List Int}{pat:Option (List Nat)}{gap g:List Nat}(hp:gap∈lM)(hk:k<11)(hg:g∈bj)(hn:(s.conds.map (·.1)).contains g=true)(ho:vC cn=true):dM s FU st cn pat (gap++lF k g)= .ok (jL s st cn pat (BU k g)) []:=by
 have h:=nZ
 simp only[É,Ö,Ð,yf,ť,á,è] at h
 obtain⟨⟨h1,h2⟩,h3⟩:=h gap hp k hk g hg
 unfold dM
 rw[h1,h2,ho]
 simp only[gu]
 by_cases h7:k=7
 ·subst h7
  have e1:([124]:List Nat).isPrefixOf (lF 7 g)=true:=rfl
  have e2:aG ((lF 7 g).drop 1)=[]:=rfl
  rw[e1,e2];rfl
 ·rcases h3 with z|⟨⟨_,h3⟩,_⟩
  ·exact (h7 z).elim
  ·have hs:=dW (nm':=((s.conds.map (·.1)).contains ·)) (λx hx=>by rw[show x=g from eq_of_beq hx];exact hn) (Ez hg hk h7)
   rw[h3,hs]
   simp only[ś,ka,BU,Ñ h7]
theorem yo {s:RS}{st k:Nat}{cn:List Int}{pat:Option (List Nat)}{gap g:List Nat}(hp:gap∈lM)(hk:k<11)(h7:k≠7)(hg:g∈bj)(hn:(s.conds.map (·.1)).contains g=true)(ho:vC cn=true):dM s FU st cn pat (gap++oC k g)= .ok (jL s st cn pat (some (vA k g))) []:=by
 have h:=nZ
 simp only[É,Ö,Ð,yf,ť,á,è] at h
 obtain⟨_,h3⟩:=h gap hp k hk g hg
 rcases h3 with z|⟨⟨⟨h1,h2⟩,_⟩,h3⟩
 ·exact (h7 z).elim
 ·unfold dM
  rw[h1,h2,ho]
  have hs:=dW (nm':=((s.conds.map (·.1)).contains ·)) (λx hx=>by rw[show x=g from eq_of_beq hx];exact hn) (EA hg hk h7)
  dsimp only[lJ]
  rw[h3,hs]
  dsimp only[b4,lJ]
theorem lw {p u:List Nat}{d:Nat}(hd:ij.contains d=false):∃m,aH ij (p++d::u)=p++d::m:=by
 have h2:∀l:List Nat,∃m,((l++(d::p.reverse)).dropWhile λc=>ij.contains c)=m++(d::p.reverse):=by
  intro l
  induction l with
  |nil=>exact⟨[],by simp only[ğ,aB,hd];rfl⟩
  |cons a l ih=>
   simp only[bZ,aB]
   split
   ·exact ih
   ·exact⟨a::l,rfl⟩
 obtain⟨m,hm⟩:=h2 u.reverse
 refine⟨m.reverse,?_⟩
 unfold aH
 rw[ay,dH,Æ,bH,hm,ay,dH,WK]
 simp
theorem cA {ind:List Nat}(hi:ind∈cp){c:Nat}{u:List Nat}(hb:ij.contains c=false)(h47:ind=[]->c≠47)(h37:c≠37):bE (ind++c::u)=true:=by
 simp only[Ī]
 constructor
 ·unfold ń
  obtain⟨m,hm⟩:=lw (p:=ind) (u:=u) hb
  simp only[hm,Ù]
  simp only[cp,Û,û,cE] at hi
  rcases hi with rfl|rfl|rfl
  ·intro z;exact h37 (by simp at z;exact z.1)
  ·intro z;simp at z
  ·intro z;simp at z
 ·unfold ŀ
  have e1:fH ij (ind++c::u)=c::u:=jR hi hb
  obtain⟨m,hm⟩:=lw (p:=[]) (u:=u) hb
  simp only[ğ,ğ] at hm
  simp only[e1,hm]
  simp only[cp,Û,û,cE] at hi
  have e2:(c::m==[])=false:=rfl
  simp only[e2,Bool.false_or]
  rcases hi with rfl|rfl|rfl
  ·have:(47==c)=false:=by simp only[Ù];exact λz=>h47 rfl z.symm
   simp[List.isPrefixOf,this]
  ·simp[List.isPrefixOf]
  ·simp[List.isPrefixOf]
inductive o5 (cd:List (List Nat×Bool)):List Nat->List Int->Prop
 |none:o5 cd [] []
 |star:o5 cd o9 (av cd.length)
 |told (hs:List Nat):hs≠[]->hs.length<=FU->(∀k∈hs,k<cd.length)->o5 cd (iZ cd hs) (hs.map (λk:Nat=>(k:Int)))
structure VL (ht body:List Nat):Prop where
 e:∃c u,body=c::u∧ij.contains c=false∧c≠123∧(ht=[]->L5 c=true∧c≠37∧(cV.isPrefixOf body=true∨c≠60))
theorem o5.first {cd:List (List Nat×Bool)}{ht:List Nat}{own:List Int}(h:o5 cd ht own):ht=[]∧own=[]∨∃u,ht=60::u:=by
 cases h with
 |none=>exact .inl ⟨rfl,rfl⟩
 |star=>exact .inr ⟨_,rfl⟩
 |told hs h1 h2 h3=>exact .inr ⟨_,rfl⟩
theorem o5.conds {cd:List (List Nat×Bool)}(hc:GoodC cd){ht body:List Nat}{own:List Int}(h:o5 cd ht own)(hb:ht=[]->cV.isPrefixOf body=true∨[60].isPrefixOf body=false):Š (cd.map (·.1)) FU (ht++body)= .ok own body:=by
 cases h with
 |none=>exact xr _ _ (hb rfl)
 |star=>
  have:=xq (cd.map (·.1)) body
  rw[Â] at this
  exact this
 |told hs h1 h2 h3=>exact xx hc body h1 h2 h3
theorem o5.len {cd:List (List Nat×Bool)}(hc:GoodC cd){ht:List Nat}{own:List Int}(h:o5 cd ht own):own.length<=FU∧∀x∈own,0<=x∧x<(cd.length:Int):=by
 have:=hc.g.len
 cases h with
 |none=>exact⟨by simp,λx hx=>(nomatch hx)⟩
 |star=>
  refine⟨by unfold av;simp only[Â,bK];have:FU=12:=rfl;lia,λx hx=> ?_⟩
  unfold av at hx
  obtain⟨k,hk,rfl⟩:=Þ.mp hx
  have:=Ö.mp hk
  lia
 |told hs h1 h2 h3=>
  refine⟨by simp only[Â];exact h2,λx hx=> ?_⟩
  obtain⟨k,hk,rfl⟩:=Þ.mp hx
  have:=h3 k hk
  lia
noncomputable def ja (cd:List (List Nat×Bool))(df:List (List Nat×List Nat))(op:Bool)(n:Nat)(dr:List Dr)(sc:List (List Int×Nat)):RS:=⟨n,df,cd,op,dr,sc,[]⟩
section
variable {cd:List (List Nat×Bool)} {s:RS} {n st:Nat} {ind ht body:List Nat} {own:List Int}
theorem kQ (hi:ind∈cp)(h:o5 cd ht own)(b:VL ht body):bE (ind++(ht++body))=true:=by
 obtain⟨c,u,rfl,h1,h2,h3⟩:=b.e
 rcases h.first with ⟨rfl,rfl⟩|⟨v,rfl⟩
 ·obtain⟨h4,h5,h6⟩:=h3 rfl
  simp only[L5,Ð,á,ŋ,WB] at h4
  exact cA hi h1 (λ_=>h4.1.2) h5
 ·exact cA hi (by decide) (λ_=>by decide) (by decide)
theorem pC (hi:ind∈cp)(hs:ind=[]∨s.scopes≠[])(h:o5 cd ht own)(b:ht=[]->∃c u,body=c::u∧L5 c=true):œ s FU st (ind++(ht++body))=Ŵ s FU st (ĳ s.scopes) (ht++body):=by
 rcases h.first with ⟨rfl,rfl⟩|⟨v,rfl⟩
 ·obtain⟨c,u,rfl,h4⟩:=b rfl
  exact rC hi h4 hs
 ·exact rC hi (by decide) hs
theorem m5 (hc:GoodC cd)(e:s.conds=cd)(hi:ind∈cp)(hs:ind=[]∨s.scopes≠[])(h:o5 cd ht own)(b:VL ht body)(hl:(ĳ s.scopes).length<=900):œ s FU st (ind++(ht++body))=a0 s FU st (aM cd (ĳ s.scopes++own)) body:=by
 obtain⟨c,u,rfl,h1,h2,h3⟩:=b.e
 rw[pC hi hs h (λz=>⟨c,u,rfl,(h3 z).1⟩)]
 have Xz:=h.conds hc (body:=c::u) (λz=>by
  rcases (h3 z).2.2 with y|y
  ·exact .inl y
  ·right
   have:(60==c)=false:=by rw[Ù];exact λz=>y z.symm
   simp[List.isPrefixOf,this])
 have:=(h.len hc).1
 rw[Fj (by rw[e];exact Xz) (by have:FU=12:=rfl;lia) (nY h2 h1),e]
theorem EJ (hc:GoodC cd)(e:s.conds=cd)(hi:ind∈cp)(hs:ind=[]∨s.scopes≠[])(h:o5 cd ht own)(hn:own≠[])(hl:(ĳ s.scopes).length<=900):œ s FU st (ind++(ht++cs "{ "))= .ok {s with scopes:=s.scopes++[(ĳ s.scopes++own,st)]} (cs "{ "):=by
 have jJ:ht≠[]:=by
  rcases h.first with ⟨_,z⟩|⟨v,rfl⟩
  ·exact (hn z).elim
  ·simp
 rw[pC hi hs h (λz=>(jJ z).elim)]
 have Xz:=h.conds hc (body:=cs "{ ") (λz=>(jJ z).elim)
 have:=(h.len hc).1
 unfold Ŵ
 rw[e,Xz]
 dsimp only
 rw[Î (by have:FU=12:=rfl;lia)]
 have e1:(own==[])=false:=by cases own with|nil=>exact (hn rfl).elim|cons a l=>rfl
 have e2:Ap 123 (cs "{ ")=true:=rfl
 rw[e1,e2];rfl
end
noncomputable def ž:Option (List Nat)->List Nat
 |none=>cV
 |some r=>r
noncomputable def Cq:List (List Nat):=[cs "<b",cs "//c"]
structure tP (ht:List Nat)(pat:Option (List Nat)):Prop where
 m:∀r,pat=some r->r∈Ů∧(ht=[]->r∉Cq)
noncomputable def zK (r:List Nat):Bool:=match r with|[]=>false|c::_=> !ij.contains c&&c != 123&&(Cq.contains r||(L5 c&&c != 37&&c != 60))
theorem Bb:(Ů.all zK)=true:=by kernel_rfl
theorem yN {ht:List Nat}{pat:Option (List Nat)}(h:tP ht pat)(rest:List Nat):VL ht (ž pat++rest):=by
 cases pat with
 |none=>exact⟨60,_,rfl,by decide,by decide,λ_=>⟨by decide,by decide,.inl (by simp[ž,cV,List.isPrefixOf])⟩⟩
 |some r=>
  obtain⟨h1,h2⟩:=h.m r rfl
  have hf:=Bb
  simp only[É] at hf
  have hf:=hf r h1
  cases r with
  |nil=>contradiction
  |cons c u=>
   simp only[zK,Ð,á,ŋ,WB,ť] at hf
   obtain⟨⟨h3,h4⟩,h5⟩:=hf
   refine⟨c,_,rfl,h3,h4,λz=> ?_⟩
   rcases h5 with y|⟨⟨y1,y2⟩,y3⟩
   ·exact (h2 z (â.mp y)).elim
   ·exact⟨y1,y2,.inr y3⟩
theorem Ik {s:RS}{st k:Nat}{cn:List Int}{pat:Option (List Nat)}{gap g:List Nat}(MP:∀r,pat=some r->r∈Ů)(hp:gap∈lM)(hk:k<11)(hg:g∈bj)(hn:(s.conds.map (·.1)).contains g=true)(ho:vC cn=true):a0 s FU st cn (ž pat++(gap++lF k g))= .ok (jL s st cn pat (BU k g)) []:=by
 unfold a0
 cases pat with
 |none=>
  have e1:cV.isPrefixOf (ž none++(gap++lF k g))=true:=by simp[ž,cV,List.isPrefixOf]
  have e2:(ž none++(gap++lF k g)).drop 7=gap++lF k g:=rfl
  simp only[e1,e2,Î rfl]
  exact yn hp hk hg hn ho
 |some r=>
  obtain⟨⟨e1,e2⟩,_⟩:=De (MP r rfl) hp hk hg
  have XF:cV.isPrefixOf (ž (some r)++(gap++lF k g))=false:=e1
  have XE:aO (ž (some r)++(gap++lF k g))= .ok r (gap++lF k g):=e2
  simp only[XF,XE]
  dsimp only[b4]
  exact yn hp hk hg hn ho
theorem Il {s:RS}{st k:Nat}{cn:List Int}{pat:Option (List Nat)}{gap g:List Nat}(MP:∀r,pat=some r->r∈Ů)(hp:gap∈lM)(hk:k<11)(h7:k≠7)(hg:g∈bj)(hn:(s.conds.map (·.1)).contains g=true)(ho:vC cn=true):a0 s FU st cn (ž pat++(gap++oC k g))= .ok (jL s st cn pat (some (vA k g))) []:=by
 unfold a0
 cases pat with
 |none=>
  have e1:cV.isPrefixOf (ž none++(gap++oC k g))=true:=by simp[ž,cV,List.isPrefixOf]
  have e2:(ž none++(gap++oC k g)).drop 7=gap++oC k g:=rfl
  simp only[e1,e2,Î rfl]
  exact yo hp hk h7 hg hn ho
 |some r=>
  obtain⟨_,⟨e1,e2⟩⟩:=De (MP r rfl) hp hk hg
  have XF:cV.isPrefixOf (ž (some r)++(gap++oC k g))=false:=e1
  have XE:aO (ž (some r)++(gap++oC k g))= .ok r (gap++oC k g):=e2
  simp only[XF,XE]
  dsimp only[b4]
  exact yo hp hk h7 hg hn ho
noncomputable def ş (j:Nat):List Nat:=(HJ.getD j ([],0)).1
noncomputable def dg (j:Nat):Nat:=(HJ.getD j ([],0)).2
theorem GB (s:RS)(st:Nat)(cn:List Int)(hC:(s.conds.map (·.1)).contains (cs "C")=false):∀j,j<11->jM (a0 s FU st cn (ş j)) ((ş j).length+1-dg j)=true
 |0,_=>by kernel_rfl
 |1,_=>by kernel_rfl
 |2,_=>by kernel_rfl
 |3,_=>by kernel_rfl
 |4,_=>by kernel_rfl
 |5,_=>by
  have e0:a0 s FU st cn (ş 5)=(match ŗ ((s.conds.map (·.1)).contains ·) FU [] (cs "begin C") with
   | .ok ss r3=>if vC cn then .ok (jL s st cn (some (cs "a")) (some ss)) r3 else .bad
   | .err r'=> .err r'
   | .bad=> .bad):=by kernel_rfl
  have e1:ŗ ((s.conds.map (·.1)).contains ·) FU [] (cs "begin C")=(match aJ ((s.conds.map (·.1)).contains ·) (cs "begin C") with
   | .err r'=> .err r'
   | .bad=> .bad
   | .ok s' r2=>if aG r2==[] then ŗ ((s.conds.map (·.1)).contains ·) 11 ([]++[s']) (aG r2) else if [59].isPrefixOf (aG r2) then ŗ ((s.conds.map (·.1)).contains ·) 11 ([]++[s']) ((aG r2).drop 1) else .err (aG r2)):=by kernel_rfl
  have e2:aJ ((s.conds.map (·.1)).contains ·) (cs "begin C")=aJ (λ_=>false) (cs "begin C"):=ng hC
  rw[e0,e1,e2];kernel_rfl
 |6,_=>by kernel_rfl
 |7,_=>by kernel_rfl
 |8,_=>by kernel_rfl
 |9,_=>by kernel_rfl
 |10,_=>by kernel_rfl
noncomputable def SP (j:Nat):Bool:=(match ş j with|[]=>false|c::_=> !ij.contains c&&c != 123&&L5 c&&c != 37&&(cV.isPrefixOf (ş j)||c != 60))&&decide (1<=dg j∧dg j<=(ş j).length+1)
theorem Gi:((List.range 11).all SP)=true:=by kernel_rfl
theorem GF {ht:List Nat}{j:Nat}(hj:j<11):VL ht (ş j)∧1<=dg j∧dg j<=(ş j).length+1:=by
 have h:=Gi
 simp only[É,Ö] at h
 have h:=h j hj
 simp only[SP,Ð,ċ] at h
 obtain⟨h1,h2⟩:=h
 refine⟨?_,h2⟩
 cases hw:ş j with
 |nil=>rw[hw] at h1;contradiction
 |cons c u=>
  rw[hw] at h1
  simp only[Ð,á,ŋ,WB,ť] at h1
  obtain⟨⟨⟨⟨a1,a2⟩,a3⟩,a4⟩,a5⟩:=h1
  exact⟨c,u,rfl,a1,a2,λ_=>⟨a3,a4,a5⟩⟩
theorem Bt {cd:List (List Nat×Bool)}(hc:GoodC cd):Š (cd.map (·.1)) FU (ş 11)= .err (cs "C>a skip")∧Š (cd.map (·.1)) FU (ş 12)= .err (cs " a skip"):=by
 constructor
 ·have e0:Š (cd.map (·.1)) FU (ş 11)=bq (cd.map (·.1)) FU [] (cs "C>a skip"):=by kernel_rfl
  have e1:(ç (cs "C>a skip")).1=cs "C" :=by kernel_rfl
  rw[e0]
  show bq (cd.map (·.1)) (11+1) [] (cs "C>a skip")=_
  unfold bq
  rw[e1,hc.g.C];rfl
 ·have e0:Š (cd.map (·.1)) FU (ş 12)=bq (cd.map (·.1)) FU [] (cs "INITIAL a skip"):=by kernel_rfl
  have e1:ç (cs "INITIAL a skip")=(da,cs " a skip"):=by kernel_rfl
  rw[e0]
  show bq (cd.map (·.1)) (11+1) [] (cs "INITIAL a skip")=_
  unfold bq
  rw[e1,hc.init]
  dsimp only
  rw[Î rfl]
  have e2:([62]:List Nat).isPrefixOf (cs " a skip")=false:=rfl
  have e3:([44]:List Nat).isPrefixOf (cs " a skip")=false:=rfl
  rw[e2,e3];rfl
noncomputable def Ĵ (d:cD):Dr:=⟨d.heads,d.pat,d.steps,d.line,d.line⟩
def lG (c:Nat)(l:List Int):Prop:=∀x∈l,0<=x∧x<(c:Int)
def bx (c k:Nat)(sc:List (List Int×Nat)):Prop:=∀e∈sc,lG c e.1∧e.1.length<=12*k
structure q8 (cd:List (List Nat×Bool))(d:cD):Prop where
 p:∀r,d.pat=some r->r∈Ů
 s:∃k g,k<11∧g∈bj∧(cd.map (·.1)).contains g=true∧d.steps=BU k g
 h:∃due,due≠[]∧lG cd.length due∧d.heads=Ē due
def Cp (d:cD):Prop:=∀ss,d.steps=some ss->ss.length<=3
theorem q9 {k:Nat}{g:List Nat}(hk:k<11){ss:List St}(h:BU k g=some ss):ss.length<=3:=by
 unfold BU at h
 split at h
 ·contradiction
 ·cases h
  match k,hk with
  |0,_=>exact (by decide:1<=3)
  |1,_=>exact (by decide:1<=3)
  |2,_=>exact (by decide:2<=3)
  |3,_=>exact (by decide:2<=3)
  |4,_=>exact (by decide:2<=3)
  |5,_=>exact (by decide:3<=3)
  |6,_=>exact (by decide:1<=3)
  |7,_=>exact (by decide:0<=3)
  |8,_=>exact (by decide:2<=3)
  |9,_=>exact (by decide:1<=3)
  |10,_=>exact (by decide:1<=3)
structure RI (cd:List (List Nat×Bool))(df:List (List Nat×List Nat))(op:Bool)(n0:Nat)(rr:List (List Nat))(ldr:List cD)(sc:List (List Int×Nat))(ends:Option (Nat×Nat)):Prop where
 ok:∀w∈rr,dZ w=true
 gs:bx cd.length rr.length sc
 st:∀d∈ldr,Cp d
 m:match ends with
  |none=>(∀d∈ldr,q8 cd d)∧∀rest,ģ (rr++rest) (ja cd df op n0 [] [])=ģ rest (ja cd df op (n0+rr.length) (ldr.map Ĵ) sc)
  |some e=>0<e.2∧∀rest,ģ (rr++rest) (ja cd df op n0 [] [])= .err e.1 e.2
structure dh (cd:List (List Nat×Bool))(df:List (List Nat×List Nat))(op:Bool)(n:Nat)(ldr:List cD)(sc:List (List Int×Nat))(w:List Nat)(place:Nat)(ldr':List cD)(sc':List (List Int×Nat)):Prop where
 ok:place=0->ń w=false∧((ŀ w=true∧ldr'=ldr∧sc'=sc)∨(ŀ w=false∧(∀d∈ldr',d∈ldr∨q8 cd d)∧∃r,œ (ja cd df op n (ldr.map Ĵ) sc) FU n w= .ok (ja cd df op n (ldr'.map Ĵ) sc') r))
 err:0<place->bE w=true∧∃r,œ (ja cd df op n (ldr.map Ĵ) sc) FU n w= .err r∧w.length-r.length+1=place
theorem bx.up {c k k':Nat}{sc:List (List Int×Nat)}(h:bx c k sc)(hk:k<=k'):bx c k' sc:=λe he=>⟨(h e he).1,by have:=(h e he).2;lia⟩
theorem RI.step {cd:List (List Nat×Bool)}{df:List (List Nat×List Nat)}{op:Bool}{n0:Nat}{rr:List (List Nat)}{ldr ldr':List cD}{sc sc':List (List Int×Nat)}{ends:Option (Nat×Nat)}(R:RI cd df op n0 rr ldr sc ends){w:List Nat}{place:Nat}(hw:dZ w=true)(hs:bx cd.length (rr.length+1) sc')(kq:∀d∈ldr',d∈ldr∨Cp d)(h:ends=none->dh cd df op (n0+rr.length+1) ldr sc w place ldr' sc'):RI cd df op n0 (rr++[w]) ldr' sc' (gI ends (n0+rr.length) place):=by
 refine⟨λv hv=> ?_,by rw[Ã];exact hs,λd hd=>(kq d hd).elim (R.st d) id,?_⟩
 ·rw[ö,Ô] at hv
  rcases hv with hv|rfl
  ·exact R.ok v hv
  ·exact hw
 ·have m:=R.m
  cases ends with
  |some e=>
   dsimp only[gI] at m⊢
   refine⟨m.1,λrest=> ?_⟩
   rw[Æ];exact m.2 _
  |none=>
   dsimp only[gI] at m⊢
   obtain⟨m1,m2⟩:=m
   have S:=h rfl
   have e:({ja cd df op (n0+rr.length) (ldr.map Ĵ) sc with row:=(ja cd df op (n0+rr.length) (ldr.map Ĵ) sc).row+1}:RS)=ja cd df op (n0+rr.length+1) (ldr.map Ĵ) sc:=rfl
   have er:(ja cd df op (n0+rr.length) (ldr.map Ĵ) sc).row+1=n0+rr.length+1:=rfl
   by_cases hp:0<place
   ·rw[Î hp]
    obtain⟨s1,r,s3,s4⟩:=S.err hp
    obtain⟨s5,s6⟩:=Ī.mp s1
    refine⟨hp,λrest=> ?_⟩
    rw[Æ,m2]
    show ģ (w::rest) _=_
    rw[ģ,s5,s6]
    dsimp only[b4]
    rw[e,er,s3]
    dsimp only
    rw[s4]
   ·rw[Ñ hp]
    obtain⟨s1,s2⟩:=S.ok (by lia)
    rcases s2 with ⟨s3,rfl,rfl⟩|⟨s3,s4,r,s5⟩
    ·refine⟨m1,λrest=> ?_⟩
     rw[Æ,m2]
     show ģ (w::rest) _=_
     rw[ģ,s1,s3]
     dsimp only[b4,lJ]
     rw[e,Ã];rfl
    ·refine⟨λd hd=> ?_,λrest=> ?_⟩
     ·rcases s4 d hd with z|z
      ·exact m1 d z
      ·exact z
     ·rw[Æ,m2]
      show ģ (w::rest) _=_
      rw[ģ,s1,s3]
      dsimp only[b4]
      rw[e,er,s5]
      dsimp only
      rw[Ã];rfl
def fx (n:Nat)(w:List Nat):Prop:=(∀c∈w,c≠10)∧w.length<=n
theorem fx.app {a b:Nat}{u v:List Nat}(hu:fx a u)(hv:fx b v):fx (a+b) (u++v):=⟨λc hc=>by
 simp only[ö] at hc
 rcases hc with hc|hc
 ·exact hu.1 c hc
 ·exact hv.1 c hc,by simp only[Ã];have:=hu.2;have:=hv.2;lia⟩
theorem fx.w {n:Nat}{w:List Nat}(h:fx n w)(hn:n<=80):dZ w=true:=by
 unfold dZ
 rw[Ð,É,ċ]
 exact⟨λc hc=>by simpa using h.1 c hc,by have:=h.2;lia⟩
noncomputable def sT (n:Nat)(w:List Nat):Bool:=w.all (λc=>c != 10)&&decide (w.length<=n)
theorem ţ {n:Nat}{w:List Nat}(h:sT n w=true):fx n w:=by
 simp only[sT,Ð,É,ċ] at h
 exact⟨λc hc=>by simpa using h.1 c hc,h.2⟩
theorem fx.mono {n m:Nat}{w:List Nat}(h:fx n w)(hm:n<=m):fx m w:=⟨h.1,by have:=h.2;lia⟩
theorem cO {ind:List Nat}(h:ind∈cp):fx 1 ind:=by
 have:(cp.all (sT 1))=true:=by kernel_rfl
 exact ţ (É.mp this ind h)
theorem NS {r:List Nat}(h:r∈Ů):fx 14 r:=by
 have:(Ů.all (sT 14))=true:=by kernel_rfl
 exact ţ (É.mp this r h)
theorem qS {r:List Nat}(h:r∈lM):fx 2 r:=by
 have:(lM.all (sT 2))=true:=by kernel_rfl
 exact ţ (É.mp this r h)
theorem KM {g:List Nat}{k:Nat}(hg:g∈bj)(hk:k<11):fx 24 (lF k g)∧fx 24 (oC k g):=by
 have h:((List.range 11).all λk=>bj.all λg=>sT 24 (lF k g)&&sT 24 (oC k g))=true:=by kernel_rfl
 simp only[É,Ö,Ð] at h
 exact⟨ţ (h k hk g hg).1,ţ (h k hk g hg).2⟩
theorem Dj {pat:Option (List Nat)}(h:∀r,pat=some r->r∈Ů):fx 14 (ž pat):=by
 cases pat with
 |none=>exact ţ (by decide)
 |some r=>exact NS (h r rfl)
theorem J5 {j:Nat}(h:j<13):fx 17 (ş j):=by
 have h2:((List.range 13).all λj=>sT 17 (ş j))=true:=by kernel_rfl
 simp only[É,Ö] at h2
 exact ţ (h2 j h)
theorem lG.ok {c:Nat}{l:List Int}(h:lG c l)(hc:c<=4)(hl:l.length<=1000):vC l=true:=by
 unfold vC
 rw[Ð,É,ċ]
 exact⟨λx hx=>by have:=h x hx;rw[ċ];lia,hl⟩
theorem AL (cd:List (List Nat×Bool)):lG cd.length (Ţ cd)∧(Ţ cd).length<=cd.length:=by
 constructor
 ·intro x hx
  unfold Ţ at hx
  obtain⟨k,hk,he⟩:=iK.mp hx
  have:=Ö.mp hk
  split at he
  ·split at he
   ·contradiction
   ·obtain rfl:=Ä he;omega
  ·contradiction
 ·unfold Ţ
  have:=List.length_filterMap_le (λk=>match cd[k]? with|some e=>(if e.2 then none else some (k:Int))|none=>none) (List.range cd.length)
  rw[bK] at this
  exact this
theorem qV {cd:List (List Nat×Bool)}{l:List Int}(h:lG cd.length l):lG cd.length (aM cd l)∧(aM cd l).length<=l.length+cd.length:=by
 have hp:=AL cd
 unfold aM
 split
 ·exact⟨hp.1,by have:=hp.2;lia⟩
 ·exact⟨h,by lia⟩
theorem uH {cd:List (List Nat×Bool)}(hc:GoodC cd)(l:List Int):aM cd l≠[]:=by
 have h:(qx.all λcd=> !(Ţ cd==[]))=true:=by kernel_rfl
 simp only[É,á,Ù] at h
 unfold aM
 split
 ·exact h cd hc
 ·rename_i z;simpa using z
theorem cz {c k:Nat}{sc:List (List Int×Nat)}(h:bx c k sc):lG c (ĳ sc)∧(ĳ sc).length<=12*k:=by
 unfold ĳ
 cases hs:sc.getLast? with
 |none=>exact⟨λx hx=>(nomatch hx),by simp⟩
 |some e=>exact h e (fu hs)
theorem qZ {c:Nat}{a b:List Int}(ha:lG c a)(hb:lG c b):lG c (a++b):=λx hx=>by
 simp only[ö] at hx
 rcases hx with hx|hx
 ·exact ha x hx
 ·exact hb x hx
theorem zi {cd:List (List Nat×Bool)}(hc:GoodC cd):∀hs:List Nat,(∀k∈hs,k<cd.length)->fx (8*hs.length) (ø [44] (hs.map (nameAt cd)))
 |[],_=>⟨λc hc=>(nomatch hc),ý _⟩
 |[k],h=>by
  have:=a8 (hc.na (h k (.head _))).m []
  exact⟨this.2.2.2.2,by have:=this.2.2.1;simp only[ß,dE,ø,Ċ,Ŀ];lia⟩
 |k::k'::hs,h=>by
  have:=a8 (hc.na (h k (.head _))).m []
  have h1:fx 7 (nameAt cd k):=⟨this.2.2.2.2,this.2.2.1⟩
  have h2:fx 1 [44]:=ţ (by decide)
  have h3:=zi hc (k'::hs) (λj hj=>h j (.tail _ hj))
  have:=(h1.app h2).app h3
  refine fx.mono this ?_
  simp only[Ċ];lia
theorem FL {cd:List (List Nat×Bool)}(hc:GoodC cd){hs:List Nat}(h:∀k∈hs,k<cd.length):fx (2+8*hs.length) (iZ cd hs):=by
 have h1:fx 1 [60]:=ţ (by decide)
 have h2:fx 1 [62]:=ţ (by decide)
 exact fx.mono (h1.app ((zi hc hs h).app h2)) (by lia)
noncomputable def Ž (ind:List Nat)(sc:List (List Int×Nat)):Nat:=if ind≠[]∧sc=[] then 1 else 0
theorem mV {ind:List Nat}{sc:List (List Int×Nat)}(h:Ž ind sc=0):ind=[]∨sc≠[]:=by
 unfold Ž at h
 by_cases h1:ind=[]
 ·exact .inl h1
 ·by_cases h2:sc=[]
  ·rw[Î ⟨h1,h2⟩] at h;contradiction
  ·exact .inr h2
theorem kP {ind:List Nat}{sc:List (List Int×Nat)}(h:Ž ind sc≠0):ind≠[]∧sc=[]∧Ž ind sc=1:=by
 unfold Ž at h⊢
 by_cases h1:ind≠[]∧sc=[]
 ·rw[Î h1];exact⟨h1.1,h1.2,rfl⟩
 ·rw[Ñ h1] at h;exact (h rfl).elim
section
variable {cd:List (List Nat×Bool)} {df:List (List Nat×List Nat)} {op:Bool} {n k:Nat} {ldr:List cD} {sc:List (List Int×Nat)} {ind ht:List Nat} {own:List Int}
theorem fc {w:List Nat}{ldr':List cD}{sc':List (List Int×Nat)}(hi:ind∈cp)(hb:Ž ind sc≠0)(hr:bE (ind++w)=true):dh cd df op n ldr sc (ind++w) 1 ldr' sc':=by
 obtain⟨h1,h2,h3⟩:=kP hb
 refine⟨λh=>by lia,λ_=>⟨hr,ind++w,?_,by lia⟩⟩
 exact Fi hi h1 h2
theorem w0 {pat:Option (List Nat)}{gap g:List Nat}{j:Nat}(hc:GoodC cd)(hk:12*k<=900)(hs:bx cd.length k sc)(hi:ind∈cp)(hh:o5 cd ht own)(hp:tP ht pat)(hg:gap∈lM)(hj:j<11)(hgn:g∈bj)(hgc:(cd.map (·.1)).contains g=true):
 dh cd df op n ldr sc (ind++(ht++(ž pat++(gap++lF j g)))) (Ž ind sc) (ldr++[⟨Ē (aM cd (ĳ sc++own)),pat,BU j g,n⟩]) sc:=by
 have hb:=yN hp (gap++lF j g)
 have hr:=kQ hi hh hb
 by_cases h0:Ž ind sc=0
 ·rw[h0]
  refine⟨λ_=>⟨(Ī.mp hr).1,.inr ⟨(Ī.mp hr).2,λd hd=> ?_,[],?_⟩⟩,λh=>by lia⟩
  ·rw[ö,Ô] at hd
   rcases hd with hd|rfl
   ·exact .inl hd
   ·exact .inr ⟨λr hr=>(hp.m r hr).1,⟨j,g,hj,hgn,hgc,rfl⟩,⟨_,uH hc _,(qV (qZ (cz hs).1 (hh.len hc).2)).1,rfl⟩⟩
  ·have hd:=qV (qZ (cz hs).1 (hh.len hc).2)
   have hl1:=(cz hs).2
   have Vw:=(hh.len hc).1
   have Xn:=hc.g.len
   have hfu:FU=12:=rfl
   rw[m5 (s:=ja cd df op n (ldr.map Ĵ) sc) hc rfl hi (mV h0) hh hb (by show (ĳ sc).length<=900;lia)]
   show a0 _ FU n (aM cd (ĳ sc++own)) _=_
   rw[Ik (λr hr=>(hp.m r hr).1) hg hj hgn hgc (hd.1.ok Xn (by have:=hd.2;rw[Ã] at this;lia))]
   simp only[jL,ja,Ú,ß,dE,Ĵ]
 ·rw[(kP h0).2.2]
  exact fc hi h0 hr
theorem AG {j:Nat}{ldr':List cD}{sc':List (List Int×Nat)}(hc:GoodC cd)(hk:12*k<=900)(hs:bx cd.length k sc)(hi:ind∈cp)(hh:o5 cd ht own)(hj:j<11):
 dh cd df op n ldr sc (ind++(ht++ş j)) (if Ž ind sc=0 then (ind++ht).length+dg j else Ž ind sc) ldr' sc':=by
 obtain⟨hb,Hd,Ky⟩:=GF (ht:=ht) hj
 have hr:=kQ hi hh hb
 by_cases h0:Ž ind sc=0
 ·rw[Î h0]
  refine⟨λh=>by lia,λ_=>⟨hr,?_⟩⟩
  have hl1:=(cz hs).2
  rw[m5 (s:=ja cd df op n (ldr.map Ĵ) sc) hc rfl hi (mV h0) hh hb (by show (ĳ sc).length<=900;lia)]
  obtain⟨r,h1,h2⟩:=wF (GB (ja cd df op n (ldr.map Ĵ) sc) n (aM cd (ĳ sc++own)) hc.g.C j hj)
  refine⟨r,h1,?_⟩
  simp only[Ã]
  lia
 ·rw[Ñ h0,(kP h0).2.2]
  exact fc hi h0 hr
theorem w3 {j:Nat}{ldr':List cD}{sc':List (List Int×Nat)}(hc:GoodC cd)(hi:ind∈cp)(hj:j=11∨j=12):
 dh cd df op n ldr sc (ind++ş j) (if Ž ind sc=0 then ind.length+dg j else Ž ind sc) ldr' sc':=by
 have hr:bE (ind++ş j)=true:=by
  rcases hj with rfl|rfl
  ·exact cA hi (c:=60) (by decide) (λ_=>by decide) (by decide)
  ·exact cA hi (c:=60) (by decide) (λ_=>by decide) (by decide)
 by_cases h0:Ž ind sc=0
 ·simp only[Î h0]
  refine⟨λh=> ?_,λ_=>⟨hr,?_⟩⟩
  ·have:0<dg j:=by rcases hj with rfl|rfl<;>decide
   lia
  ·have e:∀u,œ (ja cd df op n (ldr.map Ĵ) sc) FU n (ind++60::u)=Ŵ (ja cd df op n (ldr.map Ĵ) sc) FU n (ĳ sc) (60::u):=λu=>rC hi (by decide) (mV h0)
   obtain⟨c1,c2⟩:=Bt hc
   rcases hj with rfl|rfl
   ·refine⟨cs "C>a skip",?_,?_⟩
    ·simp only[show ş 11=60::cs "C>a skip" by decide,e]
     unfold Ŵ
     show (match Š (cd.map (·.1)) FU (60::cs "C>a skip") with| .ok own r1=>_| .err r'=>_| .bad=>_)=_
     simp only[show 60::cs "C>a skip" =ş 11 by decide,c1]
    ·simp only[Ã,show (ş 11).length=9 by decide,show (cs "C>a skip").length=8 by decide,show dg 11=2 by decide];lia
   ·refine⟨cs " a skip",?_,?_⟩
    ·simp only[show ş 12=60::cs "INITIAL a skip" by decide,e]
     unfold Ŵ
     show (match Š (cd.map (·.1)) FU (60::cs "INITIAL a skip") with| .ok own r1=>_| .err r'=>_| .bad=>_)=_
     simp only[show 60::cs "INITIAL a skip" =ş 12 by decide,c2]
    ·simp only[Ã,show (ş 12).length=15 by decide,show (cs " a skip").length=7 by decide,show dg 12=9 by decide];lia
 ·simp only[Ñ h0,(kP h0).2.2]
  exact fc hi h0 hr
theorem E4 (hi:ind∈cp)(hh:o5 cd ht own)(hn:own≠[]):bE (ind++(ht++cs "{ "))=true:=by
 rcases hh.first with ⟨_,z⟩|⟨v,rfl⟩
 ·exact (hn z).elim
 ·exact cA hi (c:=60) (by decide) (λ_=>by decide) (by decide)
theorem w2 (hc:GoodC cd)(hk:12*k<=900)(hs:bx cd.length k sc)(hi:ind∈cp)(hh:o5 cd ht own)(hn:own≠[]):
 dh cd df op n ldr sc (ind++(ht++cs "{ ")) (Ž ind sc) ldr (sc++[(ĳ sc++own,n)]):=by
 have hr:=E4 hi hh hn
 by_cases h0:Ž ind sc=0
 ·rw[h0]
  have hl1:=(cz hs).2
  refine⟨λ_=>⟨(Ī.mp hr).1,.inr ⟨(Ī.mp hr).2,λd hd=> .inl hd,_,EJ (s:=ja cd df op n (ldr.map Ĵ) sc) hc rfl hi (mV h0) hh hn (by show (ĳ sc).length<=900;lia)⟩⟩,λh=>by lia⟩
 ·rw[(kP h0).2.2]
  exact fc hi h0 hr
noncomputable def ej (b:Bool):List Nat:=if b then cs "} " else cs "}"
theorem lx (b:Bool)(hi:ind∈cp)(hs:sc≠[]):dh cd df op n ldr sc (ind++ej b) 0 ldr sc.dropLast:=by
 have hr:bE (ind++ej b)=true:=by
  cases b
  ·exact cA hi (c:=125) (by decide) (λ_=>by decide) (by decide)
  ·exact cA hi (c:=125) (by decide) (λ_=>by decide) (by decide)
 refine⟨λ_=>⟨(Ī.mp hr).1,.inr ⟨(Ī.mp hr).2,λd hd=> .inl hd,ej b,?_⟩⟩,λh=>by omega⟩
 unfold œ
 show (match sc.getLast? with|some e=>_|none=>_)=_
 cases hl:sc.getLast? with
 |none=>exact (hs (Ŕ.mp hl)).elim
 |some e=>
  dsimp only
  have e1:aG (ind++ej b)=ej b:=by
   cases b
   ·exact jR hi (by decide)
   ·exact jR hi (by decide)
  rw[e1]
  cases b<;>rfl
theorem rZ (b:Bool){ldr':List cD}{sc':List (List Int×Nat)}(hc:GoodC cd):dh cd df op n ldr [] (ej b) (if b then 3 else 2) ldr' sc':=by
 have hr:bE (ej b)=true:=by cases b<;>rfl
 refine⟨λh=>absurd h (by cases b<;>decide),λ_=>⟨hr,?_⟩⟩
 cases b with
 |false=>
  refine⟨[],?_,rfl⟩
  kernel_rfl
 |true=>
  refine⟨[],?_,rfl⟩
  kernel_rfl
theorem uX:dh cd df op n ldr sc [9] 0 ldr sc:=⟨λ_=>⟨rfl,.inl ⟨rfl,rfl,rfl⟩⟩,λh=>by omega⟩
noncomputable def Ah:List Nat:=cs "// }"
theorem AF (hi:ind∈cp):dh cd df op n ldr sc (ind++Ah) (Ž ind sc) ldr sc:=by
 by_cases MR:ind=[]
 ·subst MR
  have:Ž [] sc=0:=by unfold Ž;rw[Ñ (by simp)]
  rw[this]
  exact⟨λ_=>⟨rfl,.inl ⟨rfl,rfl,rfl⟩⟩,λh=>by lia⟩
 ·have hr:bE (ind++Ah)=true:=cA hi (c:=47) (by decide) (λz=>(MR z).elim) (by decide)
  by_cases h0:Ž ind sc=0
  ·rw[h0]
   have hs:sc≠[]:=by
    rcases mV h0 with z|z
    ·exact (MR z).elim
    ·exact z
   refine⟨λ_=>⟨(Ī.mp hr).1,.inr ⟨(Ī.mp hr).2,λd hd=> .inl hd,Ah,?_⟩⟩,λh=>by lia⟩
   unfold œ
   show (match sc.getLast? with|some e=>_|none=>_)=_
   cases hl:sc.getLast? with
   |none=>exact (hs (Ŕ.mp hl)).elim
   |some e=>
    have e1:aG (ind++Ah)=Ah:=jR hi (by decide)
    rw[e1]
    rfl
  ·rw[(kP h0).2.2]
   exact fc hi h0 hr
end
section
variable {n:Nat} {E:Ĩ} {Q:QT} {H:AH}
theorem Sr {k:Nat}(h:k<11):k=0∨k=1∨k=2∨k=3∨k=4∨k=5∨k=6∨k=7∨k=8∨k=9∨k=10:=(by decide:∀k<11,k=0∨k=1∨k=2∨k=3∨k=4∨k=5∨k=6∨k=7∨k=8∨k=9∨k=10) k h
theorem Fz {k:Nat}(hk:k<11){g:List Nat}(hg:g.length<=1000)(q:Q (.tup [.str (lF k g),cq (BU k g)]) H):Call (ú (n+1)) E 60 Q [.int (k:Int),.str g] H:=by
 have h2:∀a b:Nat,a<=1000->b<=1000->a+g.length+b<=ę:=λa b h1 h2=>À (Ë (Ë h1 hg) h2) (by decide)
 rcases Sr hk with rfl|rfl|rfl|rfl|rfl|rfl|rfl|rfl|rfl|rfl|rfl
 ·exact call rfl q
 ·exact call rfl q
 ·exact call rfl (č (À (Ï ..) (h2 _ 0 (by decide) (by decide))) (č (by rw[Ã];exact h2 _ _ (by decide) (by decide)) q))
 ·exact call rfl (č (À (Ï ..) (h2 _ 0 (by decide) (by decide))) (č (by rw[Ã];exact h2 _ _ (by decide) (by decide)) q))
 ·exact call rfl q
 ·exact call rfl q
 ·exact call rfl q
 ·exact call rfl q
 ·exact call rfl q
 ·exact call rfl q
 ·exact call rfl q
end
noncomputable abbrev HS (cells:List Int)(at_:Nat)(rows:List (List Nat))(cd:List (List Nat×Bool))(df:List (List Nat×List Nat))(ops:List (List Nat))(dr:List cD)(L:AH)(sc:List (List Int×Nat)):AH:=LH cells at_ rows cd df ops dr (L++[some (.list (sc.map cM))])
section
variable {n:Nat} {E:Ĩ} {Q:QT} {cells:List Int} {at_:Nat} {rows:List (List Nat)} {cd:List (List Nat×Bool)} {df:List (List Nat×List Nat)} {ops:List (List Nat)} {dr:List cD} {L:AH} {sc:List (List Int×Nat)}
theorem Àq:(LH cells at_ rows cd df ops dr L).length=L.length+6:=rfl
theorem Kx:(HS cells at_ rows cd df ops dr L sc)[L.length+6]? =some (some (.list (sc.map cM))):=by
 show (L++[some (O.list (sc.map cM))])[L.length]? =_
 exact ć
theorem Lu {x:List V}{sc':List (List Int×Nat)}(h:x=sc'.map cM):(HS cells at_ rows cd df ops dr L sc).set (L.length+6) (some (.list x))=HS cells at_ rows cd df ops dr L sc':=by
 subst h
 show some _::some _::some _::some _::some _::some _::(L++[some (O.list (sc.map cM))]).set L.length _=_
 rw[cv];rfl
theorem apS {s:List Int×Nat}(hb:sc.length<=small)(q:Q .none (HS cells at_ rows cd df ops dr L (sc++[s]))):oj 0 (L.length+6) [cM s] (HS cells at_ rows cd df ops dr L sc) Q:=
 eK Kx (by rw[Â];exact Í hb (by decide)) (by rw[Lu (sc':=sc++[s]) (by rw[Ú];rfl)];exact q)
theorem Kr:fB (.obj (L.length+6)) (HS cells at_ rows cd df ops dr L sc)=some (!sc.isEmpty):=by rw[z6 Kx,İ]
end
noncomputable abbrev cH (ends:Option (Nat×Nat))(L:AH)(cd:List (List Nat×Bool))(num kind man text form one two out plc hd own y18 y19 y20 y21 y22 y23 y24 y25:Option V):Loc:=[some (.obj 0),some (.obj 1),some (.obj 2),some (.obj 5),some (ŧ ends),some (.obj (L.length+6)),some (.int (cd.length:Int)),num,kind,man,text,form,one,two,out,plc,hd,own,y18,y19,y20,y21,y22,y23,y24,y25]
noncomputable abbrev Ĳ:List PS:=hZ wI 3
noncomputable abbrev rT:List PS:=sD Ĳ 15
section
variable {n a b k:Nat} {H:AH} {E:Ĩ} {Q:QT} {K:ST} {cells:List Int} {at_:Nat} {rows:List (List Nat)} {cd:List (List Nat×Bool)} {df:List (List Nat×List Nat)} {op:Bool} {ops:List (List Nat)} {dr:List cD} {L:AH} {sc:List (List Int×Nat)} {ends:Option (Nat×Nat)} {ind ht:List Nat} {own:List Int} {one two:Nat} {pat:Option (List Nat)} {num kind man form y18 y19 y20 y21 y22 y23 y24 y25:Option V}
def i3 (n:Nat)(E:Ĩ)(K:ST)(cells:List Int)(at_:Nat)(rows:List (List Nat))(cd:List (List Nat×Bool))(df:List (List Nat×List Nat))(op:Bool)(ops:List (List Nat))(dr:List cD)(L:AH)(sc:List (List Int×Nat))(ends:Option (Nat×Nat))(k:Nat):Prop:=
 ∀(w:List Nat) (place:Nat) (RU:List cD) (sc':List (List Int×Nat)) (at':Nat) (num kind man form one two out hd own y18 y19 y20 y21 y22 y23 y24 y25:Option V),dZ w=true->bx cd.length (k+1) sc'->dh cd df op (rows.length+1) dr sc w place RU sc'->RU.length<=dr.length+1->(∀d∈RU,d∈dr∨Cp d)->sc'.length<=sc.length+1->at'<=at_->
  ì (ú n) (Ĳ.drop 16) (cH ends L cd num kind man (some (.str w)) form one two out (some (.int (place:Int))) hd own y18 y19 y20 y21 y22 y23 y24 y25) E (HS cells at' rows cd df ops RU L sc') K
structure TF (cells:List Int)(at_:Nat)(rows:List (List Nat))(cd:List (List Nat×Bool))(dr:List cD)(sc:List (List Int×Nat))(k:Nat)(ind ht:List Nat)(own:List Int)(two:Nat):Prop where
 hc:Ű cells
 ha:at_<=800
 gc:GoodC cd
 hk:12*k<=900
 hs:bx cd.length k sc
 hi:ind∈cp
 hh:o5 cd ht own
 ho:fx 18 ht
 h2:two<cd.length
 hr:rows.length<=1000
 hd:dr.length<=1000
 hl:sc.length<=1000
theorem a7 {x y:List Nat}(hx:fx a x)(hy:fx b y)(h:a+b<=ę)(q:Q (.str (x++y)) H):sZ x y H Q:=č (À (Ë hx.2 hy.2) h) q
theorem Ef {x y:List Int}(h:x.length+y.length<=ę)(q:Q (.lst ((x++y).map .int)) H):qy (.lst (x.map .int)) (.lst (y.map .int)) H Q:=
 tM (by rw[Â,Â];exact h) (by rw[Ú] at q;exact q)
theorem JI {l:List V}:bh .eq (.lst l) (.lst []) H=some l.isEmpty:=by
 cases l with
 |nil=>rfl
 |cons a l=>rfl
noncomputable def TN:Option (List Nat)->V
 |none=> .none
 |some r=> .str r
theorem dz (h:k<cd.length):∃b,(cd.map Ň)[k]? =some (.tup [.str (nameAt cd k),.bool b])∧cd[k]? =some (nameAt cd k,b):=by
 refine⟨cd[k].2,?_,?_⟩
 ·rw[Ü,nameAt,ù,Ç h];rfl
 ·rw[nameAt,ù,Ç h];rfl
theorem FQ {i:Nat}(h:i<3):∃g∈lM,([.str [32],.str [9,32],.str [32,9]]:List V)[i]? =some (.str g):=by
 rcases (by decide:∀k<3,k=0∨k=1∨k=2) i h with rfl|rfl|rfl
 ·exact⟨cs " ",by decide,rfl⟩
 ·exact⟨cs "\t ",by decide,rfl⟩
 ·exact⟨cs " \t",by decide,rfl⟩
theorem pK (h:bx cd.length k sc):(ĳ sc).length<=12*k:=(cz h).2
theorem TF.own_len (T:TF cells at_ rows cd dr sc k ind ht own two):own.length<=12:=(T.hh.len T.gc).1
theorem TF.all_len (T:TF cells at_ rows cd dr sc k ind ht own two):(ĳ sc).length+own.length<=912:=Ë (À (pK T.hs) T.hk) T.own_len
theorem TF.due (T:TF cells at_ rows cd dr sc k ind ht own two):vC (aM cd (ĳ sc++own))=true:=by
 have h:=qV (qZ (cz T.hs).1 (T.hh.len T.gc).2)
 exact h.1.ok T.gc.g.len (À h.2 (by rw[Ã];exact À (Ë T.all_len T.gc.g.len) (by decide)))
theorem yp (T:TF cells at_ rows cd dr sc k ind ht own two)(ha:a<=at_+3){w:List Nat}{sj:Option (List St)}{out:Option V}{x:List Int}(hx:x=aM cd (ĳ sc++own))(hw:dZ w=true)(hR:dh cd df op (rows.length+1) dr sc w (Ž ind sc) (dr++[⟨Ē (aM cd (ĳ sc++own)),pat,sj,rows.length+1⟩]) sc)(kq:∀ss,sj=some ss->ss.length<=3)(fin:i3 n E K cells (at_+3) rows cd df op ops dr L sc ends k){one two h1 h2:Option V}:
 ì (ú n) (rT.drop 8) (cH ends L cd num kind man (some (.str w)) form one two out (some (.int (Ž ind sc:Nat))) h1 h2 y18 (some (aQ pat)) y20 y21 (some (cq sj)) (some (.lst (x.map .int))) y24 y25) E (HS cells a rows cd df ops dr L sc) (iL (ì (ú n) (Ĳ.drop 16)) E K):=by
 subst hx
 refine bL RD rfl (KQ T.due (fV vf (ň (z:=((rows.length+1:Nat):Int)) (by rw[Â];rfl) (ap5 (e:=⟨_,pat,sj,rows.length+1⟩) (À T.hd (by decide)) ?_))))
 exact fin _ _ _ sc _ _ _ _ _ _ _ _ _ _ _ _ _ _ _ _ _ _ hw (T.hs.up (å _)) hR cC (λd hd=>(ö.mp hd).imp id λh=>by rw[Ô.mp h];exact kq) (å _) ha
theorem yq (T:TF cells at_ rows cd dr sc k ind ht own two)(ha:a<=at_+3){w:List Nat}{sj:Option (List St)}(hw:dZ w=true)(hR:dh cd df op (rows.length+1) dr sc w (Ž ind sc) (dr++[⟨Ē (aM cd (ĳ sc++own)),pat,sj,rows.length+1⟩]) sc)(kq:∀ss,sj=some ss->ss.length<=3)(fin:i3 n E K cells (at_+3) rows cd df op ops dr L sc ends k){one two hd:Option V}:
 ì (ú n) (rT.drop 6) (cH ends L cd num kind man (some (.str w)) form one two (some (.lst ((ĳ sc).map .int))) (some (.int (Ž ind sc:Nat))) hd (some (.lst (own.map .int))) y18 (some (aQ pat)) y20 y21 (some (cq sj)) y23 y24 y25) E (HS cells a rows cd df ops dr L sc) (iL (ì (ú n) (Ĳ.drop 16)) E K):=by
 refine Ef (À T.all_len (by decide)) (bo JI (bC (λh=> ?_) λh=> ?_))
 ·have hb:cd.length<=ę:=À T.gc.g.len (by decide)
  have hx:Ţ cd=aM cd (ĳ sc++own):=by
   rw[İ] at h
   unfold aM;rw[ř.mp h];rfl
  refine eR hb (eh (dk cd) (cg hb) trivial (by unfold fS;rw[Â,aY];exact hb) (by rw[fg];exact yp T ha hx hw hR kq fin) λy hy K k=> ?_)
  obtain⟨j,hj,rfl⟩:=Þ.mp hy
  have j9:j<cd.length:=(Ľ cd.length▸(dI.mp hj).2:j<cd.length)
  have iR:(cd.map Ň)[j]? =some (Ň cd[j]):=by rw[Ü,Ç j9];rfl
  have hk:dk cd (.int (j:Int))=if cd[j].2 then none else some (.int (j:Int)):=by
   refine (È (Option.map V.int) (tx j9)).trans ?_
   cases cd[j].2<;>rfl
  rw[hk] at k
  exact gB zU (dm iR (gC (P:=λz=>K z (HS cells a rows cd df ops dr L sc)) k (λk _=>k) λk _=>k))
 ·refine yp T ha ?_ hw hR kq fin
  rw[İ] at h
  unfold aM
  cases Xx:ĳ sc++own with
  |nil=>rw[Xx] at h;contradiction
  |cons x l=>rfl
theorem yr (T:TF cells at_ rows cd dr sc k ind ht own two)(ha:a<=at_+1)(hp:tP ht pat)(fin:i3 (n+1) E K cells (at_+3) rows cd df op ops dr L sc ends k){one:Option V}:
 ì (ú (n+1)) (rT.drop 3) (cH ends L cd num kind man (some (.str ind)) form one (some (.int (two:Int))) (some (.lst ((ĳ sc).map .int))) (some (.int (Ž ind sc:Nat))) (some (.str ht)) (some (.lst (own.map .int))) (some (TN pat)) (some (aQ pat)) y20 y21 y22 y23 y24 y25) E (HS cells a rows cd df ops dr L sc) (iL (ì (ú (n+1)) (Ĳ.drop 16)) E K):=by
 have ha9:a<=900:=À ha (À (Ì T.ha) (by decide))
 obtain⟨b2,g2,_⟩:=dz T.h2
 have na:=T.gc.na T.h2
 have n2:(nameAt cd two).length<=7:=(a8 na.m []).2.2.1
 refine š (lim:=3) T.hc (À ha9 (by decide)) (by decide) λgi hg=> ?_
 obtain⟨gap,VA,hgg⟩:=FQ hg
 refine Ĕ hgg (š (lim:=11) T.hc (À (Ì ha9) (by decide)) (by decide) λj hj=> ?_)
 refine gB zU (dm g2 (Fz hj (À n2 (by decide)) ?_))
 have ew:ind++ht++ž pat++gap++lF j (nameAt cd two)=ind++(ht++(ž pat++(gap++lF j (nameAt cd two)))):=by rw[Æ,Æ,Æ]
 have hR:=w0 (df:=df) (op:=op) (n:=rows.length+1) (ldr:=dr) T.gc T.hk T.hs T.hi T.hh hp VA hj na.m na.c
 rw[←ew] at hR
 have o1:=(cO T.hi).app T.ho
 have op:=Dj (λr h=>(hp.m r h).1)
 have o2:=o1.app op
 have o3:=o2.app (qS VA)
 have ow:=(KM na.m hj).1
 have hw:dZ (ind++ht++ž pat++gap++lF j (nameAt cd two))=true:=(o3.app ow).w (by decide)
 refine a7 (cO T.hi) T.ho (by decide) ?_
 cases pat with
 |none=>exact a7 o1 op (by decide) (a7 o2 (qS VA) (by decide) (a7 o3 ow (by decide) (yq T (Ì (Ì ha)) hw hR (λss h=>q9 hj h) fin)))
 |some r=>exact a7 o1 op (by decide) (a7 o2 (qS VA) (by decide) (a7 o3 ow (by decide) (yq T (Ì (Ì ha)) hw hR (λss h=>q9 hj h) fin)))
end
noncomputable abbrev XY:List (List Nat):=[[60,67,62,97,32,115,107,105,112],[60,73,78,73,84,73,65,76,32,97,32,115,107,105,112]]
noncomputable abbrev JZ:List PS:=BW (BW (BW Ĳ 15) 0) 0
section
variable {n a b k:Nat} {H:AH} {E:Ĩ} {Q:QT} {K:ST} {cells:List Int} {at_:Nat} {rows:List (List Nat)} {cd:List (List Nat×Bool)} {df:List (List Nat×List Nat)} {op:Bool} {ops:List (List Nat)} {dr:List cD} {L:AH} {sc:List (List Int×Nat)} {ends:Option (Nat×Nat)} {ind ht:List Nat} {own:List Int} {one two:Nat} {num kind man form y10 y18 y19 y20 y21 y22 y23 y24 y25:Option V}
theorem Gx {i:Nat}(h:i<13):CL[i]? =some (.tup [.str (ş i),.int (dg i:Nat)]):=by
 have hl:i<HJ.length:=h
 rw[Gy,Ü,ş,dg,ù,Ç hl];rfl
theorem N9 {k:List Nat}{l:List (List Nat)}:bh .nin (.str k) (.tup (l.map .str)) H=some (!l.contains k):=by
 show (qr (.str k) (l.map .str)).map _=_
 rw[jZ];rfl
theorem Pm:∀{j:Nat},j<13->XY.contains (ş j)=decide (11<=j):=by
 have h2:((List.range 13).all λj=>XY.contains (ş j)==decide (11<=j))=true:=by kernel_rfl
 exact λ{j} h=>è.mp (É.mp h2 j (Ö.mpr h))
theorem UC {x:Nat}{r:Bool}(h:((x:Int)==0)=r):(x==0)=r:=by
 subst h
 cases x with
 |zero=>rfl
 |succ x=>rfl
theorem Eb {r:Bool}(h:((Ž ind sc:Int)==0)=r):r=true∧Ž ind sc=0∨r=false∧Ž ind sc≠0:=by
 have:=UC h
 cases r with
 |true=>exact .inl ⟨rfl,è.mp this⟩
 |false=>exact .inr ⟨rfl,λz=>by rw[z] at this;contradiction⟩
theorem Àe {Φ:Ď}{i:Nat}{v:V}{r:List PS}{ρ:Loc}{K:ST}(q:iL (ì Φ r) E K .next (sL ρ i v) H):L8 (ì Φ (.assign i (.lit v)::r) ρ E) K H:=q
theorem xS (T:TF cells at_ rows cd dr sc k ind ht own two){kd:Nat}(h6:decide ((kd:Int)<6)=true)(h5:decide ((kd:Int)<5)=true)(fin:i3 (n+1) E K cells (at_+3) rows cd df op ops dr L sc ends k){one:Option V}:
 ì (ú (n+1)) (Ĳ.drop 15) (cH ends L cd num (some (.int (kd:Int))) man (some (.str ind)) form one (some (.int (two:Int))) (some (.lst ((ĳ sc).map .int))) (some (.int (Ž ind sc:Nat))) (some (.str ht)) (some (.lst (own.map .int))) y18 y19 y20 y21 y22 y23 y24 y25) E (HS cells at_ rows cd df ops dr L sc) K:=by
 refine ift h6 (ift h5 (š (lim:=16) T.hc (À T.ha (by decide)) (by decide) λri hri=>Ĕ (m7 hri) ?_))
 have Xg:=t9 hri
 obtain⟨raw,YY⟩:∃r,r=Ů.getD ri []:=⟨_,rfl⟩
 rw[←YY] at Xg⊢
 have go:∀Hl,tP ht (some Hl)->_:=λHl hp=>yr (num:=num) (kind:=some (.int (kd:Int))) (man:=man) (form:=form) (one:=one) (y20:=y20) (y21:=y21) (y22:=y22) (y23:=y23) (y24:=y24) (y25:=y25) T (Å _) hp fin
 refine bC (λh=>bo (CB (l:=Cq)) (bC (λh2=> ?_) λh2=> ?_)) λh=> ?_
 ·exact Àe (go (cs "a") ⟨λr hr=>by obtain rfl:=Ä hr;exact⟨by decide,λ_=>by decide⟩⟩)
 ·exact go raw ⟨λr hr=>by obtain rfl:=Ä hr;exact⟨Xg,λ_ z=>by rw[â.mpr z] at h2;contradiction⟩⟩
 ·exact go raw ⟨λr hr=>by obtain rfl:=Ä hr;exact⟨Xg,λz=>by rw[z] at h;contradiction⟩⟩
theorem CX (T:TF cells at_ rows cd dr sc k ind ht own two)(ha:a<=at_+3){j:Nat}(hj:j<13){w1:List Nat}(Xf:fx 40 w1)(hR:dh cd df op (rows.length+1) dr sc (w1++ş j) (if Ž ind sc=0 then w1.length+dg j else Ž ind sc) dr sc)(fin:i3 n E K cells (at_+3) rows cd df op ops dr L sc ends k){one two out hd own:Option V}:
 ì (ú n) ((sD (BW Ĳ 15) 0).drop 2) (cH ends L cd num kind man (some (.str w1)) form one two out (some (.int (Ž ind sc:Nat))) hd own y18 y19 y20 y21 y22 y23 (some (.str (ş j))) (some (.int (dg j:Nat)))) E (HS cells a rows cd df ops dr L sc) (iL (ì (ú n) []) E (iL (ì (ú n) (Ĳ.drop 16)) E K)):=by
 have Xo:=J5 hj
 have hw:dZ (w1++ş j)=true:=(Xf.app Xo).w (by decide)
 refine bC (λh=>ň (z:=((w1.length+dg j:Nat):Int)) rfl (a7 Xf Xo (by decide) ?_)) λh=>a7 Xf Xo (by decide) ?_
 ·rcases Eb h with ⟨_,h0⟩|⟨z,_⟩
  ·rw[Î h0] at hR
   exact fin _ _ dr sc _ _ _ _ _ _ _ _ _ _ _ _ _ _ _ _ _ _ hw (T.hs.up (å _)) hR (å _) (λd hd=> .inl hd) (å _) ha
  ·contradiction
 ·rcases Eb h with ⟨z,_⟩|⟨_,h0⟩
  ·contradiction
  ·rw[Ñ h0] at hR
   exact fin _ _ dr sc _ _ _ _ _ _ _ _ _ _ _ _ _ _ _ _ _ _ hw (T.hs.up (å _)) hR (å _) (λd hd=> .inl hd) (å _) ha
theorem Ti (T:TF cells at_ rows cd dr sc k ind ht own two)(fin:i3 (n+1) E K cells (at_+3) rows cd df op ops dr L sc ends k){one:Option V}:
 ì (ú (n+1)) (Ĳ.drop 15) (cH ends L cd num (some (.int (6:Nat))) man (some (.str ind)) form one (some (.int (two:Int))) (some (.lst ((ĳ sc).map .int))) (some (.int (Ž ind sc:Nat))) (some (.str ht)) (some (.lst (own.map .int))) y18 y19 y20 y21 y22 y23 y24 y25) E (HS cells at_ rows cd df ops dr L sc) K:=by
 refine š (lim:=13) T.hc (À T.ha (by decide)) (by decide) λj hj=>Ĕ (Gx hj) (bo (N9 (l:=XY)) ?_)
 rw[Pm hj]
 refine bC (λh=>a7 (cO T.hi) T.ho (by decide) ?_) λh=> ?_
 ·have j9:j<11:=ÁY.mp λz=>by rw[bV z] at h;contradiction
  refine CX T (Ý (by decide) _) hj (((cO T.hi).app T.ho).mono (by decide)) ?_ fin
  have hR:=AG (df:=df) (op:=op) (n:=rows.length+1) (ldr:=dr) (ldr':=dr) (sc':=sc) T.gc T.hk T.hs T.hi T.hh j9
  rw[←Æ] at hR
  exact hR
 ·have j9:11<=j:=Ā (by cases hd:decide (11<=j) with|true=>rfl|false=>rw[hd] at h;contradiction)
  exact CX T (Ý (by decide) _) hj ((cO T.hi).mono (by decide)) (w3 T.gc T.hi ((by decide:∀j<13,11<=j->j=11∨j=12) j hj j9)) fin
theorem Ni (T:TF cells at_ rows cd dr sc k ind ht own two)(h7:own≠[])(fin:i3 n E K cells (at_+3) rows cd df op ops dr L sc ends k){one two:Option V}:
 ì (ú n) (Ĳ.drop 15) (cH ends L cd num (some (.int (7:Nat))) man (some (.str ind)) form one two (some (.lst ((ĳ sc).map .int))) (some (.int (Ž ind sc:Nat))) (some (.str ht)) (some (.lst (own.map .int))) y18 y19 y20 y21 y22 y23 y24 y25) E (HS cells at_ rows cd df ops dr L sc) K:=by
 have o2:fx 2 (cs "{ "):=ţ (by decide)
 have o1:=(cO T.hi).app T.ho
 refine a7 (cO T.hi) T.ho (by decide) (a7 o1 o2 (by decide) (bL Kx rfl (Ef (À T.all_len (by decide)) (fV vf (ň (z:=((rows.length+1:Nat):Int)) (by rw[Â];rfl) (apS (s:=(_,rows.length+1)) (À T.hl (by decide)) ?_))))))
 have hR:=w2 (df:=df) (op:=op) (n:=rows.length+1) (ldr:=dr) T.gc T.hk T.hs T.hi T.hh h7
 rw[←Æ] at hR
 refine fin _ _ dr _ _ _ _ _ _ _ _ _ _ _ _ _ _ _ _ _ _ _ ((o1.app o2).w (by decide)) (λz hz=> ?_) hR (å _) (λd hd=> .inl hd) cC (Ï ..)
 rcases ö.mp hz with hz|hz
 ·exact (T.hs.up (å k)) z hz
 ·rw[Ô.mp hz]
  exact⟨qZ (cz T.hs).1 (T.hh.len T.gc).2,by rw[Ã];exact Ë (pK T.hs) T.own_len⟩
theorem YF {z:List Int×Nat}(h:sc.getLast? =some z)(q:Q (cM z) (HS cells at_ rows cd df ops dr L sc.dropLast)):oj 6 (L.length+6) [] (HS cells at_ rows cd df ops dr L sc) Q:=
 K9 Kx (ir h) (by rw[Lu (sc':=sc.dropLast) vx.symm];exact q)
theorem yu (T:TF cells at_ rows cd dr sc k ind ht own two){kd:Nat}(c:Bool)(e6:(kd:Int)-6=((if c then 3 else 2:Nat):Int))(h0:sc=[]->ind=[])(fin:i3 n E K cells (at_+3) rows cd df op ops dr L sc ends k){one two out h1 h2:Option V}:
 ì (ú n) ((sD JZ 0).drop 1) (cH ends L cd num (some (.int (kd:Int))) man (some (.str (ind++ej c))) form one two out (some (.int (Ž ind sc:Nat))) h1 h2 y18 y19 y20 y21 y22 y23 y24 y25) E (HS cells at_ rows cd df ops dr L sc) (iL (ì (ú n) []) E (iL (ì (ú n) []) E (iL (ì (ú n) []) E (iL (ì (ú n) (Ĳ.drop 16)) E K)))):=by
 have hw:dZ (ind++ej c)=true:=((cO T.hi).app (by cases c<;>exact ţ (by decide):fx 2 (ej c))).w (by decide)
 refine bo Kr (bC (λh=> ?_) λh=> ?_)
 ·have sE:sc≠[]:=λz=>by rw[z] at h;contradiction
  refine bL Kx rfl (YF (List.getLast?_eq_some_getLast sE) ?_)
  have e0:Ž ind sc=0:=Ñ λz=>sE z.2
  rw[e0]
  exact fin _ 0 dr _ _ _ _ _ _ _ _ _ _ _ _ _ _ _ _ _ _ _ hw (λz hz=>(T.hs.up (å k)) z ((ez _).subset hz)) (lx c T.hi sE) (å _) (λd hd=> .inl hd) (by rw[oz];exact À (Ō ..) (å _)) (Ï ..)
 ·have sE:sc=[]:=ř.mp (by cases hz:sc.isEmpty with|true=>rfl|false=>rw[hz] at h;contradiction)
  subst sE
  have hi:=h0 rfl
  subst hi
  refine li e6 ?_
  exact fin _ _ dr [] _ _ _ _ _ _ _ _ _ _ _ _ _ _ _ _ _ _ hw (T.hs.up (å k)) (rZ c T.gc) (å _) (λd hd=> .inl hd) (å _) (Ï ..)
theorem t_D (T:TF cells at_ rows cd dr sc k ind ht own two){kd br:Nat}(hk:kd<11)(h4:kd≠4)(Kz:3<br->ind=[])(Vv:kd=8∨kd=9->sc=[]->ind=[])(h7:kd=7->own≠[])(fin:i3 (n+1) E K cells (at_+3) rows cd df op ops dr L sc ends k){one:Option V}:
 ì (ú (n+1)) (Ĳ.drop 15) (cH ends L cd num (some (.int (kd:Int))) (some (.int (br:Int))) (some (.str ind)) form one (some (.int (two:Int))) (some (.lst ((ĳ sc).map .int))) (some (.int (Ž ind sc:Nat))) (some (.str ht)) (some (.lst (own.map .int))) y18 y19 y20 y21 y22 y23 y24 y25) E (HS cells at_ rows cd df ops dr L sc) K:=by
 rcases Sr hk with rfl|rfl|rfl|rfl|rfl|rfl|rfl|rfl|rfl|rfl|rfl
 ·exact xS T rfl rfl fin
 ·exact xS T rfl rfl fin
 ·exact xS T rfl rfl fin
 ·exact xS T rfl rfl fin
 ·exact (h4 rfl).elim
 ·exact yr (pat:=none) T (å _) ⟨nofun⟩ fin
 ·exact Ti T fin
 ·exact Ni T (h7 rfl) fin
 ·exact li rfl (a7 (b:=2) (cO T.hi) (ţ (by decide)) (by decide) (yu (kd:=8) T false rfl (Vv (.inl rfl)) fin))
 ·exact li rfl (a7 (b:=2) (cO T.hi) (ţ (by decide)) (by decide) (yu (kd:=9) T true rfl (Vv (.inr rfl)) fin))
 ·refine bC (λh=> ?_) λh=> ?_
  ·have hi:=Kz (ï.mp (Ā h))
   subst hi
   exact č (by decide) (fin [9] 0 dr sc _ _ _ _ _ _ _ _ _ _ _ _ _ _ _ _ _ _ (by decide) (T.hs.up (å k)) uX (å _) (λd hd=> .inl hd) (å _) (Ï ..))
  ·have o4:fx 4 Ah:=ţ (by decide)
   exact a7 (cO T.hi) o4 (by decide) (fin _ _ dr sc _ _ _ _ _ _ _ _ _ _ _ _ _ _ _ _ _ _ (((cO T.hi).app o4).w (by decide)) (T.hs.up (å k)) (AF T.hi) (å _) (λd hd=> .inl hd) (å _) (Ï ..))
end
theorem C7 {Φ:Ď}{E:Ĩ}:∀(a b:List PS) {ρ:Loc} {H:AH} {Q:ST},ì Φ (a++b) ρ E H Q=ì Φ a ρ E H (iL (ì Φ b) E Q)
 |[],b,ρ,H,Q=>rfl
 |s::a,b,ρ,H,Q=>È (wpS Φ s ρ E H) (funext λfl=>funext λρ=>funext λH=>match fl with
  | .next=>C7 a b
  | .brk=>rfl
  | .cont=>rfl
  | .ret v=>rfl)
theorem aP {Φ:Ď}{E:Ĩ}(i:Nat){l:List PS}{ρ:Loc}{H:AH}{Q:ST}(q:ì Φ (l.take i) ρ E H (iL (ì Φ (l.drop i)) E Q)):ì Φ l ρ E H Q:=by
 rw[←C7,Ŗ] at q
 exact q
section
variable {n a b k:Nat} {H:AH} {E:Ĩ} {Q:QT} {K:ST} {cells:List Int} {at_:Nat} {rows:List (List Nat)} {cd:List (List Nat×Bool)} {df:List (List Nat×List Nat)} {op:Bool} {ops:List (List Nat)} {dr:List cD} {L:AH} {sc:List (List Int×Nat)} {ends:Option (Nat×Nat)} {ind ht:List Nat} {own:List Int} {num kind man:Option V} {y8 y9 y10 y11 y12 y13 y14 y15 y16 y17 y18 y19 y20 y21 y22 y23 y24 y25:Option V}
theorem YL {k:Nat}(h:k<12):k<8∧k≠4∨k=4∨k=8∨k=9∨k=10∨k=11:=(by decide:∀k<12,k<8∧k≠4∨k=4∨k=8∨k=9∨k=10∨k=11) k h
theorem t_A (hc:Ű cells)(ii:at_<=800)
 (k:∀kd br:Nat,kd<11->kd≠4->br<6->(kd=8∨kd=9->sc=[]->br=0)->K .next (cH ends L cd num (some (.int (kd:Int))) (some (.int (br:Int))) y10 y11 y12 y13 y14 y15 y16 y17 y18 y19 y20 y21 y22 y23 y24 y25) (HS cells (at_+2) rows cd df ops dr L sc)):
 ì (ú (n+1)) (Ĳ.take 4) (cH ends L cd num y8 y9 y10 y11 y12 y13 y14 y15 y16 y17 y18 y19 y20 y21 y22 y23 y24 y25) E (HS cells at_ rows cd df ops dr L sc) K:=by
 refine š (lim:=12) hc (À ii (by decide)) (by decide) λkd hk=>š (lim:=6) hc (À (Ì ii) (by decide)) (by decide) λm hm=> ?_
 have no:∀{kd:Nat},¬(kd=8∨kd=9)->(kd=8∨kd=9->sc=[]->m=0):=λh z=>(h z).elim
 have z89:(sc=[]->0<m->False)->sc=[]->m=0:=λh z=>Rj (h z)
 rcases YL hk with h|rfl|rfl|rfl|rfl|rfl
 ·rcases lt8 h.1 with rfl|rfl|rfl|rfl|rfl|rfl|rfl|rfl
  ·exact k 0 m (by decide) (by decide) hm (no (by decide))
  ·exact k 1 m (by decide) (by decide) hm (no (by decide))
  ·exact k 2 m (by decide) (by decide) hm (no (by decide))
  ·exact k 3 m (by decide) (by decide) hm (no (by decide))
  ·exact (h.2 rfl).elim
  ·exact k 5 m (by decide) (by decide) hm (no (by decide))
  ·exact k 6 m (by decide) (by decide) hm (no (by decide))
  ·exact k 7 m (by decide) (by decide) hm (no (by decide))
 ·exact k 7 m (by decide) (by decide) hm (no (by decide))
 ·refine bo rfl (ar rfl (bo rfl (ift rfl (bo Kr (bC (λh=> ?_) λh=> ?_)))))
  ·refine bC (λh2=>k 0 m (by decide) (by decide) hm (no (by decide))) λh2=>k 8 m (by decide) (by decide) hm λ_=>z89 λ_ z=> ?_
   exact iI h2 (ï.mpr z)
  ·exact k 8 m (by decide) (by decide) hm λ_ z=>by rw[z] at h;contradiction
 ·refine bo rfl (ar rfl (bo rfl (ift rfl (bo Kr (bC (λh=> ?_) λh=> ?_)))))
  ·refine bC (λh2=>k 0 m (by decide) (by decide) hm (no (by decide))) λh2=>k 9 m (by decide) (by decide) hm λ_=>z89 λ_ z=> ?_
   exact iI h2 (ï.mpr z)
  ·exact k 9 m (by decide) (by decide) hm λ_ z=>by rw[z] at h;contradiction
 ·exact k 10 m (by decide) (by decide) hm (no (by decide))
 ·exact k 0 m (by decide) (by decide) hm (no (by decide))
theorem t_C (sH:GoodC cd){kd one two form:Nat}(hf:form<5)(h1:one<cd.length)(h2:two<cd.length)
 (k:∀(ht:List Nat) (own:List Int),o5 cd ht own->fx 18 ht->(kd=7->own≠[])->K .next (cH ends L cd num (some (.int (kd:Int))) y9 y10 (some (.int (form:Int))) (some (.int (one:Int))) (some (.int (two:Int))) y14 y15 (some (.str ht)) (some (.lst (own.map .int))) y18 y19 y20 y21 y22 y23 y24 y25) (HS cells at_ rows cd df ops dr L sc)):
 ì (ú n) ((Ĳ.drop 12).take 3) (cH ends L cd num (some (.int (kd:Int))) y9 y10 (some (.int (form:Int))) (some (.int (one:Int))) (some (.int (two:Int))) y14 y15 (some (.str [])) (some (.lst [])) y18 y19 y20 y21 y22 y23 y24 y25) E (HS cells at_ rows cd df ops dr L sc) K:=by
 obtain⟨b1,g1,_⟩:=dz h1
 obtain⟨b2,g2,_⟩:=dz h2
 have n1:fx 7 (nameAt cd one):=⟨(a8 (sH.na h1).m []).2.2.2.2,(a8 (sH.na h1).m []).2.2.1⟩
 have n2:fx 7 (nameAt cd two):=⟨(a8 (sH.na h2).m []).2.2.2.2,(a8 (sH.na h2).m []).2.2.1⟩
 have c1:fx 1 [60]:=ţ (by decide)
 have c2:fx 1 [62]:=ţ (by decide)
 have c3:fx 1 [44]:=ţ (by decide)
 have hb:cd.length<=ę:=À sH.g.len (by decide)
 have HX:av cd.length≠[]:=λz=>by
  have z:=È List.length z
  unfold av at z
  rw[Â,bK] at z
  exact absurd sH.g.pos (by rw[z];decide)
 have star:=k o9 _ .star (ţ (by decide)) (λ_=>HX)
 have nil:kd≠7->_:=λh=>k [] [] .none (ţ (by decide)) (λz=>(h z).elim)
 have ne7:((kd:Int)==7)=false->kd≠7:=λh z=>by rw[z] at h;contradiction
 rcases (by decide:∀k<5,k=0∨k=1∨k=2∨k=3∨k=4) form hf with rfl|rfl|rfl|rfl|rfl
 ·exact bC (λh=>eR hb (x5 hb star)) λh=>nil (ne7 h)
 ·exact bC (λh=>eR hb (x5 hb star)) λh=>nil (ne7 h)
 ·exact eR hb (x5 hb star)
 ·refine gB zU (dm g1 (a7 c1 n1 (by decide) (a7 (c1.app n1) c2 (by decide) ?_)))
  exact k (iZ cd [one]) _ (.told [one] nofun (show 1<=12 by decide) (λk h=>Ô.mp h▸h1)) (((c1.app n1).app c2).mono (by decide)) (λ_=>nofun)
 ·refine gB zU (dm g1 (a7 c1 n1 (by decide) (a7 (c1.app n1) c3 (by decide) (gB zU (dm g2 (a7 ((c1.app n1).app c3) n2 (by decide) (a7 (((c1.app n1).app c3).app n2) c2 (by decide) ?_)))))))
  have e:[60]++nameAt cd one++[44]++nameAt cd two++[62]=iZ cd [one,two]:=by
   show _=[60]++(nameAt cd one++[44]++nameAt cd two++[62])
   rw[←Æ,←Æ,←Æ]
  have o:=((((c1.app n1).app c3).app n2).app c2)
  rw[e] at o⊢
  exact k (iZ cd [one,two]) _ (.told [one,two] nofun (show 2<=12 by decide) (λk h=>by
   rcases Û.mp h with h|h
   ·exact h▸h1
   ·exact Ô.mp h▸h2)) (o.mono (by decide)) (λ_=>nofun)
end
section
variable {n a b k:Nat} {H:AH} {E:Ĩ} {Q:QT} {K:ST} {cells:List Int} {at_:Nat} {rows:List (List Nat)} {cd:List (List Nat×Bool)} {df:List (List Nat×List Nat)} {op:Bool} {ops:List (List Nat)} {dr:List cD} {L:AH} {sc:List (List Int×Nat)} {ends:Option (Nat×Nat)} {ind ht:List Nat} {own:List Int} {br nm:Nat} {num kind man text form one two out:Option V} {y8 y9 y10 y11 y12 y13 y14 y15 y16 y17 y18 y19 y20 y21 y22 y23 y24 y25:Option V}
theorem nt (q:∀ind∈cp,Q (.str ind) H):jg [.str [32],.str [9]] ((nm%2:Nat):Int) H Q:=by
 rcases Nat.mod_two_eq_zero_or_one nm with h|h
 ·rw[h]
  exact q [32] (by decide)
 ·rw[h]
  exact q [9] (by decide)
theorem Yg (k:∀ind∈cp,(3<br->ind=[])->(br=0->sc=[]->ind=[])->K .next (cH ends L cd (some (.int (nm:Int))) kind (some (.int (br:Int))) (some (.str ind)) y11 y12 y13 y14 y15 y16 y17 y18 y19 y20 y21 y22 y23 y24 y25) (HS cells a rows cd df ops dr L sc)):
 ì (ú n) ((Ĳ.drop 4).take 1) (cH ends L cd (some (.int (nm:Int))) kind (some (.int (br:Int))) y10 y11 y12 y13 y14 y15 y16 y17 y18 y19 y20 y21 y22 y23 y24 y25) E (HS cells a rows cd df ops dr L sc) K:=by
 have no:=k [] (by decide) (λ_=>rfl) (λ_ _=>rfl)
 refine bC (λh1=>bC (λh2=> ?_) λh2=> ?_) λh1=> ?_
 ·have hm:br=1:=cF (è.mp h1)
  refine iX (b:=2) (by decide) (nt λind hi=>k ind hi (λz=> ?_) λz=> ?_)
  ·rw[hm] at z;exact absurd z (by decide)
  ·rw[hm] at z;contradiction
 ·refine bC (λh4=>bo Kr (bC (λhs=> ?_) λhs=>no)) λh4=>no
  have hm:br<4:=ï.mp (Ā h4)
  refine iX (b:=2) (by decide) (nt λind hi=>k ind hi (λz=> ?_) λ_ z=> ?_)
  ·exact absurd hm (Ł.mpr z)
  ·rw[z] at hs;contradiction
 ·refine ar rfl (bC (λh4=>bo Kr (bC (λhs=> ?_) λhs=>no)) λh4=>no)
  have hm:br<4:=ï.mp (Ā h4)
  refine iX (b:=2) (by decide) (nt λind hi=>k ind hi (λz=> ?_) λ_ z=> ?_)
  ·exact absurd hm (Ł.mpr z)
  ·rw[z] at hs;contradiction
theorem Ye (hc:Ű cells)(ii:a<=850)(hp:0<cd.length)
 (k:∀form one two:Nat,form<5->one<cd.length->two<cd.length->K .next (cH ends L cd num kind man text (some (.int (form:Int))) (some (.int (one:Int))) (some (.int (two:Int))) (some (.lst ((ĳ sc).map .int))) y15 y16 y17 y18 y19 y20 y21 y22 y23 y24 y25) (HS cells (a+3) rows cd df ops dr L sc)):
 ì (ú (n+1)) ((Ĳ.drop 5).take 4) (cH ends L cd num kind man text y11 y12 y13 y14 y15 y16 y17 y18 y19 y20 y21 y22 y23 y24 y25) E (HS cells a rows cd df ops dr L sc) K:=by
 refine š (lim:=5) hc (À ii (by decide)) (by decide) λform hf=> ?_
 refine š hc (À (Ì ii) (by decide)) hp λone h1=> ?_
 refine š hc (À (Ì (Ì ii)) (by decide)) hp λtwo h2=> ?_
 have k':=k form one two hf h1 h2
 unfold ĳ at k'
 refine bo Kr (bC (λh=> ?_) λh=> ?_)
 ·cases hz:sc.getLast? with
  |none=>rw[Ŕ.mp hz] at h;contradiction
  |some z=>
   rw[hz] at k'
   exact gB Kx (eX (ir hz) k')
 ·cases hz:sc.getLast? with
  |none=>rw[hz] at k';exact k'
  |some z=>
   cases sc with
   |nil=>contradiction
   |cons x l=>contradiction
theorem Yd (k:K .next (cH ends L cd num kind man (some (.str ind)) form one two out (some (.int (Ž ind sc:Nat))) (some (.str [])) (some (.lst [])) y18 y19 y20 y21 y22 y23 y24 y25) (HS cells a rows cd df ops dr L sc)):
 ì (ú n) ((Ĳ.drop 9).take 3) (cH ends L cd num kind man (some (.str ind)) form one two out y15 y16 y17 y18 y19 y20 y21 y22 y23 y24 y25) E (HS cells a rows cd df ops dr L sc) K:=by
 have no:¬(ind≠[]∧sc=[])->Ž ind sc=0:=λh=>Ñ h
 refine bC (λh=>bo Kr (bC (λh2=> ?_) λh2=> ?_)) λh=> ?_
 ·have e:Ž ind sc=1:=Î ⟨λz=>by rw[z] at h;contradiction,by
   cases sc with
   |nil=>rfl
   |cons x l=>contradiction⟩
  rw[e] at k
  exact k
 ·rw[no λz=>by rw[z.2] at h2;contradiction] at k
  exact k
 ·rw[no λz=>z.1 (by
   cases ind with
   |nil=>rfl
   |cons x l=>contradiction)] at k
  exact k
theorem Et {place:Nat}{w:List Nat}(hr:rows.length<=small){hd own:Option V}
 (k:K .next (cH (gI ends rows.length place) L cd num kind man (some (.str w)) form one two out (some (.int (place:Int))) hd own y18 y19 y20 y21 y22 y23 y24 y25) (HS cells a (rows++[w]) cd df ops dr L sc)):
 ì (ú n) (Ĳ.drop 16) (cH ends L cd num kind man (some (.str w)) form one two out (some (.int (place:Int))) hd own y18 y19 y20 y21 y22 y23 y24 y25) E (HS cells a rows cd df ops dr L sc) K:=by
 refine bL vf rfl (VF hr (bC (λh=>bo (j2 ends) ?_) λh=>ar rfl ?_))
 ·cases ends with
  |some e=>exact ar rfl k
  |none=>
   rw[pO h] at k
   refine ift rfl (fV vf ?_)
   rw[Â,Ã]
   exact k
 ·rw[ul h] at k
  exact k
theorem Ep (hc:Ű cells)(ha:a<=700)(gc:GoodC cd)(hk:12*k<=900)(hs:bx cd.length k sc)(hr:rows.length<=1000)(hd:dr.length<=1000)(hl:sc.length<=1000)(fin:i3 (n+1) E K cells (a+8) rows cd df op ops dr L sc ends k):
 ì (ú (n+1)) Ĳ (cH ends L cd (some (.int (nm:Int))) y8 y9 y10 y11 y12 y13 y14 y15 y16 y17 y18 y19 y20 y21 y22 y23 y24 y25) E (HS cells a rows cd df ops dr L sc) K:=by
 have h2:a+2<=850:=À (ě ha 2) (by decide)
 have h5:a+5<=800:=À (ě ha 5) (by decide)
 refine aP 4 (t_A hc (À ha (by decide)) λkd br hkd h4 hm hB=> ?_)
 refine aP (l:=Ĳ.drop 4) 1 (Yg λind hi Kz Vv=> ?_)
 refine aP (l:=Ĳ.drop 5) 4 (Ye hc h2 gc.g.pos λform one two hf h1 h2=> ?_)
 refine aP (l:=Ĳ.drop 9) 3 (Yd ?_)
 refine aP (l:=Ĳ.drop 12) 3 (t_C gc hf h1 h2 λht own hh ho h7=> ?_)
 exact t_D ⟨hc,h5,gc,hk,hs,hi,hh,ho,h2,hr,hd,hl⟩ hkd h4 Kz (λz y=>Vv (hB z y) y) h7 fin
end
structure RF (cd:List (List Nat×Bool))(df:List (List Nat×List Nat))(op:Bool)(n0:Nat)(rr:List (List Nat))(ldr:List cD)(ends:Option (Nat×Nat)):Prop where
 ok:∀w∈rr,dZ w=true
 st:∀d∈ldr,Cp d
 m:match ends with
  |none=>(∀d∈ldr,q8 cd d)∧∀rest,ģ (rr++rest) (ja cd df op n0 [] [])=ģ rest (ja cd df op (n0+rr.length) (ldr.map Ĵ) [])
  |some e=>∀rest,(rest=[]∨∃m r,rest=m::r∧ń m=true)->ģ (rr++rest) (ja cd df op n0 [] [])= .err e.1 e.2
section
variable {n a b k:Nat} {H:AH} {E:Ĩ} {Q:QT} {K:ST} {cells:List Int} {at_:Nat} {rows rr:List (List Nat)} {cd:List (List Nat×Bool)} {df:List (List Nat×List Nat)} {op:Bool} {ops:List (List Nat)} {ldr:List cD} {L:AH} {sc:List (List Int×Nat)} {n0:Nat} {ends:Option (Nat×Nat)} {num kind man text form one two out:Option V} {y8 y9 y10 y11 y12 y13 y14 y15 y16 y17 y18 y19 y20 y21 y22 y23 y24 y25:Option V}
theorem IT (ends:Option (Nat×Nat))(n:Nat):gI ends n 0=ends:=by cases ends<;>rfl
theorem t7:∀(k:Nat) {rr:List (List Nat)} {sc:List (List Int×Nat)},sc.length=k->RI cd df op n0 rr ldr sc ends->RI cd df op n0 (rr++List.replicate k [125]) ldr [] ends
 |0,rr,sc,h,R=>by
  rw[Ķ h] at R
  rw[List.replicate_zero,à]
  exact R
 |k+1,rr,sc,h,R=>by
  have jJ:sc≠[]:=λz=>by rw[z] at h;contradiction
  have hs:bx cd.length (rr.length+1) sc.dropLast:=λz hz=>(R.gs.up (å _)) z ((ez _).subset hz)
  have R':=R.step (w:=[125]) (place:=0) (ldr':=ldr) (sc':=sc.dropLast) (by decide) hs (λd hd=> .inl hd) (λ_=>lx (ind:=[]) false (by decide) jJ)
  rw[IT] at R'
  have i:=t7 k (by rw[oz,h];rfl) R'
  rw[Æ] at i
  exact i
theorem RI.fin0 (R:RI cd df op n0 rr ldr [] ends):RF cd df op n0 rr ldr ends:=by
 refine⟨R.ok,R.st,?_⟩
 have m:=R.m
 cases ends with
 |none=>exact m
 |some e=>exact λrest _=>m.2 rest
theorem RI.fin1 (R:RI cd df op n0 rr ldr sc none){z:List Int×Nat}(hz:sc.getLast? =some z):RF cd df op n0 rr ldr (some (z.2,1)):=by
 refine⟨R.ok,R.st,λrest hr=> ?_⟩
 have f:∀s:RS,s.scopes=sc->qn s= .err z.2 1:=λs e=>by
  unfold qn
  rw[e,hz]
 rw[R.m.2]
 rcases hr with rfl|⟨m,r,rfl,hm⟩
 ·exact f _ rfl
 ·rw[ģ,hm]
  exact f _ rfl
theorem RI.fin2 {e:Nat×Nat}(R:RI cd df op n0 rr ldr sc (some e)):RF cd df op n0 rr ldr (some e):=⟨R.ok,R.st,λrest _=>R.m.2 rest⟩
theorem Z7 {i:Nat}{vs l:List V}(h:H[i]? =some (some (.list vs)))(hl:vs.length+l.length<=ę)(q:Q .none (H.set i (some (.list (vs++l))))):oj 8 i [.lst l] H Q:=by
 unfold oj
 rw[h];exact⟨hl,q⟩
theorem TH {v:V}{k:Nat}(h:k<=ę)(q:Q (.lst (List.replicate k v)) H):vK [v] (k:Int) H Q:=by
 unfold vK
 refine⟨by rw[ō,me,Nat.one_mul];exact h,h,?_⟩
 have e:(List.replicate k [v]).flatten=List.replicate k v:=by
  clear h q
  induction k with
  |zero=>rfl
  |succ k ih=>exact È (v::·) ih
 rw[ō,e]
 exact q
theorem tR (R:RI cd df op n0 rr ldr sc ends)(q:∀Ş,RF cd df op n0 rr ldr Ş->Q (ŧ Ş) (HS cells a (rows++rr) cd df ops ldr L sc)){num:Option V}:
 ì (ú n) (wI.drop 5) (cH ends L cd num y8 y9 y10 y11 y12 y13 y14 y15 y16 y17 y18 y19 y20 y21 y22 y23 y24 y25) E (HS cells a (rows++rr) cd df ops ldr L sc) (am Q):=by
 cases ends with
 |some e=>exact q _ R.fin2
 |none=>
  refine bo rfl (ift rfl (bo Kr (bC (λh=> ?_) λh=> ?_)))
  ·cases hz:sc.getLast? with
   |none=>rw[Ŕ.mp hz] at h;contradiction
   |some z=>exact gB Kx (eX (ir hz) (q _ (R.fin1 hz)))
  ·have hn:sc=[]:=by
    cases sc with
    |nil=>rfl
    |cons x l=>contradiction
   rw[hn] at R
   exact q _ R.fin0
inductive XN (cells:List Int)(at_:Nat)(rows:List (List Nat))(cd:List (List Nat×Bool))(df:List (List Nat×List Nat))(op:Bool)(ops:List (List Nat))(L:AH)(j:Nat):Loc->AH->Prop
 |mk {a:Nat} {rr:List (List Nat)} {ldr:List cD} {sc:List (List Int×Nat)} {ends:Option (Nat×Nat)} {y7 y8 y9 y10 y11 y12 y13 y14 y15 y16 y17 y18 y19 y20 y21 y22 y23 y24 y25:Option V} (R:RI cd df op rows.length rr ldr sc ends) (h1:rr.length<=j) (h2:ldr.length<=j) (h3:sc.length<=j) (h4:a<=at_+1+8*j):
  XN cells at_ rows cd df op ops L j (cH ends L cd y7 y8 y9 y10 y11 y12 y13 y14 y15 y16 y17 y18 y19 y20 y21 y22 y23 y24 y25) (HS cells a (rows++rr) cd df ops ldr L sc)
theorem FC (hc:Ű cells)(ii:at_<=200)(gc:GoodC cd)(hr:rows.length<=100)(q:∀at' rr ldr ends L',RF cd df op rows.length rr ldr ends->rr.length<=12->ldr.length<=6->at'<=at_+50->Q (ŧ ends) (LH cells at' (rows++rr) cd df ops ldr L')):Call (ú (n+2)) E 62 Q [.obj 0,.obj 1,.obj 2,.obj 5] (LH cells at_ rows cd df ops [] L):=by
 refine call rfl (fV zU ?_)
 rw[Â]
 refine š (lim:=7) (L:=L++[some (.list [])]) hc (À ii (by decide)) (by decide) λm hm=> ?_
 refine eR (À (í hm) (by decide)) ?_
 have QP:m<=6:=ak hm
 refine hA (XN cells at_ rows cd df op ops L) (À (í hm) (by decide)) ?_ (λρ H I=> ?_) λj ρ H hj I=> ?_
 ·have i:=XN.mk (cells:=cells) (at_:=at_) (cd:=cd) (df:=df) (op:=op) (ops:=ops) (L:=L) (j:=0) (rows:=rows) (rr:=[]) (ldr:=[]) (sc:=[]) (ends:=none) (y7:=none) (y8:=none) (y9:=none) (y10:=none) (y11:=none) (y12:=none) (y13:=none) (y14:=none) (y15:=none) (y16:=none) (y17:=none) (y18:=none) (y19:=none) (y20:=none) (y21:=none) (y22:=none) (y23:=none) (y24:=none) (y25:=none) ⟨nofun,nofun,nofun,nofun,λrest=>rfl⟩ (Å _) (Å _) (Å _) (Å _)
  rw[à] at i
  exact i
 ·induction I with| @mk a rr ldr sc ends _ _ _ _ _ _ _ _ _ _ _ _ _ _ _ _ _ _ _ R h1 h2 h3 h4=> ?_
  have ha:a<=at_+49:=À h4 (Ý (Ò 8 QP) (at_+1))
  have Me:sc.length<=6:=À h3 QP
  have BZ:rr.length<=6:=À h1 QP
  refine š (lim:=4) hc (À ha (À (ě ii 49) (by decide))) (by decide) λd hd=> ?_
  refine bC (λh=> ?_) λh=> ?_
  ·refine bL vf rfl (fV Kx ?_)
   rw[Â]
   refine TH (À Me (by decide)) (Z7 vf ?_ ?_)
   ·rw[Â,Ã,U9]
    exact À (Ë (Ë hr BZ) Me) (by decide)
   ·have e:((rows++rr).map V.str++List.replicate sc.length (V.str [125]))=(rows++(rr++List.replicate sc.length [125])).map .str:=by
     rw[←Æ,Ú (l₁:=rows++rr),Á2]
    rw[e]
    exact tR (L:=L++[some (.list (sc.map cM))]) (sc:=[]) (t7 _ rfl R) λŞ F=>q (a+1) _ ldr Ş _ F (by rw[Ã,U9];exact Ë BZ Me) (À h2 QP) (Ì ha)
  ·exact tR R λŞ F=>q (a+1) rr ldr Ş _ F (À BZ (by decide)) (À h2 QP) (Ì ha)
 ·induction I with| @mk a rr ldr sc ends _ _ _ _ _ _ _ _ _ _ _ _ _ _ _ _ _ _ _ R h1 h2 h3 h4=> ?_
  have Vx:j<=5:=ak (æ hj QP)
  have BZ:=À h1 Vx
  have er:(rows++rr).length=rows.length+rr.length:=Ã
  have QL:(rows++rr).length<=1000:=by rw[er];exact À (Ë hr BZ) (by decide)
  refine⟨_,rfl,λK kk=> ?_⟩
  refine Ep (k:=rr.length) (op:=op) hc (À h4 (À (Ë (Ì ii) (Ò 8 Vx)) (by decide))) gc (À (Ò 12 BZ) (by decide)) R.gs QL (À h2 (À Vx (by decide))) (À h3 (À Vx (by decide))) ?_
  intro w place RU sc' at' z7 z8 z9 z11 z12 z13 z14 z16 z17 z18 z19 z20 z21 z22 z23 z24 z25 a1 a2 a3 a4 a4' a5 a6
  refine Et (À QL (by decide)) ?_
  rw[er] at a3⊢
  rw[Æ]
  exact kk.n (.mk (R.step a1 a2 a4' (λ_=>a3)) (À cC (Ì h1)) (À a4 (Ì h2)) (À a5 (Ì h3)) (À a6 (ě h4 8)))
end
noncomputable def zT (r:Rl):V:= .tup [.tup (r.heads.map .int),aQ r.pat,cq (some r.steps)]
theorem Aw (l:List St):(l.map Am).filterMap vU=(l.map (·.1)).map .str:=by
 induction l with
 |nil=>rfl
 |cons a l ih=>exact È (V.str a.1::·) ih
theorem or6:∀x y z X Y Z:Bool,((x||(y||(z||false)))||(X||(Y||Z)))=((x||X)||((y||Y)||(z||Z))):=by decide
theorem r9 (ss:List St):ũ ss=((ss.map (·.1)).contains (cs "more")||((ss.map (·.1)).contains (cs "less")||(ss.map (·.1)).contains (cs "reject"))):=by
 induction ss with
 |nil=>rfl
 |cons a l ih=>
  show (fC.contains a.1||ũ l)=_
  rw[ih,fC,ß,ĕ,ĕ,ĕ,vz,ĕ,ĕ,ĕ,or6,BEq.comm (a:=a.1),BEq.comm (a:=a.1),BEq.comm (a:=a.1)]
def iw (ldr:List cD)(ends Ş:Option (Nat×Nat))(vs:List V):Prop:=match ends with
 |some e=>Ş=some e
 |none=>match ĸ (ldr.map Ĵ) ldr.length none [] with
  | .ok rl=>Ş=none∧vs=rl.map zT
  | .err l=>Ş=some (l,1)
  | .bad=>False
def Hg (ldr:List cD)(j:Nat)(st:Option (List St))(ends Ş:Option (Nat×Nat))(vs:List V):Prop:=match Ş with
 |none=>ends=none∧∃acc:List Rl,vs=acc.map zT∧ĸ (ldr.map Ĵ) j st acc=ĸ (ldr.map Ĵ) ldr.length none []
 |some e=>ends=some e∨(ends=none∧ĸ (ldr.map Ĵ) ldr.length none []= .err e.1∧e.2=1)
section
variable {n i j:Nat} {E:Ĩ} {Q:QT} {K:ST} {H:AH} {ldr:List cD} {d:cD} {st:Option (List St)} {ends Ş:Option (Nat×Nat)} {vs:List V} {ib:Bool} {y3 y4 y6 y8 y9:Option V} {heads:V}
theorem qF (p:Option (List Nat)):bh .is_ (aQ p) .none H=some p.isNone:=by cases p<;>rfl
theorem Ot (p:Option (List St)):bh .is_ (cq p) .none H=some p.isNone:=by cases p<;>rfl
theorem K5 {l:List V}(h:H[i]? =some (some (.list l)))(q:Q (.lst l.reverse) H):Ag (.obj i) H Q:=by
 unfold Ag seeL
 dsimp only
 rw[h];exact q
theorem Hg.fin (h:Hg ldr 0 st ends Ş vs):iw ldr ends Ş vs.reverse:=by
 unfold Hg at h
 unfold iw
 cases Ş with
 |none=>
  obtain⟨rfl,acc,rfl,h⟩:=h
  dsimp only
  rw[←h]
  exact⟨rfl,by rw[ÄW]⟩
 |some e=>
  rcases h with rfl|⟨rfl,h,h2⟩
  ·rfl
  ·dsimp only
   rw[h]
   dsimp only
   rw[←h2]
noncomputable def bdE:Option (List St)->Bool
 |none=>false
 |some ss=>ũ ss
noncomputable def BV (d:cD)(st:Option (List St)):Option (List St):=match d.steps with|some o=>some o|none=>st
noncomputable def QE (d:cD)(L0:Option (List St))(Ş:Option (Nat×Nat)):Option (Nat×Nat):=match Ş with
 |some e=>some e
 |none=>match L0 with
  |none=>some (d.line,1)
  |some ss=>if (d.pat.isNone&&ũ ss)=true then some (d.line,1) else none
theorem Hg.step (hj:ldr[j]? =some d)(h:Hg ldr (j+1) st ends Ş vs):
 Hg ldr j (BV d st) ends (QE d (BV d st) Ş) (vs++[.tup [.tup (d.heads.map .int),aQ d.pat,cq (BV d st)]]):=by
 have hd:(ldr.map Ĵ)[j]? =some (Ĵ d):=by rw[Ü,hj];rfl
 unfold Hg at h⊢
 cases Ş with
 |some e=>exact h
 |none=>
  obtain⟨rfl,acc,rfl,h⟩:=h
  rw[ĸ,hd] at h
  change (match BV d st with
   |none=>BT.err d.line
   |some ss=>if (d.pat.isNone&&ũ ss)=true then BT.err d.line else ĸ (ldr.map Ĵ) j (some ss) (acc++[(⟨j,d.heads,d.pat,ss,d.line⟩:Rl)]))=_ at h
  cases kq:BV d st with
  |none=>
   rw[kq] at h
   exact .inr ⟨rfl,h.symm,rfl⟩
  |some ss=>
   rw[kq] at h
   unfold QE
   dsimp only at h⊢
   cases hb:(d.pat.isNone&&ũ ss) with
   |true=>
    rw[hb] at h
    exact .inr ⟨rfl,h.symm,rfl⟩
   |false=>
    rw[hb] at h
    exact cX rfl (Exists.intro _ (cX (by rw[Ú];rfl) h))
noncomputable abbrev sJ (i:Nat)(ends:Option (Nat×Nat))(H:AH)(st:Option (List St))(d:cD)(y8 y9:Option V):Loc:=[some (.obj i),some (ŧ ends),some (.obj H.length),some (cq st),some (.tup (d.heads.map .int)),some (aQ d.pat),some (cq d.steps),some (.int (d.line:Int)),y8,y9]
noncomputable abbrev W0 (d:cD)(st:Option (List St)):V:= .tup [.tup (d.heads.map .int),aQ d.pat,cq st]
theorem o7 (hv:vs.length<ę)(hib:ib=(d.pat.isNone&&bdE st))(k:K .next (sJ i (QE d st ends) H st d y8 (some (.bool ib))) (H++[some (.list (vs++[W0 d st]))])):
 ì (ú n) ((hZ qW 2).drop 3) (sJ i ends H st d y8 (some (.bool ib))) E (H++[some (.list vs)]) K:=by
 have app:∀e2,e2=QE d st ends->ì (ú n) ((hZ qW 2).drop 4) (sJ i e2 H st d y8 (some (.bool ib))) E (H++[some (.list vs)]) K:=by
  rintro e2 rfl
  refine bL ć rfl (eK ć hv ?_)
  rw[cv];exact k
 cases ends with
 |some e=>exact bo rfl (ar rfl (app (some e) rfl))
 |none=>
  cases st with
  |none=>exact bo rfl (ift rfl (bo rfl (ift rfl (app (some (d.line,1)) rfl))))
  |some ss=>
   refine bo rfl (ift rfl (bo rfl (ar rfl (bo rfl (bC (λh=> ?_) λh=> ?_)))))
   ·exact app (some (d.line,1)) (Î (hib.symm.trans h)).symm
   ·exact app none (Ñ (nT (hib.symm.trans h))).symm
theorem KW (hv:vs.length<ę)(hs:∀ss,st=some ss->ss.length<=3)(k:∀y8 y9,K .next (sJ i (QE d st ends) H st d y8 y9) (H++[some (.list (vs++[W0 d st]))])):
 ì (ú n) ((hZ qW 2).drop 1) (sJ i ends H st d y8 y9) E (H++[some (.list vs)]) K:=by
 cases st with
 |none=>
  refine bo rfl (ift rfl (bo (qF d.pat) (bC (λh=> ?_) λh=> ?_)))
  ·exact o7 hv (ī _).symm (k _ _)
  ·exact o7 hv (by rw[h];rfl) (k _ _)
 |some ss=>
  refine bo rfl (ar rfl (eh vU rfl trivial (by rw[Â];exact À (hs ss rfl) (by decide)) ?_ λy hy K k=> ?_))
  ·rw[Aw]
   have hb:ũ ss=((ss.map (·.1)).contains [109,111,114,101]||((ss.map (·.1)).contains [108,101,115,115]||(ss.map (·.1)).contains [114,101,106,101,99,116])):=r9 ss
   refine bo (qF d.pat) (bC (λh=>bo mw (bo rfl (bC (λh1=> ?_) λh1=>bo mw (bo rfl (bC (λh2=> ?_) λh2=>bo mw ?_))))) λh=> ?_)
   ·exact o7 hv (by rw[h,jF];exact (hb.trans (by rw[h1];rfl)).symm) (k _ _)
   ·exact o7 hv (by rw[h,jF];exact (hb.trans (by rw[h1,h2];rfl)).symm) (k _ _)
   ·exact o7 hv (by rw[h,jF];exact (hb.trans (by rw[h1,h2];rfl)).symm) (k _ _)
   ·exact o7 hv (by rw[h];rfl) (k _ _)
  ·obtain⟨z,hz,rfl⟩:=Þ.mp hy
   exact k
inductive I63 (i:Nat)(ldr:List cD)(ends:Option (Nat×Nat))(H:AH)(xs:List V):Loc->AH->Prop
 |mk (j:Nat) (st:Option (List St)) (Ş:Option (Nat×Nat)) (vs:List V) (y4 y5 y6 y7 y8 y9:Option V):j<=ldr.length->xs=((ldr.take j).map mq).reverse->vs.length+j<=1000->(∀ss,st=some ss->ss.length<=3)->Hg ldr j st ends Ş vs->I63 i ldr ends H xs [some (.obj i),some (ŧ Ş),some (.obj H.length),some (cq st),y4,y5,y6,y7,y8,y9] (H++[some (.list vs)])
theorem AX (h:H[i]? =some (some (.list (ldr.map mq))))(hl:ldr.length<=1000)(hso:∀d∈ldr,Cp d)(q:∀vs Ş L',iw ldr ends Ş vs->Q (.tup [.tup vs,ŧ Ş]) (H++L')):Call (ú (n+1)) E 63 Q [.obj i,ŧ ends] H:=by
 refine call rfl (K5 (fJ h [some (.list [])]) ?_)
 refine Cg rfl (I63 i ldr ends H) (.mk ldr.length none ends [] none none none none none none (Å _) (by rw[eC]) (by rw[Ŀ,Ľ];exact hl) nofun ?_) (λρ H' I=>⟨trivial,?_⟩) λx xs ρ H' I=>⟨trivial,?_⟩
 ·unfold Hg
  cases ends with
  |none=>exact⟨rfl,[],rfl,rfl⟩
  |some e=>exact .inl rfl
 ·induction I with| @mk j st Ş vs y4 y5 y6 y7 y8 y9 hj hx hv Me M=> ?_
  have hj0:j=0:=by
   have z:=È List.length hx
   rw[aA,Â,ű,ag hj] at z
   exact z.symm
  subst hj0
  refine K5 ć ?_
  have q':=q _ _ [some (.list vs)] M.fin
  cases Ş with
  |none=>exact q'
  |some e=>exact q'
 ·induction I with| @mk j st Ş vs y4 y5 y6 y7 y8 y9 hj hx hv Me M=> ?_
  cases j with
  |zero=>contradiction
  |succ j=>
  have iR:ldr[j]? =some ldr[j]:=Ç hj
  rw[Äi,iR,Option.toList_some,Ú,ay] at hx
  have hdm:=hso _ (Ų hj)
  obtain⟨d,hd⟩:∃d,d=ldr[j]:=⟨_,rfl⟩
  rw[←hd] at hx iR hdm
  have Mc:x=mq d:=(Ŋ hx).1
  have Mb:xs=((ldr.take j).map mq).reverse:=(Ŋ hx).2
  subst Mc
  refine⟨_,rfl,λK kk=> ?_⟩
  have M':=M.step iR
  have hvb:vs.length<ę:=Í (À (Ï ..) hv) (by decide)
  have next:∀{L0},L0=BV d st->(∀ss,L0=some ss->ss.length<=3)->∀y8 y9,K .next (sJ i (QE d L0 Ş) H L0 d y8 y9) (H++[some (.list (vs++[W0 d L0]))]):=by
   rintro _ rfl zV y8 y9
   exact kk.n (.mk j (BV d st) _ _ _ _ _ _ y8 y9 (ĵ hj) Mb (by rw[Ã,þ,ą [_].length];exact hv) zV M')
  refine bo (Ot d.steps) ?_
  cases oY:d.steps with
  |some o=>
   have zV:∀ss,some o=some ss->ss.length<=3:=λss z=>hdm _ (oY.trans z)
   have e:some o=BV d st:=by unfold BV;rw[oY]
   have:=KW (n:=n) (E:=E) (i:=i) (y8:=y8) (y9:=y9) hvb zV (next e zV)
   rw[sJ,oY] at this
   exact ar rfl this
  |none=>
   have e:st=BV d st:=by unfold BV;rw[oY]
   have:=KW (n:=n) (E:=E) (i:=i) (y8:=y8) (y9:=y9) hvb Me (next e Me)
   rw[sJ,oY] at this
   exact ift rfl this
end
section
variable {n:Nat} {E:Ĩ} {Q:QT} {K:ST} {H:AH} {s:RS} {rl:List Rl} {r:Rl}
theorem Jc {s:St}(q:Q (Am s) H):Call (ú (n+1)) E 19 Q [Ū s] H:=call rfl q
theorem Dz {l:List Nat}(q:Q (.tup [.str Mx,.str l]) H):Call (ú (n+1)) E 26 Q [vL l] H:=call rfl q
theorem nC {α:Type}{ok:AH->Prop}{step:V->AH->(Option V->AH->Prop)->Prop}(f:α->V)(g:α->Option V)(kr:ok H):∀(xs:List α) (acc:List V),(∀x∈xs,∀K,K (g x) H->step (f x) H K)->xs.length+acc.length<=ę->Q (.lst (acc++xs.filterMap g)) H->gL ok step (xs.map f) acc H Q
 |[],acc,_,_,q=>⟨kr,by rw[←à acc];exact q⟩
 |x::xs,acc,hs,hb,q=>by
  have B0:xs.length+(acc.length+1)<=ę:=Ĭ xs.length 1 acc.length▸hb
  refine cX kr (cX (æ (é _) (À (Ğ _ _) B0)) (hs x (.head _) _ ?_))
  cases hg:g x with
  |none=>
   rw[LW hg] at q
   exact nC f g kr xs acc (λy hy=>hs y (.tail _ hy)) (À (Ý (å _) _) B0) q
  |some v=>
   rw[LV hg,eH] at q
   exact nC f g kr xs (acc++[v]) (λy hy=>hs y (.tail _ hy)) (by rw[Ã];exact B0) q
theorem CJ {α:Type}{step:V->AH->(Option V->AH->Prop)->Prop}{v:V}(f:α->V)(g:α->Option V)(xs:List α)(e:ŵ v H=some (xs.map f))(kr:Ũ v H H)(hb:xs.length<=ę)(q:Q (.lst (xs.filterMap g)) H)(hs:∀x∈xs,∀K,K (g x) H->step (f x) H K):Ku step Q v H:=by
 unfold Ku
 rw[e]
 exact nC f g kr xs [] hs hb q
theorem FX {α:Type}{β:Type}(f:α->β)(l:List α):l.filterMap (λa=>some (f a))=l.map f:=by
 induction l with
 |nil=>rfl
 |cons a l ih=>exact È (f a::·) ih
theorem bv {α:Type}{step:V->AH->(Option V->AH->Prop)->Prop}{v:V}(f g:α->V)(xs:List α)(e:ŵ v H=some (xs.map f))(kr:Ũ v H H)(hb:xs.length<=ę)(q:Q (.lst (xs.map g)) H)(hs:∀x∈xs,∀K,K (some (g x)) H->step (f x) H K):Ku step Q v H:=
 CJ f (λx=>some (g x)) xs e kr hb (by rw[FX];exact q) hs
theorem Jd (hl:r.steps.length<=small)(q:Q (zT r) H):Call (ú (n+2)) E 24 Q [aZ r] H:=by
 have rest:ì (ú (n+1)) (D8.drop 1) [some (aZ r),some (aQ r.pat)] E H (am Q):=
  bv Ū Am r.steps rfl trivial (À hl (by decide)) q λs _ K k=>Jc k
 induction r with|mk a b pat c d=> ?_
 cases pat with
 |none=>exact call rfl rest
 |some l=>exact call rfl (Dz rest)
noncomputable def cR (s:RS)(rl:List Rl):V:= .tup [.tup (s.defs.map fW),.tup (s.conds.map Ň),.tup (rl.map zT),.bool s.dflt,.str s.tail]
theorem pQ {es:List (List Nat×List Nat)}(h:(es.map (·.1)).Nodup):∀e∈es,(es.map sY).lookup e.1=some (vL e.2):=by
 induction es with
 |nil=>intro e he;contradiction
 |cons a es ih=>
  intro e he
  rw[ß,bg] at h
  rw[ß,sY,į]
  rcases Û.mp he with rfl|he
  ·rw[ô]
  ·have jJ:(e.1==a.1)=false:=Ù.mpr λz=>h.1 (by rw[←z];exact qg he)
   rw[jJ]
   exact ih h.2 e he
theorem kZ {es:List (List Nat×List Nat)}(h:(es.map (·.1)).Nodup)(hl:∀e∈es,e.1.length<=ę):ŵ (.dic (es.map sY)) H=some (es.map λe=> .str e.1):=by
 have e1:((es.map sY).map (·.1))=es.map (·.1):=by rw[õ];rfl
 show (if _ then some _ else none)=_
 rw[Î]
 ·rw[õ];rfl
 ·rw[e1]
  refine⟨h,λe he=> ?_⟩
  obtain⟨z,hz,rfl⟩:=Þ.mp he
  exact hl z hz
structure FOK (s:RS)(rl:List Rl):Prop where
 nd:(s.defs.map (·.1)).Nodup
 dl:∀e∈s.defs,e.1.length<=100∧e.2.length<=100
 d:s.defs.length<=100
 c:s.conds.length<=100
 r:rl.length<=100
 st:∀r∈rl,r.steps.length<=100
theorem d8 {k:Nat}(h:k<=100):k<=ę:=À h (by decide)
theorem CA {es:List (List Nat×V)}{k:List Nat}{v:V}(h:es.lookup k=some v)(q:Q v H):qt es (.str k) H Q:=by
 unfold qt;exact dN h q
theorem DA (F:FOK s rl)(q:Q (cR s rl) H):Call (ú (n+3)) E 32 Q [ao s rl] H:=by
 refine call rfl (bv (λe=>V.str e.1) fW s.defs (kZ F.nd λe he=>d8 (F.dl e he).1) trivial (d8 F.d) ?_ λe he K k=>CA (pQ F.nd e he) (Dz k))
 refine bv Ň Ň s.conds rfl trivial (d8 F.c) ?_ λe he K k=>k
 exact bv aZ zT rl rfl trivial (d8 F.r) q λr hr K k=>Jd (À (F.st r hr) (by decide)) k
end
noncomputable def mQ (c:Int)(r:Rl):Bool:= !r.pat.isNone&&r.heads.contains c
noncomputable def cN (c:Int)(r:Rl):Bool:=r.pat.isNone&&r.heads.contains c
section
variable {n:Nat} {E:Ĩ} {Q:QT} {K:ST} {H:AH} {s:RS} {rl:List Rl} {r:Rl} {c:Int}
theorem rI {l:List Int}:bh .in_ (.int c) (.tup (l.map .int)) H=some (l.contains c):=by
 show qr (.int c) (l.map .int)=_
 unfold qr
 dsimp only
 rw[ints_map];rfl
theorem zh (q:Q (.bool r.pat.isNone) H):Call (ú (n+1)) E 22 Q [aZ r] H:=call rfl (bo (rk r.pat) q)
theorem uw (q:Q (.bool (r.heads.contains c)) H):Call (ú (n+1)) E 23 Q [aZ r,.int c] H:=call rfl (bo rI q)
theorem Lw {α β:Type}(f:α->Bool)(g:α->β)(l:List α):l.filterMap (λr=>if f r=true then some (g r) else none)=(l.filter f).map g:=by
 induction l with
 |nil=>rfl
 |cons a l ih=>
  rw[gp,List.filter_cons,ih]
  cases f a<;>rfl
theorem OG (hl:rl.length<=ę)(q:Q (.lst ((rl.filter (mQ c)).map aZ)) H):Call (ú (n+2)) E 30 Q [ao s rl,.int c] H:=
 call rfl (CJ aZ _ rl rfl trivial hl (by rw[Lw];exact q) λr _ K k=>zh (kJ (P:=λz=>K z H) k (λ_ k=>uw (b5 (P:=λz=>K z H) k (λk _=>k) λk _=>k)) λ_ k=>k))
noncomputable def rlO:Option Rl->V
 |none=> .none
 |some r=>aZ r
inductive S6 (s:RS)(rl:List Rl)(c:Int)(H:AH)(xs:List V):Loc->AH->Prop
 |mk (l:List Rl) (y:Option V) (e:xs=l.map aZ) (f:rl.find? (cN c)=l.find? (cN c)):S6 s rl c H xs [some (ao s rl),some (.int c),y] H
theorem k_end (q:Q (rlO (rl.find? (cN c))) H):Call (ú (n+2)) E 31 Q [ao s rl,.int c] H:=by
 refine call rfl (Cg rfl (S6 s rl c H) (.mk rl none rfl rfl) (λρ H' I=>⟨trivial,?_⟩) λx xs ρ H' I=>⟨trivial,?_⟩)
 ·induction I with|mk l y e f=> ?_
  cases l with
  |cons a l=>contradiction
  |nil=>
   rw[f] at q
   exact q
 ·induction I with|mk l y e f=> ?_
  cases l with
  |nil=>contradiction
  |cons a l=>
  have hx:=(Ŋ e).1
  have RL:=(Ŋ e).2
  subst hx
  refine⟨_,rfl,λK kk=> ?_⟩
  rw[List.find?_cons] at f
  refine zh (bC (λh1=>uw (bC (λh2=> ?_) λh2=> ?_)) λh1=> ?_)
  ·rw[f,cN,h1,h2] at q
   exact kk.r q
  ·rw[cN,h1,h2] at f
   exact kk.n (.mk l _ RL f)
  ·rw[cN,h1] at f
   exact kk.n (.mk l _ RL f)
theorem zf (hc:s.conds.length<=ę)(q:Q (.tup ((Ţ s.conds).map .int)) H):Call (ú (n+1)) E 29 Q [ao s rl] H:=by
 refine call rfl ?_
 show oK ((s.conds.map Ň).length:Int) H _
 rw[Â]
 refine eR hc (eh (dk s.conds) (cg hc) trivial (by unfold fS;rw[Â,aY];exact hc) (by rw[fg];exact q) λy hy K k=> ?_)
 obtain⟨j,hj,rfl⟩:=Þ.mp hy
 have j9:j<s.conds.length:=(Ľ s.conds.length▸(dI.mp hj).2:j<s.conds.length)
 have iR:(s.conds.map Ň)[j]? =some (Ň s.conds[j]):=by rw[Ü,Ç j9];rfl
 have hk:dk s.conds (.int (j:Int))=if s.conds[j].2 then none else some (.int (j:Int)):=by
  refine (È (Option.map V.int) (tx j9)).trans ?_
  cases s.conds[j].2<;>rfl
 rw[hk] at k
 exact Ĕ iR (gC (P:=λz=>K z H) k (λk _=>k) λk _=>k)
inductive ICn (s:RS)(rl:List Rl)(nm:List Nat)(H:AH)(j:Nat):Loc->AH->Prop
 |mk (y:Option V) (f:∀i:Nat,i<j->nameAt s.conds i≠nm):ICn s rl nm H j [some (ao s rl),some (.str nm),y] H
theorem DF (hc:s.conds.length<=ę){nm:List Nat}{k:Int}(hk:∀j:Nat,j<s.conds.length->nameAt s.conds j=nm->(∀i:Nat,i<j->nameAt s.conds i≠nm)->k=(j:Int))(GQ:(∀j:Nat,j<s.conds.length->nameAt s.conds j≠nm)->k= -1)(q:Q (.int k) H):Call (ú (n+1)) E 28 Q [ao s rl,.str nm] H:=by
 refine call rfl ?_
 show oK ((s.conds.map Ň).length:Int) H _
 rw[Â]
 refine eR hc (hA (ICn s rl nm H) hc (.mk none nofun) (λρ H' I=> ?_) λj ρ H' hj I=> ?_)
 ·induction I with|mk y f=> ?_
  rw[GQ f] at q
  exact q
 ·induction I with|mk y f=> ?_
  obtain⟨b,gb,_⟩:=dz hj
  refine⟨_,rfl,λK kk=>Ĕ gb (bC (λh=> ?_) λh=> ?_)⟩
  ·rw[hk j hj (è.mp h) f] at q
   exact kk.r q
  ·refine kk.n (.mk _ λi hi=> ?_)
   rcases Nat.lt_succ_iff_lt_or_eq.mp hi with z|rfl
   ·exact f i z
   ·exact Ù.mp h
end
noncomputable def stepT (s:St):List Nat:=match s.2 with
 | .none=>s.1
 | .str l=>s.1++[32]++l
 | .int i=>s.1++[32]++jT i
 |_=>[]
structure qA (s:St):Prop where
 w:s.1.length<=100
 v:s.2= .none∨(∃l,s.2= .str l∧l.length<=100)∨(∃i:Int,s.2= .int i∧0<=i∧i<10)
theorem hY {i:Int}(h0:0<=i)(h1:i<10):(jT i).length=1:=by
 obtain⟨k,rfl⟩:=qK h0
 exact (by decide+kernel:∀k<10,(jT ((k:Nat):Int)).length=1) k (ï.mp h1)
theorem qA.len {s:St}(h:qA s):(stepT s).length<=201:=by
 have hw:=h.w
 unfold stepT
 rcases h.v with z|⟨l,z,hl⟩|⟨i,z,h0,h1⟩
 ·rw[z];exact À hw (by decide)
 ·rw[z];exact la (la (m:=[32]) (b:=1) hw (Å 1)) hl
 ·rw[z];exact À (la (la (m:=[32]) hw (Å 1)) (ð (hY h0 h1))) (by decide)
theorem d9 {l:List (List Nat)}{b:Nat}(h:∀w∈l,w.length<=b):(l.map List.length).sum<=b*l.length:=by
 induction l with
 |nil=>exact ý _
 |cons a l ih=>
  rw[ß,List.sum_cons,Ċ,vn,ą]
  exact Ë (ih λw hw=>h w (.tail _ hw)) (h a (.head _))
theorem ny:∀(n:Nat) (a b:List Int),sr (sI (n+1)) (a.map .int) (b.map .int)=some (a==b)
 |n,[],[]=>rfl
 |n,[],_::_=>rfl
 |n,_::_,[]=>rfl
 |n,x::a,y::b=>by
  show (match sI (n+1) (.int x) (.int y),sr (sI (n+1)) (a.map .int) (b.map .int) with
   |some x,some y=>some (x&&y)
   |_,_=>none)=_
  rw[ny n a b];rfl
noncomputable def K4:List Nat:=[59,32]
noncomputable def kB (ss:List St):List Nat:=ø K4 (ss.map stepT)
noncomputable def xM (cd:List (List Nat×Bool))(heads:List Int)(told:Bool):List Nat:=if (heads==Ţ cd&& !told)=true then [] else if heads.length=cd.length then o9 else iZ cd (heads.map Int.toNat)
noncomputable def ſ:Option (List Nat)->Bool
 |none=>false
 |some t=>[60].isPrefixOf t||[47,47].isPrefixOf t
noncomputable def Ŧ (cd:List (List Nat×Bool))(r:Rl):List Nat:=xM cd r.heads (ſ r.pat)++ž r.pat++[32]++kB r.steps
theorem bz {sep:List Nat}{b:Nat}:∀{l:List (List Nat)},(∀w∈l,w.length<=b)->(ø sep l).length<=(b+sep.length)*l.length
 |[],_=>ý _
 |[x],h=>À (h x (.head _)) (by rw[me,Nat.mul_one];exact Ï ..)
 |x::y::l,h=>by
  show (x++sep++ø sep (y::l)).length<=_
  rw[Ċ,vn,ą]
  exact la (la (h x (.head _)) (Å _)) (bz (l:=y::l) λw hw=>h w (.tail _ hw))
section
variable {n:Nat} {E:Ĩ} {Q:QT} {K:ST} {H:AH} {s:RS} {rl:List Rl}
theorem Lz {a b:List Int}:bh .eq (.tup (a.map .int)) (.tup (b.map .int)) H=some (a==b):=ny 6 a b
theorem kG {sep:List Nat}{l:List (List Nat)}(h:(l.map List.length).sum+sep.length*l.length<=ę)(q:Q (.str (ø sep l)) H):eS sep (.lst (l.map .str)) H Q:=by
 unfold eS
 show (match b7 (l.map .str) with|some ss=>_|none=>False)
 rw[strs_map]
 exact⟨h,q⟩
theorem KY {i:Int}(h0:0<=i)(h1:i<10)(q:Q (.str (jT i)) H):Ab i H Q:=by
 unfold Ab
 exact⟨h0,h1,q⟩
theorem Je {t:St}(ho:qA t)(q:Q (.str (stepT t)) H):Call (ú (n+1)) E 20 Q [Ū t] H:=by
 have hw:=ho.w
 have hv:=ho.v
 induction t with|mk w v=> ?_
 have c:∀{l:List Nat},l.length<=100->(w++[32]).length+l.length<=ę:=λh=>À (Ë (la hw (Å 1)) h) (by decide)
 rcases hv with rfl|⟨l,rfl,hl⟩|⟨i,rfl,h0,h1⟩
 ·exact call rfl q
 ·exact call rfl (č (À (Ë hw (Å 1)) (by decide)) (č (c hl) q))
 ·exact call rfl (č (À (Ë hw (Å 1)) (by decide)) (KY h0 h1 (č (c (by rw[hY h0 h1];decide)) q)))
theorem Fv {ss:List St}(ho:∀t∈ss,qA t)(hl:ss.length<=100)(q:Q (.str (kB ss)) H):Call (ú (n+2)) E 54 Q [.lst (ss.map Ū)] H:=by
 refine call rfl (bv Ū (λt=> .str (stepT t)) ss rfl trivial (d8 hl) ?_ λt ht K k=>Je (ho t ht) k)
 rw[show ss.map (λt=>V.str (stepT t))=(ss.map stepT).map .str by rw[õ];rfl]
 refine kG ?_ q
 have h:((ss.map stepT).map List.length).sum<=201*(ss.map stepT).length:=d9 λw hw=>by
  obtain⟨t,ht,rfl⟩:=Þ.mp hw
  exact (ho t ht).len
 rw[Â] at h⊢
 exact À (Ë (À h (Ò 201 hl)) (Ò 2 hl)) (by decide)
theorem Fx {heads:List Int}{told:Bool}(hc:s.conds.length<=100)(hn:∀k<s.conds.length,(nameAt s.conds k).length<=100)(hh:lG s.conds.length heads)(hl:heads.length<=100)(q:Q (.str (xM s.conds heads told)) H):Call (ú (n+2)) E 55 Q [ao s rl,.tup (heads.map .int),.bool told] H:=by
 have rest:(heads==Ţ s.conds&& !told)=false->ì (ú (n+1)) (DZ.drop 1) [some (ao s rl),some (.tup (heads.map .int)),some (.bool told)] E H (am Q):=λh1=>by
  unfold xM at q
  rw[h1,Ñ nofun] at q
  refine bC (λh=> ?_) λh=> ?_
  ·rw[Â,Â,è] at h
   rw[Î (cF h)] at q
   exact q
  ·rw[Â,Â,Ù] at h
   rw[Ñ λz=>h (È Int.ofNat z)] at q
   refine bv V.int (λx=> .str (nameAt s.conds x.toNat)) heads rfl trivial (d8 hl) ?_ λx hx K k=> ?_
   ·rw[show heads.map (λx=>V.str (nameAt s.conds x.toNat))=((heads.map Int.toNat).map (nameAt s.conds)).map .str by rw[õ,õ];rfl]
    have hle:∀w∈(heads.map Int.toNat).map (nameAt s.conds),w.length<=100:=λw hw=>by
     obtain⟨k,hk,rfl⟩:=Þ.mp hw
     obtain⟨x,hx,rfl⟩:=Þ.mp hk
     have hx:=hh x hx
     exact hn _ (ï.mp (by rw[gq hx.1];exact hx.2))
    have Cj:=d9 hle
    have hj:=bz (sep:=[44]) hle
    rw[Â,Â] at Cj hj
    have j9:(ø [44] ((heads.map Int.toNat).map (nameAt s.conds))).length<=10100:=À hj (Ò 101 hl)
    refine kG ?_ (č (À (Ë (Å 1) j9) (by decide)) (č (À (Ë (la (Å 1) j9) (Å 1)) (by decide)) q))
    rw[Â,Â]
    exact À (Ë (À Cj (Ò 100 hl)) (Ò 1 hl)) (by decide)
   ·have Mb:=hh x hx
    obtain⟨j,rfl⟩:=qK Mb.1
    obtain⟨b,gb,_⟩:=dz (ï.mp Mb.2)
    exact Ĕ gb k
 refine call rfl (zf (d8 hc) (bo Lz ?_))
 cases told with
 |true=>exact bC (λh=>rest (ī _)) λh=>rest (ī _)
 |false=>
  refine bC (λh=> ?_) λh=> ?_
  ·unfold xM at q
   rw[h] at q
   exact q
  ·exact rest (by rw[h];rfl)
end
structure oG (s:RS)(rl:List Rl):Prop extends FOK s rl where
 nm:∀k<s.conds.length,(nameAt s.conds k).length<=100
 hi:∀r∈rl,lG s.conds.length r.heads
 hl:∀r∈rl,r.heads.length<=100
 pl:∀r∈rl,∀t,r.pat=some t->t.length<=100
 os:∀r∈rl,∀t∈r.steps,qA t
 ix:∀i (h:i<rl.length),(rl[i]).n=i
 tl:s.tail.length<=1000
noncomputable def L4:Option (List Nat)->List Nat
 |none=>[]
 |some t=>t
noncomputable def gF (e:List Nat×Bool):List Nat:=(if e.2 then [37,120,32] else [37,115,32])++e.1
noncomputable def gk (e:List Nat×List Nat):List Nat:=e.1++[32]++e.2
noncomputable def gA:List Nat:=cs "%option nodefault"
noncomputable def ė (s:RS)(rl:List Rl):List (List Nat):=(s.conds.drop 1).map gF++(if s.dflt then [] else [gA])++s.defs.map gk++[[37,37]]++rl.map (Ŧ s.conds)
noncomputable def bD (s:RS)(rl:List Rl):List Nat:=ø [10] (ė s rl)++[10]++(if s.tail==[] then [] else [37,37]++[10]++s.tail)
section
variable {n:Nat} {E:Ĩ} {Q:QT} {K:ST} {H:AH} {K:ST} {s:RS} {rl:List Rl}
theorem vQ {α:Type}{P:α->Prop}{x y:α}{c:Prop}[d:Decidable c](a:P x)(b:P y):P (if c then x else y):=by
 cases d with
 |isTrue h=>exact a
 |isFalse h=>exact b
theorem ÁW {Φ:Ď}{i:Nat}{e:PE}{r:List PS}{ρ:Loc}(q:bA Φ e ρ E H (RH ρ i (iL (ì Φ r) E K))):L8 (ì Φ (.assign i e::r) ρ E) K H:=q
theorem zw {cd:List (List Nat×Bool)}(hc:∀k<cd.length,(nameAt cd k).length<=100){heads:List Int}(hh:lG cd.length heads)(hl:heads.length<=100)(told:Bool):(xM cd heads told).length<=10102:=by
 unfold xM
 refine vQ (P:=λw:List Nat=>w.length<=10102) (ý _) (vQ (P:=λw:List Nat=>w.length<=10102) (by decide) ?_)
 have hle:∀w∈(heads.map Int.toNat).map (nameAt cd),w.length<=100:=λw hw=>by
  obtain⟨k,hk,rfl⟩:=Þ.mp hw
  obtain⟨x,hx,rfl⟩:=Þ.mp hk
  have hx:=hh x hx
  exact hc _ (ï.mp (by rw[gq hx.1];exact hx.2))
 have hj:=bz (sep:=[44]) hle
 rw[Â,Â] at hj
 exact Ì (la (m:=[62]) (b:=1) (À hj (Ò 101 hl)) (Å 1))
theorem nH {ss:List St}(ho:∀t∈ss,qA t)(hl:ss.length<=100):(kB ss).length<=20300:=by
 have hle:∀w∈ss.map stepT,w.length<=201:=λw hw=>by
  obtain⟨t,ht,rfl⟩:=Þ.mp hw
  exact (ho t ht).len
 have hj:=bz (sep:=K4) hle
 rw[Â] at hj
 exact À hj (Ò 203 hl)
theorem Jf (F:oG s rl){r:Rl}(hr:r∈rl)(q:Q (.str (Ŧ s.conds r)) H):Call (ú (n+3)) E 56 Q [ao s rl,aZ r,.str (L4 r.pat)] H:=by
 have l1:=zw F.nm (F.hi r hr) (F.hl r hr) (ſ r.pat)
 have l2:=nH (F.os r hr) (F.st r hr)
 have l3:(ž r.pat).length<=100:=by
  cases hp:r.pat with
  |none=>decide
  |some t=>exact F.pl r hr t hp
 have rest:ì (ú (n+2)) (wJ.drop 2) [some (ao s rl),some (aZ r),some (.str (ž r.pat)),some (.bool (ſ r.pat))] E H (am Q):=
  Fx F.c F.nm (F.hi r hr) (F.hl r hr) (č (À (Ë l1 l3) (by decide)) (č (À (Ë (la l1 l3) (Å 1)) (by decide)) (Fv (F.os r hr) (F.st r hr) (č (À (Ë (la (m:=[32]) (b:=1) (la l1 l3) (Å 1)) l2) (by decide)) q))))
 have pre:∀K:ST,K .next [some (ao s rl),some (aZ r),some (.str (ž r.pat)),some (.bool (ſ r.pat))] H->ì (ú (n+2)) (wJ.take 2) [some (ao s rl),some (aZ r),some (.str (L4 r.pat)),none] E H K:=λK rest=>by
  refine bo (rk r.pat) ?_
  cases hp:r.pat with
  |none=>
   rw[hp] at rest
   exact ift rfl rest
  |some t=>
   rw[hp] at rest
   refine ar rfl (bo rfl (bC (λh1=> ?_) λh1=> ?_))
   ·have e:ſ (some t)=[60].isPrefixOf t:=by
     show ([60].isPrefixOf t||_)=_
     rw[show [60].isPrefixOf t=true from h1];rfl
    rw[e] at rest
    exact rest
   ·have e:ſ (some t)=[47,47].isPrefixOf t:=by
     show ([60].isPrefixOf t||_)=_
     rw[show [60].isPrefixOf t=false from h1];rfl
    rw[e] at rest
    exact rest
 exact call rfl (aP 2 (pre _ rest))
end
noncomputable def eO:Nat->List (List Int)
 |0=>[[]]
 |n+1=>eO n++(eO n).map (·++[(n:Int)])
theorem Jr:((List.range 5).all λc=>(eO c).all λl=>(List.range c).all λx=>(eO c).contains (insI (x:Int) l))=true:=by kernel_rfl
theorem tS:((List.range 5).all λc=>(eO c).all λl=>Ē l==l&&decide (l.length<=c)&&(!(l.length==c)||l==av c)&&((l.map Int.toNat).map (λk:Nat=>(k:Int))==l)&&(Ē (av c)==av c)&&(eO c).contains [])=true:=by kernel_rfl
theorem wU:(qx.all λcd=>Ē (Ţ cd)==Ţ cd)=true:=by kernel_rfl
theorem rY {c:Nat}(hc:c<=4){due:List Int}(h:lG c due):Ē due∈eO c:=by
 have key:∀(l acc:List Int),lG c l->acc∈eO c->l.foldl (λa x=>insI x a) acc∈eO c:=by
  intro l
  induction l with
  |nil=>intro acc _ ha;exact ha
  |cons x l ih=>
   intro acc hl ha
   rw[ah]
   refine ih _ (λy hy=>hl y (.tail _ hy)) ?_
   have hx:=hl x (.head _)
   have h2:=Jr
   simp only[É,Ö] at h2
   have h3:=h2 c (by lia) acc ha x.toNat (by lia)
   rw[show ((x.toNat:Nat):Int)=x by lia] at h3
   exact â.mp h3
 refine key due [] h ?_
 have h2:=tS
 simp only[É,Ö,Ð] at h2
 have:∃l,l∈eO c:=by
  have h0:((List.range 5).all λc=>(eO c).contains [])=true:=by kernel_rfl
  simp only[É,Ö] at h0
  exact⟨[],â.mp (h0 c (by lia))⟩
 obtain⟨l,hl⟩:=this
 exact â.mp (h2 c (by lia) l hl).2
theorem zr (x:Int)(l:List Int):insI x l≠[]:=by
 cases l with
 |nil=>simp[insI]
 |cons y l=>unfold insI;split<;>(try split)<;>simp
theorem rX {l:List Int}(h:l≠[]):Ē l≠[]:=by
 have key:∀(l acc:List Int),acc≠[]->l.foldl (λa x=>insI x a) acc≠[]:=by
  intro l
  induction l with
  |nil=>intro acc ha;exact ha
  |cons x l ih=>intro acc ha;simp only[ah];exact ih _ (zr _ _)
 cases l with
 |nil=>exact (h rfl).elim
 |cons x l=>unfold Ē;simp only[ah];exact key l _ (zr _ _)
structure HD (c:Nat)(l:List Int):Prop where
 s:Ē l=l
 len:l.length<=c
 full:l.length=c->l=av c
 nat:(l.map Int.toNat).map (λk:Nat=>(k:Int))=l
 rng:Ē (av c)=av c
theorem yv {c:Nat}(hc:c<=4){l:List Int}(h:l∈eO c):HD c l:=by
 have h2:=tS
 simp only[É,Ö,Ð,è,ċ,ť,á,Ù] at h2
 obtain⟨⟨⟨⟨⟨h3,h4⟩,h5⟩,h6⟩,h7⟩,_⟩:=h2 c (by lia) l h
 refine⟨h3,h4,λz=> ?_,h6,h7⟩
 rcases h5 with y|y
 ·exact (y z).elim
 ·exact y
theorem zt {c:Nat}{x:Int}(hx:0<=x∧x<(c:Int)):∀{l:List Int},lG c l->lG c (insI x l)
 |[],_=>λy hy=>by rw[insI,Ô] at hy;rw[hy];exact hx
 |z::l,h=>λy hy=>by
  unfold insI at hy
  split at hy
  ·rcases Û.mp hy with rfl|hy
   ·exact hx
   ·exact h y hy
  ·split at hy
   ·exact h y hy
   ·rcases Û.mp hy with rfl|hy
    ·exact h _ (.head _)
    ·exact zt hx (λu hu=>h u (.tail _ hu)) y hy
theorem oW {c:Nat}{l:List Int}(h:lG c l):lG c (Ē l):=by
 have key:∀(l acc:List Int),lG c l->lG c acc->lG c (l.foldl (λa x=>insI x a) acc):=by
  intro l
  induction l with
  |nil=>intro acc _ ha;exact ha
  |cons x l ih=>intro acc hl ha;simp only[ah];exact ih _ (λy hy=>hl y (.tail _ hy)) (zt (hl x (.head _)) ha)
 exact key l [] h (λy hy=>(nomatch hy))
structure GoodR (cd:List (List Nat×Bool))(r:Rl):Prop where
 p:∀t,r.pat=some t->t∈Ů
 s:∃k g,k<11∧k≠7∧g∈bj∧(cd.map (·.1)).contains g=true∧r.steps=vA k g
 h:r.heads∈eO cd.length
 ne:r.heads≠[]
 i:lG cd.length r.heads
 b:(r.pat.isNone&&ũ r.steps)=false
theorem pJ {cd:List (List Nat×Bool)}(hc:cd.length<=4){ldr:List cD}(hg:∀d∈ldr,q8 cd d):∀(j:Nat) (st:Option (List St)) (acc rl:List Rl),(∀ss,st=some ss->∃k g,k<11∧k≠7∧g∈bj∧(cd.map (·.1)).contains g=true∧ss=vA k g)->j<=ldr.length->ĸ (ldr.map Ĵ) j st acc= .ok rl->
 ∃new:List Rl,rl=new++acc.reverse∧new.length=j∧∀i (h:i<new.length),(new[i]).n=i∧(∃d,ldr[i]? =some d∧(new[i]).line=d.line)∧GoodR cd new[i]
 |0,st,acc,rl,kq,hj,h=>by
  cases h
  exact⟨[],rfl,rfl,λi h=>by simp at h⟩
 |j+1,st,acc,rl,kq,hj,h=>by
  have Xp:j<ldr.length:=by lia
  have hd:(ldr.map Ĵ)[j]? =some (Ĵ ldr[j]):=by rw[Ü,Ç Xp];rfl
  have hG:=hg _ (Ų Xp)
  rw[ĸ,hd] at h
  dsimp only at h
  have key:∀ss:List St,(∃k g,k<11∧k≠7∧g∈bj∧(cd.map (·.1)).contains g=true∧ss=vA k g)->(if ((Ĵ ldr[j]).pat.isNone&&ũ ss)=true then BT.err (Ĵ ldr[j]).start else ĸ (ldr.map Ĵ) j (some ss) (acc++[⟨j,(Ĵ ldr[j]).heads,(Ĵ ldr[j]).pat,ss,(Ĵ ldr[j]).line⟩]))= .ok rl->
   ∃new:List Rl,rl=new++acc.reverse∧new.length=j+1∧∀i (h:i<new.length),(new[i]).n=i∧(∃d,ldr[i]? =some d∧(new[i]).line=d.line)∧GoodR cd new[i]:=by
   intro ss Vr h
   cases hb:((Ĵ ldr[j]).pat.isNone&&ũ ss) with
   |true=>rw[hb,Î rfl] at h;contradiction
   |false=>
    rw[hb] at h
    dsimp only[b4] at h
    obtain⟨new,h1,h2,h3⟩:=pJ hc hg j (some ss) _ rl (λs hs=>by obtain rfl:=Ä hs;exact Vr) (by lia) h
    refine⟨new++[⟨j,(Ĵ ldr[j]).heads,(Ĵ ldr[j]).pat,ss,(Ĵ ldr[j]).line⟩],by rw[h1,ay];simp,by rw[Ã,h2];rfl,λi hi=> ?_⟩
    rw[Ã,Ċ,Ŀ] at hi
    rcases Ŝ i new.length with z|z
    ·rw[List.getElem_append_left z];exact h3 i z
    ·have:i=j:=by lia
     subst this
     have e:(new++[(⟨i,(Ĵ ldr[i]).heads,(Ĵ ldr[i]).pat,ss,(Ĵ ldr[i]).line⟩:Rl)])[i]'(by rw[Ã,Ċ,Ŀ];lia)=⟨i,(Ĵ ldr[i]).heads,(Ĵ ldr[i]).pat,ss,(Ĵ ldr[i]).line⟩:=by
      rw[List.getElem_append_right (by assumption)];simp[h2]
     rw[e]
     obtain⟨due,d1,d2,d3⟩:=hG.h
     refine⟨rfl,⟨ldr[i],Ç Xp,rfl⟩,hG.p,Vr,?_,?_,?_,hb⟩
     ·show (ldr[i]).heads∈_;rw[d3];exact rY hc d2
     ·show (ldr[i]).heads≠_;rw[d3];exact rX d1
     ·show lG _ (ldr[i]).heads;rw[d3];exact oW d2
  have e3:(Ĵ ldr[j]).steps=(ldr[j]).steps:=rfl
  rw[e3] at h
  obtain⟨k,g,g1,g2,g3,g4⟩:=hG.s
  cases hs:(ldr[j]).steps with
  |some o=>
   rw[hs] at h
   refine key o ?_ h
   rw[hs] at g4
   unfold BU at g4
   split at g4
   ·contradiction
   ·obtain rfl:=Ä g4;exact⟨k,g,g1,‹_›,g2,g3,rfl⟩
  |none=>
   rw[hs] at h
   cases st with
   |none=>contradiction
   |some o=>exact key o (kq o rfl) h
noncomputable def Vl:List (List Nat)->Bool
 |[]=>true
 |a::l=> !l.contains a&&Vl l
theorem Ds:∀{l:List (List Nat)},Vl l=true->l.Nodup
 |[],_=>G1
 |a::l,h=>by
  simp only[Vl,Ð,á] at h
  rw[bg]
  exact⟨λz=>(by rw[â.mpr z] at h;exact Bool.noConfusion h.1),Ds h.2⟩
noncomputable def SO (cd:List (List Nat×Bool)):Bool:=match cd with
 |[]=>false
 |e::tl=>e.1==da&&e.2==false&&Vl (cd.map (·.1))&&tl.all λe=>ď.contains e.1
theorem JU:(qx.all SO)=true:=by kernel_rfl
theorem GoodC.shape {cd:List (List Nat×Bool)}(h:GoodC cd):cd=(da,false)::cd.drop 1∧(cd.map (·.1)).Nodup∧∀e∈cd.drop 1,e.1∈ď:=by
 have h2:=JU
 simp only[É] at h2
 have h3:=h2 cd h
 cases cd with
 |nil=>contradiction
 |cons e tl=>
  simp only[SO,Ð,è,É] at h3
  obtain⟨⟨⟨a1,a2⟩,a3⟩,a4⟩:=h3
  refine⟨?_,Ds a3,λe he=>â.mp (a4 e he)⟩
  have:e=(da,false):=by cases e;dsimp only at a1 a2;rw[a1,a2]
  rw[this];rfl
theorem IE {w:List Nat}(h:w∈ď):∃i,i<3∧ď.getD i []=w:=by
 simp only[ď,Û,û,cE] at h
 rcases h with rfl|rfl|rfl
 ·exact⟨0,by decide,rfl⟩
 ·exact⟨1,by decide,rfl⟩
 ·exact⟨2,by decide,rfl⟩
theorem zF {w:List Nat}(h:w∈c9):∃i,i<3∧c9.getD i []=w:=by
 simp only[c9,Û,û,cE] at h
 rcases h with rfl|rfl|rfl
 ·exact⟨0,by decide,rfl⟩
 ·exact⟨1,by decide,rfl⟩
 ·exact⟨2,by decide,rfl⟩
theorem rg {w:List Nat}(h:w∈Ů):∃i,i<16∧Ů.getD i []=w:=by
 obtain⟨i,hi,rfl⟩:=cj h
 exact⟨i,hi,by rw[ù,Ç hi];rfl⟩
theorem Dq {a:List Nat}{pre tl:List (List Nat)}(h:(pre++a::tl).Nodup):pre.contains a=false:=by
 cases hc:pre.contains a with
 |false=>rfl
 |true=>
  rw[â] at hc
  rw[jy] at h
  exact (h.2.2 a hc a (.head _) rfl).elim
theorem uI:∀(tl:List (List Nat×Bool)) (rows:List (List Nat)) (pre:List (List Nat×Bool)),DI rows pre [] true none->((pre++tl).map (·.1)).Nodup->(∀e∈tl,e.1∈ď)->DI (rows++tl.map gF) (pre++tl) [] true none
 |[],rows,pre,D,_,_=>by simpa using D
 |e::tl,rows,pre,D,nd,hp=>by
  obtain⟨i,hi,hn⟩:=IE (hp e (.head _))
  have hc:(pre.map (·.1)).contains e.1=false:=by
   simp only[Ú,ß] at nd
   exact Dq nd
  have ew:gF e=dQ e.2 i:=by
   unfold gF dQ;simp only[hn];cases e.2<;>rfl
  have S:=D.step (w:=dQ e.2 i) (place:=0) (cd':=pre++[e]) (df':=[]) (op':=true) (yU hi) (λ_ g1 g2=>by
   have:=pA (df:=[]) (op:=true) e.2 hi g1 g2
   simp only[hn,hc] at this
   exact this)
  have:=uI tl (rows++[dQ e.2 i]) (pre++[e]) S (by simp only[Æ];exact nd) (λe he=>hp e (.tail _ he))
  simp only[Æ,Æ] at this
  simp only[ß,ew]
  exact this
theorem yR:(bE gA&&[37].isPrefixOf gA&&dZ gA)=true:=by kernel_rfl
theorem AB {cd:List (List Nat×Bool)}{df:List (List Nat×List Nat)}{op:Bool}(hc:GoodC cd)(hd:bO df):eo cd df op gA 0 cd df false:=by
 have h:=yR
 simp only[Ð] at h
 obtain⟨⟨h1,h2⟩,h3⟩:=h
 obtain⟨h5,h6⟩:=Ī.mp h1
 refine⟨λ_=>⟨h5,.inr ⟨h6,hc,hd,λn=>⟨[],?_⟩⟩⟩,λh=>by lia⟩
 have Hc:ő (oB n cd df op) gA=match aK FU cd op gA with
  | .ok oD r'=> .ok (oB n oD.1 df oD.2) r'| .err r'=> .err r'| .bad=> .bad:=by
  unfold ő
  rw[h2,Î rfl];rfl
 rw[Hc,show gA=cs "%option nodefault" from rfl,Bg]
theorem zE {cd:List (List Nat×Bool)}{op:Bool}:∀(tl:List (List Nat×List Nat)) (rows:List (List Nat)) (pre:List (List Nat×List Nat)),DI rows cd pre op none->((pre++tl).map (·.1)).Nodup->(∀e∈tl,e.1∈c9∧e.2∈Ů)->DI (rows++tl.map gk) cd (pre++tl) op none
 |[],rows,pre,D,_,_=>by simpa using D
 |e::tl,rows,pre,D,nd,hp=>by
  obtain⟨i,hi,hn⟩:=zF (hp e (.head _)).1
  obtain⟨w,hw,hr⟩:=rg (hp e (.head _)).2
  have hc:(pre.map (·.1)).contains e.1=false:=by
   simp only[Ú,ß] at nd
   exact Dq nd
  have ew:gk e=gg i 2 w:=by
   unfold gk gg;simp only[hn,hr]
   show e.1++[32]++e.2=e.1++cs " " ++e.2++[]
   simp only[à];rfl
  have S:=D.step (w:=gg i 2 w) (place:=0) (cd':=cd) (df':=pre++[e]) (op':=op) (yT hi (by decide) hw) (λ_ g1 g2=>by
   have:=tX (cd:=cd) (op:=op) (k:=2) hi (by decide) hw g1 g2
   simp only[hn,hr,hc] at this
   exact this)
  have:=zE tl (rows++[gg i 2 w]) (pre++[e]) S (by simp only[Æ];exact nd) (λe he=>hp e (.tail _ he))
  simp only[Æ,Æ] at this
  simp only[ß,ew]
  exact this
theorem Àa:DI [] [(da,false)] [] true none:=⟨λw h=>(nomatch h),⟨â.mp (by decide+kernel),⟨λe h=>(nomatch h),by simp⟩,λrest=>rfl⟩⟩
noncomputable def qu (cd:List (List Nat×Bool))(df:List (List Nat×List Nat))(op:Bool):List (List Nat):=(cd.drop 1).map gF++(if op then [] else [gA])++df.map gk
theorem zD {cd:List (List Nat×Bool)}{df:List (List Nat×List Nat)}{op:Bool}(hc:GoodC cd)(hd:bO df):DI (qu cd df op) cd df op none:=by
 obtain⟨h1,h2,h3⟩:=hc.shape
 have D1:=uI (cd.drop 1) [] [(da,false)] Àa (by simp only[bH,←h1];exact h2) h3
 simp only[bH,←h1,ğ] at D1
 have D2:DI ((cd.drop 1).map gF++(if op then [] else [gA])) cd [] op none:=by
  cases op with
  |true=>simpa using D1
  |false=>
   have h:=yR
   simp only[Ð] at h
   exact D1.step (w:=gA) (place:=0) h.2 (λ_ g1 g2=>AB g1 g2)
 have D3:=zE df _ [] D2 (by simp only[ğ];exact hd.nd) hd.m
 simp only[ğ] at D3
 exact D3
theorem Dg {cd:List (List Nat×Bool)}{df:List (List Nat×List Nat)}{op:Bool}{ends:Option (Nat×Nat)}{rows:List (List Nat)}(D:DI rows cd df op none){m:List Nat}(hm:ń m=true)(rest:List (List Nat)):aI (rows++m::rest) 1 1 xJ= .ok (oB (rows.length+1) cd df op) rest:=by
 simp only[D.m.2.2,aI,hm];rfl
theorem AA {j:Nat}{g:List Nat}(hj:j<11)(h7:j≠7)(hg:g∈bj):kB (vA j g)=oC j g:=by
 have h:((List.range 11).all λj=>bj.all λg=>j==7||kB (vA j g)==oC j g)=true:=by kernel_rfl
 simp only[É,Ö,ť,è] at h
 rcases h j hj g hg with z|z
 ·exact (h7 z).elim
 ·exact z
theorem wQ {t:List Nat}(h:t∈Ů)(hs:ſ (some t)=false):t∉Cq:=by
 have h2:(Ů.all λt=>ſ (some t)|| !Cq.contains t)=true:=by kernel_rfl
 simp only[É,ť,á] at h2
 rcases h2 t h with z|z
 ·rw[z] at hs;contradiction
 ·intro y;rw[â.mpr y] at z;contradiction
theorem plain_sorted {cd:List (List Nat×Bool)}(hc:GoodC cd):Ē (Ţ cd)=Ţ cd:=by
 have h:=wU
 simp only[É,è] at h
 exact h cd hc
theorem Ib {cd:List (List Nat×Bool)}(hc:GoodC cd){r:Rl}(G:GoodR cd r):∃own,o5 cd (xM cd r.heads (ſ r.pat)) own∧Ē (aM cd own)=r.heads∧tP (xM cd r.heads (ſ r.pat)) r.pat∧fx 34 (xM cd r.heads (ſ r.pat)):=by
 have hd:=yv hc.g.len G.h
 have hl:=hc.g.len
 unfold xM
 by_cases h1:(r.heads==Ţ cd&& !ſ r.pat)=true
 ·rw[Î h1]
  simp only[Ð,è,á] at h1
  refine⟨[],.none,?_,⟨λt ht=>⟨G.p t ht,λ_=>wQ (G.p t ht) (by rw[←ht];exact h1.2)⟩⟩,ţ (by decide)⟩
  show Ē (Ţ cd)=_
  rw[plain_sorted hc,h1.1]
 ·rw[Ñ h1]
  by_cases h2:r.heads.length=cd.length
  ·rw[Î h2]
   have jJ:(av cd.length==[])=false:=by
    rw[Ù,←hd.full h2];exact G.ne
   refine⟨_,.star,?_,⟨λt ht=>⟨G.p t ht,λz=>by cases z⟩⟩,ţ (by decide)⟩
   unfold aM
   rw[jJ]
   dsimp only[b4]
   rw[hd.rng,hd.full h2]
  ·rw[Ñ h2]
   have hks:∀k∈r.heads.map Int.toNat,k<cd.length:=by
    intro k hk
    obtain⟨x,hx,rfl⟩:=Þ.mp hk
    have:=G.i x hx
    lia
   have hlen:(r.heads.map Int.toNat).length<=4:=by rw[Â];have:=hd.len;lia
   have hfu:FU=12:=rfl
   refine⟨_,.told (r.heads.map Int.toNat) (by simpa using G.ne) (by lia) hks,?_,⟨λt ht=>⟨G.p t ht,λz=>by cases z⟩⟩,(FL hc hks).mono (by lia)⟩
   rw[hd.nat]
   have jJ:(r.heads==[])=false:=by rw[Ù];exact G.ne
   unfold aM
   rw[jJ]
   dsimp only[b4]
   exact hd.s
theorem fM {cd:List (List Nat×Bool)}{r:Rl}(G:GoodR cd r):∃j g,j<11∧j≠7∧g∈bj∧(cd.map (·.1)).contains g=true∧r.steps=vA j g∧Ŧ cd r=xM cd r.heads (ſ r.pat)++(ž r.pat++(cs " " ++oC j g)):=by
 obtain⟨j,g,h1,h2,h3,h4,h5⟩:=G.s
 refine⟨j,g,h1,h2,h3,h4,h5,?_⟩
 unfold Ŧ
 simp only[h5,AA h1 h2 h3]
 simp only[Æ];rfl
theorem C8:cs " " ∈lM:=by decide
section
variable {cd:List (List Nat×Bool)} {df:List (List Nat×List Nat)} {op:Bool} {n n0:Nat} {ldr:List cD}
theorem t6 (hc:GoodC cd){r:Rl}(G:GoodR cd r):dh cd df op n ldr [] (Ŧ cd r) 0 (ldr++[⟨r.heads,r.pat,some r.steps,n⟩]) []∧dZ (Ŧ cd r)=true:=by
 obtain⟨own,hh,hs,hp,ho⟩:=Ib hc G
 obtain⟨j,g,h1,h2,h3,h4,h5,h6⟩:=fM G
 have hb:=yN hp (cs " " ++oC j g)
 have hi:([]:List Nat)∈cp:=by decide
 have hr:=kQ (ind:=[]) hi hh hb
 rw[ğ] at hr
 have Y0:=hh.len hc
 have MU:=qV Y0.2
 have Xn:=hc.g.len
 have hfu:FU=12:=rfl
 have Xi:∀t,r.pat=some t->t∈Ů:=λt ht=>(hp.m t ht).1
 constructor
 ·rw[h6]
  refine⟨λ_=>⟨(Ī.mp hr).1,.inr ⟨(Ī.mp hr).2,λd hd=> ?_,[],?_⟩⟩,λh=>by lia⟩
  ·rw[ö,Ô] at hd
   rcases hd with hd|rfl
   ·exact .inl hd
   ·exact .inr ⟨Xi,⟨j,g,h1,h3,h4,by show some r.steps=_;unfold BU;rw[Ñ h2,h5]⟩,⟨_,uH hc own,MU.1,hs.symm⟩⟩
  ·have:=m5 (s:=ja cd df op n (ldr.map Ĵ) []) (st:=n) (ind:=[]) hc rfl hi (.inl rfl) hh hb (by show 0<=900;lia)
   rw[ğ] at this
   rw[this]
   show a0 _ FU n (aM cd (ĳ []++own)) _=_
   have e0:ĳ []++own=own:=rfl
   rw[e0,Il Xi C8 h1 h2 h3 h4 (MU.1.ok Xn (by have:=MU.2;lia))]
   unfold jL ja
   rw[hs,←h5,Ú];rfl
 ·rw[h6]
  exact (ho.app ((Dj Xi).app ((qS C8).app (KM h3 h1).2))).w (by decide)
noncomputable def Vg (d:cD):List Int×Option (List Nat)×Option (List St):=(d.heads,d.pat,d.steps)
noncomputable def Hi (r:Rl):List Int×Option (List Nat)×Option (List St):=(r.heads,r.pat,some r.steps)
theorem yH (hc:GoodC cd):∀(l:List Rl) (rr:List (List Nat)) (ldr:List cD),RI cd df op n0 rr ldr [] none->(∀r∈l,GoodR cd r)->∃Hs,RI cd df op n0 (rr++l.map (Ŧ cd)) (ldr++Hs) [] none∧Hs.map Vg=l.map Hi
 |[],rr,ldr,R,_=>⟨[],by simpa using R,rfl⟩
 |r::l,rr,ldr,R,hg=>by
  have G:=hg r (.head _)
  obtain⟨hS,hw⟩:=t6 (df:=df) (op:=op) (n:=n0+rr.length+1) (ldr:=ldr) hc G
  have R2:=R.step (w:=Ŧ cd r) (place:=0) hw (show bx cd.length (rr.length+1) [] from λe he=>absurd he û) (λd hd=>by
   simp only[ö,Ô] at hd
   rcases hd with hd|rfl
   ·exact .inl hd
   ·right
    intro ss Vr
    obtain rfl:=Ä Vr
    obtain⟨j,g,h1,h2,h3,h4,h5,_⟩:=fM G
    exact q9 (k:=j) (g:=g) h1 (by unfold BU;simp only[Ñ h2,h5])) (λ_=>hS)
  obtain⟨Hs,h1,h2⟩:=yH hc l _ _ R2 (λr hr=>hg r (.tail _ hr))
  simp only[Æ,Æ] at h1
  exact⟨_::Hs,h1,by simp only[ß,ß,h2];rfl⟩
theorem Yz:RI cd df op n0 [] [] [] none:=⟨λw hw=>(nomatch hw),λz hz=>(nomatch hz),λd hd=>(nomatch hd),⟨λd hd=>(nomatch hd),λrest=>rfl⟩⟩
end
noncomputable def vB (rl:List Rl)(l:List cD):List Rl:=List.zipWith (λr d=>{r with line:=d.line}) rl l
theorem rf {β:Type}(f:Rl->β)(hf:∀(r:Rl) n,f {r with line:=n}=f r):∀{rl:List Rl} {l:List cD},l.length=rl.length->(vB rl l).map f=rl.map f
 |[],l,_=>by cases l<;>rfl
 |r::rl,[],h=>by contradiction
 |r::rl,d::l,h=>by
  show f _::(vB rl l).map f=_
  simp only[hf,rf f hf (by simpa using h)];rfl
theorem lz {rl:List Rl}{ldr:List cD}(ht:ldr.map Vg=rl.map Hi)(hn:∀i (h:i<rl.length),(rl[i]).n=i)(hb:∀r∈rl,(r.pat.isNone&&ũ r.steps)=false):∀(j:Nat) (st:Option (List St)) (acc:List Rl),j<=rl.length->ĸ (ldr.map Ĵ) j st acc= .ok ((vB rl ldr).take j++acc.reverse)
 |0,st,acc,hj=>by rfl
 |j+1,st,acc,hj=>by
  have hlen:ldr.length=rl.length:=by have:=È List.length ht;simpa using this
  have Vy:j<rl.length:=by lia
  have Xq:j<ldr.length:=by lia
  have hd:(ldr.map Ĵ)[j]? =some (Ĵ ldr[j]):=by simp only[Ü,Ç Xq];rfl
  have he:Vg ldr[j]=Hi rl[j]:=by
   have:=È (λl=>l[j]?) ht
   simp only[Ü,Ç Vy,Ç Xq,Option.map_some,Option.some.injEq] at this
   exact this
  unfold Vg Hi at he
  simp only[LJ] at he
  obtain⟨e1,e2,e3⟩:=he
  rw[ĸ,hd]
  dsimp only
  have e4:(Ĵ ldr[j]).steps=some (rl[j]).steps:=e3
  have e5:(Ĵ ldr[j]).pat=(rl[j]).pat:=e2
  rw[e4,e5]
  dsimp only
  simp only[hb _ (Ų Vy)]
  dsimp only[b4]
  simp only[lz ht hn hb j _ _ (by lia)]
  have hz:(vB rl ldr)[j]? =some {rl[j] with line:=(ldr[j]).line}:=by
   unfold vB
   simp only[List.getElem?_zipWith,Ç Vy,Ç Xq]
  have e6:(⟨j,(Ĵ ldr[j]).heads,(rl[j]).pat,(rl[j]).steps,(Ĵ ldr[j]).line⟩:Rl)={rl[j] with line:=(ldr[j]).line}:=by
   have e7:(Ĵ ldr[j]).heads=(rl[j]).heads:=e1
   have e8:=hn j Vy
   simp only[e7]
   generalize rl[j]=r at e8
   cases r
   dsimp only at e8
   subst e8
   rfl
  simp only[e6,Äi,hz,ay]
  simp
theorem uq {β:Type}(f:List Nat->β):∀{es:List (List Nat×List Nat)},(es.map (·.1)).Nodup->∀e∈es,(es.map λe=>(e.1,f e.2)).lookup e.1=some (f e.2)
 |[],_,e,he=>nomatch he
 |a::es,h,e,he=>by
  rw[ß,bg] at h
  rw[ß,į]
  rcases Û.mp he with rfl|he
  ·rw[ô]
  ·have jJ:(e.1==a.1)=false:=Ù.mpr λz=>h.1 (by rw[←z];exact qg he)
   rw[jJ]
   exact uq f h.2 e he
section
variable {i:Nat} {Q:QT} {H:AH}
theorem DG {sep:List Nat}{l:List (List Nat)}(hi:H[i]? =some (some (.list (l.map .str))))(h:(l.map List.length).sum+sep.length*l.length<=ę)(q:Q (.str (ø sep l)) H):eS sep (.obj i) H Q:=by
 unfold eS seeL
 dsimp only
 rw[hi]
 show (match b7 (l.map .str) with|some ss=>_|none=>False)
 rw[strs_map]
 exact⟨h,q⟩
theorem YW {es:List (List Nat×V)}{k:List Nat}{v:V}(h:H[i]? =some (some (.dict es)))(hl:es.lookup k=some v)(q:Q v H):Kv i (.str k) H Q:=by
 unfold Kv
 rw[h];exact CA hl q
theorem cZ {R:List (List Nat)}{w:List Nat}:(H++[some (O.list (R.map .str))]).set H.length (some (.list (R.map .str++[.str w])))=H++[some (.list ((R++[w]).map .str))]:=by rw[cv,Ú];rfl
theorem NF {l:List V}(q:Q (.lst (l.drop 1)) H):d6 (.lst l) (some 1) none H Q:=by
 have e:oQ l (some (1:Int)) none=l.drop 1:=by
  show (l.take l.length).drop (bP (1:Nat) _)=_
  have h:=rQ l 1 l.length
  rw[vp,eC] at h
  rw[←h,eC];rfl
 unfold d6
 refine⟨λi h=>Ä h▸(by decide),nofun,?_⟩
 show Q (.lst (oQ l (some 1) none)) H
 rw[e];exact q
end
theorem ÁV {k:Nat}(h:k<=100):k<=small:=À h (by decide)
section
variable {n i j:Nat} {E:Ĩ} {Q:QT} {K:ST} {H:AH} {s:RS} {rl:List Rl} {ρ:Loc}
inductive IAp {α:Type}(P:Loc->Prop)(f:α->V)(g:α->List Nat)(l0:List α)(T tl:List (List Nat))(H:AH)(xs:List V):Loc->AH->Prop
 |mk {ρ:Loc} (R:List (List Nat)) (l:List α) (hp:P ρ) (hm:∀a∈l,a∈l0) (e:T=R++(l.map g++tl)) (hx:xs=l.map f):IAp P f g l0 T tl H xs ρ (H++[some (.list (R.map .str))])
theorem wB {α:Type}{P:Loc->Prop}{f:α->V}{g:α->List Nat}{T tl R0:List (List Nat)}{k:Option (List Nat)}{W:Loc->Ĩ->WS}{Q:ST}{v:V}(l0:List α)(hv:ŵ v (H++[some (.list (R0.map .str))])=some (l0.map f))(hs:∀H',Ũ v (H++[some (.list (R0.map .str))]) H')(hT:T.length<=small)(hP:P ρ)(e:T=R0++(l0.map g++tl))
 (h0:∀ρ R,P ρ->T=R++tl->Q .next ρ (H++[some (.list (R.map .str))]))
 (step:∀a∈l0,∀ρ R,P ρ->(R.map V.str).length<ę->g a∈T->∃Ĥ,dd k i (f a) ρ=some Ĥ∧∀K:ST,(∀ρ,P ρ->K .next ρ (H++[some (.list ((R++[g a]).map .str))]))->W Ĥ E (H++[some (.list (R.map .str))]) K):
 kFor ρ W E k i Q v (H++[some (.list (R0.map .str))]):=by
 refine Cg hv (IAp P f g l0 T tl H) (.mk R0 l0 hP (λ_ h=>h) e rfl) (λρ H' I=>⟨hs _,?_⟩) λx xs ρ H' I=>⟨hs _,?_⟩
 ·induction I with|mk R l hp hm e hx=> ?_
  cases l with
  |nil=>exact h0 _ _ hp e
  |cons a l=>contradiction
 ·induction I with|mk R l hp hm e hx=> ?_
  cases l with
  |nil=>contradiction
  |cons a l=>
  have Mc:x=f a:=(Ŋ hx).1
  have hb:R.length<=T.length:=by rw[e,Ã];exact Ï ..
  have hb:(R.map V.str).length<ę:=by rw[Â];exact Í (À hb hT) (by decide)
  obtain⟨Ĥ,h1,h2⟩:=step a (hm a (.head _)) _ R hp hb (by rw[e];exact ļ _ (.head _))
  subst Mc
  exact⟨Ĥ,h1,λK kk=>h2 K λρ hp=>kk.n (.mk _ l hp (λb h=>hm b (.tail _ h)) (e.trans (eH ..)) (Ŋ hx).2)⟩
inductive zY (s:RS)(rl:List Rl)(j h:Nat):Loc->Prop
 |mk (y4 y5 y6:Option V):zY s rl j h [some (ao s rl),some (.obj j),some (.lst (rl.map λr=> .str (L4 r.pat))),some (.obj h),y4,y5,y6,none]
theorem yB (h:(s.tail==[])=true):bD s rl=ø [10] (ė s rl)++[10]:=by unfold bD;rw[h,Î rfl,à]
theorem yC (h:(s.tail==[])=false):bD s rl=ø [10] (ė s rl)++[10]++[37,37]++[10]++s.tail:=by unfold bD;rw[h,Ñ nofun];exact ((Æ _ [10] _).trans (Æ _ [37,37] _)).symm
theorem jC {x y:List Nat}{a b:Nat}(h:x.length<=a)(k:y.length<=b)(q:a+b<=ę):x.length+y.length<=ę:=À (Ë h k) q
theorem Yo (F:oG s rl)(hw:∀w∈ė s rl,w.length<=100)(hT:(ė s rl).length<=302)(hp:zY s rl j H.length ρ)(q:∀L,Q (.str (bD s rl)) (H++L)):ì (ú n) (ek.drop 6) ρ E (H++[some (.list ((ė s rl).map .str))]) (am Q):=by
 induction hp with|mk y4 y5 y6=> ?_
 have hj:=À (bz (sep:=[10]) hw) (Ò 101 hT)
 have q':=q [some (.list ((ė s rl).map .str))]
 refine DG ć (À (Ë (À (d9 hw) (Ò 100 hT)) (Ò 1 hT)) (by decide)) (č (jC hj (Å 1) (by decide)) (bC (λh=> ?_) λh=> ?_))
 ·rw[yC (by rw[←á];exact h)] at q'
  refine č (jC (la hj (Å 1)) (Å 2) (by decide)) (č (jC (la (la hj (Å 1)) (Å 2)) (Å 1) (by decide)) (č (jC (la (la (la hj (Å 1)) (Å 2)) (Å 1)) F.tl (by decide)) q'))
 ·rw[yB (by rw[←Bool.not_eq_false'];exact h)] at q'
  exact q'
theorem Yp (F:oG s rl)(hw:∀w∈ė s rl,w.length<=100)(hT:(ė s rl).length<=302)(hp:zY s rl j H.length ρ){R:List (List Nat)}(e:ė s rl=R++rl.map (Ŧ s.conds))(q:∀L,Q (.str (bD s rl)) (H++L)):ì (ú (n+3)) (ek.drop 5) ρ E (H++[some (.list (R.map .str))]) (am Q):=by
 have fin:∀ρ R,zY s rl j H.length ρ->ė s rl=R++[]->iL (ì (ú (n+3)) (ek.drop 6)) E (am Q) .next ρ (H++[some (.list (R.map .str))]):=λρ R hp e=>by
  rw[à] at e
  rw[←e];exact Yo F hw hT hp q
 have step:∀r∈rl,∀ρ R,zY s rl j H.length ρ->(R.map V.str).length<ę->Ŧ s.conds r∈ė s rl->∃Ĥ,dd none 6 (aZ r) ρ=some Ĥ∧∀K:ST,(∀ρ,zY s rl j H.length ρ->K .next ρ (H++[some (.list ((R++[Ŧ s.conds r]).map .str))]))->ì (ú (n+3)) (hZ ek 5) Ĥ E (H++[some (.list (R.map .str))]) K:=λr hr ρ R hp hb _=>by
  induction hp with|mk y4 y5 y6=> ?_
  refine⟨_,rfl,λK kk=> ?_⟩
  obtain⟨k,hk,e⟩:=cj hr
  have hn:=F.ix k hk
  rw[e] at hn
  have hg:(rl.map λr=>V.str (L4 r.pat))[r.n]? =some (.str (L4 r.pat)):=by rw[hn,Ü,Ç hk,e];rfl
  refine bL ć rfl (Ĕ hg (Jf F hr (eK ć hb ?_)))
  rw[cZ];exact kk _ (.mk ..)
 induction hp with|mk y4 y5 y6=> ?_
 exact wB rl rfl (λ_=>trivial) (À hT (by decide)) (.mk y4 y5 y6) (e.trans (by rw[à])) fin step
theorem Yq (F:oG s rl)(hw:∀w∈ė s rl,w.length<=100)(hT:(ė s rl).length<=302)(hj:H[j]? =some (some (.dict (s.defs.map λe=>(e.1,V.str e.2)))))(hp:zY s rl j H.length ρ){R:List (List Nat)}(e:ė s rl=R++(s.defs.map gk++([[37,37]]++rl.map (Ŧ s.conds))))(q:∀L,Q (.str (bD s rl)) (H++L)):ì (ú (n+3)) (ek.drop 3) ρ E (H++[some (.list (R.map .str))]) (am Q):=by
 have fin:∀ρ R,zY s rl j H.length ρ->ė s rl=R++([[37,37]]++rl.map (Ŧ s.conds))->iL (ì (ú (n+3)) (ek.drop 4)) E (am Q) .next ρ (H++[some (.list (R.map .str))]):=λρ R hp e=>by
  have hb:R.length<=302:=À (by rw[e,Ã];exact Ï ..) hT
  have fin:=Yp (n:=n) (E:=E) F hw hT hp (e.trans (Æ ..).symm) q
  rw[←cZ] at fin
  induction hp with|mk y4 y5 y6=> ?_
  exact bL ć rfl (eK ć (Í (by rw[Â];exact hb) (by decide)) fin)
 have step:∀a∈s.defs,∀ρ R,zY s rl j H.length ρ->(R.map V.str).length<ę->gk a∈ė s rl->∃Ĥ,dd none 4 (.str a.1) ρ=some Ĥ∧∀K:ST,(∀ρ,zY s rl j H.length ρ->K .next ρ (H++[some (.list ((R++[gk a]).map .str))]))->ì (ú (n+3)) (hZ ek 3) Ĥ E (H++[some (.list (R.map .str))]) K:=λa ha ρ R hp hb _=>by
  induction hp with|mk y4 y5 y6=> ?_
  have hl:=F.dl a ha
  refine⟨_,rfl,λK kk=>bL ć rfl (č (jC hl.1 (Å 1) (by decide)) (YW (fJ hj _) (uq V.str F.nd a ha) (č (jC (la hl.1 (Å 1)) hl.2 (by decide)) (eK ć hb ?_))))⟩
  rw[cZ];exact kk _ (.mk ..)
 induction hp with|mk y4 y5 y6=> ?_
 exact wB s.defs (kZ F.nd λe he=>d8 (F.dl e he).1) (λ_=>trivial) (À hT (by decide)) (.mk y4 y5 y6) e fin step
theorem Yr (F:oG s rl)(hw:∀w∈ė s rl,w.length<=100)(hT:(ė s rl).length<=302)(hj:H[j]? =some (some (.dict (s.defs.map λe=>(e.1,V.str e.2)))))(hp:zY s rl j H.length ρ){R:List (List Nat)}(e:ė s rl=R++((if s.dflt then [] else [gA])++(s.defs.map gk++([[37,37]]++rl.map (Ŧ s.conds)))))(q:∀L,Q (.str (bD s rl)) (H++L)):ì (ú (n+3)) (ek.drop 2) ρ E (H++[some (.list (R.map .str))]) (am Q):=by
 have hb:R.length<=302:=À (by rw[e,Ã];exact Ï ..) hT
 have fin:=λR e=>Yq (n:=n) (E:=E) (R:=R) F hw hT hj hp e q
 induction hp with|mk y4 y5 y6=> ?_
 refine GP (λh=> ?_) λh=> ?_
 ·rw[h,Ñ nofun] at e
  have fin:=fin _ (e.trans (Æ ..).symm)
  rw[←cZ] at fin
  exact bL ć rfl (eK ć (Í (by rw[Â];exact hb) (by decide)) fin)
 ·rw[h,Î rfl] at e
  exact fin _ e
theorem Jg (F:oG s rl)(hw:∀w∈ė s rl,w.length<=100)(hj:H[j]? =some (some (.dict (s.defs.map λe=>(e.1,V.str e.2)))))(q:∀L,Q (.str (bD s rl)) (H++L)):Call (ú (n+4)) E 57 Q [ao s rl,.obj j,.lst (rl.map λr=> .str (L4 r.pat))] H:=by
 have hT:(ė s rl).length<=302:=by
  unfold ė
  have h1:(if s.dflt=true then ([]:List (List Nat)) else [gA]).length<=1:=vQ (P:=λl:List (List Nat)=>l.length<=1) (ý _) (Å _)
  rw[Ã,Ã,Ã,Ã,Â,Â,Â,ã]
  exact Ë (Ë (Ë (Ë (À (Ō ..) F.c) h1) F.d) (Å 1)) F.r
 have step:∀a∈s.conds.drop 1,∀ρ R,zY s rl j H.length ρ->(R.map V.str).length<ę->gF a∈ė s rl->∃Ĥ,dd (some [4,5]) 0 (Ň a) ρ=some Ĥ∧∀K:ST,(∀ρ,zY s rl j H.length ρ->K .next ρ (H++[some (.list ((R++[gF a]).map .str))]))->ì (ú (n+3)) (hZ ek 1) Ĥ E (H++[some (.list (R.map .str))]) K:=λa ha ρ R hp hb hm=>by
  induction hp with|mk y4 y5 y6=> ?_
  have hl:a.1.length<=100:=À (by unfold gF;rw[Ã];exact Ğ ..) (hw _ hm)
  refine⟨_,rfl,λK kk=>bL ć rfl ?_⟩
  rw[gF] at kk
  refine bC (λh=> ?_) λh=> ?_
  ·rw[h,Î rfl] at kk
   refine č (jC (Å 3) hl (by decide)) (eK ć hb ?_)
   rw[cZ];exact kk _ (.mk ..)
  ·rw[h,Ñ nofun] at kk
   refine č (jC (Å 3) hl (by decide)) (eK ć hb ?_)
   rw[cZ];exact kk _ (.mk ..)
 refine call rfl (NF (wB (R0:=[]) (tl:=(if s.dflt then [] else [gA])++(s.defs.map gk++([[37,37]]++rl.map (Ŧ s.conds)))) (s.conds.drop 1) (È some LL.symm) (λ_=>trivial) (À hT (by decide)) (.mk none none none) ?_ (λρ R hp e=>Yr F hw hT hj hp e q) step))
 unfold ė
 rw[Æ,Æ,Æ];rfl
end
section
variable {n i j:Nat} {E:Ĩ} {Q:QT} {K:ST} {H:AH} {s:RS} {rl:List Rl} {ρ:Loc}
inductive XO (s:RS)(rl:List Rl)(H:AH)(xs:List V):Loc->AH->Prop
 |mk (dn l:List (List Nat×List Nat)) (y2:Option V):s.defs=dn++l->xs=(l.map λe=> .str e.1)->XO s rl H xs [some (ao s rl),some (.obj H.length),y2,none] (H++[some (.dict (dn.map λe=>(e.1,V.str e.2)))])
theorem nX (F:oG s rl)(hw:∀w∈ė s rl,w.length<=100)(q:∀L,Q (.str (bD s rl)) (H++L)):Call (ú (n+5)) E 58 Q [ao s rl] H:=by
 refine call rfl (Cg (kZ F.nd λe he=>d8 (F.dl e he).1) (XO s rl H) (.mk [] s.defs none rfl rfl) (λρ H' I=>⟨trivial,?_⟩) λx xs ρ H' I=>⟨trivial,?_⟩)
 ·induction I with|mk dn l y2 e hx=> ?_
  cases l with
  |cons a l=>contradiction
  |nil=>
  rw[à] at e
  rw[←e]
  refine bv aZ (λr=> .str (L4 r.pat)) rl rfl trivial (d8 F.r) (Jg F hw ć λL=> ?_) λr hr K k=> ?_
  ·rw[Æ];exact q _
  ·induction r with|mk a b pat c d=> ?_
   cases pat with
   |none=>exact k
   |some t=>exact k
 ·induction I with|mk dn l y2 e hx=> ?_
  cases l with
  |nil=>contradiction
  |cons a l=>
  have Mc:=(Ŋ hx).1
  subst Mc
  refine⟨_,rfl,λK kk=> ?_⟩
  have hm:a∈s.defs:=by rw[e];exact ļ _ (.head _)
  have hnd:=F.nd
  rw[e,Ú,ß,jy] at hnd
  have hb:dn.length<=100:=À (by rw[e,Ã];exact Ï ..) F.d
  have nx:=XO.mk (s:=s) (rl:=rl) (H:=H) (dn++[a]) l (some (.str a.1)) (e.trans (eH ..)) (Ŋ hx).2
  refine CA (pQ F.nd a hm) (Sh ć (by rw[Â];exact d8 hb) (kk.n ?_))
  rw[Ú] at nx
  rw[cv,m8 (by rw[õ];exact Äm.mpr λz=>hnd.2.2 _ (â.mp z) _ (.head _) rfl)]
  exact nx
end
theorem pR:∀l:List (List Nat),ø [] l=l.flatten
 |[]=>rfl
 |[x]=>(à x).symm
 |x::y::l=>by
  show x++[]++ø [] (y::l)=_
  rw[pR (y::l),à];rfl
noncomputable def ky (rows:List (List Nat)):List Nat:=(rows.map λw=>w++[10]).flatten
theorem hJ (a b:List (List Nat)):ky (a++b)=ky a++ky b:=by unfold ky;rw[Ú,List.flatten_append]
theorem j0 (w:List Nat):ky [w]=w++[10]:=à _
theorem kY:∀{rows:List (List Nat)},rows≠[]->ø [10] rows++[10]=ky rows
 |[],h=>(h rfl).elim
 |[x],_=>(j0 x).symm
 |x::y::l,_=>by
  show x++[10]++ø [10] (y::l)++[10]=_
  rw[Æ,kY (rows:=y::l) nofun];rfl
theorem hH {b:Nat}:∀{rows:List (List Nat)},(∀w∈rows,w.length<=b)->(ky rows).length<=(b+1)*rows.length
 |[],_=>ý _
 |x::rows,h=>by
  rw[Ċ,vn,ą]
  exact la (la (m:=[10]) (h x (.head _)) (Å 1)) (hH λw hw=>h w (.tail _ hw))
theorem wR {t:List Nat}(h:t∈Ů):ſ (some t)=(t==[60,98]||t==[47,47,99]):=by
 have h2:(Ů.all λt=>ſ (some t)==(t==[60,98]||t==[47,47,99]))=true:=by kernel_rfl
 exact è.mp (É.mp h2 t h)
theorem HT {pat:Option (List Nat)}(h:∀t,pat=some t->t∈Ů):ſ pat=(ž pat==[60,98]||ž pat==[47,47,99]):=by
 cases pat with
 |none=>rfl
 |some t=>exact wR (h t rfl)
noncomputable abbrev jc (s:RS)(rl:List Rl)(T:List Nat)(y8 y9 y10 y11 y12:Option V):Loc:=[some (cR s rl),some (.tup (s.defs.map fW)),some (.tup (s.conds.map Ň)),some (.tup (rl.map zT)),some (.bool s.dflt),some (.str s.tail),some (.tup ((Ţ s.conds).map .int)),some (.str T),y8,y9,y10,y11,y12]
noncomputable abbrev iu:List PS:=hZ kM 5
section
variable {n i j:Nat} {E:Ĩ} {Q:QT} {K:ST} {H:AH} {s:RS} {rl:List Rl} {ρ:Loc} {r:Rl} {T:List Nat} {y9 y12:Option V}
theorem join_nil {l:List (List Nat)}(h:(l.map List.length).sum<=ę)(q:Q (.str l.flatten) H):eS [] (.lst (l.map .str)) H Q:=by
 rw[←pR] at q
 exact kG (by rw[Ŀ,Nat.zero_mul];exact h) q
theorem Lb {a b:List Int}:bh .ne (.tup (a.map .int)) (.tup (b.map .int)) H=some (!(a==b)):=È (Option.map (!·)) Lz
theorem Ym (F:oG s rl)(hr:r∈rl)(hT:T.length<=40604)(k:∀y,K .next (jc s rl (T++ž r.pat++[32]++kB r.steps++[10]) (some (.tup (r.heads.map .int))) y9 (some (cq (some r.steps))) (some (.str (ž r.pat))) y) H):ì (ú n) (iu.drop 2) (jc s rl T (some (.tup (r.heads.map .int))) y9 (some (cq (some r.steps))) (some (.str (ž r.pat))) y12) E H K:=by
 have l2:=nH (F.os r hr) (F.st r hr)
 have l3:(ž r.pat).length<=100:=by
  cases hp:r.pat with
  |none=>decide
  |some t=>exact F.pl r hr t hp
 have a1:=la hT l3
 have a2:=la (m:=[32]) a1 (Å 1)
 refine bv Am (λt=> .str (stepT t)) r.steps rfl trivial (d8 (F.st r hr)) ?_ λt ht K k=> ?_
 ·rw[show r.steps.map (λt=>V.str (stepT t))=(r.steps.map stepT).map .str by rw[õ];rfl]
  refine č (jC hT l3 (by decide)) (č (jC a1 (Å 1) (by decide)) (kG ?_ (č (jC a2 l2 (by decide)) (č (jC (la a2 l2) (Å 1) (by decide)) (k _)))))
  have h:=d9 (b:=201) (l:=r.steps.map stepT) λw hw=>by
   obtain⟨t,ht,rfl⟩:=Þ.mp hw
   exact (F.os r hr t ht).len
  rw[Â] at h⊢
  exact À (Ë (À h (Ò 201 (F.st r hr))) (Ò 2 (F.st r hr))) (by decide)
 ·have ho:=F.os r hr t ht
  have hw:=ho.w
  have hv:=ho.v
  induction t with|mk w v=> ?_
  rcases hv with rfl|⟨l,rfl,hl⟩|⟨i,rfl,h0,h1⟩
  ·exact k
  ·exact č (jC hw (Å 1) (by decide)) (č (jC (la hw (Å 1)) hl (by decide)) k)
  ·exact č (jC hw (Å 1) (by decide)) (KY h0 h1 (č (jC (la hw (Å 1)) (ð (hY h0 h1)) (by decide)) k))
theorem Yl (F:oG s rl)(hr:r∈rl)(hT:T.length<=30502){y10 y11:Option V}(k:K .next (jc s rl (T++if r.heads.length=s.conds.length then o9 else iZ s.conds (r.heads.map Int.toNat)) (some (.tup (r.heads.map .int))) y9 y10 y11 y12) H):ì (ú n) (sD iu 1) (jc s rl T (some (.tup (r.heads.map .int))) y9 y10 y11 y12) E H K:=by
 have hl:=F.hl r hr
 refine bC (λh=> ?_) λh=> ?_
 ·rw[Â,Â,è] at h
  rw[Î (cF h)] at k
  exact č (jC hT (Å 3) (by decide)) k
 ·rw[Â,Â,Ù] at h
  rw[Ñ λz=>h (È Int.ofNat z)] at k
  refine č (jC hT (Å 1) (by decide)) (bv V.int (λx=> .str (nameAt s.conds x.toNat)) r.heads rfl trivial (d8 hl) ?_ λx hx K k=> ?_)
  ·rw[show r.heads.map (λx=>V.str (nameAt s.conds x.toNat))=((r.heads.map Int.toNat).map (nameAt s.conds)).map .str by rw[õ,õ];rfl]
   have hle:∀w∈(r.heads.map Int.toNat).map (nameAt s.conds),w.length<=100:=λw hw=>by
    obtain⟨k,hk,rfl⟩:=Þ.mp hw
    obtain⟨x,hx,rfl⟩:=Þ.mp hk
    have hx:=F.hi r hr x hx
    exact F.nm _ (ï.mp (by rw[gq hx.1];exact hx.2))
   have Cj:=d9 hle
   have hj:=bz (sep:=[44]) hle
   rw[Â,Â] at Cj hj
   have j9:(ø [44] ((r.heads.map Int.toNat).map (nameAt s.conds))).length<=10100:=À hj (Ò 101 hl)
   refine kG ?_ (č (jC (la hT (Å 1)) j9 (by decide)) (č (jC (la (la hT (Å 1)) j9) (Å 1) (by decide)) ?_))
   ·rw[Â,Â]
    exact À (Ë (À Cj (Ò 100 hl)) (Ò 1 hl)) (by decide)
   ·rw[iZ,←bH,←Æ,←Æ] at k
    exact k
  ·have Mb:=F.hi r hr x hx
   obtain⟨j,rfl⟩:=qK Mb.1
   obtain⟨b,gb,_⟩:=dz (ï.mp Mb.2)
   exact Ĕ gb k
theorem Yn (F:oG s rl)(hp:∀t,r.pat=some t->t∈Ů)(hr:r∈rl)(hT:T.length<=30502){y10:Option V}(k:∀U,U=T++xM s.conds r.heads (ſ r.pat)->K .next (jc s rl U (some (.tup (r.heads.map .int))) y9 y10 (some (.str (ž r.pat))) y12) H):ì (ú n) ((iu.drop 1).take 1) (jc s rl T (some (.tup (r.heads.map .int))) y9 y10 (some (.str (ž r.pat))) y12) E H K:=by
 have yes:(r.heads==Ţ s.conds&& !ſ r.pat)=false->ì (ú n) (sD iu 1) (jc s rl T (some (.tup (r.heads.map .int))) y9 y10 (some (.str (ž r.pat))) y12) E H K:=λh=>Yl F hr hT (k _ (by unfold xM;rw[h,Ñ ó]))
 rw[HT hp] at yes k
 refine bo Lb (GP (λh1=> ?_) λh1=> ?_)
 ·exact yes (by rw[h1];rfl)
 ·refine bC (λh2=> ?_) λh2=> ?_
  ·exact yes (by rw[show (ž r.pat==[60,98])=true from h2];exact ī _)
  ·rw[show (ž r.pat==[60,98])=false from h2] at yes k
   refine bC (λh3=> ?_) λh3=> ?_
   ·exact yes (by rw[show (ž r.pat==[47,47,99])=true from h3];exact ī _)
   ·exact k T (by unfold xM;rw[show (ž r.pat==[47,47,99])=false from h3,h1];exact (à _).symm)
end
section
variable {n i j:Nat} {E:Ĩ} {Q:QT} {K:ST} {H:AH} {s:RS} {rl:List Rl} {ρ:Loc} {r:Rl} {T:List Nat} {y7 y8 y9 y10 y11 y12:Option V}
theorem Ny {l:List V}(hl:1<=l.length)(q:Q (.tup (l.drop 1)) H):d6 (.tup l) (some 1) none H Q:=by
 unfold d6
 exact⟨λi h=>Ä h▸(by decide),nofun,rfl,rfl,hl,q⟩
theorem Yk (F:oG s rl)(hp:∀t,r.pat=some t->t∈Ů)(hr:r∈rl)(hT:T.length<=30502)(k:∀y9 y10 y11 y12,K .next (jc s rl (T++(Ŧ s.conds r++[10])) (some (.tup (r.heads.map .int))) y9 y10 y11 y12) H):ì (ú n) iu (jc s rl T (some (.tup (r.heads.map .int))) (some (aQ r.pat)) (some (cq (some r.steps))) y11 y12) E H K:=by
 have l1:=zw F.nm (F.hi r hr) (F.hl r hr) (ſ r.pat)
 have pre:∀K:ST,K .next (jc s rl T (some (.tup (r.heads.map .int))) (some (aQ r.pat)) (some (cq (some r.steps))) (some (.str (ž r.pat))) y12) H->ì (ú n) (iu.take 1) (jc s rl T (some (.tup (r.heads.map .int))) (some (aQ r.pat)) (some (cq (some r.steps))) y11 y12) E H K:=λK k=>by
  refine bo (qF r.pat) ?_
  cases hp:r.pat with
  |none=>
   rw[hp] at k
   exact ift rfl k
  |some t=>
   rw[hp] at k
   exact ar rfl k
 refine aP 1 (pre _ (aP 1 (Yn F hp hr hT ?_)))
 rintro U rfl
 refine Ym F hr (la hT l1) λy=> ?_
 have k:=k (some (aQ r.pat)) (some (cq (some r.steps))) (some (.str (ž r.pat))) y
 rw[Ŧ,←Æ,←Æ,←Æ,←Æ] at k
 exact k
inductive XM (s:RS)(rl:List Rl)(H:AH)(xs:List V):Loc->AH->Prop
 |mk (R:List (List Nat)) (l:List Rl) (y8 y9 y10 y11 y12:Option V) (hm:∀r∈l,r∈rl) (e:ė s rl=R++l.map (Ŧ s.conds)) (hx:xs=l.map zT):XM s rl H xs (jc s rl (ky R) y8 y9 y10 y11 y12) H
theorem Yh (F:oG s rl)(hp:∀r∈rl,∀t,r.pat=some t->t∈Ů)(hw:∀w∈ė s rl,w.length<=100)(hT:(ė s rl).length<=302)(hn:ė s rl≠[]){R:List (List Nat)}(e:ė s rl=R++rl.map (Ŧ s.conds))(q:Q (.str (bD s rl)) H):ì (ú n) (kM.drop 5) (jc s rl (ky R) y8 y9 y10 y11 y12) E H (am Q):=by
 refine Cg rfl (XM s rl H) (.mk R rl _ _ _ _ _ (λ_ h=>h) e rfl) (λρ H' I=>⟨trivial,?_⟩) λx xs ρ H' I=>⟨trivial,?_⟩
 ·induction I with|mk R l y8 y9 y10 y11 y12 hm e hx=> ?_
  cases l with
  |cons a l=>contradiction
  |nil=>
  rw[dE,à] at e
  have hf:=hH hw
  rw[←e]
  refine bC (λh=> ?_) λh=> ?_
  ·rw[yB h,kY hn] at q
   exact q
  ·rw[yC h,kY hn,Æ (ky _)] at q
   have hf:=À hf (Ò 101 hT)
   exact č (jC hf (Å 3) (by decide)) (č (jC (la hf (Å 3)) F.tl (by decide)) q)
 ·induction I with|mk R l y8 y9 y10 y11 y12 hm e hx=> ?_
  cases l with
  |nil=>contradiction
  |cons r l=>
  have Mc:=(Ŋ hx).1
  subst Mc
  have hr:=hm r (.head _)
  have hR:(ky R).length<=30502:=À (hH (b:=100) λw h=>hw w (by rw[e];exact Ĉ _ h)) (Ò 101 (À (by rw[e,Ã];exact Ï ..) hT))
  refine⟨_,rfl,λK kk=>Yk F (hp r hr) hr hR λy9 y10 y11 y12=> ?_⟩
  have nx:=XM.mk (s:=s) (H:=H) (R++[Ŧ s.conds r]) l (some (.tup (r.heads.map .int))) y9 y10 y11 y12 (λr h=>hm r (.tail _ h)) (e.trans (eH ..)) (Ŋ hx).2
  rw[hJ,j0] at nx
  exact kk.n nx
theorem Sd (F:oG s rl)(hp:∀r∈rl,∀t,r.pat=some t->t∈Ů)(hw:∀w∈ė s rl,w.length<=100)(hT:(ė s rl).length<=302){R:List (List Nat)}(e:ė s rl=R++s.defs.map gk++[[37,37]]++rl.map (Ŧ s.conds))(q:Q (.str (bD s rl)) H):ì (ú n) (kM.drop 4) (jc s rl (ky R) y8 y9 y10 y11 y12) E H (am Q):=by
 have hn:ė s rl≠[]:=λz=>by
  have z:=È List.length (e.symm.trans z)
  rw[Ã,Ã] at z
  exact Nat.succ_ne_zero _ (Nat.add_eq_zero_iff.mp z).1
 have sub:∀w,w∈R++s.defs.map gk->w.length<=100:=λw h=>hw w (by rw[e];exact Ĉ _ (Ĉ _ h))
 have hl:(R++s.defs.map gk).length<=302:=by rw[e] at hT;exact À (Á1 _ _).length_le (À (Á1 _ _).length_le hT)
 have hf:=hH sub
 rw[hJ,Ã] at hf
 have hf:=À hf (Ò 101 hl)
 have fin:=Yh (n:=n) (E:=E) (y8:=y8) (y9:=y9) (y10:=y10) (y11:=y11) (y12:=y12) F hp hw hT hn e q
 rw[hJ,hJ,j0] at fin
 refine bv fW (λe=> .str (gk e++[10])) s.defs rfl trivial (d8 F.d) ?_ λe he K k=> ?_
 ·rw[show s.defs.map (λe=>V.str (gk e++[10]))=((s.defs.map gk).map λw=>w++[10]).map .str by rw[õ,õ];rfl]
  refine join_nil ?_ (č (À hf (by decide)) (č (by rw[Ã];exact À (Ë hf (Å 3)) (by decide)) fin))
  have h:=d9 (b:=101) (l:=(s.defs.map gk).map λw=>w++[10]) λw h=>by
   obtain⟨u,hu,rfl⟩:=Þ.mp h
   exact la (m:=[10]) (sub u (ļ _ hu)) (Å 1)
  rw[Â,Â] at h
  exact À h (À (Ò 101 F.d) (by decide))
 ·have hl:=F.dl e he
  exact č (jC hl.1 (Å 1) (by decide)) (č (jC (la hl.1 (Å 1)) hl.2 (by decide)) (č (jC (la (la hl.1 (Å 1)) hl.2) (Å 1) (by decide)) k))
theorem Yi (F:oG s rl)(hp:∀r∈rl,∀t,r.pat=some t->t∈Ů)(hw:∀w∈ė s rl,w.length<=100)(hT:(ė s rl).length<=302){R:List (List Nat)}(hR:R=(s.conds.drop 1).map gF)(q:Q (.str (bD s rl)) H):ì (ú n) (kM.drop 3) (jc s rl (ky R) y8 y9 y10 y11 y12) E H (am Q):=by
 have e:ė s rl=R++(if s.dflt then [] else [gA])++s.defs.map gk++[[37,37]]++rl.map (Ŧ s.conds):=by rw[hR];rfl
 refine GP (λh=> ?_) λh=> ?_
 ·rw[h,Ñ ó] at e
  have fin:=Sd (n:=n) (E:=E) (y8:=y8) (y9:=y9) (y10:=y10) (y11:=y11) (y12:=y12) F hp hw hT e q
  rw[hJ,j0] at fin
  refine č (jC (hH (b:=100) λw h=>hw w (by rw[e];exact Ĉ _ (Ĉ _ (Ĉ _ (Ĉ _ h))))) (Å 18) ?_) fin
  rw[hR,Â,ã]
  exact À (ě (Ò 101 (À (Ō ..) F.c)) 18) (by decide)
 ·rw[h,Î rfl,à] at e
  exact Sd F hp hw hT e q
theorem AD (F:oG s rl):(ė s rl).length<=302:=by
 unfold ė
 have h1:(if s.dflt=true then ([]:List (List Nat)) else [gA]).length<=1:=vQ (P:=λl:List (List Nat)=>l.length<=1) (ý _) (Å _)
 rw[Ã,Ã,Ã,Ã,Â,Â,Â,ã]
 exact Ë (Ë (Ë (Ë (À (Ō ..) F.c) h1) F.d) (Å 1)) F.r
theorem Yj (F:oG s rl)(hp:∀r∈rl,∀t,r.pat=some t->t∈Ů)(hw:∀w∈ė s rl,w.length<=100)(RO:1<=s.conds.length)(q:Q (.str (bD s rl)) H):ì (ú n) (kM.drop 2) [some (cR s rl),some (.tup (s.defs.map fW)),some (.tup (s.conds.map Ň)),some (.tup (rl.map zT)),some (.bool s.dflt),some (.str s.tail),some (.tup ((Ţ s.conds).map .int)),y7,y8,y9,y10,y11,y12] E H (am Q):=by
 have sub:∀e∈s.conds.drop 1,(gF e).length<=100:=λe he=>hw _ (Ĉ _ (Ĉ _ (Ĉ _ (Ĉ _ (qg he)))))
 have hl:(s.conds.drop 1).length<=100:=by rw[ã];exact À (Ō ..) F.c
 refine Ny (by rw[Â];exact RO) (bv Ň (λe=> .str (gF e++[10])) (s.conds.drop 1) (È some LL.symm) trivial (d8 hl) ?_ λe he K k=> ?_)
 ·rw[show (s.conds.drop 1).map (λe=>V.str (gF e++[10]))=(((s.conds.drop 1).map gF).map λw=>w++[10]).map .str by rw[õ,õ];rfl]
  refine join_nil ?_ (Yi F hp hw (AD F) rfl q)
  have h:=d9 (b:=101) (l:=((s.conds.drop 1).map gF).map λw=>w++[10]) λw h=>by
   obtain⟨u,hu,rfl⟩:=Þ.mp h
   obtain⟨e,he,rfl⟩:=Þ.mp hu
   exact la (m:=[10]) (sub e he) (Å 1)
  rw[Â,Â] at h
  exact À h (À (Ò 101 hl) (by decide))
 ·have h:=sub e he
  rw[gF] at k h
  have h1:e.1.length<=100:=À (by rw[Ã];exact Ğ ..) h
  refine bC (λh=> ?_) λh=> ?_
  ·rw[h,Î rfl] at k
   exact č (jC (Å 3) h1 (by decide)) (č (jC (la (Å 3) h1) (Å 1) (by decide)) k)
  ·rw[h,Ñ ó] at k
   exact č (jC (Å 3) h1 (by decide)) (č (jC (la (Å 3) h1) (Å 1) (by decide)) k)
theorem FB (F:oG s rl)(hp:∀r∈rl,∀t,r.pat=some t->t∈Ů)(hw:∀w∈ė s rl,w.length<=100)(RO:1<=s.conds.length)(q:Q (.str (bD s rl)) H):Call (ú (n+1)) E 64 Q [cR s rl] H:=by
 have fin:=Yj (n:=n) (E:=E) (y7:=none) (y8:=none) (y9:=none) (y10:=none) (y11:=none) (y12:=none) F hp hw RO q
 refine call rfl ?_
 show oK ((s.conds.map Ň).length:Int) H _
 rw[Â]
 refine eR (d8 F.c) (eh (dk s.conds) (cg (d8 F.c)) trivial (by unfold fS;rw[Â,aY];exact d8 F.c) (by rw[fg];exact fin) λy hy K k=> ?_)
 obtain⟨j,hj,rfl⟩:=Þ.mp hy
 have j9:j<s.conds.length:=(Ľ s.conds.length▸(dI.mp hj).2:j<s.conds.length)
 have iR:(s.conds.map Ň)[j]? =some (Ň s.conds[j]):=by rw[Ü,Ç j9];rfl
 have hk:dk s.conds (.int (j:Int))=if s.conds[j].2 then none else some (.int (j:Int)):=by
  refine (È (Option.map V.int) (tx j9)).trans ?_
  cases s.conds[j].2<;>rfl
 rw[hk] at k
 exact Ĕ iR (gC (P:=λz=>K z H) k (λk _=>k) λk _=>k)
end
noncomputable def xY:List Nat:=cs "rest <A> %%"
noncomputable def tq:List Nat:=ø [10] [xY,[37,37]]
structure eN (s:RS)(rl:List Rl):Prop where
 c:GoodC s.conds
 d:bO s.defs
 dl:s.defs.length<=3
 r:∀r∈rl,GoodR s.conds r
 n:∀i (h:i<rl.length),(rl[i]).n=i
 l:rl.length<=6
 t:s.tail=[]∨s.tail=tq
noncomputable def MA (t:St):Bool:=decide (t.1.length<=100)&&match t.2 with
 | .none=>true
 | .str l=>decide (l.length<=100)
 | .int i=>decide (0<=i∧i<10)
 |_=>false
theorem IK {t:St}(h:MA t=true):qA t:=by
 simp only[MA,Ð,ċ] at h
 refine⟨h.1,?_⟩
 have h2:=h.2
 split at h2
 ·exact .inl ‹_›
 ·exact .inr (.inl ⟨_,‹_›,by simpa using h2⟩)
 ·exact .inr (.inr ⟨_,‹_›,by simpa using h2⟩)
 ·contradiction
theorem Nu {j:Nat}{g:List Nat}(hj:j<11)(hg:g∈bj):∀t∈vA j g,qA t:=by
 have h:((List.range 11).all λj=>bj.all λg=>(vA j g).all MA)=true:=by kernel_rfl
 simp only[É,Ö] at h
 exact λt ht=>IK (h j hj g hg t ht)
theorem HZ {j:Nat}{g:List Nat}(hj:j<11)(hg:g∈bj):(vA j g).length<=3:=by
 have h:((List.range 11).all λj=>bj.all λg=>decide ((vA j g).length<=3))=true:=by kernel_rfl
 simp only[É,Ö,ċ] at h
 exact h j hj g hg
theorem eN.fo {s:RS}{rl:List Rl}(F:eN s rl):oG s rl where
 nd:=F.d.nd
 dl:=λe he=>by
  obtain⟨h1,h2⟩:=F.d.m e he
  obtain⟨i,hi,e1⟩:=zF h1
  obtain⟨w,hw,e2⟩:=rg h2
  have a:=uJ hi
  have b:=m6 hw
  rw[←e1,←e2];lia
 d:=by have:=F.dl;lia
 c:=by have:=F.c.g.len;lia
 r:=by have:=F.l;lia
 st:=λr hr=>by
  obtain⟨j,g,h1,h2,h3,h4,h5,_⟩:=fM (F.r r hr)
  rw[h5];have:=HZ h1 h3;lia
 nm:=λk hk=>by have:=(a8 (F.c.na hk).m []).2.2.1;lia
 hi:=λr hr=>(F.r r hr).i
 hl:=λr hr=>by have:=(yv F.c.g.len (F.r r hr).h).len;have:=F.c.g.len;lia
 pl:=λr hr t ht=>by
  obtain⟨w,hw,e2⟩:=rg ((F.r r hr).p t ht)
  have b:=m6 hw
  rw[←e2];lia
 os:=λr hr=>by
  obtain⟨j,g,h1,h2,h3,h4,h5,_⟩:=fM (F.r r hr)
  rw[h5];exact Nu h1 h3
 ix:=F.n
 tl:=by rcases F.t with h|h<;>rw[h]<;>decide
theorem m4 (s:RS)(rl:List Rl):ė s rl=qu s.conds s.defs s.dflt++[37,37]::rl.map (Ŧ s.conds):=by
 unfold ė qu
 simp only[Æ,bH,bZ,ğ]
theorem eN.ok {s:RS}{rl:List Rl}(F:eN s rl):∀w∈ė s rl,dZ w=true:=by
 intro w hw
 rw[m4,ö,Û] at hw
 rcases hw with h|rfl|h
 ·exact (zD F.c F.d).ok w h
 ·decide
 ·obtain⟨r,hr,rfl⟩:=Þ.mp h
  exact (t6 (df:=s.defs) (op:=s.dflt) (n:=0) (ldr:=[]) F.c (F.r r hr)).2
theorem iq {w:List Nat}(h:dZ w=true):w.length<=80∧∀c∈w,c≠10:=by
 simp only[dZ,Ð,É,ċ,ŋ,WB] at h
 exact⟨h.2,h.1⟩
noncomputable def iU (t:List Nat):List (List Nat):=if t==[] then [[]] else [[37,37],xY,[37,37]]
noncomputable def mG (s:RS)(rl:List Rl):List (List Nat):=ė s rl++iU s.tail
theorem pT:∀{a b:List (List Nat)},a≠[]->b≠[]->ø [10] (a++b)=ø [10] a++[10]++ø [10] b
 |[],b,h,_=>(h rfl).elim
 |[x],[],_,h=>(h rfl).elim
 |[x],y::b,_,_=>rfl
 |x::y::a,b,_,hb=>by
  show x++[10]++ø [10] (y::a++b)=x++[10]++ø [10] (y::a)++[10]++ø [10] b
  rw[pT (by simp) hb];simp only[Æ]
theorem Bu {s:RS}{rl:List Rl}(ht:s.tail=[]∨s.tail=tq):ø [10] (mG s rl)=bD s rl:=by
 unfold mG bD
 have jJ:ė s rl≠[]:=by rw[m4];simp
 have Y1:iU s.tail≠[]:=by unfold iU;split<;>simp
 rw[pT jJ Y1]
 rcases ht with h|h
 ·rw[h];rfl
 ·rw[h];rfl
theorem tu (s:RS)(h:s.scopes=[]):qn s= .ok s:=by unfold qn;simp only[h];rfl
theorem eN.back {s:RS}{rl:List Rl}(F:eN s rl):∃s2 RA,Ĺ (mG s rl)= .ok s2 RA∧cR s2 RA=cR s rl∧bD s2 RA=bD s rl∧eN s2 RA:=by
 have D:=zD (op:=s.dflt) F.c F.d
 have hq:=Dg (ends:=none) D (m:=[37,37]) (by decide) (rl.map (Ŧ s.conds)++iU s.tail)
 obtain⟨ldr,R,ht⟩:=yH (df:=s.defs) (op:=s.dflt) (n0:=(qu s.conds s.defs s.dflt).length+1) F.c rl [] [] Yz F.r
 rw[ğ,ğ] at R
 have hlen:ldr.length=rl.length:=by have:=È List.length ht;simpa using this
 have hb:=lz ht F.n (λr hr=>(F.r r hr).b) rl.length none [] (Å _)
 have htk:(vB rl ldr).take rl.length=vB rl ldr:=Rk (by unfold vB;rw[gn];lia)
 rw[htk,ÄV,à] at hb
 have Xh:∃n',ģ (rl.map (Ŧ s.conds)++iU s.tail) (ja s.conds s.defs s.dflt ((qu s.conds s.defs s.dflt).length+1) [] [])= .ok {ja s.conds s.defs s.dflt n' (ldr.map Ĵ) [] with tail:=s.tail}:=by
  rw[R.m.2]
  unfold iU
  rcases F.t with h|h
  ·rw[h]
   refine⟨(qu s.conds s.defs s.dflt).length+1+(rl.map (Ŧ s.conds)).length+1,?_⟩
   show ģ [[]] _=_
   rw[ģ]
   simp only[show ń []=false from rfl,show ŀ []=true from rfl,ś,ka,gu]
   rw[ģ,tu _ rfl];rfl
  ·rw[h]
   refine⟨(qu s.conds s.defs s.dflt).length+1+(rl.map (Ŧ s.conds)).length+1,?_⟩
   have e1:(tq==[])=false:=by decide
   rw[e1]
   dsimp only[b4]
   rw[ģ]
   simp only[show ń [37,37]=true from rfl,gu]
   rw[tu _ rfl];rfl
 obtain⟨n',Xh⟩:=Xh
 refine⟨{ja s.conds s.defs s.dflt n' (ldr.map Ĵ) [] with tail:=s.tail},vB rl ldr,?_,?_,?_,?_⟩
 ·unfold Ĺ mG
  rw[m4,Æ,bZ,hq]
  dsimp only
  rw[show oB ((qu s.conds s.defs s.dflt).length+1) s.conds s.defs s.dflt=ja s.conds s.defs s.dflt ((qu s.conds s.defs s.dflt).length+1) [] [] from rfl,Xh]
  dsimp only
  unfold tv
  have e1:({ja s.conds s.defs s.dflt n' (ldr.map Ĵ) [] with tail:=s.tail}:RS).drafts=ldr.map Ĵ:=rfl
  rw[e1,Â,hlen,hb]
 ·unfold cR
  rw[rf zT (λr n=>rfl) hlen];rfl
 ·unfold bD ė
  show ø [10] (_++_++_++_++(vB rl ldr).map (Ŧ s.conds))++_++_=_
  rw[rf (Ŧ s.conds) (λr n=>rfl) hlen];rfl
 ·have Ck:∀r∈vB rl ldr,∃r0∈rl,∃n,r={r0 with line:=n}:=by
   intro r hr
   obtain⟨i,hi,rfl⟩:=cj hr
   unfold vB at hi⊢
   rw[gn] at hi
   rw[WM]
   exact⟨_,Ų (by lia),_,rfl⟩
  refine⟨F.c,F.d,F.dl,λr hr=> ?_,λi hi=> ?_,?_,F.t⟩
  ·obtain⟨r0,h1,n,rfl⟩:=Ck r hr
   have G:=F.r r0 h1
   exact⟨G.p,G.s,G.h,G.ne,G.i,G.b⟩
  ·have Vz:i<rl.length:=by unfold vB at hi;rw[gn] at hi;lia
   have:=F.n i Vz
   simp only[vB,WM]
   exact this
  ·unfold vB;rw[gn];have:=F.l;lia
noncomputable def Q4:List (List Nat):=[[37,37],[37,37,32,9]]
noncomputable def GS:List (List (List Nat)):=[[],[[37,37],xY,[37,37]],[[37,37,32]]]
noncomputable def jP (C:List (List Nat)):List Nat:=if C.length=3 then tq else []
theorem Dt:(Q4.all λm=>ń m&&dZ m)=true:=by kernel_rfl
theorem DW:(GS.all λC=>C.all dZ&&decide (C.length<=3))=true:=by kernel_rfl
theorem Bl {C:List (List Nat)}(h:C∈GS):C=[]∨∃m r,C=m::r∧ń m=true:=by
 simp only[GS,Û,û,cE] at h
 rcases h with rfl|rfl|rfl
 ·exact .inl rfl
 ·exact .inr ⟨_,_,rfl,by decide⟩
 ·exact .inr ⟨_,_,rfl,by decide⟩
structure Ml (R:List (List Nat))(cd:List (List Nat×Bool))(df:List (List Nat×List Nat))(op:Bool)(ldr:List cD)(vs:List V)(tl:List Nat)(ends:Option (Nat×Nat)):Prop where
 ok:∀w∈R,dZ w=true
 len:R.length<=30
 m:match ends with
  |some e=>Ĺ R= .err e.1 e.2
  |none=>∃s rl,Ĺ R= .ok s rl∧eN s rl∧s.conds=cd∧s.defs=df∧s.dflt=op∧s.tail=tl∧vs=rl.map zT∧rl.map (·.line)=ldr.map (·.line)
theorem yL {rows:List (List Nat)}{cd:List (List Nat×Bool)}{df:List (List Nat×List Nat)}{op:Bool}{e:Nat×Nat}(D:DI rows cd df op (some e))(rest:List (List Nat)):Ĺ (rows++rest)= .err e.1 e.2:=by
 unfold Ĺ
 simp only[D.m.2]
theorem Iz {rows:List (List Nat)}{cd:List (List Nat×Bool)}{df:List (List Nat×List Nat)}{op:Bool}(D:DI rows cd df op none):Ĺ rows= .err (mu rows) (tC rows):=by
 unfold Ĺ
 have:=D.m.2.2 []
 rw[à] at this
 rw[this];rfl
theorem EX {rows:List (List Nat)}{cd:List (List Nat×Bool)}{df:List (List Nat×List Nat)}{op:Bool}(D:DI rows cd df op none){m:List Nat}(hm:ń m=true)(rest:List (List Nat)):Ĺ (rows++m::rest)=match ģ rest (ja cd df op (rows.length+1) [] []) with
 | .err l c=> .err l c
 | .bad=> .bad
 | .ok s2=>tv s2:=by
 unfold Ĺ
 simp only[Dg (ends:=none) D hm rest];rfl
theorem Bm {C:List (List Nat)}(h:C∈GS)(cd:List (List Nat×Bool))(df:List (List Nat×List Nat))(op:Bool)(n:Nat)(dr:List Dr):∃n',ģ C (ja cd df op n dr [])= .ok {ja cd df op n' dr [] with tail:=jP C}:=by
 simp only[GS,Û,û,cE] at h
 rcases h with rfl|rfl|rfl
 ·exact⟨n,by rw[ģ,tu _ rfl];rfl⟩
 ·refine⟨n+1,?_⟩
  rw[ģ]
  simp only[show ń [37,37]=true from rfl,gu]
  rw[tu _ rfl];rfl
 ·refine⟨n+1,?_⟩
  rw[ģ]
  simp only[show ń [37,37,32]=true from rfl,gu]
  rw[tu _ rfl];rfl
theorem Gm (C:List (List Nat)):jP C=[]∨jP C=tq:=by unfold jP;split;exact .inr rfl;exact .inl rfl
theorem AJ {rows rr C:List (List Nat)}{cd:List (List Nat×Bool)}{df:List (List Nat×List Nat)}{op:Bool}{ldr:List cD}{e1 e2:Option (Nat×Nat)}{vs:List V}(D:DI rows cd df op none){m:List Nat}(hm:m∈Q4)(hC:C∈GS)(qi:df.length<=3)(QL:rows.length<=3)(R:RF cd df op (rows.length+1) rr ldr e1)(hr:rr.length<=12)(hl:ldr.length<=6)(S:iw ldr e1 e2 vs):Ml (rows++m::(rr++C)) cd df op ldr vs (jP C) e2:=by
 have QO:=Dt
 simp only[É,Ð] at QO
 obtain⟨hm1,hm2⟩:=QO m hm
 have sG:=DW
 simp only[É,Ð,ċ] at sG
 obtain⟨RO,hc2⟩:=sG C hC
 have hq:=EX D hm1 (rr++C)
 refine⟨λw hw=> ?_,?_,?_⟩
 ·simp only[ö,Û,ö] at hw
  rcases hw with h|rfl|h|h
  ·exact D.ok w h
  ·exact hm2
  ·exact R.ok w h
  ·exact RO w h
 ·simp only[Ã,Ċ,Ã];lia
 ·have rm:=R.m
  unfold iw at S
  cases e1 with
  |some e=>
   dsimp only at rm S
   subst S
   dsimp only
   simp only[hq,rm C (Bl hC)]
  |none=>
   dsimp only at rm S
   obtain⟨n',hn⟩:=Bm hC cd df op (rows.length+1+rr.length) (ldr.map Ĵ)
   rw[rm.2,hn] at hq
   dsimp only at hq
   unfold tv at hq
   have e0:({ja cd df op n' (ldr.map Ĵ) [] with tail:=jP C}:RS).drafts=ldr.map Ĵ:=rfl
   rw[e0,Â] at hq
   cases hb:ĸ (ldr.map Ĵ) ldr.length none [] with
   |bad=>rw[hb] at S;exact S.elim
   |err l=>
    rw[hb] at S hq
    dsimp only at S
    subst S
    exact hq
   |ok rl=>
    rw[hb] at S hq
    dsimp only at S
    obtain⟨rfl,rfl⟩:=S
    have sG:=D.m.1.g.len
    obtain⟨new,h1,h2,h3⟩:=pJ sG rm.1 ldr.length none [] rl (λss h=>by contradiction) (Å _) hb
    simp only[ÄV,à] at h1
    subst h1
    refine⟨_,_,hq,⟨D.m.1,D.m.2.1,qi,λr hr=> ?_,λi h=>(h3 i h).1,by lia,Gm C⟩,rfl,rfl,rfl,rfl,rfl,?_⟩
    ·obtain⟨i,hi,rfl⟩:=cj hr
     exact (h3 i hi).2.2
    ·apply zQ
     ·simp only[Â,Â,h2]
     ·intro i hi1 Vz
      simp only[Â] at hi1 Vz
      simp only[eF,eF]
      obtain⟨_,⟨d,hd,e⟩,_⟩:=h3 i hi1
      simp only[Ç Vz] at hd
      obtain rfl:=Ä hd
      exact e
theorem En {R:List (List Nat)}(kr:∀w∈R,dZ w=true)(hlen:R.length<=100):(ø [10] R).length<=TL:=by
 have:=bz (sep:=[10]) (l:=R) (b:=80) (λw hw=>(iq (kr w hw)).1)
 have e:TL=10000:=rfl
 simp only[Ċ,Ŀ] at this
 lia
theorem IC {t:List Nat}{k l c:Nat}(h:v0 t k l c):fA t k= .rcd 0 [(0,.int (k:Int)),(1,.int (l:Int)),(2,.int (c:Int))]:=by
 unfold fA
 have hb:=og t k
 have e:((k:Int)-(Ő t k:Nat)+1)=(c:Int):=by have:=h.2;omega
 rw[e,h.1]
theorem DD {n:Nat}{H:AH}{Q:QT}{Er:V->Prop}{R:List (List Nat)}(kr:∀w∈R,dZ w=true)(hlen:R.length<=100)(q:match Ĺ R with
 | .ok s rl=>∀H',Up H.length H H'->Q (ao s rl) H'
 | .err l c=>∀o:Int,Er (.rcd 0 [(0,.int o),(1,.int (l:Int)),(2,.int (c:Int))])
 | .bad=>False):Call (ú (n+13)) (λp _=>Er p) 53 Q [.str (ø [10] R)] H:=by
 refine AY (En kr hlen) ?_
 have h:=r5 (rows:=R) (λw hw c hc=>(iq (kr w hw)).2 c hc)
 cases hq:Ĺ R with
 |bad=>rw[hq] at q;exact q.elim
 |err l c=>
  rw[hq] at h q
  obtain⟨k,h1,h2⟩:=h
  rw[h1]
  show Er (fA _ k)
  rw[IC h2]
  exact q _
 |ok s rl=>
  rw[hq] at h q
  obtain⟨s',h1,h2⟩:=h
  rw[h1]
  show∀H',_->Q (ao s' rl) H'
  rw[h2]
  exact q
inductive Pl:Nat->V->Prop
 |none (n:Nat):Pl n .none
 |bool (n:Nat) (b:Bool):Pl n (.bool b)
 |int (n:Nat) (i:Int):Pl n (.int i)
 |str (n:Nat) (l:List Nat):Pl n (.str l)
 |tup (n:Nat) (vs:List V):(∀v∈vs,Pl n v)->Pl (n+1) (.tup vs)
theorem uF {f:V->V->Option Bool}:∀{vs:List V},(∀v∈vs,f v v=some true)->sr f vs vs=some true
 |[],_=>rfl
 |v::vs,h=>by
  unfold sr
  rw[h v (.head _),uF (λu hu=>h u (.tail _ hu))];rfl
theorem j1:∀{n:Nat} {v:V},Pl n v->sI (n+1) v v=some true
 |n,_,.none _=>rfl
 |n,_,.bool _ b=>È some (ô b)
 |n,_,.int _ i=>È some (ô i)
 |n,_,.str _ l=>È some (ô l)
 |_,_,.tup n vs h=>by
  show sr (sI (n+1)) vs vs=some true
  exact uF λv hv=>j1 (h v hv)
section
variable {H:AH} {n:Nat} {a b c:V}
theorem IY {vs:List V}(h:Pl 7 (.tup vs)):bh .ne (.tup vs) (.tup vs) H=some false:=by
 show (lU (.tup vs) (.tup vs)).map (!·)=_
 unfold lU
 rw[j1 h];rfl
theorem F8 {vs:List V}(h:Pl 7 (.tup vs)):bh .eq (.tup vs) (.tup vs) H=some true:=by
 show lU (.tup vs) (.tup vs)=_
 unfold lU
 rw[j1 h]
theorem mK {α:Type}{f:α->V}{l:List α}(h:∀a∈l,Pl n (f a)):Pl (n+1) (.tup (l.map f)):= .tup _ _ λv hv=>by
 obtain⟨x,hx,rfl⟩:=Þ.mp hv
 exact h x hx
theorem CN:∀v∈([]:List V),Pl n v:=nofun
theorem i0 {l:List V}(h:Pl n a)(k:∀v∈l,Pl n v):∀v∈a::l,Pl n v:=List.forall_mem_cons.mpr ⟨h,k⟩
theorem Ai (h:Pl n a)(k:Pl n b):Pl (n+1) (.tup [a,b]):= .tup _ _ (i0 h (i0 k CN))
theorem E0 (p:Option (List Nat)):Pl (n+1) (aQ p):=by
 cases p with
 |none=>exact .none _
 |some l=>exact Ai (.str _ _) (.str _ _)
theorem IG {t:St}(h:qA t):Pl (n+1) (Am t):=Ai (.str _ _) (by
 rcases h.v with z|⟨l,z,_⟩|⟨i,z,_⟩
 ·rw[z];exact .none _
 ·rw[z];exact .str _ _
 ·rw[z];exact .int _ _)
theorem yM {s:RS}{rl:List Rl}(F:oG s rl):Pl 7 (cR s rl):=
 .tup 6 _ (i0 (mK λe _=>Ai (.str _ _) (Ai (n:=3) (.str _ _) (.str _ _))) (i0 (mK λe _=>Ai (n:=4) (.str _ _) (.bool _ _)) (i0 (mK λr hr=> .tup 4 _ (i0 (mK λx _=> .int _ _) (i0 (E0 _) (i0 (mK λt ht=>IG (n:=2) (F.os r hr t ht)) CN)))) (i0 (.bool _ _) (i0 (.str _ _) CN)))))
theorem Ld {a b:List Int}(h:a=b):bh .ne (.lst (a.map .int)) (.lst (b.map .int)) H=some false:=by
 subst h
 show (sI 8 (.lst (a.map .int)) (.lst (a.map .int))).map (!·)=_
 have:sI 8 (.lst (a.map .int)) (.lst (a.map .int))=some true:=by
  show (if (a.map V.int).length=(a.map V.int).length then sr (sI 7) (a.map .int) (a.map .int) else some false)=_
  rw[Î rfl,ny 6];simp
 rw[this];rfl
theorem N5 {i:Nat}{l:List (List Nat)}(h:H[i]? =some (some (.list (l.map .str)))):bh .eq (.obj i) (.lst []) H=some l.isEmpty:=by
 show lU (seeL (.obj i) H) (.lst [])=_
 rw[xV h]
 cases l with
 |nil=>rfl
 |cons a l=>rfl
end
def qB:ST:=λfl _ _=>match fl with| .ret v=>v= .bool true|_=>False
noncomputable abbrev jb (s:RS)(rl:List Rl)(y0 y1 y2 y3 y5 y6 y7 y9 y10 y11 y13 y14 y15 y16 y17 y18 y19 y20:Option V):Loc:=[y0,y1,y2,y3,some (.obj 2),y5,y6,y7,some (.tup (rl.map zT)),y9,y10,y11,some (ao s rl),y13,y14,y15,y16,y17,y18,y19,y20]
noncomputable abbrev jV:List PS:=hZ Ŷ 15
noncomputable abbrev vE (r:Rl):V:= .int (r.n:Int)
section
variable {H:AH} {E:Ĩ} {Q:QT} {K:ST} {s:RS} {rl:List Rl} {n c:Nat} {r:Rl}
variable {y0 y1 y2 y3 y5 y6 y7 y9 y10 y11 y13 y14 y15 y16 y17 y18 y19 y20:Option V}
theorem IX (F:oG s rl):bh .ne (cR s rl) (cR s rl) H=some false:=IY (yM F)
theorem JH (F:oG s rl):bh .eq (cR s rl) (cR s rl) H=some true:=F8 (yM F)
theorem FH {p:Option (List Nat)}:bh .isnot (aQ p) .none H=some (!p.isNone):=by cases p<;>rfl
theorem IZ (hn:∀i (h:i<rl.length),(rl[i]).n=i):fS 0 rl.length=rl.map vE:=by
 unfold fS
 refine zQ (by rw[Â,Â,aY]) λi h1 h2=> ?_
 rw[Â] at h2
 rw[eF,eF,List.getElem_range',vE,hn i h2,Nat.one_mul,Ľ]
theorem Du (hn:∀i (h:i<rl.length),(rl[i]).n=i)(hr:r∈rl):(rl.map zT)[r.n]? =some (zT r):=by
 obtain⟨i,hi,e⟩:=cj hr
 have h:=hn i hi
 rw[e] at h
 rw[h,Ü,Ç hi,e];rfl
theorem xW {α:Type}{f:α->V}{l:List α}(h:l.length<=ę)(q:Q (.rng 0 (l.length:Int) 1) H):oK ((l.map f).length:Int) H Q:=by
 rw[Â];exact eR h q
theorem zJ {step:V->AH->(Option V->AH->Prop)->Prop}(hn:∀i (h:i<rl.length),(rl[i]).n=i)(hb:rl.length<=ę)(p:Rl->Bool)(q:Q (.lst ((rl.filter p).map vE)) H)(hs:∀r∈rl,∀K,K (if p r=true then some (vE r) else none) H->step (vE r) H K):Ku step Q (.rng 0 (rl.length:Int) 1) H:=
 CJ vE _ rl ((cg hb).trans (È some (IZ hn))) trivial hb (by rw[Lw];exact q) hs
theorem TU {l:List Rl}:bh .ne (.lst (l.map vE)) (.lst (l.map vE)) H=some false:=by
 have h:=Ld (H:=H) (rfl:l.map (λr=>(r.n:Int))=_)
 rw[õ] at h;exact h
theorem W3 {b:Bool}(h:b=true):(!b)=false:=by rw[h];rfl
theorem Yc (F:eN s rl)(k:∀y16 y17,y16=some (.lst ((rl.filter (cN (c:Int))).map vE))->y17=some (.lst ((rl.filter (mQ (c:Int))).map vE))->K .next (jb s rl y0 y1 y2 y3 y5 y6 y7 y9 y10 y11 y13 y14 (some (.int (c:Int))) y16 y17 y18 y19 y20) H):ì (ú n) (jV.take 2) (jb s rl y0 y1 y2 y3 y5 y6 y7 y9 y10 y11 y13 y14 (some (.int (c:Int))) y16 y17 y18 y19 y20) E H K:=by
 have hb:=d8 (À F.l (by decide))
 refine xW hb (zJ F.n hb (cN (c:Int)) (xW hb (zJ F.n hb (mQ (c:Int)) (k _ _ rfl rfl) λr hr K k=> ?_)) λr hr K k=> ?_)
 ·have hg:=Du F.n hr
  exact Ĕ hg (bo FH (kJ (P:=λz=>K z H) k (λ_ k=>Ĕ hg (bo rI (b5 (P:=λz=>K z H) k (λk _=>k) λk _=>k))) λ_ k=>k))
 ·have hg:=Du F.n hr
  exact Ĕ hg (bo (qF _) (kJ (P:=λz=>K z H) k (λ_ k=>Ĕ hg (bo rI (b5 (P:=λz=>K z H) k (λk _=>k) λk _=>k))) λ_ k=>k))
theorem Yb (F:eN s rl)(k:∀y18,K .next (jb s rl y0 y1 y2 y3 y5 y6 y7 y9 y10 y11 y13 y14 (some (.int (c:Int))) (some (.lst ((rl.filter (cN (c:Int))).map vE))) y17 y18 y19 y20) H):ì (ú (n+2)) ((jV.drop 2).take 2) (jb s rl y0 y1 y2 y3 y5 y6 y7 y9 y10 y11 y13 y14 (some (.int (c:Int))) (some (.lst ((rl.filter (cN (c:Int))).map vE))) y17 y18 y19 y20) E H K:=by
 have hb:(rl.filter (cN (c:Int))).length+1<=ę:=À (Ì (À (Va _ _) F.l)) (by decide)
 refine k_end ?_
 rw[←List.head?_filter]
 cases h:rl.filter (cN (c:Int)) with
 |nil=>
  rw[h] at k hb
  exact tM (by rw[Â];exact hb) (Ĕ (k:=0) rfl (k _))
 |cons r t=>
  rw[h] at k hb
  exact tM (by rw[Â];exact hb) (Ĕ (k:=0) rfl (ar (W3 (ô _)) (k _)))
theorem X9 (F:eN s rl)(k:K .next (jb s rl y0 y1 y2 y3 y5 y6 y7 y9 y10 y11 y13 y14 (some (.int (c:Int))) y16 (some (.lst ((rl.filter (mQ (c:Int))).map vE))) y18 y19 y20) H):ì (ú (n+3)) ((jV.drop 4).take 1) (jb s rl y0 y1 y2 y3 y5 y6 y7 y9 y10 y11 y13 y14 (some (.int (c:Int))) y16 (some (.lst ((rl.filter (mQ (c:Int))).map vE))) y18 y19 y20) E H K:=by
 have hb:=d8 (À F.l (by decide))
 exact OG hb (bv aZ vE _ rfl trivial (À (Va _ _) hb) (bo TU (ar rfl k)) λr hr K k=>k)
theorem X8 (F:eN s rl)(h2:H[2]? =some (some (.list (s.conds.map Ň))))(hc:c<s.conds.length)(k:K .next (jb s rl y0 y1 y2 y3 y5 y6 y7 y9 y10 y11 y13 y14 (some (.int (c:Int))) y16 y17 y18 y19 y20) H):ì (ú (n+3)) (jV.drop 5) (jb s rl y0 y1 y2 y3 y5 y6 y7 y9 y10 y11 y13 y14 (some (.int (c:Int))) y16 y17 y18 y19 y20) E H K:=by
 have hb:s.conds.length<=ę:=À F.c.g.len (by decide)
 have nac:=F.c.na hc
 obtain⟨b,gb,_⟩:=dz hc
 refine gB h2 (dm gb (DF (k:=(c:Int)) hb (λj hj he _=> ?_) (λMg=>absurd rfl (Mg c hc)) (ar (W3 (ô _)) (DF (k:= -1) hb (λj hj he _=> ?_) (λ_=>rfl) k))))
 ·have h:=(F.c.na hj).i
  rw[he,nac.i] at h
  exact È Int.ofNat h
 ·have h:=(F.c.na hj).c
  have h4:(s.conds.map (·.1)).contains [68]=false:=F.c.g.D
  rw[he,h4] at h
  contradiction
theorem Nj (F:eN s rl)(h2:H[2]? =some (some (.list (s.conds.map Ň))))(hc:c<s.conds.length)(k:∀y16 y17 y18,K .next (jb s rl y0 y1 y2 y3 y5 y6 y7 y9 y10 y11 y13 y14 (some (.int (c:Int))) y16 y17 y18 y19 y20) H):ì (ú (n+3)) jV (jb s rl y0 y1 y2 y3 y5 y6 y7 y9 y10 y11 y13 y14 (some (.int (c:Int))) y16 y17 y18 y19 y20) E H K:=
 aP 2 (Yc F λ_ _ e1 e2=>by
  subst e1
  subst e2
  exact aP 2 (Yb F λy18=>aP 1 (X9 F (X8 F h2 hc (k _ _ _)))))
end
theorem J6 {s:RS}{rl:List Rl}(F:eN s rl):∀w∈mG s rl,dZ w=true:=by
 intro w h
 rcases ö.mp h with h|h
 ·exact F.ok w h
 ·refine É.mp (?_:(iU s.tail).all dZ=true) w h
  unfold iU
  exact vQ (P:=λl:List (List Nat)=>l.all dZ=true) rfl rfl
theorem GG {s:RS}{rl:List Rl}(F:eN s rl):(mG s rl).length<=100:=by
 unfold mG ė
 have h1:(if s.dflt=true then ([]:List (List Nat)) else [gA]).length<=1:=vQ (P:=λl:List (List Nat)=>l.length<=1) (ý _) (Å _)
 have h2:(iU s.tail).length<=3:=by
  unfold iU
  exact vQ (P:=λl:List (List Nat)=>l.length<=3) (by decide) (by decide)
 rw[Ã,Ã,Ã,Ã,Ã,Â,Â,Â,ã]
 exact À (Ë (Ë (Ë (Ë (Ë (À (Ō ..) F.c.g.len) h1) F.dl) (Å 1)) F.l) h2) (by decide)
theorem wb {s:RS}{rl:List Rl}(F:eN s rl):∀w∈ė s rl,w.length<=100:=λw hw=>À (iq (F.ok w hw)).1 (by decide)
section
variable {H:AH} {E:Ĩ} {Q:QT} {K:ST} {s:RS} {rl:List Rl} {n c i:Nat} {r:Rl} {ldr:List cD} {ops:List (List Nat)}
variable {y0 y1 y2 y3 y5 y6 y7 y9 y10 y11 y13 y14 y15 y16 y17 y18 y19 y20:Option V}
theorem Ji {t:List Nat}{R:List (List Nat)}{Er:V->Prop}(ht:ø [10] R=t)(kr:∀w∈R,dZ w=true)(hlen:R.length<=100)(q:match Ĺ R with
 | .ok s rl=>∀H',Up H.length H H'->Q (ao s rl) H'
 | .err l c=>∀o:Int,Er (.rcd 0 [(0,.int o),(1,.int (l:Int)),(2,.int (c:Int))])
 | .bad=>False):Call (ú (n+13)) (λp _=>Er p) 53 Q [.str t] H:=by
 subst ht
 exact DD kr hlen q
theorem Ue (F:eN s rl):ì (ú (n+13)) (Ŷ.drop 16) (jb s rl y0 y1 y2 y3 y5 y6 y7 y9 y10 y11 y13 (some (cR s rl)) y15 y16 y17 y18 y19 y20) (λ_ _=>False) H qB:=by
 obtain⟨s2,RA,g1,g2,g3,F2⟩:=F.back
 refine nX F.fo (wb F) λL=>Ji (Er:=λ_=>False) (Bu F.t) (J6 F) (GG F) ?_
 rw[g1]
 intro H' U
 refine FB F.fo (λr hr t ht=>(F.r r hr).p t ht) (wb F) F.c.g.pos (ift (ô _) (DA F2.fo.toFOK ?_))
 rw[g2]
 refine bo (JH F.fo) (nX F2.fo (wb F2) λL2=> ?_)
 rw[g3]
 exact È V.bool (ô _)
inductive I65 (s:RS)(rl:List Rl)(y0 y1 y2 y3 y5 y6 y7 y9 y10 y11 y13 y14 y19 y20:Option V)(H:AH)(j:Nat):Loc->AH->Prop
 |mk (y15 y16 y17 y18:Option V):I65 s rl y0 y1 y2 y3 y5 y6 y7 y9 y10 y11 y13 y14 y19 y20 H j (jb s rl y0 y1 y2 y3 y5 y6 y7 y9 y10 y11 y13 y14 y15 y16 y17 y18 y19 y20) H
theorem OA (F:eN s rl)(h2:H[2]? =some (some (.list (s.conds.map Ň)))):ì (ú (n+13)) (Ŷ.drop 15) (jb s rl y0 y1 y2 y3 y5 y6 y7 y9 y10 y11 y13 (some (cR s rl)) y15 y16 y17 y18 y19 y20) (λ_ _=>False) H qB:=by
 have hb:s.conds.length<=ę:=À F.c.g.len (by decide)
 refine fV h2 (xW hb (hA (I65 s rl y0 y1 y2 y3 y5 y6 y7 y9 y10 y11 y13 (some (cR s rl)) y19 y20 H) hb (.mk ..) (λρ H' I=> ?_) λj ρ H' hj I=> ?_))
 ·induction I with|mk=>exact Ue F
 ·induction I with|mk=>exact⟨_,rfl,λK kk=>Nj F h2 hj λ_ _ _=>kk.n (.mk ..)⟩
theorem KO {l:List V}(h:H[i]? =some (some (.list l)))(q:Q (.tup l) H):zZ i H Q:=by
 unfold zZ
 rw[h];exact q
theorem um {l:List Nat}{α:Type}(m:List α)(f:α->Nat)(e:m.map f=l):m.map (λa=>V.int (f a:Int))=(l.map λn:Nat=>(n:Int)).map .int:=by
 subst e
 rw[õ,õ];rfl
theorem Jb (F:eN s rl)(h2:H[2]? =some (some (.list (s.conds.map Ň)))):ì (ú (n+13)) (Ŷ.drop 14) (jb s rl y0 y1 y2 y3 y5 y6 y7 y9 y10 y11 y13 (some (cR s rl)) y15 y16 y17 y18 y19 y20) (λ_ _=>False) H qB:=by
 have hb:s.conds.length<=ę:=À F.c.g.len (by decide)
 refine zf hb (fV h2 (xW hb (eh (dk s.conds) (cg hb) trivial (by unfold fS;rw[Â,aY];exact hb) ?_ λy hy K k=> ?_)))
 ·rw[fg]
  exact bo Lb (ar (W3 (ô _)) (OA F h2))
 ·obtain⟨j,hj,rfl⟩:=Þ.mp hy
  have j9:j<s.conds.length:=(Ľ s.conds.length▸(dI.mp hj).2:j<s.conds.length)
  have iR:(s.conds.map Ň)[j]? =some (Ň s.conds[j]):=by rw[Ü,Ç j9];rfl
  have hk:dk s.conds (.int (j:Int))=if s.conds[j].2 then none else some (.int (j:Int)):=by
   refine (È (Option.map V.int) (tx j9)).trans ?_
   cases s.conds[j].2<;>rfl
  rw[hk] at k
  exact gB h2 (dm iR (gC (P:=λz=>K z H) k (λk _=>k) λk _=>k))
theorem Oz (F:eN s rl)(h2:H[2]? =some (some (.list (s.conds.map Ň))))(h3:H[3]? =some (some (.list (s.defs.map fW))))(h4:H[4]? =some (some (.list (ops.map .str))))(ho:s.dflt=ops.isEmpty)(h5:H[5]? =some (some (.list (ldr.map mq))))(hln:rl.map (·.line)=ldr.map (·.line)):
 ì (ú (n+13)) (Ŷ.drop 12) (jb s rl y0 y1 y2 y3 (some (.obj 3)) (some (.obj 4)) (some (.obj 5)) (some (.str s.tail)) (some (ŧ none)) y11 y13 y14 y15 y16 y17 y18 y19 y20) (λ_ _=>False) H qB:=by
 have hb:=d8 (À F.l (by decide))
 have hl:=È List.length hln
 rw[Â,Â] at hl
 refine KO h3 (KO h2 (bo (N5 h4) ?_))
 rw[←ho]
 refine DA F.fo.toFOK (bo (IX F.fo) (ar rfl (bv aZ (λr=> .int (r.line:Int)) rl rfl trivial hb (bv mq (λd=> .int (d.line:Int)) ldr (È qP h5) rfl (hl▸hb) ?_ λd hd K k=>k) λr hr K k=>k)))
 rw[um rl (·.line) hln,um ldr (·.line) rfl]
 exact bo (Ld rfl) (ar rfl (Jb F h2))
end
theorem HP {fs:List (Nat×V)}{v a b:V}{r:Bool}{Q:Bool->AH->Prop}{H:AH}(h1:fs.lookup 1=some a)(h2:fs.lookup 2=some b)(h3:lU (.tup [a,b]) v=some r)(q:Q r H):z5 (some (some v)) Q (.rcd 0 fs) H:=by
 show oZ (fs.lookup 1) H λa H=>oZ (fs.lookup 2) H λb H=>bF (lU (.tup [a,b]) v) H Q
 rw[h1]
 show oZ (fs.lookup 2) H λb H=>bF (lU (.tup [a,b]) v) H Q
 rw[h2]
 exact bo h3 q
theorem wO (v:V)(P:Bool->Prop):(z5 (some (some v)) λr _=>P r)=λp _=>z5 (some (some v)) (λr _=>P r) p []:=by
 have h:∀(x y:Option V) (H:AH),oZ x H (λa H=>oZ y H λb H=>bF (lU (.tup [a,b]) v) H λr _=>P r)=oZ x [] (λa H=>oZ y H λb H=>bF (lU (.tup [a,b]) v) H λr _=>P r):=λx y H=>by
  cases x with
  |none=>rfl
  |some a=>cases y with
   |none=>rfl
   |some b=>
    show bF (lU (.tup [a,b]) v) H (λr _=>P r)=bF (lU (.tup [a,b]) v) [] λr _=>P r
    cases lU (.tup [a,b]) v<;>rfl
 funext p H
 cases p with
 |rcd c fs=>exact È (λz=>cond (Nat.beq c 0) z False) (h _ _ H)
 |_=>rfl
theorem Pe (e:Nat×Nat):lU (.tup [.int (e.1:Int),.int (e.2:Int)]) (ŧ (some e))=some true:=j1 (Ai (n:=6) (.int _ _) (.int _ _))
section
variable {H:AH} {n:Nat} {ldr:List cD} {ops:List (List Nat)} {R:List (List Nat)} {cd:List (List Nat×Bool)} {df:List (List Nat×List Nat)} {vs:List V} {tl:List Nat} {ends:Option (Nat×Nat)} {v3:V}
variable {y0 y1 y2 y11 y12 y13 y14 y15 y16 y17 y18 y19 y20:Option V}
theorem Up.get {B:Nat}{H H':AH}(U:Up B H H'){j:Nat}{x:Option O}(hj:j<B)(h:H[j]? =some x):H'[j]? =some x:=(U.1 j hj).trans h
theorem uu (P:Ml R cd df ops.isEmpty ldr vs tl ends)(h2:H[2]? =some (some (.list (cd.map Ň))))(h3:H[3]? =some (some (.list (df.map fW))))(h4:H[4]? =some (some (.list (ops.map .str))))(h5:H[5]? =some (some (.list (ldr.map mq))))(hv3:∀Q:QT,Q (.str (ø [10] R)) H->eS [10] v3 H Q):
 ì (ú (n+13)) (Ŷ.drop 11) [y0,y1,y2,some v3,some (.obj 2),some (.obj 3),some (.obj 4),some (.obj 5),some (.tup vs),some (.str tl),some (ŧ ends),y11,y12,y13,y14,y15,y16,y17,y18,y19,y20] (λ_ _=>False) H qB:=by
 have hm:=P.m
 have l5:=ai h5
 have lt:∀j,j<6->j<H.length:=λj h=>æ h l5
 refine hv3 _ ?_
 refine (È (λE=>Call (ú (n+13)) E 53 _ [.str (ø [10] R)] H) (wO (ŧ ends) λr=>V.bool r=V.bool true)).mpr ?_
 refine DD P.ok (À P.len (by decide)) ?_
 cases ends with
 |some e=>
  have hm:Ĺ R= .err e.1 e.2:=hm
  rw[hm]
  exact λo=>HP rfl rfl (Pe e) rfl
 |none=>
  obtain⟨s,rl,h,F,g2,g3,g4,g5,g6,g7⟩:=hm
  subst g2 g3 g5 g6
  rw[h]
  exact λH' U=>Oz F (U.get (lt 2 (by decide)) h2) (U.get (lt 3 (by decide)) h3) (U.get (lt 4 (by decide)) h4) g4 (U.get (lt 5 (by decide)) h5) g7
end
noncomputable abbrev f6 (y0 y1:Option V)(v3 v8 v9 v10:V)(y11 y12 y13 y14 y15 y16 y17 y18 y19 y20:Option V):Loc:=[y0,y1,some (.obj 0),some v3,some (.obj 2),some (.obj 3),some (.obj 4),some (.obj 5),some v8,some v9,some v10,y11,y12,y13,y14,y15,y16,y17,y18,y19,y20]
theorem AV (rows:List (List Nat)):(rows.drop (rows.length-1)).flatten=rows.getLast?.getD []:=by
 rcases Vb rows with h|⟨l,w,h⟩
 ·rw[h];rfl
 ·rw[h,Vc,Ã,me,Ź,G2,List.getLast?_concat]
  exact à w
section
variable {n i a:Nat} {H:AH} {E:Ĩ} {Q:QT} {K:ST} {cells:List Int} {at_:Nat} {rows rr:List (List Nat)} {cd:List (List Nat×Bool)} {df:List (List Nat×List Nat)} {ops:List (List Nat)} {L:AH} {ends:Option (Nat×Nat)} {ldr:List cD} {vs:List V} {tl:List Nat} {R:List (List Nat)} {m:List Nat}
variable {v8 v9 v10:V} {y0 y1 y11 y12 y13 y14 y15 y16 y17 y18 y19 y20:Option V}
theorem NE {l:List V}{b:Nat}(h2:b<=ę)(q:Q (.lst (l.take b)) H):d6 (.lst l) none (some (b:Int)) H Q:=by
 unfold d6
 refine⟨nofun,λi h=>Ä h▸h2,?_⟩
 show Q (.lst ((l.take (bP b _)).drop 0)) H
 rw[dB,←md];exact q
theorem ND {l:List V}(h:H[i]? =some (some (.list l)))(q:Q (.lst (l.drop (l.length-1))) H):d6 (.obj i) (some (-1)) none H Q:=by
 unfold d6
 refine⟨λi h=>Ä h▸(by decide),nofun,?_⟩
 rw[xV h]
 show Q (.lst ((l.take l.length).drop (bP (-1) l.length))) H
 have e:bP (-1) l.length=l.length-1:=by
  show (-1+(l.length:Int)).toNat=_
  rw[Re]
  exact Int.toNat_sub l.length 1
 rw[e,eC];exact q
theorem T5 {a b c:Int}(e:(if a<b then b else a)=c)(q:Q (.int c) H):sV a b H Q:=by
 subst e
 unfold sV;exact q
theorem wN {l m:List V}(h:H[i]? =some (some (.list l)))(hb:l.length+m.length<=ę)(q:Q (.lst (l++m)) H):qy (.obj i) (.lst m) H Q:=by
 unfold qy
 rw[xV h];exact⟨hb,q⟩
theorem T9 (kr:∀w∈rows,dZ w=true)(hr:rows.length<=3){e:Nat×Nat}(hq:Ĺ rows= .err e.1 e.2):ì (ú (n+13)) (Ŷ.drop 11) (f6 y0 y1 (.obj 1) (.tup []) (.str []) (ŧ (some e)) y11 y12 y13 y14 y15 y16 y17 y18 y19 y20) (λ_ _=>False) (LH cells at_ rows cd df ops [] L) qB:=
 uu (R:=rows) (cd:=cd) (df:=df) (ops:=ops) (ldr:=[]) ⟨kr,À hr (by decide),hq⟩ zU RE Vn RD λQ q=>DG vf (À (Ë (À (d9 λw hw=>(iq (kr w hw)).1) (Ò 80 hr)) (Ò 1 hr)) (by decide)) q
theorem YH (P:Ml R cd df ops.isEmpty ldr vs tl ends):ì (ú (n+13)) (Ŷ.drop 11) (f6 y0 y1 (.lst (R.map .str)) (.tup vs) (.str tl) (ŧ ends) y11 y12 y13 y14 y15 y16 y17 y18 y19 y20) (λ_ _=>False) (LH cells at_ rows cd df ops ldr L) qB:=
 uu P zU RE Vn RD λQ q=>kG (À (Ë (À (d9 λw hw=>(iq (P.ok w hw)).1) (Ò 80 P.len)) (Ò 1 P.len)) (by decide)) q
theorem m_A (hr:rows.length<=3)(D:DI rows cd df ops.isEmpty ends)(k:∀e:Nat×Nat,Ĺ rows= .err e.1 e.2->K .next (f6 y0 y1 (.obj 1) v8 v9 (ŧ (some e)) y11 y12 y13 y14 y15 y16 y17 y18 y19 y20) (LH cells a rows cd df ops [] L)):ì (ú n) (sD Ŷ 10) (f6 y0 y1 (.obj 1) v8 v9 (ŧ ends) y11 y12 y13 y14 y15 y16 y17 y18 y19 y20) E (LH cells a rows cd df ops [] L) K:=by
 refine bo (j2 ends) ?_
 cases ends with
 |some e=>
  have h:=yL D []
  rw[à] at h
  exact ar rfl (k e h)
 |none=>
  have k:=k (mu rows,tC rows) (Iz D)
  refine ift rfl (fV vf (T5 (c:=((mu rows:Nat):Int)) ?_ (ND vf ?_)))
  ·rw[Â,mu]
   cases h:rows.length with
   |zero=>rfl
   |succ k=>
    have hm:max 1 (k+1)=k+1:=Nat.max_eq_right (Ì (ý k))
    rw[hm]
    cases k with
    |zero=>rfl
    |succ k=>exact Î (ï.mpr (Nat.succ_lt_succ (gz k)))
  ·rw[Â,←LL]
   refine join_nil ?_ ?_
   ·have h1:=d9 (l:=rows.drop (rows.length-1)) (b:=80) λw hw=>(iq (D.ok w (List.mem_of_mem_drop hw))).1
    rw[ã] at h1
    exact À h1 (À (Ò 80 (À (Ō ..) hr)) (by decide))
   ·rw[AV]
    exact ň (Re ..) k
theorem I3 (hc:Ű cells)(ha:a<=500)(hr:rows.length<=16)(k:∀C∈GS,∀y11,K .next (f6 y0 y1 (.lst ((rows++C).map .str)) v8 (.str (jP C)) v10 y11 y12 y13 y14 y15 y16 y17 y18 y19 y20) (LH cells (a+1) rows cd df ops ldr L)):ì (ú (n+1)) ((BW Ŷ 10).drop 2) (f6 y0 y1 (.obj 1) v8 (.str []) v10 y11 y12 y13 y14 y15 y16 y17 y18 y19 y20) E (LH cells a rows cd df ops ldr L) K:=by
 have hb:(rows.map V.str).length+3<=ę:=by rw[Â];exact À (Ì (Ì (Ì hr))) (by decide)
 have B0:∀k,k<=3->(rows.map V.str).length+k<=ę:=λk h=>À (Ý h _) hb
 refine š (lim:=3) hc (À ha (by decide)) (by decide) λc hc3=> ?_
 have k0:=k [] (by decide)
 have k1:=k [[37,37],xY,[37,37]] (by decide)
 have k2:=k [[37,37,32]] (by decide)
 rw[Ú] at k0 k1 k2
 match c,hc3 with
 |0,_=>exact wN vf (B0 0 (by decide)) (k0 _)
 |1,_=>exact wN vf (B0 3 (by decide)) (k1 _)
 |2,_=>exact wN vf (B0 1 (by decide)) (k2 _)
theorem I2 (hc:Ű cells)(ii:a<=100)(sH:GoodC cd)(hr:rows.length<=99)(k:∀a' rr ldr e1 e2 vs L',RF cd df ops.isEmpty (rows.length+1) rr ldr e1->rr.length<=12->ldr.length<=6->a'<=a+50->iw ldr e1 e2 vs->K .next (f6 y0 y1 (.obj 1) (.tup vs) v9 (ŧ e2) y11 y12 y13 y14 y15 y16 y17 y18 y19 y20) (LH cells a' (rows++[m]++rr) cd df ops ldr L')):L8 (ì (ú (n+2)) (sD (BW Ŷ 10) 1) (f6 y0 y1 (.obj 1) v8 v9 (ŧ ends) y11 y12 y13 y14 y15 y16 y17 y18 y19 y20) E) K (LH cells a (rows++[m]) cd df ops [] L):=by
 have hm:(rows++[m]).length=rows.length+1:=Ã
 refine FC (op:=ops.isEmpty) hc (À ii (by decide)) sH (by rw[hm];exact Ì hr) λa' rr ldr e1 L' RX BZ Hw Y8=> ?_
 rw[hm] at RX
 refine AX RD (À Hw (by decide)) RX.st λvs e2 L'' S=> ?_
 exact k a' rr ldr e1 e2 vs (L'++L'') RX BZ Hw Y8 S
end
section
variable {n i a:Nat} {H:AH} {E:Ĩ} {Q:QT} {K:ST} {cells:List Int} {at_:Nat} {rows rr:List (List Nat)} {cd:List (List Nat×Bool)} {df:List (List Nat×List Nat)} {ops:List (List Nat)} {L:AH} {ends:Option (Nat×Nat)} {ldr:List cD} {vs:List V} {tl:List Nat} {R:List (List Nat)} {m:List Nat}
variable {v8 v9 v10:V} {y0 y1 y2 y3 y4 y5 y6 y7 y8 y9 y10 y11 y12 y13 y14 y15 y16 y17 y18 y19 y20:Option V}
theorem I1 {m:List Nat}(h:m∈Q4):ń m=true∧dZ m=true:=vW (É.mp Dt m h)
theorem JT {C:List (List Nat)}(h:C∈GS):(∀w∈C,dZ w=true)∧C.length<=3:=by
 have h:=vW (É.mp DW C h)
 exact⟨É.mp h.1,Ā h.2⟩
theorem IA {e:Nat×Nat}(D:DI rows cd df ops.isEmpty (some e))(hm:m∈Q4)(hr:rows.length<=3):∀C∈GS,Ml (rows++[m]++C) cd df ops.isEmpty [] [] (jP C) (some e):=λC hC=>by
 have hc:=JT hC
 rw[Æ]
 refine⟨λw hw=> ?_,?_,yL D _⟩
 ·rcases ö.mp hw with h|h
  ·exact D.ok w h
  ·rcases Û.mp h with rfl|h
   ·exact (I1 hm).2
   ·exact hc.1 w h
 ·rw[Ã,Ã]
  exact À (Ë hr (Ë (Å 1) hc.2)) (by decide)
theorem YJ (hc:Ű cells)(ii:a<=50)(hr:rows.length<=3)(k:∀m∈Q4,K .next (f6 y0 y1 (.obj 1) v8 v9 v10 y11 y12 y13 y14 y15 y16 y17 y18 y19 y20) (LH cells (a+1) (rows++[m]) cd df ops [] L)):ì (ú (n+2)) ((BW Ŷ 10).take 1) (f6 y0 y1 (.obj 1) v8 v9 v10 y11 y12 y13 y14 y15 y16 y17 y18 y19 y20) E (LH cells a rows cd df ops [] L) K:=by
 refine bL vf rfl (š (lim:=2) hc (À ii (by decide)) (by decide) λc hc2=> ?_)
 have hb:rows.length<=small:=À hr (by decide)
 match c,hc2 with
 |0,_=>exact VF hb (k _ (by decide))
 |1,_=>exact VF hb (k _ (by decide))
set_option maxHeartbeats 20000 in
theorem YI (hc:Ű cells)(ii:a<=51)(D:DI rows cd df ops.isEmpty ends)(hr:rows.length<=3)(qi:df.length<=3)(hm:m∈Q4)
 (k:∀a',a'<=500->∀rr vs ldr e2 L',rr.length<=12->(∀C∈GS,Ml (rows++m::(rr++C)) cd df ops.isEmpty ldr vs (jP C) e2)->K .next (f6 y0 y1 (.obj 1) (.tup vs) v9 (ŧ e2) y11 y12 y13 y14 y15 y16 y17 y18 y19 y20) (LH cells a' (rows++[m]++rr) cd df ops ldr L')):
 ì (ú (n+2)) (((BW Ŷ 10).drop 1).take 1) (f6 y0 y1 (.obj 1) (.tup []) v9 (ŧ ends) y11 y12 y13 y14 y15 y16 y17 y18 y19 y20) E (LH cells a (rows++[m]) cd df ops [] L) K:=by
 refine bo (j2 ends) ?_
 cases ends with
 |some e=>
  have f:=k a (À ii (by decide)) [] [] [] (some e) L (ý _) λC hC=>by
   have P:=IA D hm hr C hC
   rw[Æ] at P
   exact P
  rw[à] at f
  exact ar rfl f
 |none=>
  exact ift rfl (I2 (ends:=none) hc (À ii (by decide)) D.m.1 (À hr (by decide)) λa' rr ldr e1 e2 vs L' RX BZ Hw ha' S=>k a' (À ha' (À (ě ii 50) (by decide))) rr vs ldr e2 L' BZ λC hC=>AJ D hm hC qi hr RX BZ Hw S)
set_option maxHeartbeats 20000 in
theorem m_B (hc:Ű cells)(ii:a<=50)(D:DI rows cd df ops.isEmpty ends)(hr:rows.length<=3)(qi:df.length<=3)
 (k:∀R vs tl e2 a' Rw ldr L' y11,Ml R cd df ops.isEmpty ldr vs tl e2->K .next (f6 y0 y1 (.lst (R.map .str)) (.tup vs) (.str tl) (ŧ e2) y11 y12 y13 y14 y15 y16 y17 y18 y19 y20) (LH cells a' Rw cd df ops ldr L')):
 ì (ú (n+2)) (BW Ŷ 10) (f6 y0 y1 (.obj 1) (.tup []) (.str []) (ŧ ends) y11 y12 y13 y14 y15 y16 y17 y18 y19 y20) E (LH cells a rows cd df ops [] L) K:=by
 refine aP 1 (YJ hc ii hr λm hm=>aP 1 (YI hc (Ì ii) D hr qi hm λa' ha rr vs ldr e2 L' hl P=>I3 hc ha ?_ λC hC y11=>k _ _ _ _ _ _ _ _ _ ?_))
 ·rw[Ã,Ã]
  exact Ë (Ë hr (Å 1)) hl
 ·have P:=P C hC
  rw[Æ,Æ]
  exact P
theorem Ja (hc:Ű cells)(ii:a<=49)(D:DI rows cd df ops.isEmpty ends)(hr:rows.length<=3)(qi:df.length<=3):
 ì (ú (n+13)) (Ŷ.drop 10) (f6 y0 y1 (.obj 1) (.tup []) (.str []) (ŧ ends) y11 y12 y13 y14 y15 y16 y17 y18 y19 y20) (λ_ _=>False) (LH cells a rows cd df ops [] L) qB:=by
 have pre:∀K:ST,(∀R vs tl e2 a' Rw ldr L' y11,Ml R cd df ops.isEmpty ldr vs tl e2->K .next (f6 y0 y1 (.lst (R.map .str)) (.tup vs) (.str tl) (ŧ e2) y11 y12 y13 y14 y15 y16 y17 y18 y19 y20) (LH cells a' Rw cd df ops ldr L'))->(∀e:Nat×Nat,Ĺ rows= .err e.1 e.2->K .next (f6 y0 y1 (.obj 1) (.tup []) (.str []) (ŧ (some e)) y11 y12 y13 y14 y15 y16 y17 y18 y19 y20) (LH cells (a+1) rows cd df ops [] L))->ì (ú (n+13)) ((Ŷ.drop 10).take 1) (f6 y0 y1 (.obj 1) (.tup []) (.str []) (ŧ ends) y11 y12 y13 y14 y15 y16 y17 y18 y19 y20) (λ_ _=>False) (LH cells a rows cd df ops [] L) K:=λK k1 k2=>
  š (lim:=8) hc (À ii (by decide)) (by decide) λc _=>bC (λ_=>m_A hr D k2) λ_=>m_B hc (Ì ii) D hr qi k1
 exact aP 1 (pre _ (λR vs tl e2 a' Rw ldr L' y11 P=>YH P) λe h=>T9 D.ok hr h)
noncomputable abbrev Mq (y0 y1 y10 y11 y12 y13 y14 y15 y16 y17 y18 y19 y20:Option V):Loc:=[y0,y1,some (.obj 0),some (.obj 1),some (.obj 2),some (.obj 3),some (.obj 4),some (.obj 5),some (.tup []),some (.str []),y10,y11,y12,y13,y14,y15,y16,y17,y18,y19,y20]
theorem AU {xs:List Int}(k:∀(cells:List Int) (y1:Option V),Ű cells->K .next (Mq (some (.lst (xs.map .int))) y1 y10 y11 y12 y13 y14 y15 y16 y17 y18 y19 y20) (LH cells 0 [] [(da,false)] [] [] [] [])):
 ì (ú n) (Ŷ.take 9) [some (.lst (xs.map .int)),y1,y2,y3,y4,y5,y6,y7,y8,y9,y10,y11,y12,y13,y14,y15,y16,y17,y18,y19,y20] E [] K:=by
 have ht:(xs.take 60).length<=60:=Àw _ _
 refine NE (b:=60) (by decide) (bv V.int V.int (xs.take 60) (È some List.map_take.symm) trivial (À ht (by decide)) ?_ λx hx K k=>k)
 cases hx:xs.take 60 with
 |nil=>exact k [0] _ ⟨nofun,by decide⟩
 |cons a l=>exact k (a::l) _ ⟨nofun,hx▸ht⟩
theorem Fq (hc:Ű cells)(k:∀a rows cd df (ops:List (List Nat)) ends,DI rows cd df ops.isEmpty ends->rows.length<=3->df.length<=3->a<=49->K .next (Mq y0 y1 (some (ŧ ends)) y11 y12 y13 y14 y15 y16 y17 y18 y19 y20) (LH cells a rows cd df ops [] [])):
 ì (ú (n+2)) ((Ŷ.drop 9).take 1) (Mq y0 y1 y10 y11 y12 y13 y14 y15 y16 y17 y18 y19 y20) E (LH cells 0 [] [(da,false)] [] [] [] []) K:=
 Jl hc (ý _) λa rows cd df ops ends D hr sG qi ii=>k a rows cd df ops ends D hr qi (À ii (by decide))
end
theorem Sf {W:Loc->Ĩ->WS}{E:Ĩ}{Q:ST}{ρ:Loc}{H:AH}(q:W ρ E H Q):iL W E Q .next ρ H:=q
theorem Fn (xs:List Int)(n:Nat):ì (ú (n+13)) Ŷ [some (.lst (xs.map .int)),none,none,none,none,none,none,none,none,none,none,none,none,none,none,none,none,none,none,none,none] (λ_ _=>False) [] qB:=by
 refine aP 9 (AU λcells y1 hc=>Sf (aP 1 (Fq hc λa rows cd df ops ends D hr qi ha=>Sf ?_)))
 exact Ja hc ha D hr qi
end
section
open PySem PySem.W PyProof.Rows PySem.Calls PySem.SeqAt
set_option backward.match.sparseCases false
theorem Fp (P:Params):nsIn (KF P) mainGlobals "law" =some (some (.ref 682)):=by kernel_rfl
theorem Fo (c:Cx)(k:qD c):fK c:=Jy (λG=>Ud SH (by kernel_rfl) (by kernel_rfl) (by kernel_rfl) G λxs=>Fn xs 4) c k
theorem walk:Walk:=by
 intro w Yt Ę mg mb Y FA fa o pm cd doc dV kV ho hd sH hD hmg hg args vals as YZ Y3 hrd hwl KB
 wrow_args YZ Y3 hrd hwl KB
 rename_i xs _ _ _ _ _ _ _ p ys _ hL _ hW _ hI _ hlen _
 let c:Cx:=⟨w,Ę.heap,Ę.os,mg,mb,ExcName.means Yt.heap⟩
 have G:qD c:=⟨FA,Y.T⟩
 have hfa:fa=682:=aN (Ä (hmg.symm.trans (mg_of G.kin G.top.g (Fp _))))
 subst hfa
 have hp:Ę.heap.get? p=some (ē ys 0):=by
  obtain⟨o,e1,e2,e3,e4⟩:=hL
  cases hW with
  |list e5 _=>
   rw[e1] at e5;cases e5
   cases e4
   exact e1
 refine ê (Fo c G Ę p ys xs rfl rfl hg hp hI (by lia)) (λx s' ⟨e,k,QM,hg'⟩=> ?_) λ_ _ h=>h.elim
 subst e
 refine⟨.inl ⟨_,.bool true,[],rfl,λcls=>rfl,.bool true,?_,λ_=>⟨G1,λa ha=>nomatch ha⟩⟩,.of_keep k,QM,?_⟩
 ·wrow_post
 ·rw[hg'];exact .of_eq rfl
theorem holds:zS.Holds:=head walk
end
end Mine.Internal
theorem PySem.Challenge.cw_nn0394_01_holds : PySem.Challenge.rw_nn0394_01.Holds :=
 Mine.Internal.holds
