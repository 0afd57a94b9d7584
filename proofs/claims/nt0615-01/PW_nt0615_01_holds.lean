import PyProof.Rows.All
import Wide.All
import OpenK.AllK
import Wide.FinOn
import KE.KItem
import KE.KSliceW
import KE.KEqDict
import Lean
import PySem.Challenge.RW_nt0615_01
set_option Elab.async false
set_option maxRecDepth 100000
set_option linter.all false
open List renaming length_append→ba,append_assoc→cG,length_map→cB,map_append→cK,mem_singleton→dx,length_singleton→dS,mem_cons_of_mem→eV,getElem?_append_left→gh,getElem?_append_right→gI,mem_cons_self→fa,mem_cons→d_,mem_append_right→gr,getLast?_concat→gf,length_cons→fH,getElem?_eq_getElem→jn,getElem?_eq_some_iff→jL,lookup_cons→gu,mem_append_left→iG,dropLast_concat→iH,map_cons→fI,mapM_cons→gg,mem_append→gW,prefix_refl→iI,map_congr_left→j7,getElem?_map→jo,append_nil→iJ,prefix_append→kv,reverse_reverse→lL,countP_append→kR,mem_map→ig,all_eq_true→kx,mem_singleton_self→o2,length_reverse→mC,mem_reverse→lM,dropLast_concat_getLast→ue,getElem?_set_self→pY,any_eq_true→nR,countP_eq_zero→pZ,getElem?_set_ne→rk,mem_of_getElem?→rm,find?_cons→nS,length_nil→nT,cons_ne_nil→o5,getLast?_map→p3,mem_iff_getElem?→uh,countP_cons→p4,length_pos_iff→ui,nil_append→p6,getElem_mem→rq,getLast?_eq_some_getLast→D6,length_modify→xB,set_append_right→AE,map_map→pU,reverse_cons→xm,getElem?_modify→Am,flatMap_cons→xo,range→nM,countP_pos_iff→Ao,cons_append→xp,getElem?_eq_none→DR,ext_getElem?→Ar,length_range→As,mem_range→xr,lookup→q9,mem_of_getLast?→DS,getElem?_eq_none_iff→J2,getLastD_eq_getLast?→J4,length_set→Aw,nodup_cons→Ax,zip_cons_cons→DV,length→ud,filter_eq_nil_iff→J6,dropLast_eq_take→J7,getElem?_toArray→J8,countP_le_length→J9,filter_cons→DX,getElem?_of_mem→J_,eq_nil_of_length_eq_zero→Sx,mem_map_of_mem→Ka,map_eq_nil_iff→Kc,filter_eq_self→Kd,setIfInBounds_toArray→SA,lookup_append→Kf,getLast?_eq_getElem?→SE,drop_eq_getElem_cons→SF,getLast?_eq_none_iff→SH,size_toArray→Kh,map_dropLast→Ki,getElem?_cons_succ→SM,pairwise_singleton→SO,append_cancel_left→SP,mapM_append→Kk,drop_eq_nil_of_le→SS,map_nil→D0,length_filter_le→SX,take_left→Kn,pairwise_append→S1,getLast?_append→S2,range'→D4,append_toArray→S5,mem_filterMap→S8,getElem?_take→S9,getElem?_drop→S_,push_toArray→Tb,getElem?_set→Te,foldl_append→Tf,take_prefix→Tg,any_toArray→Th,length_take→Tj,length_drop→To,take_length→Tp,all_toArray→Tq,isEmpty_iff→Tr,mem_flatMap→Ts,range'_succ→Tt,map_id→Kt,forIn_cons→Tx,filter_map→TA,any_cons→TM
open Nat renaming le_refl→cC,lt_of_le_of_lt→fO,le_trans→d8,le_of_ble_eq_true→iF,lt_trans→fg,le_succ→fA,sub_self→gw,zero_le→gJ,add_sub_cancel→mD,add_sub_cancel_left→rg,le_add_right→nQ,le_of_lt→nU,not_lt→mG,exists_eq_add_of_le→DQ,lt_of_lt_of_le→Ap,lt_succ_self→Av,le_of_eq→xu,add_comm→xx,succ_pos→xy,ne_of_lt→Az,zero_add→AA,add_right_comm→Kg,le_of_add_le_add_left→SG,succ_le_succ→Kj,not_lt_zero→Km,sub_succ_lt_self→S0,lt_succ_of_lt→Tc,lt_of_succ_lt→Td,min_eq_left→Tv,lt_irrefl→TJ,ne_of_gt→TR,min_self→TY,le_zero→T3,not_le→T8,max_le→T9
open Option.some renaming inj→dE
open PySem renaming wpAny_bind→c8,wpAny→bI,wpAny_pure→fl,wpAny_holding→mE,starEach→jM,mainGlobals→nW,wpAny_standAt→p7,truthy→p8,sysModules→oZ,wpAny_newObj_type→Aq,wpAny_assign_Name→Au,call_list_seq→Kb,wpAny_Constant_int→Ke,wpAny_comprehension_free→SK,wpAny_allTrue_And_cons→SU,wpAny_execs_nil→Kl,wpAny_storeName_local→SV,wpAny_allTrue_Or_cons→SW,wpAny_setItem_pairs→S4,wpAny_UnaryOp→Ko,wpAny_getItem_list→S6,wpAny_Constant_str→S7,wpAny_truthy_bool→Ta,wpAny_getItem_of→Ti,wpAny_Dict_empty→Tn,wpAny_field→Ks,wpAny_loadPart→TB,wpAny_notIn_of→TC,wordsOf→TH,wpAny_release→TL,wpAny_typeOf→TX,wpAny_in_of→T4,wpAny_of_eq→T5
open Or renaming inl→bB,inr→bE
open Eq renaming refl→dy,trans→AB
open PySem.Challenge renaming pw_nt0615_01→nN,rw_nt0615_01→AD
open PySem.W.Fast renaming tw10110043849684766642→rd,tw14364793385576792824→rf,tw5923862056798008813→Sw,tw15667345088766844465→agG,tw11892475500146522536→agH,te10110043849684766642→agI,te15667345088766844465→agJ,te11892475500146522536→agK,te14364793385576792824→agL,te10235530238920679567→agM,tw17960256430627541270→agN,tw12908688711261696721→agO,tw4187177175401517315→agW,te5923862056798008813→agX,te4187177175401517315→agY,te9446332074065402090→agZ,tw9446332074065402090→ag0,tw2436336058641802641→ag1
open Classical renaming byContradiction→o1
open PySem.Builtin.Str renaming spaceWords→nO
open Bool renaming and_eq_true→kS,false_ne_true→nP,eq_false_iff→o4,eq_iff_iff→p5,and_false→rt,or_eq_true_iff→DT,not_eq_true'→DW,and_eq_true_iff→SY,true_or→Kq,or_eq_true→Tw,false_or→TO,true_and→TP,and_true→TQ,or_true→T1
open PySem.Heap renaming get?_push_of_some→rh,get?_push_size→ro,SameBut→xt,lt_size→Ay,ExtBut→Kr,size_push→TF
open PySem.PyData renaming canLay0→lN,canLayAll0→p2,depth→nV,depthAll→rr,eqv→q_,keyHash→DY,int→D5,eqvAll→TN
open Int renaming toNat_natCast→o3,natCast_nonneg→DU,ofNat→pW,ofNat_lt→Kp,not_le→Ku,lt_trans→TS,le_trans→TU,le_of_lt→TV
open PySem.Builtin.Range renaming rangeSize→uf,small→An,rangeFitsLong→Sy
open Option renaming map_eq_bind→p1,map_eq_some_iff→J5,bind→xA,isSome_iff_exists→SI,bind_eq_some_iff→SN,none→D3,map_some→Tz,map→Kw
open PySem.Str renaming ofString→mF,append→T7
open PySem.Builtin.Slice renaming slicePlaces→D7,sliceAdjust→J3,sliceApplied→SD,sliceFields→ahe
open List.cons renaming injEq→uj
open List.Pairwise renaming nil→xn,map→ahJ
open PySem.Builtin.Tuple renaming tupleExact→DP,tupleItemsOf→aha,tupleIsExact→ahb
open PyProof.Rows renaming slot_tuple_getitem→J1,getItem_tuple→Sz,entry_tuple_getitem→ag9,args_tuple_getitem→ag_,evalArgs_nil3→ahc,floordiv_int→ahd,eq_dataH→ahi,ne_dataH→ahj,sub_int→ahl,mul_int→ahm,mod_int→ahn,add_int→aho,add_str→ahp,eq_bool→ahq,ne_bool→ahr,eq_str→aht,ne_str→ahu,eq_int→ahv,ne_int→ahw,lt_int→ahx,le_int→ahy,gt_int→ahz,ge_int→ahA
open ForInStep renaming yield→xq
open PySem.SeqAt renaming EqAt→pV,eqv_refl→ahs
open Ne renaming symm→pX
open PySem.F renaming slot_list_insert→SJ,slot_str_split→SR
open PyProof renaming noPylong_small→SQ
open Nat.succ renaming inj→DZ
open PySem.AutoSeq1 renaming list_insert_list_int_val_1→agz
open PySem.Heap.SameBut renaming update→S3
open PySem.W.SL renaming s11030030927630378310x26→agA,s10062305145149207511x16→agB,s14755015743595814543x17→agC,s10220274742760427390x26→agD,s11443829558043349243x14→agE,s12411053484034534018x21→agF,s14018661285674007319x4→agP,s7097527257260152453x26→agQ,s17162191345867700912x4→agR,s4278001404047624695x13→agS,s5160863994218179198x17→agT,s4860613602091757760x24→agU,s6511155373996960695x17→agV,s2766695959194262286x5→ag2,s5856160107412720595x4→ag3,s7174869446012820540x8→ag4,s5946037652744460706x9→ag5,s2742458400755230247x6→ag6,s4290257624100764138x5→ag7,s658472552662922059x5→ag8
open PySem.P renaming neg_int→Tu
open PySem.Obj renaming mapSeq→Kv,putName→T2
open PySem.Value.ref renaming elim→TG,inj→ah4
open PySem.Calls renaming call_len_list→ahf
open PySem.NameKind renaming cell→TK
open Array renaming all→Kx
open PySem.IntMulOk renaming of_left→ahg
open PySem.IsiPair renaming list_str→ahh,str_str→ahk
open PySem.Code renaming builtin→TZ
open PySem.IsRange renaming new→T6
open PySem.Expr.Attribute renaming elim→ahB
open PySem.Expr.Subscript renaming elim→ahC
open PySem.Stmt.AugAssign renaming elim→ahD
open PySem.SeqAt.EqAt renaming str_str→ahE,int_int→ahF
open PySem.Heap.IsSliceOf renaming new→ahG
open PySem.Expr.Constant renaming elim→ahH
open PySem.Expr.ListComp renaming elim→ahI
open PySem.Expr.Compare renaming elim→ahK
open PySem.Expr.UnaryOp renaming elim→ahL
open PySem.DictEntry renaming refKey→ahM
open PySem.IsL renaming update→ahN
open PySem.W.Looks renaming now→T_
open Except renaming ok→Ua
open PySem.Expr.BoolOp renaming elim→ahO
open PySem.Stmt.Return renaming elim→ahP
open PySem.Stmt.Assign renaming elim→ahQ
open PySem.Expr.Slice renaming elim→ahR
open PySem.Expr.BinOp renaming elim→ahS
open PySem.Expr.IfExp renaming elim→ahT
open PySem.Expr.Tuple renaming elim→ahU
open PySem.Stmt.While renaming elim→ahV
open PySem.Stmt.Break renaming elim→ahW
open Prod renaming ext→Ub
open PySem.Expr.Name renaming elim→ahX
open PySem.Expr.List renaming elim→ahY
open PySem.Expr.Dict renaming elim→ahZ
open PySem.Expr.Call renaming elim→ah0
open PySem.Stmt.Expr renaming elim→ah1
open PySem.Value.int renaming elim→ah2
open PySem.Value.str renaming elim→ah3
open PySem.Stmt.For renaming elim→ah5
open PySem.Data.seq renaming elim→ah6
open Option renaming some→ae,none→az
open Bool renaming true→aB,false→aP
noncomputable section
theorem Mine.ab{agy:Sort u}{a:agy}:a=a:=rfl
section
namespace MineH
open PySem PySem.W
noncomputable def S:String->Str:=mF
def s0:Str:=S "<module>"
def s1:Str:=S "/claim/cut.py"
def s2:Str:=S "__main__"
def s3:Str:=S "type.__subclasses__.Exception.0"
def s4:Str:=S "type.__subclasses__.Exception.n"
def s5:Str:=S "__name__"
def iY:Str:=S "htmltree.formatting"
def lB:Str:=S "__doc__"
def t5:Str:=S "__package__"
def t6:Str:=S "__loader__"
def tr:Str:=S "__spec__"
def ts:Str:=S "__annotations__"
def tu:Str:=S "__builtins__"
def tv:Str:=S "__file__"
def tx:Str:=S "__cached__"
def mn:Str:=S "_wall"
def kn:Str:=S "HtmlFault"
def kq:Str:=S "Misused"
def RA:Str:=S "k"
def mq:Str:=S "__module__"
def tE:Str:=S "htmltree.faults"
def wD:Str:=S "__qualname__"
def mr:Str:=S "__firstlineno__"
def kr:Str:=S "__init__"
def mu:Str:=S "__static_attributes__"
def d7:Str:=S "self"
def RC:Str:=S "why"
def IF:Str:=S "HtmlFault.__init__"
def oM:Str:=S "__weakref__"
def wX:Str:=S "htmltree.names"
def kL:Str:=S "Formatting"
def ny:Str:=S "alike"
def nz:Str:=S "is_upper"
def nA:Str:=S "lower"
def nC:Str:=S "lower_text"
def nD:Str:=S "is_table_part"
def nE:Str:=S "is_math_point"
def wY:Str:=S "push"
def IG:Str:=S "mark"
def IH:Str:=S "clear_to_mark"
def II:Str:=S "find"
def wZ:Str:=S "has"
def lA:Str:=S "place"
def pO:Str:=S "remove"
def IJ:Str:=S "replace"
def w4:Str:=S "put_at"
def kM:Str:=S "tree"
def IK:Str:=S "Formatting.__init__"
def eZ:Str:=S "node"
def adP:Str:=S "count"
def adQ:Str:=S "earliest"
def tY:Str:=S "at"
def IL:Str:=S "Formatting.push"
def IM:Str:=S "Formatting.mark"
def IP:Str:=S "Formatting.clear_to_mark"
def ie:Str:=S "name"
def IQ:Str:=S "Formatting.find"
def IS:Str:=S "Formatting.has"
def IT:Str:=S "Formatting.place"
def IU:Str:=S "Formatting.remove"
def adR:Str:=S "old"
def adS:Str:=S "new"
def IV:Str:=S "Formatting.replace"
def IW:Str:=S "Formatting.put_at"
def IX:Str:=S "items"
def q2:Str:=S "__dict__"
def adT:Str:=S "a"
def adU:Str:=S "b"
def RD:Str:=S "pair"
def IY:Str:=S "c"
def IZ:Str:=S "htmltree.signs"
def tZ:Str:=S "text"
def RE:Str:=S "out"
def jh:Str:=S "htmltree.openstack"
def oN:Str:=S "is_html_point"
def oO:Str:=S "implied_names"
def oP:Str:=S "all_implied_names"
def lC:Str:=S "OpenStack"
def adV:Str:=S "encoding"
def I0:Str:=S "pop"
def I4:Str:=S "current"
def I5:Str:=S "many"
def I6:Str:=S "has_name"
def I7:Str:=S "pop_until"
def I8:Str:=S "pop_to"
def I9:Str:=S "OpenStack.__init__"
def I_:Str:=S "OpenStack.push"
def Ja:Str:=S "OpenStack.pop"
def Jb:Str:=S "OpenStack.current"
def Jc:Str:=S "OpenStack.many"
def Jd:Str:=S "OpenStack.has"
def Je:Str:=S "OpenStack.remove"
def Jf:Str:=S "OpenStack.place"
def Jg:Str:=S "OpenStack.put_at"
def Jh:Str:=S "OpenStack.name"
def Ji:Str:=S "OpenStack.has_name"
def Dt:Str:=S "names"
def Jj:Str:=S "OpenStack.pop_until"
def Jk:Str:=S "OpenStack.pop_to"
def iZ:Str:=S "htmltree.tree"
def pM:Str:=S "pop_all_implied"
def mj:Str:=S "Tree"
def Ru:Str:=S "stack"
def HU:Str:=S "add"
def HV:Str:=S "element"
def HW:Str:=S "comment"
def HX:Str:=S "doctype"
def HY:Str:=S "insert"
def HZ:Str:=S "append"
def H0:Str:=S "move_children"
def H3:Str:=S "last"
def H4:Str:=S "value"
def H5:Str:=S "is_html"
def H6:Str:=S "Tree.__init__"
def H7:Str:=S ""
def Rv:Str:=S "kind"
def z0:Str:=S "space"
def wC:Str:=S "attrs"
def H8:Str:=S "Tree.add"
def H9:Str:=S "html"
def H_:Str:=S "Tree.element"
def Ia:Str:=S "Tree.text"
def Ib:Str:=S "Tree.comment"
def ac6:Str:=S "public"
def ac7:Str:=S "system"
def Ic:Str:=S "Tree.doctype"
def z4:Str:=S "parent"
def Dr:Str:=S "before"
def Ie:Str:=S "Tree.insert"
def Ig:Str:=S "Tree.append"
def Ih:Str:=S "Tree.remove"
def Rw:Str:=S "here"
def ac8:Str:=S "there"
def Ii:Str:=S "Tree.move_children"
def Ij:Str:=S "Tree.place"
def Ik:Str:=S "Tree.last"
def Il:Str:=S "Tree.value"
def Im:Str:=S "Tree.is_html"
def ac9:Str:=S "children"
def ac_:Str:=S "contents"
def ada:Str:=S "kinds"
def adb:Str:=S "parents"
def ade:Str:=S "spaces"
def adf:Str:=S "texts"
def qU:Str:=S "htmltree.inserting"
def qV:Str:=S "above"
def nv:Str:=S "Builder"
def qW:Str:=S "is_html_turn"
def qX:Str:=S "finish"
def qY:Str:=S "foster_place"
def qZ:Str:=S "place_for"
def q0:Str:=S "insert_sign"
def adg:Str:=S "up"
def lz:Str:=S "htmltree.builder"
def Io:Str:=S "error"
def Ip:Str:=S "to"
def Iq:Str:=S "use"
def Ir:Str:=S "process"
def It:Str:=S "feed"
def Iu:Str:=S "adjusted"
def Iv:Str:=S "is_foreign"
def Rx:Str:=S "rules"
def Ry:Str:=S "is_scripting"
def Iw:Str:=S "Builder.__init__"
def Rz:Str:=S "word"
def Iy:Str:=S "Builder.error"
def z5:Str:=S "mode"
def Iz:Str:=S "Builder.to"
def jF:Str:=S "token"
def adh:Str:=S "rule"
def IA:Str:=S "Builder.use"
def IB:Str:=S "Builder.process"
def IC:Str:=S "Builder.feed"
def ID:Str:=S "Builder.adjusted"
def IE:Str:=S "Builder.is_foreign"
def adi:Str:=S "context"
def adj:Str:=S "errors"
def adk:Str:=S "form"
def adl:Str:=S "formatting"
def adm:Str:=S "head"
def adn:Str:=S "is_acknowledged"
def ado:Str:=S "is_done"
def adp:Str:=S "is_foster"
def adq:Str:=S "is_frameset_ok"
def ads:Str:=S "is_skipping"
def adt:Str:=S "modes"
def adu:Str:=S "original"
def adv:Str:=S "owners"
def adw:Str:=S "pending"
def adx:Str:=S "quirks"
def ady:Str:=S "wish"
def h_:Str:=S "builder"
def adz:Str:=S "target"
def RB:Str:=S "sign"
def adA:Str:=S "ahead"
def hA:Str:=S "law_nt0615_01"
def tA:Str:=S "make"
def tB:Str:=S "insert_element"
def tC:Str:=S "insert_token"
def tD:Str:=S "associate"
def tF:Str:=S "mode_of"
def tG:Str:=S "select_mode"
def tH:Str:=S "mode_for"
def tI:Str:=S "reset_mode"
def tJ:Str:=S "open_template"
def tK:Str:=S "leave_template"
def tL:Str:=S "close_template"
def tM:Str:=S "is_head_part"
def tO:Str:=S "template_mode"
def tP:Str:=S "turn_template"
def tQ:Str:=S "end_in_template"
def tR:Str:=S "in_template"
def tS:Str:=S "template_rules"
def tT:Str:=S "_law_bases"
def tU:Str:=S "_law_token"
def tV:Str:=S "_law_any"
def tW:Str:=S "_law_head"
def tX:Str:=S "_law_foreign"
def adB:Str:=S "table"
def Ds:Str:=S "htmltree.reset"
def pN:Str:=S "htmltree.templates"
def adC:Str:=S "number"
def adD:Str:=S "starts"
def adE:Str:=S "ends"
def adF:Str:=S "others"
def adG:Str:=S "drawn"
def wF:Str:=S "_law_note"
def wG:Str:=S "_law_home"
def wH:Str:=S "_law_put"
def wI:Str:=S "_law_grow"
def wJ:Str:=S "_law_shells"
def wK:Str:=S "_law_leave"
def wL:Str:=S "_law_head_due"
def wM:Str:=S "_law_any_due"
def wN:Str:=S "_law_foreign_due"
def wO:Str:=S "_law_template_due"
def wQ:Str:=S "_law_due"
def wU:Str:=S "_law_plain"
def wV:Str:=S "_law_is_same"
def wW:Str:=S "_law_scene"
def z6:Str:=S "law"
def q1:Str:=S "state"
def adH:Str:=S "kids"
def adI:Str:=S "told"
def adJ:Str:=S "heads"
def adK:Str:=S "turns"
def adL:Str:=S "script"
def adM:Str:=S "bases"
def adN:Str:=S "scene"
def adO:Str:=S "digits"
noncomputable def ly:String:=ag2
noncomputable def d4:String:=ag3
noncomputable def cT:String:=ag8
noncomputable def fN:String:=agP
noncomputable def nq:String:=agQ
noncomputable def HO:String:=ag4
noncomputable def wz:String:=ag5
noncomputable def tm:String:=agA
noncomputable def acP:String:=agB
noncomputable def tq:String:=agR
noncomputable def Ri:String:=agS
noncomputable def oL:String:=ag6
noncomputable def Rj:String:=agT
noncomputable def pL:String:=agC
noncomputable def zY:String:=agD
noncomputable def wx:String:=ag7
noncomputable def wy:String:=agU
noncomputable def Df:String:=agE
noncomputable def Dg:String:=agV
noncomputable def Dh:String:=agF
noncomputable def PL{bg:Type}[Inhabited bg](l:List bg):Nat->bg:=@List.rec bg (λ_=>Nat->bg) (λ_=>default) (λx _ ih n=>@Nat.rec (λ_=>bg) x (λk _=>ih k) n) l
noncomputable def Wi(s:Stmt):List Stmt:=match s with | .ClassDef _ _ _ b ..=>b | _=>[]
noncomputable def E7(s:Stmt):Str:=match s with | .FunctionDef n ..=>n | _=>default
noncomputable def E5(s:Stmt):Arguments:=match s with | .FunctionDef _ a ..=>a | _=>default
noncomputable def E6(s:Stmt):List Stmt:=match s with | .FunctionDef _ _ b ..=>b | _=>[]
noncomputable def E9(s:Stmt):Scope:=match s with | .FunctionDef _ _ _ _ _ _ c ..=>c | _=>default
noncomputable def Wd:List Stmt:=nN.main.body
noncomputable def top(i:Nat):Stmt:=PL Wd i
noncomputable def mem(i j:Nat):Stmt:=PL (Wi (top i)) j
noncomputable def ax(P:Params)(k:Str)(t:Nat)(v:Value):DictEntry:=⟨DY P k,.str k t,v⟩
noncomputable def b6(d:Stmt)(q:Str)(g:Addr)(dv:Value):Obj:={cls:=.none,data:=.func {name:=E7 d,qualname:=q,params:=E5 d,body:=.stmts (E6 d),scope:=E9 d,globals:=g,closure:=[],defaults:=dv,kwdefaults:=.none}}
noncomputable def bV(d:Stmt)(q:Str)(g:Addr)(dv pm cd:Value):Obj:={cls:=.type HO,data:=.func {name:=E7 d,qualname:=q,params:=E5 d,body:=.stmts (E6 d),scope:=E9 d,globals:=g,closure:=[],defaults:=dv,kwdefaults:=.none,pyModule:=pm,code:=cd}}
abbrev N:=@BT.node
abbrev e:=BT.nil
noncomputable abbrev L(o:Obj):BT:=N o e e
noncomputable def bU(l:List Value):Obj:=⟨.type ly,az,.seq ⟨l⟩ 0,⟨[]⟩⟩
noncomputable def b8(c:Value)(l:List Value):Obj:=⟨c,az,.fields ⟨l⟩,⟨[]⟩⟩
noncomputable def bR(a b:Str)(i l p u:Nat)(r:Value)(z:Bool)(r2 x y w:Value)(m:Nat):Obj:=b8 (.type d4) [.str a i,.str b (i+1),.str s1 (i+2),.int l 0,.int p 0,.int 0 0,.int 0 0,.int u 0,r,.bool z,.int 181 0,r2,.none,x,y,w,.int m 0,.int l 0,.str s1 (m+1)]
noncomputable def b9(a b:Str)(i l p r m:Nat):Obj:=bR a b i l p 3 (.ref r) aB (.ref (r+1)) (.ref (r+2)) (.ref (r+3)) (.ref (r+4)) m
noncomputable def uA:Stmt:=top 0
noncomputable def Np:Stmt:=mem 2 0
noncomputable def L9:Stmt:=mem 5 0
noncomputable def Me:Stmt:=mem 5 1
noncomputable def MA:Stmt:=mem 5 2
noncomputable def ME:Stmt:=mem 5 3
noncomputable def ML:Stmt:=mem 5 4
noncomputable def MP:Stmt:=mem 5 5
noncomputable def MU:Stmt:=mem 5 6
noncomputable def M3:Stmt:=mem 5 7
noncomputable def M7:Stmt:=mem 5 8
noncomputable def Nd:Stmt:=mem 5 9
noncomputable def Ng:Stmt:=top 6
noncomputable def Nq:Stmt:=top 8
noncomputable def Nt:Stmt:=top 9
noncomputable def Nu:Stmt:=top 10
noncomputable def Nv:Stmt:=top 12
noncomputable def Nw:Stmt:=top 13
noncomputable def Nx:Stmt:=top 14
noncomputable def Ny:Stmt:=top 15
noncomputable def Nz:Stmt:=top 16
noncomputable def LU:Stmt:=mem 18 0
noncomputable def LV:Stmt:=mem 18 1
noncomputable def LW:Stmt:=mem 18 2
noncomputable def LX:Stmt:=mem 18 3
noncomputable def LY:Stmt:=mem 18 4
noncomputable def LZ:Stmt:=mem 18 5
noncomputable def L0:Stmt:=mem 18 6
noncomputable def L1:Stmt:=mem 18 7
noncomputable def L5:Stmt:=mem 18 8
noncomputable def L6:Stmt:=mem 18 9
noncomputable def L7:Stmt:=mem 18 10
noncomputable def L8:Stmt:=mem 18 11
noncomputable def L_:Stmt:=mem 18 12
noncomputable def Ma:Stmt:=top 19
noncomputable def Mb:Stmt:=mem 21 0
noncomputable def Mc:Stmt:=mem 21 1
noncomputable def Md:Stmt:=mem 21 2
noncomputable def Mf:Stmt:=mem 21 3
noncomputable def Mg:Stmt:=mem 21 4
noncomputable def Mh:Stmt:=mem 21 5
noncomputable def Mi:Stmt:=mem 21 6
noncomputable def Mj:Stmt:=mem 21 7
noncomputable def Mk:Stmt:=mem 21 8
noncomputable def Ml:Stmt:=mem 21 9
noncomputable def Mm:Stmt:=mem 21 10
noncomputable def Mn:Stmt:=mem 21 11
noncomputable def Mo:Stmt:=mem 21 12
noncomputable def Mp:Stmt:=mem 21 13
noncomputable def Mq:Stmt:=top 22
noncomputable def Mr:Stmt:=mem 24 0
noncomputable def Ms:Stmt:=mem 24 1
noncomputable def Mt:Stmt:=mem 24 2
noncomputable def Mu:Stmt:=mem 24 3
noncomputable def Mv:Stmt:=mem 24 4
noncomputable def Mw:Stmt:=mem 24 5
noncomputable def Mx:Stmt:=mem 24 6
noncomputable def My:Stmt:=mem 24 7
noncomputable def Mz:Stmt:=top 25
noncomputable def MB:Stmt:=top 26
noncomputable def MC:Stmt:=top 28
noncomputable def MD:Stmt:=top 29
noncomputable def MF:Stmt:=top 30
noncomputable def MG:Stmt:=top 31
noncomputable def MH:Stmt:=top 32
noncomputable def MI:Stmt:=top 33
noncomputable def MJ:Stmt:=top 34
noncomputable def MK:Stmt:=top 36
noncomputable def MM:Stmt:=top 37
noncomputable def MN:Stmt:=top 38
noncomputable def MO:Stmt:=top 39
noncomputable def MQ:Stmt:=top 41
noncomputable def MR:Stmt:=top 42
noncomputable def MS:Stmt:=top 43
noncomputable def MT:Stmt:=top 44
noncomputable def MV:Stmt:=top 45
noncomputable def MW:Stmt:=top 46
noncomputable def MX:Stmt:=top 47
noncomputable def MY:Stmt:=top 48
noncomputable def MZ:Stmt:=top 49
noncomputable def M0:Stmt:=top 51
noncomputable def M1:Stmt:=top 52
noncomputable def M4:Stmt:=top 53
noncomputable def M5:Stmt:=top 54
noncomputable def M6:Stmt:=top 55
noncomputable def M8:Stmt:=top 56
noncomputable def M9:Stmt:=top 57
noncomputable def M_:Stmt:=top 58
noncomputable def Na:Stmt:=top 59
noncomputable def Nb:Stmt:=top 60
noncomputable def Nc:Stmt:=top 61
noncomputable def Nf:Stmt:=top 62
noncomputable def Nh:Stmt:=top 63
noncomputable def Ni:Stmt:=top 64
noncomputable def Nj:Stmt:=top 65
noncomputable def Nk:Stmt:=top 66
noncomputable def Nl:Stmt:=top 67
noncomputable def Nm:Stmt:=top 68
noncomputable def Nn:Stmt:=top 69
noncomputable def Nr:Stmt:=top 70
noncomputable def o0:Obj:=bU []
noncomputable def aE:Obj:=b8 .none []
noncomputable def cP:Obj:=bR s0 s0 182 1 0 0 (.ref 11) aP (.ref 12) .none .none .none 185
noncomputable def me:Obj:=⟨.type cT,az,.plain,⟨[(ae (.ref 13)),(ae (.ref 3)),(ae (.ref 3)),az,(ae (.str s2 164)),az,(ae (.ref 0))]⟩⟩
noncomputable def sQ(P:Params):Obj:=⟨.none,az,(.dict ⟨[ax P s3 221 (.int 38 0),ax P s4 222 (.int 1 0)]⟩ 2),⟨[]⟩⟩
noncomputable def abz(P:Params):Obj:=⟨.type fN,az,(.dict ⟨[ax P s5 165 (.str iY 241),ax P lB 166 .none,ax P t5 167 .none,ax P t6 168 (.builtin nq),ax P tr 169 .none,ax P ts 170 (.ref 6),ax P tu 171 (.ref 4),ax P tv 173 (.str s1 172),ax P tx 174 .none,ax P mn 193 (.ref 21),ax P kn 224 (.ref 38),ax P kq 240 (.ref 51)]⟩ 12),⟨[]⟩⟩
noncomputable def abC:Obj:=b8 .none [.int 1 0,.int 0 0,.ref 20,.int 5 0,.int 0 0,.ref 27,.int 10 0,.int 0 0,.ref 47]
noncomputable def s_:Obj:=bU [.str RA 190]
noncomputable def sa:Obj:=b6 uA mn 0 .none
noncomputable def sd:Obj:=b9 mn mn 187 1 1 15 191
noncomputable def sg:Obj:=bV uA mn 3 .none (.str s2 164) (.ref 20)
noncomputable def sm:Obj:=bU [.type wz]
noncomputable def fy:Obj:=b8 (.type tm) [.builtin acP,.type tq]
noncomputable def so(P:Params):Obj:=⟨.type fN,az,(.dict ⟨[ax P mq 203 (.str tE 194),ax P wD 205 (.str kn 204),ax P mr 207 (.int 5 206),ax P kr 215 (.ref 35),ax P mu 217 (.ref 36)]⟩ 5),⟨[]⟩⟩
noncomputable def sx:Obj:=b8 .none [.int 7 0,.int 4 0,.ref 34]
noncomputable def sy:Obj:=bR kn kn 198 5 0 0 (.ref 25) aP (.ref 26) .none .none .none 201
noncomputable def sA:Obj:=⟨.type cT,az,.plain,⟨[(ae (.ref 27)),(ae (.ref 3)),(ae (.ref 24)),az,(ae (.str tE 194)),az,(ae (.ref 0))]⟩⟩
noncomputable def sC:Obj:=bU [.str d7 211,.str RC 212]
noncomputable def sD:Obj:=b6 Np IF 0 .none
noncomputable def sE:Obj:=b9 kr IF 208 7 2 29 213
noncomputable def sF:Obj:=bV Np IF 3 .none (.str tE 194) (.ref 34)
noncomputable def sG:Obj:=bU [.str RC 216]
noncomputable def sH(P:Params):Obj:=⟨.type fN,az,(.dict ⟨[ax P mq 203 (.str tE 194),ax P mr 207 (.int 5 206),ax P kr 215 (.ref 35),ax P mu 217 (.ref 36),ax P oM 219 (.ref 39),ax P lB 220 .none]⟩ 3),⟨[]⟩⟩
noncomputable def sI:Obj:=⟨.type tq,az,.cls ⟨kn,[.type wz],[.ref 38,.type wz,.type Ri,.type oL],37,kn,aB,[],[.ref 51],aP,az,aP⟩,⟨[(ae (.ref 22)),az,(ae (.str kn 196)),(ae (.str kn 204)),(ae (.builtin Rj)),(ae (.bool aB))]⟩⟩
noncomputable def sJ:Obj:=b8 (.type pL) [.str oM 218,.ref 38,.builtin zY,.none]
noncomputable def sL:Obj:=b8 (.type wx) [.ref 38,.ref 38,.ref 38]
noncomputable def sM:Obj:=b8 (.type tm) [.builtin wy,.ref 38]
noncomputable def sN:Obj:=bU [.ref 38]
noncomputable def sO(P:Params):Obj:=⟨.type fN,az,(.dict ⟨[ax P mq 232 (.str tE 194),ax P wD 234 (.str kq 233),ax P mr 236 (.int 10 235),ax P mu 237 (.ref 49)]⟩ 4),⟨[]⟩⟩
noncomputable def sP:Obj:=bR kq kq 227 10 0 0 (.ref 45) aP (.ref 46) .none .none .none 230
noncomputable def sR:Obj:=⟨.type cT,az,.plain,⟨[(ae (.ref 47)),(ae (.ref 3)),(ae (.ref 44)),az,(ae (.str tE 194)),az,(ae (.ref 0))]⟩⟩
noncomputable def sS(P:Params):Obj:=⟨.type fN,az,(.dict ⟨[ax P mq 232 (.str tE 194),ax P mr 236 (.int 10 235),ax P mu 237 (.ref 49),ax P lB 238 .none]⟩ 2),⟨[]⟩⟩
noncomputable def sT:Obj:=⟨.type tq,az,.cls ⟨kq,[.ref 38],[.ref 51,.ref 38,.type wz,.type Ri,.type oL],50,kq,aB,[],[],aP,az,aP⟩,⟨[(ae (.ref 42)),az,(ae (.str kq 225)),(ae (.str kq 233)),(ae (.builtin Rj)),(ae (.bool aB))]⟩⟩
noncomputable def sU:Obj:=b8 (.type wx) [.ref 51,.ref 51,.ref 51]
noncomputable def sV:Obj:=b8 (.type tm) [.builtin wy,.ref 51]
noncomputable def abx(P:Params):Obj:=⟨.type fN,az,(.dict ⟨[ax P s5 165 (.str wX 383),ax P lB 166 .none,ax P t5 167 .none,ax P t6 168 (.builtin nq),ax P tr 169 .none,ax P ts 170 (.ref 6),ax P tu 171 (.ref 4),ax P tv 173 (.str s1 172),ax P tx 174 .none,ax P mn 193 (.ref 21),ax P kn 224 (.ref 38),ax P kq 240 (.ref 51),ax P kL 347 (.ref 133),ax P ny 357 (.ref 144),ax P nz 366 (.ref 151),ax P nA 373 (.ref 158),ax P nC 382 (.ref 165),ax P nD 391 (.ref 172),ax P nE 399 (.ref 179)]⟩ 19),⟨[]⟩⟩
noncomputable def aby:Obj:=b8 .none [.int 1 0,.int 0 0,.ref 20,.int 5 0,.int 0 0,.ref 27,.int 10 0,.int 0 0,.ref 47,.int 13 0,.int 0 0,.ref 59,.int 60 0,.int 0 0,.ref 143,.int 70 0,.int 0 0,.ref 150,.int 72 0,.int 0 0,.ref 157,.int 76 0,.int 0 0,.ref 164,.int 82 0,.int 0 0,.ref 171,.int 84 0,.int 0 0,.ref 178]
noncomputable def vS(P:Params):Obj:=⟨.type fN,az,(.dict ⟨[ax P mq 250 (.str iY 241),ax P wD 252 (.str kL 251),ax P mr 254 (.int 13 253),ax P kr 262 (.ref 67),ax P wY 273 (.ref 74),ax P IG 280 (.ref 81),ax P IH 287 (.ref 88),ax P II 295 (.ref 95),ax P wZ 303 (.ref 102),ax P lA 311 (.ref 109),ax P pO 319 (.ref 116),ax P IJ 328 (.ref 123),ax P w4 337 (.ref 130),ax P mu 340 (.ref 131)]⟩ 14),⟨[]⟩⟩
noncomputable def vT:Obj:=b8 .none [.int 15 0,.int 4 0,.ref 66,.int 19 0,.int 4 0,.ref 73,.int 32 0,.int 4 0,.ref 80,.int 35 0,.int 4 0,.ref 87,.int 40 0,.int 4 0,.ref 94,.int 43 0,.int 4 0,.ref 101,.int 46 0,.int 4 0,.ref 108,.int 51 0,.int 4 0,.ref 115,.int 55 0,.int 4 0,.ref 122,.int 58 0,.int 4 0,.ref 129]
noncomputable def vU:Obj:=bR kL kL 245 13 0 0 (.ref 57) aP (.ref 58) .none .none .none 248
noncomputable def vV:Obj:=⟨.type cT,az,.plain,⟨[(ae (.ref 59)),(ae (.ref 3)),(ae (.ref 56)),az,(ae (.str iY 241)),az,(ae (.ref 0))]⟩⟩
noncomputable def vW:Obj:=bU [.str d7 258,.str kM 259]
noncomputable def vX:Obj:=b6 L9 IK 0 .none
noncomputable def sW:Obj:=b9 kr IK 255 15 2 61 260
noncomputable def sX:Obj:=bV L9 IK 3 .none (.str iY 241) (.ref 66)
noncomputable def vY:Obj:=bU [.str d7 266,.str eZ 267,.str adP 268,.str adQ 269,.str tY 270]
noncomputable def vZ:Obj:=b6 Me IL 0 .none
noncomputable def sY:Obj:=b9 wY IL 263 19 2 68 271
noncomputable def sZ:Obj:=bV Me IL 3 .none (.str iY 241) (.ref 73)
noncomputable def v5:Obj:=bU [.str d7 277]
noncomputable def v7:Obj:=b6 MA IM 0 .none
noncomputable def s6:Obj:=b9 IG IM 274 32 1 75 278
noncomputable def s7:Obj:=bV MA IM 3 .none (.str iY 241) (.ref 80)
noncomputable def v8:Obj:=bU [.str d7 284]
noncomputable def v9:Obj:=b6 ME IP 0 .none
noncomputable def s8:Obj:=b9 IH IP 281 35 1 82 285
noncomputable def s9:Obj:=bV ME IP 3 .none (.str iY 241) (.ref 87)
noncomputable def v_:Obj:=bU [.str d7 291,.str ie 292]
noncomputable def wa:Obj:=b6 ML IQ 0 .none
noncomputable def wb:Obj:=b9 II IQ 288 40 2 89 293
noncomputable def wc:Obj:=bV ML IQ 3 .none (.str iY 241) (.ref 94)
noncomputable def wd:Obj:=bU [.str d7 299,.str eZ 300]
noncomputable def wh:Obj:=b6 MP IS 0 .none
noncomputable def wi:Obj:=b9 wZ IS 296 43 2 96 301
noncomputable def wj:Obj:=bV MP IS 3 .none (.str iY 241) (.ref 101)
noncomputable def wo:Obj:=bU [.str d7 307,.str eZ 308]
noncomputable def uL:Obj:=b6 MU IT 0 .none
noncomputable def uM:Obj:=b9 lA IT 304 46 2 103 309
noncomputable def uN:Obj:=bV MU IT 3 .none (.str iY 241) (.ref 108)
noncomputable def uO:Obj:=bU [.str d7 315,.str eZ 316]
noncomputable def uP:Obj:=b6 M3 IU 0 .none
noncomputable def uQ:Obj:=b9 pO IU 312 51 2 110 317
noncomputable def uR:Obj:=bV M3 IU 3 .none (.str iY 241) (.ref 115)
noncomputable def uS:Obj:=bU [.str d7 323,.str adR 324,.str adS 325]
noncomputable def uT:Obj:=b6 M7 IV 0 .none
noncomputable def uU:Obj:=b9 IJ IV 320 55 3 117 326
noncomputable def uV:Obj:=bV M7 IV 3 .none (.str iY 241) (.ref 122)
noncomputable def uW:Obj:=bU [.str d7 332,.str lA 333,.str eZ 334]
noncomputable def uX:Obj:=b6 Nd IW 0 .none
noncomputable def uY:Obj:=b9 w4 IW 329 58 3 124 335
noncomputable def uZ:Obj:=bV Nd IW 3 .none (.str iY 241) (.ref 129)
noncomputable def u0:Obj:=bU [.str IX 338,.str kM 339]
noncomputable def se(P:Params):Obj:=⟨.type fN,az,(.dict ⟨[ax P mq 250 (.str iY 241),ax P mr 254 (.int 13 253),ax P kr 262 (.ref 67),ax P wY 273 (.ref 74),ax P IG 280 (.ref 81),ax P IH 287 (.ref 88),ax P II 295 (.ref 95),ax P wZ 303 (.ref 102),ax P lA 311 (.ref 109),ax P pO 319 (.ref 116),ax P IJ 328 (.ref 123),ax P w4 337 (.ref 130),ax P mu 340 (.ref 131),ax P q2 342 (.ref 134),ax P oM 344 (.ref 135),ax P lB 345 .none]⟩ 4),⟨[]⟩⟩
noncomputable def sf:Obj:=⟨.type tq,az,.cls ⟨kL,[.type oL],[.ref 133,.type oL],132,kL,aB,[],[],aP,az,aP⟩,⟨[az,az,(ae (.str kL 243)),(ae (.str kL 251)),(ae (.builtin Df)),(ae (.bool aB))]⟩⟩
noncomputable def u5:Obj:=b8 (.type pL) [.str q2 341,.ref 133,.builtin Dg,.builtin Dh]
noncomputable def u6:Obj:=b8 (.type pL) [.str oM 343,.ref 133,.builtin zY,.none]
noncomputable def u7:Obj:=b8 (.type wx) [.ref 133,.ref 133,.ref 133]
noncomputable def u9:Obj:=b8 (.type tm) [.builtin wy,.ref 133]
noncomputable def u_:Obj:=bU [.str kM 351,.str adT 352,.str adU 353,.str RD 354]
noncomputable def vb:Obj:=b6 Ng ny 0 .none
noncomputable def si:Obj:=b9 ny ny 348 60 3 138 355
noncomputable def sk:Obj:=bV Ng ny 3 .none (.str iY 241) (.ref 143)
noncomputable def vc:Obj:=bU [.str IY 363]
noncomputable def vd:Obj:=b6 Nq nz 0 .none
noncomputable def ve:Obj:=b9 nz nz 360 70 1 145 364
noncomputable def vf:Obj:=bV Nq nz 3 .none (.str IZ 358) (.ref 150)
noncomputable def vg:Obj:=bU [.str IY 370]
noncomputable def vh:Obj:=b6 Nt nA 0 .none
noncomputable def vi:Obj:=b9 nA nA 367 72 1 152 371
noncomputable def vj:Obj:=bV Nt nA 3 .none (.str IZ 358) (.ref 157)
noncomputable def vk:Obj:=bU [.str tZ 377,.str RE 378,.str IY 379]
noncomputable def vl:Obj:=b6 Nu nC 0 .none
noncomputable def vm:Obj:=b9 nC nC 374 76 1 159 380
noncomputable def vn:Obj:=bV Nu nC 3 .none (.str IZ 358) (.ref 164)
noncomputable def vo:Obj:=bU [.str ie 388]
noncomputable def vp:Obj:=b6 Nv nD 0 .none
noncomputable def sq:Obj:=b9 nD nD 385 82 1 166 389
noncomputable def sr:Obj:=bV Nv nD 3 .none (.str wX 383) (.ref 171)
noncomputable def vq:Obj:=bU [.str kM 395,.str eZ 396]
noncomputable def vt:Obj:=b6 Nw nE 0 .none
noncomputable def su:Obj:=b9 nE nE 392 84 2 173 397
noncomputable def sv:Obj:=bV Nw nE 3 .none (.str wX 383) (.ref 178)
noncomputable def abq(P:Params):Obj:=⟨.type fN,az,(.dict ⟨[ax P s5 165 (.str jh 421),ax P lB 166 .none,ax P t5 167 .none,ax P t6 168 (.builtin nq),ax P tr 169 .none,ax P ts 170 (.ref 6),ax P tu 171 (.ref 4),ax P tv 173 (.str s1 172),ax P tx 174 .none,ax P mn 193 (.ref 21),ax P kn 224 (.ref 38),ax P kq 240 (.ref 51),ax P kL 347 (.ref 133),ax P ny 357 (.ref 144),ax P nz 366 (.ref 151),ax P nA 373 (.ref 158),ax P nC 382 (.ref 165),ax P nD 391 (.ref 172),ax P nE 399 (.ref 179),ax P oN 408 (.ref 186),ax P oO 414 (.ref 193),ax P oP 420 (.ref 200),ax P lC 549 (.ref 301)]⟩ 23),⟨[]⟩⟩
noncomputable def abr:Obj:=b8 .none [.int 1 0,.int 0 0,.ref 20,.int 5 0,.int 0 0,.ref 27,.int 10 0,.int 0 0,.ref 47,.int 13 0,.int 0 0,.ref 59,.int 60 0,.int 0 0,.ref 143,.int 70 0,.int 0 0,.ref 150,.int 72 0,.int 0 0,.ref 157,.int 76 0,.int 0 0,.ref 164,.int 82 0,.int 0 0,.ref 171,.int 84 0,.int 0 0,.ref 178,.int 86 0,.int 0 0,.ref 185,.int 93 0,.int 0 0,.ref 192,.int 95 0,.int 0 0,.ref 199,.int 98 0,.int 0 0,.ref 206]
noncomputable def yy:Obj:=bU [.str kM 403,.str eZ 404,.str adV 405]
noncomputable def yz:Obj:=b6 Nx oN 0 .none
noncomputable def vu:Obj:=b9 oN oN 400 86 2 180 406
noncomputable def vv:Obj:=bV Nx oN 3 .none (.str wX 383) (.ref 185)
noncomputable def yA:Obj:=b6 Ny oO 0 .none
noncomputable def vw:Obj:=b9 oO oO 409 93 0 187 412
noncomputable def vx:Obj:=bV Ny oO 3 .none (.str wX 383) (.ref 192)
noncomputable def yB:Obj:=b6 Nz oP 0 .none
noncomputable def vy:Obj:=b9 oP oP 415 95 0 194 418
noncomputable def vz:Obj:=bV Nz oP 3 .none (.str wX 383) (.ref 199)
noncomputable def yC(P:Params):Obj:=⟨.type fN,az,(.dict ⟨[ax P mq 430 (.str jh 421),ax P wD 432 (.str lC 431),ax P mr 434 (.int 98 433),ax P kr 442 (.ref 214),ax P wY 450 (.ref 221),ax P I0 457 (.ref 228),ax P I4 464 (.ref 235),ax P I5 471 (.ref 242),ax P wZ 479 (.ref 249),ax P pO 487 (.ref 256),ax P lA 495 (.ref 263),ax P w4 504 (.ref 270),ax P ie 512 (.ref 277),ax P I6 521 (.ref 284),ax P I7 531 (.ref 291),ax P I8 539 (.ref 298),ax P mu 542 (.ref 299)]⟩ 17),⟨[]⟩⟩
noncomputable def yD:Obj:=b8 .none [.int 100 0,.int 4 0,.ref 213,.int 104 0,.int 4 0,.ref 220,.int 107 0,.int 4 0,.ref 227,.int 112 0,.int 4 0,.ref 234,.int 117 0,.int 4 0,.ref 241,.int 120 0,.int 4 0,.ref 248,.int 123 0,.int 4 0,.ref 255,.int 127 0,.int 4 0,.ref 262,.int 132 0,.int 4 0,.ref 269,.int 135 0,.int 4 0,.ref 276,.int 141 0,.int 4 0,.ref 283,.int 147 0,.int 4 0,.ref 290,.int 155 0,.int 4 0,.ref 297]
noncomputable def yE:Obj:=bR lC lC 425 98 0 0 (.ref 204) aP (.ref 205) .none .none .none 428
noncomputable def yF:Obj:=⟨.type cT,az,.plain,⟨[(ae (.ref 206)),(ae (.ref 3)),(ae (.ref 203)),az,(ae (.str jh 421)),az,(ae (.ref 0))]⟩⟩
noncomputable def yG:Obj:=bU [.str d7 438,.str kM 439]
noncomputable def yH:Obj:=b6 LU I9 0 .none
noncomputable def vA:Obj:=b9 kr I9 435 100 2 208 440
noncomputable def vB:Obj:=bV LU I9 3 .none (.str jh 421) (.ref 213)
noncomputable def yI:Obj:=bU [.str d7 446,.str eZ 447]
noncomputable def yJ:Obj:=b6 LV I_ 0 .none
noncomputable def vC:Obj:=b9 wY I_ 443 104 2 215 448
noncomputable def vD:Obj:=bV LV I_ 3 .none (.str jh 421) (.ref 220)
noncomputable def yK:Obj:=bU [.str d7 454]
noncomputable def yL:Obj:=b6 LW Ja 0 .none
noncomputable def vE:Obj:=b9 I0 Ja 451 107 1 222 455
noncomputable def vF:Obj:=bV LW Ja 3 .none (.str jh 421) (.ref 227)
noncomputable def yM:Obj:=bU [.str d7 461]
noncomputable def yN:Obj:=b6 LX Jb 0 .none
noncomputable def vG:Obj:=b9 I4 Jb 458 112 1 229 462
noncomputable def vH:Obj:=bV LX Jb 3 .none (.str jh 421) (.ref 234)
noncomputable def yO:Obj:=bU [.str d7 468]
noncomputable def yP:Obj:=b6 LY Jc 0 .none
noncomputable def vI:Obj:=b9 I5 Jc 465 117 1 236 469
noncomputable def vJ:Obj:=bV LY Jc 3 .none (.str jh 421) (.ref 241)
noncomputable def yQ:Obj:=bU [.str d7 475,.str eZ 476]
noncomputable def yR:Obj:=b6 LZ Jd 0 .none
noncomputable def yS:Obj:=b9 wZ Jd 472 120 2 243 477
noncomputable def yT:Obj:=bV LZ Jd 3 .none (.str jh 421) (.ref 248)
noncomputable def yU:Obj:=bU [.str d7 483,.str eZ 484]
noncomputable def yV:Obj:=b6 L0 Je 0 .none
noncomputable def yW:Obj:=b9 pO Je 480 123 2 250 485
noncomputable def yX:Obj:=bV L0 Je 3 .none (.str jh 421) (.ref 255)
noncomputable def yY:Obj:=bU [.str d7 491,.str eZ 492]
noncomputable def yZ:Obj:=b6 L1 Jf 0 .none
noncomputable def y0:Obj:=b9 lA Jf 488 127 2 257 493
noncomputable def y3:Obj:=bV L1 Jf 3 .none (.str jh 421) (.ref 262)
noncomputable def y4:Obj:=bU [.str d7 499,.str lA 500,.str eZ 501]
noncomputable def y5:Obj:=b6 L5 Jg 0 .none
noncomputable def y6:Obj:=b9 w4 Jg 496 132 3 264 502
noncomputable def y7:Obj:=bV L5 Jg 3 .none (.str jh 421) (.ref 269)
noncomputable def y8:Obj:=bU [.str d7 508,.str eZ 509]
noncomputable def y9:Obj:=b6 L6 Jh 0 .none
noncomputable def vK:Obj:=b9 ie Jh 505 135 1 271 510
noncomputable def vL:Obj:=bV L6 Jh 3 .none (.str jh 421) (.ref 276)
noncomputable def y_:Obj:=bU [.str d7 516,.str ie 517,.str eZ 518]
noncomputable def za:Obj:=b6 L7 Ji 0 .none
noncomputable def vM:Obj:=b9 I6 Ji 513 141 2 278 519
noncomputable def vN:Obj:=bV L7 Ji 3 .none (.str jh 421) (.ref 283)
noncomputable def zb:Obj:=bU [.str d7 525,.str Dt 526,.str ie 527,.str eZ 528]
noncomputable def zc:Obj:=b6 L8 Jj 0 .none
noncomputable def vO:Obj:=b9 I7 Jj 522 147 2 285 529
noncomputable def vP:Obj:=bV L8 Jj 3 .none (.str jh 421) (.ref 290)
noncomputable def zd:Obj:=bU [.str d7 535,.str Dt 536]
noncomputable def ze:Obj:=b6 L_ Jk 0 .none
noncomputable def zf:Obj:=b9 I8 Jk 532 155 2 292 537
noncomputable def zg:Obj:=bV L_ Jk 3 .none (.str jh 421) (.ref 297)
noncomputable def zh:Obj:=bU [.str IX 540,.str kM 541]
noncomputable def vQ(P:Params):Obj:=⟨.type fN,az,(.dict ⟨[ax P mq 430 (.str jh 421),ax P mr 434 (.int 98 433),ax P kr 442 (.ref 214),ax P wY 450 (.ref 221),ax P I0 457 (.ref 228),ax P I4 464 (.ref 235),ax P I5 471 (.ref 242),ax P wZ 479 (.ref 249),ax P pO 487 (.ref 256),ax P lA 495 (.ref 263),ax P w4 504 (.ref 270),ax P ie 512 (.ref 277),ax P I6 521 (.ref 284),ax P I7 531 (.ref 291),ax P I8 539 (.ref 298),ax P mu 542 (.ref 299),ax P q2 544 (.ref 302),ax P oM 546 (.ref 303),ax P lB 547 .none]⟩ 4),⟨[]⟩⟩
noncomputable def vR:Obj:=⟨.type tq,az,.cls ⟨lC,[.type oL],[.ref 301,.type oL],300,lC,aB,[],[],aP,az,aP⟩,⟨[az,az,(ae (.str lC 423)),(ae (.str lC 431)),(ae (.builtin Df)),(ae (.bool aB))]⟩⟩
noncomputable def zi:Obj:=b8 (.type pL) [.str q2 543,.ref 301,.builtin Dg,.builtin Dh]
noncomputable def zj:Obj:=b8 (.type pL) [.str oM 545,.ref 301,.builtin zY,.none]
noncomputable def zk:Obj:=b8 (.type wx) [.ref 301,.ref 301,.ref 301]
noncomputable def zl:Obj:=b8 (.type tm) [.builtin wy,.ref 301]
noncomputable def abt(P:Params):Obj:=⟨.type fN,az,(.dict ⟨[ax P s5 165 (.str iZ 558),ax P lB 166 .none,ax P t5 167 .none,ax P t6 168 (.builtin nq),ax P tr 169 .none,ax P ts 170 (.ref 6),ax P tu 171 (.ref 4),ax P tv 173 (.str s1 172),ax P tx 174 .none,ax P mn 193 (.ref 21),ax P kn 224 (.ref 38),ax P kq 240 (.ref 51),ax P kL 347 (.ref 133),ax P ny 357 (.ref 144),ax P nz 366 (.ref 151),ax P nA 373 (.ref 158),ax P nC 382 (.ref 165),ax P nD 391 (.ref 172),ax P nE 399 (.ref 179),ax P oN 408 (.ref 186),ax P oO 414 (.ref 193),ax P oP 420 (.ref 200),ax P lC 549 (.ref 301),ax P pM 557 (.ref 312),ax P mj 721 (.ref 425)]⟩ 25),⟨[]⟩⟩
noncomputable def abu:Obj:=b8 .none [.int 1 0,.int 0 0,.ref 20,.int 5 0,.int 0 0,.ref 27,.int 10 0,.int 0 0,.ref 47,.int 13 0,.int 0 0,.ref 59,.int 60 0,.int 0 0,.ref 143,.int 70 0,.int 0 0,.ref 150,.int 72 0,.int 0 0,.ref 157,.int 76 0,.int 0 0,.ref 164,.int 82 0,.int 0 0,.ref 171,.int 84 0,.int 0 0,.ref 178,.int 86 0,.int 0 0,.ref 185,.int 93 0,.int 0 0,.ref 192,.int 95 0,.int 0 0,.ref 199,.int 98 0,.int 0 0,.ref 206,.int 157 0,.int 0 0,.ref 311,.int 162 0,.int 0 0,.ref 318]
noncomputable def BN:Obj:=bU [.str Ru 553,.str Dt 554]
noncomputable def BO:Obj:=b6 Ma pM 0 .none
noncomputable def zm:Obj:=b9 pM pM 550 157 1 306 555
noncomputable def zo:Obj:=bV Ma pM 3 .none (.str jh 421) (.ref 311)
noncomputable def BP(P:Params):Obj:=⟨.type fN,az,(.dict ⟨[ax P mq 567 (.str iZ 558),ax P wD 569 (.str mj 568),ax P mr 571 (.int 162 570),ax P kr 578 (.ref 326),ax P HU 593 (.ref 335),ax P HV 605 (.ref 344),ax P tZ 613 (.ref 351),ax P HW 621 (.ref 358),ax P HX 631 (.ref 365),ax P HY 644 (.ref 373),ax P HZ 653 (.ref 380),ax P pO 661 (.ref 387),ax P H0 670 (.ref 394),ax P lA 678 (.ref 401),ax P H3 686 (.ref 408),ax P H4 696 (.ref 415),ax P H5 705 (.ref 422),ax P mu 714 (.ref 423)]⟩ 18),⟨[]⟩⟩
noncomputable def BQ:Obj:=b8 .none [.int 164 0,.int 4 0,.ref 325,.int 175 0,.int 4 0,.ref 334,.int 185 0,.int 4 0,.ref 343,.int 191 0,.int 4 0,.ref 350,.int 194 0,.int 4 0,.ref 357,.int 197 0,.int 4 0,.ref 364,.int 200 0,.int 4 0,.ref 372,.int 214 0,.int 4 0,.ref 379,.int 217 0,.int 4 0,.ref 386,.int 222 0,.int 4 0,.ref 393,.int 225 0,.int 4 0,.ref 400,.int 230 0,.int 4 0,.ref 407,.int 235 0,.int 4 0,.ref 414,.int 241 0,.int 4 0,.ref 421]
noncomputable def BR:Obj:=bR mj mj 562 162 0 0 (.ref 316) aP (.ref 317) .none .none .none 565
noncomputable def BS:Obj:=⟨.type cT,az,.plain,⟨[(ae (.ref 318)),(ae (.ref 3)),(ae (.ref 315)),az,(ae (.str iZ 558)),az,(ae (.ref 0))]⟩⟩
noncomputable def BU:Obj:=bU [.str d7 575]
noncomputable def BV:Obj:=b6 Mb H6 0 .none
noncomputable def zp:Obj:=b9 kr H6 572 164 1 320 576
noncomputable def zq:Obj:=bV Mb H6 3 .none (.str iZ 558) (.ref 325)
noncomputable def zr:Obj:=bU [.str H7 579,.str H7 580,.ref 327,.str H7 581]
noncomputable def BW:Obj:=bU [.str d7 585,.str Rv 586,.str z0 587,.str ie 588,.str wC 589,.str tZ 590]
noncomputable def BX:Obj:=b6 Mc H8 0 .none
noncomputable def zt:Obj:=b9 HU H8 582 175 6 329 591
noncomputable def zu:Obj:=bV Mc H8 3 (.ref 328) (.str iZ 558) (.ref 334)
noncomputable def zv:Obj:=bU [.str H9 594,.ref 336]
noncomputable def BY:Obj:=bU [.str d7 598,.str ie 599,.str z0 600,.str wC 601,.str eZ 602]
noncomputable def BZ:Obj:=b6 Md H_ 0 .none
noncomputable def zw:Obj:=b9 HV H_ 595 185 4 338 603
noncomputable def zx:Obj:=bV Md H_ 3 (.ref 337) (.str iZ 558) (.ref 343)
noncomputable def B0:Obj:=bU [.str d7 609,.str tZ 610]
noncomputable def B1:Obj:=b6 Mf Ia 0 .none
noncomputable def zy:Obj:=b9 tZ Ia 606 191 2 345 611
noncomputable def zz:Obj:=bV Mf Ia 3 .none (.str iZ 558) (.ref 350)
noncomputable def B2:Obj:=bU [.str d7 617,.str tZ 618]
noncomputable def B3:Obj:=b6 Mg Ib 0 .none
noncomputable def B4:Obj:=b9 HW Ib 614 194 2 352 619
noncomputable def B5:Obj:=bV Mg Ib 3 .none (.str iZ 558) (.ref 357)
noncomputable def B6:Obj:=bU [.str d7 625,.str ie 626,.str ac6 627,.str ac7 628]
noncomputable def B7:Obj:=b6 Mh Ic 0 .none
noncomputable def B8:Obj:=b9 HX Ic 622 197 4 359 629
noncomputable def B9:Obj:=bV Mh Ic 3 .none (.str iZ 558) (.ref 364)
noncomputable def zA:Obj:=bU [.int (-1) 633]
noncomputable def B_:Obj:=bU [.str d7 637,.str z4 638,.str eZ 639,.str Dr 640,.str tY 641]
noncomputable def Ca:Obj:=b6 Mi Ie 0 .none
noncomputable def zB:Obj:=b9 HY Ie 634 200 4 367 642
noncomputable def zC:Obj:=bV Mi Ie 3 (.ref 366) (.str iZ 558) (.ref 372)
noncomputable def Cb:Obj:=bU [.str d7 648,.str z4 649,.str eZ 650]
noncomputable def Cc:Obj:=b6 Mj Ig 0 .none
noncomputable def Cd:Obj:=b9 HZ Ig 645 214 3 374 651
noncomputable def Ce:Obj:=bV Mj Ig 3 .none (.str iZ 558) (.ref 379)
noncomputable def Cf:Obj:=bU [.str d7 657,.str eZ 658]
noncomputable def Cg:Obj:=b6 Mk Ih 0 .none
noncomputable def zD:Obj:=b9 pO Ih 654 217 2 381 659
noncomputable def zE:Obj:=bV Mk Ih 3 .none (.str iZ 558) (.ref 386)
noncomputable def Ci:Obj:=bU [.str d7 665,.str Rw 666,.str ac8 667]
noncomputable def Cj:Obj:=b6 Ml Ii 0 .none
noncomputable def Ck:Obj:=b9 H0 Ii 662 222 3 388 668
noncomputable def Cm:Obj:=bV Ml Ii 3 .none (.str iZ 558) (.ref 393)
noncomputable def Cn:Obj:=bU [.str d7 674,.str eZ 675]
noncomputable def Co:Obj:=b6 Mm Ij 0 .none
noncomputable def Cp:Obj:=b9 lA Ij 671 225 2 395 676
noncomputable def Cq:Obj:=bV Mm Ij 3 .none (.str iZ 558) (.ref 400)
noncomputable def Cr:Obj:=bU [.str d7 682,.str z4 683]
noncomputable def Cs:Obj:=b6 Mn Ik 0 .none
noncomputable def zF:Obj:=b9 H3 Ik 679 230 2 402 684
noncomputable def zG:Obj:=bV Mn Ik 3 .none (.str iZ 558) (.ref 407)
noncomputable def Ct:Obj:=bU [.str d7 690,.str eZ 691,.str ie 692,.str RD 693]
noncomputable def Cu:Obj:=b6 Mo Il 0 .none
noncomputable def zH:Obj:=b9 H4 Il 687 235 3 409 694
noncomputable def zI:Obj:=bV Mo Il 3 .none (.str iZ 558) (.ref 414)
noncomputable def Cv:Obj:=bU [.str d7 700,.str eZ 701,.str ie 702]
noncomputable def Cw:Obj:=b6 Mp Im 0 .none
noncomputable def zJ:Obj:=b9 H5 Im 697 241 3 416 703
noncomputable def zK:Obj:=bV Mp Im 3 .none (.str iZ 558) (.ref 421)
noncomputable def Cx:Obj:=bU [.str wC 706,.str ac9 707,.str ac_ 708,.str ada 709,.str Dt 710,.str adb 711,.str ade 712,.str adf 713]
noncomputable def zL(P:Params):Obj:=⟨.type fN,az,(.dict ⟨[ax P mq 567 (.str iZ 558),ax P mr 571 (.int 162 570),ax P kr 578 (.ref 326),ax P HU 593 (.ref 335),ax P HV 605 (.ref 344),ax P tZ 613 (.ref 351),ax P HW 621 (.ref 358),ax P HX 631 (.ref 365),ax P HY 644 (.ref 373),ax P HZ 653 (.ref 380),ax P pO 661 (.ref 387),ax P H0 670 (.ref 394),ax P lA 678 (.ref 401),ax P H3 686 (.ref 408),ax P H4 696 (.ref 415),ax P H5 705 (.ref 422),ax P mu 714 (.ref 423),ax P q2 716 (.ref 426),ax P oM 718 (.ref 427),ax P lB 719 .none]⟩ 4),⟨[]⟩⟩
noncomputable def zM:Obj:=⟨.type tq,az,.cls ⟨mj,[.type oL],[.ref 425,.type oL],424,mj,aB,[],[],aP,az,aP⟩,⟨[az,az,(ae (.str mj 560)),(ae (.str mj 568)),(ae (.builtin Df)),(ae (.bool aB))]⟩⟩
noncomputable def Cy:Obj:=b8 (.type pL) [.str q2 715,.ref 425,.builtin Dg,.builtin Dh]
noncomputable def Cz:Obj:=b8 (.type pL) [.str oM 717,.ref 425,.builtin zY,.none]
noncomputable def CA:Obj:=b8 (.type wx) [.ref 425,.ref 425,.ref 425]
noncomputable def CB:Obj:=b8 (.type tm) [.builtin wy,.ref 425]
noncomputable def abv(P:Params):Obj:=⟨.type fN,az,(.dict ⟨[ax P s5 165 (.str qU 858),ax P lB 166 .none,ax P t5 167 .none,ax P t6 168 (.builtin nq),ax P tr 169 .none,ax P ts 170 (.ref 6),ax P tu 171 (.ref 4),ax P tv 173 (.str s1 172),ax P tx 174 .none,ax P mn 193 (.ref 21),ax P kn 224 (.ref 38),ax P kq 240 (.ref 51),ax P kL 347 (.ref 133),ax P ny 357 (.ref 144),ax P nz 366 (.ref 151),ax P nA 373 (.ref 158),ax P nC 382 (.ref 165),ax P nD 391 (.ref 172),ax P nE 399 (.ref 179),ax P oN 408 (.ref 186),ax P oO 414 (.ref 193),ax P oP 420 (.ref 200),ax P lC 549 (.ref 301),ax P pM 557 (.ref 312),ax P mj 721 (.ref 425),ax P qV 731 (.ref 436),ax P nv 840 (.ref 503),ax P qW 850 (.ref 514),ax P qX 857 (.ref 521),ax P qY 870 (.ref 528),ax P qZ 883 (.ref 536),ax P q0 896 (.ref 543)]⟩ 32),⟨[]⟩⟩
noncomputable def abw:Obj:=b8 .none [.int 1 0,.int 0 0,.ref 20,.int 5 0,.int 0 0,.ref 27,.int 10 0,.int 0 0,.ref 47,.int 13 0,.int 0 0,.ref 59,.int 60 0,.int 0 0,.ref 143,.int 70 0,.int 0 0,.ref 150,.int 72 0,.int 0 0,.ref 157,.int 76 0,.int 0 0,.ref 164,.int 82 0,.int 0 0,.ref 171,.int 84 0,.int 0 0,.ref 178,.int 86 0,.int 0 0,.ref 185,.int 93 0,.int 0 0,.ref 192,.int 95 0,.int 0 0,.ref 199,.int 98 0,.int 0 0,.ref 206,.int 157 0,.int 0 0,.ref 311,.int 162 0,.int 0 0,.ref 318,.int 243 0,.int 0 0,.ref 435,.int 251 0,.int 0 0,.ref 442,.int 314 0,.int 0 0,.ref 513,.int 328 0,.int 0 0,.ref 520,.int 333 0,.int 0 0,.ref 527,.int 347 0,.int 0 0,.ref 535,.int 360 0,.int 0 0,.ref 542]
noncomputable def Ga:Obj:=bU [.str kM 725,.str eZ 726,.str RE 727,.str adg 728]
noncomputable def Gb:Obj:=b6 Mq qV 0 .none
noncomputable def CC:Obj:=b9 qV qV 722 243 2 430 729
noncomputable def CD:Obj:=bV Mq qV 3 .none (.str iZ 558) (.ref 435)
noncomputable def Gd(P:Params):Obj:=⟨.type fN,az,(.dict ⟨[ax P mq 741 (.str lz 732),ax P wD 743 (.str nv 742),ax P mr 745 (.int 251 744),ax P kr 754 (.ref 451),ax P Io 762 (.ref 458),ax P Ip 770 (.ref 465),ax P Iq 780 (.ref 472),ax P Ir 788 (.ref 479),ax P It 796 (.ref 486),ax P Iu 803 (.ref 493),ax P Iv 811 (.ref 500),ax P mu 833 (.ref 501)]⟩ 12),⟨[]⟩⟩
noncomputable def Ge:Obj:=b8 .none [.int 253 0,.int 4 0,.ref 450,.int 276 0,.int 4 0,.ref 457,.int 279 0,.int 4 0,.ref 464,.int 282 0,.int 4 0,.ref 471,.int 288 0,.int 4 0,.ref 478,.int 294 0,.int 4 0,.ref 485,.int 306 0,.int 4 0,.ref 492,.int 311 0,.int 4 0,.ref 499]
noncomputable def Gf:Obj:=bR nv nv 736 251 0 0 (.ref 440) aP (.ref 441) .none .none .none 739
noncomputable def Gg:Obj:=⟨.type cT,az,.plain,⟨[(ae (.ref 442)),(ae (.ref 3)),(ae (.ref 439)),az,(ae (.str lz 732)),az,(ae (.ref 0))]⟩⟩
noncomputable def CE:Obj:=bU [.bool aP]
noncomputable def Gh:Obj:=bU [.str d7 749,.str Rx 750,.str Ry 751]
noncomputable def Gi:Obj:=b6 Mr Iw 0 .none
noncomputable def CG:Obj:=b9 kr Iw 746 253 3 445 752
noncomputable def CH:Obj:=bV Mr Iw 3 (.ref 444) (.str lz 732) (.ref 450)
noncomputable def Gj:Obj:=bU [.str d7 758,.str Rz 759]
noncomputable def Gk:Obj:=b6 Ms Iy 0 .none
noncomputable def CI:Obj:=b9 Io Iy 755 276 2 452 760
noncomputable def CJ:Obj:=bV Ms Iy 3 .none (.str lz 732) (.ref 457)
noncomputable def Gl:Obj:=bU [.str d7 766,.str z5 767]
noncomputable def Gm:Obj:=b6 Mt Iz 0 .none
noncomputable def CK:Obj:=b9 Ip Iz 763 279 2 459 768
noncomputable def CL:Obj:=bV Mt Iz 3 .none (.str lz 732) (.ref 464)
noncomputable def Gn:Obj:=bU [.str d7 774,.str ie 775,.str jF 776,.str adh 777]
noncomputable def Gp:Obj:=b6 Mu IA 0 .none
noncomputable def CM:Obj:=b9 Iq IA 771 282 3 466 778
noncomputable def CN:Obj:=bV Mu IA 3 .none (.str lz 732) (.ref 471)
noncomputable def Gq:Obj:=bU [.str d7 784,.str jF 785]
noncomputable def Gr:Obj:=b6 Mv IB 0 .none
noncomputable def CO:Obj:=b9 Ir IB 781 288 2 473 786
noncomputable def CP:Obj:=bV Mv IB 3 .none (.str lz 732) (.ref 478)
noncomputable def Gs:Obj:=bU [.str d7 792,.str jF 793]
noncomputable def Gu:Obj:=b6 Mw IC 0 .none
noncomputable def CQ:Obj:=b9 It IC 789 294 2 480 794
noncomputable def CR:Obj:=bV Mw IC 3 .none (.str lz 732) (.ref 485)
noncomputable def Gv:Obj:=bU [.str d7 800]
noncomputable def Gw:Obj:=b6 Mx ID 0 .none
noncomputable def CS:Obj:=b9 Iu ID 797 306 1 487 801
noncomputable def CT:Obj:=bV Mx ID 3 .none (.str lz 732) (.ref 492)
noncomputable def Gx:Obj:=bU [.str d7 807,.str eZ 808]
noncomputable def Gy:Obj:=b6 My IE 0 .none
noncomputable def CU:Obj:=b9 Iv IE 804 311 1 494 809
noncomputable def CV:Obj:=bV My IE 3 .none (.str lz 732) (.ref 499)
noncomputable def Gz:Obj:=bU [.str adi 812,.str adj 813,.str adk 814,.str adl 815,.str adm 816,.str adn 817,.str ado 818,.str adp 819,.str adq 820,.str Ry 821,.str ads 822,.str z5 823,.str adt 824,.str adu 825,.str adv 826,.str adw 827,.str adx 828,.str Rx 829,.str Ru 830,.str kM 831,.str ady 832]
noncomputable def CW(P:Params):Obj:=⟨.type fN,az,(.dict ⟨[ax P mq 741 (.str lz 732),ax P mr 745 (.int 251 744),ax P kr 754 (.ref 451),ax P Io 762 (.ref 458),ax P Ip 770 (.ref 465),ax P Iq 780 (.ref 472),ax P Ir 788 (.ref 479),ax P It 796 (.ref 486),ax P Iu 803 (.ref 493),ax P Iv 811 (.ref 500),ax P mu 833 (.ref 501),ax P q2 835 (.ref 504),ax P oM 837 (.ref 505),ax P lB 838 .none]⟩ 4),⟨[]⟩⟩
noncomputable def CX:Obj:=⟨.type tq,az,.cls ⟨nv,[.type oL],[.ref 503,.type oL],502,nv,aB,[],[],aP,az,aP⟩,⟨[az,az,(ae (.str nv 734)),(ae (.str nv 742)),(ae (.builtin Df)),(ae (.bool aB))]⟩⟩
noncomputable def GA:Obj:=b8 (.type pL) [.str q2 834,.ref 503,.builtin Dg,.builtin Dh]
noncomputable def GB:Obj:=b8 (.type pL) [.str oM 836,.ref 503,.builtin zY,.none]
noncomputable def GC:Obj:=b8 (.type wx) [.ref 503,.ref 503,.ref 503]
noncomputable def GD:Obj:=b8 (.type tm) [.builtin wy,.ref 503]
noncomputable def GF:Obj:=bU [.str h_ 844,.str jF 845,.str kM 846,.str eZ 847]
noncomputable def GG:Obj:=b6 Mz qW 0 .none
noncomputable def CY:Obj:=b9 qW qW 841 314 2 508 848
noncomputable def CZ:Obj:=bV Mz qW 3 .none (.str lz 732) (.ref 513)
noncomputable def GH:Obj:=bU [.str h_ 854]
noncomputable def GI:Obj:=b6 MB qX 0 .none
noncomputable def C0:Obj:=b9 qX qX 851 328 1 515 855
noncomputable def C1:Obj:=bV MB qX 3 .none (.str lz 732) (.ref 520)
noncomputable def GJ:Obj:=bU [.str h_ 863,.str kM 864,.str IX 865,.str tY 866,.str eZ 867]
noncomputable def GK:Obj:=b6 MC qY 0 .none
noncomputable def GL:Obj:=b9 qY qY 860 333 1 522 868
noncomputable def GN:Obj:=bV MC qY 3 .none (.str qU 858) (.ref 527)
noncomputable def C2:Obj:=bU [.int (-1) 872]
noncomputable def GO:Obj:=bU [.str h_ 876,.str adz 877,.str kM 878,.str Rw 879,.str Dr 880]
noncomputable def GP:Obj:=b6 MD qZ 0 .none
noncomputable def C3:Obj:=b9 qZ qZ 873 347 2 530 881
noncomputable def C4:Obj:=bV MD qZ 3 (.ref 529) (.str qU 858) (.ref 535)
noncomputable def GQ:Obj:=bU [.str h_ 887,.str RB 888,.str kM 889,.str z4 890,.str Dr 891,.str adA 892,.str tY 893]
noncomputable def GR:Obj:=b6 MF q0 0 .none
noncomputable def C5:Obj:=b9 q0 q0 884 360 2 537 894
noncomputable def C6:Obj:=bV MF q0 3 .none (.str qU 858) (.ref 542)
noncomputable def abA(P:Params):Obj:=⟨.type fN,az,(.dict ⟨[ax P s5 165 (.str hA 1050),ax P lB 166 .none,ax P t5 167 .none,ax P t6 168 (.builtin nq),ax P tr 169 .none,ax P ts 170 (.ref 6),ax P tu 171 (.ref 4),ax P tv 173 (.str s1 172),ax P tx 174 .none,ax P mn 193 (.ref 21),ax P kn 224 (.ref 38),ax P kq 240 (.ref 51),ax P kL 347 (.ref 133),ax P ny 357 (.ref 144),ax P nz 366 (.ref 151),ax P nA 373 (.ref 158),ax P nC 382 (.ref 165),ax P nD 391 (.ref 172),ax P nE 399 (.ref 179),ax P oN 408 (.ref 186),ax P oO 414 (.ref 193),ax P oP 420 (.ref 200),ax P lC 549 (.ref 301),ax P pM 557 (.ref 312),ax P mj 721 (.ref 425),ax P qV 731 (.ref 436),ax P nv 840 (.ref 503),ax P qW 850 (.ref 514),ax P qX 857 (.ref 521),ax P qY 870 (.ref 528),ax P qZ 883 (.ref 536),ax P q0 896 (.ref 543),ax P tA 907 (.ref 551),ax P tB 921 (.ref 560),ax P tC 930 (.ref 567),ax P tD 940 (.ref 574),ax P tF 950 (.ref 581),ax P tG 959 (.ref 588),ax P tH 969 (.ref 595),ax P tI 979 (.ref 602),ax P tJ 989 (.ref 609),ax P tK 996 (.ref 616),ax P tL 1003 (.ref 623),ax P tM 1010 (.ref 630),ax P tO 1017 (.ref 637),ax P tP 1026 (.ref 644),ax P tQ 1034 (.ref 651),ax P tR 1043 (.ref 658),ax P tS 1049 (.ref 665),ax P tT 1057 (.ref 672),ax P tU 1069 (.ref 679),ax P tV 1078 (.ref 686),ax P tW 1086 (.ref 693),ax P tX 1094 (.ref 700)]⟩ 54),⟨[]⟩⟩
noncomputable def abB:Obj:=b8 .none [.int 1 0,.int 0 0,.ref 20,.int 5 0,.int 0 0,.ref 27,.int 10 0,.int 0 0,.ref 47,.int 13 0,.int 0 0,.ref 59,.int 60 0,.int 0 0,.ref 143,.int 70 0,.int 0 0,.ref 150,.int 72 0,.int 0 0,.ref 157,.int 76 0,.int 0 0,.ref 164,.int 82 0,.int 0 0,.ref 171,.int 84 0,.int 0 0,.ref 178,.int 86 0,.int 0 0,.ref 185,.int 93 0,.int 0 0,.ref 192,.int 95 0,.int 0 0,.ref 199,.int 98 0,.int 0 0,.ref 206,.int 157 0,.int 0 0,.ref 311,.int 162 0,.int 0 0,.ref 318,.int 243 0,.int 0 0,.ref 435,.int 251 0,.int 0 0,.ref 442,.int 314 0,.int 0 0,.ref 513,.int 328 0,.int 0 0,.ref 520,.int 333 0,.int 0 0,.ref 527,.int 347 0,.int 0 0,.ref 535,.int 360 0,.int 0 0,.ref 542,.int 375 0,.int 0 0,.ref 550,.int 377 0,.int 0 0,.ref 559,.int 383 0,.int 0 0,.ref 566,.int 387 0,.int 0 0,.ref 573,.int 399 0,.int 0 0,.ref 580,.int 402 0,.int 0 0,.ref 587,.int 411 0,.int 0 0,.ref 594,.int 426 0,.int 0 0,.ref 601,.int 439 0,.int 0 0,.ref 608,.int 445 0,.int 0 0,.ref 615,.int 450 0,.int 0 0,.ref 622,.int 458 0,.int 0 0,.ref 629,.int 462 0,.int 0 0,.ref 636,.int 472 0,.int 0 0,.ref 643,.int 478 0,.int 0 0,.ref 650,.int 486 0,.int 0 0,.ref 657,.int 498 0,.int 0 0,.ref 664,.int 501 0,.int 0 0,.ref 671,.int 503 0,.int 0 0,.ref 678,.int 515 0,.int 0 0,.ref 685,.int 536 0,.int 0 0,.ref 692,.int 545 0,.int 0 0,.ref 699]
noncomputable def GS:Obj:=bU [.str H9 897]
noncomputable def PO:Obj:=bU [.str h_ 901,.str ie 902,.str wC 903,.str z0 904]
noncomputable def PQ:Obj:=b6 MG tA 0 .none
noncomputable def GU:Obj:=b9 tA tA 898 375 4 545 905
noncomputable def GV:Obj:=bV MG tA 3 (.ref 544) (.str qU 858) (.ref 550)
noncomputable def GW:Obj:=bU [.ref 552,.str H9 908]
noncomputable def PR:Obj:=bU [.str h_ 912,.str ie 913,.str wC 914,.str z0 915,.str z4 916,.str Dr 917,.str eZ 918]
noncomputable def PS:Obj:=b6 MH tB 0 .none
noncomputable def GX:Obj:=b9 tB tB 909 377 4 554 919
noncomputable def GY:Obj:=bV MH tB 3 (.ref 553) (.str qU 858) (.ref 559)
noncomputable def PT:Obj:=bU [.str h_ 925,.str jF 926,.str eZ 927]
noncomputable def PU:Obj:=b6 MI tC 0 .none
noncomputable def GZ:Obj:=b9 tC tC 922 383 2 561 928
noncomputable def G0:Obj:=bV MI tC 3 .none (.str qU 858) (.ref 566)
noncomputable def PV:Obj:=bU [.str h_ 934,.str eZ 935,.str kM 936,.str ie 937]
noncomputable def PW:Obj:=b6 MJ tD 0 .none
noncomputable def G1:Obj:=b9 tD tD 931 387 2 568 938
noncomputable def G2:Obj:=bV MJ tD 3 .none (.str qU 858) (.ref 573)
noncomputable def PX:Obj:=bU [.str ie 946,.str adB 947]
noncomputable def PY:Obj:=b6 MK tF 0 .none
noncomputable def G3:Obj:=b9 tF tF 943 399 1 575 948
noncomputable def G4:Obj:=bV MK tF 3 .none (.str Ds 941) (.ref 580)
noncomputable def PZ:Obj:=bU [.str h_ 954,.str tY 955,.str eZ 956]
noncomputable def P0:Obj:=b6 MM tG 0 .none
noncomputable def P1:Obj:=b9 tG tG 951 402 2 582 957
noncomputable def P2:Obj:=bV MM tG 3 .none (.str Ds 941) (.ref 587)
noncomputable def P4:Obj:=bU [.str h_ 963,.str eZ 964,.str tY 965,.str ie 966]
noncomputable def P5:Obj:=b6 MN tH 0 .none
noncomputable def G5:Obj:=b9 tH tH 960 411 3 589 967
noncomputable def G6:Obj:=bV MN tH 3 .none (.str Ds 941) (.ref 594)
noncomputable def P6:Obj:=bU [.str h_ 973,.str tY 974,.str z5 975,.str eZ 976]
noncomputable def P7:Obj:=b6 MO tI 0 .none
noncomputable def G7:Obj:=b9 tI tI 970 426 1 596 977
noncomputable def G8:Obj:=bV MO tI 3 .none (.str Ds 941) (.ref 601)
noncomputable def P8:Obj:=bU [.str h_ 985,.str jF 986]
noncomputable def P9:Obj:=b6 MQ tJ 0 .none
noncomputable def G9:Obj:=b9 tJ tJ 982 439 2 603 987
noncomputable def G_:Obj:=bV MQ tJ 3 .none (.str pN 980) (.ref 608)
noncomputable def P_:Obj:=bU [.str h_ 993]
noncomputable def Qa:Obj:=b6 MR tK 0 .none
noncomputable def Ha:Obj:=b9 tK tK 990 445 1 610 994
noncomputable def Hb:Obj:=bV MR tK 3 .none (.str pN 980) (.ref 615)
noncomputable def Qb:Obj:=bU [.str h_ 1000]
noncomputable def Qc:Obj:=b6 MS tL 0 .none
noncomputable def Hc:Obj:=b9 tL tL 997 450 1 617 1001
noncomputable def Hd:Obj:=bV MS tL 3 .none (.str pN 980) (.ref 622)
noncomputable def Qd:Obj:=bU [.str jF 1007]
noncomputable def Qe:Obj:=b6 MT tM 0 .none
noncomputable def He:Obj:=b9 tM tM 1004 458 1 624 1008
noncomputable def Hf:Obj:=bV MT tM 3 .none (.str pN 980) (.ref 629)
noncomputable def Qf:Obj:=bU [.str ie 1014]
noncomputable def Qg:Obj:=b6 MV tO 0 .none
noncomputable def Hg:Obj:=b9 tO tO 1011 462 1 631 1015
noncomputable def Hh:Obj:=bV MV tO 3 .none (.str pN 980) (.ref 636)
noncomputable def Qh:Obj:=bU [.str h_ 1021,.str jF 1022,.str z5 1023]
noncomputable def Qi:Obj:=b6 MW tP 0 .none
noncomputable def Hi:Obj:=b9 tP tP 1018 472 2 638 1024
noncomputable def Hj:Obj:=bV MW tP 3 .none (.str pN 980) (.ref 643)
noncomputable def Qj:Obj:=bU [.str h_ 1030,.str jF 1031]
noncomputable def Qk:Obj:=b6 MX tQ 0 .none
noncomputable def Hk:Obj:=b9 tQ tQ 1027 478 2 645 1032
noncomputable def Hl:Obj:=bV MX tQ 3 .none (.str pN 980) (.ref 650)
noncomputable def Ql:Obj:=bU [.str h_ 1038,.str jF 1039,.str Rv 1040]
noncomputable def Qm:Obj:=b6 MY tR 0 .none
noncomputable def Hm:Obj:=b9 tR tR 1035 486 2 652 1041
noncomputable def Hn:Obj:=bV MY tR 3 .none (.str pN 980) (.ref 657)
noncomputable def Qn:Obj:=b6 MZ tS 0 .none
noncomputable def Ho:Obj:=b9 tS tS 1044 498 0 659 1047
noncomputable def Hp:Obj:=bV MZ tS 3 .none (.str pN 980) (.ref 664)
noncomputable def Qo:Obj:=b6 M0 tT 0 .none
noncomputable def Hq:Obj:=b9 tT tT 1052 501 0 666 1055
noncomputable def Hr:Obj:=bV M0 tT 3 .none (.str hA 1050) (.ref 671)
noncomputable def Qp:Obj:=bU [.str adC 1061,.str lA 1062,.str adD 1063,.str adE 1064,.str adF 1065,.str adG 1066]
noncomputable def Qq:Obj:=b6 M1 tU 0 .none
noncomputable def Hs:Obj:=b9 tU tU 1058 503 2 673 1067
noncomputable def Ht:Obj:=bV M1 tU 3 .none (.str hA 1050) (.ref 678)
noncomputable def Qr:Obj:=bU [.str h_ 1073,.str jF 1074,.str eZ 1075]
noncomputable def Qs:Obj:=b6 M4 tV 0 .none
noncomputable def Hu:Obj:=b9 tV tV 1070 515 2 680 1076
noncomputable def Hv:Obj:=bV M4 tV 3 .none (.str hA 1050) (.ref 685)
noncomputable def Qt:Obj:=bU [.str h_ 1082,.str jF 1083]
noncomputable def Qu:Obj:=b6 M5 tW 0 .none
noncomputable def Hw:Obj:=b9 tW tW 1079 536 2 687 1084
noncomputable def Hx:Obj:=bV M5 tW 3 .none (.str hA 1050) (.ref 692)
noncomputable def Qv:Obj:=bU [.str h_ 1090,.str jF 1091]
noncomputable def Qw:Obj:=b6 M6 tX 0 .none
noncomputable def Hy:Obj:=b9 tX tX 1087 545 2 694 1092
noncomputable def Hz:Obj:=bV M6 tX 3 .none (.str hA 1050) (.ref 699)
noncomputable def Qx(P:Params):Obj:=⟨.type fN,az,(.dict ⟨[ax P s5 165 (.str hA 1050),ax P lB 166 .none,ax P t5 167 .none,ax P t6 168 (.builtin nq),ax P tr 169 .none,ax P ts 170 (.ref 6),ax P tu 171 (.ref 4),ax P tv 173 (.str s1 172),ax P tx 174 .none,ax P mn 193 (.ref 21),ax P kn 224 (.ref 38),ax P kq 240 (.ref 51),ax P kL 347 (.ref 133),ax P ny 357 (.ref 144),ax P nz 366 (.ref 151),ax P nA 373 (.ref 158),ax P nC 382 (.ref 165),ax P nD 391 (.ref 172),ax P nE 399 (.ref 179),ax P oN 408 (.ref 186),ax P oO 414 (.ref 193),ax P oP 420 (.ref 200),ax P lC 549 (.ref 301),ax P pM 557 (.ref 312),ax P mj 721 (.ref 425),ax P qV 731 (.ref 436),ax P nv 840 (.ref 503),ax P qW 850 (.ref 514),ax P qX 857 (.ref 521),ax P qY 870 (.ref 528),ax P qZ 883 (.ref 536),ax P q0 896 (.ref 543),ax P tA 907 (.ref 551),ax P tB 921 (.ref 560),ax P tC 930 (.ref 567),ax P tD 940 (.ref 574),ax P tF 950 (.ref 581),ax P tG 959 (.ref 588),ax P tH 969 (.ref 595),ax P tI 979 (.ref 602),ax P tJ 989 (.ref 609),ax P tK 996 (.ref 616),ax P tL 1003 (.ref 623),ax P tM 1010 (.ref 630),ax P tO 1017 (.ref 637),ax P tP 1026 (.ref 644),ax P tQ 1034 (.ref 651),ax P tR 1043 (.ref 658),ax P tS 1049 (.ref 665),ax P tT 1057 (.ref 672),ax P tU 1069 (.ref 679),ax P tV 1078 (.ref 686),ax P tW 1086 (.ref 693),ax P tX 1094 (.ref 700),ax P wF 1102 (.ref 707),ax P wG 1109 (.ref 714),ax P wH 1118 (.ref 721),ax P wI 1129 (.ref 728),ax P wJ 1135 (.ref 733),ax P wK 1145 (.ref 740),ax P wL 1151 (.ref 745),ax P wM 1159 (.ref 752),ax P wN 1167 (.ref 759),ax P wO 1178 (.ref 766),ax P wQ 1186 (.ref 773),ax P wU 1192 (.ref 778),ax P wV 1198 (.ref 783),ax P wW 1204 (.ref 788),ax P z6 1216 (.ref 795)]⟩ 69),⟨[]⟩⟩
noncomputable def abD:Obj:=b8 .none [.int 1 0,.int 0 0,.ref 20,.int 5 0,.int 0 0,.ref 27,.int 10 0,.int 0 0,.ref 47,.int 13 0,.int 0 0,.ref 59,.int 60 0,.int 0 0,.ref 143,.int 70 0,.int 0 0,.ref 150,.int 72 0,.int 0 0,.ref 157,.int 76 0,.int 0 0,.ref 164,.int 82 0,.int 0 0,.ref 171,.int 84 0,.int 0 0,.ref 178,.int 86 0,.int 0 0,.ref 185,.int 93 0,.int 0 0,.ref 192,.int 95 0,.int 0 0,.ref 199,.int 98 0,.int 0 0,.ref 206,.int 157 0,.int 0 0,.ref 311,.int 162 0,.int 0 0,.ref 318,.int 243 0,.int 0 0,.ref 435,.int 251 0,.int 0 0,.ref 442,.int 314 0,.int 0 0,.ref 513,.int 328 0,.int 0 0,.ref 520,.int 333 0,.int 0 0,.ref 527,.int 347 0,.int 0 0,.ref 535,.int 360 0,.int 0 0,.ref 542,.int 375 0,.int 0 0,.ref 550,.int 377 0,.int 0 0,.ref 559,.int 383 0,.int 0 0,.ref 566,.int 387 0,.int 0 0,.ref 573,.int 399 0,.int 0 0,.ref 580,.int 402 0,.int 0 0,.ref 587,.int 411 0,.int 0 0,.ref 594,.int 426 0,.int 0 0,.ref 601,.int 439 0,.int 0 0,.ref 608,.int 445 0,.int 0 0,.ref 615,.int 450 0,.int 0 0,.ref 622,.int 458 0,.int 0 0,.ref 629,.int 462 0,.int 0 0,.ref 636,.int 472 0,.int 0 0,.ref 643,.int 478 0,.int 0 0,.ref 650,.int 486 0,.int 0 0,.ref 657,.int 498 0,.int 0 0,.ref 664,.int 501 0,.int 0 0,.ref 671,.int 503 0,.int 0 0,.ref 678,.int 515 0,.int 0 0,.ref 685,.int 536 0,.int 0 0,.ref 692,.int 545 0,.int 0 0,.ref 699,.int 556 0,.int 0 0,.ref 706,.int 558 0,.int 0 0,.ref 713,.int 560 0,.int 0 0,.ref 720,.int 566 0,.int 0 0,.ref 727,.int 571 0,.int 0 0,.ref 732,.int 573 0,.int 0 0,.ref 739,.int 585 0,.int 0 0,.ref 744,.int 605 0,.int 0 0,.ref 751,.int 621 0,.int 0 0,.ref 758,.int 632 0,.int 0 0,.ref 765,.int 647 0,.int 0 0,.ref 772,.int 662 0,.int 0 0,.ref 777,.int 670 0,.int 0 0,.ref 782,.int 681 0,.int 0 0,.ref 787,.int 716 0,.int 0 0,.ref 794]
noncomputable def abE:Obj:=bU [.str q1 1098,.str Rz 1099]
noncomputable def abF:Obj:=b6 M8 wF 0 .none
noncomputable def Qy:Obj:=b9 wF wF 1095 556 2 701 1100
noncomputable def Qz:Obj:=bV M8 wF 3 .none (.str hA 1050) (.ref 706)
noncomputable def abG:Obj:=bU [.str eZ 1106]
noncomputable def abH:Obj:=b6 M9 wG 0 .none
noncomputable def QA:Obj:=b9 wG wG 1103 558 1 708 1107
noncomputable def QB:Obj:=bV M9 wG 3 .none (.str hA 1050) (.ref 713)
noncomputable def abI:Obj:=bU [.str q1 1113,.str RB 1114,.str adH 1115]
noncomputable def abJ:Obj:=b6 M_ wH 0 .none
noncomputable def QC:Obj:=b9 wH wH 1110 560 2 715 1116
noncomputable def QD:Obj:=bV M_ wH 3 .none (.str hA 1050) (.ref 720)
noncomputable def abK:Obj:=bU [.str q1 1122,.str z0 1123,.str ie 1124,.str wC 1125,.str eZ 1126]
noncomputable def abL:Obj:=b6 Na wI 0 .none
noncomputable def QE:Obj:=b9 wI wI 1119 566 4 722 1127
noncomputable def QF:Obj:=bV Na wI 3 .none (.str hA 1050) (.ref 727)
noncomputable def abM:Obj:=b6 Nb wJ 0 .none
noncomputable def QG:Obj:=bR wJ wJ 1130 571 1 3 (.ref 729) aB (.ref 730) .none .none (.ref 731) 1133
noncomputable def QH:Obj:=bV Nb wJ 3 .none (.str hA 1050) (.ref 732)
noncomputable def abN:Obj:=bU [.str q1 1139,.str z5 1140,.str adI 1141,.str eZ 1142]
noncomputable def abO:Obj:=b6 Nc wK 0 .none
noncomputable def QI:Obj:=b9 wK wK 1136 573 1 734 1143
noncomputable def QJ:Obj:=bV Nc wK 3 .none (.str hA 1050) (.ref 739)
noncomputable def abP:Obj:=b6 Nf wL 0 .none
noncomputable def QK:Obj:=bR wL wL 1146 585 2 3 (.ref 741) aB (.ref 742) .none .none (.ref 743) 1149
noncomputable def QL:Obj:=bV Nf wL 3 .none (.str hA 1050) (.ref 744)
noncomputable def abQ:Obj:=bU [.str q1 1155,.str jF 1156]
noncomputable def abR:Obj:=b6 Nh wM 0 .none
noncomputable def QM:Obj:=b9 wM wM 1152 605 2 746 1157
noncomputable def QN:Obj:=bV Nh wM 3 .none (.str hA 1050) (.ref 751)
noncomputable def abS:Obj:=bU [.str q1 1163,.str jF 1164]
noncomputable def abT:Obj:=b6 Ni wN 0 .none
noncomputable def QO:Obj:=b9 wN wN 1160 621 2 753 1165
noncomputable def QP:Obj:=bV Ni wN 3 .none (.str hA 1050) (.ref 758)
noncomputable def abU:Obj:=bU [.str q1 1171,.str jF 1172,.str adJ 1173,.str adK 1174,.str ie 1175]
noncomputable def abV:Obj:=b6 Nj wO 0 .none
noncomputable def QQ:Obj:=b9 wO wO 1168 632 2 760 1176
noncomputable def QR:Obj:=bV Nj wO 3 .none (.str hA 1050) (.ref 765)
noncomputable def abW:Obj:=bU [.str q1 1182,.str jF 1183]
noncomputable def abX:Obj:=b6 Nk wQ 0 .none
noncomputable def QS:Obj:=b9 wQ wQ 1179 647 2 767 1184
noncomputable def QT:Obj:=bV Nk wQ 3 .none (.str hA 1050) (.ref 772)
noncomputable def abY:Obj:=b6 Nl wU 0 .none
noncomputable def QU:Obj:=bR wU wU 1187 662 2 3 (.ref 774) aB (.ref 775) .none .none (.ref 776) 1190
noncomputable def QV:Obj:=bV Nl wU 3 .none (.str hA 1050) (.ref 777)
noncomputable def abZ:Obj:=b6 Nm wV 0 .none
noncomputable def QW:Obj:=bR wV wV 1193 670 2 3 (.ref 779) aB (.ref 780) .none .none (.ref 781) 1196
noncomputable def QX:Obj:=bV Nm wV 3 .none (.str hA 1050) (.ref 782)
noncomputable def ab0:Obj:=b6 Nn wW 0 .none
noncomputable def QY:Obj:=bR wW wW 1199 681 1 3 (.ref 784) aB (.ref 785) .none .none (.ref 786) 1202
noncomputable def QZ:Obj:=bV Nn wW 3 .none (.str hA 1050) (.ref 787)
noncomputable def ab1:Obj:=bU [.str adL 1208,.str adM 1209,.str adN 1210,.str adO 1211,.str RA 1212,.str lA 1213]
noncomputable def ab2:Obj:=b6 Nr z6 0 .none
noncomputable def Q0:Obj:=b9 z6 z6 1205 716 1 789 1214
noncomputable def Q1:Obj:=bV Nr z6 3 .none (.str hA 1050) (.ref 794)
noncomputable def T0(P:Params):BT:=(N (boot_o_0 P) (N (boot_o_1 P) (N (boot_o_3 P) (L (boot_o_7 P)) (L o0)) (N (boot_o_5 P) (L (boot_o_9 P)) (L cP))) (N (boot_o_2 P) (N (boot_o_4 P) (L (boot_o_8 P)) (L aE)) (N (boot_o_6 P) (L (boot_o_10 P)) (L me))))
noncomputable def kU(P:Params):BT:=(N (boot_o_0 P) (N (boot_o_1 P) (N (abz P) (N (boot_o_7 P) (N o0 (L sC) (L sP)) (N fy (L sJ) e)) (N o0 (N sa (L sF) (L sT)) (N sy (L fy) e))) (N (boot_o_5 P) (N (boot_o_9 P) (N s_ (L sD) (L o0)) (N o0 (L sM) e)) (N cP (N sg (L (sH P)) (L sV)) (N o0 (L o0) e)))) (N (sQ P) (N (boot_o_4 P) (N (boot_o_8 P) (N aE (L o0) (L sR)) (N (so P) (L sL) e)) (N abC (N sd (L sG) (L sU)) (N sA (L (sO P)) e))) (N (boot_o_6 P) (N (boot_o_10 P) (N o0 (L sE) (L (sS P))) (N sx (L sN) e)) (N me (N sm (L sI) e) (N aE (L aE) e)))))
noncomputable def KY(P:Params):BT:=(N (boot_o_0 P) (N (boot_o_1 P) (N (abx P) (N (boot_o_7 P) (N o0 (N sC (N vW (L o0) e) (N wc (L o0) e)) (N sP (N v7 (L si) e) (N aE (L vq) e))) (N fy (N sJ (N o0 (L u6) e) (N o0 (L aE) e)) (N fy (N s8 (L vf) e) (L uS)))) (N o0 (N sa (N sF (N sX (L u0) e) (N o0 (L vl) e)) (N sT (N aE (L vc) e) (N uQ (L sv) e))) (N sy (N fy (N o0 (L aE) e) (N uL (L sq) e)) (N vU (N v_ (L o0) e) (L uV))))) (N (boot_o_5 P) (N (boot_o_9 P) (N s_ (N sD (N vX (L uY) e) (N aE (L vk) e)) (N o0 (N s7 (L o0) e) (N o0 (L vt) e))) (N o0 (N sM (N sY (L u9) e) (N wo (L o0) e)) (N o0 (N o0 (L aE) e) (L uT)))) (N cP (N sg (N (sH P) (N aE (L sf) e) (N wi (L vn) e)) (N sV (N o0 (L vd) e) (L o0))) (N o0 (N o0 (N v5 (L o0) e) (N uN (L o0) e)) (N o0 (N wa (L vi) e) (L aE)))))) (N (sQ P) (N (boot_o_4 P) (N (boot_o_8 P) (N aE (N o0 (N o0 (L uX) e) (N o0 (L aE) e)) (N sR (N s6 (L sk) e) (N uO (L o0) e))) (N (so P) (N sL (N vZ (L u7) e) (N aE (L vo) e)) (N (vS P) (N s9 (L o0) e) (L o0)))) (N aby (N sd (N sG (N o0 (L (se P)) e) (N wh (L vm) e)) (N sU (N v8 (L o0) e) (L uR))) (N sA (N (sO P) (N aE (L u_) e) (N uM (L sr) e)) (N vV (N o0 (L vh) e) (L o0))))) (N (boot_o_6 P) (N (boot_o_10 P) (N o0 (N sE (N sW (L uZ) e) (N wd (L o0) e)) (N (sS P) (N o0 (L aE) e) (N uP (L su) e))) (N sx (N sN (N sZ (L o0) e) (N o0 (L vp) e)) (N vT (N aE (L vg) e) (L uU)))) (N me (N sm (N sI (N vY (L u5) e) (N wj (L o0) e)) (N o0 (N v9 (L ve) e) (L aE))) (N aE (N aE (N o0 (L vb) e) (N o0 (L aE) e)) (N aE (N wb (L vj) e) (L uW)))))))
noncomputable def KZ(P:Params):BT:=(N (boot_o_0 P) (N (boot_o_1 P) (N (abq P) (N (boot_o_7 P) (N o0 (N sC (N vW (N o0 (L yW) e) (L yA)) (N wc (N o0 (L zb) e) (L aE))) (N sP (N v7 (N si (L o0) e) (L yF)) (N aE (N vq (L zj) e) (L o0)))) (N fy (N sJ (N o0 (N u6 (L y3) e) (L vy)) (N o0 (N aE (L o0) e) (L yM))) (N fy (N s8 (N vf (L aE) e) (L o0)) (N uS (L o0) (L yR))))) (N o0 (N sa (N sF (N sX (N u0 (L yY) e) (L aE)) (N o0 (N vl (L vP) e) (L vE))) (N sT (N aE (N vc (L y9) e) (L o0)) (N uQ (L sv) (L o0)))) (N sy (N fy (N o0 (N aE (L o0) e) (L (yC P))) (N uL (N sq (L zh) e) (L vH))) (N vU (N v_ (N o0 (L vM) e) (L yJ)) (N uV (L o0) (L aE)))))) (N (boot_o_5 P) (N (boot_o_9 P) (N s_ (N sD (N vX (N uY (L o0) e) (L vx)) (N aE (N vk (L zc) e) (L o0))) (N o0 (N s7 (N o0 (L y8) e) (L aE)) (N o0 (N vt (L zl) e) (L vI)))) (N o0 (N sM (N sY (N u9 (L aE) e) (L o0)) (N wo (N o0 (L zf) e) (L yN))) (N o0 (N o0 (N aE (L o0) e) (L yI)) (N uT (L vu) (L yT))))) (N cP (N sg (N (sH P) (N aE (N sf (L yZ) e) (L o0)) (N wi (N vn (L aE) e) (L o0))) (N sV (N o0 (N vd (L vL) e) (L vA)) (N o0 (L aE) (L yQ)))) (N o0 (N o0 (N v5 (N o0 (L y6) e) (L yD)) (N uN (N o0 (L vR) e) (L aE))) (N o0 (N wa (N vi (L o0) e) (L vD)) (N aE (L o0) (L o0))))))) (N (sQ P) (N (boot_o_4 P) (N (boot_o_8 P) (N aE (N o0 (N o0 (N uX (L yX) e) (L vw)) (N o0 (N aE (L o0) e) (L yK))) (N sR (N s6 (N sk (L aE) e) (L o0)) (N uO (N o0 (L zk) e) (L yP)))) (N (so P) (N sL (N vZ (N u7 (L o0) e) (L vz)) (N aE (N vo (L ze) e) (L o0))) (N (vS P) (N s9 (N o0 (L y_) e) (L aE)) (N o0 (L yz) (L yS))))) (N abr (N sd (N sG (N o0 (N (se P) (L o0) e) (L o0)) (N wh (N vm (L o0) e) (L vF))) (N sU (N v8 (N o0 (L vK) e) (L yH)) (N uR (L o0) (L aE)))) (N sA (N (sO P) (N aE (N u_ (L y5) e) (L o0)) (N uM (N sr (L (vQ P)) e) (L o0))) (N vV (N o0 (N vh (L vN) e) (L vC)) (N o0 (L aE) (L yU)))))) (N (boot_o_6 P) (N (boot_o_10 P) (N o0 (N sE (N sW (N uZ (L aE) e) (L o0)) (N wd (N o0 (L vO) e) (L yL))) (N (sS P) (N o0 (N aE (L o0) e) (L yG)) (N uP (L su) (L vJ)))) (N sx (N sN (N sZ (N o0 (L y4) e) (L fy)) (N o0 (N vp (L zg) e) (L vG))) (N vT (N aE (N vg (L za) e) (L o0)) (N uU (L vv) (L o0))))) (N me (N sm (N sI (N vY (N u5 (L y0) e) (L yB)) (N wj (N o0 (L zd) e) (L aE))) (N o0 (N v9 (N ve (L o0) e) (L vB)) (N aE (L yy) (L o0)))) (N aE (N aE (N o0 (N vb (L y7) e) (L yE)) (N o0 (N aE (L zi) e) (L yO))) (N aE (N wb (N vj (L aE) e) (L o0)) (N uW (L o0) (L yV))))))))
noncomputable def K0(P:Params):BT:=(N (boot_o_0 P) (N (boot_o_1 P) (N (abt P) (N (boot_o_7 P) (N o0 (N sC (N vW (N o0 (L yW) (L Cf)) (N yA (L BS) e)) (N wc (N o0 (L zb) (L zI)) (N aE (L zz) e))) (N sP (N v7 (N si (L o0) (L Co)) (N yF (L zu) e)) (N aE (N vq (L zj) e) (N o0 (L o0) e)))) (N fy (N sJ (N o0 (N u6 (L y3) (L o0)) (N vy (L o0) e)) (N o0 (N aE (L o0) (L Cx)) (N yM (L o0) e))) (N fy (N s8 (N vf (L aE) (L zF)) (N o0 (L zw) e)) (N uS (N o0 (L zm) e) (N yR (L aE) e))))) (N o0 (N sa (N sF (N sX (N u0 (L yY) (L zE)) (N aE (L o0) e)) (N o0 (N vl (L vP) (L o0)) (N vE (L o0) e))) (N sT (N aE (N vc (L y9) (L aE)) (N o0 (L aE) e)) (N uQ (N sv (L aE) e) (N o0 (L Ca) e)))) (N sy (N fy (N o0 (N aE (L o0) (L o0)) (N (yC P) (L BW) e)) (N uL (N sq (L zh) (L Cz)) (N vH (L B7) e))) (N vU (N v_ (N o0 (L vM) (L Ct)) (N yJ (L B0) e)) (N uV (N o0 (L (BP P)) e) (N aE (L Cd) e)))))) (N (boot_o_5 P) (N (boot_o_9 P) (N s_ (N sD (N vX (N uY (L o0) (L Cg)) (N vx (L aE) e)) (N aE (N vk (L zc) (L aE)) (N o0 (L aE) e))) (N o0 (N s7 (N o0 (L y8) (L Cq)) (N aE (L zv) e)) (N o0 (N vt (L zl) e) (N vI (L B_) e)))) (N o0 (N sM (N sY (N u9 (L aE) (L Ck)) (N o0 (L o0) e)) (N wo (N o0 (L zf) (L zM)) (N yN (L B6) e))) (N o0 (N o0 (N aE (L o0) (L o0)) (N yI (L o0) e)) (N uT (N vu (L o0) e) (N yT (L o0) e))))) (N cP (N sg (N (sH P) (N aE (N sf (L yZ) (L aE)) (N o0 (L zp) e)) (N wi (N vn (L aE) (L zJ)) (N o0 (L B4) e))) (N sV (N o0 (N vd (L vL) (L o0)) (N vA (L o0) e)) (N o0 (N aE (L o0) e) (N yQ (L zC) e)))) (N o0 (N o0 (N v5 (N o0 (L y6) (L Cn)) (N yD (L BX) e)) (N uN (N o0 (L vR) (L CB)) (N aE (L B9) e))) (N o0 (N wa (N vi (L o0) (L Cu)) (N vD (L B1) e)) (N aE (N o0 (L BQ) e) (N o0 (L o0) e))))))) (N (sQ P) (N (boot_o_4 P) (N (boot_o_8 P) (N aE (N o0 (N o0 (N uX (L yX) (L o0)) (N vw (L o0) e)) (N o0 (N aE (L o0) (L o0)) (N yK (L o0) e))) (N sR (N s6 (N sk (L aE) (L Cp)) (N o0 (L o0) e)) (N uO (N o0 (L zk) e) (N yP (L aE) e)))) (N (so P) (N sL (N vZ (N u7 (L o0) (L Cj)) (N vz (L zr) e)) (N aE (N vo (L ze) (L (zL P))) (N o0 (L aE) e))) (N (vS P) (N s9 (N o0 (L y_) (L zG)) (N aE (L zx) e)) (N o0 (N yz (L zo) e) (N yS (L Cb) e))))) (N abu (N sd (N sG (N o0 (N (se P) (L o0) (L o0)) (N o0 (L BV) e)) (N wh (N vm (L o0) (L Cw)) (N vF (L B3) e))) (N sU (N v8 (N o0 (L vK) (L Cr)) (N yH (L BY) e)) (N uR (N o0 (L BN) e) (N aE (L zB) e)))) (N sA (N (sO P) (N aE (N u_ (L y5) (L aE)) (N o0 (L o0) e)) (N uM (N sr (L (vQ P)) (L CA)) (N o0 (L B8) e))) (N vV (N o0 (N vh (L vN) (L o0)) (N vC (L o0) e)) (N o0 (N aE (L o0) e) (N yU (L Ce) e)))))) (N (boot_o_6 P) (N (boot_o_10 P) (N o0 (N sE (N sW (N uZ (L aE) (L zD)) (N o0 (L BU) e)) (N wd (N o0 (L vO) (L Cv)) (N yL (L B2) e))) (N (sS P) (N o0 (N aE (L o0) (L o0)) (N yG (L o0) e)) (N uP (N su (L o0) e) (N vJ (L o0) e)))) (N sx (N sN (N sZ (N o0 (L y4) (L Cm)) (N fy (L aE) e)) (N o0 (N vp (L zg) (L Cy)) (N vG (L o0) e))) (N vT (N aE (N vg (L za) (L aE)) (N o0 (L aE) e)) (N uU (N vv (L fy) e) (N o0 (L Cc) e))))) (N me (N sm (N sI (N vY (N u5 (L y0) (L Ci)) (N yB (L zq) e)) (N wj (N o0 (L zd) (L zK)) (N aE (L B5) e))) (N o0 (N v9 (N ve (L o0) (L Cs)) (N vB (L BZ) e)) (N aE (N yy (L BO) e) (N o0 (L o0) e)))) (N aE (N aE (N o0 (N vb (L y7) (L o0)) (N yE (L zt) e)) (N o0 (N aE (L zi) e) (N yO (L zA) e))) (N aE (N wb (N vj (L aE) (L zH)) (N o0 (L zy) e)) (N uW (N o0 (L BR) e) (N yV (L aE) e))))))))
noncomputable def K1(P:Params):BT:=(N (boot_o_0 P) (N (boot_o_1 P) (N (abv P) (N (boot_o_7 P) (N o0 (N sC (N vW (N o0 (N yW (L o0) e) (L Cf)) (N yA (L BS) (L Gh))) (N wc (N o0 (N zb (L C6) e) (L zI)) (N aE (L zz) (L CP)))) (N sP (N v7 (N si (N o0 (L GL) e) (L Co)) (N yF (L zu) (L Gm))) (N aE (N vq (L zj) (L aE)) (N o0 (L o0) (L aE))))) (N fy (N sJ (N o0 (N u6 (N y3 (L GI) e) (L o0)) (N vy (L o0) (L o0))) (N o0 (N aE (L o0) (L Cx)) (N yM (L o0) (L o0)))) (N fy (N s8 (N vf (N aE (L C3) e) (L zF)) (N o0 (L zw) (L CM))) (N uS (N o0 (L zm) (L (Gd P))) (N yR (L aE) (L CX)))))) (N o0 (N sa (N sF (N sX (N u0 (N yY (L o0) e) (L zE)) (N aE (L o0) (L CH))) (N o0 (N vl (L vP) (L o0)) (N vE (L o0) (L o0)))) (N sT (N aE (N vc (N y9 (L aE) e) (L aE)) (N o0 (L aE) (L aE))) (N uQ (N sv (L aE) (L CC)) (N o0 (L Ca) (L CU))))) (N sy (N fy (N o0 (N aE (N o0 (L aE) e) (L o0)) (N (yC P) (L BW) (L o0))) (N uL (N sq (L zh) (L Cz)) (N vH (L B7) (L Gw)))) (N vU (N v_ (N o0 (N vM (L GQ) e) (L Ct)) (N yJ (L B0) (L Gq))) (N uV (N o0 (L (BP P)) (L Gg)) (N aE (L Cd) (L GD))))))) (N (boot_o_5 P) (N (boot_o_9 P) (N s_ (N sD (N vX (N uY (N o0 (L CY) e) (L Cg)) (N vx (L aE) (L Gi))) (N aE (N vk (L zc) (L aE)) (N o0 (L aE) (L aE)))) (N o0 (N s7 (N o0 (N y8 (L C2) e) (L Cq)) (N aE (L zv) (L CL))) (N o0 (N vt (L zl) (L o0)) (N vI (L B_) (L o0))))) (N o0 (N sM (N sY (N u9 (N aE (L C1) e) (L Ck)) (N o0 (L o0) (L CI))) (N wo (N o0 (L zf) (L zM)) (N yN (L B6) (L Gv)))) (N o0 (N o0 (N aE (N o0 (L o0) e) (L o0)) (N yI (L o0) (L o0))) (N uT (N vu (L o0) (L Ge)) (N yT (L o0) (L GB)))))) (N cP (N sg (N (sH P) (N aE (N sf (N yZ (L GH) e) (L aE)) (N o0 (L zp) (L aE))) (N wi (N vn (L aE) (L zJ)) (N o0 (L B4) (L CQ)))) (N sV (N o0 (N vd (N vL (L o0) e) (L o0)) (N vA (L o0) (L o0))) (N o0 (N aE (L o0) (L o0)) (N yQ (L zC) (L Gz))))) (N o0 (N o0 (N v5 (N o0 (N y6 (L o0) e) (L Cn)) (N yD (L BX) (L Gl))) (N uN (N o0 (L vR) (L CB)) (N aE (L B9) (L CT)))) (N o0 (N wa (N vi (N o0 (L GR) e) (L Cu)) (N vD (L B1) (L Gr))) (N aE (N o0 (L BQ) (L o0)) (N o0 (L o0) (L aE)))))))) (N (sQ P) (N (boot_o_4 P) (N (boot_o_8 P) (N aE (N o0 (N o0 (N uX (N yX (L GG) e) (L o0)) (N vw (L o0) (L o0))) (N o0 (N aE (L o0) (L o0)) (N yK (L o0) (L o0)))) (N sR (N s6 (N sk (N aE (L GN) e) (L Cp)) (N o0 (L o0) (L CK))) (N uO (N o0 (L zk) (L Ga)) (N yP (L aE) (L Gx))))) (N (so P) (N sL (N vZ (N u7 (N o0 (L C0) e) (L Cj)) (N vz (L zr) (L Gk))) (N aE (N vo (L ze) (L (zL P))) (N o0 (L aE) (L aE)))) (N (vS P) (N s9 (N o0 (N y_ (L C4) e) (L zG)) (N aE (L zx) (L CN))) (N o0 (N yz (L zo) (L o0)) (N yS (L Cb) (L GA)))))) (N abw (N sd (N sG (N o0 (N (se P) (N o0 (L aE) e) (L o0)) (N o0 (L BV) (L o0))) (N wh (N vm (L o0) (L Cw)) (N vF (L B3) (L Gu)))) (N sU (N v8 (N o0 (N vK (L GO) e) (L Cr)) (N yH (L BY) (L Gn))) (N uR (N o0 (L BN) (L CD)) (N aE (L zB) (L CV))))) (N sA (N (sO P) (N aE (N u_ (N y5 (L GJ) e) (L aE)) (N o0 (L o0) (L aE))) (N uM (N sr (L (vQ P)) (L CA)) (N o0 (L B8) (L CS)))) (N vV (N o0 (N vh (N vN (L o0) e) (L o0)) (N vC (L o0) (L o0))) (N o0 (N aE (L o0) (L CE)) (N yU (L Ce) (L o0))))))) (N (boot_o_6 P) (N (boot_o_10 P) (N o0 (N sE (N sW (N uZ (N aE (L CZ) e) (L zD)) (N o0 (L BU) (L CG))) (N wd (N o0 (L vO) (L Cv)) (N yL (L B2) (L Gs)))) (N (sS P) (N o0 (N aE (N o0 (L o0) e) (L o0)) (N yG (L o0) (L o0))) (N uP (N su (L o0) (L Gb)) (N vJ (L o0) (L Gy))))) (N sx (N sN (N sZ (N o0 (N y4 (L o0) e) (L Cm)) (N fy (L aE) (L CJ))) (N o0 (N vp (L zg) (L Cy)) (N vG (L o0) (L o0)))) (N vT (N aE (N vg (N za (L aE) e) (L aE)) (N o0 (L aE) (L aE))) (N uU (N vv (L fy) (L Gf)) (N o0 (L Cc) (L GC)))))) (N me (N sm (N sI (N vY (N u5 (N y0 (L o0) e) (L Ci)) (N yB (L zq) (L Gj))) (N wj (N o0 (L zd) (L zK)) (N aE (L B5) (L CR)))) (N o0 (N v9 (N ve (N o0 (L GP) e) (L Cs)) (N vB (L BZ) (L Gp))) (N aE (N yy (L BO) (L fy)) (N o0 (L o0) (L (CW P)))))) (N aE (N aE (N o0 (N vb (N y7 (L GK) e) (L o0)) (N yE (L zt) (L o0))) (N o0 (N aE (L zi) (L o0)) (N yO (L zA) (L o0)))) (N aE (N wb (N vj (N aE (L C5) e) (L zH)) (N o0 (L zy) (L CO))) (N uW (N o0 (L BR) (L aE)) (N yV (L aE) (L GF)))))))))
noncomputable def K2(P:Params):BT:=(N (boot_o_0 P) (N (boot_o_1 P) (N (abA P) (N (boot_o_7 P) (N o0 (N sC (N vW (N o0 (N yW (L o0) e) (N Cf (L aE) e)) (N yA (N BS (L o0) e) (L Gh))) (N wc (N o0 (N zb (L C6) e) (N zI (L Hq) e)) (N aE (N zz (L P9) e) (L CP)))) (N sP (N v7 (N si (N o0 (L GL) e) (N Co (L o0) e)) (N yF (N zu (L P4) e) (L Gm))) (N aE (N vq (N zj (L GX) e) (N aE (L o0) e)) (N o0 (N o0 (L Hd) e) (L aE))))) (N fy (N sJ (N o0 (N u6 (N y3 (L GI) e) (N o0 (L Qj) e)) (N vy (N o0 (L aE) e) (L o0))) (N o0 (N aE (N o0 (L GV) e) (N Cx (L Ht) e)) (N yM (N o0 (L Ha) e) (L o0)))) (N fy (N s8 (N vf (N aE (L C3) e) (N zF (L Qn) e)) (N o0 (N zw (L o0) e) (L CM))) (N uS (N o0 (N zm (L G0) e) (N (Gd P) (L aE) e)) (N yR (N aE (L o0) e) (L CX)))))) (N o0 (N sa (N sF (N sX (N u0 (N yY (L o0) e) (N zE (L Hi) e)) (N aE (N o0 (L PY) e) (L CH))) (N o0 (N vl (N vP (L PO) e) (N o0 (L Qp) e)) (N vE (N o0 (L aE) e) (L o0)))) (N sT (N aE (N vc (N y9 (L aE) e) (N aE (L o0) e)) (N o0 (N aE (L G6) e) (L aE))) (N uQ (N sv (N aE (L PT) e) (N CC (L Qu) e)) (N o0 (N Ca (L o0) e) (L CU))))) (N sy (N fy (N o0 (N aE (N o0 (L aE) e) (N o0 (L Hl) e)) (N (yC P) (N BW (L P1) e) (L o0))) (N uL (N sq (N zh (L aE) e) (N Cz (L o0) e)) (N vH (N B7 (L Qb) e) (L Gw)))) (N vU (N v_ (N o0 (N vM (L GQ) e) (N Ct (L aE) e)) (N yJ (N B0 (L o0) e) (L Gq))) (N uV (N o0 (N (BP P) (L o0) e) (N Gg (L Hy) e)) (N aE (N Cd (L Qg) e) (L GD))))))) (N (boot_o_5 P) (N (boot_o_9 P) (N s_ (N sD (N vX (N uY (N o0 (L CY) e) (N Cg (L o0) e)) (N vx (N aE (L PX) e) (L Gi))) (N aE (N vk (N zc (L o0) e) (N aE (L o0) e)) (N o0 (N aE (L G_) e) (L aE)))) (N o0 (N s7 (N o0 (N y8 (L C2) e) (N Cq (L Hm) e)) (N aE (N zv (L P5) e) (L CL))) (N o0 (N vt (N zl (L o0) e) (N o0 (L Qt) e)) (N vI (N B_ (L aE) e) (L o0))))) (N o0 (N sM (N sY (N u9 (N aE (L C1) e) (N Ck (L Qk) e)) (N o0 (N o0 (L o0) e) (L CI))) (N wo (N o0 (N zf (L GW) e) (N zM (L aE) e)) (N yN (N B6 (L o0) e) (L Gv)))) (N o0 (N o0 (N aE (N o0 (L o0) e) (N o0 (L Hp) e)) (N yI (N o0 (L G7) e) (L o0))) (N uT (N vu (N o0 (L aE) e) (N Ge (L o0) e)) (N yT (N o0 (L Qf) e) (L GB)))))) (N cP (N sg (N (sH P) (N aE (N sf (N yZ (L GH) e) (N aE (L o0) e)) (N o0 (N zp (L G4) e) (L aE))) (N wi (N vn (N aE (L PQ) e) (N zJ (L Qq) e)) (N o0 (N B4 (L o0) e) (L CQ)))) (N sV (N o0 (N vd (N vL (L o0) e) (N o0 (L o0) e)) (N vA (N o0 (L aE) e) (L o0))) (N o0 (N aE (N o0 (L PU) e) (N o0 (L Hx) e)) (N yQ (N zC (L He) e) (L Gz))))) (N o0 (N o0 (N v5 (N o0 (N y6 (L o0) e) (N Cn (L aE) e)) (N yD (N BX (L o0) e) (L Gl))) (N uN (N o0 (N vR (L o0) e) (N CB (L Hu) e)) (N aE (N B9 (L Qc) e) (L CT)))) (N o0 (N wa (N vi (N o0 (L GR) e) (N Cu (L o0) e)) (N vD (N B1 (L P8) e) (L Gr))) (N aE (N o0 (N BQ (L G1) e) (L o0)) (N o0 (N o0 (L Hh) e) (L aE)))))))) (N (sQ P) (N (boot_o_4 P) (N (boot_o_8 P) (N aE (N o0 (N o0 (N uX (N yX (L GG) e) (N o0 (L Qh) e)) (N vw (N o0 (L aE) e) (L o0))) (N o0 (N aE (N o0 (L GS) e) (N o0 (L Hr) e)) (N yK (N o0 (L G9) e) (L o0)))) (N sR (N s6 (N sk (N aE (L GN) e) (N Cp (L Qm) e)) (N o0 (N o0 (L o0) e) (L CK))) (N uO (N o0 (N zk (L GY) e) (N Ga (L aE) e)) (N yP (N aE (L o0) e) (L Gx))))) (N (so P) (N sL (N vZ (N u7 (N o0 (L C0) e) (N Cj (L o0) e)) (N vz (N zr (L PZ) e) (L Gk))) (N aE (N vo (N ze (L o0) e) (N (zL P) (L o0) e)) (N o0 (N aE (L Hb) e) (L aE)))) (N (vS P) (N s9 (N o0 (N y_ (L C4) e) (N zG (L Ho) e)) (N aE (N zx (L P7) e) (L CN))) (N o0 (N yz (N zo (L o0) e) (N o0 (L Qv) e)) (N yS (N Cb (L aE) e) (L GA)))))) (N abB (N sd (N sG (N o0 (N (se P) (N o0 (L aE) e) (N o0 (L Hj) e)) (N o0 (N BV (L G3) e) (L o0))) (N wh (N vm (N o0 (L o0) e) (N Cw (L o0) e)) (N vF (N B3 (L P_) e) (L Gu)))) (N sU (N v8 (N o0 (N vK (L GO) e) (N Cr (L aE) e)) (N yH (N BY (L o0) e) (L Gn))) (N uR (N o0 (N BN (L o0) e) (N CD (L Hw) e)) (N aE (N zB (L Qe) e) (L CV))))) (N sA (N (sO P) (N aE (N u_ (N y5 (L GJ) e) (N aE (L o0) e)) (N o0 (N o0 (L P2) e) (L aE))) (N uM (N sr (N (vQ P) (L PR) e) (N CA (L Qs) e)) (N o0 (N B8 (L o0) e) (L CS)))) (N vV (N o0 (N vh (N vN (L o0) e) (N o0 (L o0) e)) (N vC (N o0 (L aE) e) (L o0))) (N o0 (N aE (N o0 (L PW) e) (N CE (L Hz) e)) (N yU (N Ce (L Hg) e) (L o0))))))) (N (boot_o_6 P) (N (boot_o_10 P) (N o0 (N sE (N sW (N uZ (N aE (L CZ) e) (N zD (L Qi) e)) (N o0 (N BU (L o0) e) (L CG))) (N wd (N o0 (N vO (L aE) e) (N Cv (L aE) e)) (N yL (N B2 (L o0) e) (L Gs)))) (N (sS P) (N o0 (N aE (N o0 (L o0) e) (N o0 (L Hn) e)) (N yG (N o0 (L G5) e) (L o0))) (N uP (N su (N o0 (L aE) e) (N Gb (L o0) e)) (N vJ (N o0 (L Qd) e) (L Gy))))) (N sx (N sN (N sZ (N o0 (N y4 (L o0) e) (N Cm (L Hk) e)) (N fy (N aE (L P0) e) (L CJ))) (N o0 (N vp (N zg (L o0) e) (N Cy (L Qr) e)) (N vG (N o0 (L aE) e) (L o0)))) (N vT (N aE (N vg (N za (L aE) e) (N aE (L o0) e)) (N o0 (N aE (L G8) e) (L aE))) (N uU (N vv (N fy (L PV) e) (N Gf (L Qw) e)) (N o0 (N Cc (L o0) e) (L GC)))))) (N me (N sm (N sI (N vY (N u5 (N y0 (L o0) e) (N Ci (L aE) e)) (N yB (N zq (L o0) e) (L Gj))) (N wj (N o0 (N zd (L GU) e) (N zK (L Hs) e)) (N aE (N B5 (L Qa) e) (L CR)))) (N o0 (N v9 (N ve (N o0 (L GP) e) (N Cs (L o0) e)) (N vB (N BZ (L P6) e) (L Gp))) (N aE (N yy (N BO (L GZ) e) (N fy (L o0) e)) (N o0 (N o0 (L Hf) e) (L (CW P)))))) (N aE (N aE (N o0 (N vb (N y7 (L GK) e) (N o0 (L Ql) e)) (N yE (N zt (L aE) e) (L o0))) (N o0 (N aE (N zi (L PS) e) (N o0 (L Hv) e)) (N yO (N zA (L Hc) e) (L o0)))) (N aE (N wb (N vj (N aE (L C5) e) (N zH (L Qo) e)) (N o0 (N zy (L o0) e) (L CO))) (N uW (N o0 (N BR (L G2) e) (L aE)) (N yV (N aE (L o0) e) (L GF)))))))))
noncomputable def xK(P:Params):BT:=(N (boot_o_0 P) (N (boot_o_1 P) (N (Qx P) (N (boot_o_7 P) (N o0 (N sC (N vW (N o0 (N yW (L o0) (L o0)) (N Cf (L aE) e)) (N yA (N BS (L o0) e) (N Gh (L abE) e))) (N wc (N o0 (N zb (L C6) e) (N zI (L Hq) e)) (N aE (N zz (L P9) e) (N CP (L aE) e)))) (N sP (N v7 (N si (N o0 (L GL) (L QX)) (N Co (L o0) e)) (N yF (N zu (L P4) e) (N Gm (L abJ) e))) (N aE (N vq (N zj (L GX) e) (N aE (L o0) e)) (N o0 (N o0 (L Hd) e) (N aE (L QM) e))))) (N fy (N sJ (N o0 (N u6 (N y3 (L GI) (L aE)) (N o0 (L Qj) e)) (N vy (N o0 (L aE) e) (N o0 (L o0) e))) (N o0 (N aE (N o0 (L GV) e) (N Cx (L Ht) e)) (N yM (N o0 (L Ha) e) (N o0 (L abP) e)))) (N fy (N s8 (N vf (N aE (L C3) (L ab1)) (N zF (L Qn) e)) (N o0 (N zw (L o0) e) (N CM (L QE) e))) (N uS (N o0 (N zm (L G0) e) (N (Gd P) (L aE) e)) (N yR (N aE (L o0) e) (N CX (L QP) e)))))) (N o0 (N sa (N sF (N sX (N u0 (N yY (L o0) (L abX)) (N zE (L Hi) e)) (N aE (N o0 (L PY) e) (N CH (L Qz) e))) (N o0 (N vl (N vP (L PO) e) (N o0 (L Qp) e)) (N vE (N o0 (L aE) e) (N o0 (L QI) e)))) (N sT (N aE (N vc (N y9 (L aE) (L QY)) (N aE (L o0) e)) (N o0 (N aE (L G6) e) (N aE (L aE) e))) (N uQ (N sv (N aE (L PT) e) (N CC (L Qu) e)) (N o0 (N Ca (L o0) e) (N CU (L abS) e))))) (N sy (N fy (N o0 (N aE (N o0 (L aE) (L o0)) (N o0 (L Hl) e)) (N (yC P) (N BW (L P1) e) (N o0 (L o0) e))) (N uL (N sq (N zh (L aE) e) (N Cz (L o0) e)) (N vH (N B7 (L Qb) e) (N Gw (L aE) e)))) (N vU (N v_ (N o0 (N vM (L GQ) (L Q1)) (N Ct (L aE) e)) (N yJ (N B0 (L o0) e) (N Gq (L abM) e))) (N uV (N o0 (N (BP P) (L o0) e) (N Gg (L Hy) e)) (N aE (N Cd (L Qg) e) (N GD (L o0) e))))))) (N (boot_o_5 P) (N (boot_o_9 P) (N s_ (N sD (N vX (N uY (N o0 (L CY) (L abW)) (N Cg (L o0) e)) (N vx (N aE (L PX) e) (N Gi (L abF) e))) (N aE (N vk (N zc (L o0) e) (N aE (L o0) e)) (N o0 (N aE (L G_) e) (N aE (L o0) e)))) (N o0 (N s7 (N o0 (N y8 (L C2) (L aE)) (N Cq (L Hm) e)) (N aE (N zv (L P5) e) (N CL (L QD) e))) (N o0 (N vt (N zl (L o0) e) (N o0 (L Qt) e)) (N vI (N B_ (L aE) e) (N o0 (L o0) e))))) (N o0 (N sM (N sY (N u9 (N aE (L C1) (L QU)) (N Ck (L Qk) e)) (N o0 (N o0 (L o0) e) (N CI (L QA) e))) (N wo (N o0 (N zf (L GW) e) (N zM (L aE) e)) (N yN (N B6 (L o0) e) (N Gv (L QL) e)))) (N o0 (N o0 (N aE (N o0 (L o0) (L ab2)) (N o0 (L Hp) e)) (N yI (N o0 (L G7) e) (N o0 (L o0) e))) (N uT (N vu (N o0 (L aE) e) (N Ge (L o0) e)) (N yT (N o0 (L Qf) e) (N GB (L aE) e)))))) (N cP (N sg (N (sH P) (N aE (N sf (N yZ (L GH) (L QT)) (N aE (L o0) e)) (N o0 (N zp (L G4) e) (N aE (L aE) e))) (N wi (N vn (N aE (L PQ) e) (N zJ (L Qq) e)) (N o0 (N B4 (L o0) e) (N CQ (L o0) e)))) (N sV (N o0 (N vd (N vL (L o0) (L o0)) (N o0 (L o0) e)) (N vA (N o0 (L aE) e) (N o0 (L o0) e))) (N o0 (N aE (N o0 (L PU) e) (N o0 (L Hx) e)) (N yQ (N zC (L He) e) (N Gz (L abT) e))))) (N o0 (N o0 (N v5 (N o0 (N y6 (L o0) (L abZ)) (N Cn (L aE) e)) (N yD (N BX (L o0) e) (N Gl (L abI) e))) (N uN (N o0 (N vR (L o0) e) (N CB (L Hu) e)) (N aE (N B9 (L Qc) e) (N CT (L o0) e)))) (N o0 (N wa (N vi (N o0 (L GR) e) (N Cu (L o0) e)) (N vD (N B1 (L P8) e) (N Gr (L QH) e))) (N aE (N o0 (N BQ (L G1) e) (N o0 (L o0) e)) (N o0 (N o0 (L Hh) e) (N aE (L QQ) e)))))))) (N (sQ P) (N (boot_o_4 P) (N (boot_o_8 P) (N aE (N o0 (N o0 (N uX (N yX (L GG) (L aE)) (N o0 (L Qh) e)) (N vw (N o0 (L aE) e) (N o0 (L o0) e))) (N o0 (N aE (N o0 (L GS) e) (N o0 (L Hr) e)) (N yK (N o0 (L G9) e) (N o0 (L abN) e)))) (N sR (N s6 (N sk (N aE (L GN) (L o0)) (N Cp (L Qm) e)) (N o0 (N o0 (L o0) e) (N CK (L QC) e))) (N uO (N o0 (N zk (L GY) e) (N Ga (L aE) e)) (N yP (N aE (L o0) e) (N Gx (L QN) e))))) (N (so P) (N sL (N vZ (N u7 (N o0 (L C0) (L abY)) (N Cj (L o0) e)) (N vz (N zr (L PZ) e) (N Gk (L abH) e))) (N aE (N vo (N ze (L o0) e) (N (zL P) (L o0) e)) (N o0 (N aE (L Hb) e) (N aE (L QK) e)))) (N (vS P) (N s9 (N o0 (N y_ (L C4) (L o0)) (N zG (L Ho) e)) (N aE (N zx (L P7) e) (N CN (L QF) e))) (N o0 (N yz (N zo (L o0) e) (N o0 (L Qv) e)) (N yS (N Cb (L aE) e) (N GA (L o0) e)))))) (N abD (N sd (N sG (N o0 (N (se P) (N o0 (L aE) (L QS)) (N o0 (L Hj) e)) (N o0 (N BV (L G3) e) (N o0 (L o0) e))) (N wh (N vm (N o0 (L o0) e) (N Cw (L o0) e)) (N vF (N B3 (L P_) e) (N Gu (L QJ) e)))) (N sU (N v8 (N o0 (N vK (L GO) (L QZ)) (N Cr (L aE) e)) (N yH (N BY (L o0) e) (N Gn (L abK) e))) (N uR (N o0 (N BN (L o0) e) (N CD (L Hw) e)) (N aE (N zB (L Qe) e) (N CV (L o0) e))))) (N sA (N (sO P) (N aE (N u_ (N y5 (L GJ) (L aE)) (N aE (L o0) e)) (N o0 (N o0 (L P2) e) (N aE (L aE) e))) (N uM (N sr (N (vQ P) (L PR) e) (N CA (L Qs) e)) (N o0 (N B8 (L o0) e) (N CS (L abQ) e)))) (N vV (N o0 (N vh (N vN (L o0) e) (N o0 (L o0) e)) (N vC (N o0 (L aE) e) (N o0 (L QG) e))) (N o0 (N aE (N o0 (L PW) e) (N CE (L Hz) e)) (N yU (N Ce (L Hg) e) (N o0 (L abV) e))))))) (N (boot_o_6 P) (N (boot_o_10 P) (N o0 (N sE (N sW (N uZ (N aE (L CZ) (L o0)) (N zD (L Qi) e)) (N o0 (N BU (L o0) e) (N CG (L Qy) e))) (N wd (N o0 (N vO (L aE) e) (N Cv (L aE) e)) (N yL (N B2 (L o0) e) (N Gs (L abO) e)))) (N (sS P) (N o0 (N aE (N o0 (L o0) (L ab0)) (N o0 (L Hn) e)) (N yG (N o0 (L G5) e) (N o0 (L o0) e))) (N uP (N su (N o0 (L aE) e) (N Gb (L o0) e)) (N vJ (N o0 (L Qd) e) (N Gy (L aE) e))))) (N sx (N sN (N sZ (N o0 (N y4 (L o0) (L QV)) (N Cm (L Hk) e)) (N fy (N aE (L P0) e) (N CJ (L QB) e))) (N o0 (N vp (N zg (L o0) e) (N Cy (L Qr) e)) (N vG (N o0 (L aE) e) (N o0 (L o0) e)))) (N vT (N aE (N vg (N za (L aE) (L Q0)) (N aE (L o0) e)) (N o0 (N aE (L G8) e) (N aE (L aE) e))) (N uU (N vv (N fy (L PV) e) (N Gf (L Qw) e)) (N o0 (N Cc (L o0) e) (N GC (L abU) e)))))) (N me (N sm (N sI (N vY (N u5 (N y0 (L o0) (L o0)) (N Ci (L aE) e)) (N yB (N zq (L o0) e) (N Gj (L abG) e))) (N wj (N o0 (N zd (L GU) e) (N zK (L Hs) e)) (N aE (N B5 (L Qa) e) (N CR (L aE) e)))) (N o0 (N v9 (N ve (N o0 (L GP) (L aE)) (N Cs (L o0) e)) (N vB (N BZ (L P6) e) (N Gp (L abL) e))) (N aE (N yy (N BO (L GZ) e) (N fy (L o0) e)) (N o0 (N o0 (L Hf) e) (N (CW P) (L QO) e))))) (N aE (N aE (N o0 (N vb (N y7 (L GK) (L QW)) (N o0 (L Ql) e)) (N yE (N zt (L aE) e) (N o0 (L o0) e))) (N o0 (N aE (N zi (L PS) e) (N o0 (L Hv) e)) (N yO (N zA (L Hc) e) (N o0 (L abR) e)))) (N aE (N wb (N vj (N aE (L C5) e) (N zH (L Qo) e)) (N o0 (N zy (L o0) e) (N CO (L o0) e))) (N uW (N o0 (N BR (L G2) e) (N aE (L aE) e)) (N yV (N aE (L o0) e) (N GF (L QR) e)))))))))
end MineH
end
section
namespace MineH
open PySem PySem.W
noncomputable def ot:Env:={scope:=nN.main.scope,locals:=mainNs,globals:=mainNs,cells:=[],code:=.ref 13,frame:=ae 14}
noncomputable def jw:=behindTheImports nN
noncomputable def hV:Code:=.body jw ot
def fF(a b c d:Nat):Pos:=⟨a,b,c,d⟩
noncomputable def ij(w:World)(os:OsState)(T:Params->BT)(n tk:Nat):SharedT:=⟨T w.params,n,{},Array.mk [],{},tk,os⟩
noncomputable def cut(l:List Stmt)(a b:Nat):List Stmt:=(l.drop a).take b
theorem iU(w:World):(λos=>rd rf nN w 11 (ae (.ref 6)) 1 489 (ij w os T0 15 187) (piecesOf (cut jw 0 5) ot hV (fF 0 0 0 0) [topFrame (fF 0 0 0 0)])) =
 λos=>ae (.next,ij w os kU 54 243,hV,fF 12 0 12 8):=by kernel_rfl
theorem jg(w:World):(λos=>rd rf nN w 11 (ae (.ref 6)) 1 713 (ij w os kU 54 243) (piecesOf (cut jw 5 9) ot hV (fF 12 0 12 8) [topFrame (fF 0 0 0 0)])) =
 λos=>ae (.next,ij w os KY 180 400,hV,fF 84 0 85 96):=by kernel_rfl
theorem HI(w:World):(λos=>rd rf nN w 11 (ae (.ref 6)) 1 705 (ij w os KY 180 400) (piecesOf (cut jw 14 5) ot hV (fF 84 0 85 96) [topFrame (fF 0 0 0 0)])) =
 λos=>ae (.next,ij w os KZ 306 550,hV,fF 98 0 156 16):=by kernel_rfl
theorem acj(w:World):(λos=>rd rf nN w 11 (ae (.ref 6)) 1 718 (ij w os KZ 306 550) (piecesOf (cut jw 19 3) ot hV (fF 98 0 156 16) [topFrame (fF 0 0 0 0)])) =
 λos=>ae (.next,ij w os K0 430 722,hV,fF 162 0 242 88):=by kernel_rfl
theorem ack(w:World):(λos=>rd rf nN w 11 (ae (.ref 6)) 1 689 (ij w os K0 430 722) (piecesOf (cut jw 22 9) ot hV (fF 162 0 242 88) [topFrame (fF 0 0 0 0)])) =
 λos=>ae (.next,ij w os K1 544 897,hV,fF 360 0 374 52):=by kernel_rfl
theorem acm(w:World):(λos=>rd rf nN w 11 (ae (.ref 6)) 1 708 (ij w os K1 544 897) (piecesOf (cut jw 31 25) ot hV (fF 360 0 374 52) [topFrame (fF 0 0 0 0)])) =
 λos=>ae (.next,ij w os K2 701 1095,hV,fF 545 0 555 27):=by kernel_rfl
theorem acn(w:World):(λos=>rd rf nN w 11 (ae (.ref 6)) 1 443 (ij w os K2 701 1095) (piecesOf (cut jw 56 15) ot hV (fF 545 0 555 27) [topFrame (fF 0 0 0 0)])) =
 λos=>ae (.next,ij w os xK 796 1217,hV,fF 716 0 725 15):=by kernel_rfl
end MineH
end
section
namespace MineH
open PySem PySem.W
abbrev iV:Program:=nN
noncomputable abbrev TT:=rf
abbrev an:Option Value:=ae (.ref 6)
noncomputable def xk:Program:={iV with main:={iV.main with body:=[top 70]}}
noncomputable def lo:List Str:=[mn,kn,kq,kL,ny,nz,nA,nC,nD,nE,oN,oO,oP,lC,pM,mj,qV,nv,qW,qX,qY,qZ,q0,tA,tB,tC,tD,tF,tG,tH,tI,tJ,tK,tL,tM,tO,tP,tQ,tR,tS,tT,tU,tV,tW,tX,wF,wG,wH,wI,wJ,wK,wL,wM,wN,wO,wQ,wU,wV,wW]
noncomputable def rC(P:Params):Heap:=absHeap (xK P) 796 {}
noncomputable def Er(w:World)(os:OsState):Shared:=⟨boot_heap w.params,Array.mk [],boot_drawn,boot_toks,os⟩
theorem pre(w:World):(λos=>agG TT iV w 11 an 12 (Er w os) (topStub iV))=λos=>ae ((ij w os T0 15 187).abs,⟨agH TT hV,hV,fF 0 0 0 0,[topFrame (fF 0 0 0 0)]⟩):=by kernel_rfl
theorem V9(w:World)(os:OsState):segRun TT iV w 11 an 1 1 (ij w os T0 15 187).abs (blockOf jw ot hV (fF 0 0 0 0) [topFrame (fF 0 0 0 0)])=ae (.next,(ij w os T0 15 187).abs,hV,fF 0 0 0 0):=by kernel_rfl
theorem fin(w:World)(os:OsState):topRun TT iV w 11 an 2 (ij w os xK 796 1217).abs (restOf [] ot hV (fF 716 0 725 15) [topFrame (fF 0 0 0 0)])=ae (ij w os xK 796 1217).abs:=by kernel_rfl
theorem aX{w:World}{n:Nat}{A A':OsState->SharedT}{t:Thread}{f:Flow}{c:Code}{q:Pos}(h:(λos=>rd TT iV w 11 an 1 n (A os) t)=λos=>ae (f,A' os,c,q))(os:OsState):
 segRun TT iV w 11 an 1 n (A os).abs t=ae (f,(A' os).abs,c,q):=segRun_of (by rw[agI];exact congrFun h os)
theorem U2:jw=cut jw 0 5++(cut jw 5 9++(cut jw 14 5++(cut jw 19 3++(cut jw 22 9++(cut jw 31 25++(cut jw 56 15++[])))))):=by kernel_rfl
theorem ac4(w:World)(os:OsState):topRun TT iV w 11 an (12+(1+(489+(713+(705+(718+(689+(708+(443+2))))))))) (Er w os) (topStub iV)=ae (ij w os xK 796 1217).abs:=by
 refine go_top (t':=⟨denote TT hV,hV,fF 0 0 0 0,[topFrame (fF 0 0 0 0)]⟩) (by rw[agJ,agK];exact congrFun (pre w) os) (piece_block (V9 w os) ?_);rw[U2];exact piece_app (aX (iU w) os) (piece_app (aX (jg w) os) (piece_app (aX (HI w) os) (piece_app (aX (acj w) os) (piece_app (aX (ack w) os) (piece_app (aX (acm w) os) (piece_app (aX (acn w) os) (fin w os)))))))
theorem ac5(w:World)(os:OsState):topRun treeTable iV w 11 an 4480 (Er w os) (topStub iV)=ae ⟨rC w.params,Array.mk [],{},1217,os⟩:=by
 rw[agL];exact ac4 w os
theorem h2:∀w:World,(fencedOpening treeTable iV w 9042).map (λs=>(s.heap,s.gens,s.drawn,s.toks))=ae (boot_heap w.params,Array.mk [],boot_drawn,boot_toks):=
 boot_open (by kernel_rfl) (by kernel_rfl) (λs=>by kernel_rfl)
theorem aeT (w:World):((boot_heap w.params).isNs nW&&(Array.mk []:Array GenState).size==0,(boot_heap w.params).objs.size,(boot_heap w.params).nsMap nW "__annotations__")=(aB,11,an):=by kernel_rfl
end MineH
end
section
namespace MineH
open PySem PySem.W PySem.Calls PyProof.Rows
noncomputable def KF(P:Params):Frag:=[(3,Qx P),(66,sW),(67,sX),(73,sY),(74,sZ),(80,s6),(81,s7),(87,s8),(88,s9),(132,se P),(133,sf),(143,si),(144,sk),(171,sq),(172,sr),(178,su),(179,sv),(185,vu),(186,vv),(192,vw),(193,vx),(199,vy),(200,vz),(213,vA),(214,vB),(220,vC),(221,vD),(227,vE),(228,vF),(234,vG),(235,vH),(241,vI),(242,vJ),(276,vK),(277,vL),(283,vM),(284,vN),(290,vO),(291,vP),(300,vQ P),(301,vR),(311,zm),(312,zo),(325,zp),(326,zq),(327,o0),(328,zr),(334,zt),(335,zu),(336,o0),(337,zv),(343,zw),(344,zx),(350,zy),(351,zz),(366,zA),(372,zB),(373,zC),(386,zD),(387,zE),(407,zF),(408,zG),(414,zH),(415,zI),(421,zJ),(422,zK),(424,zL P),(425,zM),(435,CC),(436,CD),(444,CE),(450,CG),(451,CH),(457,CI),(458,CJ),(464,CK),(465,CL),(471,CM),(472,CN),(478,CO),(479,CP),(485,CQ),(486,CR),(492,CS),(493,CT),(499,CU),(500,CV),(502,CW P),(503,CX),(513,CY),(514,CZ),(520,C0),(521,C1),(529,C2),(535,C3),(536,C4),(542,C5),(543,C6),(544,GS),(550,GU),(551,GV),(552,o0),(553,GW),(559,GX),(560,GY),(566,GZ),(567,G0),(573,G1),(574,G2),(580,G3),(581,G4),(594,G5),(595,G6),(601,G7),(602,G8),(608,G9),(609,G_),(615,Ha),(616,Hb),(622,Hc),(623,Hd),(629,He),(630,Hf),(636,Hg),(637,Hh),(643,Hi),(644,Hj),(650,Hk),(651,Hl),(657,Hm),(658,Hn),(664,Ho),(665,Hp),(671,Hq),(672,Hr),(678,Hs),(679,Ht),(685,Hu),(686,Hv),(692,Hw),(693,Hx),(699,Hy),(700,Hz),(706,Qy),(707,Qz),(713,QA),(714,QB),(720,QC),(721,QD),(727,QE),(728,QF),(732,QG),(733,QH),(739,QI),(740,QJ),(744,QK),(745,QL),(751,QM),(752,QN),(758,QO),(759,QP),(765,QQ),(766,QR),(772,QS),(773,QT),(777,QU),(778,QV),(782,QW),(783,QX),(787,QY),(788,QZ),(794,Q0),(795,Q1)]
noncomputable def Eg:List Addr:=[3,66,67,73,74,80,81,87,88,132,133,143,144,171,172,178,179,185,186,192,193,199,200,213,214,220,221,227,228,234,235,241,242,276,277,283,284,290,291,300,301,311,312,325,326,327,328,334,335,336,337,343,344,350,351,366,372,373,386,387,407,408,414,415,421,422,424,425,435,436,444,450,451,457,458,464,465,471,472,478,479,485,486,492,493,499,500,502,503,513,514,520,521,529,535,536,542,543,544,550,551,552,553,559,560,566,567,573,574,580,581,594,595,601,602,608,609,615,616,622,623,629,630,636,637,643,644,650,651,657,658,664,665,671,672,678,679,685,686,692,693,699,700,706,707,713,714,720,721,727,728,732,733,739,740,744,745,751,752,758,759,765,766,772,773,777,778,782,783,787,788,794,795]
theorem Uv(P:Params):Eg=(KF P).map (·.1):=by kernel_rfl
noncomputable abbrev a7:Hook:=kHook KF Eg Uv
noncomputable abbrev fG:RowW:=AD.row.toRowW
noncomputable abbrev K3(s:Shared):Bool:=recOk (RowW.records fG) s
noncomputable def KW(w:World)(os:OsState):Shared:=⟨rC w.params,Array.mk [],{},1217,os⟩
theorem aaH(w:World)(os:OsState):staticsOk (Sw iV.main.body) (boot_heap w.params) (rC w.params)=true:=by kernel_rfl
theorem aaI(w:World)(os:OsState):namesBound iV (rC w.params)=true:=by kernel_rfl
theorem aaJ(w:World)(os:OsState):gensDone (KW w os)=true:=by kernel_rfl
theorem aaK(w:World)(os:OsState):laidKept (boot_heap w.params) (rC w.params)=true:=by kernel_rfl
theorem aaL(w:World)(os:OsState):Eg.map (rC w.params).get?=(KF w.params).map λp=>ae p.2:=by kernel_rfl
theorem aaM(w:World)(os:OsState):agW xk lo (Sw iV.main.body) K3 aB (KW w os)=openGood xk lo:=by kernel_rfl
end MineH
end
section
namespace MineH
open PySem PySem.W PySem.Calls PyProof.Rows
theorem left:LeftO iV xk lo K3 a7.obs a7.val 9042:=LeftO.of_pieces h2 aeT ac5 (by decide +kernel) λw=>by
 funext os;rw[agX,agY];show((_&&_&&_&&_),_,_)=_;rw[aaH w os,aaI w os,show gensDone (⟨rC w.params,Array.mk [],{},1217,os⟩:Shared)=aB from aaJ w os,aaK w os];exact Ub rfl (Ub (aaM w os) (aaL w os))
noncomputable def dl:DefRec:={name:=E7 (top 70),params:=E5 (top 70),body:=E6 (top 70),scope:=E9 (top 70),pos:=⟨716,0,725,15⟩}
theorem W2:defOf xk fG.name=ae (dl,[]):=by kernel_rfl
theorem W3:iV.theDef fG.name=ae (dl.params,dl.body,dl.scope):=by rw[agM];kernel_rfl
theorem W4:kwWritten? dl.params.kwonlyargs dl.params.kw_defaults=ae []:=by kernel_rfl
theorem ab3:(chainsOk xk&&opensWell iV&&(frees fG&&fG.within.isEmpty))=true:=by kernel_rfl
set_option maxHeartbeats 4000000 in
theorem ad1:AD.wellSaid=true:=by
 rw[agZ];delta ag0 agN ag1 agO;repeat with_reducible refine look_both ?_ ?_
 all_goals decide +kernel
theorem wit:AD.row.toRowW.promised:=by w_witness2
theorem holds(hc:WalkO xk lo (λ_ _=>True) a7.says fG dl [] λf vs=>PySem.call f vs):AD.Holds:=
 holds_law ad1 λk1=>holds_open left a7.of a7.keeps (λ_ _=>trivial) (λ_ _ _ _ _=>trivial) W2 W3 W4 (λ_ e=>recFacts_of e) rfl k1 ab3 ⟨rfl,rfl,rfl,rfl,rfl,by decide +kernel⟩ wit hc
end MineH
end
section
set_option genInjectivity false
set_option genSizeOf false
namespace Mine
open PySem
abbrev aw:=List Nat
inductive V where
 | N | B (b:Bool) | I (i:Int) | S (s:aw) | R (n:Nat) | A (a:Nat) | T | C (xs:List Int)
 deriving DecidableEq
inductive O where
 | L (xs:List V) | T (xs:List V) | S (es:List (aw×V)) | I (es:List (Int×V)) | A (c:Nat) (cy:List (Nat×V))
 deriving DecidableEq
abbrev H:=List O
abbrev bJ:=List (Option V)
inductive js where | A | S | B | M | F
inductive n3 where | E | N | L | F | G | B | I | A | C | D
mutual
inductive ck where
 | L (i:Nat) | C (v:V) | B (e:ck) (a:Nat) | I (e i:ck) | S (e lo hi:ck)
 | F (o:js) (a b:ck) | A (o:n3) (a b:ck) | G (a b:ck) | W (a b c:ck) | O (a b:ck) | N (a:ck) | R (t a b:ck)
 | J (x:Nat) (elt it cond:ck) | X (x:Nat) (elt n cond:ck)
 | T (es:hJ) | E (es:hJ) | Q (ks:List aw) (es:hJ) | Z
 | D (f:ck) (es:hJ) | M (e:ck) (a:Nat) (es:hJ)
 | H (l x:ck) | U (l:ck) | ins (l i x:ck) | rO (d k x:ck) | Y (s:ck)
 | K (e:ck) | r5 (e:ck) | str (e:ck) | qK (e:ck)
 | P (e:ck) | iso (f:Nat) (e:ck) | V
inductive hJ where
 | N | C (e:ck) (es:hJ)
end
mutual
inductive kA where
 | E (e:ck) | A (i:Nat) (e:ck) | B (o:ck) (a:Nat) (e:ck) | C (o i e:ck) | D (i j:Nat) (e:ck)
 | J (i:Nat) (o:js) (e:ck) | I (t:ck) (a b:bN) | W (t:ck) (b:bN)
 | F (i:Nat) (it:ck) (b:bN) | G (i:Nat) (n:ck) (b:bN) | H (i:Nat) (lo:ck) (b:bN)
 | R (e:ck) | L | K
inductive bN where
 | N | C (s:kA) (ss:bN)
end
inductive dm where | N | B | R (v:V)
structure cE where
 np:Nat
 nl:Nat
 gi:List V
 body:bN
structure gM where
 fn:Nat->Option cE
 cls:Nat->Option Nat
 r6:Nat->Nat->Option Nat
noncomputable def aK:Nat:=100000
noncomputable def V.gG:V->Option Nat | .R n=>ae n | _=>D3
noncomputable def V.fX:V->Option Int | .I i=>ae i | _=>D3
noncomputable def V.pP:V->Option aw | .S s=>ae s | _=>D3
noncomputable def V.XI:V->Option Nat | .A a=>ae a | _=>D3
noncomputable def O.yl:O->Option (List V) | .L xs=>ae xs | _=>az
noncomputable def O.xc:O->Option (List V) | .T xs=>ae xs | _=>az
noncomputable def O.kf:O->Option (List V) | .L xs=>ae xs | .T xs=>ae xs | _=>az
noncomputable def O.NA:O->Option (List (aw×V)) | .S es=>ae es | _=>az
noncomputable def O.c?:O->Option (Nat×List (Nat×V)) | .A c cy=>ae (c,cy) | _=>az
noncomputable def DF:List V->Option (V×V) | [x,y]=>ae (x,y) | _=>az
noncomputable def B{bg dR:Type}(x:Option (dR×H))(k:dR->H->Option bg):Option bg:=x.bind λp=>k p.1 p.2
noncomputable def ok{dR:Type}(h:H)(o:Option dR):Option (dR×H):=o.map λr=>(r,h)
noncomputable def zN(h:H)(o:Option Bool):Option (V×H):=o.map λr=>(.B r,h)
def truthy(h:H):V->Option Bool
 | .B b=>ae b
 | .R n=>h[n]?.bind λo=>o.yl.bind λxs=>if xs.length<aK then ae (!xs.isEmpty)else az
 | _=>az
def ff(x:Option (V×H)):Option (Bool×H):=B x λv h=>ok h (truthy h v)
def Fs(h:H)(v:V)(a:Nat):Option V:=v.gG.bind λn=>h[n]?.bind λo=>o.c?.bind λc=>c.2.lookup a
def gc(xs:List V)(i:Int):Option V:=if xs.length<aK then(if 0<=i then xs[i.toNat]? else if 0<=i+xs.length then xs[(i+xs.length).toNat]? else az)else az
def O.at:O->V->Option V
 | .L xs,k=>k.fX.bind (gc xs)
 | .T xs,k=>k.fX.bind (gc xs)
 | .S es,k=>k.pP.bind λs=>es.lookup s
 | .I es,k=>k.fX.bind λi=>es.lookup i
 | .A _ _,_=>az
def qH(h:H)(v k:V):Option V:=match v with
 | .C xs=>k.fX.bind λi=>if 0<=i/\xs.length<aK then(xs[i.toNat]?).map .I else az
 | .R n=>h[n]?.bind λo=>o.at k
 | _=>az
noncomputable def mZ(i:Int)(n:Nat):Nat:=if i<0 then n-(-i).toNat else min i.toNat n
def Pa(n:Nat):V->Option Nat
 | .N=>ae 0
 | .I i=>ae (mZ i n)
 | _=>az
def Ov(n:Nat):V->Option Nat
 | .N=>ae n
 | .I i=>ae (mZ i n)
 | _=>az
def k8(xs:List V)(lo hi:V):Option (List V):=if xs.length<aK then(Pa xs.length lo).bind λl=>(Ov xs.length hi).map λu=>(xs.take u).drop l else az
noncomputable def gF(h:H)(o:O):V×H:=(.R h.length,h++[o])
def O.cut(h:H)(v lo hi:V):O->Option (V×H)
 | .L xs=>(k8 xs lo hi).map λys=>gF h (.L ys)
 | .T xs=>hi.fX.bind λu=>if lo=.N then(if xs.length<aK/\0<=u then(if u<xs.length then ae (gF h (.T (xs.take u.toNat)))else ae (v,h))else az)else az
 | _=>az
def z8(h:H)(v lo hi:V):Option (V×H):=v.gG.bind λn=>h[n]?.bind (O.cut h v lo hi)
def O.add(h:H):O->O->Option (V×H)
 | .L xs,p=>p.yl.bind λys=>if xs.length<aK/\ys.length<aK then ae (gF h (.L (xs++ys)))else az
 | .T xs,p=>p.xc.bind λys=>if 0<xs.length/\0<ys.length/\xs.length<aK/\ys.length<aK then ae (gF h (.T (xs++ys)))else az
 | _,_=>az
def La(h:H)(x y:V):Option (V×H):=match x with
 | .I a=>y.fX.map λb=>(.I (a+b),h)
 | .S a=>y.pP.bind λb=>if a.length<aK/\b.length<aK then ae (.S (a++b),h)else az
 | .R a=>y.gG.bind λb=>h[a]?.bind λo=>h[b]?.bind λp=>o.add h p
 | _=>az
noncomputable def arith:js->Int->Int->Option Int
 | .A,_,_=>az
 | .S,a,b=>ae (a-b)
 | .B,a,b=>if a.natAbs<1000/\b.natAbs<1000 then ae (a*b)else az
 | .M,a,b=>if 0<b then ae (a % b)else az
 | .F,a,b=>if 0<b/\b<1000 then ae (a / b)else az
def PN(o:js)(h:H)(x y:V):Option (V×H):=x.fX.bind λa=>y.fX.bind λb=>ok h ((arith o a b).map .I)
def i6(o:js)(h:H)(x y:V):Option (V×H):=match o with
 | .A=>La h x y
 | _=>PN o h x y
def t8:V->V->Option Bool
 | .S a,y=>y.pP.map λb=>decide (a=b)
 | .I a,y=>y.fX.map λb=>decide (a=b)
 | _,_=>az
noncomputable def O.cF(f:V->Option PyData):O->Option PyData
 | .L xs=>(xs.mapM f).map .list
 | .T xs=>(xs.mapM f).map .tuple
 | _=>az
noncomputable def cF(h:H):Nat->V->Option PyData
 | _,.N=>ae .none
 | _,.B b=>ae (.bool b)
 | _,.I i=>ae (.int i)
 | _,.S s=>ae (.str ⟨s.toArray⟩)
 | n+1,.R a=>h[a]?.bind (O.cF (cF h n))
 | _,_=>az
noncomputable def jG(d:PyData):Bool:=d.canLay0&&decide (d.depth<=64)
noncomputable def O.fk:O->O->Bool
 | .I [],.S []=>aB
 | _,_=>aP
def Fc(h:H)(a b:Nat):Option Bool:=h[a]?.bind λo=>h[b]?.bind λp=>bif o.fk p then ae aB else
 (cF h 60 (.R a)).bind λd=>(cF h 60 (.R b)).bind λe=>if (jG d&&jG e)=aB then ae (q_ d e)else az
def Fe(h:H)(x y:V):Option Bool:=match x with
 | .S a=>y.pP.map λb=>decide (a=b)
 | .I a=>y.fX.map λb=>decide (a=b)
 | .B a=>match y with | .B b=>ae (decide (a=b)) | _=>az
 | .R a=>y.gG.bind (Fc h a)
 | _=>az
def rH(x:V)(xs:List V):Option Bool:=(xs.mapM (t8 x)).map λl=>l.any id
def O.has(x:V):O->Option Bool
 | .L xs=>rH x xs
 | .T xs=>rH x xs
 | .S es=>x.pP.map λs=>(es.lookup s).isSome
 | .I es=>x.fX.map λs=>(es.lookup s).isSome
 | .A _ _=>az
def Fz(h:H)(x c:V):Option Bool:=c.gG.bind λn=>h[n]?.bind (O.has x)
noncomputable def ltB:n3->Int->Int->Bool
 | .L,a,b=>decide (a<b)
 | .F,a,b=>decide (a<=b)
 | .G,a,b=>decide (b<a)
 | _,a,b=>decide (b<=a)
def cD(o:n3)(h:H)(x y:V):Option Bool:=match o with
 | .E=>Fe h x y
 | .N=>(Fe h x y).map (!·)
 | .I=>Fz h x y
 | .A=>(Fz h x y).map (!·)
 | .C=>if y=.N then ae (decide (x=.N))else az
 | .D=>if y=.N then ae (!decide (x=.N))else az
 | o=>x.fX.bind λa=>y.fX.map λb=>ltB o a b
noncomputable def gm{bg:Type}[BEq bg](k:bg)(v:V):List (bg×V)->List (bg×V)
 | []=>[(k,v)]
 | e::r=>if k==e.1 then(e.1,v)::r else e::gm k v r
def w7(h:H)(v:V)(a:Nat)(x:V):Option H:=v.gG.bind λn=>h[n]?.bind λo=>o.c?.bind λc=>if c.2.length<100 then ae (h.set n (.A c.1 (gm a x c.2)))else az
def z7(xs:List V)(i:Int)(x:V):Option (List V):=
 if xs.length<aK then(if 0<=i then(if i.toNat<xs.length then ae (xs.set i.toNat x)else az)else if 0<=i+xs.length then ae (xs.set (i+xs.length).toNat x)else az)else az
def O.put:O->V->V->Option O
 | .L xs,k,x=>k.fX.bind λi=>(z7 xs i x).map .L
 | .S es,k,x=>k.pP.bind λs=>if es.length<aK then ae (.S (gm s x es))else az
 | .I es,k,x=>k.fX.bind λi=>if es.length<aK then ae (.I (gm i x es))else az
 | _,_,_=>az
def oR(h:H)(v k x:V):Option H:=v.gG.bind λn=>h[n]?.bind λo=>(o.put k x).map λp=>h.set n p
def lst(h:H)(n:Nat):Option (List V):=h[n]?.bind O.yl
def x6(h:H)(n:Nat):Option (List (aw×V)):=h[n]?.bind O.NA
noncomputable def qJ(n:Nat):V->Bool
 | .R m=>decide (n<=m)
 | _=>aP
noncomputable def isInt:V->Bool
 | .I _=>aB
 | _=>aP
noncomputable def Ab(i:Int):Option aw:=if i.natAbs<1000 then ae (mF (toString i)).cps.toList else az
noncomputable def nH(t:aw):List aw:=if (nO ⟨t.toArray⟩ (t.length+1)==[(0,t.length)])=aB then[t]else(TH ⟨t.toArray⟩).map (·.cps.toList)
def lenOf(h:H):V->Option Nat
 | .C xs=>ae xs.length
 | .R n=>(lst h n).map ud
 | _=>az
def itemsOf(h:H):V->Option (List V)
 | .T=>ae []
 | .R n=>h[n]?.bind O.kf
 | _=>az
def Z_(h:H):V->Option Bool
 | .S _=>ae aB
 | .R n=>(lst h n).map λ_=>aP
 | _=>az
section
variable(P:gM)(cl:Nat->List V->H->Option (V×H))
noncomputable def l7(elt:V->H->Option (V×H))(cond:V->H->Option (Bool×H))(same:H->Bool):List V->List V->H->Option (List V×H)
 | [],acc,h=>if same h=aB then ae (acc,h)else az
 | x::xs,acc,h=>if same h=aB then B (cond x h) λb h=>bif b then B (elt x h) λy h=>if acc.length<aK then l7 elt cond same xs (acc++[y]) h else az else l7 elt cond same xs acc h else az
noncomputable def fZ(n:Int):List V:=(nM n.toNat).map λi=>V.I (pW i)
def xM(o:js)(x y:V):Option V:=x.fX.bind λa=>y.fX.bind λb=>match o with
 | .A=>ae (.I (a+b))
 | .S=>ae (.I (a-b))
 | _=>az
mutual
noncomputable def aS:ck->bJ->H->Option (V×H)
 | .L i,fr,h=>ok h (fr[i]?.bind id)
 | .C v,_,h=>ae (v,h)
 | .B e a,fr,h=>B (aS e fr h) λv h=>ok h (Fs h v a)
 | .I e i,fr,h=>B (aS e fr h) λv h=>B (aS i fr h) λk h=>ok h (qH h v k)
 | .S e lo hi,fr,h=>B (aS e fr h) λv h=>B (aS lo fr h) λl h=>B (aS hi fr h) λu h=>z8 h v l u
 | .F o a b,fr,h=>B (aS a fr h) λx h=>B (aS b fr h) λy h=>i6 o h x y
 | .A o a b,fr,h=>B (aS a fr h) λx h=>B (aS b fr h) λy h=>zN h (cD o h x y)
 | .G a b,fr,h=>B (aS a fr h) λx h=>(truthy h x).bind λt=>bif t then aS b fr h else ae (x,h)
 | .W a b c,fr,h=>B (aS a fr h) λx h=>(truthy h x).bind λt=>bif t then B (aS b fr h) λx h=>(truthy h x).bind λt=>bif t then aS c fr h else ae (x,h)else ae (x,h)
 | .O a b,fr,h=>B (aS a fr h) λx h=>(truthy h x).bind λt=>bif t then ae (x,h)else aS b fr h
 | .N a,fr,h=>B (ff (aS a fr h)) λt h=>ae (.B (!t),h)
 | .R t a b,fr,h=>B (ff (aS t fr h)) λt h=>bif t then aS a fr h else aS b fr h
 | .J x elt it cond,fr,h=>B (aS it fr h) λv h=>v.gG.bind λn=>h[n]?.bind λo=>o.kf.bind λxs=>
  B (l7 (λy h=>aS elt (fr.set x (ae y)) h) (λy h=>ff (aS cond (fr.set x (ae y)) h)) (λh=>decide (h[n]?=ae o)) xs [] h) λys h=>ae (gF h (.L ys))
 | .X x elt n cond,fr,h=>B (aS n fr h) λv h=>v.fX.bind λk=>if 0-100000<=k/\k<100000 then
  B (l7 (λy h=>aS elt (fr.set x (ae y)) h) (λy h=>ff (aS cond (fr.set x (ae y)) h)) (λ_=>aB) (fZ k) [] h) λys h=>ae (gF h (.L ys))else az
 | .T es,fr,h=>B (iw es fr h) λvs h=>if vs.length<aK then ae (gF h (.T vs))else az
 | .E es,fr,h=>B (iw es fr h) λvs h=>if vs.length<aK then ae (gF h (.L vs))else az
 | .Q ks es,fr,h=>B (iw es fr h) λvs h=>if vs.length=ks.length then ae (gF h (.S (ks.zip vs)))else az
 | .Z,_,h=>ae (gF h (.I []))
 | .D f es,fr,h=>B (aS f fr h) λv h=>B (iw es fr h) λvs h=>v.XI.bind λa=>cl a vs h
 | .M e a es,fr,h=>B (aS e fr h) λv h=>v.gG.bind λn=>h[n]?.bind λo=>o.c?.bind λc=>if c.2.lookup a=az then(P.r6 c.1 a).bind λf=>B (iw es fr h) λvs h=>cl f (.R n::vs) h else az
 | .H l x,fr,h=>B (aS l fr h) λv h=>v.gG.bind λn=>(lst h n).bind λ_=>B (aS x fr h) λy h=>(lst h n).bind λxs=>if xs.length<aK then ae (.N,h.set n (.L (xs++[y])))else az
 | .U l,fr,h=>B (aS l fr h) λv h=>v.gG.bind λn=>(lst h n).bind λxs=>if xs.length<aK then xs.getLast?.map λy=>(y,h.set n (.L xs.dropLast))else az
 | .ins l i x,fr,h=>B (aS l fr h) λv h=>v.gG.bind λn=>(lst h n).bind λ_=>B (aS i fr h) λk h=>B (aS x fr h) λy h=>(lst h n).bind λxs=>
  if k=.I xs.length/\xs.length<aK then ae (.N,h.set n (.L (xs++[y])))else az
 | .rO d k x,fr,h=>B (aS d fr h) λv h=>v.gG.bind λn=>(x6 h n).bind λ_=>B (aS k fr h) λk h=>B (aS x fr h) λy h=>(x6 h n).bind λes=>k.pP.bind λs=>ae ((es.lookup s).getD y,h)
 | .Y s,fr,h=>B (aS s fr h) λv h=>v.pP.bind λt=>if t.length<1000/\(nO ⟨t.toArray⟩ (t.length+1)).length<1000 then ae (gF h (.L ((nH t).map .S)))else az
 | .K e,fr,h=>B (aS e fr h) λv h=>(lenOf h v).bind λn=>if n<aK then ae (.I n,h)else az
 | .r5 e,fr,h=>B (aS e fr h) λv h=>(itemsOf h v).bind λxs=>if xs.length<aK then ae (gF h (.L xs))else az
 | .str e,fr,h=>B (aS e fr h) λv h=>v.fX.bind λi=>ok h ((Ab i).map .S)
 | .qK e,fr,h=>B (aS e fr h) λv h=>zN h (Z_ h v)
 | .P e,fr,h=>B (aS e fr h) λv h'=>if h'.take h.length=h/\qJ h.length v=aP then ae (v,h)else az
 | .iso f e,fr,h=>B (aS e fr h) λv h=>v.gG.bind λn=>(lst h n).bind λxs=>if xs.all isInt=aB then B (cl f [.R 0] [.L xs]) λr h'=>if h'[0]?=ae (.L xs)/\qJ 0 r=aP then ae (r,h)else az else az
 | .V,_,_=>az
noncomputable def iw:hJ->bJ->H->Option (List V×H)
 | .N,_,h=>ae ([],h)
 | .C e es,fr,h=>B (aS e fr h) λv h=>B (iw es fr h) λvs h=>ae (v::vs,h)
end
noncomputable def kz{bg:Type}(x:Option (dm×bJ×H))(k:dm->bJ->H->Option bg):Option bg:=x.bind λp=>k p.1 p.2.1 p.2.2
noncomputable def dm.on(fr:bJ)(h:H)(x:Option (dm×bJ×H)):dm->Option (dm×bJ×H)
 | .N=>x
 | .B=>ae (.N,fr,h)
 | .R v=>ae (.R v,fr,h)
noncomputable def dm.go(fr:bJ)(h:H)(x:Option (dm×bJ×H)):dm->Option (dm×bJ×H)
 | .N=>x
 | .B=>ae (.B,fr,h)
 | .R v=>ae (.R v,fr,h)
noncomputable def BF(test:bJ->H->Option (Bool×H))(body:bJ->H->Option (dm×bJ×H)):Nat->bJ->H->Option (dm×bJ×H)
 | 0,_,_=>az
 | n+1,fr,h=>B (test fr h) λb h=>bif b then kz (body fr h) λf fr h=>f.on fr h (BF test body n fr h)else ae (.N,fr,h)
noncomputable def uI(i:Nat)(body:bJ->H->Option (dm×bJ×H))(same:H->Bool):List V->bJ->H->Option (dm×bJ×H)
 | [],fr,h=>if same h=aB then ae (.N,fr,h)else az
 | x::xs,fr,h=>if same h=aB then kz (body (fr.set i (ae x)) h) λf fr h=>f.on fr h (uI i body same xs fr h)else az
noncomputable def oo(a:Int):List V:=((nM (a+1).toNat).map λi=>V.I (pW i)).reverse
noncomputable def wf:Nat:=500
mutual
noncomputable def cH:kA->bJ->H->Option (dm×bJ×H)
 | .E e,fr,h=>B (aS P cl e fr h) λ_ h=>ae (.N,fr,h)
 | .A i e,fr,h=>B (aS P cl e fr h) λv h=>ae (.N,fr.set i (ae v),h)
 | .B o a e,fr,h=>B (aS P cl e fr h) λx h=>B (aS P cl o fr h) λv h=>(w7 h v a x).map λh=>(.N,fr,h)
 | .C o i e,fr,h=>B (aS P cl e fr h) λx h=>B (aS P cl o fr h) λv h=>B (aS P cl i fr h) λk h=>(oR h v k x).map λh=>(.N,fr,h)
 | .D i j e,fr,h=>B (aS P cl e fr h) λv h=>v.gG.bind λn=>h[n]?.bind λo=>o.xc.bind λl=>(DF l).map λq=>(.N,(fr.set i (ae q.1)).set j (ae q.2),h)
 | .J i o e,fr,h=>(fr[i]?.bind id).bind λx=>B (aS P cl e fr h) λy h=>(xM o x y).map λz=>(.N,fr.set i (ae z),h)
 | .I t a b,fr,h=>B (ff (aS P cl t fr h)) λt h=>bif t then b3 a fr h else b3 b fr h
 | .W t b,fr,h=>BF (λfr h=>ff (aS P cl t fr h)) (λfr h=>b3 b fr h) wf fr h
 | .F i it b,fr,h=>B (aS P cl it fr h) λv h=>v.gG.bind λn=>h[n]?.bind λo=>o.kf.bind λxs=>uI i (λfr h=>b3 b fr h) (λh=>decide (h[n]?=ae o)) xs fr h
 | .G i n b,fr,h=>B (aS P cl n fr h) λv h=>v.fX.bind λk=>if 0-100000<=k/\k<100000 then uI i (λfr h=>b3 b fr h) (λ_=>aB) (fZ k) fr h else az
 | .H i lo b,fr,h=>B (aS P cl lo fr h) λv h=>v.fX.bind λk=>if -1<=k/\k<100000 then uI i (λfr h=>b3 b fr h) (λ_=>aB) (oo k) fr h else az
 | .R e,fr,h=>B (aS P cl e fr h) λv h=>ae (.R v,fr,h)
 | .L,fr,h=>ae (.B,fr,h)
 | .K,_,_=>az
noncomputable def b3:bN->bJ->H->Option (dm×bJ×H)
 | .N,fr,h=>ae (.N,fr,h)
 | .C s ss,fr,h=>kz (cH s fr h) λf fr h=>f.go fr h (b3 ss fr h)
end
end
noncomputable def xR(fn:cE)(args:List V):Option bJ:=
 if args.length<=fn.np/\fn.np<=args.length+fn.gi.length then ae ((args++fn.gi.drop (fn.gi.length-(fn.np-args.length))).map ae++List.replicate (fn.nl-fn.np) az)else az
noncomputable def C9:dm->H->Option (V×H)
 | .R v,h=>ae (v,h)
 | .N,h=>ae (.N,h)
 | .B,_=>az
noncomputable def Pj(n:Nat):V->H->Option (V×H)
 | .N,h=>ae (.R n,h)
 | _,_=>az
noncomputable def aA(P:gM):Nat->Nat->List V->H->Option (V×H)
 | 0,_,_,_=>az
 | k+1,f,args,h=>match P.fn f with
  | some fn=>(xR fn args).bind λfr=>kz (b3 P (aA P k) fn.body fr h) λf _ h=>C9 f h
  | none=>(P.cls f).bind λi=>B (aA P k i (.R h.length::args) (h++[.A f []])) λv h'=>Pj h.length v h'
noncomputable abbrev aR:aw:=[116,101,109,112,108,97,116,101]
noncomputable abbrev fT:aw:=[112,97,116,104]
noncomputable abbrev gK:aw:=[116,102,111,111,116]
noncomputable abbrev aJ:aw:=[104,116,109,108]
noncomputable abbrev fj:aw:=[116,100]
noncomputable abbrev bO:aw:=[115,116,97,114,116]
noncomputable abbrev i7:aw:=[99,97,112,116,105,111,110]
noncomputable abbrev jN:aw:=[116,114]
noncomputable abbrev jO:aw:=[116,104]
noncomputable abbrev j8:aw:=[116,98,111,100,121]
noncomputable abbrev j9:aw:=[116,104,101,97,100]
noncomputable abbrev cY:aw:=[115,118,103]
noncomputable abbrev ky:aw:=[99,111,108,103,114,111,117,112]
noncomputable abbrev kJ:aw:=[109,111,100,101]
noncomputable abbrev d6:aw:=[99,104,97,114]
noncomputable abbrev dc:aw:=[101,110,100]
noncomputable abbrev nX:aw:=[115,101,108,101,99,116]
noncomputable abbrev cX:aw:=[105,110,32,116,101,109,112,108,97,116,101]
noncomputable abbrev i8:aw:=[105,110,32,116,97,98,108,101,32,98,111,100,121]
noncomputable abbrev ph:aw:=[109,111,100,101,115]
noncomputable abbrev ec:aw:=[105,110,32,98,111,100,121]
noncomputable abbrev rx:aw:=[99,111,108]
noncomputable abbrev iN:aw:=[116,105,116,108,101]
noncomputable abbrev rL:aw:=[110,111,116,101,115]
noncomputable abbrev rK:aw:=[103,114,111,117,112,115]
noncomputable abbrev xD:aw:=[108,105]
noncomputable abbrev dY:aw:=[101,111,102]
noncomputable abbrev xE:aw:=[104,101,97,100]
noncomputable abbrev lW:aw:=[105,110,32,114,111,119]
noncomputable abbrev mX:aw:=[105,110,32,104,101,97,100]
noncomputable abbrev xC:aw:=[98,97,115,101]
noncomputable abbrev xU:aw:=[116,97,98,108,101]
noncomputable abbrev og:aw:=[105,110,32,99,101,108,108]
noncomputable abbrev oh:aw:=[105,110,32,99,111,108,117,109,110,32,103,114,111,117,112]
noncomputable abbrev j6:aw:=[117,110,101,120,112,101,99,116,101,100,45,101,110,100,45,116,97,103]
noncomputable abbrev AF:aw:=[98,97,115,101,102,111,110,116]
noncomputable abbrev AG:aw:=[98,103,115,111,117,110,100]
noncomputable abbrev AH:aw:=[108,105,110,107]
noncomputable abbrev AI:aw:=[109,101,116,97]
noncomputable abbrev AJ:aw:=[110,111,102,114,97,109,101,115]
noncomputable abbrev AK:aw:=[115,99,114,105,112,116]
noncomputable abbrev AL:aw:=[115,116,121,108,101]
noncomputable abbrev mV:aw:=[99,111,109,109,101,110,116]
noncomputable abbrev oa:aw:=[100,111,99,116,121,112,101]
noncomputable abbrev xT:aw:=[105,115,95,100,111,110,101]
noncomputable abbrev EM:aw:=[109,97,116,104]
noncomputable abbrev gQ:aw:=[116,101,120,116]
noncomputable abbrev D8:aw:=[105,109,103]
noncomputable abbrev fm:aw:=[98,111,100,121]
noncomputable abbrev lX:aw:=[105,110,32,116,97,98,108,101]
noncomputable abbrev A3:aw:=[105,115,95,115,104,101,108,108]
noncomputable abbrev A2:aw:=[105,115,95,102,114,97,109,101,115,101,116,95,111,107]
noncomputable abbrev eS:aw:=[109,97,114,107]
noncomputable abbrev mW:aw:=[100,111,99,117,109,101,110,116]
noncomputable abbrev A1:aw:=[102,111,114,101,105,103,110,32,99,111,110,116,101,110,116]
noncomputable abbrev mA:aw:=[110,111,110,45,118,111,105,100,45,104,116,109,108,45,101,108,101,109,101,110,116,45,115,116,97,114,116,45,116,97,103,45,119,105,116,104,45,116,114,97,105,108,105,110,103,45,115,111,108,105,100,117,115]
noncomputable abbrev Ky:aw:=[98,117,116,116,111,110]
noncomputable abbrev Kz:aw:=[102,105,101,108,100,115,101,116]
noncomputable abbrev KA:aw:=[105,110,112,117,116]
noncomputable abbrev KC:aw:=[111,98,106,101,99,116]
noncomputable abbrev KD:aw:=[111,117,116,112,117,116]
noncomputable abbrev KG:aw:=[116,101,120,116,97,114,101,97]
noncomputable abbrev ux:aw:=[105,110,32,99,97,112,116,105,111,110]
noncomputable abbrev iE:aw:=[111,112,101,110,45,101,108,101,109,101,110,116,115]
noncomputable abbrev eK:aw:=[117,110,101,120,112,101,99,116,101,100,45,101,111,102]
noncomputable abbrev KH:aw:=[100,105,118]
noncomputable abbrev Uc:aw:=[102,111,114,101,105,103,110,79,98,106,101,99,116]
noncomputable abbrev Ud:aw:=[97,110,110,111,116,97,116,105,111,110,45,120,109,108]
noncomputable abbrev Ue:aw:=[111,112,116,103,114,111,117,112]
noncomputable abbrev Ug:aw:=[111,112,116,105,111,110]
noncomputable abbrev fi:aw:=[101,108,101,109,101,110,116]
noncomputable abbrev oe:aw:=[102,114,97,103,109,101,110,116]
noncomputable abbrev Uh:aw:=[105,110,105,116,105,97,108]
noncomputable abbrev Ui:aw:=[110,111,45,113,117,105,114,107,115]
noncomputable abbrev Uj:aw:=[102,114,97,109,101,115,101,116]
noncomputable abbrev Uk:aw:=[105,110,32,102,114,97,109,101,115,101,116]
noncomputable abbrev Ul:aw:=[116,101,109,112,108,97,116,101,32,100,105,118,32,116,100,32,116,101,109,112,108,97,116,101,32,116,114,32,115,118,103,32,98,32,99,97,112,116,105,111,110,32,99,111,108,32,116,101,109,112,108,97,116,101,32,108,105,32,116,98,111,100,121,32,116,105,116,108,101,32,112,32,99,111,108,103,114,111,117,112,32,116,104,101,97,100,32,116,102,111,111,116,32,116,104]
noncomputable abbrev Um:aw:=[32,98,97,115,101,32,115,99,114,105,112,116,32,109,101,116,97,32,108,105,110,107,32,115,116,121,108,101,32,110,111,102,114,97,109,101,115,32,98,97,115,101,102,111,110,116,32,98,103,115,111,117,110,100]
noncomputable abbrev Un:aw:=[116,101,109,112,108,97,116,101,32,100,105,118,32,116,101,109,112,108,97,116,101,32,116,100,32,116,101,109,112,108,97,116,101,32,116,114,32,98,32,108,105,32,116,101,109,112,108,97,116,101,32,99,97,112,116,105,111,110,32,98,97,115,101,32,112]
noncomputable abbrev Uo:aw:=[112,32,108,105,32,116,100,32,116,104,32,116,114,32,116,98,111,100,121,32,116,104,101,97,100,32,116,102,111,111,116,32,99,97,112,116,105,111,110,32,99,111,108,103,114,111,117,112]
noncomputable abbrev Up:aw:=[116,105,116,108,101,32,109,101,116,97,32,108,105,110,107,32,115,116,121,108,101,32,98,97,115,101,32,115,99,114,105,112,116,32,110,111,102,114,97,109,101,115,32,116,101,109,112,108,97,116,101,32,98,103,115,111,117,110,100,32,98,97,115,101,102,111,110,116]
noncomputable abbrev Ly:aw:=[116,97,98,108,101,32,98,111,100,121]
noncomputable abbrev uw:aw:=[99,111,108,117,109,110,32,103,114,111,117,112]
noncomputable def Va:bN:=.C (.B (.L 0) 0<|.L 1)<|.C (.B (.L 0) 1<|.E .N) .N
noncomputable def AV:bN:=.C (.A 2<|.C<|.I 0)<|.C (.A 3<|.C<|.I (-1))<|.C (.H 4 (.F .S (.K<|.B (.L 0) 1)<|.C<|.I 1)<|.C (.I (.A .E (.I (.B (.L 0) 1)<|.L 4)<|.C<|.I (-1)) (.C .L .N) .N)<|.C (.I (.P<|.D (.C<|.A 144)<|.C (.B (.L 0) 0)<|.C (.I (.B (.L 0) 1)<|.L 4)<|.C (.L 1) .N) (.C (.J 2 .A<|.C<|.I 1)<|.C (.A 3<|.L 4) .N) .N) .N)<|.C (.I (.A .B (.L 2)<|.C<|.I 3) (.C (.E .V) .N) .N)<|.C (.E<|.H (.B (.L 0) 1)<|.L 1) .N
noncomputable def Vb:bN:=.C (.E<|.H (.B (.L 0) 1)<|.C<|.I (-1)) .N
noncomputable def Ew:bN:=.C (.W (.A .G (.K<|.B (.L 0) 1)<|.C<|.I 0)<|.C (.I (.A .E (.U<|.B (.L 0) 1)<|.C<|.I (-1)) (.C (.R<|.C .N) .N) .N) .N) .N
noncomputable def VC:bN:=.C (.I (.O (.A .N (.I (.B (.L 0) 4)<|.L 1)<|.I (.B (.L 0) 4)<|.L 2)<|.A .N (.I (.B (.L 0) 3)<|.L 1)<|.I (.B (.L 0) 3)<|.L 2) (.C (.R<|.C<|.B aP) .N) .N)<|.C (.I (.A .N (.K<|.I (.B (.L 0) 5)<|.L 1)<|.K<|.I (.B (.L 0) 5)<|.L 2) (.C (.R<|.C<|.B aP) .N) .N)<|.C (.F 3 (.I (.B (.L 0) 5)<|.L 1)<|.C (.I (.A .N (.P<|.M (.L 0) 30<|.C (.L 2)<|.C (.I (.L 3)<|.C<|.I 0) .N)<|.I (.L 3)<|.C<|.I 1) (.C (.R<|.C<|.B aP) .N) .N) .N)<|.C (.R<|.C<|.B aB) .N
noncomputable def VR:bN:=.C (.R<|.P<|.A .I (.L 0)<|.T<|.C (.C<|.S xU)<|.C (.C<|.S j8)<|.C (.C<|.S gK)<|.C (.C<|.S j9)<|.C (.C<|.S jN) .N) .N
noncomputable def VQ:bN:=.C (.R<|.G (.A .E (.I (.B (.L 0) 3)<|.L 1)<|.C<|.S EM)<|.P<|.A .I (.I (.B (.L 0) 4)<|.L 1)<|.T<|.C (.C<|.S [109,105])<|.C (.C<|.S [109,111])<|.C (.C<|.S [109,110])<|.C (.C<|.S [109,115])<|.C (.C<|.S [109,116,101,120,116]) .N) .N
noncomputable def VO:bN:=.C (.I (.A .E (.I (.B (.L 0) 3)<|.L 1)<|.C<|.S cY) (.C (.R<|.P<|.A .I (.I (.B (.L 0) 4)<|.L 1)<|.T<|.C (.C<|.S Uc)<|.C (.C<|.S [100,101,115,99])<|.C (.C<|.S iN) .N) .N) .N)<|.C (.I (.O (.A .N (.I (.B (.L 0) 3)<|.L 1)<|.C<|.S EM)<|.A .N (.I (.B (.L 0) 4)<|.L 1)<|.C<|.S Ud) (.C (.R<|.C<|.B aP) .N) .N)<|.C (.A 2<|.P<|.M (.L 0) 30<|.C (.L 1)<|.C (.C<|.S [101,110,99,111,100,105,110,103]) .N)<|.C (.R<|.G (.A .D (.L 2)<|.C .N)<|.P<|.A .I .V<|.T<|.C (.C<|.S [116,101,120,116,47,104,116,109,108])<|.C (.C<|.S [97,112,112,108,105,99,97,116,105,111,110,47,120,104,116,109,108,43,120,109,108]) .N) .N
noncomputable def VI:bN:=.C (.R<|.T<|.C (.C<|.S [100,100])<|.C (.C<|.S [100,116])<|.C (.C<|.S xD)<|.C (.C<|.S Ue)<|.C (.C<|.S Ug)<|.C (.C<|.S [112])<|.C (.C<|.S [114,98])<|.C (.C<|.S [114,112])<|.C (.C<|.S [114,116])<|.C (.C<|.S [114,116,99]) .N) .N
noncomputable def VD:bN:=.C (.R<|.F .A (.D (.C<|.A 193) .N)<|.T<|.C (.C<|.S i7)<|.C (.C<|.S ky)<|.C (.C<|.S j8)<|.C (.C<|.S fj)<|.C (.C<|.S gK)<|.C (.C<|.S jO)<|.C (.C<|.S j9)<|.C (.C<|.S jN) .N) .N
noncomputable def Vd:bN:=.C (.B (.L 0) 0<|.L 1)<|.C (.B (.L 0) 1<|.E .N) .N
noncomputable def Vh:bN:=.C (.E<|.H (.B (.L 0) 1)<|.L 1) .N
noncomputable def Vg:bN:=.C (.I (.A .E (.K<|.B (.L 0) 1)<|.C<|.I 0) (.C (.R<|.C<|.I (-1)) .N) .N)<|.C (.R<|.U<|.B (.L 0) 1) .N
noncomputable def Vc:bN:=.C (.I (.A .E (.K<|.B (.L 0) 1)<|.C<|.I 0) (.C (.R<|.C<|.I (-1)) .N) .N)<|.C (.R<|.I (.B (.L 0) 1)<|.F .S (.K<|.B (.L 0) 1)<|.C<|.I 1) .N
noncomputable def Ve:bN:=.C (.R<|.K<|.B (.L 0) 1) .N
noncomputable def Vf:bN:=.C (.A 1<|.P<|.M (.L 0) 31 .N)<|.C (.I (.O (.A .E (.L 1)<|.C<|.I (-1))<|.A .N (.I (.B (.B (.L 0) 0) 3)<|.L 1)<|.C<|.S aJ) (.C (.R<|.C<|.S []) .N) .N)<|.C (.R<|.I (.B (.B (.L 0) 0) 4)<|.L 1) .N
noncomputable def AW:bN:=.C (.F 2 (.B (.L 0) 1)<|.C (.I (.P<|.M (.B (.L 0) 0) 32<|.C (.L 2)<|.C (.L 1) .N) (.C (.R<|.C<|.B aB) .N) .N) .N)<|.C (.R<|.C<|.B aP) .N
noncomputable def Ex:bN:=.C (.W (.A .G (.K<|.B (.L 0) 1)<|.C<|.I 0)<|.C (.A 2<|.P<|.M (.L 0) 33 .N)<|.C (.A 3<|.U<|.B (.L 0) 1)<|.C (.I (.A .I (.L 2)<|.L 1) (.C (.R<|.L 3) .N) .N) .N)<|.C (.R<|.C<|.I (-1)) .N
noncomputable def EA:bN:=.C (.A 1<|.D (.C<|.A 200) .N)<|.C (.W (.A .I (.P<|.M (.L 0) 33 .N)<|.L 1)<|.C (.E<|.M (.L 0) 34 .N) .N) .N
noncomputable def Vk:bN:=.C (.B (.L 0) 2<|.E .N)<|.C (.B (.L 0) 3<|.E .N)<|.C (.B (.L 0) 4<|.E .N)<|.C (.B (.L 0) 5<|.E .N)<|.C (.B (.L 0) 6<|.E .N)<|.C (.B (.L 0) 7<|.E .N)<|.C (.B (.L 0) 8<|.E .N)<|.C (.B (.L 0) 9 .Z)<|.C (.E<|.M (.L 0) 35<|.C (.C<|.S mW) .N) .N
noncomputable def Vi:bN:=.C (.E<|.H (.B (.L 0) 2)<|.L 1)<|.C (.E<|.H (.B (.L 0) 3)<|.L 2)<|.C (.E<|.H (.B (.L 0) 4)<|.L 3)<|.C (.E<|.H (.B (.L 0) 5)<|.r5<|.L 4)<|.C (.E<|.H (.B (.L 0) 6)<|.L 5)<|.C (.E<|.H (.B (.L 0) 7)<|.C<|.I (-1))<|.C (.E<|.H (.B (.L 0) 8)<|.E .N)<|.C (.R<|.F .S (.K<|.B (.L 0) 2)<|.C<|.I 1) .N
noncomputable def Vj:bN:=.C (.A 4<|.M (.L 0) 35<|.C (.C<|.S fi)<|.C (.L 2)<|.C (.L 1)<|.C (.L 3) .N)<|.C (.I (.G (.A .E (.L 2)<|.C<|.S aJ)<|.A .E (.L 1)<|.C<|.S aR) (.C (.C (.B (.L 0) 9) (.L 4)<|.M (.L 0) 35<|.C (.C<|.S oe) .N) .N) .N)<|.C (.R<|.L 4) .N
noncomputable def Vp:bN:=.C (.R<|.M (.L 0) 35<|.C (.C<|.S gQ)<|.C (.C<|.S [])<|.C (.C<|.S [])<|.C (.T .N)<|.C (.L 1) .N) .N
noncomputable def Vl:bN:=.C (.I (.O (.A .E (.L 2)<|.L 1)<|.P<|.A .I (.L 2)<|.D (.C<|.A 436)<|.C (.L 0)<|.C (.L 1) .N) (.C .K .N) .N)<|.C (.I (.G (.A .N (.L 3)<|.C<|.I (-1))<|.A .A (.L 3)<|.I (.B (.L 0) 8)<|.L 1) (.C .K .N) .N)<|.C (.I (.A .E (.L 3)<|.L 2) (.C (.R<|.C .N) .N) .N)<|.C (.E<|.M (.L 0) 36<|.C (.L 2) .N)<|.C (.A 4<|.K<|.I (.B (.L 0) 8)<|.L 1)<|.C (.I (.A .N (.L 3)<|.C<|.I (-1)) (.C (.A 4 .V) .N) .N)<|.C (.E<|.ins (.I (.B (.L 0) 8)<|.L 1) (.L 4)<|.L 2)<|.C (.C (.B (.L 0) 7) (.L 2)<|.L 1) .N
noncomputable def Vo:bN:=.C (.I (.A .N (.I (.B (.L 0) 7)<|.L 1)<|.C<|.I (-1)) (.C (.E .V)<|.C (.C (.B (.L 0) 7) (.L 1)<|.C<|.I (-1)) .N) .N) .N
noncomputable def Vn:bN:=.C (.I (.N<|.I (.B (.L 0) 8)<|.L 1) (.C (.R<|.C<|.I (-1)) .N) .N)<|.C (.R<|.I (.I (.B (.L 0) 8)<|.L 1)<|.C<|.I (-1)) .N
noncomputable def Vq:bN:=.C (.F 3 (.I (.B (.L 0) 5)<|.L 1)<|.C (.I (.A .E (.I (.L 3)<|.C<|.I 0)<|.L 2) (.C (.R<|.I (.L 3)<|.C<|.I 1) .N) .N) .N)<|.C (.R<|.C .N) .N
noncomputable def Vm:bN:=.C (.R<|.W (.A .N (.L 1)<|.C<|.I (-1)) (.A .E (.I (.B (.L 0) 3)<|.L 1)<|.C<|.S aJ)<|.A .E (.I (.B (.L 0) 4)<|.L 1)<|.L 2) .N
noncomputable def AY:bN:=.C (.A 2<|.E .N)<|.C (.A 3<|.I (.B (.L 0) 7)<|.L 1)<|.C (.W (.A .N (.L 3)<|.C<|.I (-1))<|.C (.E<|.H (.L 2)<|.L 3)<|.C (.A 3<|.I (.B (.L 0) 7)<|.L 3) .N)<|.C (.R<|.L 2) .N
noncomputable def U6:bN:=.C (.B (.L 0) 10<|.L 1)<|.C (.B (.L 0) 0<|.D (.C<|.A 425) .N)<|.C (.B (.L 0) 11<|.D (.C<|.A 301)<|.C (.B (.L 0) 0) .N)<|.C (.B (.L 0) 12<|.D (.C<|.A 133)<|.C (.B (.L 0) 0) .N)<|.C (.B (.L 0) 13<|.C<|.S Uh)<|.C (.B (.L 0) 14<|.C<|.S [])<|.C (.B (.L 0) 15<|.E .N)<|.C (.B (.L 0) 16<|.C<|.I (-1))<|.C (.B (.L 0) 17<|.C<|.I (-1))<|.C (.B (.L 0) 18 .Z)<|.C (.B (.L 0) 19<|.C<|.B aB)<|.C (.B (.L 0) 20<|.L 2)<|.C (.B (.L 0) 21<|.C<|.B aP)<|.C (.B (.L 0) 22<|.C<|.I (-1))<|.C (.B (.L 0) 23<|.C<|.S Ui)<|.C (.B (.L 0) 24<|.E .N)<|.C (.B (.L 0) 25<|.E .N)<|.C (.B (.L 0) 26<|.C<|.S [])<|.C (.B (.L 0) 27<|.C<|.B aP)<|.C (.B (.L 0) 28<|.C<|.B aP)<|.C (.B (.L 0) 29<|.C<|.B aP) .N
noncomputable def U4:bN:=.C (.E<|.H (.B (.L 0) 24)<|.T<|.C (.L 1)<|.C (.B (.L 0) 13) .N) .N
noncomputable def U9:bN:=.C (.B (.L 0) 13<|.L 1) .N
noncomputable def U_:bN:=.C (.I (.A .A (.L 1)<|.B (.L 0) 10) (.C .K .N) .N)<|.C (.A 3<|.I (.B (.L 0) 10)<|.L 1)<|.C (.E<|.D (.L 3)<|.C (.L 0)<|.C (.L 2) .N) .N
noncomputable def U8:bN:=.C (.I (.P<|.D (.C<|.A 514)<|.C (.L 0)<|.C (.L 1) .N) (.C (.E<|.M (.L 0) 37<|.C (.B (.L 0) 13)<|.C (.L 1) .N) .N)<|.C (.E<|.M (.L 0) 37<|.C (.C<|.S A1)<|.C (.L 1) .N) .N) .N
noncomputable def U5:bN:=.C (.I (.B (.L 0) 29) (.C (.R<|.C .N) .N) .N)<|.C (.I (.B (.L 0) 27) (.C (.B (.L 0) 27<|.C<|.B aP)<|.C (.I (.G (.A .E (.I (.L 1)<|.C<|.I 0)<|.C<|.S d6)<|.A .E (.I (.L 1)<|.C<|.I 1)<|.C<|.S [10]) (.C (.R<|.C .N) .N) .N) .N) .N)<|.C (.B (.L 0) 28<|.C<|.B aP)<|.C (.E<|.M (.L 0) 39<|.C (.L 1) .N)<|.C (.I (.W (.A .E (.I (.L 1)<|.C<|.I 0)<|.C<|.S bO) (.I (.L 1)<|.C<|.I 3)<|.N<|.B (.L 0) 28) (.C (.E<|.M (.L 0) 38<|.C (.C<|.S mA) .N) .N) .N) .N
noncomputable def U3:bN:=.C (.I (.G (.A .E (.P<|.M (.B (.L 0) 11) 40 .N)<|.C<|.I 1)<|.A .N (.B (.L 0) 22)<|.C<|.I (-1)) (.C (.R<|.B (.L 0) 22) .N) .N)<|.C (.R<|.P<|.M (.B (.L 0) 11) 31 .N) .N
noncomputable def U7:bN:=.C (.A 1<|.P<|.M (.L 0) 41 .N)<|.C (.R<|.G (.A .N (.L 1)<|.C<|.I (-1))<|.A .N (.I (.B (.B (.L 0) 0) 3)<|.L 1)<|.C<|.S aJ) .N
noncomputable def VP:bN:=.C (.I (.O (.N<|.P<|.M (.L 0) 42 .N)<|.A .E (.I (.L 1)<|.C<|.I 0)<|.C<|.S dY) (.C (.R<|.C<|.B aB) .N) .N)<|.C (.A 2<|.B (.L 0) 0)<|.C (.A 3<|.P<|.M (.L 0) 41 .N)<|.C (.I (.A .E (.I (.L 1)<|.C<|.I 0)<|.C<|.S d6) (.C (.R<|.O (.P<|.D (.C<|.A 179)<|.C (.L 2)<|.C (.L 3) .N)<|.P<|.D (.C<|.A 186)<|.C (.L 2)<|.C (.L 3) .N) .N) .N)<|.C (.I (.A .N (.I (.L 1)<|.C<|.I 0)<|.C<|.S bO) (.C (.R<|.C<|.B aP) .N) .N)<|.C (.I (.G (.P<|.D (.C<|.A 179)<|.C (.L 2)<|.C (.L 3) .N)<|.P<|.A .A (.I (.L 1)<|.C<|.I 1)<|.T<|.C (.C<|.S [109,103,108,121,112,104])<|.C (.C<|.S [109,97,108,105,103,110,109,97,114,107]) .N) (.C (.R<|.C<|.B aB) .N) .N)<|.C (.I (.W (.A .E (.I (.B (.L 2) 3)<|.L 3)<|.C<|.S EM) (.A .E (.I (.B (.L 2) 4)<|.L 3)<|.C<|.S Ud)<|.A .E (.I (.L 1)<|.C<|.I 1)<|.C<|.S cY) (.C (.R<|.C<|.B aB) .N) .N)<|.C (.R<|.P<|.D (.C<|.A 186)<|.C (.L 2)<|.C (.L 3) .N) .N
noncomputable def Ez:bN:=.C (.W (.A .G (.P<|.M (.B (.L 0) 11) 40 .N)<|.C<|.I 0)<|.C (.E<|.M (.B (.L 0) 11) 34 .N) .N)<|.C (.B (.L 0) 29<|.C<|.B aB) .N
noncomputable def VW:bN:=.C (.A 2<|.B (.L 0) 0)<|.C (.A 3<|.L 1)<|.C (.I (.A .E (.L 3)<|.C<|.I (-1)) (.C (.A 3<|.P<|.M (.B (.L 0) 11) 31 .N) .N) .N)<|.C (.I (.A .E (.L 3)<|.C<|.I (-1)) (.C (.R<|.T<|.C (.C<|.I 0)<|.C (.C<|.I (-1)) .N) .N) .N)<|.C (.A 4<|.C<|.I (-1))<|.C (.I (.W (.B (.L 0) 21) (.A .E (.I (.B (.L 2) 3)<|.L 3)<|.C<|.S aJ)<|.P<|.D (.C<|.A 172)<|.C (.I (.B (.L 2) 4)<|.L 3) .N) (.C (.D 3 4 .V) .N) .N)<|.C (.I (.A .I (.L 3)<|.B (.L 2) 9) (.C (.R<|.T<|.C (.I (.B (.L 2) 9)<|.L 3)<|.C (.C<|.I (-1)) .N) .N) .N)<|.C (.R<|.T<|.C (.L 3)<|.C (.L 4) .N) .N
noncomputable def VL:bN:=.C (.A 2<|.B (.L 0) 0)<|.C (.D 4 5<|.D (.C<|.A 536)<|.C (.L 0) .N)<|.C (.I (.A .E (.I (.B (.L 2) 2)<|.L 4)<|.C<|.S mW) (.C (.R<|.C .N) .N) .N)<|.C (.A 3<|.P<|.M (.L 2) 45<|.C (.L 4) .N)<|.C (.I (.A .N (.L 5)<|.C<|.I (-1)) (.C (.A 6 .V)<|.C (.A 3<|.C<|.I (-1))<|.C (.I (.A .G (.L 6)<|.C<|.I 0) (.C (.A 3<|.I (.I (.B (.L 2) 8)<|.L 4)<|.F .S (.L 6)<|.C<|.I 1) .N) .N) .N) .N)<|.C (.I (.G (.A .N (.L 3)<|.C<|.I (-1))<|.A .E (.I (.B (.L 2) 2)<|.L 3)<|.C<|.S gQ) (.C (.C (.B (.L 2) 6) (.L 3)<|.F .A (.I (.B (.L 2) 6)<|.L 3)<|.L 1) .N)<|.C (.E<|.M (.L 2) 43<|.C (.L 4)<|.C (.M (.L 2) 44<|.C (.L 1) .N)<|.C (.L 5) .N) .N) .N
noncomputable def VS:bN:=.C (.R<|.M (.B (.L 0) 0) 46<|.C (.L 1)<|.C (.L 3)<|.C (.L 2) .N) .N
noncomputable def VK:bN:=.C (.D 5 6<|.D (.C<|.A 536)<|.C (.L 0) .N)<|.C (.A 4<|.D (.C<|.A 551)<|.C (.L 0)<|.C (.L 1)<|.C (.L 2)<|.C (.L 3) .N)<|.C (.E<|.M (.B (.L 0) 0) 43<|.C (.L 5)<|.C (.L 4)<|.C (.L 6) .N)<|.C (.E<|.M (.B (.L 0) 11) 47<|.C (.L 4) .N)<|.C (.R<|.L 4) .N
noncomputable def VM:bN:=.C (.A 2<|.D (.C<|.A 560)<|.C (.L 0)<|.C (.I (.L 1)<|.C<|.I 1)<|.C (.I (.L 1)<|.C<|.I 2) .N)<|.C (.E<|.P<|.D (.C<|.A 574)<|.C (.L 0)<|.C (.L 2) .N)<|.C (.R<|.L 2) .N
noncomputable def VE:bN:=.C (.I (.O (.A .E (.B (.L 0) 17)<|.C<|.I (-1))<|.A .E (.B (.L 0) 17)<|.B (.L 0) 22) (.C (.R<|.C .N) .N) .N)<|.C (.A 2<|.B (.L 0) 0)<|.C (.A 3<|.I (.B (.L 2) 4)<|.L 1)<|.C (.I (.P<|.A .A (.L 3)<|.T<|.C (.C<|.S Ky)<|.C (.C<|.S Kz)<|.C (.C<|.S KA)<|.C (.C<|.S KC)<|.C (.C<|.S KD)<|.C (.C<|.S nX)<|.C (.C<|.S KG)<|.C (.C<|.S D8) .N) (.C (.R<|.C .N) .N) .N)<|.C (.I (.G (.A .N (.L 3)<|.C<|.S D8)<|.A .D (.P<|.M (.L 2) 30<|.C (.L 1)<|.C (.C<|.S [102,111,114,109]) .N)<|.C .N) (.C (.R<|.C .N) .N) .N)<|.C (.I (.N<|.P<|.M (.B (.L 0) 11) 48<|.C (.C<|.S aR) .N) (.C (.C (.B (.L 0) 18) (.L 1)<|.B (.L 0) 17) .N) .N) .N
noncomputable def VU:bN:=.C (.A 1<|.Q [fj,jO,jN,j8,j9,gK,i7,ky,xU,xE,fm,Uj]<|.C (.C<|.S og)<|.C (.C<|.S og)<|.C (.C<|.S lW)<|.C (.C<|.S i8)<|.C (.C<|.S i8)<|.C (.C<|.S i8)<|.C (.C<|.S ux)<|.C (.C<|.S oh)<|.C (.C<|.S lX)<|.C (.C<|.S mX)<|.C (.C<|.S ec)<|.C (.C<|.S Uk) .N)<|.C (.R<|.rO (.L 1) (.L 0)<|.C<|.S []) .N
noncomputable def VT:bN:=.C (.I (.A .N (.I (.B (.B (.L 0) 0) 3)<|.L 1)<|.C<|.S aJ) (.C (.R<|.C<|.S []) .N) .N)<|.C (.A 3<|.I (.B (.B (.L 0) 0) 4)<|.L 1)<|.C (.I (.A .E (.L 3)<|.C<|.S nX) (.C (.R .V) .N) .N)<|.C (.I (.A .E (.L 3)<|.C<|.S aR) (.C (.R<|.I (.B (.L 0) 15)<|.C<|.I (-1)) .N) .N)<|.C (.I (.A .E (.L 3)<|.C<|.S aJ) (.C (.I (.A .E (.B (.L 0) 16)<|.C<|.I (-1)) (.C (.R<|.C<|.S [98,101,102,111,114,101,32,104,101,97,100]) .N) .N)<|.C (.R<|.C<|.S [97,102,116,101,114,32,104,101,97,100]) .N) .N)<|.C (.I (.G (.A .E (.L 2)<|.C<|.I 0)<|.P<|.A .I (.L 3)<|.T<|.C (.C<|.S fj)<|.C (.C<|.S jO)<|.C (.C<|.S xE) .N) (.C (.R<|.C<|.S []) .N) .N)<|.C (.R<|.P<|.D (.C<|.A 581)<|.C (.L 3) .N) .N
noncomputable def jW:bN:=.C (.A 1<|.F .S (.P<|.M (.B (.L 0) 11) 40 .N)<|.C<|.I 1)<|.C (.A 2<|.C<|.S [])<|.C (.W (.G (.A .B (.L 1)<|.C<|.I 0)<|.A .E (.L 2)<|.C<|.S [])<|.C (.A 3<|.I (.B (.B (.L 0) 11) 1)<|.L 1)<|.C (.I (.G (.A .E (.L 1)<|.C<|.I 0)<|.A .N (.B (.L 0) 22)<|.C<|.I (-1)) (.C (.A 3<|.B (.L 0) 22) .N) .N)<|.C (.A 2<|.P<|.D (.C<|.A 595)<|.C (.L 0)<|.C (.L 3)<|.C (.L 1) .N)<|.C (.J 1 .S<|.C<|.I 1) .N)<|.C (.I (.A .E (.L 2)<|.C<|.S []) (.C (.A 2<|.C<|.S ec) .N) .N)<|.C (.E<|.M (.L 0) 49<|.C (.L 2) .N) .N
noncomputable def VV:bN:=.C (.E<|.D (.C<|.A 567)<|.C (.L 0)<|.C (.L 1) .N)<|.C (.E<|.M (.B (.L 0) 12) 50 .N)<|.C (.B (.L 0) 19<|.C<|.B aP)<|.C (.E<|.M (.L 0) 49<|.C (.C<|.S cX) .N)<|.C (.E<|.H (.B (.L 0) 15)<|.C<|.S cX) .N
noncomputable def Ln:bN:=.C (.E<|.M (.B (.L 0) 11) 52<|.C (.T<|.C (.C<|.S aR) .N) .N)<|.C (.E<|.M (.B (.L 0) 12) 51 .N)<|.C (.E<|.U<|.B (.L 0) 15)<|.C (.E<|.D (.C<|.A 602)<|.C (.L 0) .N) .N
noncomputable def VF:bN:=.C (.I (.N<|.P<|.M (.B (.L 0) 11) 48<|.C (.C<|.S aR) .N) (.C (.E<|.M (.L 0) 38<|.C (.C<|.S j6) .N)<|.C (.R<|.C .N) .N) .N)<|.C (.E<|.D (.C<|.A 312)<|.C (.B (.L 0) 11) .N)<|.C (.I (.A .N (.P<|.M (.B (.L 0) 11) 33 .N)<|.C<|.S aR) (.C (.E<|.M (.L 0) 38<|.C (.C<|.S iE) .N) .N) .N)<|.C (.E<|.D (.C<|.A 616)<|.C (.L 0) .N) .N
noncomputable def VN:bN:=.C (.I (.A .E (.I (.L 0)<|.C<|.I 0)<|.C<|.S dc) (.C (.R<|.A .E (.I (.L 0)<|.C<|.I 1)<|.C<|.S aR) .N) .N)<|.C (.R<|.G (.A .E (.I (.L 0)<|.C<|.I 0)<|.C<|.S bO)<|.P<|.A .I (.I (.L 0)<|.C<|.I 1)<|.T<|.C (.C<|.S xC)<|.C (.C<|.S AF)<|.C (.C<|.S AG)<|.C (.C<|.S AH)<|.C (.C<|.S AI)<|.C (.C<|.S AJ)<|.C (.C<|.S AK)<|.C (.C<|.S AL)<|.C (.C<|.S aR)<|.C (.C<|.S iN) .N) .N
noncomputable def VY:bN:=.C (.I (.P<|.A .I (.L 0)<|.T<|.C (.C<|.S i7)<|.C (.C<|.S ky)<|.C (.C<|.S j8)<|.C (.C<|.S gK)<|.C (.C<|.S j9) .N) (.C (.R<|.C<|.S lX) .N) .N)<|.C (.I (.A .E (.L 0)<|.C<|.S rx) (.C (.R<|.C<|.S oh) .N) .N)<|.C (.I (.A .E (.L 0)<|.C<|.S jN) (.C (.R<|.C<|.S i8) .N) .N)<|.C (.I (.P<|.A .I (.L 0)<|.T<|.C (.C<|.S fj)<|.C (.C<|.S jO) .N) (.C (.R<|.C<|.S lW) .N) .N)<|.C (.R<|.C<|.S ec) .N
noncomputable def EC:bN:=.C (.A 2<|.P<|.D (.C<|.A 637)<|.C (.I (.L 1)<|.C<|.I 1) .N)<|.C (.E<|.U<|.B (.L 0) 15)<|.C (.E<|.H (.B (.L 0) 15)<|.L 2)<|.C (.E<|.M (.L 0) 49<|.C (.L 2) .N)<|.C (.E<|.M (.L 0) 39<|.C (.L 1) .N) .N
noncomputable def mS:bN:=.C (.I (.N<|.P<|.M (.B (.L 0) 11) 48<|.C (.C<|.S aR) .N) (.C (.E<|.D (.C<|.A 521)<|.C (.L 0) .N)<|.C (.R<|.C .N) .N) .N)<|.C (.W (.P<|.M (.B (.L 0) 11) 48<|.C (.C<|.S aR) .N)<|.C (.E<|.M (.L 0) 38<|.C (.C<|.S eK) .N)<|.C (.E<|.D (.C<|.A 616)<|.C (.L 0) .N) .N)<|.C (.E<|.M (.L 0) 39<|.C (.L 1) .N) .N
noncomputable def VJ:bN:=.C (.A 2<|.I (.L 1)<|.C<|.I 0)<|.C (.I (.P<|.A .I (.L 2)<|.T<|.C (.C<|.S d6)<|.C (.C<|.S mV)<|.C (.C<|.S oa) .N) (.C (.E<|.M (.L 0) 37<|.C (.C<|.S ec)<|.C (.L 1) .N) .N)<|.C (.I (.P<|.D (.C<|.A 630)<|.C (.L 1) .N) (.C (.E<|.M (.L 0) 37<|.C (.C<|.S mX)<|.C (.L 1) .N) .N)<|.C (.I (.A .E (.L 2)<|.C<|.S bO) (.C (.E<|.D (.C<|.A 644)<|.C (.L 0)<|.C (.L 1) .N) .N)<|.C (.I (.A .E (.L 2)<|.C<|.S dc) (.C (.E<|.M (.L 0) 38<|.C (.C<|.S j6) .N) .N)<|.C (.E<|.D (.C<|.A 651)<|.C (.L 0)<|.C (.L 1) .N) .N) .N) .N) .N) .N
noncomputable def VZ:bN:=.C (.R<|.Q [cX]<|.C (.C<|.A 658) .N) .N
noncomputable def Vt:bN:=.C (.R<|.T<|.C (.T<|.C (.C<|.I 0)<|.C (.C<|.I 0)<|.C (.C<|.I 18)<|.C (.C<|.I 38)<|.C (.C<|.I 4)<|.C (.C<|.I 2)<|.C (.C<|.I 0)<|.C (.C<|.I 41)<|.C (.C<|.I 36)<|.C (.C<|.I 6)<|.C (.C<|.I 1)<|.C (.C<|.I 26)<|.C (.C<|.I 38)<|.C (.C<|.I 28) .N)<|.C (.T<|.C (.C<|.I 1)<|.C (.C<|.I 17)<|.C (.C<|.I 26)<|.C (.C<|.I 3)<|.C (.C<|.I 5)<|.C (.C<|.I 28)<|.C (.C<|.I 0)<|.C (.C<|.I 9)<|.C (.C<|.I 8)<|.C (.C<|.I 38)<|.C (.C<|.I 27)<|.C (.C<|.I 42)<|.C (.C<|.I 40)<|.C (.C<|.I 43) .N)<|.C (.T<|.C (.C<|.I 2)<|.C (.C<|.I 6)<|.C (.C<|.I 0)<|.C (.C<|.I 7)<|.C (.C<|.I 6)<|.C (.C<|.I 35)<|.C (.C<|.I 5)<|.C (.C<|.I 12)<|.C (.C<|.I 13)<|.C (.C<|.I 38)<|.C (.C<|.I 26)<|.C (.C<|.I 5)<|.C (.C<|.I 44)<|.C (.C<|.I 2) .N) .N) .N
noncomputable def pg:bN:=.C (.A 2<|.C<|.S Ul)<|.C (.A 2<|.Y<|.F .A (.L 2)<|.C<|.S Um)<|.C (.A 3<|.Y<|.C<|.S Un)<|.C (.A 4<|.E<|.C (.T<|.C (.C<|.S d6)<|.C (.C<|.S [120]) .N)<|.C (.T<|.C (.C<|.S d6)<|.C (.C<|.S [32]) .N)<|.C (.T<|.C (.C<|.S d6)<|.C (.C<|.S [0]) .N)<|.C (.T<|.C (.C<|.S mV)<|.C (.C<|.S [99]) .N) .N)<|.C (.A 4<|.F .A (.L 4)<|.E<|.C (.T<|.C (.C<|.S oa)<|.C (.C<|.S aJ)<|.C (.C .N)<|.C (.C .N)<|.C (.C<|.B aP) .N)<|.C (.T<|.C (.C<|.S dY) .N) .N)<|.C (.A 5<|.F .M (.L 0)<|.C<|.I 44)<|.C (.I (.A .L (.L 5)<|.C<|.I 26) (.C (.R<|.T<|.C (.C<|.S bO)<|.C (.I (.L 2)<|.L 5)<|.C (.T<|.C (.T<|.C (.C<|.S [110])<|.C (.str<|.L 1) .N) .N)<|.C (.A .E (.F .M (.F .F (.L 0)<|.C<|.I 44)<|.C<|.I 2)<|.C<|.I 1) .N) .N) .N)<|.C (.I (.A .L (.L 5)<|.C<|.I 38) (.C (.R<|.T<|.C (.C<|.S dc)<|.C (.I (.L 3)<|.F .S (.L 5)<|.C<|.I 26)<|.C (.T .N)<|.C (.C<|.B aP) .N) .N) .N)<|.C (.R<|.I (.L 4)<|.F .S (.L 5)<|.C<|.I 38) .N
noncomputable def Vr:bN:=.C (.I (.A .E (.I (.L 1)<|.C<|.I 0)<|.C<|.S d6) (.C (.E<|.D (.C<|.A 543)<|.C (.L 0)<|.C (.I (.L 1)<|.C<|.I 1) .N) .N)<|.C (.I (.A .E (.I (.L 1)<|.C<|.I 0)<|.C<|.S dY) (.C (.I (.A .G (.K<|.B (.L 0) 15)<|.C<|.I 0) (.C (.E<|.M (.L 0) 37<|.C (.C<|.S cX)<|.C (.L 1) .N) .N)<|.C (.E<|.D (.C<|.A 521)<|.C (.L 0) .N) .N) .N)<|.C (.I (.P<|.A .I (.I (.L 1)<|.C<|.I 0)<|.T<|.C (.C<|.S mV)<|.C (.C<|.S oa) .N) (.C (.E<|.H (.B (.L 0) 24)<|.T<|.C (.B (.L 0) 13)<|.C (.L 1) .N) .N)<|.C (.I (.A .E (.I (.L 1)<|.C<|.I 1)<|.C<|.S aR) (.C (.E<|.M (.L 0) 37<|.C (.C<|.S mX)<|.C (.L 1) .N) .N)<|.C (.I (.A .E (.I (.L 1)<|.C<|.I 0)<|.C<|.S dc) (.C (.I (.A .E (.P<|.M (.B (.L 0) 11) 33 .N)<|.I (.L 1)<|.C<|.I 1) (.C (.E<|.M (.B (.L 0) 11) 34 .N) .N) .N) .N)<|.C (.I (.A .E (.I (.L 1)<|.C<|.I 1)<|.C<|.S cY) (.C (.E<|.D (.C<|.A 560)<|.C (.L 0)<|.C (.C<|.S aR)<|.C (.I (.L 1)<|.C<|.I 2)<|.C (.C<|.S cY) .N) .N)<|.C (.A 2<|.D (.C<|.A 560)<|.C (.L 0)<|.C (.I (.L 1)<|.C<|.I 1)<|.C (.I (.L 1)<|.C<|.I 2) .N)<|.C (.I (.A .E (.I (.L 1)<|.C<|.I 1)<|.C<|.S [98]) (.C (.E<|.M (.B (.L 0) 12) 47<|.C (.L 2) .N) .N) .N) .N) .N) .N) .N) .N) .N) .N
noncomputable def Vw:bN:=.C (.I (.A .N (.I (.L 1)<|.C<|.I 1)<|.C<|.S aR) (.C (.E<|.H (.B (.L 0) 24)<|.T<|.C (.B (.L 0) 13)<|.C (.L 1) .N)<|.C (.E<|.D (.C<|.A 560)<|.C (.L 0)<|.C (.I (.L 1)<|.C<|.I 1)<|.C (.I (.L 1)<|.C<|.I 2) .N)<|.C (.E<|.M (.B (.L 0) 11) 34 .N) .N)<|.C (.I (.A .E (.I (.L 1)<|.C<|.I 0)<|.C<|.S bO) (.C (.E<|.D (.C<|.A 609)<|.C (.L 0)<|.C (.L 1) .N) .N)<|.C (.E<|.D (.C<|.A 623)<|.C (.L 0) .N) .N) .N) .N
noncomputable def Vu:bN:=.C (.I (.A .E (.I (.L 1)<|.C<|.I 0)<|.C<|.S d6) (.C (.E<|.D (.C<|.A 543)<|.C (.L 0)<|.C (.I (.L 1)<|.C<|.I 1) .N) .N)<|.C (.I (.A .E (.I (.L 1)<|.C<|.I 0)<|.C<|.S bO) (.C (.E<|.D (.C<|.A 560)<|.C (.L 0)<|.C (.I (.L 1)<|.C<|.I 1)<|.C (.I (.L 1)<|.C<|.I 2)<|.C (.C<|.S cY) .N) .N)<|.C (.I (.A .N (.I (.L 1)<|.C<|.I 0)<|.C<|.S dc) (.C (.E<|.H (.B (.L 0) 24)<|.T<|.C (.B (.L 0) 13)<|.C (.L 1) .N) .N)<|.C (.I (.A .E (.I (.L 1)<|.C<|.I 1)<|.C<|.S aR) (.C (.E<|.M (.L 0) 37<|.C (.C<|.S mX)<|.C (.L 1) .N) .N)<|.C (.E<|.M (.B (.L 0) 11) 34 .N) .N) .N) .N) .N) .N
noncomputable def Vy:bN:=.C (.E<|.H (.I (.L 0)<|.C<|.S rL)<|.T<|.C (.L 1)<|.C (.I (.L 0)<|.C<|.S kJ) .N) .N
noncomputable def Vx:bN:=.C (.R<|.R (.A .C (.I (.L 0)<|.C<|.I 4)<|.C .N) (.I (.L 0)<|.C<|.I 3)<|.I (.L 0)<|.C<|.I 4) .N
noncomputable def Vz:bN:=.C (.A 2<|.P<|.D (.C<|.A 714)<|.C (.I (.I (.L 0)<|.C<|.S fT)<|.C<|.I (-1)) .N)<|.C (.I (.G (.A .G (.K<|.L 2)<|.C<|.I 0)<|.qK<|.I (.L 2)<|.C<|.I (-1)) (.C (.C (.L 2) (.C<|.I (-1))<|.F .A (.I (.L 2)<|.C<|.I (-1))<|.L 1) .N)<|.C (.E<|.H (.L 2)<|.L 1) .N) .N
noncomputable def xO:bN:=.C (.A 4<|.E<|.C (.L 1)<|.C (.L 2)<|.C (.r5<|.L 3)<|.C (.E .N)<|.C (.R (.P<|.A .E (.T<|.C (.L 1)<|.C (.L 2) .N)<|.T<|.C (.C<|.S aJ)<|.C (.C<|.S aR) .N) (.E .N)<|.C .N) .N)<|.C (.I (.A .G (.K<|.I (.L 0)<|.C<|.S fT)<|.C<|.I 0) (.C (.E<|.H (.P<|.D (.C<|.A 714)<|.C (.I (.I (.L 0)<|.C<|.S fT)<|.C<|.I (-1)) .N)<|.L 4) .N) .N)<|.C (.C (.L 0) (.C<|.S fT)<|.F .A (.I (.L 0)<|.C<|.S fT)<|.E<|.C (.L 4) .N) .N
noncomputable def VA:bN:=.C (.R<|.X 1 (.L 1) (.K<|.I (.L 0)<|.C<|.S fT)<|.P<|.A .E (.S (.I (.I (.L 0)<|.C<|.S fT)<|.L 1) (.C .N)<|.C<|.I 2)<|.E<|.C (.C<|.S aJ)<|.C (.C<|.S aR) .N) .N
noncomputable def pd:bN:=.C (.C (.L 0) (.C<|.S fT)<|.S (.I (.L 0)<|.C<|.S fT) (.C .N)<|.I (.D (.C<|.A 733)<|.C (.L 0) .N)<|.C<|.I (-1))<|.C (.E<|.U<|.I (.L 0)<|.C<|.S rK)<|.C (.E<|.U<|.I (.L 0)<|.C<|.S ph)<|.C (.A 1<|.R (.I (.L 0)<|.C<|.S A3) (.I (.I (.L 0)<|.C<|.S ph)<|.C<|.I 0)<|.C<|.S ec)<|.C (.A 2<|.Q [fj,jO,jN,j8,j9,gK,i7,ky]<|.C (.C<|.S og)<|.C (.C<|.S og)<|.C (.C<|.S lW)<|.C (.C<|.S i8)<|.C (.C<|.S i8)<|.C (.C<|.S i8)<|.C (.C<|.S ux)<|.C (.C<|.S oh) .N)<|.C (.F 3 (.S (.I (.L 0)<|.C<|.S fT) (.C<|.I 1)<|.C .N)<|.C (.I (.P<|.A .E (.S (.L 3) (.C .N)<|.C<|.I 2)<|.E<|.C (.C<|.S aJ)<|.C (.C<|.S aR) .N) (.C (.A 1<|.I (.I (.L 0)<|.C<|.S ph)<|.C<|.I (-1)) .N)<|.C (.I (.A .E (.I (.L 3)<|.C<|.I 0)<|.C<|.S aJ) (.C (.A 1<|.rO (.L 2) (.I (.L 3)<|.C<|.I 1)<|.L 1) .N) .N) .N) .N)<|.C (.C (.L 0) (.C<|.S kJ)<|.L 1) .N
noncomputable def n9:bN:=.C (.A 2<|.Y<|.C<|.S Uo)<|.C (.A 3<|.D (.C<|.A 733)<|.C (.L 0) .N)<|.C (.I (.A .N (.I (.L 1)<|.C<|.I 1)<|.C<|.S aR) (.C (.E<|.H (.I (.L 0)<|.C<|.S rL)<|.T<|.C (.I (.L 0)<|.C<|.S kJ)<|.C (.L 1) .N)<|.C (.E<|.D (.C<|.A 728)<|.C (.L 0)<|.C (.C<|.S aJ)<|.C (.I (.L 1)<|.C<|.I 1)<|.C (.I (.L 1)<|.C<|.I 2) .N)<|.C (.C (.L 0) (.C<|.S fT)<|.S (.I (.L 0)<|.C<|.S fT) (.C .N)<|.C<|.I (-1)) .N)<|.C (.I (.A .E (.I (.L 1)<|.C<|.I 0)<|.C<|.S bO) (.C (.E<|.D (.C<|.A 728)<|.C (.L 0)<|.C (.C<|.S aJ)<|.C (.C<|.S aR)<|.C (.I (.L 1)<|.C<|.I 2) .N)<|.C (.E<|.H (.I (.L 0)<|.C<|.S rK)<|.E .N)<|.C (.E<|.H (.I (.L 0)<|.C<|.S ph)<|.C<|.S cX)<|.C (.C (.L 0) (.C<|.S kJ)<|.C<|.S cX)<|.C (.C (.L 0) (.C<|.S A2)<|.C<|.B aP) .N)<|.C (.I (.P<|.A .E (.L 3)<|.E .N) (.C (.E<|.D (.C<|.A 707)<|.C (.L 0)<|.C (.C<|.S j6) .N) .N)<|.C (.A 4<|.S (.I (.L 0)<|.C<|.S fT) (.F .A (.I (.L 3)<|.C<|.I (-1))<|.C<|.I 1)<|.C .N)<|.C (.I (.P<|.A .N (.J 5 (.L 5) (.L 4)<|.O (.A .E (.I (.L 5)<|.C<|.I 0)<|.C<|.S cY)<|.A .A (.I (.L 5)<|.C<|.I 1)<|.L 2)<|.E .N) (.C (.E<|.D (.C<|.A 707)<|.C (.L 0)<|.C (.C<|.S iE) .N) .N) .N)<|.C (.E<|.D (.C<|.A 740)<|.C (.L 0) .N) .N) .N) .N) .N
noncomputable def Vs:bN:=.C (.I (.A .E (.I (.L 1)<|.C<|.I 0)<|.C<|.S d6) (.C (.E<|.D (.C<|.A 721)<|.C (.L 0)<|.C (.I (.L 1)<|.C<|.I 1) .N) .N)<|.C (.I (.P<|.A .I (.I (.L 1)<|.C<|.I 0)<|.T<|.C (.C<|.S mV)<|.C (.C<|.S oa) .N) (.C (.E<|.H (.I (.L 0)<|.C<|.S rL)<|.T<|.C (.I (.L 0)<|.C<|.S kJ)<|.C (.L 1) .N) .N)<|.C (.I (.A .E (.I (.L 1)<|.C<|.I 1)<|.C<|.S aR) (.C (.E<|.D (.C<|.A 745)<|.C (.L 0)<|.C (.L 1) .N) .N)<|.C (.I (.A .E (.I (.L 1)<|.C<|.I 0)<|.C<|.S dc) (.C (.I (.P<|.A .E (.S (.I (.I (.L 0)<|.C<|.S fT)<|.C<|.I (-1)) (.C .N)<|.C<|.I 2)<|.E<|.C (.C<|.S aJ)<|.C (.I (.L 1)<|.C<|.I 1) .N) (.C (.C (.L 0) (.C<|.S fT)<|.S (.I (.L 0)<|.C<|.S fT) (.C .N)<|.C<|.I (-1)) .N) .N) .N)<|.C (.I (.A .E (.I (.L 1)<|.C<|.I 1)<|.C<|.S cY) (.C (.E<|.D (.C<|.A 728)<|.C (.L 0)<|.C (.C<|.S cY)<|.C (.C<|.S aR)<|.C (.I (.L 1)<|.C<|.I 2) .N) .N)<|.C (.E<|.D (.C<|.A 728)<|.C (.L 0)<|.C (.C<|.S aJ)<|.C (.I (.L 1)<|.C<|.I 1)<|.C (.I (.L 1)<|.C<|.I 2) .N)<|.C (.I (.A .E (.I (.L 1)<|.C<|.I 1)<|.C<|.S [98]) (.C (.E<|.H (.I (.I (.L 0)<|.C<|.S rK)<|.C<|.I (-1))<|.I (.I (.I (.L 1)<|.C<|.I 2)<|.C<|.I 0)<|.C<|.I 1) .N) .N) .N) .N) .N) .N) .N) .N
noncomputable def Vv:bN:=.C (.I (.A .E (.I (.L 1)<|.C<|.I 0)<|.C<|.S d6) (.C (.E<|.D (.C<|.A 721)<|.C (.L 0)<|.C (.I (.L 1)<|.C<|.I 1) .N) .N)<|.C (.I (.A .E (.I (.L 1)<|.C<|.I 0)<|.C<|.S bO) (.C (.E<|.D (.C<|.A 728)<|.C (.L 0)<|.C (.C<|.S cY)<|.C (.I (.L 1)<|.C<|.I 1)<|.C (.I (.L 1)<|.C<|.I 2) .N) .N)<|.C (.I (.A .N (.I (.L 1)<|.C<|.I 0)<|.C<|.S dc) (.C (.E<|.H (.I (.L 0)<|.C<|.S rL)<|.T<|.C (.I (.L 0)<|.C<|.S kJ)<|.C (.L 1) .N) .N)<|.C (.I (.A .E (.I (.L 1)<|.C<|.I 1)<|.C<|.S aR) (.C (.E<|.D (.C<|.A 745)<|.C (.L 0)<|.C (.L 1) .N) .N)<|.C (.C (.L 0) (.C<|.S fT)<|.S (.I (.L 0)<|.C<|.S fT) (.C .N)<|.C<|.I (-1)) .N) .N) .N) .N) .N
noncomputable def n_:bN:=.C (.A 2<|.Y<|.C<|.S Up)<|.C (.A 3<|.Q [rx,jN,jO,fj]<|.C (.C<|.S oh)<|.C (.C<|.S i8)<|.C (.C<|.S lW)<|.C (.C<|.S lW) .N)<|.C (.F 4 (.T<|.C (.C<|.S ky)<|.C (.C<|.S i7)<|.C (.C<|.S j9)<|.C (.C<|.S j8)<|.C (.C<|.S gK) .N)<|.C (.C (.L 3) (.L 4)<|.C<|.S lX) .N)<|.C (.I (.O (.G (.A .E (.I (.L 1)<|.C<|.I 0)<|.C<|.S bO)<|.A .I (.I (.L 1)<|.C<|.I 1)<|.L 2)<|.P<|.A .E (.S (.L 1) (.C .N)<|.C<|.I 2)<|.T<|.C (.C<|.S dc)<|.C (.C<|.S aR) .N) (.C (.E<|.D (.C<|.A 745)<|.C (.L 0)<|.C (.L 1) .N) .N)<|.C (.I (.A .E (.I (.L 1)<|.C<|.I 0)<|.C<|.S bO) (.C (.C (.L 0) (.C<|.S kJ)<|.rO (.L 3) (.I (.L 1)<|.C<|.I 1)<|.C<|.S ec)<|.C (.C (.I (.L 0)<|.C<|.S ph) (.C<|.I (-1))<|.I (.L 0)<|.C<|.S kJ)<|.C (.E<|.D (.C<|.A 752)<|.C (.L 0)<|.C (.L 1) .N) .N)<|.C (.I (.A .E (.I (.L 1)<|.C<|.I 0)<|.C<|.S dc) (.C (.E<|.D (.C<|.A 707)<|.C (.L 0)<|.C (.C<|.S j6) .N) .N)<|.C (.E<|.D (.C<|.A 752)<|.C (.L 0)<|.C (.L 1) .N) .N) .N) .N) .N
noncomputable def jx:bN:=.C (.I (.A .E (.I (.L 1)<|.C<|.I 0)<|.C<|.S dY) (.C (.W (.P<|.A .N (.D (.C<|.A 733)<|.C (.L 0) .N)<|.E .N)<|.C (.E<|.D (.C<|.A 707)<|.C (.L 0)<|.C (.C<|.S eK) .N)<|.C (.E<|.D (.C<|.A 740)<|.C (.L 0) .N) .N)<|.C (.C (.L 0) (.C<|.S fT)<|.E .N)<|.C (.C (.L 0) (.C<|.S xT)<|.C<|.B aB) .N)<|.C (.I (.G (.A .E (.I (.I (.I (.L 0)<|.C<|.S fT)<|.C<|.I (-1))<|.C<|.I 0)<|.C<|.S cY)<|.N<|.G (.A .E (.I (.I (.I (.L 0)<|.C<|.S fT)<|.C<|.I (-1))<|.C<|.I 1)<|.C<|.S iN)<|.P<|.A .I (.I (.L 1)<|.C<|.I 0)<|.T<|.C (.C<|.S d6)<|.C (.C<|.S bO) .N) (.C (.E<|.D (.C<|.A 759)<|.C (.L 0)<|.C (.L 1) .N) .N)<|.C (.I (.A .E (.I (.L 0)<|.C<|.S kJ)<|.C<|.S cX) (.C (.E<|.D (.C<|.A 766)<|.C (.L 0)<|.C (.L 1) .N) .N)<|.C (.E<|.D (.C<|.A 752)<|.C (.L 0)<|.C (.L 1) .N) .N) .N) .N)<|.C (.I (.G (.A .E (.I (.L 1)<|.C<|.I 0)<|.C<|.S bO)<|.I (.L 1)<|.C<|.I 3) (.C (.E<|.D (.C<|.A 707)<|.C (.L 0)<|.C (.C<|.S mA) .N) .N) .N) .N
noncomputable def AX:bN:=.C (.I (.A .E (.I (.B (.L 0) 2)<|.L 1)<|.C<|.S gQ) (.C (.R<|.I (.B (.L 0) 6)<|.L 1) .N) .N)<|.C (.A 2<|.C .N)<|.C (.I (.A .I (.L 1)<|.B (.L 0) 9) (.C (.A 2<|.J 4 (.D (.C<|.A 778)<|.C (.L 0)<|.C (.L 4) .N) (.I (.B (.L 0) 8)<|.I (.B (.L 0) 9)<|.L 1)<|.C<|.B aB) .N) .N)<|.C (.A 3<|.J 4 (.D (.C<|.A 778)<|.C (.L 0)<|.C (.L 4) .N) (.I (.B (.L 0) 8)<|.L 1)<|.C<|.B aB)<|.C (.R<|.E<|.C (.I (.B (.L 0) 3)<|.L 1)<|.C (.I (.B (.L 0) 4)<|.L 1)<|.C (.I (.B (.L 0) 5)<|.L 1)<|.C (.L 3)<|.C (.L 2) .N) .N
noncomputable def uu:bN:=.C (.A 2<|.B (.L 0) 0)<|.C (.A 3<|.J 8 (.F .A (.F .A (.I (.B (.L 2) 3)<|.L 8)<|.C<|.S [32])<|.I (.B (.L 2) 4)<|.L 8) (.B (.B (.L 0) 11) 1)<|.C<|.B aB)<|.C (.A 4<|.J 8 (.R (.A .E (.L 8)<|.C<|.I (-1)) (.C<|.S eS)<|.P<|.M (.L 2) 30<|.C (.L 8)<|.C (.C<|.S [110]) .N) (.B (.B (.L 0) 12) 1)<|.C<|.B aB)<|.C (.A 5<|.r5<|.I (.I (.L 1)<|.C<|.S rK)<|.C<|.I 0)<|.C (.F 6 (.S (.I (.L 1)<|.C<|.S rK) (.C<|.I 1)<|.C .N)<|.C (.A 5<|.F .A (.F .A (.L 5)<|.E<|.C (.C<|.S eS) .N)<|.L 6) .N)<|.C (.I (.O (.P<|.A .N (.L 3)<|.J 8 (.F .A (.F .A (.I (.L 8)<|.C<|.I 0)<|.C<|.S [32])<|.I (.L 8)<|.C<|.I 1) (.I (.L 1)<|.C<|.S fT)<|.C<|.B aB)<|.A .N (.L 4)<|.L 5) (.C (.R<|.C<|.B aP) .N) .N)<|.C (.A 7<|.T<|.C (.B (.L 0) 13)<|.C (.B (.L 0) 15)<|.C (.B (.L 0) 29)<|.C (.B (.L 0) 19) .N)<|.C (.R<|.P<|.A .E (.L 7)<|.T<|.C (.I (.L 1)<|.C<|.S kJ)<|.C (.I (.L 1)<|.C<|.S ph)<|.C (.I (.L 1)<|.C<|.S xT)<|.C (.I (.L 1)<|.C<|.S A2) .N) .N
noncomputable def fh:bN:=.C (.D 8 9<|.I (.T<|.C (.T<|.C (.C<|.S [104,116,109,108,32,98,111,100,121])<|.C (.C<|.S []) .N)<|.C (.T<|.C (.C<|.S aJ)<|.C (.C<|.S aR) .N)<|.C (.T<|.C (.C<|.S aJ)<|.C (.C<|.S fj) .N) .N)<|.F .M (.I (.L 0)<|.C<|.I 0)<|.C<|.I 3)<|.C (.A 1<|.D (.C<|.A 665) .N)<|.C (.F 2 (.T<|.C (.C<|.S fm)<|.C (.C<|.S xU)<|.C (.C<|.S Ly)<|.C (.C<|.S [114,111,119])<|.C (.C<|.S [99,101,108,108])<|.C (.C<|.S i7)<|.C (.C<|.S uw) .N)<|.C (.C (.L 1) (.F .A (.C<|.S [105,110,32])<|.L 2)<|.C<|.A 686) .N)<|.C (.C (.L 1) (.C<|.S mX)<|.C<|.A 693)<|.C (.C (.L 1) (.C<|.S A1)<|.C<|.A 700)<|.C (.A 3<|.D (.C<|.A 503)<|.C (.L 1) .N)<|.C (.A 4<|.Q [fT,rK,ph,kJ,rL,xT]<|.C (.E .N)<|.C (.E<|.C (.E .N) .N)<|.C (.E .N)<|.C (.C<|.S ec)<|.C (.E .N)<|.C (.C<|.B aP) .N)<|.C (.C (.L 4) (.C<|.S A2)<|.C<|.B aB)<|.C (.C (.L 4) (.C<|.S A3)<|.A .E (.L 9)<|.C<|.S aR)<|.C (.F 5 (.Y<|.L 8)<|.C (.E<|.D (.C<|.A 560)<|.C (.L 3)<|.C (.L 5) .N)<|.C (.E<|.D (.C<|.A 728)<|.C (.L 4)<|.C (.C<|.S aJ)<|.C (.L 5)<|.C (.T .N) .N) .N)<|.C (.A 6<|.I (.I (.L 4)<|.C<|.S fT)<|.C<|.I 0)<|.C (.I (.A .N (.L 9)<|.C<|.S []) (.C (.B (.L 3) 22<|.M (.B (.L 3) 0) 46<|.C (.L 9) .N) .N) .N)<|.C (.I (.I (.L 4)<|.C<|.S A3) (.C (.B (.L 3) 15<|.E<|.C (.C<|.S cX) .N)<|.C (.C (.L 4) (.C<|.S ph)<|.E<|.C (.C<|.S cX) .N)<|.C (.C (.L 4) (.C<|.S kJ)<|.C<|.S cX) .N) .N)<|.C (.E<|.M (.L 3) 49<|.C (.I (.L 4)<|.C<|.S kJ) .N)<|.C (.B (.L 3) 17<|.C<|.I 1)<|.C (.G 7 (.C<|.I 14)<|.C (.A 10<|.T<|.C (.C<|.S dY) .N)<|.C (.I (.A .L (.L 7)<|.C<|.I 13) (.C (.A 10<|.D (.C<|.A 679)<|.C (.I (.L 0)<|.F .A (.L 7)<|.C<|.I 1)<|.C (.L 7) .N) .N) .N)<|.C (.E<|.M (.L 3) 53<|.C (.L 10) .N)<|.C (.I (.N<|.I (.L 4)<|.C<|.S xT) (.C (.E<|.D (.C<|.A 773)<|.C (.L 4)<|.C (.L 10) .N) .N) .N)<|.C (.I (.N<|.P<|.D (.C<|.A 783)<|.C (.L 3)<|.C (.L 4) .N) (.C (.R<|.C<|.B aP) .N) .N) .N)<|.C (.I (.P<|.A .N (.J 11 (.D (.C<|.A 778)<|.C (.B (.L 3) 0)<|.C (.L 11) .N) (.I (.B (.B (.L 3) 0) 8)<|.C<|.I 0)<|.C<|.B aB)<|.E<|.C (.L 6) .N) (.C (.R<|.C<|.B aP) .N) .N)<|.C (.R<|.G (.A .E (.B (.L 3) 24)<|.I (.L 4)<|.C<|.S rL)<|.P<|.A .E (.B (.L 3) 18)<|.Q [] .N) .N
noncomputable def qA:bN:=.C (.A 1<|.D (.C<|.A 672) .N)<|.C (.G 2 (.C<|.I 3)<|.C (.A 3<|.E .N)<|.C (.G 4 (.C<|.I 14)<|.C (.A 5<|.F .A (.F .B (.C<|.I 14)<|.L 2)<|.L 4)<|.C (.E<|.H (.L 3)<|.F .A (.I (.I (.L 1)<|.L 2)<|.L 4)<|.R (.A .L (.L 5)<|.K<|.L 0) (.I (.L 0)<|.L 5)<|.C<|.I 0) .N)<|.C (.I (.N<|.iso 788<|.L 3) (.C (.R<|.C<|.B aP) .N) .N) .N)<|.C (.R<|.C<|.B aB) .N
def YG:cE:=⟨2,2,[],Va⟩
def YR:cE:=⟨2,5,[],AV⟩
def Y2:cE:=⟨1,1,[],Vb⟩
def Y3:cE:=⟨1,1,[],Ew⟩
def XJ:cE:=⟨3,4,[],VC⟩
def XM:cE:=⟨1,1,[],VR⟩
def XN:cE:=⟨2,2,[],VQ⟩
def XO:cE:=⟨2,3,[],VO⟩
def XP:cE:=⟨0,0,[],VI⟩
def XQ:cE:=⟨0,0,[],VD⟩
def XR:cE:=⟨2,2,[],Vd⟩
def XS:cE:=⟨2,2,[],Vh⟩
def XT:cE:=⟨1,1,[],Vg⟩
def XU:cE:=⟨1,1,[],Vc⟩
def XW:cE:=⟨1,1,[],Ve⟩
def XX:cE:=⟨1,2,[],Vf⟩
def XY:cE:=⟨2,3,[],AW⟩
def XZ:cE:=⟨2,4,[],Ex⟩
def X4:cE:=⟨1,2,[],EA⟩
def X5:cE:=⟨1,1,[],Vk⟩
def X6:cE:=⟨6,6,[(.S []),(.S []),.T,(.S [])],Vi⟩
def X7:cE:=⟨4,5,[(.S aJ),.T],Vj⟩
def X8:cE:=⟨2,2,[],Vp⟩
def X9:cE:=⟨4,5,[(.I (-1))],Vl⟩
def X_:cE:=⟨2,2,[],Vo⟩
def Ya:cE:=⟨2,2,[],Vn⟩
def Yb:cE:=⟨3,4,[],Vq⟩
def Yc:cE:=⟨3,3,[],Vm⟩
def Yd:cE:=⟨2,4,[],AY⟩
def Ye:cE:=⟨3,3,[(.B aP)],U6⟩
def Yf:cE:=⟨2,2,[],U4⟩
def Yg:cE:=⟨2,2,[],U9⟩
def Yh:cE:=⟨3,4,[],U_⟩
def Yi:cE:=⟨2,2,[],U8⟩
def Yj:cE:=⟨2,2,[],U5⟩
def Yk:cE:=⟨1,1,[],U3⟩
def Yl:cE:=⟨1,2,[],U7⟩
def Ym:cE:=⟨2,4,[],VP⟩
def Yn:cE:=⟨1,1,[],Ez⟩
def Yo:cE:=⟨2,5,[(.I (-1))],VW⟩
def Yp:cE:=⟨2,7,[],VL⟩
def Yq:cE:=⟨4,4,[(.S aJ)],VS⟩
def Yr:cE:=⟨4,7,[.T,(.S aJ)],VK⟩
def Ys:cE:=⟨2,3,[],VM⟩
def Yt:cE:=⟨2,4,[],VE⟩
def Yu:cE:=⟨1,2,[],VU⟩
def Yv:cE:=⟨3,4,[],VT⟩
def Yw:cE:=⟨1,4,[],jW⟩
def Yx:cE:=⟨2,2,[],VV⟩
def Yy:cE:=⟨1,1,[],Ln⟩
def Yz:cE:=⟨1,1,[],VF⟩
def YA:cE:=⟨1,1,[],VN⟩
def YB:cE:=⟨1,1,[],VY⟩
def YC:cE:=⟨2,3,[],EC⟩
def YD:cE:=⟨2,2,[],mS⟩
def YE:cE:=⟨2,3,[],VJ⟩
def YF:cE:=⟨0,0,[],VZ⟩
def YH:cE:=⟨0,0,[],Vt⟩
def YI:cE:=⟨2,6,[],pg⟩
def YJ:cE:=⟨2,3,[],Vr⟩
def YK:cE:=⟨2,2,[],Vw⟩
def YL:cE:=⟨2,2,[],Vu⟩
def YM:cE:=⟨2,2,[],Vy⟩
def YN:cE:=⟨1,1,[],Vx⟩
def YO:cE:=⟨2,3,[],Vz⟩
def YP:cE:=⟨4,5,[],xO⟩
def YQ:cE:=⟨1,2,[],VA⟩
def YS:cE:=⟨1,4,[],pd⟩
def YT:cE:=⟨2,6,[],n9⟩
def YU:cE:=⟨2,2,[],Vs⟩
def YV:cE:=⟨2,2,[],Vv⟩
def YW:cE:=⟨2,5,[],n_⟩
def YX:cE:=⟨2,2,[],jx⟩
def YY:cE:=⟨2,5,[],AX⟩
def YZ:cE:=⟨2,9,[],uu⟩
def Y0:cE:=⟨1,12,[],fh⟩
def Y1:cE:=⟨1,6,[],qA⟩
def Bj:List (Nat×cE):=[(67,YG),(74,YR),(81,Y2),(88,Y3),(144,XJ),(172,XM),(179,XN),(186,XO),(193,XP),(200,XQ),(214,XR),(221,XS),(228,XT),(235,XU),(242,XW),(277,XX),(284,XY),(291,XZ),(312,X4),(326,X5),(335,X6),(344,X7),(351,X8),(373,X9),(387,X_),(408,Ya),(415,Yb),(422,Yc),(436,Yd),(451,Ye),(458,Yf),(465,Yg),(472,Yh),(479,Yi),(486,Yj),(493,Yk),(500,Yl),(514,Ym),(521,Yn),(536,Yo),(543,Yp),(551,Yq),(560,Yr),(567,Ys),(574,Yt),(581,Yu),(595,Yv),(602,Yw),(609,Yx),(616,Yy),(623,Yz),(630,YA),(637,YB),(644,YC),(651,YD),(658,YE),(665,YF),(672,YH),(679,YI),(686,YJ),(693,YK),(700,YL),(707,YM),(714,YN),(721,YO),(728,YP),(733,YQ),(740,YS),(745,YT),(752,YU),(759,YV),(766,YW),(773,YX),(778,YY),(783,YZ),(788,Y0),(795,Y1)]
noncomputable def pv:List (Nat×Nat):=[(133,67),(301,214),(425,326),(503,451)]
noncomputable def F1:List ((Nat×Nat)×Nat):=[((503,41),493),((503,38),458),((503,53),486),((503,42),500),((503,39),479),((503,49),465),((503,37),472),((133,51),88),((133,50),81),((133,47),74),((301,31),235),((301,48),284),((301,40),242),((301,33),277),((301,34),228),((301,52),291),((301,47),221),((425,35),335),((425,46),344),((425,43),373),((425,32),422),((425,45),408),((425,36),387),((425,44),351),((425,30),415)]
noncomputable def attrL:List String:=["tree","items","kinds","spaces","names","attrs","texts","parents","children","contents","rules","stack","formatting","mode","original","modes","head","form","owners","is_frameset_ok","is_scripting","is_foster","context","quirks","errors","pending","wish","is_skipping","is_acknowledged","is_done","value","current","is_html","name","pop","add","remove","use","error","process","many","adjusted","is_foreign","insert","text","last","element","push","has_name","to","mark","clear_to_mark","pop_until","feed"]
noncomputable def abh:List (Nat×List String):=[(67,["self","tree"]),(74,["self","node","count","earliest","at"]),(81,["self"]),(88,["self"]),(144,["tree","a","b","pair"]),(172,["name"]),(179,["tree","node"]),(186,["tree","node","encoding"]),(193,[]),(200,[]),(214,["self","tree"]),(221,["self","node"]),(228,["self"]),(235,["self"]),(242,["self"]),(277,["self","node"]),(284,["self","name","node"]),(291,["self","names","name","node"]),(312,["stack","names"]),(326,["self"]),(335,["self","kind","space","name","attrs","text"]),(344,["self","name","space","attrs","node"]),(351,["self","text"]),(373,["self","parent","node","before","at"]),(387,["self","node"]),(408,["self","parent"]),(415,["self","node","name","pair"]),(422,["self","node","name"]),(436,["tree","node","out","up"]),(451,["self","rules","is_scripting"]),(458,["self","word"]),(465,["self","mode"]),(472,["self","name","token","rule"]),(479,["self","token"]),(486,["self","token"]),(493,["self"]),(500,["self","node"]),(514,["builder","token","tree","node"]),(521,["builder"]),(536,["builder","target","tree","here","before"]),(543,["builder","sign","tree","ahead","parent","before","at"]),(551,["builder","name","attrs","space"]),(560,["builder","name","attrs","space","node","parent","before"]),(567,["builder","token","node"]),(574,["builder","node","tree","name"]),(581,["name","table"]),(595,["builder","node","at","name"]),(602,["builder","at","mode","node"]),(609,["builder","token"]),(616,["builder"]),(623,["builder"]),(630,["token"]),(637,["name"]),(644,["builder","token","mode"]),(651,["builder","token"]),(658,["builder","token","kind"]),(665,[]),(672,[]),(679,["number","place","starts","ends","others","drawn"]),(686,["builder","token","node"]),(693,["builder","token"]),(700,["builder","token"]),(707,["state","word"]),(714,["node"]),(721,["state","sign","kids"]),(728,["state","space","name","attrs","node"]),(733,["state","at"]),(740,["state","mode","told","node"]),(745,["state","token","implied","shells","inner","node"]),(752,["state","token"]),(759,["state","token"]),(766,["state","token","heads","turns","name"]),(773,["state","token"]),(778,["tree","node","inside","kids","kid"]),(783,["builder","state","tree","held","listed","due","group","told","node"]),(788,["digits","rules","mode","builder","state","name","root","place","words","context","token","node"]),(795,["script","bases","scene","digits","k","place"])]
def ao:gM:={fn:=λa=>Bj.lookup a,cls:=λa=>pv.lookup a,r6:=λc a=>F1.lookup (c,a)}
end Mine
end
section
namespace Mine
open PySem PySem.W PySem.Calls PyProof.Rows
abbrev de:=List (Addr×Addr)
def jv(a:Nat):Option Str:=(attrL[a]?).map mF
noncomputable def gV(s:aw):Str:=⟨s.toArray⟩
theorem DC{a b:aw}(h:gV a=gV b):a=b:=congrArg (λx=>x.cps.toList) h
theorem aft(a b:aw):gV a++gV b=gV (a++b):=by
 show T7 _ _=_;unfold gV T7;simp
structure dC where
 prog:Program
 w:World
 K:Frag
section
variable(X:dC)(ak:de)
def Uz(xs:List Int)(v:Value):Prop:=∃(a:Addr)(vs:List Value),v=.ref a/\(∀h:Heap,X.K.In h->h.IsList a vs.toArray)/\vs.length=xs.length/\∀(i:Nat)(x:Int),xs[i]?=ae x->∃t,vs[i]?=ae (.int x t)
def cL:V->Value->Prop
 | .C xs,v=>Uz X xs v
 | .N,v=>v=.none
 | .B b,v=>v=.bool b
 | .I i,v=>∃t,v=.int i t
 | .S s,v=>∃t,v=.str (gV s) t
 | .R n,v=>∃p,ak[n]?=ae p/\v=.ref p.1
 | .A a,v=>v=.ref a
 | .T,v=>∃a,v=.ref a/\X.K.lookup a=ae {cls:=.type "tuple",data:=.seq #[]}
inductive di:List V->List Value->Prop
 | N:di [] []
 | C {x v xs vs}:cL X ak x v->di xs vs->di (x::xs) (v::vs)
def g0:Option V->Option Value->Prop
 | none,v=>v=az
 | some x,v=>∃y,v=ae y/\cL X ak x y
end
theorem no{bg:Type}{r:bg}{P:Prop}(e:az=ae r):P:=nomatch e
theorem UR{bg:Type}{l r:List bg}{i:Nat}{y:bg}(e:l[i]?=ae y):(l++r)[i]?=ae y:=
 (gh (jL.mp e).1).trans e
theorem j4{bg:Type}{l r:List bg}{i:Nat}{y:bg}(h:l <+: r)(e:l[i]?=ae y):r[i]?=ae y:=by
 obtain⟨t,rfl⟩:=h;exact UR e
theorem lh{bg:Type}{l:List bg}{i:Nat}{y:bg}(e:l[i]?=ae y):i<l.length:=(jL.mp e).1
theorem Lk{bg:Type}{l:List bg}{i:Nat}(h:i<l.length):∃y,l[i]?=ae y:=⟨_,jn h⟩
theorem PB{bg:Type}{l:List bg}{y:bg}:(l++[y])[l.length]?=ae y:=List.getElem?_concat_length
theorem uJ{bg dR:Type}{l:List bg}{m:List dR}{y:bg}(h:l.length=m.length):(l++[y])[m.length]?=ae y:=h▸PB
theorem q5{bg:Type}{l:List bg}{x y:bg}{i:Nat}{P:Prop}(e:(l++[x])[i]?=ae y)(k1:l[i]?=ae y->P)(k2:i=l.length->x=y->P):P:=by
 by_cases h:i<l.length
 .exact k1 ((gh h).symm.trans e)
 .have h1:=lh e;rw[ba]at h1;have aD:i=l.length:=Nat.le_antisymm (Nat.lt_succ_iff.mp h1) (mG.mp h);subst aD;exact k2 rfl (dE (PB.symm.trans e))
theorem Dv{bg:Type}{l:List bg}{x y:bg}{i j:Nat}{P:Prop}(e:(l.set j x)[i]?=ae y)(k1:j≠i->l[i]?=ae y->P)(k2:j=i->x=y->P):P:=by
 by_cases h:j=i
 .subst h;rw[List.getElem?_set_self']at e;obtain⟨_,_,q⟩:=J5.mp e;exact k2 rfl q
 .exact k1 h ((rk h).symm.trans e)
theorem cz{bg dR:Type}{x:Option bg}{f:bg->Option dR}{r:dR}{P:Prop}(e:x.bind f=ae r)(k:∀a,x=ae a->f a=ae r->P):P:=by
 cases x with
 | none=>exact no e
 | some a=>exact k a ab e
theorem hr{bg dR:Type}{x:Option bg}{f:bg->dR}{r:dR}{P:dR->Prop}(e:x.map f=ae r)(k:∀a,x=ae a->P (f a)):P r:=by
 cases x with
 | none=>exact no e
 | some a=>cases e;exact k a ab
theorem dZ{bg:Type}{c:Prop}[Decidable c]{x:Option bg}{r:bg}{P:Prop}(e:(if c then x else az)=ae r)(k:c->x=ae r->P):P:=by
 by_cases h:c
 .rw[if_pos h]at e;exact k h e
 .rw[if_neg h]at e;exact no e
theorem eJ{bg dR:Type}{a:bg}{h h':dR}{v:bg}{P:bg->dR->Prop}(e:ae (a,h)=ae (v,h'))(k:P a h):P v h':=by cases e;exact k
theorem i4{bg dR:Type}{x:Option (dR×H)}{f:dR->H->Option bg}{r:bg}{P:Prop}(e:B x f=ae r)(k:∀v h,x=ae (v,h)->f v h=ae r->P):P:=cz e λa=>k a.1 a.2
theorem pK{dR:Type}{h h':H}{o:Option dR}{r:dR}{P:dR->H->Prop}(e:ok h o=ae (r,h'))(k:o=ae r->P r h):P r h':=by
 cases o with
 | none=>exact no e
 | some a=>cases e;exact k ab
theorem Q2{h h':H}{o:Option Bool}{v:V}{P:V->H->Prop}(e:zN h o=ae (v,h'))(k:∀b,o=ae b->P (.B b) h):P v h':=by
 cases o with
 | none=>exact no e
 | some a=>cases e;exact k a ab
theorem acR{v:V}{n:Nat}{P:V->Prop}(e:v.gG=ae n)(k:P (.R n)):P v:=by
 cases v with
 | R n=>exact dE e▸k
 | _=>exact no e
theorem FI{o:O}{xs:List V}(e:o.yl=ae xs):o=.L xs:=by
 cases o with
 | L n=>exact congrArg _ (dE e)
 | _=>exact no e
theorem R7{o:O}{xs:List V}(e:o.xc=ae xs):o=.T xs:=by
 cases o with
 | T n=>exact congrArg _ (dE e)
 | _=>exact no e
theorem WQ{o:O}{xs:List (aw×V)}(e:o.NA=ae xs):o=.S xs:=by
 cases o with
 | S n=>exact congrArg _ (dE e)
 | _=>exact no e
theorem Wg{o:O}{c:Nat×List (Nat×V)}(e:o.c?=ae c):o=.A c.1 c.2:=by
 cases o with
 | A n m=>exact dE e▸rfl
 | _=>exact no e
theorem OE{o:O}{xs:List V}(e:o.kf=ae xs):o=.L xs\/o=.T xs:=by
 cases o with
 | L n=>exact .inl (congrArg _ (dE e))
 | T n=>exact .inr (congrArg _ (dE e))
 | _=>exact no e
theorem rX{h:H}{n:Nat}{xs:List V}(e:lst h n=ae xs):h[n]?=ae (.L xs):=cz e λ_ e1 e2=>FI e2▸e1
theorem NK{h:H}{n:Nat}{xs:List (aw×V)}(e:x6 h n=ae xs):h[n]?=ae (.S xs):=cz e λ_ e1 e2=>WQ e2▸e1
section
variable{X:dC}{ak a9:de}
theorem cL.mono(hp:ak <+: a9){x:V}{v:Value}(h:cL X ak x v):cL X a9 x v:=by
 cases x with
 | R n=>exact let ⟨p,e,q⟩:=h;⟨p,j4 hp e,q⟩
 | _=>exact h
theorem cL.back(hp:ak <+: a9){x:V}{v v':Value}(h:cL X ak x v)(h':cL X a9 x v'):cL X ak x v':=by
 cases x with
 | R n=>exact let ⟨p,e,_⟩:=h;let ⟨q,e',r⟩:=h';⟨p,e,r.trans (congrArg (λx:Addr×Addr=>Value.ref x.1) (dE (e'.symm.trans (j4 hp e))))⟩
 | _=>exact h'
theorem di.mono(hp:ak <+: a9){xs:List V}{vs:List Value}(h:di X ak xs vs):di X a9 xs vs:=by
 induction h with
 | N=>exact .N
 | C a _ ih=>exact .C (a.mono hp) ih
theorem di.back(hp:ak <+: a9){xs:List V}{vs vs':List Value}(h:di X ak xs vs)(h':di X a9 xs vs'):di X ak xs vs':=by
 induction h generalizing vs' with
 | N=>cases h';exact .N
 | C a _ ih=>cases h' with | C b c=>exact .C (a.back hp b) (ih c)
theorem g0.mono(hp:ak <+: a9){x:Option V}{v:Option Value}(h:g0 X ak x v):g0 X a9 x v:=by
 cases x with
 | none=>exact h
 | some x=>exact let ⟨y,e,h⟩:=h;⟨y,e,h.mono hp⟩
theorem g0.back(hp:ak <+: a9){x:Option V}{v v':Option Value}(h:g0 X ak x v)(h':g0 X a9 x v'):g0 X ak x v':=by
 cases x with
 | none=>exact h'
 | some x=>exact let ⟨_,_,h⟩:=h;let ⟨y',e,h'⟩:=h';⟨y',e,h.back hp h'⟩
theorem g0.get{o:Option V}{q:Option Value}{r:V}{P:Prop}(h:g0 X ak o q)(e:o=ae r)(k:∀y,q=ae y->cL X ak r y->P):P:=by
 subst e;exact let ⟨y,a,b⟩:=h;k y a b
theorem g0.w_{o:Option V}{q:Option Value}(h:g0 X ak o q):q.isSome=o.isSome:=by
 cases o with
 | none=>exact congrArg _ (show q=az from h)
 | some x=>exact let ⟨_,e,_⟩:=h;congrArg _ e
theorem di.length{xs:List V}{vs:List Value}(h:di X ak xs vs):vs.length=xs.length:=by
 induction h with
 | N=>rfl
 | C _ _ ih=>exact congrArg (·+1) ih
theorem di.size{xs:List V}{vs:List Value}(h:di X ak xs vs):vs.toArray.size=xs.length:=h.length
theorem di.get{xs:List V}{vs:List Value}(h:di X ak xs vs):∀{i:Nat}{x:V},xs[i]?=ae x->∃v,vs[i]?=ae v/\cL X ak x v:=by
 induction h with
 | N=>exact λe=>no e
 | C a _ ih=>
  intro i x e;cases i with
  | zero=>cases e;exact⟨_,ab,a⟩
  | succ i=>exact ih e
theorem di.get_none{xs:List V}{vs:List Value}(h:di X ak xs vs){i:Nat}(e:xs[i]?=az):vs[i]?=none:=
 J2.mpr (h.length.symm▸J2.mp e)
theorem di.append{xs ys:List V}{vs ws:List Value}(h:di X ak xs vs)(g:di X ak ys ws):di X ak (xs++ys) (vs++ws):=by
 induction h with
 | N=>exact g
 | C a _ ih=>exact .C a ih
theorem di.set{xs:List V}{vs:List Value}(h:di X ak xs vs):∀{i:Nat}{x:V}{v:Value},cL X ak x v->di X ak (xs.set i x) (vs.set i v):=by
 induction h with
 | N=>exact λ_=>.N
 | C a b ih=>
  intro i x v g;cases i with
  | zero=>exact .C g b
  | succ i=>exact .C a (ih g)
theorem di.take{xs:List V}{vs:List Value}(h:di X ak xs vs):∀n:Nat,di X ak (xs.take n) (vs.take n):=by
 induction h with
 | N=>intro n;cases n<;>exact .N
 | C a _ ih=>intro n;cases n with
  | zero=>exact .N
  | succ n=>exact .C a (ih n)
theorem di.drop{xs:List V}{vs:List Value}(h:di X ak xs vs):∀n:Nat,di X ak (xs.drop n) (vs.drop n):=by
 induction h with
 | N=>intro n;cases n<;>exact .N
 | C a b ih=>intro n;cases n with
  | zero=>exact .C a b
  | succ n=>exact ih n
theorem di.dropLast{xs:List V}{vs:List Value}(h:di X ak xs vs):di X ak xs.dropLast vs.dropLast:=by
 rw[J7,J7,h.length];exact h.take _
theorem cL.handed{x:V}{v:Value}(h:cL X ak x v):handedIn v=true:=by
 cases x with
 | I i=>exact let ⟨_,e⟩:=h;e▸rfl
 | S i=>exact let ⟨_,e⟩:=h;e▸rfl
 | R i=>exact let ⟨_,_,e⟩:=h;e▸rfl
 | T=>exact let ⟨_,e,_⟩:=h;e▸rfl
 | C xs=>exact let ⟨_,_,e,_⟩:=h;e▸rfl
 | _=>exact(show v=_ from h)▸rfl
end
noncomputable def pA(name:Str)(es:List DictEntry):Option Value:=(es.find? (·.key.isStr name)).map (·.val)
section
variable(X:dC)(ak:de)
def kE(t:String)(xs:List V)(a:Obj):Prop:=∃(vs:List Value)(n:Nat),a={cls:=.type t,data:=.seq vs.toArray n}/\di X ak xs vs
def ik{gH hH:Type}[BEq gH][DecidableEq hH](knd:KeyKind X.prog X.w hH)(f:gH->hH)(es:List (gH×V))(a:Obj):Prop:=
 ∃kvs,(∀(h:Heap) b,h.get? b=ae a->h.DictOf knd b kvs)/\kvs.length<=es.length/\∀k,g0 X ak (es.lookup k) (valueAt kvs (f k))
def Ut(c:Nat)(cy:List (Nat×V))(p:Addr×Addr)(a b:Obj):Prop:=p.1≠p.2/\c∈pv.map (·.1)/\a=instObj c p.2/\∃es n,b=dictOf es n/\(∀e∈es,∃x t,e.key=.str x t)/\es.length<=cy.length/\∀a nm,jv a=ae nm->g0 X ak (cy.lookup a) (pA nm es)
def kD(p:Addr×Addr)(a b:Obj):O->Prop
 | .L xs=>kE X ak "list" xs a
 | .T xs=>kE X ak "tuple" xs a
 | .S es=>ik X ak (strKind X.prog X.w) gV es a
 | .I es=>ik X ak (intKind X.prog X.w) id es a
 | .A c cy=>Ut X ak c cy p a b
def kC(h:Heap)(o:O)(p:Addr×Addr):Prop:=∃a b,h.get? p.1=ae a/\h.get? p.2=ae b/\kD X ak p a b o
structure bG(au:Heap)(hp:List O)(h:Heap):Prop where
 dN:au.StaysIn h
 len:ak.length=hp.length
 obj:∀(n:Nat)(o:O)(p:Addr×Addr),hp[n]?=ae o->ak[n]?=ae p->kC X ak h o p
 apart:∀(i j:Nat)(p q:Addr×Addr),ak[i]?=ae p->ak[j]?=ae q->i≠j->p.1≠q.1/\p.1≠q.2/\p.2≠q.1/\p.2≠q.2
 off:∀(i:Nat)(p:Addr×Addr),ak[i]?=ae p->au.get? p.1=az/\au.get? p.2=az/\(p.1==oZ)=aP
 low:∃a o,@LT.lt Nat _ oZ a/\au.get? a=ae o
end
section
variable{X:dC}{ak a9:de}{h h' au fs:Heap}{hp hp':List O}{p:Addr×Addr}{o:O}{a b a' b':Obj}
theorem kE.mono(e:ak <+: a9){t:String}{xs:List V}(x:kE X ak t xs a):kE X a9 t xs a:=let ⟨vs,n,q,r⟩:=x;⟨vs,n,q,r.mono e⟩
theorem kE.back(e:ak <+: a9){t:String}{xs:List V}(y:kE X ak t xs a')(x:kE X a9 t xs a):kE X ak t xs a:=let ⟨vs,n,q,r⟩:=x;let ⟨_,_,_,r'⟩:=y;⟨vs,n,q,r'.back e r⟩
section
variable{gH hH:Type}[BEq gH][DecidableEq hH]{knd:KeyKind X.prog X.w hH}{f:gH->hH}{es:List (gH×V)}
theorem ik.mono(e:ak <+: a9)(x:ik X ak knd f es a):ik X a9 knd f es a:=let ⟨vs,n,q,r⟩:=x;⟨vs,n,q,λk=>(r k).mono e⟩
theorem ik.back(e:ak <+: a9)(y:ik X ak knd f es a')(x:ik X a9 knd f es a):ik X ak knd f es a:=let ⟨vs,n,q,r⟩:=x;let ⟨_,_,_,r'⟩:=y;⟨vs,n,q,λk=>(r' k).back e (r k)⟩
end
theorem kD.mono(e:ak <+: a9)(x:kD X ak p a b o):kD X a9 p a b o:=by
 cases o with
 | L xs=>exact kE.mono e x
 | T xs=>exact kE.mono e x
 | S es=>exact ik.mono e x
 | I es=>exact ik.mono e x
 | A c cy=>exact let ⟨a,i,b,es,n,u,v,z,d⟩:=x;⟨a,i,b,es,n,u,v,z,λk nm q=>(d k nm q).mono e⟩
theorem kD.back(e:ak <+: a9)(y:kD X ak p a' b' o)(x:kD X a9 p a b o):kD X ak p a b o:=by
 cases o with
 | L xs=>exact kE.back e y x
 | T xs=>exact kE.back e y x
 | S es=>exact ik.back e y x
 | I es=>exact ik.back e y x
 | A c cy=>exact let ⟨a,i,b,es,n,u,v,z,d⟩:=x;let ⟨_,_,_,_,_,_,_,_,d'⟩:=y;⟨a,i,b,es,n,u,v,z,λk nm q=>(d' k nm q).back e (d k nm q)⟩
theorem kC.keeps(x:kC X ak h o p)(k1:∀o,h.get? p.1=ae o->h'.get? p.1=ae o)(k2:∀o,h.get? p.2=ae o->h'.get? p.2=ae o):kC X ak h' o p:=let ⟨a,b,e,q,r⟩:=x;⟨a,b,k1 _ e,k2 _ q,r⟩
theorem kC.mono(e:ak <+: a9)(x:kC X ak h o p):kC X a9 h o p:=let ⟨a,b,u,v,r⟩:=x;⟨a,b,u,v,r.mono e⟩
noncomputable def adr(ak:de):List Addr:=ak.map (·.1)++ak.map (·.2)
theorem qw{i:Nat}(h:ak[i]?=ae p):p.1∈adr ak:=iG _ (Ka (rm h))
theorem qx{i:Nat}(h:ak[i]?=ae p):p.2∈adr ak:=gr _ (Ka (rm h))
theorem HA{a:Addr}{P:Addr->Prop}(h:a∈adr ak)(k:∀(i:Nat)(p:Addr×Addr),ak[i]?=ae p->P p.1/\P p.2):P a:=by
 rcases gW.mp h with h | h
 .obtain⟨p,hp,rfl⟩:=ig.mp h;obtain⟨i,hi⟩:=J_ hp;exact(k i p hi).1
 .obtain⟨p,hp,rfl⟩:=ig.mp h;obtain⟨i,hi⟩:=J_ hp;exact(k i p hi).2
def KR(ak:de)(h h':Heap):Prop:=∀b o,b∈adr ak->h.get? b=ae o->h'.get? b=ae o
theorem bG.keeps(x:bG X ak au hp h)(s:au.StaysIn h')(k:KR ak h h'):bG X ak au hp h':=
 ⟨s,x.len,λn o p a b=>(x.obj n o p a b).keeps (λ_=>k _ _ (qw b)) λ_=>k _ _ (qx b),x.apart,x.off,x.low⟩
theorem bG.lows(x:bG X ak au hp h):oZ<h.objs.size:=let ⟨_,_,l,e⟩:=x.low;fg l (Ay (x.dN _ _ e))
theorem bG.here(x:bG X ak au hp h){i:Nat}(e:ak[i]?=ae p):∃a b,h.get? p.1=ae a/\h.get? p.2=ae b:=
 let ⟨_,q⟩:=Lk (x.len▸lh e);let ⟨a,b,u,v,_⟩:=x.obj i _ p q e;⟨a,b,u,v⟩
theorem bG.there(x:bG X ak au hp h){a:Addr}(m:a∈adr ak):∃o,h.get? a=ae o:=HA (P:=λa=>∃o,h.get? a=ae o) m λ_ _ e=>let ⟨a,b,u,v⟩:=x.here e;⟨⟨a,u⟩,⟨b,v⟩⟩
theorem bG.abm(x:bG X ak au hp h){a:Addr}(m:a∈adr ak):au.get? a=none:=HA (P:=λa=>au.get? a=az) m λi p e=>let ⟨a,b,_⟩:=x.off i p e;⟨a,b⟩
theorem bG.pI(x:bG X ak au hp h){b:Addr}{o:Obj}(e:au.get? b=ae o):b∉adr ak:=λm=>no ((x.abm m).symm.trans e)
theorem bG.nF(x:bG X ak au hp h){a:Addr}(ha:h.objs.size<=a):a∉adr ak:=λm=>let ⟨_,e⟩:=x.there m;absurd (Ay e) (mG.mpr ha)
theorem PI{h h':Heap}{a:Addr}(k:h.StaysIn h')(np:∀o,h'.get? a=ae o->False):h.get? a=none:=by
 cases q:h.get? a with
 | none=>rfl
 | some o=>exact(np o (k _ _ q)).elim
theorem bG.fresh(x:bG X ak au hp h){a:Addr}(ha:h.objs.size<=a):au.get? a=none:=PI x.dN λ_ e=>absurd (Ay e) (mG.mpr ha)
theorem bG.nd(x:bG X ak au hp h):au.get? h.objs.size=none:=x.fresh (cC _)
theorem bG.yc(x:bG X ak au hp h){a:Addr}(ha:h.objs.size<=a):(a==oZ)=false:=
 beq_eq_false_iff_ne.mpr (TR (Ap x.lows ha))
theorem bG.push(x:bG X ak au hp h)(o:Obj):bG X ak au hp (h.push o):=
 x.keeps (λ_ _ e=>rh o (x.dN _ _ e)) λ_ _ _ e=>rh o e
theorem bG.extBut{a:Addr}(x:bG X ak au hp h)(k:Kr a h h')(ha:a∉adr ak)(h0:au.get? a=az):bG X ak au hp h':=
 x.keeps (λb o e=>k b o (λq=>no ((q▸h0).symm.trans e)) (x.dN b o e)) λ_ _ m=>k _ _ λq=>ha (q▸m)
theorem bG.sameBut{a:Addr}(x:bG X ak au hp h)(k:xt a h h')(ha:a∉adr ak)(h0:au.get? a=az):bG X ak au hp h':=x.extBut k.extBut ha h0
theorem bG.adopt(x:bG X ak au hp h)(s:au.StaysIn h')(k:KR ak h h')(a1:p.1∉adr ak)(a2:p.2∉adr ak)(gb:au.get? p.1=az)(n2:au.get? p.2=az)(l3:(p.1==oZ)=aP)(r:kC X (ak++[p]) h' o p):
 bG X (ak++[p]) au (hp++[o]) h' where
 dN:=s
 len:=(ba (bs:=[p])).trans ((congrArg (·+1) x.len).trans (ba (bs:=[o])).symm)
 obj:=λn o' q a b=>q5 b (λb=>q5 a (λa=>(((x.obj n o' q a b).keeps (λ_=>k _ _ (qw b)) λ_=>k _ _ (qx b))).mono (kv _ _)) λe _=>absurd (lh b) (mG.mpr (xu (x.len.trans e.symm))))
  λe e2=>q5 a (λa=>absurd (lh a) (mG.mpr (xu (x.len.symm.trans e.symm)))) λ_ e3=>e2▸e3▸r
 apart:=λi j p' q' a b hij=>
  have key:∀(i:Nat)(q:Addr×Addr),ak[i]?=ae q->p.1≠q.1/\p.1≠q.2/\p.2≠q.1/\p.2≠q.2:=λi q e=>⟨λt=>a1 (t▸qw e),λt=>a1 (t▸qx e),λt=>a2 (t▸qw e),λt=>a2 (t▸qx e)⟩
  q5 a (λa=>q5 b (λb=>x.apart i j _ _ a b hij) λ_ e=>let ⟨u1,u2,u3,u4⟩:=key i _ a;e▸⟨u1.symm,u3.symm,u2.symm,u4.symm⟩)
   λe e'=>q5 b (λb=>e'▸key j _ b) λe2 _=>absurd (e.trans e2.symm) hij
 off:=λi q e=>q5 e (x.off i q) λ_ e=>e▸⟨gb,n2,l3⟩
 low:=x.low
theorem bG.abg(x:bG X ak au hp h){ob:Obj}(nf:ob.isFreed=aP)(r:∀p,kD X (ak++[(h.objs.size,h.objs.size)]) p ob ob o):bG X (ak++[(h.objs.size,h.objs.size)]) au (hp++[o]) (h.push ob):=
 have e:=ro h nf
 have m:=x.nF (cC _)
 (x.push ob).adopt (x.push ob).dN (λ_ _ _ e=>e) m m x.nd x.nd (x.yc (cC _)) ⟨_,_,e,e,r _⟩
theorem bG.change(x:bG X ak au hp h){n:Nat}(e:ak[n]?=ae p)(k:∀b o,b≠p.1->b≠p.2->h.get? b=ae o->h'.get? b=ae o)(r:kC X ak h' o p):bG X ak au (hp.set n o) h' where
 dN:=λb ob q=>k b ob (λt=>no ((x.off n p e).1.symm.trans (t▸q))) (λt=>no ((x.off n p e).2.1.symm.trans (t▸q))) (x.dN b ob q)
 len:=x.len.trans (Aw ..).symm
 obj:=λm o' q a b=>Dv a (λd a=>let ⟨a1,a2,a3,a4⟩:=x.apart m n q p b e (pX d);(x.obj m o' q a b).keeps (λ_=>k _ _ a1 a2) λ_=>k _ _ a3 a4)
  λd e2=>e2▸dE (e.symm.trans (d▸b))▸r
 apart:=x.apart
 off:=x.off
 low:=x.low
theorem bG.LC(x:bG X ak au hp h){n:Nat}(e:ak[n]?=ae p)(k:∀b,b≠p.1->h'.get? b=h.get? b){a:Obj}(q:h'.get? p.1=ae a)(r:∀b,kD X ak p a b o):bG X ak au (hp.set n o) h':=by
 refine x.change e (λb o h1 _=>(k b h1).trans) ?_;by_cases d:p.2=p.1
 .exact⟨a,a,q,d▸q,r a⟩
 .exact let ⟨_,b,_,v⟩:=x.here e;⟨a,b,q,(k _ d).trans v,r b⟩
theorem bG.cut(y:bG X ak au hp h)(x:bG X a9 au hp' h')(e:ak <+: a9)(t:hp'.take hp.length=hp):bG X ak au hp h' where
 dN:=x.dN
 len:=y.len
 obj:=λn o p a b=>let ⟨_,_,_,_,r⟩:=y.obj n o p a b;let ⟨u,v,c,d,r'⟩:=x.obj n o p (j4 (t▸Tg ..) a) (j4 e b);⟨u,v,c,d,r.back e r'⟩
 apart:=y.apart
 off:=λi p a=>x.off i p (j4 e a)
 low:=x.low
noncomputable def ground(h:Heap)(ak:de):Heap:=hideAll h (adr ak)
theorem ox{b:Addr}{o:Obj}(e:h.get? b=ae o)(n:b∉adr ak):(ground h ak).get? b=ae o:=hideAll_get _ e n
theorem bG.DB(x:bG X ak au hp h):au.StaysIn (ground h ak):=λb o e=>ox (x.dN b o e) (x.pI e)
theorem bG.JL(x:bG X ak au hp h):bG X ak (ground h ak) hp h:=
 ⟨λ_ _ e=>of_hideAll _ e,x.len,x.obj,x.apart,λi p e=>⟨hideAll_none _ (qw e),hideAll_none _ (qx e),(x.off i p e).2.2⟩,let ⟨a,o,l,e⟩:=x.low;⟨a,o,l,x.DB _ _ e⟩⟩
theorem BK(k:au.StaysIn fs){a:Addr}(e:fs.get? a=az):au.get? a=none:=PI k λ_ q=>no (e.symm.trans q)
theorem bG.weaken(x:bG X ak fs hp h)(k:au.StaysIn fs)(low:∃a o,@LT.lt Nat _ oZ a/\au.get? a=ae o):bG X ak au hp h:=
 ⟨λb o e=>x.dN b o (k b o e),x.len,x.obj,x.apart,λi p e=>let ⟨a,b,c⟩:=x.off i p e;⟨BK k a,BK k b,c⟩,low⟩
end
def Ext(s s':Shared):Prop:=∃h t,s'={s with heap:=h,toks:=t}
theorem Ext.mk'(s:Shared)(h:Heap)(t:Nat):Ext s {s with heap:=h,toks:=t}:=⟨h,t,rfl⟩
theorem Ext.refl(s:Shared):Ext s s:=⟨s.heap,s.toks,ab⟩
theorem Ext.trans{a b c:Shared}(x:Ext a b)(y:Ext b c):Ext a c:=by
 obtain⟨h,t,rfl⟩:=x;obtain⟨h',t',rfl⟩:=y;exact⟨h',t',rfl⟩
structure cZ(ak:de)(s:Shared)(a9:de)(s':Shared):Prop where
 p:ak <+: a9
 e:Ext s s'
theorem cZ.refl(ak:de)(s:Shared):cZ ak s ak s:=⟨iI _,Ext.refl _⟩
theorem cZ.trans{ak a9 DL:de}{s s' s'':Shared}(x:cZ ak s a9 s')(y:cZ a9 s' DL s''):cZ ak s DL s'':=⟨x.p.trans y.p,x.e.trans y.e⟩
theorem cZ.up{ak:de}{s:Shared}(h:Heap)(t:Nat):cZ ak s ak {s with heap:=h,toks:=t}:=⟨iI _,Ext.mk' _ _ _⟩
noncomputable abbrev dC.M(X:dC):Model:=model X.prog X.w
abbrev No:Value->Shared->Prop:=λ_ _=>False
structure jP(A:Around)(n:Nat):Prop where
 handled:A.handled=az
 depth:A.depth+4*n+10<900
 units:A.units+16*n+1000<9000
theorem WI{u n:Nat}(h:u+16*n+1000<9000):u+64<cLine:=by unfold cLine;lia
theorem jP.x5{A:Around}{n:Nat}(h:jP A n):A.units+64<cLine:=WI h.units
def bx(X:dC)(au:Heap)(ak:de)(s:Shared)(v:V)(hp:H)(val:Value)(s':Shared):Prop:=∃a9,cZ ak s a9 s'/\cL X a9 v val/\bG X a9 au hp s'.heap
def o7(X:dC)(au:Heap)(ak:de)(s:Shared)(hp:H)(_:Unit)(s':Shared):Prop:=bG X ak au hp s'.heap/\Ext s s'
theorem e_{bg:Type}{M:Model}{A:Around}{s:Shared}{t:Sem bg}{Q Q':bg->Shared->Prop}(h:bI M A t Q No s)(k:∀a s',Q a s'->Q' a s'):bI M A t Q' No s:=wpAny_mono h k λ_ _ e=>e
section
variable{X:dC}{ak a9:de}{au:Heap}{hp hp':H}{s s':Shared}{A:Around}{v r k:V}{val ax rv:Value}{n:Nat}{p:Addr×Addr}
theorem cL.ref(hv:cL X ak v val)(e:v.gG=ae n){P:Value->Prop}(k:∀p,ak[n]?=ae p->P (.ref p.1)):P val:=by
 cases v with
 | R m=>cases e;obtain⟨p,h,rfl⟩:=hv;exact k p h
 | _=>exact no e
theorem cL.int{i:Int}(hv:cL X ak v val)(e:v.fX=ae i){P:Value->Prop}(k:∀t,P (.int i t)):P val:=by
 cases v with
 | I m=>cases e;obtain⟨t,rfl⟩:=hv;exact k t
 | _=>exact no e
theorem cL.str{x:aw}(hv:cL X ak v val)(e:v.pP=ae x){P:Value->Prop}(k:∀t,P (.str (gV x) t)):P val:=by
 cases v with
 | S m=>cases e;obtain⟨t,rfl⟩:=hv;exact k t
 | _=>exact no e
theorem bx.on(h:bx X au ak s v hp val s'){P:Prop}(k:∀a9,cZ ak s a9 s'->cL X a9 v val->bG X a9 au hp s'.heap->P):P:=h.elim λa9 z=>k a9 z.1 z.2.1 z.2.2
theorem bx.here{t:Nat}(x:bG X ak au hp s.heap)(r:cL X ak v val):bx X au ak s v hp val {s with toks:=t}:=⟨ak,cZ.up _ _,r,x⟩
theorem bx.l9(x:bG X ak au hp s.heap)(r:cL X ak v val):bx X au ak s v hp val s:=⟨ak,cZ.refl _ _,r,x⟩
theorem bx.trans{s1:Shared}(l:cZ ak s a9 s1)(h:bx X au a9 s1 v hp val s'):bx X au ak s v hp val s':=h.elim λa9 z=>⟨a9,l.trans z.1,z.2⟩
theorem fin{s1:Shared}{t:Sem Value}{M:Model}(l:cZ ak s a9 s1)(h:bI M A t (bx X au a9 s1 v hp) No s1):bI M A t (bx X au ak s v hp) No s1:=e_ h λ_ _=>bx.trans l
theorem bx.new(x:bG X ak au hp s.heap){ob:Obj}{o:O}{t:Nat}(nf:ob.isFreed=aP)(r:∀p,kD X (ak++[(s.heap.objs.size,s.heap.objs.size)]) p ob ob o):
 bx X au ak s (.R hp.length) (hp++[o]) (.ref s.heap.objs.size) {s with heap:=s.heap.push ob,toks:=t}:=
 ⟨_,⟨kv _ _,Ext.mk' _ _ _⟩,⟨_,uJ x.len,ab⟩,x.abg nf r⟩
theorem bx.newList(x:bG X ak au hp s.heap){xs:List V}{vs:List Value}{t:Nat}(r:di X ak xs vs):
 bx X au ak s (.R hp.length) (hp++[.L xs]) (.ref s.heap.objs.size) {s with heap:=s.heap.push {cls:=.type "list",data:=.seq vs.toArray},toks:=t}:=
 bx.new x ab λ_=>⟨vs,0,ab,r.mono (kv _ _)⟩
theorem bx.F4(x:bG X ak au hp s.heap){xs:List V}{vs:List Value}(r:di X ak xs vs):
 bx X au ak s (.R hp.length) (hp++[.T xs]) (.ref s.heap.objs.size) {s with heap:=s.heap.push {cls:=.type "tuple",data:=.seq vs.toArray}}:=
 bx.new x ab λ_=>⟨vs,0,ab,r.mono (kv _ _)⟩
def j_(h:Heap)(t:String)(a:Addr)(vs:List Value):Prop:=∃n,h.get? a=ae {cls:=.type t,data:=.seq vs.toArray n}
theorem j_.list {h:Heap} {a:Addr} {vs:List Value} (x:j_ h "list" a vs):h.IsList a vs.toArray:=x.elim λn e=>⟨_,e,ab,n,ab⟩
theorem j_.tup {h:Heap} {a:Addr} {vs:List Value} (x:j_ h "tuple" a vs):IsTup h a vs.toArray:=x.elim λn e=>⟨_,e,ab,n,ab⟩
theorem j_.tuple {h:Heap} {a:Addr} {vs:List Value} (x:j_ h "tuple" a vs):h.IsTuple a vs.toArray:=x.elim λn e=>⟨_,e,ab,n,ab⟩
theorem kC.bU{o:O}{t:String}{xs:List V}{h:Heap}(x:kC X ak h o p)(e:∀a b,kD X ak p a b o->kE X ak t xs a){P:Prop}(k:∀vs,j_ h t p.1 vs->di X ak xs vs->P):P:=by
 obtain⟨a,b,q,_,r⟩:=x;obtain⟨vs,n,rfl,r2⟩:=e _ _ r;exact k vs ⟨n,q⟩ r2
theorem bG.list (x:bG X ak au hp s.heap) {xs:List V} (e:hp[n]?=ae (.L xs)) (h:ak[n]?=ae p) {P:Prop} (k:∀vs,j_ s.heap "list" p.1 vs->di X ak xs vs->P):P:=(x.obj n _ p e h).bU (λ_ _ r=>r) k
theorem bG.tup (x:bG X ak au hp s.heap) {xs:List V} (e:hp[n]?=ae (.T xs)) (h:ak[n]?=ae p) {P:Prop} (k:∀vs,j_ s.heap "tuple" p.1 vs->di X ak xs vs->P):P:=(x.obj n _ p e h).bU (λ_ _ r=>r) k
section
variable{gH hH:Type}[BEq gH][DecidableEq hH]{knd:KeyKind X.prog X.w hH}{f:gH->hH}{es:List (gH×V)}
theorem kC.NO{o:O}{h:Heap}(x:kC X ak h o p)(e:∀a b,kD X ak p a b o->ik X ak knd f es a){P:Prop}(k:∀kvs,h.DictOf knd p.1 kvs->kvs.length<=es.length->(∀k,g0 X ak (es.lookup k) (valueAt kvs (f k)))->P):P:=by
 obtain⟨a,b,q,_,r⟩:=x;obtain⟨kvs,d,l,r⟩:=e _ _ r;exact k kvs (d _ _ q) l r
theorem ik.of{h:Heap}{a:Addr}{kvs:List (hH×Value)}(d:h.DictOf knd a kvs)(l:kvs.length<=es.length)(r:∀k,g0 X ak (es.lookup k) (valueAt kvs (f k))):∃ob,h.get? a=ae ob/\ik X ak knd f es ob:=by
 obtain⟨o,es',ep,e,z⟩:=d;exact⟨o,e,kvs,λh b e=>⟨o,es',ep,e,z⟩,l,r⟩
end
theorem bG.w6(x:bG X ak au hp s.heap){es:List (aw×V)}(e:hp[n]?=ae (.S es))(h:ak[n]?=ae p){P:Prop}(k:∀kvs,s.heap.DictOf (strKind X.prog X.w) p.1 kvs->kvs.length<=es.length->(∀k,g0 X ak (es.lookup k) (valueAt kvs (gV k)))->P):P:=(x.obj n _ p e h).NO (λ_ _ r=>r) k
theorem bG.Bu(x:bG X ak au hp s.heap){es:List (Int×V)}(e:hp[n]?=ae (.I es))(h:ak[n]?=ae p){P:Prop}(k:∀kvs,s.heap.DictOf (intKind X.prog X.w) p.1 kvs->kvs.length<=es.length->(∀k,g0 X ak (es.lookup k) (valueAt kvs k))->P):P:=(x.obj n _ p e h).NO (λ_ _ r=>r) k
theorem bG.sys(x:bG X ak au hp s.heap)(h:ak[n]?=ae p):(p.1==oZ)=false:=(x.off n p h).2.2
def Wr(K:Frag)(c:Nat):Bool:=
 plainGet K c ""&&hasDictIn K c&&(findIn K (.ref c) "__setattr__"==ae (ae (.builtin "object.__setattr__")))&&plainOver K c &&
  (nM 30).all λa=>(jv a).all λnm=>findIn K (.ref c) nm==ae az
def xW(K:Frag):Bool:=(pv.map (·.1)).all (Wr K)
structure Us(K:Frag)(c:Nat):Prop where
 get:∀nm,plainGet K c nm=aB
 dict:hasDictIn K c=aB
 set:findIn K (.ref c) "__setattr__"=ae (ae (.builtin "object.__setattr__"))
 over:plainOver K c=aB
 free:∀a nm,a<30->jv a=ae nm->findIn K (.ref c) nm=ae az
theorem iL{a b:Bool}(h:(a&&b)=aB):a=aB/\b=true:=SY.mp h
theorem EP{K:Frag}(h:xW K=aB){c:Nat}(hc:c∈pv.map (·.1)):Us K c:=by
 have h:=iL (kx.mp h c hc);have i:=iL h.1;have j:=iL i.1;have l:=iL j.1;refine⟨λnm=>l.1,l.2,beq_iff_eq.mp j.2,i.2,λx nm hx aU=>?_⟩;have f:=kx.mp h.2 x (xr.mpr hx);rw[aU]at f;exact beq_iff_eq.mp f
theorem noRef{es:List DictEntry}(a7:∀e∈es,∃x t,e.key=.str x t):es.any (·.refKey)=false:=
 List.any_eq_false.mpr λe he h=>by
  obtain⟨x,t,q⟩:=a7 e he;rw[ahM,q]at h;exact nomatch h
theorem Pc{nm:Str}{es:List DictEntry}{n:Nat}(a7:∀e∈es,∃x t,e.key=.str x t):lookIn nm (dictOf es n)=ae (pA nm es):=by
 show getL nm es=_;unfold getL pA;cases es.find? (·.key.isStr nm)with
 | some e=>rfl
 | none=>show(if es.any (·.refKey)=aB then _ else _)=_;rw[noRef a7];rfl
structure Uu(X:dC)(ak:de)(h:Heap)(p:Addr×Addr)(c:Nat)(cy:List (Nat×V))(es:List DictEntry)(n:Nat):Prop where
 ne:p.1≠p.2
 mem:c∈pv.map (·.1)
 dict:h.get? p.2=ae (dictOf es n)
 ins:InstAt h p.1 (instObj c p.2) c (ae (dictOf es n))
 keys:∀e∈es,∃x t,e.key=.str x t
 len:es.length<=cy.length
 at_:∀a nm,jv a=ae nm->g0 X ak (cy.lookup a) (pA nm es)
theorem bG.inst(x:bG X ak au hp s.heap){o:O}{c:Nat×List (Nat×V)}(e:hp[n]?=ae o)(f:o.c?=ae c)(h:ak[n]?=ae p){P:Prop}(k:∀es m,Uu X ak s.heap p c.1 c.2 es m->P):P:=by
 obtain rfl:=Wg f;obtain⟨a,b,q,u,i,j,rfl,es,m,rfl,l,y,z⟩:=x.obj n _ p e h;exact k es m ⟨i,j,u,⟨q,rfl,rfl,u⟩,l,y,z⟩
theorem Zy{a:Nat}{nm:Str}(hc:xW X.K=aB)(XK:X.K.In au)(x:bG X ak au hp s.heap)(hv:cL X ak v val)(ha:a<30)(aU:jv a=ae nm)(e:Fs hp v a=ae r):
 bI X.M A (getAttr val nm aB) (bx X au ak s r hp) No s:=
 cz e λn e1 e=>cz e λo e2 e=>cz e λc e3 e=>hv.ref (P:=λval=>bI X.M A (getAttr val nm aB) (bx X au ak s r hp) No s) e1 λp hp1=>x.inst e2 e3 hp1 λes m I=>
  have CF:=EP hc I.mem
  (I.at_ a nm aU).get e λy hy aZ=>get_value (XK.keeps x.dN) I.ins (plainGet_of (CF.get nm)).1 (findObj_own CF.dict (CF.free a nm ha aU) ab ((Pc I.keys).trans (congrArg ae hy))) aZ.handed (bx.here x aZ)
theorem acL{nm:Str}{hsh:Int}{t:Tok}{v:Value}{es:List DictEntry}(a7:∀e∈es,∃x t,e.key=.str x t):∀e∈putL nm hsh (.str nm t) v es,∃x t,e.key=.str x t:=by
 induction es with
 | nil=>intro e he;cases he with | head=>exact⟨_,_,rfl⟩ | tail _ h=>cases h
 | cons e r ih=>
  intro e' he;unfold putL at he;by_cases g:e.key.isStr nm=aB
  .rw[if_pos g]at he;cases he with
   | head=>exact a7 e (.head _)
   | tail _ h=>exact a7 e' (.tail _ h)
  .rw[if_neg g]at he;cases he with
   | head=>exact a7 _ (.head _)
   | tail _ h=>exact ih (λe h=>a7 e (.tail _ h)) e' h
theorem isStr_of{e:DictEntry}{x nm:Str}{t:Tok}(h:e.key=.str x t):e.key.isStr nm=decide (x=nm):=by rw[h];rfl
theorem putL_find{nm:Str}{hsh:Int}{t:Tok}{v:Value}(nm':Str){es:List DictEntry}(a7:∀e∈es,∃x t,e.key=.str x t):pA nm' (putL nm hsh (.str nm t) v es)=if nm=nm' then ae v else pA nm' es:=by
 induction es with
 | nil=>
  show(List.find? _ [_]).map _=_;rw[nS,show((⟨hsh,.str nm t,v⟩:DictEntry).key.isStr nm')=decide (nm=nm')from rfl];by_cases h:nm=nm'
  .rw[decide_eq_true h,if_pos h];rfl
  .rw[decide_eq_false h,if_neg h];rfl
 | cons e r ih=>
  obtain⟨x,u,hx⟩:=a7 e (.head _);have ih:=ih λe he=>a7 e (.tail _ he);unfold putL;unfold pA at ih⊢;rw[isStr_of hx,nS (a:=e),isStr_of (nm:=nm') hx];by_cases h:x=nm
  .subst h;rw[decide_eq_true rfl,if_pos rfl,nS];show(match(e.key.isStr nm')with | true=>_ | false=>_:Option DictEntry).map _=_;rw[isStr_of hx];by_cases g:x=nm'
   .rw[decide_eq_true g,if_pos g];rfl
   .rw[decide_eq_false g,if_neg g]
  .rw[decide_eq_false h,if_neg nP,nS,isStr_of hx];by_cases g:x=nm'
   .subst g;rw[decide_eq_true rfl,if_neg (pX h)]
   .rw[decide_eq_false g];exact ih
theorem acM{nm:Str}{hsh:Int}{t:Tok}{v:Value}(es:List DictEntry):(putL nm hsh (.str nm t) v es).length=if (pA nm es).isSome=aB then es.length else es.length+1:=by
 induction es with
 | nil=>rfl
 | cons e r ih=>
  unfold putL;unfold pA at ih⊢;rw[nS];cases e.key.isStr nm with
  | true=>rfl
  | false=>
   show(e::_).length=_;rw[fH,ih];show(if ((r.find? _).map _).isSome=aB then _ else _)+1=if ((r.find? _).map _).isSome=aB then _ else _
   split<;>rfl
section
variable{bg:Type}[BEq bg][LawfulBEq bg](k k':bg)(v:V)
theorem Rh(es:List (bg×V)):(gm k v es).lookup k'=if k'==k then ae v else es.lookup k':=by
 induction es with
 | nil=>unfold gm;rw[gu];cases k'==k<;>rfl
 | cons e r ih=>
  unfold gm;by_cases h:(k==e.1)=aB
  .rw[if_pos h,gu,gu,<-beq_iff_eq.mp h];cases k'==k<;>rfl
  .rw[if_neg h,gu,gu,ih];cases g:k'==e.1 with
   | false=>rfl
   | true=>
    have:¬(k'==k)=true:=λq=>h (beq_iff_eq.mpr ((beq_iff_eq.mp q).symm.trans (beq_iff_eq.mp g)));exact(if_neg this).symm
theorem wu(es:List (bg×V)):(gm k v es).length=if (es.lookup k).isSome=aB then es.length else es.length+1:=by
 induction es with
 | nil=>rfl
 | cons e r ih=>
  unfold gm;rw[gu];cases k==e.1 with
  | true=>rfl
  | false=>
   show(e::_).length=if (r.lookup k).isSome=aB then r.length+1 else r.length+1+1
   rw[fH,ih];split<;>rfl
end
theorem R1{a b n m:Nat}{p q:Bool}(ha:a=if p=aB then n else n+1)(hb:b=if q=aB then m else m+1)(e:p=q)(h:n<=m):a<=b:=by
 subst ha hb e;split
 .exact h
 .exact Kj h
theorem UZ{a b:Nat}{nm:Str}(ha:jv a=ae nm)(hb:jv b=ae nm):a=b:=by
 have h:∀a<attrL.length,∀b<attrL.length,(attrL[a]?).map mF=(attrL[b]?).map mF->a=b:=by decide +kernel
 exact h a (hr (P:=λ_=>a<attrL.length) ha λ_ e=>lh e) b (hr (P:=λ_=>b<attrL.length) hb λ_ e=>lh e) (ha.trans hb.symm)
theorem aaE{n m:Nat}{b:Bool}(h:n<100)(e:m=if b=aB then n else n+1){k:Nat}(l:k<=m):k<=sizeLine+1:=by
 rw[sizeLine_eq];split at e<;>lia
theorem aeK{a:Nat}{nm:Str}(hc:xW X.K=aB)(XK:X.K.In au)(x:bG X ak au hp s.heap)(hv:cL X ak v val)(aZ:cL X ak r rv)(ha:a<30)(aU:jv a=ae nm)(e:w7 hp v a r=ae hp'):
 bI X.M A (setAttr val nm rv) (o7 X au ak s hp') No s:=by
 refine cz e λn e1 e=>cz e λo e2 e=>cz e λc e3 e=>dZ e λhfs e=>hv.ref (P:=λval=>bI X.M A (setAttr val nm rv) (o7 X au ak s hp') No s) e1 λp hp1=>x.inst e2 e3 hp1 λes k I=>dE e▸?_
 have CF:=EP hc I.mem
 have XK:=XK.keeps x.dN
 refine set_plain XK I.ins CF.set (osa_open (s:={s with toks:=s.toks+1}) XK I.ins CF.over (r:=az) (congrArg (xA · _) (CF.free a nm ha aU)) λb=>?_)
 obtain⟨cd,hcd,hd'⟩:=any_some CF.dict
 refine c8 (fl (c8 (c8 (TB I.ins.at_ (c8 ((looks_clsIn (M:=X.M) XK hcd) _ _ _ _ (λ_ _ e=>e) ?_))))))
 rw[hd']
 refine fl (a:=ae p.2) (c8 (fl (c8 (c8 (c8 (wpAny_askSetting (fl (c8 (wpAny_mkText (c8 (TB I.dict ?_)))))))))))
 dsimp only
 rw[aRefKeyMayBeTheName_at,show(!es.toArray.any (·.key.isStr nm)&&es.toArray.any (·.refKey))=aP from(congrArg (_&&·) (Th.trans (noRef I.keys))).trans (rt _)]
 have U:=Heap.get?_update_self (h:=s.heap) (T2 nm (DY X.w.params nm) (.str nm (s.toks+1)) rv) I.dict (by rw[putName_dict];rfl)
 rw[putName_dict]at U
 have L:=wu a r c.2
 have hlen:=R1 (acM (nm:=nm) (hsh:=DY X.w.params nm) (t:=s.toks+1) (v:=rv) es) L (I.at_ a nm aU).w_ I.len
 have SB:=S3 s.heap p.2 (T2 nm (DY X.w.params nm) (.str nm (s.toks+1)) rv)
 refine wpAny_updatePart I.dict (c8 (wpAny_lookBehind U (pastItsLine_dict (aaE hfs L hlen)) (fl ⟨?_,Ext.mk' _ _ _⟩)))
 refine x.change hp1 (λb o _ aD=>(SB.2 b aD).trans) ⟨_,_,(SB.2 _ I.ne).trans I.ins.at_,U,I.ne,I.mem,ab,_,_,ab,acL I.keys,hlen,λa' nm' hn'=>?_⟩
 rw[Rh,putL_find nm' I.keys]
 by_cases g:a'=a
 .subst g;rw[if_pos (beq_self_eq_true _),if_pos (dE (aU.symm.trans hn'))];exact⟨_,rfl,aZ⟩
 .rw[if_neg (λq=>g (beq_iff_eq.mp q)),if_neg (λq=>g (UZ hn' (aU.trans (congrArg ae q))))];exact I.at_ a' nm' hn'
end
theorem EI{n:Nat}(h:n<aK):(n:Int)<2 ^ 63:=TS (Kp.mpr h) (by decide)
theorem lV{n:Nat}(h:n<aK):n<=sizeLine:=d8 (nU h) (by rw[sizeLine_eq];decide)
theorem EH{n m:Nat}(h:n<aK)(g:m<aK):n+m<=sizeLine:=d8 (Nat.add_le_add (nU h) (nU g)) (by rw[sizeLine_eq];decide)
theorem qy{vs:List Value}{i:Nat}{x:Value}(h:vs[i]?=ae x):vs.toArray[i]?=ae x:=J8.trans h
theorem HL{n:Nat}{i:Int}(hb:n<aK)(h0:0<=i)(h:i.toNat<n):i<2 ^ 63/\i<n:=by unfold aK at hb;lia
theorem PA{n:Nat}{i:Int}(hb:n<aK)(h0:i<0)(h1:0<=i+n):-(n:Int)<=i/\-(2 ^ 63)<=i:=by unfold aK at hb;lia
theorem aaO{i:Int}(h0:0<=i):-(2 ^ 63)<=i:=TU (by decide) h0
theorem ZW{i:Int}(h0:i<0):i<2 ^ 63:=TS h0 (by decide)
theorem aeJ{k:Int}{n:Nat}(h0:0<=k)(h1:k<n):seqIndex? k n=ae k.toNat:=by
 unfold seqIndex?;rw[if_neg (Int.not_lt.mpr h0)];simp[h0,h1]
theorem RG{xs:List V}{i:Int}{r:V}{P:Prop}(e:gc xs i=ae r)(k1:xs.length<aK->0<=i->i<2 ^ 63->i<xs.length->xs[i.toNat]?=ae r->P)
 (k2:xs.length<aK->i<0->0<=i+xs.length->-(xs.length:Int)<=i/\-(2 ^ 63)<=i->xs[(i+xs.length).toNat]?=ae r->P):P:=by
 refine dZ e λhb e=>?_
 by_cases h0:0<=i
 .rw[if_pos h0]at e;have f:=HL hb h0 (lh e);exact k1 hb h0 f.1 f.2 e
 .rw[if_neg h0]at e;exact dZ e λh1 e=>k2 hb (Ku.mp h0) h1 (PA hb (Ku.mp h0) h1) e
section
variable{X:dC}{ak a9:de}{au:Heap}{hp hp':H}{s s':Shared}{A:Around}{v r k u:V}{val ax rv uv:Value}{n:Nat}{p:Addr×Addr}
def Sub (X:dC) (A:Around) (val ax:Value) (Q:Value->Shared->Prop) (s:Shared):Prop:=∃T id,s.TypeIs val T/\typeLookup (.type T) "__getitem__"=pure (ae (.builtin id))/\bI X.M A (getItem val ax) Q No s
theorem ZA(XK:X.K.In au)(x:bG X ak au hp s.heap)(hv:cL X ak v val)(a7:cL X ak k ax)(e:qH hp v k=ae r):Sub X A val ax (bx X au ak s r hp) s:=by
 cases v with
 | C xs=>
  refine cz e λi e1 e=>dZ e λh0 e=>hr (P:=λr=>Sub X A val ax (bx X au ak s r hp) s) e λz hz=>?_;obtain⟨a,vs,rfl,L,hl,hi⟩:=hv;obtain⟨t,aC⟩:=hi _ _ hz;have L:=L _ (XK.keeps x.dN);exact⟨_,_,L.typeIs,slot_list_getitem.lookup,a7.int (P:=λax=>bI X.M A (getItem (.ref a) ax) (bx X au ak s (.I z) hp) No s) e1 λ_=>S6 L h0.1 (HL h0.2 h0.1 (lh hz)).1 (qy aC) (bx.l9 x ⟨t,rfl⟩)⟩
 | R n=>
  refine cz e λo e1 e=>hv.ref (P:=λval=>Sub X A val ax (bx X au ak s r hp) s) rfl λp hp1=>?_;cases o with
  | L xs=>
   refine cz e λi e2 e=>x.list e1 hp1 λvs L R=>a7.int (P:=λax=>Sub X A (.ref p.1) ax (bx X au ak s r hp) s) e2 λt=>⟨_,_,L.list.typeIs,slot_list_getitem.lookup,RG e (λhb h0 f g e=>?_) λhb h0 h1 f e=>?_⟩
   .exact(R.get e).elim λy z=>S6 L.list h0 f (qy z.1) (bx.l9 x z.2)
   .exact(R.get e).elim λy z=>wpAny_getItem_list_neg L.list h0 (by rw[R.size];exact f.1) f.2 (by rw[R.size];exact qy z.1) (bx.l9 x z.2)
  | T xs=>
   refine cz e λi e2 e=>x.tup e1 hp1 λvs L R=>a7.int (P:=λax=>Sub X A (.ref p.1) ax (bx X au ak s r hp) s) e2 λt=>⟨_,_,L.tup.typeIs,PySem.F.slot_tuple_getitem.lookup,RG e (λhb h0 f g e=>?_) λhb h0 h1 f e=>?_⟩
   .exact(R.get e).elim λy z=>Sz L.tup (aaO h0) f (by rw[R.size];exact aeJ h0 g) (qy z.1) (bx.l9 x z.2)
   .exact(R.get e).elim λy z=>Sz L.tup f.2 (ZW h0) (by rw[R.size];exact PySem.seqIndex_neg h0 f.1) (qy z.1) (bx.l9 x z.2)
  | S es=>
   exact cz e λi e2 e=>x.w6 e1 hp1 λkvs D l f=>a7.str (P:=λax=>Sub X A (.ref p.1) ax (bx X au ak s r hp) s) e2 λt=>(f i).get e λy hy ry=>⟨_,_,D.mapOf.typeIs,slot_dict_getitem.lookup,Ti (strKind_is X.prog X.w _ _) D.mapOf hy (bx.here x ry)⟩
  | I es=>
   exact cz e λi e2 e=>x.Bu e1 hp1 λkvs D l f=>a7.int (P:=λax=>Sub X A (.ref p.1) ax (bx X au ak s r hp) s) e2 λt=>(f i).get e λy hy ry=>⟨_,_,D.mapOf.typeIs,slot_dict_getitem.lookup,Ti (knd:=intKind X.prog X.w) (intKind_is X.prog X.w _ _) D.mapOf hy (bx.here x ry)⟩
  | A c cy=>exact no e
 | _=>exact no e
theorem OD{b:Bool}(x:bG X ak au hp s.heap)(hv:cL X ak v val)(e:truthy hp v=ae b):bI X.M A (p8 val) (λc s'=>c=b/\bG X ak au hp s'.heap/\Ext s s') No s:=by
 cases v with
 | B c=>
  cases e
  obtain rfl:val=.bool b:=hv;exact Ta ⟨rfl,x,Ext.refl _⟩
 | R n=>
  refine cz e λo e1 e=>cz e λxs e2 e=>dZ e λhb e=>hv.ref (P:=λval=>bI X.M A (p8 val) (λc s'=>c=b/\bG X ak au hp s'.heap/\Ext s s') No s) rfl λp hp1=>x.list (FI e2▸e1) hp1 λvs L R=>?_;refine wpAny_truthy_list L.list (by rw[R.size];exact EI hb) ⟨AB ?_ (dE e),x,Ext.mk' _ _ _⟩;cases R<;>rfl
 | _=>exact no e
section
variable{K:Type}[DecidableEq K]
theorem Lh{kvs:List (K×Value)}{k:K}:(valueAt kvs k).isSome=kvs.any λax=>ax.1=k:=by
 unfold valueAt;rw[Option.isSome_map];exact List.isSome_find?
theorem Zf(kvs:List (K×Value))(k x:K)(v:Value):valueAt (kvs.map λax=>if ax.1=k then(ax.1,v)else ax) x=if x=k then(valueAt kvs k).map λ_=>v else valueAt kvs x:=by
 unfold valueAt;induction kvs with
 | nil=>split<;>rfl
 | cons e r ih=>
  rw[fI,nS,nS,nS];by_cases ha:e.1=k
  .rw[if_pos ha,decide_eq_true ha];by_cases hx:x=k
   .rw[if_pos hx,decide_eq_true (ha.trans hx.symm)];rfl
   .rw[if_neg hx,decide_eq_false (λq=>hx (q.symm.trans ha))];exact ih.trans (if_neg hx)
  .rw[if_neg ha,decide_eq_false ha];by_cases hx:x=k
   .rw[if_pos hx,decide_eq_false (λq=>ha (q.trans hx))];exact ih.trans (if_pos hx)
   .rw[if_neg hx];cases decide (e.1=x)with
    | true=>rfl
    | false=>exact ih.trans (if_neg hx)
theorem af6(kvs:List (K×Value))(k x:K)(v:Value):valueAt (stored kvs k v) x=if x=k then ae v else valueAt kvs x:=by
 unfold stored;have a:=Lh (kvs:=kvs) (k:=k);cases h:kvs.any λax=>ax.1=k with
 | true=>
  rw[if_pos rfl,Zf];rw[h]at a;obtain⟨y,hy⟩:=SI.mp a;rw[hy];rfl
 | false=>
  rw[if_neg nP];rw[h]at a;have a:=Option.isSome_eq_false_iff.mp a;have a:=Option.isNone_iff_eq_none.mp a;unfold valueAt at a⊢;rw[List.find?_append,Option.map_or];by_cases hx:x=k
  .subst hx;rw[a,if_pos rfl,nS,decide_eq_true rfl];rfl
  .rw[if_neg hx,nS,decide_eq_false (pX hx)];exact Option.or_none
theorem afs(kvs:List (K×Value))(k:K)(v:Value):(stored kvs k v).length=if (valueAt kvs k).isSome=aB then kvs.length else kvs.length+1:=by
 unfold stored;rw[Lh];split
 .exact cB ..
 .exact ba ..
end
theorem bG.yn (x:bG X ak au hp s.heap) (hp1:ak[n]?=ae p) {vs:List Value} (hl:j_ s.heap "list" p.1 vs) (f:Array Value->Array Value) {ys:List V} {ws:List Value} (hf:f vs.toArray=ws.toArray) (r:di X ak ys ws):
 bG X ak au (hp.set n (.L ys)) (s.heap.update p.1 (Kv f)):=
 hl.elim λk e=>x.LC hp1 (S3 s.heap p.1 (Kv f)).2 (ahN (n:=k) e f) λ_=>⟨ws,_,by rw[hf],r⟩
section
variable{gH hH:Type}[BEq gH][LawfulBEq gH][DecidableEq hH]{knd:KeyKind X.prog X.w hH}{f:gH->hH}{es:List (gH×V)}{kvs:List (hH×Value)}
theorem R5(inj:∀a b,f a=f b->a=b)(k:gH)(hy:cL X ak r rv)(l:kvs.length<=es.length)(g:∀k,g0 X ak (es.lookup k) (valueAt kvs (f k))):
 (stored kvs (f k) rv).length<=(gm k r es).length/\∀x,g0 X ak ((gm k r es).lookup x) (valueAt (stored kvs (f k) rv) (f x)):=by
 refine⟨R1 (afs ..) (wu ..) (g k).w_ l,λx=>?_⟩
 rw[Rh,af6]
 by_cases q:x=k
 .rw[q,if_pos (beq_self_eq_true _),if_pos rfl];exact⟨_,rfl,hy⟩
 .rw[if_neg λz=>q (beq_iff_eq.mp z),if_neg λz=>q (inj _ _ z)];exact g x
theorem bG.NM(x:bG X ak au hp s.heap)(hp1:ak[n]?=ae p){h':Heap}{o:O}{kvs:List (hH×Value)}(D:h'.DictOf knd p.1 kvs)(SB:xt p.1 s.heap h')(z:kvs.length<=es.length/\∀k,g0 X ak (es.lookup k) (valueAt kvs (f k)))(e:∀a b,ik X ak knd f es a->kD X ak p a b o):
 bG X ak au (hp.set n o) h':=
 (ik.of D z.1 z.2).elim λa q=>x.LC hp1 SB.2 q.1 λb=>e a b q.2
end
theorem aeL(x:bG X ak au hp s.heap)(hv:cL X ak v val)(a7:cL X ak k ax)(aZ:cL X ak r rv)(e:oR hp v k r=ae hp'):bI X.M A (setItem val ax rv) (o7 X au ak s hp') No s:=by
 refine cz e λn fk e=>cz e λo e1 e=>hr (P:=λhp'=>bI X.M A (setItem val ax rv) (o7 X au ak s hp') No s) e λq e=>hv.ref (P:=λval=>bI X.M A (setItem val ax rv) (o7 X au ak s (hp.set n q)) No s) fk λp hp1=>?_;cases o with
 | L xs=>
  refine cz e λi e2 e=>hr (P:=λq=>bI X.M A (setItem (.ref p.1) ax rv) (o7 X au ak s (hp.set n q)) No s) e λys e=>a7.int (P:=λax=>bI X.M A (setItem (.ref p.1) ax rv) (o7 X au ak s (hp.set n (.L ys))) No s) e2 λt=>x.list e1 hp1 λvs L R=>dZ e λhb e=>L.elim λm hg=>?_;by_cases h0:0<=i
  .rw[if_pos h0]at e;refine dZ e λh1 e=>dE e▸?_;have f:=HL hb h0 h1;exact ki_setAt hg h0 f.1 (by rw[R.size];exact f.2) ⟨x.yn hp1 L _ (by exact SA ..) (R.set aZ),Ext.mk' _ _ _⟩
  .rw[if_neg h0]at e;refine dZ e λh1 e=>dE e▸?_;have h0:=Ku.mp h0;have f:=PA hb h0 h1;exact ki_setBack hg h0 (by rw[R.size];exact f.1) f.2 ⟨x.yn hp1 L _ (ws:=vs.set (i+xs.length).toNat rv) (by rw[R.size];exact SA ..) (R.set aZ),Ext.mk' _ _ _⟩
 | S es=>
  exact cz e λi e2 e=>dZ e λhb e=>a7.str (P:=λax=>bI X.M A (setItem (.ref p.1) ax rv) (o7 X au ak s (hp.set n q)) No s) e2 λt=>x.w6 e1 hp1 λkvs D l g=>dE e ▸
   S4 (hsz:=d8 l (lV hb)) (strKind_is X.prog X.w _ _) D λh' D' SB=>⟨x.NM hp1 D' SB (R5 (λ_ _=>DC) i aZ l g) λ_ _ d=>d,Ext.mk' _ _ _⟩
 | I es=>
  exact cz e λi e2 e=>dZ e λhb e=>a7.int (P:=λax=>bI X.M A (setItem (.ref p.1) ax rv) (o7 X au ak s (hp.set n q)) No s) e2 λt=>x.Bu e1 hp1 λkvs D l g=>dE e ▸
   S4 (knd:=intKind X.prog X.w) (hsz:=d8 l (lV hb)) (intKind_is X.prog X.w _ _) D λh' D' SB=>⟨x.NM hp1 D' SB (R5 (f:=id) (λ_ _ h=>h) i aZ l g) λ_ _ d=>d,Ext.mk' _ _ _⟩
 | _=>exact no e
theorem abd{a b:Int}(ha:a.natAbs<1000)(hb:b.natAbs<1000):IntMulOk a b:=ahg (PySem.intBits_le_64 (by lia) (by lia))
theorem Px{b:Int}(h:0<b):b≠0:=Int.ne_of_gt h
theorem len0{xs:List V}{vs:List Value}(h:0<xs.length)(r:di X ak xs vs):¬vs.toArray.isEmpty=true:=by
 cases r with
 | N=>exact absurd h (TJ _)
 | C=>exact nP
noncomputable def HH:js->Operator
 | .A=>.Add | .S=>.Sub | .B=>.Mult | .M=>.Mod | .F=>.FloorDiv
def jR(X:dC)(A:Around)(au:Heap)(ak:de)(s:Shared)(o:js)(av bv:Value)(r:V)(hp:H):Prop:=bI X.M A (binaryOp (HH o) av bv) (bx X au ak s r hp) No s
theorem abp(x:bG X ak au hp s.heap){o:js}(ha:cL X ak v val)(hb:cL X ak k ax)(e:PN o hp v k=ae (r,hp')):jR X A au ak s o val ax r hp':=by
 refine cz e λa e1 e=>cz e λb e2 e=>pK (P:=jR X A au ak s o val ax) e λe=>ha.int (P:=λval=>jR X A au ak s o val ax r hp) e1 λt=>hb.int (P:=λax=>jR X A au ak s o (.int a t) ax r hp) e2 λu=>hr (P:=λr=>jR X A au ak s o (.int a t) (.int b u) r hp) e λc e=>?_;cases o with
 | A=>exact no e
 | S=>exact dE e▸ahl (bx.here x ⟨_,ab⟩)
 | B=>exact dZ e λg e=>dE e▸ahm (bx.here x ⟨_,ab⟩) (abd g.1 g.2)
 | M=>exact dZ e λg e=>dE e▸ahn (Px g) (by rw[Int.fmod_eq_emod_of_nonneg a (TV g)];exact bx.here x ⟨_,rfl⟩)
 | F=>exact dZ e λg e=>dE e▸ahd (hp:=bB (SQ (by lia))) (Px g.1) (by rw[Int.fdiv_eq_ediv_of_nonneg a (TV g.1)];exact bx.here x ⟨_,rfl⟩)
theorem UG(x:bG X ak au hp s.heap)(ha:cL X ak v val)(hb:cL X ak k ax)(e:La hp v k=ae (r,hp')):jR X A au ak s .A val ax r hp':=by
 cases v with
 | I a=>
  obtain⟨t,rfl⟩:=ha;refine hr (P:=λq=>jR X A au ak s .A (.int a t) ax q.1 q.2) e λb e1=>show jR X A au ak s .A (.int a t) ax (.I (a+b)) hp from hb.int (P:=λax=>jR X A au ak s .A (.int a t) ax (.I (a+b)) hp) e1 λu=>aho (bx.here x ⟨_,rfl⟩)
 | S a=>
  obtain⟨t,rfl⟩:=ha
  exact cz e λb e1 e=>dZ e λg e=>hb.str (P:=λax=>jR X A au ak s .A (.str (gV a) t) ax r hp') e1 λu=>eJ (P:=jR X A au ak s .A (.str (gV a) t) (.str (gV b) u)) e
   (ahp (λt' tk=>bx.here x ⟨t',congrArg (Value.str · _) (aft a b)⟩) (EH g.1 g.2))
 | R a=>
  refine cz e λb fk e=>cz e λo e1 e=>cz e λq e2 e=>ha.ref (P:=λval=>jR X A au ak s .A val ax r hp') rfl λp hp1=>hb.ref (P:=λax=>jR X A au ak s .A (.ref p.1) ax r hp') fk λp' hp2=>?_;cases o with
  | L xs=>
   exact cz e λys e3 e=>dZ e λg e=>eJ (P:=jR X A au ak s .A (.ref p.1) (.ref p'.1)) e (x.list e1 hp1 λvs L R=>x.list (FI e3▸e2) hp2 λws L' R'=>L.elim λn l=>L'.elim λm l'=>
    PySem.P.add_list l l' (by rw[S5];exact bx.newList x (R.append R')) (by rw[R.size,R'.size];exact EH g.1 g.2))
  | T xs=>
   exact cz e λys e3 e=>dZ e λg e=>eJ (P:=jR X A au ak s .A (.ref p.1) (.ref p'.1)) e (x.tup e1 hp1 λvs L R=>x.tup (R7 e3▸e2) hp2 λws L' R'=>L.elim λn l=>L'.elim λm l'=>
    PySem.P.add_tuple l l' (len0 g.1 R) (len0 g.2.1 R') (by rw[S5];exact bx.F4 x (R.append R')) (by rw[R.size,R'.size];exact EH g.2.2.1 g.2.2.2))
  | _=>exact no e
 | _=>exact no e
theorem V6(x:bG X ak au hp s.heap){o:js}(ha:cL X ak v val)(hb:cL X ak k ax)(e:i6 o hp v k=ae (r,hp')):jR X A au ak s o val ax r hp':=by
 cases o with
 | A=>exact UG x ha hb e
 | _=>exact abp x ha hb e
end
section
variable{X:dC}{ak a9:de}{au:Heap}{hp hp':H}{s s':Shared}{A:Around}{v r k u:V}{val ax rv uv:Value}{n:Nat}{p:Addr×Addr}
theorem mapM_cons{bg dR:Type}{f:bg->Option dR}{a:bg}{r:List bg}{ys:List dR}{P:List dR->Prop}(h:(a::r).mapM f=ae ys)(k:∀b bs,f a=ae b->r.mapM f=ae bs->P (b::bs)):P ys:=by
 rw[gg]at h;exact cz h λb hb h=>cz h λbs hbs h=>dE h▸k b bs hb hbs
theorem Rm(x:bG X ak au hp s.heap){f:V->Option PyData}(ih:∀v val d,cL X ak v val->f v=ae d->∃as,Reads s.heap val d as){xs:List V}{vs:List Value}(R:di X ak xs vs):∀{ds},xs.mapM f=ae ds->∃as,ReadsAll s.heap vs ds as:=by
 induction R with
 | N=>intro ds e;cases e;exact⟨_,.nil⟩
 | C a _ ih2=>exact λe=>mapM_cons (P:=λds=>∃as,ReadsAll s.heap _ ds as) e λb bs hb hbs=>(ih _ _ _ a hb).elim λas h1=>(ih2 hbs).elim λbs aD=>⟨_,.cons h1 aD⟩
theorem Ro(x:bG X ak au hp s.heap)(n:Nat):∀(v:V)(val:Value)(d:PyData),cL X ak v val->cF hp n v=ae d->∃as,Reads s.heap val d as:=by
 induction n with
 | zero=>
  intro v val d hv e;cases v with
  | N=>cases e;cases hv;exact⟨_,.none⟩
  | B b=>cases e;cases hv;exact⟨_,.bool _⟩
  | I i=>cases e;obtain⟨t,rfl⟩:=hv;exact⟨_,.int _ _⟩
  | S i=>cases e;obtain⟨t,rfl⟩:=hv;exact⟨_,.str _ _⟩
  | _=>exact no e
 | succ n ih=>
  intro v val d hv e;cases v with
  | N=>cases e;cases hv;exact⟨_,.none⟩
  | B b=>cases e;cases hv;exact⟨_,.bool _⟩
  | I i=>cases e;obtain⟨t,rfl⟩:=hv;exact⟨_,.int _ _⟩
  | S i=>cases e;obtain⟨t,rfl⟩:=hv;exact⟨_,.str _ _⟩
  | R a=>
   refine cz e λo e1 e=>hv.ref (P:=λval=>∃as,Reads s.heap val d as) rfl λp hp1=>?_;cases o with
   | L xs=>exact hr (P:=λd=>∃as,Reads s.heap (.ref p.1) d as) e λds e=>x.list e1 hp1 λvs L R=>L.elim λk l=>(Rm x ih R e).elim λas h=>⟨_,.list l ab ab h⟩
   | T xs=>exact hr (P:=λd=>∃as,Reads s.heap (.ref p.1) d as) e λds e=>x.tup e1 hp1 λvs L R=>L.elim λk l=>(Rm x ih R e).elim λas h=>⟨_,.tuple l ab ab h⟩
   | _=>exact no e
  | _=>exact no e
theorem JE(a b:aw):(gV a==gV b)=decide (a=b):=by
 by_cases h:a=b
 .rw[h,decide_eq_true rfl];exact beq_self_eq_true _
 .rw[decide_eq_false h];exact beq_eq_false_iff_ne.mpr λq=>h (DC q)
theorem bool_beq(a b:Bool):(a==b)=decide (a=b):=by cases a<;>cases b<;>rfl
theorem WX{prog:Program}{w:World}{h:Heap}{a:Addr}{kvs:List (Int×Value)}(d:h.DictOf (PySem.intKind prog w) a kvs)(z:kvs.length<=0):h.DictOf (PySem.strKind prog w) a []:=by
 obtain rfl:kvs=[]:=Sx (T3.mp z);obtain⟨o,⟨l⟩,ep,c9,hx,hd,a7,hp,aU⟩:=d;cases hp
 exact⟨o,#[],ep,c9,hx,hd,(λe h=>nomatch h),.nil,.nil⟩
def kT(X:dC)(A:Around)(au:Heap)(ak:de)(s:Shared)(hp:H)(aE cP:CmpOp)(av bv:Value)(r:Bool):Prop:=
 bI X.M A (compareOp aE av bv) (bx X au ak s (.B r) hp) No s/\bI X.M A (compareOp cP av bv) (bx X au ak s (.B (!r)) hp) No s
theorem bx.bool{b c:Bool}(x:bG X ak au hp s.heap)(e:b=c):bx X au ak s (.B c) hp (.bool b) s:=bx.l9 x (congrArg _ e)
theorem bx.A0{b c:Bool}{t:Nat}(x:bG X ak au hp s.heap)(e:b=c):bx X au ak s (.B c) hp (.bool b) {s with toks:=t}:=bx.here x (congrArg _ e)
theorem N7{b:Bool}(hu:A.units+64<cLine)(x:bG X ak au hp s.heap)(ha:cL X ak v val)(hb:cL X ak k ax)(e:Fe hp v k=ae b):kT X A au ak s hp .Eq .NotEq val ax b:=by
 cases v with
 | S a=>
  obtain⟨t,rfl⟩:=ha;exact hr (P:=kT X A au ak s hp .Eq .NotEq _ ax) e λc e=>hb.str (P:=λax=>kT X A au ak s hp .Eq .NotEq _ ax _) e λu=>⟨aht (bx.bool x (JE ..)),ahu (bx.bool x (congrArg _ (JE ..)))⟩
 | I a=>
  obtain⟨t,rfl⟩:=ha;exact hr (P:=kT X A au ak s hp .Eq .NotEq _ ax) e λc e=>hb.int (P:=λax=>kT X A au ak s hp .Eq .NotEq _ ax _) e λu=>⟨ahv (bx.bool x rfl),ahw (bx.bool x rfl)⟩
 | B a=>
  obtain rfl:val=.bool a:=ha;cases k with
  | B c=>
   obtain rfl:ax=.bool c:=hb;exact dE e▸⟨ahq (bx.bool x (bool_beq ..)),ahr (bx.bool x (congrArg not (bool_beq ..)))⟩
  | _=>exact no e
 | R a=>
  refine cz e λc fk e=>cz e λo e1 e=>cz e λq e2 e3=>ha.ref (P:=λval=>kT X A au ak s hp .Eq .NotEq val ax b) rfl λp hp1=>hb.ref (P:=λax=>kT X A au ak s hp .Eq .NotEq (.ref p.1) ax b) fk λp' hp2=>?_;cases z:o.fk q with
  | true=>
   rw[z]at e3
   have:o=.I []/\q=.S []:=by
    cases o with
    | I es=>cases es with
     | nil=>cases q with
      | S es=>cases es with
       | nil=>exact⟨ab,ab⟩
       | cons=>exact nomatch z
      | _=>exact nomatch z
     | cons=>exact nomatch z
    | _=>exact nomatch z
   obtain⟨rfl,rfl⟩:=this
   exact dE e3▸x.Bu e1 hp1 λkvs D1 z1 _=>x.w6 e2 hp2 λlvs D2 z2 _=>by
    obtain rfl:lvs=[]:=Sx (T3.mp z2);have D1:=WX D1 z1;have hu:=fO (nQ ..) hu;exact⟨keq_eq (x.sys hp1) (x.sys hp2) D1 D2 hu (λ_=>.nil) (bx.bool x rfl),keq_ne (x.sys hp1) (x.sys hp2) D1 D2 hu (λ_=>.nil) (bx.bool x rfl)⟩
  | false=>
   rw[z]at e3
   exact cz e3 λd hd e=>cz e λd' hd' e=>dZ e λg e=>dE e▸(Ro x _ (.R a) (.ref p.1) _ ⟨p,hp1,ab⟩ hd).elim λas r1=>(Ro x _ (.R c) (.ref p'.1) _ ⟨p',hp2,ab⟩ hd').elim λbs r2=>
    ⟨ahi r1 r2 (iL g).1 (iL g).2 hu (bx.bool x ab),ahj r1 r2 (iL g).1 (iL g).2 hu (bx.bool x ab)⟩
 | _=>exact no e
noncomputable def jb(xv:Value):Value->Bool
 | .str y _=>match xv with | .str x _=>y==x | _=>aP
 | .int y _=>match xv with | .int x _=>y==x | _=>aP
 | _=>aP
theorem ND{bg:Type}[DecidableEq bg](a b:bg):decide (b=a)=decide (a=b):=decide_eq_decide.mpr eq_comm
theorem ad7{b:Bool}(hx:cL X ak v val)(hy:cL X ak k ax)(e:t8 v k=ae b):pV A s ax val (jb val ax)/\jb val ax=b:=by
 cases v with
 | S a=>
  obtain⟨t,rfl⟩:=hx;exact hr (P:=λb=>pV A s ax _ (jb _ ax)/\jb _ ax=b) e λc e=>hy.str (P:=λax=>pV A s ax _ (jb _ ax)/\jb _ ax=decide (a=c)) e λu=>⟨ahE _ _ _ _,(JE ..).trans (ND ..)⟩
 | I a=>
  obtain⟨t,rfl⟩:=hx;exact hr (P:=λb=>pV A s ax _ (jb _ ax)/\jb _ ax=b) e λc e=>hy.int (P:=λax=>pV A s ax _ (jb _ ax)/\jb _ ax=decide (a=c)) e λu=>⟨ahF _ _ _ _,ND ..⟩
 | _=>exact no e
theorem ad6(hx:cL X ak v val){xs:List V}{vs:List Value}(R:di X ak xs vs):∀{l},xs.mapM (t8 v)=ae l->(∀y,y∈vs->pV A s y val (jb val y))/\vs.any (jb val)=l.any id:=by
 induction R with
 | N=>intro l e;cases e;exact⟨(λy h=>nomatch h),ab⟩
 | @C x y xs vs a _ ih=>
  exact λe=>mapM_cons (P:=λl=>(∀y',y'∈y::vs->pV A s y' val (jb val y'))/\(y::vs).any (jb val)=l.any id) e λb bs hb hbs=>by
   have h:=ih hbs;have g:=ad7 (A:=A) (s:=s) hx a hb;refine⟨λy' m=>?_,congr (congrArg or g.2) h.2⟩;cases m with
   | head=>exact g.1
   | tail _ m=>exact h.1 _ m
theorem Lg{xs:List V}{vs:List Value}{b:Bool}(hx:cL X ak v val)(R:di X ak xs vs)(e:rH v xs=ae b):(∀y,y∈vs.toArray->pV A s y val (jb val y))/\vs.toArray.any (jb val)=b:=
 hr (P:=λb=>(∀y,y∈vs.toArray->pV A s y val (jb val y))/\vs.toArray.any (jb val)=b) e λ_ e=>have z:=ad6 (A:=A) (s:=s) hx R e;⟨λy m=>z.1 y (List.mem_toArray.mp m),(Th ..).trans z.2⟩
theorem Oy{b:Bool}(x:bG X ak au hp s.heap)(ha:cL X ak v val)(hb:cL X ak k ax)(e:Fz hp v k=ae b):kT X A au ak s hp .In .NotIn val ax b:=by
 refine cz e λn fk e=>cz e λo e1 e=>hb.ref (P:=λax=>kT X A au ak s hp .In .NotIn val ax b) fk λp hp1=>?_;cases o with
 | L xs=>
  exact x.list e1 hp1 λvs L R=>have z:=Lg (A:=A.in1) (s:=s) ha R e;⟨SeqAt.in_listAt _ L.list z.1 (bx.bool x z.2),SeqAt.notIn_listAt _ L.list z.1 (bx.bool x (congrArg _ z.2))⟩
 | T xs=>
  exact x.tup e1 hp1 λvs L R=>have z:=Lg (A:=A.in1) (s:=s) ha R e;⟨SeqAt.in_tupleAt _ L.tuple z.1 (bx.bool x z.2),SeqAt.notIn_tupleAt _ L.tuple z.1 (bx.bool x (congrArg _ z.2))⟩
 | S es=>
  exact x.w6 e1 hp1 λkvs D z f=>hr (P:=kT X A au ak s hp .In .NotIn val (.ref p.1)) e λt e=>ha.str (P:=λval=>kT X A au ak s hp .In .NotIn val (.ref p.1) _) e λu=>
   ⟨T4 (strKind_is X.prog X.w _ _) (x.sys hp1) D.mapOf (bx.A0 x (f t).w_),TC (strKind_is X.prog X.w _ _) (x.sys hp1) D.mapOf (bx.A0 x (congrArg _ (f t).w_))⟩
 | I es=>
  exact x.Bu e1 hp1 λkvs D z f=>hr (P:=kT X A au ak s hp .In .NotIn val (.ref p.1)) e λt e=>ha.int (P:=λval=>kT X A au ak s hp .In .NotIn val (.ref p.1) _) e λu=>
   ⟨T4 (knd:=intKind X.prog X.w) (intKind_is X.prog X.w _ _) (x.sys hp1) D.mapOf (bx.A0 x (f t).w_),TC (knd:=intKind X.prog X.w) (intKind_is X.prog X.w _ _) (x.sys hp1) D.mapOf (bx.A0 x (congrArg _ (f t).w_))⟩
 | A=>exact no e
noncomputable def qC:n3->CmpOp
 | .E=>.Eq | .N=>.NotEq | .L=>.Lt | .F=>.LtE | .G=>.Gt | .B=>.GtE | .I=>.In | .A=>.NotIn | .C=>.Is | .D=>.IsNot
theorem cL.PJ(h:cL X ak v val):(val==Value.none)=decide (v=.N):=by
 cases v with
 | N=>cases h;rfl
 | B b=>cases h;rfl
 | A a=>cases h;rfl
 | I i=>obtain⟨t,rfl⟩:=h;rfl
 | S i=>obtain⟨t,rfl⟩:=h;rfl
 | R n=>obtain⟨p,_,rfl⟩:=h;rfl
 | T=>obtain⟨p,rfl,_⟩:=h;rfl
 | C xs=>obtain⟨_,_,rfl,_⟩:=h;rfl
def p9(X:dC)(A:Around)(au:Heap)(ak:de)(s:Shared)(hp:H)(o:n3)(av bv:Value)(r:Bool):Prop:=bI X.M A (compareOp (qC o) av bv) (bx X au ak s (.B r) hp) No s
theorem BG{o:n3}{b:Bool}(k':∀a b t u,p9 X A au ak s hp o (.int a t) (.int b u) (ltB o a b))(ha:cL X ak v val)(hb:cL X ak k ax)(e:(v.fX.bind λa=>k.fX.map λb=>ltB o a b)=ae b):p9 X A au ak s hp o val ax b:=
 cz e λa e1 e=>hr (P:=p9 X A au ak s hp o val ax) e λb e2=>ha.int (P:=λval=>p9 X A au ak s hp o val ax (ltB o a b)) e1 λt=>hb.int (P:=λax=>p9 X A au ak s hp o (.int a t) ax (ltB o a b)) e2 λu=>k' a b t u
theorem LJ{o:n3}{b:Bool}(hu:A.units+64<cLine)(x:bG X ak au hp s.heap)(ha:cL X ak v val)(hb:cL X ak k ax)(e:cD o hp v k=ae b):p9 X A au ak s hp o val ax b:=by
 cases o with
 | E=>exact(N7 hu x ha hb e).1
 | N=>exact hr (P:=p9 X A au ak s hp .N val ax) e λc e=>(N7 hu x ha hb e).2
 | I=>exact(Oy x ha hb e).1
 | A=>exact hr (P:=p9 X A au ak s hp .A val ax) e λc e=>(Oy x ha hb e).2
 | C=>exact dZ e λg e=>by cases g;cases e;cases hb;exact is_none (bx.bool x ha.PJ)
 | D=>exact dZ e λg e=>by cases g;cases e;cases hb;exact isNot_none (bx.bool x (congrArg _ ha.PJ))
 | L=>exact BG (λ_ _ _ _=>ahx (bx.bool x ab)) ha hb e
 | F=>exact BG (λ_ _ _ _=>ahy (bx.bool x ab)) ha hb e
 | G=>exact BG (λ_ _ _ _=>ahz (bx.bool x ab)) ha hb e
 | B=>exact BG (λ_ _ _ _=>ahA (bx.bool x ab)) ha hb e
end
structure o6(env:Env)(sc:Scope):Prop where
 kind:env.scope.kind=.function
 glob:env.globals=nW
 blt:env.builtins=builtinsNs
 bo:∀x k,sc.names.lookup x=ae k->env.kindOf x=ae (if k=.free then .cell else k)
 cells:∀x,(sc.names.lookup x=ae .cell\/sc.names.lookup x=ae .free)->∃c,env.cells.lookup x=ae c
structure jT(X:dC)(ak:de)(env:Env)(sc:Scope)(names:List Str)(fr:bJ)(au:Heap):Prop where
 loc:∃m,au.Ns env.locals m/\∀(i:Nat)(x:Str)(v:V),names[i]?=ae x->fr[i]?=ae (ae v)->sc.names.lookup x=ae .local->∃val,m x=ae val/\cL X ak v val
 i9:∀(i:Nat)(x:Str)(v:V),names[i]?=ae x->fr[i]?=ae (ae v)->(sc.names.lookup x=ae .cell\/sc.names.lookup x=ae .free)->∃c val,env.cells.lookup x=ae c/\au.IsCell c (ae val)/\cL X ak v val
structure mM(X:dC)(au:Heap):Prop where
 iz:X.K.In au
 top:∃p loose mg mb,TopRead p loose mg mb au
 cls:xW X.K=aB
theorem jT.mono{X:dC}{ak a9:de}{env:Env}{sc:Scope}{names:List Str}{fr:bJ}{au:Heap}(hp:ak <+: a9)(f:jT X ak env sc names fr au):jT X a9 env sc names fr au:=
 ⟨f.loc.imp λm z=>⟨z.1,λi x v a b c=>(z.2 i x v a b c).imp λval z=>⟨z.1,z.2.mono hp⟩⟩,λi x v a b c=>(f.i9 i x v a b c).imp λc z=>z.imp λval z=>⟨z.1,z.2.1,z.2.2.mono hp⟩⟩
structure n1(X:dC)(n:Nat)(cl:Nat->List V->H->Option (V×H)):Prop where
 keep:∀f args hp r,cl f args hp=ae r->keepIn X.K (.ref f)=aB
 run:∀(A:Around)(au:Heap)(ak:de)(hp:H)(s:Shared)(f:Nat)(args:List V)(vals:List Value)(v:V)(hp':H),
  jP A n->mM X au->bG X ak au hp s.heap->di X ak args vals->cl f args hp=ae (v,hp')->
  codeAny X.M A (.call (.ref f) ⟨vals,[]⟩) (λr s'=>∃val,r=.ok (.ret val)/\bx X au ak s v hp' val s') s
structure G where
 X:dC
 P:gM
 cl:Nat->List V->H->Option (V×H)
 n:Nat
 sc:Scope
 names:List Str
structure eO(g:G) where
 A:Around
 env:Env
 f_:jP A g.n
 c9:o6 env g.sc
structure T{g:G}(F:eO g)(au:Heap)(ak:de)(fr:bJ)(hp:H)(s:Shared):Prop where
 e0:mM g.X au
 fr:jT g.X ak F.env g.sc g.names fr au
 aZ:bG g.X ak au hp s.heap
theorem T.next{g:G}{F:eO g}{au:Heap}{ak a9:de}{fr:bJ}{hp hp':H}{s s':Shared}(x:T F au ak fr hp s)(l:cZ ak s a9 s')(y:bG g.X a9 au hp' s'.heap):T F au a9 fr hp' s':=⟨x.e0,x.fr.mono l.p,y⟩
def Go{g:G}(F:eO g)(au:Heap)(ak:de)(s:Shared)(t:Sem Value)(v:V)(hp':H):Prop:=bI g.X.M F.A t (bx g.X au ak s v hp') No s
def bT(g:G)(e:Expr)(c:ck):Prop:=∀(F:eO g)(au:Heap)(ak:de)(fr:bJ)(hp:H)(s:Shared)(v:V)(hp':H),T F au ak fr hp s->aS g.P g.cl c fr hp=ae (v,hp')->Go F au ak s (eval e F.env) v hp'
def lQ(X:dC)(au:Heap)(ak:de)(s:Shared)(b:Bool)(hp:H)(c:Bool)(s':Shared):Prop:=c=b/\∃a9,cZ ak s a9 s'/\bG X a9 au hp s'.heap
def xG{g:G}(F:eO g)(au:Heap)(ak:de)(s:Shared)(t:Sem Bool)(b:Bool)(hp':H):Prop:=bI g.X.M F.A t (lQ g.X au ak s b hp') No s
def ST(g:G)(e:Expr)(c:ck):Prop:=∀(F:eO g)(au:Heap)(ak:de)(fr:bJ)(hp:H)(s:Shared)(b:Bool)(hp':H),T F au ak fr hp s->ff (aS g.P g.cl c fr hp)=ae (b,hp')->xG F au ak s (isTrue e F.env (eval e F.env)) b hp'
section
variable{g:G}{F:eO g}{au:Heap}{ak a9:de}{fr:bJ}{hp hp':H}{s s' s1:Shared}{v:V}{b:Bool}{a e e':Expr}{c c' ca cb:ck}{bg:Type}{r:bg}{pos:Pos}
theorem lQ.trans{c:Bool}(l:cZ ak s a9 s1)(h:lQ g.X au a9 s1 b hp c s'):lQ g.X au ak s b hp c s':=⟨h.1,h.2.imp λ_ z=>⟨l.trans z.1,z.2⟩⟩
theorem Bi{t:Sem Bool}{M:Model}{A:Around}(l:cZ ak s a9 s1)(h:bI M A t (lQ g.X au a9 s1 b hp) No s1):bI M A t (lQ g.X au ak s b hp) No s1:=e_ h λ_ _=>lQ.trans l
theorem bT.run(h:bT g e c)(x:T F au ak fr hp s){k:V->H->Option bg}(ev:B (aS g.P g.cl c fr hp) k=ae r){Q:Value->Shared->Prop}
 (q:∀val s' v a9 hp',cZ ak s a9 s'->T F au a9 fr hp' s'->cL g.X a9 v val->k v hp'=ae r->Q val s'):bI g.X.M F.A (eval e F.env) Q No s:=
 i4 ev λv hp' e1 e2=>e_ (h F au ak fr hp s v hp' x e1) λval s' z=>z.on λa9 l r y=>q val s' v a9 hp' l (x.next l y) r e2
theorem ST.run(h:ST g e c)(x:T F au ak fr hp s){k:Bool->H->Option bg}(ev:B (ff (aS g.P g.cl c fr hp)) k=ae r){Q:Bool->Shared->Prop}
 (q:∀b s' a9 hp',cZ ak s a9 s'->T F au a9 fr hp' s'->k b hp'=ae r->Q b s'):bI g.X.M F.A (isTrue e F.env (eval e F.env)) Q No s:=
 i4 ev λb hp' e1 e2=>e_ (h F au ak fr hp s b hp' x e1) λc s' z=>z.1▸z.2.elim λa9 z=>q b s' a9 hp' z.1 (x.next z.1 z.2) e2
theorem JW{val:Value}{k:Bool->H->Option bg}(x:T F au ak fr hp s)(hv:cL g.X ak v val)(ev:B (ok hp (truthy hp v)) k=ae r){Q:Bool->Shared->Prop}(q:∀b s',cZ ak s ak s'->T F au ak fr hp s'->truthy hp v=ae b->k b hp=ae r->Q b s'):bI g.X.M F.A (p8 val) Q No s:=
 i4 ev λb hp' e1 e2=>pK (P:=λb hp'=>k b hp'=ae r->bI g.X.M F.A (p8 val) Q No s) e1 (λe1 e2=>e_ (OD x.aZ hv e1) λc s' z=>by
  obtain⟨rfl,y,l⟩:=z;have l:cZ ak s ak s':=⟨iI _,l⟩;exact q c s' l (x.next l y) e1 e2) e2
theorem KJ{k:Bool->Option bg}{h:H}{o:Option Bool}:B (ok h o) (λt _=>k t)=o.bind k:=by cases o<;>rfl
theorem aek{k}:bT g (.Constant .none k pos) (.C .N):=λF au ak fr hp s v hp' x e=>eJ (P:=Go F au ak s _) e (wpAny_Constant_none (bx.l9 x.aZ ab))
theorem aei{b k}:bT g (.Constant (.bool b) k pos) (.C (.B b)):=λF au ak fr hp s v hp' x e=>eJ (P:=Go F au ak s _) e (wpAny_Constant_bool (bx.l9 x.aZ ab))
theorem aej{i k}:bT g (.Constant (.int i) k pos) (.C (.I i)):=λF au ak fr hp s v hp' x e=>eJ (P:=Go F au ak s _) e (Ke (bx.here x.aZ ⟨_,ab⟩))
theorem ael{t:Str}{k}:bT g (.Constant (.str t) k pos) (.C (.S t.cps.toList)):=λF au ak fr hp s v hp' x e=>eJ (P:=Go F au ak s _) e (S7 (bx.here x.aZ ⟨s.toks,ab⟩))
theorem aeA{i k pos'}:bT g (.UnaryOp .USub (.Constant (.int i) k pos) pos') (.C (.I (-i))):=λF au ak fr hp s v hp' x e=>
 eJ (P:=Go F au ak s _) e (Ko (Ke (Tu (s:={s with toks:=s.toks+1}) ⟨ak,cZ.up s.heap (s.toks+1+1),⟨_,rfl⟩,x.aZ⟩)))
theorem aaG{o:Option (Option V)}{P:V->H->Prop}{h h':H}(e:ok h (o.bind id)=ae (v,h'))(k:o=ae (ae v)->P v h):P v h':=pK e λe=>cz e λa e1 e2=>k (e1.trans (congrArg ae e2))
theorem Pb{M:Model}{env:Env}{sc:Scope}{names:List Str}(c9:o6 env sc)(hf:jT g.X ak env sc names fr au){i:Nat}{x:Str}(st:au.StaysIn s.heap)(aU:names[i]?=ae x)(a7:sc.names.lookup x=ae .local\/sc.names.lookup x=ae .cell\/sc.names.lookup x=ae .free)(hv:fr[i]?=ae (ae v)){Q:Value->Shared->Prop}{A:Around}
 (q:∀val,cL g.X ak v val->Q val s):bI M A (loadName env x) Q No s:=
 a7.elim (λa7=>hf.loc.elim λm z=>(z.2 i x v aU hv a7).elim λval y=>wpAny_loadName_local c9.kind (c9.bo x _ a7) (z.1.keeps st) y.1 (q val y.2))
  λa7=>(hf.i9 i x v aU hv a7).elim λc z=>z.elim λval z=>wpAny_loadName_cell c9.kind (a7.elim (c9.bo x _) (c9.bo x _)) z.1 (z.2.1.keeps st) (q val z.2.2)
theorem aew {i:Nat} {x:Str} (aU:g.names[i]?=ae x) (a7:g.sc.names.lookup x=ae .local\/g.sc.names.lookup x=ae .cell\/g.sc.names.lookup x=ae .free) (hd:(x==("__debug__":Str))=aP):bT g (.Name x pos) (.L i):=
 λF au ak fr hp s v hp' x e=>aaG (P:=Go F au ak s _) e λe=>wpAny_Name (Pb F.c9 x.fr x.aZ.dN aU a7 e λval r=>bx.l9 x.aZ r) hd
theorem aeo {a:Nat} {x:Str} (a7:g.sc.names.lookup x=ae .globalImplicit) (hd:(x==("__debug__":Str))=aP) (aU:nsIn g.X.K nW x=ae (ae (.ref a))):bT g (.Name x pos) (.C (.A a)):=
 λF au ak fr hp s v hp' z e=>eJ (P:=Go F au ak s _) e (by
  obtain⟨p,loose,mg,mb,T⟩:=z.e0.top;exact Name_function_global F.c9.kind (F.c9.bo x _ a7) (loadGlobal_global (env:=F.env) (by rw[F.c9.glob];exact T.g.keeps z.aZ.dN) (mg_of z.e0.iz T.g aU) (bx.l9 z.aZ rfl)) hd)
structure gy(g:G)(x:Str)(val:Value):Prop where
 sc:g.sc.names.lookup x=ae .globalImplicit
 ag:(x==("__debug__":Str))=aP
 no:nsIn g.X.K nW x=ae az
 Wc:bootBuiltins x=ae val
 ne:x≠"__name__"
theorem gy.run{x:Str}{val:Value}(b:gy g x val)(z:T F au ak fr hp s){Q:Value->Shared->Prop}(q:Q val s):bI g.X.M F.A (eval (.Name x pos) F.env) Q No s:=by
 obtain⟨p,loose,mg,mb,T⟩:=z.e0.top;exact Name_function_global F.c9.kind (F.c9.bo x _ b.sc) (loadGlobal_builtin (env:=F.env) (by rw[F.c9.glob];exact T.g.keeps z.aZ.dN) (mg_none_of z.e0.iz T.g b.no) (by rw[F.c9.blt];exact T.b.keeps z.aZ.dN) ((T.builtins x b.ne).trans b.Wc) q) b.ag
theorem aed{o:js}(ha:bT g a ca)(hb:bT g e cb):bT g (.BinOp a (HH o) e pos) (.F o ca cb):=λF au ak fr hp s v hp' x ev=>
 wpAny_BinOp (ha.run x ev λ_ _ _ _ _ l x r ev=>hb.run x ev λ_ _ _ _ _ l2 x r2 ev=>fin (l.trans l2) (V6 x.aZ (r.mono l2.p) r2 ev))
theorem aef{o:n3}(ha:bT g a ca)(hb:bT g e cb)(hm:behindInMarks (qC o) e=aP):bT g (.Compare a [qC o] [e] pos) (.A o ca cb):=λF au ak fr hp s v hp' x ev=>
 wpAny_Compare1 (hm:=hm) (ha.run x ev λ_ _ _ _ _ l x r ev=>hb.run x ev λ_ s2 _ _ _ l2 x r2 ev=>Q2 (P:=λv hp'=>bI _ _ _ (bx g.X au ak s v hp') No s2) ev λb e=>fin (l.trans l2) (LJ F.f_.x5 x.aZ (r.mono l2.p) r2 e))
theorem Ah{dR:Type}{x:Option (dR×H)}{k:dR->H->Option (V×H)}:ff (B x k)=B x λv h=>ff (k v h):=by cases x<;>rfl
theorem afN{h:H}{o:Option Bool}:ff (zN h o)=ok h o:=by cases o<;>rfl
theorem afg{o:n3}(ha:bT g a ca)(hb:bT g e cb)(hm:behindInMarks (qC o) e=aP):ST g (.Compare a [qC o] [e] pos) (.A o ca cb):=λF au ak fr hp s v hp' x ev=>
 wpAny_isTrue_Compare1 (hm:=hm) (ha.run x (Ah.symm.trans ev) λ_ _ _ _ _ l x r ev=>hb.run x (Ah.symm.trans ev) λ_ s2 _ _ _ l2 x r2 ev=>pK (P:=λb hp'=>bI _ _ _ (λv s3=>bI _ _ (p8 v) (lQ g.X au ak s b hp') No s3) No s2) (afN.symm.trans ev) λe=>
  e_ (LJ F.f_.x5 x.aZ (r.mono l2.p) r2 e) λcv s3 z=>z.on λlJ l3 r3 x3=>r3.symm▸Ta ⟨ab,lJ,(l.trans l2).trans l3,x3⟩)
theorem afm(h:bT g e c)(he:∀env whole,isTrue e env whole=(do let v<-whole;standAt e.pos;holding [v] (p8 v))):ST g e c:=λF au ak fr hp s b hp' x ev=>
 wpAny_isTrue_value (he:=he _ _) (h.run x ev λ_ s1 _ bK _ l x r ev=>pK (P:=λb hp'=>bI _ _ _ (lQ g.X au ak s b hp') No s1) ev λe=>e_ (OD x.aZ r e) λc s2 z=>⟨z.1,bK,l.trans ⟨iI _,z.2.2⟩,z.2.1⟩)
theorem KI{dR Su:Type}{x:Option (dR×H)}{f:dR->H->Option (Su×H)}{k:Su->H->Option bg}:B (B x f) k=B x λv h=>B (f v h) k:=by cases x<;>rfl
theorem aeB(ha:bT g a ca):bT g (.UnaryOp .Not a pos) (.N ca):=λF au ak fr hp s v hp' x ev=>
 Ko (ha.run x ((KI (f:=λv h=>ok h (truthy h v))).symm.trans ev) λ_ _ _ bK _ l x r ev=>not_value (JW x r ev λb s1 l2 x _ ev=>eJ (P:=λv hp'=>bx g.X au ak s v hp' (.bool (!b)) s1) ev ⟨bK,l.trans l2,ab,x.aZ⟩))
theorem afj(ha:ST g a ca):ST g (.UnaryOp .Not a pos) (.N ca):=λF au ak fr hp s v hp' x ev=>
 wpAny_isTrue_Not (ha.run x (Ah.symm.trans ev) λb s1 bK _ l x ev=>eJ (P:=λc hp'=>lQ g.X au ak s c hp' (!b) s1) ev ⟨ab,bK,l,x.aZ⟩)
theorem aeu{t:Expr}{ct:ck}(aC:ST g t ct)(ha:bT g a ca)(hb:bT g e cb):bT g (.IfExp t a e pos) (.R ct ca cb):=λF au ak fr hp s v hp' x ev=>
 wpAny_IfExp (aC.run x ev λb s1 bK hp1 l x ev=>by cases b with
  | true=>exact fin l (ha F au bK fr hp1 s1 v hp' x ev)
  | false=>exact fin l (hb F au bK fr hp1 s1 v hp' x ev))
theorem afh{t:Expr}{ct:ck}(aC:ST g t ct)(ha:ST g a ca)(hb:ST g e cb):ST g (.IfExp t a e pos) (.R ct ca cb):=λF au ak fr hp s v hp' x ev=>
 arm_isTrue_IfExp ..▸c8 (aC.run x (Ah.symm.trans ev) λb s1 bK hp1 l x ev=>by cases b with
  | true=>exact Bi l (ha F au bK fr hp1 s1 v hp' x ev)
  | false=>exact Bi l (hb F au bK fr hp1 s1 v hp' x ev))
end
theorem acE(k:Nat):D7 0 (k:Int) 1=k:=by
 unfold D7;rw[if_pos (by decide)];split<;>lia
theorem UJ(u n:Nat):J3 az (ae (u:Int)) 1 (n:Int)=(0,((min u n:Nat):Int)):=by
 unfold J3;have h1:¬((1:Int)<0):=by decide
 have aD:¬((u:Int)<0):=by lia
 simp only[h1,aD,if_false];congr 1;lia
section
variable{X:dC}{A:Around}{E:Value->Shared->Prop}{s:Shared}
theorem UT{sl:Addr}{u n:Nat}{t:Tok}{Q:Int×Int×Nat->Shared->Prop}(hs:s.heap.IsSliceOf sl .none (.int u t) .none)(h:Q (0,1,min u n) s):bI X.M A (SD (.ref sl) (pure (n:Int))) Q E s:=by
 obtain⟨os,hos,hcs,hds⟩:=hs;unfold SD ahe;refine c8 (c8 (Ks hos hds (x:=.none) rfl (c8 (Ks hos hds (x:=.int u t) rfl (c8 (Ks hos hds (x:=.none) rfl (fl (c8 (slicePart_none ?_)))))))));show bI _ _ (if ((1:Int)==0)=aB then _ else _) _ _ s;rw[if_neg (by decide)];refine c8 (slicePart_none (c8 (slicePart_int (c8 (fl ?_)))));show bI _ _ (match J3 az (ae (u:Int)) 1 (n:Int)with | (lo,hi)=>pure (lo,(1:Int),D7 lo hi 1)) _ _ s;rw[UJ];show bI _ _ (pure ((0:Int),(1:Int),D7 0 _ 1)) _ _ s;rw[acE];exact fl h
theorem acB(xs:Array Value)(k:Nat):((nM k).filterMap λ(j:Nat)=>xs[((0:Int)+(j:Int)*1).toNat]?).toArray=(xs.toList.take k).toArray:=by
 have e:(λ(j:Nat)=>xs[((0:Int)+(j:Int)*1).toNat]?)=(λx=>xs[x]?) ∘ λx=>0+x:=by
  funext j;exact congrArg (λk=>xs[k]?) (by show _=0+j;lia)
 rw[e,<-List.filterMap_map,pick_run xs 0 k,List.drop_zero]
theorem af2{u n:Nat}(h:u<n):¬(((0:Int)==0&&(1:Int)==1&&(min u n)==n)=aB):=λq=>by have:=beq_iff_eq.mp (iL q).2;lia
theorem af3{u n:Nat}(h:n<=u):((0:Int)==0&&(1:Int)==1&&(min u n)==n)=true:=by rw[Nat.min_eq_right h];exact beq_self_eq_true n
theorem afQ{t sl:Addr}{items:Array Value}{u:Nat}{k:Tok}{Q:Value->Shared->Prop}(hT:IsTup s.heap t items)(hs:s.heap.IsSliceOf sl .none (.int u k) .none)
 (h1:u<items.size->Q (.ref s.heap.objs.size) {s with heap:=s.heap.push {cls:=.type "tuple",data:=.seq (items.toList.take u).toArray}}) (aD:items.size<=u->Q (.ref t) s)
 (hsz:items.size<=sizeLine):bI X.M A (getItem (.ref t) (.ref sl)) Q E s:=by
 have hTs:s.TypeIs (.ref sl) "slice":=let ⟨os,hos,hcs,_⟩:=hs;⟨os,hos,hcs⟩
 unfold getItem
 try with_reducible refine mE ?_
 first | refine c8 (fl ?_) | skip
 refine c8 (wpAny_sequenceKey hT.typeIs (by decide) (c8 (wpAny_callSpecial?_slot (name:=mF "__getitem__") hT.typeIs J1
  (wpAny_call_entry J1 hT.typeIs ag9 ?_ (ag_ _ _)))))
 show bI _ _ (aha (.ref t) >>= _) _ _ s
 refine c8 (tupleItemsOf_ hT (c8 (TX hTs ?_)))
 rw[if_pos (by decide)]
 refine c8 (UT hs ?_)
 show bI _ _ (if ((0:Int)==0&&(1:Int)==1&&(min u items.size)==items.size)=aB then _ else _) _ _ s
 by_cases hu:u<items.size
 .rw[if_neg (af2 hu),acB items,Tv (nU hu)];have hcut:sizeOk (.seq (items.toList.take u).toArray):=d8 (xu (Tj ..)) (d8 (Nat.min_le_right ..) hsz);have h:=h1 hu
  first
   | exact c8 (m:=DP _) (Aq (fl ⟨_,ab,fl h⟩) hcut)
   | exact c8 (m:=DP _) (Aq (c8 (fl (fl ⟨_,ab,fl h⟩))) hcut)
   | exact c8 (c8 (m:=DP _) (Aq (fl (fl ⟨_,ab,fl h⟩)) hcut))
   | exact c8 (c8 (m:=DP _) (Aq (fl ⟨_,ab,fl h⟩) hcut))
 .have hu:=mG.mp hu;rw[if_pos (af3 hu)];refine c8 (m:=ahb _) (c8 (TX hT.typeIs (fl ?_)));rw[if_pos (by decide)];exact c8 (wpAny_rule (fl ⟨_,rfl,fl (aD hu)⟩))
end
def lP(e:Expr):Prop:=∀nm env t,attributeBase e nm env t=t
def KX(e:Expr):Prop:=∀o k,subscripted e aP o k=operate [o,k] (getItem o k)
def xJ(g:G)(e:Option Expr)(c:ck):Prop:=match e with
 | none=>c=.C .N
 | some e=>bT g e c
section
variable{g:G}{F:eO g}{au:Heap}{ak a9:de}{fr:bJ}{hp hp':H}{s s' s1:Shared}{v lo hi fG:V}{b:Bool}{a e e':Expr}{c c' ca cb cl x5:ck}{bg:Type}{r:bg}{pos p:Pos}{val lv uv:Value}
theorem aeb{k:Nat}{nm:Str}(c9:bT g a ca)(hb:lP a)(ha:k<30)(aU:jv k=ae nm):bT g (.Attribute a nm pos) (.B ca k):=λF au ak fr hp s v hp' x ev=>by
 unfold Go;rw[arm_eval_Attribute,hb]
 exact c8 (c9.run x ev λw s1 _ _ hp1 l x r ev=>c8 (p7 (c8 (mE (pK (P:=λv hp'=>bI g.X.M F.A (getAttr w nm aB) (λo s'=>bI g.X.M F.A (letTemporaryGo a w o >>= λ_=>pure o) (bx g.X au ak s v hp') No s') No s1) ev λe=>
  e_ (Zy x.e0.cls x.e0.iz x.aZ r ha aU e) λ_ _ h=>c8 (wpAny_letTemporaryGo (fl (h.trans l))))))))
theorem Sub.tail{value slice:Expr}{ops:List Value}{A:Around}{X:dC}{Q:Value->Shared->Prop}(h:Sub X A lv uv Q s)(hs:subscripted slice aP lv uv=operate ops (getItem lv uv)):bI X.M A (subscriptTail value slice lv uv) Q No s:=
 h.elim λT z=>z.elim λid z=>tail_any z.1 z.2.1 z.2.2 hs
theorem aeq(c9:bT g a ca)(hi:bT g e cb)(aU:KX e):bT g (.Subscript a e pos) (.I ca cb):=λF au ak fr hp s v hp' x ev=>
 Subscript_ (c9.run x ev λ_ _ _ _ _ l x r ev=>hi.run x ev λ_ s2 _ _ _ l2 x r2 ev=>pK (P:=λv hp'=>bI _ _ _ (bx g.X au ak s v hp') No s2) ev λe=>fin (l.trans l2) ((ZA x.e0.iz x.aZ (r.mono l2.p) r2 e).tail (aU _ _)))
theorem xJ.run{e:Option Expr}(h:xJ g e c)(x:T F au ak fr hp s){k:V->H->Option bg}(ev:B (aS g.P g.cl c fr hp) k=ae r){Q:Value->Shared->Prop}
 (q:∀val s' v a9 hp',cZ ak s a9 s'->T F au a9 fr hp' s'->cL g.X a9 v val->k v hp'=ae r->Q val s'):bI g.X.M F.A (evalPart e F.env) Q No s:=by
 cases e with
 | none=>cases h;exact fl (q .none s .N ak hp (cZ.refl _ _) x ab ev)
 | some e=>exact bT.run h x ev q
theorem acv{n k:Nat}{X:dC}(r:cL X ak v val)(e:Pa n v=ae k):∃o,IsPart val o/\kms_lo o n=k:=by
 cases v with
 | N=>cases e;cases r;exact⟨az,.none,ab⟩
 | I i=>
  obtain⟨t,rfl⟩:=r;exact⟨ae i,.int _ _,dE e⟩
 | _=>exact no e
theorem acu{n k:Nat}{X:dC}(r:cL X ak v val)(e:Ov n v=ae k):∃o,IsPart val o/\kms_hi o n=k:=by
 cases v with
 | N=>cases e;cases r;exact⟨az,.none,ab⟩
 | I i=>
  obtain⟨t,rfl⟩:=r;exact⟨ae i,.int _ _,dE e⟩
 | _=>exact no e
theorem aeU{X:dC}{A:Around}(x:bG X ak au hp s.heap)(hv:cL X ak v val)(rl:cL X ak lo lv)(ru:cL X ak hi uv)(e:z8 hp v lo hi=ae (fG,hp')):
 Sub X A val (.ref s.heap.objs.size) (bx X au ak s fG hp') {s with heap:=s.heap.push {cls:=.type "slice",data:=.fields #[lv,uv,.none]}}:=by
 have l:cZ ak s ak {s with heap:=s.heap.push {cls:=.type "slice",data:=.fields #[lv,uv,.none]}}:=cZ.up _ _
 have x4:bG X ak au hp ({s with heap:=s.heap.push {cls:=.type "slice",data:=.fields #[lv,uv,.none]}}:Shared).heap:=x.push _
 have S:({s with heap:=s.heap.push {cls:=.type "slice",data:=.fields #[lv,uv,.none]}}:Shared).heap.IsSliceOf s.heap.objs.size lv uv .none:=ahG ..
 generalize ({s with heap:=s.heap.push {cls:=.type "slice",data:=.fields #[lv,uv,.none]}}:Shared)=s4 at l x4 S⊢
 generalize s.heap.objs.size=sl at S⊢
 refine cz e λn fk e=>cz e λo e1 e=>hv.ref (P:=λval=>Sub X A val (.ref sl) (bx X au ak s fG hp') s4) fk λp hp1=>?_
 cases o with
 | L xs=>
  refine hr (P:=λq=>Sub X A (.ref p.1) (.ref sl) (bx X au ak s q.1 q.2) s4) e λys e=>dZ e λhb e=>cz e λa ha e=>hr (P:=λys=>Sub X A (.ref p.1) (.ref sl) (bx X au ak s (gF hp (.L ys)).1 (gF hp (.L ys)).2) s4) e λc hc=>x4.list e1 hp1 λvs L R=>
   (acv rl ha).elim λlo aL=>(acu ru hc).elim λhi pu=>⟨_,_,L.list.typeIs,slot_list_getitem.lookup,wpAny_getItem_list_slice (hsz:=by rw[R.size];exact lV hb) L.list S aL.1 pu.1 .none (by simp) ?_⟩
  rw[kms_pick_eq,show kms_pick vs lo hi=(vs.take c).drop a by unfold kms_pick;rw[R.length,aL.2,pu.2,List.drop_take]]
  exact(bx.newList x4 ((R.take c).drop a)).trans l
 | T xs=>
  refine cz e λu e2 e=>dZ e λbP e=>dZ e λg e3=>x4.tup e1 hp1 λvs L R=>?_
  subst bP
  obtain⟨hb,h0⟩:=g
  cases rl
  obtain⟨u,rfl⟩:=Int.eq_ofNat_of_zero_le h0
  refine ru.int (P:=λuv=>s4.heap.IsSliceOf sl .none uv .none->Sub X A (.ref p.1) (.ref sl) (bx X au ak s fG hp') s4) e2 (λt S=>⟨_,_,L.tup.typeIs,J1.lookup,afQ L.tup S (λhu=>?_) (λhu=>?_) (by rw[R.size];exact lV hb)⟩) S
  .rw[if_pos (Kp.mpr (R.size▸hu))]at e3;exact eJ (P:=λfG hp'=>bx X au ak s fG hp' _ _) e3 ((bx.F4 x4 (R.take u)).trans l)
  .rw[if_neg (λq=>mG.mpr hu (R.size.symm▸Kp.mp q))]at e3;exact eJ (P:=λfG hp'=>bx X au ak s fG hp' _ _) e3 ((bx.l9 x4 (acR (P:=λv=>cL X ak v (.ref p.1)) fk ⟨p,hp1,rfl⟩)).trans l)
 | _=>exact no e
theorem aeF{l u:Option Expr}(c9:bT g a ca)(hl:xJ g l cl)(hu:xJ g u x5):bT g (.Subscript a (.Slice l u az p) pos) (.S ca cl x5):=λF au ak fr hp s v hp' x ev=>
 Subscript_ (c9.run x ev λ_ _ _ _ _ l x r ev=>wpAny_Slice (hl.run x ev λ_ _ _ _ _ l2 x rl ev=>hu.run x ev λ_ _ _ _ _ l3 x ru ev=>by
  rw[PySem.evalPart_none];exact fl (e_ ((aeU x.aZ (r.mono (l2.trans l3).p) (rl.mono l3.p) ru ev).tail rfl) λ_ _=>bx.trans (l.trans (l2.trans l3)))))
theorem aeD(h:bT g e c):bT g e (.P c):=λF au ak fr hp s v hp' x ev=>
 h.run x ev λav s1 w bK hp1 l y r ev=>dZ ev λq ev=>eJ (P:=λv hp'=>bx g.X au ak s v hp' av s1) ev ⟨ak,⟨iI _,l.e⟩,by
  cases w with
  | R n=>
   have lt:n<ak.length:=x.aZ.len▸T8.mp (of_decide_eq_false q.2);exact(Lk lt).elim λp hp1=>r.imp λp' z=>⟨hp1.trans ((j4 l.p hp1).symm.trans z.1),z.2⟩
  | _=>exact r,x.aZ.cut y.aZ l.p q.1⟩
theorem afM{h h':H}(q:h'.take h.length=h)(d:qJ h.length v=aP):truthy h' v=truthy h v:=by
 cases v with
 | R n=>
  obtain⟨t,rfl⟩:h <+: h':=q▸Tg ..;exact congrArg (xA · _) (gh (T8.mp (of_decide_eq_false d)))
 | _=>rfl
theorem afk(h:ST g e c):ST g e (.P c):=λF au ak fr hp s b hp' x ev=>
 i4 (Ah.symm.trans ev) λv h1 e1 ev=>i4 (x:=if h1.take hp.length=hp/\qJ hp.length v=aP then ae (v,hp)else az) ev λv' h' e2 ev=>dZ e2 λq e2=>pK (P:=λb hp'=>xG F au ak s _ b hp') ev λev=>by
  cases e2
  exact e_ (h F au ak fr hp s b h1 x (by rw[e1];show ok h1 (truthy h1 v)=_;rw[afM q.1 q.2,ev];rfl)) λc s1 z=>⟨z.1,z.2.elim λbK z=>⟨ak,⟨iI _,z.1.e⟩,x.aZ.cut z.2 z.1.p q.1⟩⟩
end
def g_(e:Expr):Prop:=∀r env,jM (e::r) env=(aP,eval e env)::jM r env
def Em(X:dC)(au:Heap)(ak:de)(s:Shared)(vs:List V)(hp:H)(vals:List Value)(s':Shared):Prop:=∃a9,cZ ak s a9 s'/\di X a9 vs vals/\bG X a9 au hp s'.heap
def xI(g:G)(es:List Expr)(cs:hJ):Prop:=∀(F:eO g)(au:Heap)(ak:de)(fr:bJ)(hp:H)(s:Shared)(vs:List V)(hp':H)(pos:Pos),
 T F au ak fr hp s->iw g.P g.cl cs fr hp=ae (vs,hp')->bI g.X.M F.A (spliced (backTo pos (jM es F.env))) (Em g.X au ak s vs hp') No s
inductive jQ(g:G):List Expr->hJ->Prop
 | N:jQ g [] .N
 | C {e es c cs}:bT g e c->g_ e->jQ g es cs->jQ g (e::es) (.C c cs)
section
variable{g:G}{F:eO g}{au:Heap}{ak a9:de}{fr:bJ}{hp hp':H}{s s' s1:Shared}{v:V}{vs:List V}{b:Bool}{a e e' o x:Expr}{c c' co ca cb cx:ck}{es:List Expr}{cs:hJ}{bg:Type}{r:bg}{pos p apos:Pos}{val:Value}{n:Nat}
theorem jQ.plain(h:jQ g es cs):∀env,(backTo pos (jM es env)).any (·.1)=false:=by
 induction h with
 | N=>exact λ_=>rfl
 | C _ b _ ih=>exact λenv=>by rw[b];exact ih env
theorem jQ.yb(h:jQ g es cs)(env:Env):(backTo pos (jM es env)).all (λx=>!x.1)=true:=by
 rw[List.all_eq_not_any_not];simp only[Bool.not_not];rw[h.plain];rfl
theorem xI.run(h:xI g es cs)(x:T F au ak fr hp s){k:List V->H->Option bg}(ev:B (iw g.P g.cl cs fr hp) k=ae r){Q:List Value->Shared->Prop}
 (q:∀vals s' vs a9 hp',cZ ak s a9 s'->T F au a9 fr hp' s'->di g.X a9 vs vals->k vs hp'=ae r->Q vals s'):bI g.X.M F.A (spliced (backTo pos (jM es F.env))) Q No s:=
 i4 ev λv hp' e1 e2=>e_ (h F au ak fr hp s v hp' pos x e1) λval s' z=>z.elim λa9 z=>q val s' v a9 hp' z.1 (x.next z.1 z.2.2) z.2.1 e2
theorem jQ.Jr(h:jQ g es cs):xI g es cs:=by
 induction h with
 | N=>exact λF au ak fr hp s vs hp' pos x e=>eJ (P:=λvs hp'=>bI g.X.M F.A _ (Em g.X au ak s vs hp') No s) e (wpAny_items_nil ⟨ak,cZ.refl _ _,.N,x.aZ⟩)
 | C a b _ ih=>exact λF au ak fr hp s vs hp' pos x ev=>wpAny_items_cons (he:=b _ _) (a.run x ev λ_ _ _ _ _ l x r ev=>ih.run x ev λvs s2 us lK hp2 l2 x r2 ev=>eJ (P:=λus hp'=>Em g.X au ak s us hp' _ s2) ev ⟨lK,l.trans l2,.C (r.mono l2.p) r2,x.aZ⟩)
theorem aeI{k}(h:xI g es cs):bT g (.Tuple es k pos) (.T cs):=λF au ak fr hp s v hp' x ev=>
 wpAny_Tuple (h.run x ev λvs s1 us bK hp1 l x r ev=>dZ ev λhb ev=>⟨r.length▸lV hb,eJ (P:=λv hp'=>bx g.X au ak s v hp' _ _) ev ((bx.F4 x.aZ r).trans l)⟩)
theorem aex(h:xI g es cs):bT g (.List es pos) (.E cs):=λF au ak fr hp s v hp' x ev=>
 wpAny_List (h.run x ev λvs s1 us bK hp1 l x r ev=>dZ ev λhb ev=>⟨r.length▸lV hb,eJ (P:=λv hp'=>bx g.X au ak s v hp' _ _) ev ((bx.newList x.aZ r).trans l)⟩)
def AO(X:dC)(f:Value):Prop:=∀h,X.K.In h->∃k,(k=Keeper.frame\/k=Keeper.machine\/k=Keeper.boundFrame)/\Looks X.M h (keeperOf f) k
theorem OI{X:dC}{id:String}:AO X (.builtin id):=λ_ _=>⟨.machine,.inr (.inl ab),T_⟩
theorem By{X:dC}{id:String}:AO X (.type id):=λ_ _=>⟨.machine,.inr (.inl ab),T_⟩
theorem wp_call{f:Value}{first:List Value}(h:jQ g es cs)(x:T F au ak fr hp s){k:List V->H->Option bg}(ev:B (iw g.P g.cl cs fr hp) k=ae r)(a7:∀vs h,k vs h=ae r->AO g.X f){Q:Value->Shared->Prop}
 (q:∀vals s' vs a9 hp',cZ ak s a9 s'->T F au a9 fr hp' s'->di g.X a9 vs vals->k vs hp'=ae r->bI g.X.M F.A (call f (first++vals)) Q No s'):
 bI g.X.M F.A (callWith pos f first (backTo pos (jM es F.env)) []) Q No s:=by
 refine callWith_of (P:=g.X.K.In) (by rw[h.plain];rfl) (i4 ev λvs h _ e=>a7 vs h e) ?_
 have run:=h.Jr.run (pos:=pos) x ev (Q:=λvals s'=>g.X.K.In s'.heap/\bI g.X.M F.A (call f (first++vals)) Q No s') λvals s' vs a9 hp' l x r e=>⟨x.e0.iz.keeps x.aZ.dN,q vals s' vs a9 hp' l x r e⟩
 cases h with
 | N=>exact ahc ⟨x.e0.iz.keeps x.aZ.dN,q [] s [] ak hp (cZ.refl _ _) x .N ev⟩
 | C a b c=>rw[b]at run⊢;exact evalArgs_plain run
theorem DK{A:Around}{X:dC}{n:Nat}{cl:Nat->List V->H->Option (V×H)}(C:n1 X n cl){f:Nat}{vals:List Value}(f_:jP A n)(hs:mM X au)(hx:bG X ak au hp s.heap)(hv:di X ak vs vals)(e:cl f vs hp=ae (v,hp')):bI X.M A (call (.ref f) vals) (bx X au ak s v hp') No s:=
 wpAny_call (codeAny_mono (C.run A au ak hp s f vs vals v hp' f_ hs hx hv e) λr s' z=>z.elim λval z=>z.1▸z.2)
theorem aee{y:Str}(C:n1 g.X g.n g.cl)(h:bT g (.Name y p) c)(hs:jQ g es cs):bT g (.Call (.Name y p) es [] pos) (.D c cs):=λF au ak fr hp s v hp' x ev=>
 c8 (h.run x ev λav s1 w bK hp1 l x r ev=>by
  cases w with
  | A f=>
   obtain rfl:av=.ref f:=r;exact wp_call hs x ev (λvs h e=>keeps_K (C.keep _ _ _ _ e)) λ_ _ _ _ _ l2 x r e=>fin (l.trans l2) (DK C F.f_ x.e0 x.aZ r e)
  | _=>exact i4 ev λ_ _ _ e=>no e)
theorem di.ints{X:dC}{xs:List V}{vs:List Value}(R:di X ak xs vs):xs.all isInt=aB->di X a9 xs vs:=by
 induction R with
 | N=>exact λ_=>.N
 | @C x _ _ _ a _ ih=>
  refine λh=>.C ?_ (ih (iL h).2);cases x with
  | I=>exact a
  | _=>exact nomatch (iL h).1
theorem agk{A:Around}{X:dC}{m:Nat}{cl:Nat->List V->H->Option (V×H)}(C:n1 X m cl){f:Nat}{xs:List V}{q:Addr×Addr}(f_:jP A m)(hs:mM X au)(hx:bG X ak au hp s.heap)(hp1:ak[n]?=ae q)(aU:hp[n]?=ae (.L xs))(hi:xs.all isInt=aB)
 (e:cl f [.R 0] [.L xs]=ae (v,hp')) (h0:hp'[0]?=ae (.L xs)) (hd:qJ 0 v=aP):bI X.M A (call (.ref f) [.ref q.1]) (bx X au ak s v hp) No s:=by
 have O:=hx.off n q hp1
 have st:au.StaysIn (hideAll s.heap [q.1,q.2]):=λb o z=>hideAll_get _ (hx.dN b o z) λm=>hx.pI z (by cases m with
  | head=>exact qw hp1
  | tail _ m=>exact dx.mp m▸qx hp1)
 have one:∀{P:Prop}{i:Nat}{p:Addr×Addr},[q][i]?=ae p->(i=0->q=p->P)->P:=λ{P i p} e k=>by
  cases i with
  | zero=>exact k ab (dE e)
  | succ i=>exact no e
 refine hx.list aU hp1 λvs L R=>L.elim λk hl=>?_
 have y:bG X [q] (hideAll s.heap [q.1,q.2]) [.L xs] s.heap:=
  ⟨λ_ _ z=>of_hideAll _ z,ab,λi o p a b=>one b λe1 e2=>by subst e1 e2;cases a;exact(hx.here hp1).elim λa z=>z.elim λb z=>⟨_,b,hl,z.2,vs,k,ab,R.ints hi⟩,
   λi j p p' a b hij=>one a λe1 _=>one b λe2 _=>absurd (e1.trans e2.symm) hij,λi p a=>one a λ_ e2=>e2▸⟨hideAll_none _ (.head _),hideAll_none _ (.tail _ (.head _)),O.2.2⟩,hx.low.imp λa z=>z.imp λo z=>⟨z.1,st _ _ z.2⟩⟩
 refine e_ (DK C f_ (⟨hs.iz.keeps st,hs.top.imp λ_ z=>z.imp λ_ z=>z.imp λ_ z=>z.imp λ_ T=>T.keeps st,hs.cls⟩) y (.C (x:=.R 0) (v:=.ref q.1) ⟨q,ab,ab⟩ .N) e) λval s' z=>z.on λa9 l r x'=>⟨ak,⟨iI _,l.e⟩,?_,?_⟩
 .cases v with
  | R m=>exact absurd (gJ m) (of_decide_eq_false (p:=0<=m) hd)
  | _=>exact r
 .have keep:∀b o,b≠q.1->b≠q.2->s.heap.get? b=ae o->s'.heap.get? b=ae o:=λb o gb n2 z=>x'.dN _ _ (hideAll_get _ z λm=>by cases m with
   | head=>exact gb ab
   | tail _ m=>exact n2 (dx.mp m))
  have hq:a9[0]?=ae q:=j4 l.p ab;have R':kC X ak s'.heap (.L xs) q:=let ⟨a,b,u,w,vs,n,z,r⟩:=x'.obj 0 _ q h0 hq;⟨a,b,u,w,vs,n,z,r.ints hi⟩;have z:=hx.change hp1 keep R'
  rwa [show hp.set n (.L xs)=hp from Ar λi=>by
   by_cases hi:n=i
   .subst hi;rw[pY (lh aU),aU]
   .exact rk hi]at z
theorem Aj{f:Value}(ha:bT g a c)(hst:g_ a)(x:T F au ak fr hp s){k:V->H->Option bg}(ev:B (aS g.P g.cl c fr hp) k=ae r)(a7:∀v h,k v h=ae r->AO g.X f){Q:Value->Shared->Prop}
 (q:∀val s' v a9 hp',cZ ak s a9 s'->T F au a9 fr hp' s'->cL g.X a9 v val->k v hp'=ae r->bI g.X.M F.A (call f [val]) Q No s'):bI g.X.M F.A (callWith pos f [] (backTo pos (jM [a] F.env)) []) Q No s:=by
 rw[hst]
 exact callWith_of (P:=g.X.K.In) ab (i4 ev λv h _ e=>a7 v h e) (evalArgs_plain (spliced_cons (ha.run x ev λval s' v a9 hp' l x r e=>spliced_nil ⟨x.e0.iz.keeps x.aZ.dN,q val s' v a9 hp' l x r e⟩)))
theorem aes{y:Str}{f:Nat}(C:n1 g.X g.n g.cl)(h:bT g (.Name y p) (.C (.A f)))(ha:bT g a c)(hst:g_ a):bT g (.Call (.Name y p) [a] [] pos) (.iso f c):=λF au ak fr hp s v hp' x ev=>
 c8 (e_ (h F au ak fr hp s (.A f) hp x ab) λav s1 z=>z.on λbK l r y=>by
  obtain rfl:av=.ref f:=r
  refine Aj ha hst (x.next l y) ev (λv h e=>cz e λn _ e=>cz e λxs _ e=>dZ e λ_ e=>i4 e λ_ _ e _=>keeps_K (C.keep _ _ _ _ e)) λval s' w a9 hp1 l2 x r e=>cz e λn e1 e=>cz e λxs e2 e=>dZ e λhi e=>i4 e λu h' e3 e=>dZ e λq e=>
   eJ (P:=λv hp'=>bI _ _ _ (bx g.X au ak s v hp') No s') e (r.ref (P:=λval=>bI g.X.M F.A (call (.ref f) [val]) (bx g.X au ak s u hp1) No s') e1 λp hp1=>fin (l.trans l2) (agk C F.f_ x.e0 x.aZ hp1 (rX e2) hi e3 q.1 q.2)))
def n6(p q:Pos):Prop:=(p.endLine==q.line)=aB
theorem aez{nm:Str}{k:Nat}(C:n1 g.X g.n g.cl)(h:bT g o c)(hb:lP o)(hs:jQ g es cs)(hl:n6 apos pos)(aU:es.length<30)
 (hm:jv k=ae nm/\∀c f,g.P.r6 c k=ae f->findIn g.X.K (.ref c) nm=ae (ae (.ref f))/\typeIn g.X.K (.ref f)=ae (.type "function")/\keepIn g.X.K (.ref f)=aB):bT g (.Call (.Attribute o nm apos) es [] pos) (.M c k cs):=λF au ak fr hp s v hp' x ev=>by
 unfold Go
 rw[arm_eval_Call,hb]
 refine c8 (h.run x ev λav s1 w bK hp1 l x r ev=>c8 (p7 (cz ev λn e1 ev=>cz ev λob e2 ev=>cz ev λq e3 ev=>dZ ev λhf ev=>cz ev λf e4 ev=>(r.ref (P:=λval=>∃p,bK[n]?=ae p/\val=.ref p.1) e1 λp h=>⟨p,h,ab⟩).elim λp hp1=>x.aZ.inst e2 e3 hp1.1 λes' m I=>?_)))
 obtain⟨hp1,rfl⟩:=hp1
 obtain⟨jC,m2,m3⟩:=hm.2 _ _ e4
 have z:=I.at_ k nm hm.1
 rw[hf]at z
 have CF:=EP x.e0.cls I.mem
 unfold methodCall
 rw[show methodCallForm (es.length+([]:List Keyword).length) (backTo pos (jM es F.env)) (backToKw pos (keywordEach [] F.env))=aB by
  unfold methodCallForm;rw[hs.yb];exact decide_eq_true aU]
 refine c8 (mE (method_fn (x.e0.iz.keeps x.aZ.dN) I.ins (plainGet_of (CF.get nm)).1 (plainGet_of (CF.get nm)).2 jC m2 (congrArg (Kw _) ((Pc I.keys).trans (congrArg ae z))) (c8 (T5 (?_:methodCallPos aB o F.env apos pos=pure pos) ?_))))
 .unfold methodCallPos;rw[show(apos.endLine==pos.line)=aB from hl];rfl
 .exact wp_call hs x ev (λ_ _ _=>keeps_K m3) λ_ _ _ _ _ l2 x r e=>fin (l.trans l2) (DK C F.f_ x.e0 x.aZ (.C (x:=.R n) ⟨p,j4 l2.p hp1,ab⟩ r) e)
end
section
variable{g:G}{F:eO g}{au:Heap}{ak a9:de}{fr:bJ}{hp hp':H}{s s' s1:Shared}{v:V}{vs:List V}{b:Bool}{a e e' o x i:Expr}{c c' co ca cb cx ci:ck}{es:List Expr}{cs:hJ}{bg:Type}{r:bg}{pos p apos:Pos}{val:Value}{n:Nat}
theorem JU{nm:Str}(h:bT g o co)(hb:lP o)(hl:n6 apos pos)(yb:(backTo pos (jM es F.env)).all (λx=>!x.1)=aB)(aU:es.length<30)(x:T F au ak fr hp s){k:V->H->Option bg}(ev:B (aS g.P g.cl co fr hp) k=ae r){Q:Value->Shared->Prop}
 (q:∀val s' v a9 hp',cZ ak s a9 s'->T F au a9 fr hp' s'->cL g.X a9 v val->k v hp'=ae r->MethodOn g.X.prog g.X.w F.A nm pos val (backTo pos (jM es F.env)) Q No s'):bI g.X.M F.A (eval (.Call (.Attribute o nm apos) es [] pos) F.env) Q No s:=
 wpAny_Call_method_late (hb _ _ _) (by rw[yb];exact decide_eq_true aU) hl rfl (h.run x ev q)
theorem Zd{x:Expr}{env:Env}(hx:g_ x):(backTo pos (jM [x] env)).all (λx=>!x.1)=true:=by rw[hx];rfl
theorem N9{x y:Expr}{env:Env}(hx:g_ x)(hy:g_ y):(backTo pos (jM [x,y] env)).all (λx=>!x.1)=true:=by rw[hx,hy];rfl
theorem JV {nm:Str} {id:String} (sl:Slot "list" nm id) (ty:typeOf (.builtin id)=pure (.type "method_descriptor")) (h:bT g o co) (hb:lP o) (hl:n6 apos pos) (yb:(backTo pos (jM es F.env)).all (λx=>!x.1)=aB) (aU:es.length<30) (x:T F au ak fr hp s) {k:Nat->List V->H->Option bg}
 (ev:B (aS g.P g.cl co fr hp) (λv h=>v.gG.bind λn=>(lst h n).bind λxs=>k n xs h)=ae r) {Q:Value->Shared->Prop}
 (q:∀s' n p xs a9 hp',cZ ak s a9 s'->T F au a9 fr hp' s'->a9[n]?=ae p->hp'[n]?=ae (.L xs)->k n xs hp'=ae r->bI g.X.M F.A (callWith pos (.builtin id) [.ref p.1] (backTo pos (jM es F.env)) []) Q No s'):bI g.X.M F.A (eval (.Call (.Attribute o nm apos) es [] pos) F.env) Q No s:=
 JU h hb hl yb aU x ev λval s' v a9 hp' l x r e=>cz e λn e1 e=>cz e λxs e2 e=>r.ref (P:=λval=>MethodOn g.X.prog g.X.w F.A nm pos val (backTo pos (jM es F.env)) Q No s') e1 λp hp1=>x.aZ.list (rX e2) hp1 λvs L R=>
  ⟨"list",id,PySem.F.plainAttrs_list,sl,ty,L.list.typeIs,λa ha=>ah4 ha▸L.elim λn z=>⟨_,z,ab⟩,q s' n p xs a9 hp' l x hp1 (rX e2) e⟩
theorem aea (c9:bT g o co) (hx:bT g x cx) (hb:lP o) (hst:g_ x) (hl:n6 apos pos):bT g (.Call (.Attribute o (mF "append") apos) [x] [] pos) (.H co cx):=λF au ak fr hp s v hp' z ev=>
 JV PySem.F.slot_list_append PySem.F.type_list_append c9 hb hl (Zd hst) (by decide:1<30) z ev λs1 n p _ bK _ l z hp1 _ ev=>by
  rw[hst]
  exact PySem.P.append_list (hx.run z ev λbv s2 y lK hp2 l2 z r ev=>cz ev λxs e ev=>dZ ev λhb ev=>z.aZ.list (rX e) (j4 l2.p hp1) λvs L R=>L.elim λk q=>
   ⟨_,_,by rw[R.size];exact lV hb,q,eJ (P:=λv hp'=>bx g.X au ak s v hp' _ _) ev ⟨lK,(l.trans l2).trans (cZ.up _ _),rfl,z.aZ.yn (j4 l2.p hp1) L _ (ws:=vs++[bv]) (Tb ..) (R.append (.C r .N))⟩⟩)
theorem XG{xs:List Value}{n:Nat}(h:xs.length=n):xs.toArray.eraseIdxIfInBounds (n-1)=xs.dropLast.toArray:=by
 subst h;rw[List.eraseIdxIfInBounds_toArray];congr 1;cases xs with
 | nil=>rfl
 | cons x xs=>rw[List.eraseIdx_eq_dropLast (by simp)]
theorem aeC (c9:bT g o co) (hb:lP o) (hl:n6 apos pos):bT g (.Call (.Attribute o (mF "pop") apos) [] [] pos) (.U co):=λF au ak fr hp s v hp' z ev=>
 JV PySem.F.slot_list_pop PySem.F.type_list_pop c9 hb hl rfl (by decide) z ev λs1 n p xs bK _ l z hp1 e ev=>z.aZ.list e hp1 λvs L R=>L.elim λk q=>dZ ev λhb ev=>cz (by rw[p1]at ev;exact ev) λy hy ev=>by
  have hy:xs[xs.length-1]?=ae y:=SE.symm.trans hy;exact(R.get hy).elim λyv w=>PySem.P.pop_list (y:=yv) q (by rw[R.size];exact qy w.1) (eJ (P:=λv hp'=>bx g.X au ak s v hp' _ _) ev ⟨bK,l.trans (cZ.up _ _),w.2,z.aZ.yn hp1 L _ (ws:=vs.dropLast) (XG rfl) R.dropLast⟩) (by rw[R.size];exact lV hb)
noncomputable def FC(x:Int)(y:Value)(xs:Array Value):Array Value:=(xs.extract 0 (if x<0 then(x+(xs.size:Int)).toNat else min x.toNat xs.size)).push y++xs.extract (if x<0 then(x+(xs.size:Int)).toNat else min x.toNat xs.size)
theorem Z3{l:Addr}{items:Array Value}{n:Nat}{x:Int}{t:Tok}{y:Value}(fit:¬((!Builtin.List.listFitsIndex x)=aB))(hz:items.size<=sizeLine):
 ∃S,Meets (Builtin.«list.insert» ⟨[.ref l,.int x t,y],[]⟩) S/\∀(A:Around) (Q E:Value->Shared->Prop) (s:Shared),s.heap.get? l=ae {cls:=.type "list",data:=.seq items n}->Q .none {s with heap:=s.heap.update l (Kv (FC x y))}->S A (wants Q E) s:=
 ⟨_,agz l items n x t y fit hz,λ_ _ _ _ h q=>⟨h,q⟩⟩
theorem Z2{xs:List Value}{y:Value}{n:Nat}(h:xs.length=n):FC (n:Int) y xs.toArray=(xs++[y]).toArray:=by
 subst h;unfold FC;rw[if_neg (by lia),o3,Kh,TY];apply Array.toList_inj.mp;simp
theorem aer (c9:bT g o co) (hi:bT g i ci) (hx:bT g x cx) (hb:lP o) (hsi:g_ i) (hst:g_ x) (hl:n6 apos pos):bT g (.Call (.Attribute o (mF "insert") apos) [i,x] [] pos) (.ins co ci cx):=λF au ak fr hp s v hp' z ev=>
 JV SJ PySem.F.type_list_insert c9 hb hl (N9 hsi hst) (by decide:2<30) z ev λs1 n p _ bK _ l z hp1 _ ev=>by
  rw[hsi,hst];refine method2_meetsIn SJ PySem.F.entry_list_insert (hi.run z ev λaV s2 y2 lK hp2 l2 z ri ev=>hx.run z ev λbv s3 y lJ hp3 l3 z r ev=>cz ev λxs e ev=>dZ ev λhb ev=>z.aZ.list (rX e) (j4 (l2.trans l3).p hp1) λvs L R=>L.elim λk q=>?_);obtain⟨t,rfl⟩:∃t,aV=.int xs.length t:=ri.int (P:=λaV=>∃t,aV=.int xs.length t) (by rw[hb.1];rfl) λt=>⟨t,rfl⟩
  have fit:¬((!Builtin.List.listFitsIndex (xs.length:Int))=aB):=by rw[fitsIndex_of (TU (by decide) (DU _)) (EI hb.2)];decide
  have fin:=Z2 (y:=bv) R.length;generalize ((xs.length:Nat):Int)=m at fit fin⊢;obtain⟨S,M,k'⟩:=Z3 (l:=p.1) (n:=k) (t:=t) (y:=bv) (items:=vs.toArray) fit (by rw[R.size];exact lV hb.2);exact⟨⟨_,q,rfl⟩,PySem.F.args_list_insert_3 _ _ _,S,M.inModel _ _,k' _ _ _ _ q (eJ (P:=λv hp'=>bx g.X au ak s v hp' _ _) ev ⟨lJ,((l.trans l2).trans l3).trans (cZ.up _ _),rfl,z.aZ.yn (j4 (l2.trans l3).p hp1) L _ (ws:=vs++[bv]) fin (R.append (.C r .N))⟩)⟩
end
section
variable{g:G}{F:eO g}{au:Heap}{ak a9:de}{fr:bJ}{hp hp':H}{s s' s1:Shared}{v:V}{vs:List V}{b:Bool}{a e e' o x k:Expr}{c c' co ca cb cx gR:ck}{es:List Expr}{cs:hJ}{bg:Type}{r:bg}{pos p apos:Pos}{val:Value}{n:Nat}{y y':Str}
theorem Zz{X:dC}{q:Option V}{z:Option Value}(f:g0 X ak q z)(r:cL X ak v val):cL X ak (q.getD v) (z.getD val):=by
 cases q with
 | none=>rw[show z=az from f];exact r
 | some w=>obtain⟨z',rfl,rz⟩:=f;exact rz
theorem aen (c9:bT g o co) (a7:bT g k gR) (hx:bT g x cx) (hb:lP o) (hsk:g_ k) (hst:g_ x) (hl:n6 apos pos):bT g (.Call (.Attribute o (mF "get") apos) [k,x] [] pos) (.rO co gR cx):=λF au ak fr hp s v hp' z ev=>
 JU c9 hb hl (N9 hsk hst) (by decide:2<30) z ev λav s1 w bK hp1 l z r ev=>cz ev λn e1 ev=>cz ev λ_ e2 ev=>r.ref (P:=λav=>MethodOn g.X.prog g.X.w F.A _ pos av (backTo pos (jM [k,x] F.env)) (bx g.X au ak s v hp') No s1) e1 λp hp1=>z.aZ.w6 (NK e2) hp1 λkvs D _ _=>by
  refine⟨"dict",_,PySem.F.plainAttrs_dict,PySem.F.slot_dict_get,PySem.F.type_dict_get,D.mapOf.typeIs,D.mapOf.noDict,?_⟩
  rw[hsk,hst]
  exact wpAny_dict_get2 (knd:=strKind g.X.prog g.X.w) (z.aZ.sys hp1) (a7.run z ev λax s2 u lK hp2 l2 z ru ev=>hx.run z ev λbv s3 y lJ hp3 l3 z r ev=>cz ev λes e ev=>cz ev λt et ev=>z.aZ.w6 (NK e) (j4 (l2.trans l3).p hp1) λkvs D _ f=>
   ⟨_,_,ru.str (P:=λax=>(strKind g.X.prog g.X.w).is (gV t) ax=aB) et λ_=>strKind_is _ _ _ _,D.mapOf,eJ (P:=λv hp'=>bx g.X au ak s v hp' _ _) ev (bx.trans ((l.trans l2).trans l3) (bx.here z.aZ (Zz (f t) r)))⟩)
theorem R6{X:dC}:∀(tk:Nat)(xs:List Str),di X ak (xs.map λx=>V.S x.cps.toList) (strsFrom tk xs)
 | _,[]=>.N
 | tk,x::r=>.C ⟨tk,ab⟩ (R6 (tk+1) r)
theorem O5{n:Nat}(h:n<1000):n<sizeLine:=by rw[sizeLine_eq];exact fg h (by decide)
theorem aeG (c9:bT g o co) (hb:lP o) (hl:n6 apos pos):bT g (.Call (.Attribute o (mF "split") apos) [] [] pos) (.Y co):=λF au ak fr hp s v hp' z ev=>
 JU (es:=[]) c9 hb hl ab (by decide:0<30) z ev λav s1 w bK hp1 l z r ev=>cz ev λt e1 ev=>dZ ev λhz ev=>r.str (P:=λav=>MethodOn g.X.prog g.X.w F.A _ pos av [] (bx g.X au ak s v hp') No s1) e1 λtk=>by
  refine⟨"str",_,PySem.F.plainAttrs_str,SR,PySem.F.type_str_split,typeIs_str _ _ _,(λa h=>nomatch h),?_⟩
  refine seqMethod0_meets SR PySem.F.entry_str_split (typeIs_str _ _ _) (PySem.F.args_str_split_1 _) (PySem.meets_str_split_space (gV t) tk (nU (O5 hz.1)) (nU (O5 hz.2))) ?_;obtain⟨rfl,rfl⟩:=Prod.mk.inj (dE ev);by_cases hw:(nO ⟨t.toArray⟩ (t.length+1)==[(0,t.length)])=aB
  .refine Eq.mpr (if_pos hw) ?_;rw[show nH t=[t]from if_pos hw];exact(bx.newList (vs:=[.str (gV t) tk]) (xs:=[.S t]) z.aZ (.C ⟨tk,rfl⟩ .N)).trans l
  .refine Eq.mpr (if_neg hw) ?_;rw[show nH t=(TH (gV t)).map (·.cps.toList)from if_neg hw,pU];exact(bx.newList z.aZ (R6 s1.toks _)).trans l
theorem aev (bn:gy g y (.builtin "len")) (he:bT g e c) (hst:g_ e):bT g (.Call (.Name y p) [e] [] pos) (.K c):=λF au ak fr hp s v hp' z ev=>
 c8 (bn.run z (Aj he hst z ev (λ_ _ _=>OI) λav s1 w bK hp1 l z r ev=>cz ev λn e1 ev=>dZ ev λhb ev=>eJ (P:=λv hp'=>bI _ _ _ (bx g.X au ak s v hp') No s1) ev (by
  have done:∀{l:Addr} {vs:List Value},s1.heap.IsList l vs.toArray->vs.length=n->bI g.X.M F.A (call (.builtin "len") [.ref l]) (bx g.X au ak s (.I n) hp1) No s1:=λL e=>ahf L (by rw[Kh,e];exact EI hb) (by rw[Kh,e];exact bx.trans l (bx.here z.aZ ⟨_,rfl⟩))
  cases w with
  | C xs=>
   obtain⟨a,vs,rfl,L,hl,_⟩:=r;exact done (L _ (z.e0.iz.keeps z.aZ.dN)) (hl.trans (dE e1))
  | R m=>
   obtain⟨p,hp1,rfl⟩:=r;exact cz ((p1 ..).symm.trans e1) λxs e2 e3=>z.aZ.list (rX e2) hp1 λvs L R=>done L.list (R.length.trans (dE e3))
  | _=>exact no e1)))
theorem log2_lt{i:Nat}(h:i<1000):i.log2<1000:=fO (Nat.log2_le_self i) h
theorem aeH (bn:gy g y (.type "str")) (he:bT g e c) (hst:g_ e):bT g (.Call (.Name y p) [e] [] pos) (.str c):=λF au ak fr hp s v hp' z ev=>
 c8 (bn.run z (Aj he hst z ev (λ_ _ _=>By) λav s1 w bK hp1 l z r ev=>cz ev λi e1 ev=>pK (P:=λv hp'=>bI _ _ _ (bx g.X au ak s v hp') No s1) ev λe2=>r.int (P:=λav=>bI g.X.M F.A (call (.type "str") [av]) (bx g.X au ak s v hp1) No s1) e1 λtk=>
  cz ((p1 ..).symm.trans e2) λt aC e=>dZ aC λhi aC=>PySem.P.str_of_int (by have:=log2_lt hi;lia) (bx.trans l (bx.here z.aZ (by rw[<- dE e,<-dE aC];exact⟨_,rfl⟩)))))
theorem aet (bn:gy g y (.builtin "isinstance")) (bs:gy g y' (.type "str")) (he:bT g e c) (hst:g_ e) {p':Pos}:bT g (.Call (.Name y p) [e,.Name y' p'] [] pos) (.qK c):=λF au ak fr hp s v hp' z ev=>
 c8 (bn.run z (by
  rw[hst]
  exact callWith_of (P:=g.X.K.In) ab OI (evalArgs_plain (spliced_cons (he.run z ev λav s1 w bK hp1 l z r ev=>spliced_cons (bs.run z (spliced_nil ⟨z.e0.iz.keeps z.aZ.dN,Q2 (P:=λv hp'=>bI _ _ _ (bx g.X au ak s v hp') No s1) ev λb e=>by
   cases w with
   | S t=>
    obtain⟨tk,rfl⟩:=r;exact ahk (dE e▸bx.trans l (bx.l9 z.aZ rfl))
   | R m=>
    obtain⟨p,hp1,rfl⟩:=r;exact cz ((p1 ..).symm.trans e) λxs e2 e3=>z.aZ.list (rX e2) hp1 λvs L R=>L.elim λk hl=>ahh hl rfl (dE e3▸bx.trans l (bx.here z.aZ rfl))
   | _=>exact no e⟩)))))))
theorem aey (bn:gy g y (.type "list")) (he:bT g e c) (hst:g_ e):bT g (.Call (.Name y p) [e] [] pos) (.r5 c):=λF au ak fr hp s v hp' z ev=>
 c8 (bn.run z (Aj he hst z ev (λ_ _ _=>By) λav s1 w bK hp1 l z r ev=>cz ev λxs e1 ev=>dZ ev λhb ev=>eJ (P:=λv hp'=>bI _ _ _ (bx g.X au ak s v hp') No s1) ev (by
  have nin:=z.aZ.nF (cC _)
  have fin:∀{vs:List Value},di g.X bK xs vs->∀h' c',(∀b o',s1.heap.get? b=ae o'->h'.get? b=ae o')->h'.get? s1.heap.objs.size=ae {cls:=.type "list",dict:=az,data:=.seq vs.toArray c',slots:=#[]}->
   bx g.X au ak s (.R hp1.length) (hp1++[.L xs]) (.ref s1.heap.objs.size) {s1 with heap:=h'}:=λ{vs} R h' c' k1 k2=>
   ⟨bK++[(s1.heap.objs.size,s1.heap.objs.size)],l.trans ⟨kv _ _,Ext.mk' _ _ _⟩,⟨_,uJ z.aZ.len,ab⟩,z.aZ.adopt (λb o e=>k1 b o (z.aZ.dN b o e)) (λb o _=>k1 b o) nin nin z.aZ.nd z.aZ.nd (z.aZ.yc (cC _)) ⟨_,_,k2,k2,vs,c',ab,R.mono (kv _ _)⟩⟩
  cases w with
  | T=>
   obtain⟨a,rfl,ha⟩:=r;cases e1
   exact Kb (T:="tuple") a (.inr ab) ((z.e0.iz.keeps z.aZ.dN) _ _ ha) ab ab (λh' c' k1 k2=>fin .N h' c' k1 k2) (gJ _)
  | R m=>
   obtain⟨p,hp1,rfl⟩:=r
   exact cz e1 λo e2 e3=>(OE e3).elim (λeo=>z.aZ.list (eo▸e2) hp1 λvs L R=>L.elim λk hl=>Kb (T:="list") p.1 (.inl rfl) hl rfl rfl (λh' c' k1 k2=>fin R h' c' k1 k2) (by rw[R.size];exact lV hb))
    λeo=>z.aZ.tup (eo▸e2) hp1 λvs L R=>L.elim λk hl=>Kb (T:="tuple") p.1 (.inr rfl) hl rfl rfl (λh' c' k1 k2=>fin R h' c' k1 k2) (by rw[R.size];exact lV hb)
  | _=>exact no e1)))
end
inductive n5:List (Option Expr)->List aw->Prop
 | N:n5 [] []
 | C {t:Str} {k:Nat} {p:Pos} {r:List (Option Expr)} {ks:List aw}:n5 r ks->n5 (ae (.Constant (.str t) k p)::r) (t.cps.toList::ks)
noncomputable def Bz(env:Env):List (Option Expr)->List (Sem Value)
 | some e::r=>eval e env::Bz env r
 | _=>[]
noncomputable def DH(env:Env)(pos:Pos):List Expr->List (Sem Value)
 | []=>[]
 | e::es=>(do let x<-eval e env;standAt pos;pure x)::DH env pos es
theorem WZ{env:Env}{pos:Pos}{keys:List (Option Expr)}{ks:List aw}(h:n5 keys ks):∀{es:List Expr},keys.length=es.length->
 (evalEachOpt keys env).zip ((evalEach es env).map λv=>do let x<-v;standAt pos;pure x)=((Bz env keys).zip (DH env pos es)).map λp=>(ae p.1,p.2):=by
 induction h with
 | N=>exact λ_=>rfl
 | C h ih=>
  intro es hl
  cases es with
  | nil=>exact nomatch hl
  | cons e es=>exact congrArg (_::·) (ih (DZ hl))
theorem Ss{env:Env}{pos:Pos}{keys:List (Option Expr)}{ks:List aw}(h:n5 keys ks):∀{es:List Expr},keys.length=es.length->((Bz env keys).zip (DH env pos es)).length=es.length:=by
 induction h with
 | N=>intro es hl;cases es with
  | nil=>rfl
  | cons=>exact nomatch hl
 | C h ih=>
  intro es hl;cases es with
  | nil=>exact nomatch hl
  | cons e es=>exact congrArg (·+1) (ih (DZ hl))
def KO(X:dC)(au:Heap)(ak:de)(s:Shared)(ks:List aw)(vs:List V)(hp:H)(ps:List (Value×Value))(s':Shared):Prop:=
 allStrKeys ps=aB/\(strPairs ps).map (·.1)=ks.map gV/\∃a9,cZ ak s a9 s'/\di X a9 vs ((strPairs ps).map (·.2))/\bG X a9 au hp s'.heap
section
variable{g:G}{F:eO g}{au:Heap}{ak a9:de}{fr:bJ}{hp hp':H}{s s' s1:Shared}{v:V}{vs:List V}{es:List Expr}{cs:hJ}{pos:Pos}
theorem WY(ha:jQ g es cs):∀{keys:List (Option Expr)}{ks:List aw}{ak:de}{hp hp':H}{s:Shared}{vs:List V},n5 keys ks->keys.length=es.length->T F au ak fr hp s->iw g.P g.cl cs fr hp=ae (vs,hp')->
 bI g.X.M F.A (evalPairs ((Bz F.env keys).zip (DH F.env pos es))) (KO g.X au ak s ks vs hp') No s:=by
 induction ha with
 | N=>
  intro keys ks ak hp hp' s vs h hl x e
  cases h with
  | N=>cases e;exact evalPairs_nil ⟨ab,ab,ak,cZ.refl _ _,.N,x.aZ⟩
  | C h=>exact nomatch hl
 | C a b c ih=>
  intro keys ks ak hp hp' s vs h hl x ev
  cases h with
  | N=>exact nomatch hl
  | @C t _ _ r ks aD=>
   exact evalPairs_cons (S7 (c8 (a.run (x.next (cZ.up s.heap (s.toks+1)) x.aZ) ev λav s1 u bK hp1 l x r ev=>c8 (p7 (fl (i4 ev λus hp2 e1 ev=>e_ (ih aD (DZ hl) x e1) λps s2 z=>
    z.2.2.elim λlK w=>eJ (P:=λvs hp'=>KO g.X au ak s _ vs hp' _ s2) ev ⟨z.1,congrArg (_::·) z.2.1,lK,((cZ.up s.heap (s.toks+1)).trans l).trans w.1,.C (r.mono w.1.p) w.2.1,w.2.2⟩))))))
theorem zip_fst_snd{bg dR:Type}:∀(l:List (bg×dR)),l=(l.map (·.1)).zip (l.map (·.2))
 | []=>rfl
 | _::r=>congrArg (_::·) (zip_fst_snd r)
theorem agv{X:dC}{vs:List V}{vals:List Value}(R:di X ak vs vals):∀{ks:List aw}(k:aw),g0 X ak ((ks.zip vs).lookup k) (valueAt ((ks.map gV).zip vals) (gV k)):=by
 induction R with
 | N=>intro ks k;cases ks<;>exact(rfl:_=az)
 | @C v val _ _ a _ ih=>
  intro ks k;cases ks with
  | nil=>exact(rfl:_=az)
  | cons k' ks=>
   have ih:=ih (ks:=ks) k;rw[DV,fI,DV,gu];unfold valueAt at ih⊢;rw[nS];by_cases q:k=k'
   .rw[q,beq_self_eq_true,decide_eq_true rfl];exact⟨_,rfl,a⟩
   .rw[beq_eq_false_iff_ne.mpr q,decide_eq_false λz=>q (DC z).symm];exact ih
theorem agu{ks:List aw}{ps:List (Str×Value)}(h:ps.map (·.1)=ks.map gV)(e:vs.length=ks.length):ps.length<=(ks.zip vs).length:=by
 have:=congrArg ud h;rw[cB,cB]at this;rw[List.length_zip,e,TY];exact xu this
theorem aem{keys:List (Option Expr)}{ks:List aw}(a7:n5 keys ks)(aU:ks.Nodup)(h:jQ g es cs)(hl:keys.length=es.length)(h0:0<es.length)(hm:es.length<=15):bT g (.Dict keys es pos) (.Q ks cs):=λF au ak fr hp s v hp' x ev=>
 i4 ev λvs hp1 e1 ev=>dZ ev λhvl ev=>eJ (P:=Go F au ak s _) ev (wpAny_Dict_pairs (knd:=strKind g.X.prog g.X.w) (WZ a7 hl) (λq=>absurd ((congrArg ud q).symm.trans (Ss a7 hl)) (Az h0)) (by rw[Ss a7 hl];exact hm) (by
  have y:=x.aZ.push {cls:=.type "dict",data:=.dict #[]}
  have l0:cZ ak s ak {s with heap:=s.heap.push {cls:=.type "dict",data:=.dict #[]}}:=cZ.up _ _
  have xg:=y.JL;have st:=y.DB;have hDn:=x.aZ.nF (cC s.heap.objs.size);have n0:=x.aZ.nd;have sys:=x.aZ.yc (cC s.heap.objs.size);have hDg:=ox (ro s.heap (o:={cls:=.type "dict",data:=.dict #[]}) ab) hDn
  have x':T F _ ak fr hp ({s with heap:=s.heap.push {cls:=.type "dict",data:=.dict #[]}}:Shared):=⟨⟨x.e0.iz.keeps st,x.e0.top.imp λ_ z=>z.imp λ_ z=>z.imp λ_ z=>z.imp λ_ T=>T.keeps st,x.e0.cls⟩,
   ⟨x.fr.loc.imp λm z=>⟨z.1.keeps st,z.2⟩,λi x' v a b c=>(x.fr.i9 i x' v a b c).imp λc z=>z.imp λval z=>⟨z.1,z.2.1.keeps st,z.2.2⟩⟩,xg⟩
  generalize s.heap.objs.size=D at hDn n0 sys hDg⊢;refine e_ (WY h a7 hl x' e1) λps s1 z=>z.2.2.elim λbK w=>?_;have hD1:=w.2.2.dN _ _ hDg;refine display_done_str z.1 (by rw[z.2.1];exact ahJ _ (λa b h q=>h (DC q)) aU) ⟨_,#[],0,hD1,⟨rfl,rfl,rfl⟩,rfl,(λe h=>nomatch h),.nil,.nil⟩ λh' hm' SB=>?_;have nin:=w.2.2.pI hDg;have xw:=w.2.2.weaken st x.aZ.low;obtain⟨ob,c9,hq⟩:=ik.of (X:=g.X) (ak:=bK++[(D,D)]) (es:=ks.zip vs) hm' (agu z.2.1 hvl) λk=>by rw[zip_fst_snd (strPairs ps),z.2.1];exact(agv w.2.1 k).mono (kv _ _)
  exact⟨bK++[(D,D)],(l0.trans w.1).trans ⟨kv _ _,Ext.mk' _ _ _⟩,⟨_,uJ w.2.2.len,ab⟩,xw.adopt (λb o e=>(SB.2 b λq=>no (n0.symm.trans (q▸e))).trans (xw.dN b o e)) (λb o m=>(SB.2 b λq=>nin (q▸m)).trans) nin nin n0 n0 sys ⟨_,_,c9,c9,hq⟩⟩))
theorem PC {X:dC} {gH hH:Type} [BEq gH] [DecidableEq hH] {knd:KeyKind X.prog X.w hH} {f:gH->hH}:ik X ak knd f [] {cls:=.type "dict",data:=.dict #[]}:=
 ⟨[],λh b e=>⟨_,#[],0,e,⟨ab,ab,ab⟩,ab,(λe h=>nomatch h),.nil,.nil⟩,cC _,λk=>(rfl:_=az)⟩
theorem aep:bT g (.Dict [] [] pos) .Z:=λF au ak fr hp s v hp' x ev=>eJ (P:=Go F au ak s _) ev (Tn (bx.new x.aZ ab λ_=>PC))
theorem aeE:bT g (.Dict [] [] pos) (.Q [] .N):=λF au ak fr hp s v hp' x ev=>eJ (P:=Go F au ak s _) (show ae (V.R hp.length,hp++[O.S []])=ae (v,hp')from ev) (Tn (bx.new x.aZ ab λ_=>PC))
end
inductive qo where
 | L (l:Addr) | T (t:Addr) | R (a st:Int) (n:Nat)
def kB(h:Heap)(it:Addr):qo->Nat->Prop
 | .L l,i=>h.IsListIter it l i
 | .T t,i=>h.IsTupleIter it t i
 | .R a st n,i=>IsRangeIter h it (a+st*i) ((n:Int)-i) st/\i<=n
def rA(X:dC)(ak:de)(h:Heap):qo->List V->Prop
 | .L l,xs=>∃vs:List Value,h.IsList l vs.toArray/\di X ak xs vs
 | .T l,xs=>∃vs:List Value,h.IsTuple l vs.toArray/\di X ak xs vs
 | .R a st n,xs=>xs.length=n/\∀(i:Nat)(x:V),xs[i]?=ae x->x=.I (a+st*i)
section
variable{X:dC}{ak a9:de}{au h h':Heap}{s:Shared}{A:Around}{it:Addr}{k:qo}{i:Nat}{xs:List V}{x:V}
theorem kB.keeps(x:kB h it k i)(e:∀o,h.get? it=ae o->h'.get? it=ae o):kB h' it k i:=by
 cases k with
 | L l=>exact x.imp λo z=>⟨e _ z.1,z.2⟩
 | T l=>exact x.imp λo z=>⟨e _ z.1,z.2⟩
 | R a st n=>exact⟨e _ x.1,x.2⟩
theorem kB.there(x:kB h it k i):∃o,h.get? it=ae o:=by
 cases k with
 | L l=>exact x.imp λo z=>z.1
 | T l=>exact x.imp λo z=>z.1
 | R a st n=>exact⟨_,x.1⟩
theorem ac2(a st:Int)(i n:Nat):a+st*((i+1:Nat):Int)=a+st*(i:Int)+st/\(n:Int)-((i+1:Nat):Int)=(n:Int)-i-1:=
 ⟨by rw[show((i+1:Nat):Int)=(i:Int)+1 from rfl,Int.mul_add,Int.mul_one,Int.add_assoc],by lia⟩
theorem ac1{i n:Nat}(h:i<n):0<(n:Int)-i:=by lia
theorem ac0{i n:Nat}(h:n<=i):(n:Int)-i<=0:=by lia
theorem OG(hI:kB s.heap it k i)(hF:rA X ak s.heap k xs)(e:xs[i]?=ae x):
 bI X.M A (pyNext (.ref it)) (λr s'=>∃v,r=ae v/\cL X ak x v/\kB s'.heap it k (i+1)/\xt it s.heap s'.heap/\Ext s s') No s:=by
 cases k with
 | L l=>exact hF.elim λvs z=>(z.2.get e).elim λv w=>wpAny_pyNext_list_item hI z.1 (qy w.1) λh' a b=>⟨v,ab,w.2,a,b,Ext.mk' _ _ _⟩
 | T l=>exact hF.elim λvs z=>(z.2.get e).elim λv w=>wpAny_pyNext_tuple_item hI z.1 (qy w.1) λh' a b=>⟨v,ab,w.2,a,b,Ext.mk' _ _ _⟩
 | R a st n=>
  have hi:i<n:=hF.1▸lh e
  have r:=ac2 a st i n
  exact hF.2 i x e▸wpAny_pyNext_range_item hI.1 (ac1 hi) λh' a' b=>⟨_,rfl,⟨_,rfl⟩,⟨by rw[r.1,r.2];exact a',hi⟩,b,Ext.mk' _ _ _⟩
theorem OF(f_:A.handled=az)(hI:kB s.heap it k i)(hF:rA X ak s.heap k xs)(e:xs[i]?=az):
 bI X.M A (pyNext (.ref it)) (λr s'=>r=az/\Kr it s.heap s'.heap/\Ext s s') No s:=by
 cases k with
 | L l=>exact hF.elim λvs z=>wpAny_pyNext_list_end f_ hI z.1 (J8.trans (z.2.get_none e)) λh' a=>⟨ab,a,Ext.mk' _ _ _⟩
 | T l=>exact hF.elim λvs z=>wpAny_pyNext_tuple_end f_ hI z.1 (J8.trans (z.2.get_none e)) λh' a=>⟨ab,a,Ext.mk' _ _ _⟩
 | R a st n=>exact wpAny_pyNext_range_end f_ hI.1 (ac0 (hF.1▸J2.mp e)) λh' a=>⟨ab,a,Ext.mk' _ _ _⟩
end
def Src{g:G}(F:eO g)(au:Heap)(ak:de)(s:Shared)(hp1:H)(xs:List V)(same:H->Bool)(it:Value)(s2:Shared):Prop:=
 ∃(I:Addr)(k:qo)(bK:de),it=.ref I/\cZ ak s bK s2/\bG g.X bK au hp1 s2.heap/\kB s2.heap I k 0/\I∉adr bK/\au.get? I=az /\
  ∀(Ak h':Heap)(a9:de)(hp':H),bK <+: a9->bG g.X a9 Ak hp' h'->same hp'=aB->rA g.X a9 h' k xs
def rD{g:G}(F:eO g)(au:Heap)(ak:de)(s:Shared)(hp1:H)(xs:List V)(same:H->Bool)(x:Value)(s1:Shared):Prop:=bI g.X.M F.A (pyIter x) (Src F au ak s hp1 xs same) No s1
section
variable{g:G}{F:eO g}{au:Heap}{ak a9:de}{fr:bJ}{hp hp' hp1:H}{s s' s1 s2:Shared}{v:V}{xs:List V}{a it:Expr}{c:ck}{bg:Type}{r:bg}{pos p:Pos}{y:Str}{k:Int}
theorem Jz{K:List V->Nat->O->H->Option bg}(h:bT g it c)(x:T F au ak fr hp s)(ev:B (aS g.P g.cl c fr hp) (λv h=>v.gG.bind λn=>h[n]?.bind λo=>o.kf.bind λxs=>K xs n o h)=ae r){Q:Value->Shared->Prop}
 (q:∀xs n o x s1 hp1,rD F au ak s hp1 xs (λh=>decide (h[n]?=ae o)) x s1->K xs n o hp1=ae r->Q x s1):bI g.X.M F.A (eval it F.env) Q No s:=
 h.run x ev λav s1 w bK hp1 l x r ev=>cz ev λn e1 ev=>cz ev λo e2 ev=>cz ev λxs e3 ev=>q xs n o av s1 hp1 (r.ref (P:=λav=>rD F au ak s hp1 xs (λh=>decide (h[n]?=ae o)) av s1) e1 λp hp1=>by
  have nn:=x.aZ.nF (cC _);rcases OE e3 with rfl | rfl
  .exact x.aZ.list e2 hp1 λvs L R=>wpAny_pyIter_list L.list ⟨s1.heap.objs.size,.L p.1,bK,ab,l.trans (cZ.up _ _),x.aZ.push _,⟨_,ro _ ab,ab,ab⟩,nn,x.aZ.nd,λAk h' a9 hp' JY y e=>
    (y.obj n _ p (of_decide_eq_true e) (j4 JY hp1)).bU (λ_ _ r=>r) λvs L R=>⟨vs,L.list,R⟩⟩
  .exact x.aZ.tup e2 hp1 λvs L R=>wpAny_pyIter_tuple L.tuple ⟨s1.heap.objs.size,.T p.1,bK,ab,l.trans (cZ.up _ _),x.aZ.push _,⟨_,ro _ ab,ab,ab⟩,nn,x.aZ.nd,λAk h' a9 hp' JY y e=>
    (y.obj n _ p (of_decide_eq_true e) (j4 JY hp1)).bU (λ_ _ r=>r) λvs L R=>⟨vs,L.tuple,R⟩⟩) ev
theorem Rk{k:Nat}{i:Nat}{x:V}(e:((nM k).map λi=>V.I (pW i))[i]?=ae x):x=.I i/\i<k:=by
 rw[jo]at e
 exact hr (P:=λx=>x=.I i/\i<k) e λj hj=>by
  obtain⟨h1,aD⟩:=jL.mp hj;rw[List.getElem_range]at aD;rw[As]at h1;exact⟨aD▸rfl,h1⟩
theorem Dl{k:Nat}:((nM k).map λi=>V.I (pW i)).length=k:=(cB ..).trans As
theorem acQ{X:dC}{h:Heap}:rA X ak h (.R 0 1 k.toNat) (fZ k):=⟨Dl,λi x e=>(Rk e).1.trans (congrArg V.I (by lia))⟩
theorem W6{X:dC}{h:Heap}(a7:-1<=k):rA X ak h (.R k (-1) (k+1).toNat) (oo k):=by
 refine⟨(mC ..).trans Dl,λi x e=>?_⟩;unfold oo at e;have l:=lh e;rw[List.getElem?_reverse (mC▸l)]at e;rw[mC,Dl]at l;rw[Dl]at e;exact(Rk e).1.trans (congrArg V.I (by lia))
theorem RS{k:Int}(h:k<100000):uf 0 k 1=(k.toNat:Int)/\(0-100000<=k->An 0 k 1=aB):=by
 have e:uf 0 k 1=(k.toNat:Int):=by
  unfold uf;simp only[show(1:Int)>0 from by lia,if_true];split<;>simp<;>lia
 refine⟨e,λh'=>?_⟩;unfold An;rw[e];unfold Sy;simp only[kS,Tw,decide_eq_true_eq,show(1:Int)>0 from by lia,if_true];refine⟨⟨⟨⟨?_,?_⟩,?_⟩,?_⟩,.inr ?_⟩<;>lia
theorem RT{k:Int}(h:k<100000)(h':-1<=k):uf k (-1) (-1)=((k+1).toNat:Int)/\An k (-1) (-1)=true:=by
 have e:uf k (-1) (-1)=((k+1).toNat:Int):=by
  unfold uf;simp only[show ¬((-1:Int)>0)from by lia,if_false];split<;>simp<;>lia
 refine⟨e,?_⟩;unfold An;rw[e];unfold Sy;simp only[kS,Tw,decide_eq_true_eq,show ¬((-1:Int)>0)from by lia,if_false];refine⟨⟨⟨⟨?_,?_⟩,?_⟩,?_⟩,.inr ?_⟩<;>lia
theorem RX{a b c:Int}{t u v:Tok}{n:Nat}{q:Addr}(x1:bG g.X a9 au hp1 s1.heap)(l:cZ ak s a9 s1)(aZ:IsRange s1.heap q a b c t u v)(hsm:An a b c=aB)(aU:uf a b c=(n:Int))
 (hF:∀ak h,rA g.X ak h (.R a c n) xs):rD F au ak s hp1 xs (λ_=>aB) (.ref q) s1:=
 wpAny_pyIter_range aZ hsm ⟨s1.heap.objs.size,.R a c n,a9,ab,l.trans (cZ.up _ _),x1.push _,⟨by
  rw[aU,show(a+c*((0:Nat):Int))=a by rw[show((0:Nat):Int)=0 from rfl,Int.mul_zero,Int.add_zero],show(n:Int)-((0:Nat):Int)=n from Int.sub_zero _];exact ro _ rfl,gJ _⟩,x1.nF (cC _),x1.nd,λ_ _ DL _ _ _ _=>hF DL _⟩
theorem RW {K:Int->H->Option bg} (bn:gy g y (.type "range")) (h:bT g a c) (hst:g_ a) (x:T F au ak fr hp s) (ev:B (aS g.P g.cl c fr hp) (λv h=>v.fX.bind λk=>if 0-100000<=k/\k<100000 then K k h else az)=ae r) {Q:Value->Shared->Prop}
 (q:∀k x s1 hp1,rD F au ak s hp1 (fZ k) (λ_=>aB) x s1->K k hp1=ae r->Q x s1):bI g.X.M F.A (eval (.Call (.Name y p) [a] [] pos) F.env) Q No s:=
 c8 (bn.run x (Aj h hst x ev (λ_ _ _=>By) λav s1 w bK hp1 l x r ev=>cz ev λk e1 ev=>dZ ev λa7 ev=>r.int (P:=λav=>bI g.X.M F.A (call (.type "range") [av]) Q No s1) e1 λtk=>
  PySem.call_range_1 (q k _ _ hp1 (RX (x.aZ.push _) (l.trans (cZ.up _ _)) (T6 ..) ((RS a7.2).2 a7.1) (RS a7.2).1 λak h=>acQ) ev)))
theorem Pz{M:Model}{A:Around}{env:Env}{k':Nat}{p p':Pos}{Q:Value->Shared->Prop}(q:∀t,Q (.int (-1) t) {s with toks:=s.toks+1+1}):bI (model g.X.prog g.X.w) A (eval (.UnaryOp .USub (.Constant (.int 1) k' p) p') env) Q No s:=
 Ko (Ke (Tu (s:={s with toks:=s.toks+1}) (q _)))
theorem aeY {K:Int->H->Option bg} {iU p1' jg p2':Pos} {k1 k2:Nat} (bn:gy g y (.type "range")) (h:bT g a c) (hst:g_ a) (x:T F au ak fr hp s) (ev:B (aS g.P g.cl c fr hp) (λv h=>v.fX.bind λk=>if -1<=k/\k<100000 then K k h else az)=ae r) {Q:Value->Shared->Prop}
 (q:∀k x s1 hp1,rD F au ak s hp1 (oo k) (λ_=>aB) x s1->K k hp1=ae r->Q x s1):bI g.X.M F.A (eval (.Call (.Name y p) [a,.UnaryOp .USub (.Constant (.int 1) k1 iU) p1',.UnaryOp .USub (.Constant (.int 1) k2 jg) p2'] [] pos) F.env) Q No s:=
 c8 (bn.run x (by
  rw[hst]
  exact callWith_of (P:=g.X.K.In) ab By (evalArgs_plain (spliced_cons (h.run x ev λav s1 w bK hp1 l x r ev=>spliced_cons (Pz (M:=g.X.M) λtb=>spliced_cons (Pz (M:=g.X.M) λtc=>spliced_nil ⟨x.e0.iz.keeps x.aZ.dN,cz ev λk e1 ev=>dZ ev λa7 ev=>r.int (P:=λav=>bI g.X.M F.A (call (.type "range") [av,_,_]) Q No _) e1 λtk=>
   PySem.call_range_3 (hp:=bB (SQ (by decide))) (by decide) (q k _ _ hp1 (RX (s1:={s1 with heap:=s1.heap.push _,toks:=_}) (x.aZ.push _) (l.trans (cZ.up _ _)) (T6 ..) (RT a7.2 a7.1).2 (RT a7.2 a7.1).1 λak h=>W6 a7.1) ev)⟩)))))))
end
noncomputable def m1(env:Env):List (Str×NameKind)->List (Str×Addr)->List (Str×Addr)
 | [],acc=>acc
 | (n,k)::r,acc=>m1 env r (if k==.free then(match env.cells.lookup n with | some c=>(n,c)::acc | none=>acc)else acc)
theorem LI{env:Env}:∀(l:List (Str×NameKind))(acc:List (Str×Addr)),(∀x∈l,x.2=.free->∃c,env.cells.lookup x.1=ae c)->
 (forIn l acc λx r=>(if (x.2==NameKind.free)=aB then(do let c<-cellOf env x.1;pure (xq ((x.1,c)::r)))else pure (xq r):Sem (ForInStep (List (Str×Addr)))))=pure (m1 env l acc)
 | [],acc,_=>rfl
 | (n,k)::r,acc,hl=>by
  have ih:=λacc=>LI r acc λx hx=>hl x (.tail _ hx);rw[Tx];unfold m1;cases a7:k==NameKind.free with
  | true=>
   obtain⟨c,hc⟩:=hl (n,k) (.head _) (beq_iff_eq.mp a7);have hc:env.cells.lookup n=ae c:=hc;rw[if_pos rfl,show cellOf env (n,k).1=pure c by unfold cellOf;rw[hc],hc,pure_bind,pure_bind];exact ih _
  | false=>
   rw[if_neg nP,pure_bind];exact ih _
theorem LH{env:Env}{scope:Scope}(h:∀x∈scope.names,x.2=.free->∃c,env.cells.lookup x.1=ae c):closureFor scope env=pure (m1 env scope.names []):=by
 unfold closureFor;exact(bind_pure _).trans (LI scope.names [] h)
theorem LG{env:Env}{x:Str}:∀(l:List (Str×NameKind))(acc:List (Str×Addr)),(∀y∈l,y.2=.free->∃c,env.cells.lookup y.1=ae c)->
 ((x,NameKind.free)∈l\/acc.lookup x=env.cells.lookup x)->(m1 env l acc).lookup x=env.cells.lookup x
 | [],acc,_,h=>h.elim (λh=>nomatch h) id
 | (n,k)::r,acc,hl,h=>by
  unfold m1;refine LG r _ (λy hy=>hl y (.tail _ hy)) ?_;cases a7:k==NameKind.free with
  | true=>
   obtain rfl:k=.free:=beq_iff_eq.mp a7;obtain⟨c,hc⟩:=hl (n,.free) (.head _) rfl;have hc:env.cells.lookup n=ae c:=hc;rw[hc];by_cases hx:x=n
   .right;show q9 x ((n,c)::acc)=_;rw[hx,gu,beq_self_eq_true,hc]
   .refine h.imp (λh=>?_) λh=>?_
    .cases h with
     | head=>exact absurd ab hx
     | tail _ h=>exact h
    .show q9 x ((n,c)::acc)=_;rw[gu,beq_eq_false_iff_ne.mpr hx];exact h
  | false=>
   refine h.imp (λh=>?_) id;cases h with
   | head=>exact nomatch a7
   | tail _ h=>exact h
theorem lb{gH dR:Type}[BEq gH][LawfulBEq gH]{x:gH}{k:dR}{l:List (gH×dR)}(h:l.lookup x=ae k):(x,k)∈l:=by
 induction l with
 | nil=>exact no h
 | cons e r ih=>
  rw[gu]at h;cases q:x==e.1 with
  | true=>rw[q]at h;exact beq_iff_eq.mp q▸dE h▸.head _
  | false=>rw[q]at h;exact .tail _ (ih h)
theorem aaN{DM:Str->NameKind->NameKind}{x:Str}(l:List (Str×NameKind)):(l.map λy=>(y.1,DM y.1 y.2)).lookup x=(l.lookup x).map (DM x):=by
 induction l with
 | nil=>rfl
 | cons e r ih=>
  rw[fI,gu,gu];cases q:x==e.1 with
  | true=>exact congrArg (λy=>ae (DM y e.2)) (beq_iff_eq.mp q).symm
  | false=>exact ih
theorem acY{sc':Scope}{env:Env}{x:Str}:(relabel sc' env).names.lookup x=(sc'.names.lookup x).map λk=>if (k==NameKind.free&&env.scope.kind==.function&&env.kindOf x==ae .cell)=aB then TK else k:=by
 refine AB (congrArg (q9 x) (j7 λy _=>?_)) (aaN (DM:=λn k=>if (k==NameKind.free&&env.scope.kind==.function&&env.kindOf n==ae .cell)=aB then TK else k) _);show(if _ then _ else _)=_;split<;>rfl
structure jS(g:G)(sc':Scope)(xi:Nat)(nx:Str):Prop where
 kind:sc'.kind=.function
 PF:∀y∈sc'.names,y.2≠.cell
 locs:∀y∈sc'.names,y.2=.local->sc'.names.lookup y.1=ae .local
 x:sc'.names.lookup nx=ae .local
 at_:g.names[xi]?=ae nx
 only:∀i y,g.names[i]?=ae y->sc'.names.lookup y=ae .local->i=xi
 frees:∀y∈sc'.names,y.2=.free->g.sc.names.lookup y.1=ae .cell
noncomputable def G.at(g:G)(sc:Scope):G:={g with sc:=sc}
noncomputable abbrev Sa(ifs:List Expr)(env:Env):Sem Bool:=forIn ifs aB λc r=>if r=aB then do let ok<-isTrue c env (eval c env);pure (xq ok)else pure (xq r)
def o9(g:G)(ifs:List Expr)(c:ck):Prop:=∀(F:eO g)(au:Heap)(ak:de)(fr:bJ)(hp:H)(s:Shared)(b:Bool)(hp':H),T F au ak fr hp s->ff (aS g.P g.cl c fr hp)=ae (b,hp')->xG F au ak s (Sa ifs F.env) b hp'
theorem afD{g:G}:o9 g [] (.C (.B aB)):=λF au ak fr hp s v hp' x e=>eJ (P:=xG F au ak s _) (show ae (aB,hp)=ae (v,hp')from e) (wpAny_tests_nil ⟨ab,ak,cZ.refl _ _,x.aZ⟩)
theorem afE{g:G}{e:Expr}{c:ck}(h:ST g e c):o9 g [e] c:=λF au ak fr hp s v hp' x e=>wpAny_tests_one (h F au ak fr hp s v hp' x e)
section
variable{g:G}{F:eO g}{au h h':Heap}{ak a9:de}{fr:bJ}{hp hp' hp1:H}{s s' s1 s2:Shared}{v:V}{sc':Scope}{xi:Nat}{nx:Str}{C D I:Addr}{env:Env}
theorem jS.free(hc:jS g sc' xi nx){x:Str}(h:sc'.names.lookup x=ae .free):g.sc.names.lookup x=ae .cell:=hc.frees _ (lb h) ab
theorem jS.cells(hc:jS g sc' xi nx)(c9:o6 env g.sc){x:Str}(h:sc'.names.lookup x=ae .free):(m1 env sc'.names []).lookup x=env.cells.lookup x:=
 LG _ _ (λy hy hf=>c9.cells _ (.inl (hc.frees y hy hf))) (.inl (lb h))
theorem jS.PG(hc:jS g sc' xi nx){x:Str}{P:Prop}(h:sc'.names.lookup x=ae .cell):P:=absurd ab (hc.PF _ (lb h))
theorem o6.comp(c9:o6 env g.sc)(hc:jS g sc' xi nx):o6 (compEnvC sc' (m1 env sc'.names []) C env) sc' where
 kind:=hc.kind
 glob:=c9.glob
 blt:=c9.blt
 bo:=λx k a7=>by
  refine acY.trans ?_;rw[a7];cases k with
  | free=>rw[Tz,c9.bo x _ (hc.free a7),c9.kind];rfl
  | _=>rfl
 cells:=λx a7=>a7.elim hc.PG λa7=>(c9.cells x (.inl (hc.free a7))).imp λc e=>(hc.cells c9 a7).trans e
def eO.comp(F:eO g)(hc:jS g sc' xi nx)(C:Addr):eO (g.at sc'):=⟨F.A,compEnvC sc' (m1 F.env sc'.names []) C F.env,F.f_,F.c9.comp hc⟩
theorem jT.comp{y:V}{val:Value}{m:Str->Option Value}(c9:o6 env g.sc)(hc:jS g sc' xi nx)(hf:jT g.X ak env g.sc g.names fr au)(aU:au.Ns C m)(hm:m nx=ae val)(hv:cL g.X ak y val):
 jT g.X ak (compEnvC sc' (m1 env sc'.names []) C env) sc' g.names (fr.set xi (ae y)) au:=
 ⟨⟨m,aU,λi x v a b c=>Dv b (λd _=>absurd (hc.only i x a c).symm d) λd e=>dE e▸dE (hc.at_.symm.trans (d▸a))▸⟨val,hm,hv⟩⟩,
  λi x v a b c=>c.elim hc.PG λc=>Dv b (λd b=>(hf.i9 i x v a b (.inl (hc.free c))).imp λc' z=>z.imp λval z=>⟨(hc.cells c9 c).trans z.1,z.2⟩)
   λd _=>have e:x=nx:=dE (a.symm.trans (d▸hc.at_));nomatch (hc.x.symm.trans (e▸c):ae NameKind.local=ae NameKind.free)⟩
end
theorem weak{bg:Type}{M:Model}{A:Around}{s:Shared}{t:Sem bg}{Q Q':bg->Shared->Prop}{E:Value->Shared->Prop}(h:bI M A t Q No s)(k:∀a s',Q a s'->Q' a s'):bI M A t Q' E s:=wpAny_mono h k λ_ _ e=>e.elim
theorem Wv{prog:Program}{w:World}{A:Around}{R:Result->Shared->Prop}{elt iter:Expr}{x:Str}{px pos:Pos}{ifs:List Expr}{scope:Scope}{it acc:Value}{env:Env}{s:Shared}(I:Nat->Shared->Prop)(N:Nat)
 (turn:∀j s,I j s->bI (model prog w) A (pyNext it) (λr oY=>match r with
  | none=>R (.ok .next) oY
  | some v=>bI (model prog w) A (assign (.Name x px) env v) (λ_ uc=>bI (model prog w) A (Sa ifs env) (λok DN=>if ok=aB then bI (model prog w) A (eval elt env) (λx JZ=>
   bI (model prog w) A (call (.builtin "list.append") [acc,x]) (λ_ agw=>j<N/\I (j+1) agw) No JZ) No DN else j<N/\I (j+1) DN) No uc) No oY) No s) (h:I 0 s):
 codeAny (model prog w) A (.compLoop (.ListComp elt [⟨.Name x px,iter,ifs,0⟩] scope pos) 0 it acc env) R s:=by
 have next:∀{n j s},n=N-j->j<N/\I (j+1) s->∃m,m<n/\∃j,m=N-j/\I j s:=λe z=>⟨_,e▸S0 _ _ z.1,_,ab,z.2⟩
 refine codeAny_compLoop_tests (λn s=>∃j,n=N-j/\I j s) (λn s z=>z.elim λj z=>weak (turn j s z.2) λr s1 h1=>?_) (N-0) ⟨0,ab,h⟩
 cases r with
 | none=>exact h1
 | some v=>
  refine weak h1 λ_ s2 aD=>weak aD λok s3 h3=>?_
  cases ok with
  | true=>exact weak h3 λx s4 h4=>weak h4 λ_ s5 h5=>next z.1 h5
  | false=>exact next z.1 h3
theorem NP{xs:List V}{j:Nat}{P:Prop}(k0:xs.drop j=[]->xs[j]?=az->P)(k1:∀x,xs.drop j=x::xs.drop (j+1)->xs[j]?=ae x->j<xs.length->P):P:=by
 by_cases h:j<xs.length
 .exact k1 _ (SF h) (jn h) h
 .exact k0 (SS (mG.mp h)) (DR (mG.mp h))
theorem US {X:dC} {A:Around} {s:Shared} {D:Addr} {vs:List Value} {x:Value} {Q:Value->Shared->Prop} (hl:j_ s.heap "list" D vs) (hb:vs.length<aK) (q:∀h',j_ h' "list" D (vs++[x])->xt D s.heap h'->Q .none {s with heap:=h'}):
 bI X.M A (call (.builtin "list.append") [.ref D,x]) Q No s:=
 wpAny_list_append_plain hl (λh' h1 aD=>q h' (h1.imp λn e=>by rw[Tb]at e;exact e) aD) (lV hb)
structure uk(h:Heap)(ak:de)(I D C:Addr)(k:qo)(j:Nat)(vals:List Value):Prop where
 it:kB h I k j
 acc:j_ h "list" D vals
 ns:∃m,h.Ns C m
 oI:I∉adr ak
 oH:D∉adr ak
 nc:C∉adr ak
section
variable{g:G}{F:eO g}{au h h':Heap}{ak a9 bK:de}{fr:bJ}{hp hp' hp1 hpf:H}{s s' s1 s2:Shared}{v:V}{sc':Scope}{xi:Nat}{nx:Str}{C D I:Addr}{env:Env}{X:dC}{k:qo}{j:Nat}{vals:List Value}{same:H->Bool}{xs ys:List V}{celt ccond:ck}{elt iter:Expr}{px pos:Pos}{ifs:List Expr}
theorem uk.over(x:uk h ak I D C k j vals)(y:bG X a9 (ground h ak) hp' h'):uk h' a9 I D C k j vals:=
 ⟨x.it.keeps λ_ e=>y.dN _ _ (ox e x.oI),x.acc.imp λ_ e=>y.dN _ _ (ox e x.oH),x.ns.imp λ_ z=>z.at' λ_ e=>y.dN _ _ (ox e x.nc),
  x.it.there.elim λ_ e=>y.pI (ox e x.oI),x.acc.elim λ_ e=>y.pI (ox e x.oH),x.ns.elim λ_ z=>z.elim λ_ z=>z.elim λ_ z=>z.elim λ_ z=>y.pI (ox z.1 x.nc)⟩
theorem mM.keeps{fs:Heap}(x:mM X au)(k:au.StaysIn fs):mM X fs:=⟨x.iz.keeps k,x.top.imp λ_ z=>z.imp λ_ z=>z.imp λ_ z=>z.imp λ_ T=>T.keeps k,x.cls⟩
theorem jT.keeps{sc:Scope}{names:List Str}{fs:Heap}(f:jT X ak env sc names fr au)(k:au.StaysIn fs):jT X ak env sc names fr fs:=
 ⟨f.loc.imp λm z=>⟨z.1.keeps k,z.2⟩,λi x v a b c=>(f.i9 i x v a b c).imp λc z=>z.imp λval z=>⟨z.1,z.2.1.keeps k,z.2.2⟩⟩
def rM(g:G)(celt ccond:ck)(fr:bJ)(xi:Nat)(same:H->Bool):List V->List V->H->Option (List V×H):=
 l7 (λy h=>aS g.P g.cl celt (fr.set xi (ae y)) h) (λy h=>ff (aS g.P g.cl ccond (fr.set xi (ae y)) h)) same
def KN(g:G)(au:Heap)(bK:de)(s2:Shared)(celt ccond:ck)(fr:bJ)(xi:Nat)(same:H->Bool)(xs ys:List V)(hpf:H)(I D C:Addr)(k:qo)(j:Nat)(s:Shared):Prop:=
 ∃i3 acc vals hpj,rM g celt ccond fr xi same (xs.drop j) acc hpj=ae (ys,hpf)/\cZ bK s2 i3 s/\bG g.X i3 au hpj s.heap/\di g.X i3 acc vals/\uk s.heap i3 I D C k j vals
def D_(g:G)(au:Heap)(bK:de)(s2:Shared)(D C:Addr)(ys:List V)(hpf:H)(s':Shared)(a9:de)(vals:List Value):Prop:=
 cZ bK s2 a9 s'/\bG g.X a9 au hpf s'.heap/\di g.X a9 ys vals/\j_ s'.heap "list" D vals/\(∃m,s'.heap.Ns C m)/\D∉adr a9/\C∉adr a9
theorem Wt{R:Result->Shared->Prop}(hc:jS g sc' xi nx)(he:bT (g.at sc') elt celt)(aC:o9 (g.at sc') ifs ccond)(x:T F au bK fr hp1 s1)
 (hID:I≠D) (hIC:I≠C) (hDC:D≠C) (hI0:au.get? I=az) (hD0:au.get? D=az) (hC0:au.get? C=az)
 (fed:∀(Ak h':Heap)(a9:de)(hp':H),bK <+: a9->bG g.X a9 Ak hp' h'->same hp'=aB->rA g.X a9 h' k xs)
 (hR:∀s' a9 vals,D_ g au bK s2 D C ys hpf s' a9 vals->R (.ok .next) s')
 (h0:KN g au bK s2 celt ccond fr xi same xs ys hpf I D C k 0 s):
 codeAny g.X.M F.A (.compLoop (.ListComp elt [⟨.Name nx px,iter,ifs,0⟩] sc' pos) 0 (.ref I) (.ref D) (F.comp hc C).env) R s:=by
 refine Wv (KN g au bK s2 celt ccond fr xi same xs ys hpf I D C k) xs.length (λj s inv=>?_) h0
 obtain⟨i3,acc,vals,hpj,run,le,hx,ra,L⟩:=inv
 refine NP (xs:=xs) (j:=j) (λhd aU=>?_) λy hd hy hj=>?_
 .rw[hd]at run
  exact dZ run λhsm e=>eJ (P:=λys hpf=>(∀s' a9 vals,D_ g au bK s2 D C ys hpf s' a9 vals->R (.ok .next) s')->bI _ _ _ _ No s) e (λhR=>
   e_ (OF F.f_.handled L.it (fed _ _ _ _ le.p hx hsm) aU) λr s1 z=>z.1▸hR s1 i3 vals ⟨le.trans ⟨iI _,z.2.2⟩,hx.extBut z.2.1 L.oI hI0,ra,L.acc.imp λ_ e=>z.2.1 _ _ (pX hID) e,L.ns.imp λ_ e=>e.at' λ_ e=>z.2.1 _ _ (pX hIC) e,L.oH,L.nc⟩) hR
 .rw[hd]at run;refine dZ run λhsm run=>e_ (OG L.it (fed _ _ _ _ le.p hx hsm) hy) λr s1 z=>z.elim λv z=>z.1▸?_;obtain⟨_,rv,hit1,hb1,ht1⟩:=z
  refine L.ns.elim λm hC=>Au (SV (show Env.kindOf _ _=_ from lookup_relabel_local hc.x) (hC.sameBut hb1 (pX hIC)) (λaD hC2 hb2=>?_) (by
   show((relabel sc' F.env).kind==.class||((relabel sc' F.env).kind==.module&&_))=aP;rw[show(relabel sc' F.env).kind=.function from hc.kind];rfl))
  have hx2:bG g.X i3 au hpj aD:=(hx.sameBut hb1 L.oI hI0).sameBut hb2 L.nc hC0;have L2:uk aD i3 I D C k (j+1) vals:=⟨hit1.keeps λ_ e=>hb2.extBut _ _ hIC e,L.acc.imp λ_ e=>hb2.extBut _ _ hDC (hb1.extBut _ _ (pX hID) e),⟨_,hC2⟩,L.oI,L.oH,L.nc⟩;have st:=hx2.DB;have le2:cZ bK s2 i3 {s1 with heap:=aD,toks:=s1.toks+1}:=le.trans (cZ.trans ⟨iI _,ht1⟩ (cZ.up _ _))
  have x2:T (F.comp hc C) (ground aD i3) i3 (fr.set xi (ae y)) hpj {s1 with heap:=aD,toks:=s1.toks+1}:=
   ⟨x.e0.keeps st,jT.comp (g:=g) F.c9 hc ((x.fr.mono le.p).keeps st) (hC2.at' λo e=>ox e L.nc) (if_pos ab) rv,hx2.JL⟩
  refine i4 run λb hpa e1 run=>e_ (aC _ _ _ _ _ _ b hpa x2 e1) λc s3 z=>z.1▸z.2.elim λlJ w=>?_;have L3:=L2.over w.2;have le3:=le2.trans w.1;cases b with
  | true=>
   have run:B (aS (g.at sc').P (g.at sc').cl celt (fr.set xi (ae y)) hpa) (λu h=>if acc.length<aK then rM g celt ccond fr xi same (xs.drop (j+1)) (acc++[u]) h else az)=ae (ys,hpf):=run
   exact he.run (x2.next w.1 w.2) run λval s4 u agx hpb l4 x4 r4 run=>dZ run λhb run=>have L4:=L2.over x4.aZ;US L4.acc (ra.length.symm▸hb) λh5 hD5 hb5=>
    ⟨hj,agx,_,_,hpb,run,(le3.trans l4).trans (cZ.up _ _),(x4.aZ.weaken st hx.low).sameBut hb5 L4.oH hD0,(ra.mono (w.1.trans l4).p).append (.C r4 .N),L4.it.keeps λ_ e=>hb5.extBut _ _ hID e,hD5,L4.ns.imp λ_ z=>z.at' λ_ e=>hb5.extBut _ _ (pX hDC) e,L4.oI,L4.oH,L4.nc⟩
  | false=>exact⟨hj,lJ,acc,vals,hpa,run,le3,w.2.weaken st hx.low,ra.mono w.1.p,L3⟩
end
section
variable{g:G}{F:eO g}{au h h':Heap}{ak a9 bK:de}{fr:bJ}{hp hp' hp1 hpf:H}{s s' s1 s2:Shared}{v:V}{sc':Scope}{xi:Nat}{nx:Str}{C D I:Addr}{env:Env}{X:dC}{k:qo}{j:Nat}{vals:List Value}{same:H->Bool}{xs ys:List V}{celt ccond cit:ck}{elt iter:Expr}{px pos p pos':Pos}{ifs:List Expr}{x y:Expr}{c cr:ck}{fG:List Expr}
theorem aag{A:Around}{i:Nat}{Q:Value->Shared->Prop}(hI:kB s.heap I k i)(q:Q (.ref I) s):bI X.M A (pyIter (.ref I)) Q No s:=by
 cases k with
 | L l=>exact wpAny_pyIter_listiter hI q
 | T l=>exact wpAny_pyIter_tupleiter hI q
 | R a st n=>exact wpAny_pyIter_rangeiter hI.1 q
theorem LK{it:Value}{RR:Value->Addr->Result->Shared->Prop}(hc:jS g sc' xi nx)(he:bT (g.at sc') elt celt)(aC:o9 (g.at sc') ifs ccond)(z:T F au ak fr hp s)(src:Src F au ak s hp1 xs same it s2)(run:rM g celt ccond fr xi same xs [] hp1=ae (ys,hpf))
 (hRR:∀D C s' a9 vals,D_ g au ak s D C ys hpf s' a9 vals->D≠C->au.get? D=az->au.get? C=az->(D==oZ)=aP->RR (.ref D) C (.ok .next) s'):
 bI g.X.M F.A (newList []) (λacc DN=>bI g.X.M F.A (newFunctionEnv sc' F.env.globals (m1 F.env sc'.names []) [] F.env.qual az .none (ae F.env)) (λcenv JZ=>
  codeAny g.X.M F.A (.compStart (.ListComp elt [⟨.Name nx px,iter,ifs,0⟩] sc' pos) 0 it acc {cenv with scope:=relabel sc' F.env}) (RR acc cenv.locals) JZ) No DN) No s2:=by
 obtain⟨I,k,bK,rfl,l,hx,hit,oI,hI0,fed⟩:=src
 refine Aq (wpAny_newFunctionEnv hc.PF (λy hy=>nomatch hy) (λkQ J0 DO=>?_) hc.kind)
 dsimp only at J0 DO⊢
 have g1:=ro s2.heap (o:={cls:=.type "list",dict:=az,data:=.seq ([]:List Value).toArray}) ab
 have old1:∀b o,s2.heap.get? b=ae o->(s2.heap.push {cls:=.type "list",dict:=az,data:=.seq ([]:List Value).toArray}).get? b=ae o:=λb o e=>rh _ e
 have hC:=TF s2.heap {cls:=.type "list",dict:=az,data:=.seq ([]:List Value).toArray}
 generalize s2.heap.push {cls:=.type "list",dict:=az,data:=.seq ([]:List Value).toArray}=H2 at J0 DO g1 old1 hC⊢
 have fresh:=λa=>hx.fresh (a:=a)
 have out:=λa=>hx.nF (a:=a)
 have sys:=hx.yc (cC _)
 have hlt:=λb o e=>Ay (h:=s2.heap) (a:=b) (o:=o) e
 have lup:cZ bK s2 bK {s2 with heap:=kQ,toks:=s2.toks+([]:List (Str×Value)).length}:=cZ.up _ _
 generalize s2.heap.objs.size=D at g1 hC fresh out sys hlt⊢
 have hDC:D≠H2.objs.size:=hC▸Az (Av _)
 have hCle:D<=H2.objs.size:=hC▸fA _
 have old:∀b o,s2.heap.get? b=ae o->kQ.get? b=ae o:=λb o e=>DO.extBut b o (hC▸Az (Tc (hlt b o e))) (rh _ (old1 b o e))
 have hIlt:=hit.there.elim λo e=>hlt I o e
 have it1:=hit.keeps λo e=>old _ _ e
 have lo:uk kQ bK I D H2.objs.size k 0 []:=⟨it1,⟨_,DO.extBut _ _ hDC (rh _ g1)⟩,⟨_,J0⟩,oI,out _ (cC _),out _ hCle⟩
 have loop:codeAny g.X.M F.A (.compLoop (.ListComp elt [⟨.Name nx px,iter,ifs,0⟩] sc' pos) 0 (.ref I) (.ref D) (F.comp hc H2.objs.size).env) (RR (.ref D) H2.objs.size) {s2 with heap:=kQ,toks:=s2.toks+([]:List (Str×Value)).length}:=
  Wt (s2:=s2) (same:=same) hc he aC (z.next l hx) (Az hIlt) (hC▸Az (Tc hIlt)) hDC hI0 (fresh _ (cC _)) (fresh _ hCle) fed (λs' a9 vals e=>hRR _ _ s' a9 vals ⟨l.trans e.1,e.2⟩ hDC (fresh _ (cC _)) (fresh _ hCle) sys)
   ⟨bK,[],[],hp1,run,lup,hx.keeps (λb o e=>old _ _ (hx.dN _ _ e)) (λb o _=>old b o),.N,lo⟩
 exact codeAny_compStart_list loop (weak (aag (X:=g.X) it1 (Q:=λi s'=>i=.ref I/\s'={s2 with heap:=kQ,toks:=s2.toks+([]:List (Str×Value)).length}) ⟨rfl,rfl⟩) λi s' e=>by rw[e.1,e.2];exact loop)
theorem Le {h:Heap} (x:bG X ak au hp h) (aL:j_ h "list" D vals) (vr:di X ak ys vals) (gb:D∉adr ak) (h0:au.get? D=az) (sys:(D==oZ)=aP):bG X (ak++[(D,D)]) au (hp++[.L ys]) h:=
 aL.elim λn q=>x.adopt (p:=(D,D)) x.dN (λ_ _ _ e=>e) gb gb h0 h0 sys ⟨_,_,q,q,vals,n,ab,vr.mono (kv _ _)⟩
def Fold(e:Expr):Prop:=∀env x,foldedSetIterable e env x=pure x
theorem LL(hc:jS g sc' xi nx)(he:bT (g.at sc') elt celt)(aC:o9 (g.at sc') ifs ccond)(z:T F au ak fr hp s)(hfold:Fold iter){W:(Value->Shared->Prop)->Prop}(hw:W (λx s1=>∃xs hp1 same,rD F au ak s hp1 xs same x s1/\B (rM g celt ccond fr xi same xs [] hp1) (λys h=>ae (gF h (.L ys)))=ae (v,hp')))
 (hW:∀{Q},W Q->bI g.X.M F.A (eval iter F.env) Q No s):Go F au ak s (eval (.ListComp elt [⟨.Name nx px,iter,ifs,0⟩] sc' pos) F.env) v hp':=by
 unfold Go
 rw[eval_ListComp]
 refine SK (use:=az) ab (hfold _) (LH λx hx a7=>F.c9.cells _ (.inl (hc.frees x hx a7))) hc.kind hc.locs (e_ (hW hw) λxv oY h=>h.elim λxs h=>h.elim λhp1 h=>h.elim λsame h=>e_ h.1 λit uc src=>i4 h.2 λys hpf run e=>?_)
 refine LK (RR:=λacc C=>compPost g.X.M F.A No az (bx g.X au ak s v hp') acc C) hc he aC z src run λD C s' a9 vals e hDC hD0 hC0 sys=>?_
 obtain⟨l,hx,vr,aL,⟨m,ns⟩,oH,nc⟩:=e
 exact⟨m,ns,λh' hs'=>eJ (P:=λv hp'=>bx g.X au ak s v hp' _ _) ‹ae (gF hpf (.L ys))=ae (v,hp')› ⟨a9++[(D,D)],(l.trans (cZ.up _ _)).trans ⟨kv _ _,Ext.refl _⟩,⟨(D,D),uJ hx.len,ab⟩,Le (hx.sameBut hs' nc hC0) (aL.imp λ_ e=>hs'.extBut _ _ hDC e) vr oH hD0 sys⟩⟩
theorem aeg(hc:jS g sc' xi nx)(he:bT (g.at sc') elt celt)(aC:o9 (g.at sc') ifs ccond)(hi:bT g iter cit)(hfold:Fold iter):bT g (.ListComp elt [⟨.Name nx px,iter,ifs,0⟩] sc' pos) (.J xi celt cit ccond):=λF au ak fr hp s v hp' z ev=>
 LL (W:=λQ=>bI g.X.M F.A (eval iter F.env) Q No s) hc he aC z hfold (Jz (K:=λxs n o h=>B (rM g celt ccond fr xi (λh=>decide (h[n]?=ae o)) xs [] h) λys h=>ae (gF h (.L ys))) hi z ev λxs n o x s1 hp1 i e=>⟨xs,hp1,_,i,e⟩) id
theorem aeh {a:Expr} {y:Str} {cn:ck} (hc:jS g sc' xi nx) (he:bT (g.at sc') elt celt) (aC:o9 (g.at sc') ifs ccond) (bn:gy g y (.type "range")) (hi:bT g a cn) (hst:g_ a):bT g (.ListComp elt [⟨.Name nx px,.Call (.Name y p) [a] [] pos',ifs,0⟩] sc' pos) (.X xi celt cn ccond):=λF au ak fr hp s v hp' z ev=>
 LL (W:=λQ=>bI g.X.M F.A (eval (.Call (.Name y p) [a] [] pos') F.env) Q No s) hc he aC z (λ_ _=>rfl) (RW (K:=λk h=>B (rM g celt ccond fr xi (λ_=>aB) (fZ k) [] h) λys h=>ae (gF h (.L ys))) bn hi hst z ev λk x s1 hp1 i e=>⟨_,hp1,_,i,e⟩) id
def uo(g:G)(op:BoolOp)(es:List Expr)(c:ck):Prop:=∀(F:eO g)(au:Heap)(ak:de)(fr:bJ)(hp:H)(s:Shared)(v:V)(hp':H)(pos:Pos),T F au ak fr hp s->aS g.P g.cl c fr hp=ae (v,hp')->Go F au ak s (boolOp pos op (evalEach es F.env)) v hp'
def uq(g:G)(op:BoolOp)(es:List Expr)(c:ck):Prop:=∀(F:eO g)(au:Heap)(ak:de)(fr:bJ)(hp:H)(s:Shared)(b:Bool)(hp':H),T F au ak fr hp s->ff (aS g.P g.cl c fr hp)=ae (b,hp')->xG F au ak s (allTrue op es F.env) b hp'
theorem Jo{op:BoolOp}(h:bT g x c):uo g op [x] c:=λF au ak fr hp s v hp' pos z e=>h F au ak fr hp s v hp' z e
theorem Jn(h:bT g x c)(aZ:uo g .And (y::fG) cr):uo g .And (x::y::fG) (.G c cr):=λF au ak fr hp s v hp' pos z ev=>by
 show bI _ _ (do
  let v<-eval x F.env
  standAt pos
  let t<-holding [v] (p8 v)
  match BoolOp.And,t with
  | .And,aP | .Or,aB=>pure v
  | _,_=>boolOp pos .And (evalEach (y::fG) F.env)) _ _ _
 exact c8 (h.run z ev λav s1 w bK hp1 l z r ev=>c8 (p7 (c8 (mE (JW z r (KJ.trans ev) λb s2 l2 z _ ev=>by
  cases b with
  | true=>exact fin (l.trans l2) (aZ F au bK fr hp1 s2 v hp' pos z ev)
  | false=>exact eJ (P:=λv hp'=>bI _ _ _ (bx g.X au ak s v hp') No s2) ev (fl ⟨bK,l.trans l2,r,z.aZ⟩))))))
theorem ad0(h:bT g x c)(aZ:uo g .Or (y::fG) cr):uo g .Or (x::y::fG) (.O c cr):=λF au ak fr hp s v hp' pos z ev=>by
 show bI _ _ (do
  let v<-eval x F.env
  standAt pos
  let t<-holding [v] (p8 v)
  match BoolOp.Or,t with
  | .And,aP | .Or,aB=>pure v
  | _,_=>boolOp pos .Or (evalEach (y::fG) F.env)) _ _ _
 exact c8 (h.run z ev λav s1 w bK hp1 l z r ev=>c8 (p7 (c8 (mE (JW z r (KJ.trans ev) λb s2 l2 z _ ev=>by
  cases b with
  | false=>exact fin (l.trans l2) (aZ F au bK fr hp1 s2 v hp' pos z ev)
  | true=>exact eJ (P:=λv hp'=>bI _ _ _ (bx g.X au ak s v hp') No s2) ev (fl ⟨bK,l.trans l2,r,z.aZ⟩))))))
theorem Jq{op:BoolOp}{es:List Expr}(h:uo g op es c):bT g (.BoolOp op es pos) c:=λF au ak fr hp s v hp' z e=>by
 unfold Go;rw[arm_eval_BoolOp];exact h F au ak fr hp s v hp' pos z e
theorem Se{q:Option (V×H)}{k:Bool->V->H->Option (V×H)}{b:Bool}{f:Bool->H->Option (Bool×H)}(a7:∀t v h,truthy h v=ae t->ff (k t v h)=f t h)(ev:ff (B q λx h=>(truthy h x).bind λt=>k t x h)=ae (b,hp')):B (ff q) f=ae (b,hp'):=by
 cases q with
 | none=>exact no ev
 | some p=>
  show B (ok p.2 (truthy p.2 p.1)) f=_;refine AB ?_ ev;show _=ff ((truthy p.2 p.1).bind λt=>k t p.1 p.2);cases e:truthy p.2 p.1 with
  | none=>rfl
  | some t=>exact(a7 t p.1 p.2 e).symm
theorem JH{op:BoolOp}(h:ST g x c):uq g op [x] c:=λF au ak fr hp s b hp' z e=>by
 have q:=h F au ak fr hp s b hp' z e;cases op with
 | And=>exact SU (e_ q λc s1 z=>by
  cases c with
  | true=>exact wpAny_allTrue_And_nil z
  | false=>exact z)
 | Or=>exact SW (e_ q λc s1 z=>by
  cases c with
  | true=>exact z
  | false=>exact wpAny_allTrue_Or_nil z)
theorem JG(h:ST g x c)(aZ:uq g .And fG cr):uq g .And (x::fG) (.G c cr):=λF au ak fr hp s b hp' z ev=>
 SU (h.run z (Se (f:=λt h=>bif t then ff (aS g.P g.cl cr fr h)else ae (aP,h)) (k:=λt x h=>bif t then aS g.P g.cl cr fr h else ae (x,h)) (λt v h e=>by cases t<;>first | rfl | (show ok h (truthy h v)=_;rw[e];rfl)) ev) λt s1 bK hp1 l z ev=>by
  cases t with
  | true=>exact Bi l (aZ F au bK fr hp1 s1 b hp' z ev)
  | false=>exact eJ (P:=λb hp'=>lQ g.X au ak s b hp' aP s1) ev ⟨ab,bK,l,z.aZ⟩)
theorem afv(h:ST g x c)(aZ:uq g .Or fG cr):uq g .Or (x::fG) (.O c cr):=λF au ak fr hp s b hp' z ev=>
 SW (h.run z (Se (f:=λt h=>bif t then ae (aB,h)else ff (aS g.P g.cl cr fr h)) (k:=λt x h=>bif t then ae (x,h)else aS g.P g.cl cr fr h) (λt v h e=>by cases t<;>first | rfl | (show ok h (truthy h v)=_;rw[e];rfl)) ev) λt s1 bK hp1 l z ev=>by
  cases t with
  | false=>exact Bi l (aZ F au bK fr hp1 s1 b hp' z ev)
  | true=>exact eJ (P:=λb hp'=>lQ g.X au ak s b hp' aB s1) ev ⟨ab,bK,l,z.aZ⟩)
theorem JC{op:BoolOp}{es:List Expr}(h:uq g op es c):ST g (.BoolOp op es pos) c:=λF au ak fr hp s b hp' z e=>wpAny_isTrue_BoolOp (h F au ak fr hp s b hp' z e)
end
section
variable{P:gM}{cl:Nat->List V->H->Option (V×H)}{e o i t:ck}{fr:bJ}{h:H}{a b:bN}{j k:Nat}{p:js}
theorem agm:cH P cl (.E e) fr h=B (aS P cl e fr h) λ_ h=>ae (.N,fr,h):=rfl
theorem Sr:cH P cl (.A j e) fr h=B (aS P cl e fr h) λv h=>ae (.N,fr.set j (ae v),h):=rfl
theorem ago:cH P cl (.B o j e) fr h=B (aS P cl e fr h) λx h=>B (aS P cl o fr h) λv h=>(w7 h v j x).map λh=>(.N,fr,h):=rfl
theorem agp:cH P cl (.C o i e) fr h=B (aS P cl e fr h) λx h=>B (aS P cl o fr h) λv h=>B (aS P cl i fr h) λk h=>(oR h v k x).map λh=>(.N,fr,h):=rfl
theorem agq:cH P cl (.D j k e) fr h=B (aS P cl e fr h) λv h=>v.gG.bind λn=>h[n]?.bind λo=>o.xc.bind λl=>(DF l).map λq=>(.N,(fr.set j (ae q.1)).set k (ae q.2),h):=rfl
theorem agr:cH P cl (.J j p e) fr h=(fr[j]?.bind id).bind λx=>B (aS P cl e fr h) λy h=>(xM p x y).map λz=>(.N,fr.set j (ae z),h):=rfl
theorem ags:cH P cl (.I t a b) fr h=B (ff (aS P cl t fr h)) λt h=>bif t then b3 P cl a fr h else b3 P cl b fr h:=rfl
theorem agn:cH P cl (.R e) fr h=B (aS P cl e fr h) λv h=>ae (.R v,fr,h):=rfl
end
noncomputable def iy{g:G}(F:eO g):List Addr:=F.env.locals::g.names.filterMap λx=>match g.sc.names.lookup x with | some .cell=>F.env.cells.lookup x | _=>az
structure KS(g:G):Prop where
 nodup:g.names.Nodup
 F_:∀x,g.sc.names.lookup x≠ae .free
structure St{g:G}(F:eO g)(au:Heap)(ak:de)(fr:bJ)(hp:H)(s:Shared):Prop where
 lq:KS g
 e0:mM g.X au
 aZ:bG g.X ak au hp s.heap
 fr:jT g.X ak F.env g.sc g.names fr s.heap
 off:∀a∈iy F,a∉adr ak/\au.get? a=az/\∃o,s.heap.get? a=ae o
 i9:∀x,x∈g.names->g.sc.names.lookup x=ae .cell->∃c v,F.env.cells.lookup x=ae c/\s.heap.IsCell c v
 inj:∀x y c,F.env.cells.lookup x=ae c->F.env.cells.lookup y=ae c->x=y
 ne:∀x c,F.env.cells.lookup x=ae c->c≠F.env.locals
def KQ(X:dC)(ak:de):dm->Flow->Prop
 | .N,f=>f=.next
 | .B,f=>f=.brk
 | .R v,f=>∃val,f=.ret val/\cL X ak v val
def fR{g:G}(F:eO g)(au:Heap)(ak:de)(s:Shared)(f:dm)(fr':bJ)(hp':H)(b8:Flow)(s':Shared):Prop:=∃a9,cZ ak s a9 s'/\KQ g.X a9 f b8/\St F au a9 fr' hp' s'
def rB{g:G}(F:eO g)(au:Heap)(ak:de)(s:Shared)(t:Sem Flow)(f:dm)(fr':bJ)(hp':H):Prop:=bI g.X.M F.A t (fR F au ak s f fr' hp') No s
def dP(g:G)(st:Stmt)(c:kA):Prop:=∀(F:eO g)(au:Heap)(ak:de)(fr:bJ)(hp:H)(s:Shared)(f:dm)(fr':bJ)(hp':H),St F au ak fr hp s->cH g.P g.cl c fr hp=ae (f,fr',hp')->rB F au ak s (exec st F.env) f fr' hp'
def jU(g:G)(st:List Stmt)(c:bN):Prop:=∀(F:eO g)(au:Heap)(ak:de)(fr:bJ)(hp:H)(s:Shared)(f:dm)(fr':bJ)(hp':H),St F au ak fr hp s->b3 g.P g.cl c fr hp=ae (f,fr',hp')->rB F au ak s (execs st F.env) f fr' hp'
theorem AM{bg:Type}{x:Option (dm×bJ×H)}{k:dm->bJ->H->Option bg}{r:bg}{P:Prop}(e:kz x k=ae r)(q:∀f fr h,x=ae (f,fr,h)->k f fr h=ae r->P):P:=cz e λa=>q a.1 a.2.1 a.2.2
theorem jH{f f':dm}{fr fr':bJ}{h h':H}{P:dm->bJ->H->Prop}(e:ae (f,fr,h)=ae (f',fr',h'))(k:P f fr h):P f' fr' h':=by cases e;exact k
section
variable{g:G}{F:eO g}{au h h' fs:Heap}{ak a9 bK:de}{fr fr':bJ}{hp hp' hp1:H}{s s' s1 s2:Shared}{v:V}{f:dm}{bg:Type}{r:bg}{e t o i:Expr}{c ct co ci:ck}{pos p':Pos}{nm:Str}{a:Addr}{val:Value}{j:Nat}
theorem Bg{x:Str}{c:Addr}(hx:x∈g.names)(a7:g.sc.names.lookup x=ae .cell)(hc:F.env.cells.lookup x=ae c):c∈iy F:=
 .tail _ (S8.mpr ⟨x,hx,by rw[a7];exact hc⟩)
theorem jT.over(lq:KS g)(f:jT g.X ak F.env g.sc g.names fr h)(k:∀a∈iy F,∀o,h.get? a=ae o->h'.get? a=ae o):jT g.X ak F.env g.sc g.names fr h':=
 ⟨f.loc.imp λm z=>⟨z.1.at' (k _ (.head _)),z.2⟩,λi x v a b c=>(f.i9 i x v a b c).imp λc' z=>z.imp λval z=>⟨z.1,z.2.1.imp λo q=>⟨k _ (c.elim (λc=>Bg (rm a) c z.1) λc=>absurd c (lq.F_ x)) _ q.1,q.2⟩,z.2.2⟩⟩
theorem St.over(x:St F au ak fr hp s)(y:bG g.X ak au hp s'.heap)(k:∀a∈iy F,∀o,s.heap.get? a=ae o->s'.heap.get? a=ae o):St F au ak fr hp s':=
 ⟨x.lq,x.e0,y,x.fr.over x.lq k,λa m=>have z:=x.off a m;⟨z.1,z.2.1,z.2.2.imp λo=>k a m o⟩,λn aU a7=>(x.i9 n aU a7).imp λc z=>z.imp λv z=>⟨z.1,z.2.imp λo q=>⟨k _ (Bg aU a7 z.1) _ q.1,q.2⟩⟩,x.inj,x.ne⟩
theorem St.ext(x:St F au ak fr hp s)(k:Kr a s.heap s'.heap)(h1:a∉adr ak)(aD:a∉iy F)(h3:au.get? a=az):St F au ak fr hp s':=x.over (x.aZ.extBut k h1 h3) λb hb _=>k _ _ λq=>aD (q▸hb)
theorem St.size(x:St F au ak fr hp s):s.heap.objs.size∉iy F:=λh=>(x.off _ h).2.2.elim λ_ e=>absurd (Ay e) (TJ _)
theorem St.re(x:St F au ak fr hp s){P:Prop}(k:∀fs,T F fs ak fr hp s->au.StaysIn fs->(∀a∈iy F,∃o,fs.get? a=ae o)->(∀bK hp1 s1,ak <+: bK->bG g.X bK fs hp1 s1.heap->St F au bK fr hp1 s1)->P):P:=by
 have st:=x.aZ.DB;have there:∀a,a∈iy F->∀o,s.heap.get? a=ae o->(ground s.heap ak).get? a=ae o:=λa ha o e=>ox e (x.off a ha).1;have Fg:=x.fr.over x.lq there
 exact k (ground s.heap ak) ⟨x.e0.keeps st,Fg,x.aZ.JL⟩ st (λa ha=>(x.off a ha).2.2.imp λo=>there a ha o) λbK hp1 s1 p y=>⟨x.lq,x.e0,y.weaken st x.aZ.low,(Fg.mono p).keeps y.dN,
  λa m=>have z:=x.off a m;z.2.2.elim λo q=>have w:=there a m o q;⟨y.pI w,z.2.1,o,y.dN _ _ w⟩,λn aU a7=>(x.i9 n aU a7).imp λc z=>z.imp λv z=>⟨z.1,z.2.imp λo q=>⟨y.dN _ _ (there _ (Bg aU a7 z.1) _ q.1),q.2⟩⟩,x.inj,x.ne⟩
theorem St.acX(x:St F au ak fr hp s){P:Prop}(k:∀kQ,(∀b o,s.heap.get? b=ae o->b∉adr ak->b∉iy F->kQ.get? b=ae o)->St F kQ ak fr hp s->(∀bK fr1 hp1 s1,St F kQ bK fr1 hp1 s1->St F au bK fr1 hp1 s1)->P):P:=by
 have st:au.StaysIn (hideAll s.heap (adr ak++iy F)):=λb o e=>hideAll_get _ (x.aZ.dN b o e) λhb=>(gW.mp hb).elim (x.aZ.pI e) λhb=>no ((x.off b hb).2.1.symm.trans e);have nn:∀b,b∈adr ak++iy F->(hideAll s.heap (adr ak++iy F)).get? b=none:=λb=>hideAll_none _
 exact k (hideAll s.heap (adr ak++iy F)) (λb o e gb n2=>hideAll_get _ e λhb=>(gW.mp hb).elim gb n2)
  ⟨x.lq,x.e0.keeps st,⟨λ_ _=>of_hideAll _,x.aZ.len,x.aZ.obj,x.aZ.apart,λi p e=>⟨nn _ (iG _ (qw e)),nn _ (iG _ (qx e)),x.aZ.sys e⟩,x.aZ.low.imp λa z=>z.imp λo z=>⟨z.1,st _ _ z.2⟩⟩,x.fr,
   λa m=>⟨(x.off a m).1,nn a (gr _ m),(x.off a m).2.2⟩,x.i9,x.inj,x.ne⟩
  λbK fr1 hp1 s1 y=>⟨x.lq,x.e0,y.aZ.weaken st x.aZ.low,y.fr,λa m=>⟨(y.off a m).1,(x.off a m).2.1,(y.off a m).2.2⟩,y.i9,y.inj,y.ne⟩
def mK(g:G)(i:Nat)(nm:Str):Prop:=g.names[i]?=ae nm/\(g.sc.names.lookup nm=ae .local\/g.sc.names.lookup nm=ae .cell)
theorem St.store{M:Model}{A:Around}(x:St F au ak fr hp s){Q:Unit->Shared->Prop}(aU:mK g j nm)(hv:cL g.X ak v val)
 (q:∀s',Ext s s'->(∃a∈iy F,xt a s.heap s'.heap)->St F au ak (fr.set j (ae v)) hp s'->Q () s'):bI M A (storeName F.env nm val) Q No s:=by
 have other:∀{i:Nat}{y:Str}{u:V}{P:Prop},g.names[i]?=ae y->(fr.set j (ae v))[i]?=ae (ae u)->(y=nm->v=u->P)->(y≠nm->fr[i]?=ae (ae u)->P)->P:=λ{i y u P} hj hu k1 k2=>
  Dv hu (λd hu=>k2 (λe=>d ((List.getElem?_inj (lh aU.1) x.lq.nodup).mp (aU.1.trans (e▸hj.symm)))) hu) λd e=>k1 (dE (hj.symm.trans (d▸aU.1))) (dE e)
 have keep:∀{a:Addr}{h':Heap},a∈iy F->xt a s.heap h'->(∃o,h'.get? a=ae o)->∀b∈iy F,b∉adr ak/\au.get? b=az/\∃o,h'.get? b=ae o:=λ{a h'} ma hs he b m=>
  ⟨(x.off b m).1,(x.off b m).2.1,by
   by_cases e:b=a
   .exact e▸he
   .exact(x.off b m).2.2.imp λo=>(hs.2 b e).trans⟩
 refine aU.2.elim (λa7=>x.fr.loc.elim λm z=>?_) λa7=>?_
 .have hl:=λh' hs=>keep (a:=F.env.locals) (h':=h') (.head _) hs;have o0:=x.off _ (.head _)
  exact SV (F.c9.bo nm _ a7) z.1 (λh' hm' hs'=>q {s with heap:=h',toks:=s.toks+1} (Ext.mk' _ _ _) ⟨_,.head _,hs'⟩ ⟨x.lq,x.e0,x.aZ.sameBut hs' o0.1 o0.2.1,⟨⟨_,hm',λi y u a b c=>other a b (λe1 e2=>e2▸⟨val,if_pos e1,hv⟩) λne hu=>(z.2 i y u a hu c).imp λw z=>⟨(if_neg ne).trans z.1,z.2⟩⟩,
   λi y u a b c=>other a b (λe1 _=>by rw[e1,a7]at c;rcases c with c | c<;>exact nomatch c) λne hu=>(x.fr.i9 i y u a hu c).imp λc' z=>z.imp λw z=>⟨z.1,z.2.1.sameBut hs' (x.ne _ _ z.1),z.2.2⟩⟩,
   hl h' hs' (hm'.imp λ_ z=>z.elim λ_ z=>z.elim λ_ z=>z.1),λy hy hc=>(x.i9 y hy hc).imp λc z=>z.imp λu z=>⟨z.1,z.2.sameBut hs' (x.ne _ _ z.1)⟩,x.inj,x.ne⟩) (by rw[F.c9.kind];rfl)
 .obtain⟨c,u,aD,h3⟩:=x.i9 nm (rm aU.1) a7;have fM:=Bg (F:=F) (rm aU.1) a7 aD;have o0:=x.off _ fM
  refine wpAny_storeName_cell F.c9.kind (F.c9.bo nm _ a7) aD h3 λh' hc' hs'=>q {s with heap:=h'} (Ext.mk' _ _ _) ⟨_,fM,hs'⟩ ⟨x.lq,x.e0,x.aZ.sameBut hs' o0.1 o0.2.1,⟨x.fr.loc.imp λm z=>⟨z.1.sameBut hs' (pX (x.ne _ _ aD)),λi y w a b cc=>other a b (λe1 _=>by rw[e1,a7]at cc;exact nomatch cc) λ_ hu=>z.2 i y w a hu cc⟩,
   λi y w a b cc=>other a b (λe1 e2=>e1▸e2▸⟨c,val,aD,hc',hv⟩) λne hu=>(x.fr.i9 i y w a hu cc).imp λc' z=>z.imp λw z=>⟨z.1,z.2.1.sameBut hs' (λe=>ne (x.inj _ _ _ z.1 (e▸aD))),z.2.2⟩⟩,
   keep fM hs' (hc'.imp λ_ z=>z.1),λy hy hcy=>?_,x.inj,x.ne⟩
  by_cases e:y=nm
  .exact e▸⟨c,_,aD,hc'⟩
  .exact(x.i9 y hy hcy).imp λc' z=>z.imp λw z=>⟨z.1,z.2.sameBut hs' λe'=>e (x.inj _ _ _ z.1 (e'▸aD))⟩
theorem bT.qT(h:bT g e c)(x:St F au ak fr hp s){k:V->H->Option bg}(ev:B (aS g.P g.cl c fr hp) k=ae r){Q:Value->Shared->Prop}(q:∀val s' v a9 hp',cZ ak s a9 s'->St F au a9 fr hp' s'->cL g.X a9 v val->k v hp'=ae r->Q val s'):bI g.X.M F.A (eval e F.env) Q No s:=
 x.re λ_ y _ _ back=>h.run y ev λval s' v a9 hp' l y r e=>q val s' v a9 hp' l (back _ _ _ l.p y.aZ) r e
theorem ST.qT(h:ST g e c)(x:St F au ak fr hp s){k:Bool->H->Option bg}(ev:B (ff (aS g.P g.cl c fr hp)) k=ae r){Q:Bool->Shared->Prop}(q:∀b s' a9 hp',cZ ak s a9 s'->St F au a9 fr hp' s'->k b hp'=ae r->Q b s'):bI g.X.M F.A (isTrue e F.env (eval e F.env)) Q No s:=
 x.re λ_ y _ _ back=>h.run y ev λb s' a9 hp' l y e=>q b s' a9 hp' l (back _ _ _ l.p y.aZ) e
theorem fR.trans{b8:Flow}(l:cZ ak s a9 s1)(x:fR F au a9 s1 f fr' hp' b8 s'):fR F au ak s f fr' hp' b8 s':=x.imp λ_ z=>⟨l.trans z.1,z.2⟩
theorem Fj{t:Sem Flow}{M:Model}{A:Around}(l:cZ ak s a9 s1)(h:bI M A t (fR F au a9 s1 f fr' hp') No s1):bI M A t (fR F au ak s f fr' hp') No s1:=e_ h λ_ _=>fR.trans l
theorem afd:jU g [] .N:=λF au ak fr hp s f fr' hp' x e=>jH (P:=rB F au ak s _) e (Kl ⟨ak,cZ.refl _ _,ab,x⟩)
theorem afc{st:Stmt}{r:List Stmt}{c:kA}{cs:bN}(h:dP g st c)(aZ:jU g r cs):jU g (st::r) (.C c cs):=λF au ak fr hp s f fr' hp' x ev=>
 AM ev λf1 fr1 hp1 e1 ev=>wpAny_execs_cons (e_ (h F au ak fr hp s f1 fr1 hp1 x e1) λb8 s1 z=>z.elim λbK z=>by
  cases f1 with
  | N=>cases z.2.1;exact Fj z.1 (aZ F au bK fr1 hp1 s1 f fr' hp' z.2.2 ev)
  | B=>cases z.2.1;exact jH (P:=λf fr' hp'=>fR F au ak s f fr' hp' .brk s1) ev ⟨bK,z⟩
  | R v=>obtain⟨l,⟨val,rfl,r1⟩,x1⟩:=z;exact jH (P:=λf fr' hp'=>fR F au ak s f fr' hp' _ s1) ev ⟨bK,l,⟨val,rfl,r1⟩,x1⟩)
theorem Z5:interactive F.env=false:=by unfold interactive;rw[F.c9.kind];rfl
def rE(e:Expr):Prop:=∀t l env,swapsWith e t l env=pure aP
theorem ae5(h:bT g e c)(hc:rE e):dP g (.Expr e pos) (.E c):=λF au ak fr hp s f fr' hp' x ev=>
 wpAny_Expr_any (h.qT x ((agm).symm.trans ev) λval s1 v bK hp1 l x _ ev=>jH (P:=λf fr' hp'=>fR F au ak s f fr' hp' .next s1) ev ⟨bK,l,ab,x⟩) Z5 (hc _ _ _)
theorem ae_(h:bT g e c):dP g (.Return (ae e) pos) (.R c):=λF au ak fr hp s f fr' hp' x ev=>
 wpAny_Return_some (h.qT x ((agn).symm.trans ev) λval s1 v bK hp1 l x r ev=>jH (P:=λf fr' hp'=>fR F au ak s f fr' hp' (.ret val) s1) ev ⟨bK,l,⟨val,ab,r⟩,x⟩)
theorem afa:dP g (.Return az pos) (.R (.C .N)):=λF au ak fr hp s f fr' hp' x ev=>jH (P:=rB F au ak s _) (show ae (dm.R .N,fr,hp)=ae (f,fr',hp')from ev) (wpAny_Return_none ⟨ak,cZ.refl _ _,⟨.none,ab,ab⟩,x⟩)
theorem xa:dP g (.Break pos) .L:=λF au ak fr hp s f fr' hp' x ev=>jH (P:=rB F au ak s _) ev (wpAny_Break ⟨ak,cZ.refl _ _,ab,x⟩)
theorem ae1(h:bT g e c)(hc:rE e)(aU:mK g j nm):dP g (.Assign [.Name nm p'] e pos) (.A j c):=λF au ak fr hp s f fr' hp' x ev=>
 wpAny_Assign_Name (h.qT x ((Sr).symm.trans ev) λval s1 v bK hp1 l x r ev=>x.store aU r λs2 t2 _ x2=>jH (P:=λf fr' hp'=>fR F au ak s f fr' hp' .next s2) ev ⟨bK,l.trans ⟨iI _,t2⟩,ab,x2⟩) (hc _ _ _)
theorem JT{M:Model}{A:Around}{env:Env}{t value:Expr}{Q:Flow->Shared->Prop}(hc:rE value)(hst:swappedStores [t] value env=pure az)(hns:assignEach [t] env=[(aP,assign t env)])
 (h:bI M A (eval value env) (λv s1=>bI M A (assign t env v) (λ_ s2=>Q .next s2) No s1) No s):bI M A (exec (.Assign [t] value pos) env) Q No s:=by
 rw[arm_exec_Assign,show swapsWithSole [t] value pos.line env=pure aP from hc _ _ _,hst,hns]
 refine c8 (p7 ?_)
 show bI M A (do let v<-eval value env;assignStores env v az [assign t env]) Q No s
 exact c8 (e_ h λv s1 h1=>c8 (e_ h1 λ_ s2 aD=>fl aD))
def um(t v:Expr):Prop:=∀env,swappedStores [t] v env=pure az
theorem aeZ{k:Nat}(h:bT g e c)(hO:bT g o co)(hc:rE e)(hs:um (.Attribute o nm p') e)(ha:k<30)(aU:jv k=ae nm):dP g (.Assign [.Attribute o nm p'] e pos) (.B co k c):=λF au ak fr hp s f fr' hp' x ev=>
 x.re λfs y _ _ back=>JT hc (hs _) ab (h.run y ((ago).symm.trans ev) λval s1 v bK hp1 l1 y r1 ev=>by
  rw[arm_assign_Attribute]
  exact c8 (mE (hO.run y ev λov s2 w lK hp2 l2 y r2 ev=>c8 (p7 (c8 (mE (cz ((p1 ..).symm.trans ev) λhp3 e3 ev=>e_ (aeK y.e0.cls y.e0.iz y.aZ r2 (r1.mono l2.p) ha aU e3) λ_ s3 z=>
   TL (jH (P:=λf fr' hp'=>fR F au ak s f fr' hp' .next _) ev ⟨lK,(l1.trans l2).trans ⟨iI _,z.2⟩,ab,back _ _ _ (l1.trans l2).p z.1⟩))))))))
theorem ae0(h:bT g e c)(hO:bT g o co)(hI:bT g i ci)(hc:rE e)(hs:um (.Subscript o i p') e):dP g (.Assign [.Subscript o i p'] e pos) (.C co ci c):=λF au ak fr hp s f fr' hp' x ev=>
 x.re λfs y _ _ back=>JT hc (hs _) ab (h.run y ((agp).symm.trans ev) λval s1 v bK hp1 l1 y r1 ev=>by
  rw[arm_assign_Subscript]
  exact c8 (mE (hO.run y ev λov s2 w lK hp2 l2 y r2 ev=>c8 (mE (hI.run y ev λaV s3 u lJ hp3 l3 y r3 ev=>c8 (p7 (c8 (mE (cz ((p1 ..).symm.trans ev) λhp3 e3 ev=>e_ (aeL y.aZ (r2.mono l3.p) r3 (r1.mono (l2.trans l3).p) e3) λ_ s4 z=>
   TL (jH (P:=λf fr' hp'=>fR F au ak s f fr' hp' .next _) ev ⟨lJ,((l1.trans l2).trans l3).trans ⟨iI _,z.2⟩,ab,back _ _ _ ((l1.trans l2).trans l3).p z.1⟩))))))))))
theorem ae9{b d:List Stmt}{cb cd:bN}(h:ST g t ct)(hb:jU g b cb)(hd:jU g d cd):dP g (.If t b d pos) (.I ct cb cd):=λF au ak fr hp s f fr' hp' x ev=>
 wpAny_If (h.qT x ((ags).symm.trans ev) λq s1 bK hp1 l x ev=>by
  cases q with
  | true=>exact Fj l (hb F au bK fr hp1 s1 f fr' hp' x ev)
  | false=>exact Fj l (hd F au bK fr hp1 s1 f fr' hp' x ev))
end
section
variable{prog:Program}{w:World}{A:Around}{R:Result->Shared->Prop}{env:Env}{s:Shared}{b:List Stmt}{it:Value}{target test:Expr}
def Turn(R:Result->Shared->Prop)(I:Shared->Prop):Flow->Shared->Prop
 | .next,s | .cont,s=>I s
 | .brk,s=>R (.ok .next) s
 | .ret v,s=>R (.ok (.ret v)) s
theorem Zo(I:Nat->Shared->Prop)(N:Nat)
 (turn:∀j s,I j s->bI (model prog w) A (pyNext it) (λr oY=>match r with
  | none=>R (.ok .next) oY
  | some v=>bI (model prog w) A (assign target env v) (λ_ uc=>bI (model prog w) A (execs b env) (Turn R λs=>j<N/\I (j+1) s) No uc) No oY) No s) (h:I 0 s) (aC:∀v,letOwnedTupleGo target it v=pure ():=by intro _;rfl):
 codeAny (model prog w) A (.forLoop target it b [] env) R s:=by
 have next:∀{n j s},n=N-j->j<N/\I (j+1) s->∃m,m<n/\∃j,m=N-j/\I j s:=λe z=>⟨_,e▸S0 _ _ z.1,_,ab,z.2⟩
 refine codeAny_forLoop (λn s=>∃j,n=N-j/\I j s) (λn s z=>z.elim λj z=>weak (turn j s z.2) λr s1 h1=>?_) (N-0) ⟨0,ab,h⟩ aC
 cases r with
 | none=>exact Kl h1
 | some v=>
  refine weak h1 λ_ s2 aD=>weak aD λf s3 h3=>?_
  cases f with
  | next=>exact next z.1 h3
  | cont=>exact next z.1 h3
  | _=>exact h3
theorem agh(I:Nat->Shared->Prop)(turn:∀n s,I n s->bI (model prog w) A (isTrue test env (eval test env)) (λc uc=>if c=aB then bI (model prog w) A (execs b env) (Turn R λs=>∃m,m<n/\I m s) No uc else R (.ok .next) uc) No s)(n:Nat)(h:I n s):
 codeAny (model prog w) A (.whileLoop test b [] env) R s:=by
 refine codeAny_whileLoop I (λn s z=>weak (turn n s z) λc s1 h1=>?_) n h
 cases c with
 | true=>exact weak h1 λf s3 h3=>by cases f<;>exact h3
 | false=>exact Kl h1
end
section
variable{g:G}{F:eO g}{au h h' fs:Heap}{ak a9 bK:de}{fr fr':bJ}{hp hp' hp1:H}{s s' s1 s2:Shared}{v:V}{f:dm}{bg:Type}{r:bg}{e t o i it:Expr}{c ct co ci cit:ck}{pos p' px p:Pos}{nm y:Str}{a:Addr}{val:Value}{j:Nat}{b:List Stmt}{cb:bN}{xs:List V}
theorem Sf{R:Result->Shared->Prop}{I:Shared->Prop}{b8:Flow}{f1:dm}{fr1:bJ}{q:Option (dm×bJ×H)}(l:cZ ak s a9 s')(r1:KQ g.X a9 f1 b8)(x1:St F au a9 fr1 hp1 s')(ev:f1.on fr1 hp1 q=ae (f,fr',hp'))(hR:∀b8 s',fR F au ak s f fr' hp' b8 s'->R (.ok b8) s')(hI:q=ae (f,fr',hp')->I s'):Turn R I b8 s':=by
 cases f1 with
 | N=>cases r1;exact hI ev
 | B=>cases r1;exact jH (P:=λf fr' hp'=>(∀b8 s',fR F au ak s f fr' hp' b8 s'->R (.ok b8) s')->R (.ok .next) s') ev (λhR=>hR _ _ ⟨a9,l,ab,x1⟩) hR
 | R v=>obtain⟨val,rfl,r1⟩:=r1;exact jH (P:=λf fr' hp'=>(∀b8 s',fR F au ak s f fr' hp' b8 s'->R (.ok b8) s')->R (.ok (.ret val)) s') ev (λhR=>hR _ _ ⟨a9,l,⟨val,rfl,r1⟩,x1⟩) hR
def JQ(g:G)(ct:ck)(cb:bN):Nat->bJ->H->Option (dm×bJ×H):=BF (λfr h=>ff (aS g.P g.cl ct fr h)) (λfr h=>b3 g.P g.cl cb fr h)
theorem afb(h:ST g t ct)(hb:jU g b cb):dP g (.While t b [] pos) (.W ct cb):=λF au ak fr hp s f fr' hp' x ev=>by
 refine wpAny_While (agh (λn s1=>∃bK fr1 hp1,JQ g ct cb n fr1 hp1=ae (f,fr',hp')/\cZ ak s bK s1/\St F au bK fr1 hp1 s1) (λn s1 inv=>inv.elim λbK inv=>inv.elim λfr1 inv=>inv.elim λhp1 z=>?_) wf ⟨ak,fr,hp,ev,cZ.refl _ _,x⟩);cases n with
 | zero=>exact no z.1
 | succ n=>
  have ev:B (ff (aS g.P g.cl ct fr1 hp1)) (λq h=>bif q then kz (b3 g.P g.cl cb fr1 h) (λf fr h=>f.on fr h (JQ g ct cb n fr h))else ae (.N,fr1,h))=ae (f,fr',hp'):=z.1;refine h.qT z.2.2 ev λq s2 lK hp2 l x ev=>?_;cases q with
  | true=>exact AM (x:=b3 g.P g.cl cb fr1 hp2) (k:=λf fr h=>f.on fr h (JQ g ct cb n fr h)) ev λf1 fr2 hp3 e1 ev=>e_ (hb F au lK _ _ s2 f1 fr2 hp3 x e1) λb8 s3 w=>w.elim λlJ w=>have l3:=(z.2.1.trans l).trans w.1;Sf l3 w.2.1 w.2.2 ev (λ_ _ z=>z) λe=>⟨n,Av _,lJ,fr2,hp3,e,l3,w.2.2⟩
  | false=>exact jH (P:=λf fr' hp'=>fR F au ak s f fr' hp' .next s2) ev ⟨lK,z.2.1.trans l,ab,x⟩
def rR(g:G)(i:Nat)(cb:bN)(same:H->Bool):List V->bJ->H->Option (dm×bJ×H):=uI i (λfr h=>b3 g.P g.cl cb fr h) same
theorem Zn{it:Value}{same:H->Bool}(hb:jU g b cb)(aU:mK g j nm)(hst:au.StaysIn fs)(hfa:∀a∈iy F,∃o,fs.get? a=ae o)(back:∀bK hp1 s1,ak <+: bK->bG g.X bK fs hp1 s1.heap->St F au bK fr hp1 s1)
 (src:Src F fs ak s hp1 xs same it s2) (e:rR g j cb same xs fr hp1=ae (f,fr',hp')):codeAny g.X.M F.A (.forLoop (.Name nm px) it b [] F.env) (λr s'=>∃b8,r=.ok b8/\fR F au ak s f fr' hp' b8 s') s2:=by
 obtain⟨I,k,bK,rfl,l,hx,hit,oI,hI0,fed⟩:=src
 have nfa:I∉iy F:=λm=>(hfa _ m).elim λ_ q=>no (hI0.symm.trans q)
 have hI0:=BK hst hI0
 have done:∀b8 s',fR F au ak s f fr' hp' b8 s'->∃fl',(Ua b8:Result)=.ok fl'/\fR F au ak s f fr' hp' fl' s':=λb8 s' z=>⟨b8,ab,z⟩
 refine Zo (λm sj=>∃i3 frj hpj,rR g j cb same (xs.drop m) frj hpj=ae (f,fr',hp')/\cZ ak s i3 sj/\bK <+: i3/\St F au i3 frj hpj sj/\kB sj.heap I k m/\I∉adr i3) xs.length (λm sj inv=>?_) ⟨bK,fr,hp1,e,l,iI _,back _ _ _ l.p hx,hit,oI⟩
 obtain⟨i3,frj,hpj,run,lj,pj,X,hitj,nIj⟩:=inv
 refine NP (xs:=xs) (j:=m) (λhd aU=>?_) λy hd hy hj=>?_
 .rw[hd]at run;exact dZ run λhsm e=>e_ (OF F.f_.handled hitj (fed _ _ _ _ pj X.aZ hsm) aU) λr s1 z=>z.1▸jH (P:=λf fr' hp'=>∃b8,(Ua Flow.next:Result)=.ok b8/\fR F au ak s f fr' hp' b8 s1) e ⟨.next,rfl,i3,lj.trans ⟨iI _,z.2.2⟩,rfl,X.ext z.2.1 nIj nfa hI0⟩
 .rw[hd]at run;refine dZ run λhsm run=>AM (k:=λf fr h=>f.on fr h (rR g j cb same (xs.drop (m+1)) fr h)) run λf1 fr1 hpa e1 run=>e_ (OG hitj (fed _ _ _ _ pj X.aZ hsm) hy) λr s1 z=>z.elim λv z=>z.1▸?_;obtain⟨_,rv,hit1,hb1,ht1⟩:=z;have X1:=X.ext (s':=s1) hb1.extBut nIj nfa hI0;refine Au (X1.store aU rv λs2 t2 sb X2=>?_);have hit2:kB s2.heap I k (m+1):=sb.elim λa z=>hit1.keeps λo e=>z.2.extBut _ _ (λq=>nfa (q▸z.1)) e
  exact X2.acX λkQ keep X3 back1=>e_ (hb F kQ i3 _ hpj s2 f1 fr1 hpa X3 e1) λb8 s3 w=>w.elim λlJ w=>by
   have l3:cZ ak s lJ s3:=(lj.trans ⟨iI _,ht1.trans t2⟩).trans w.1;have hitg:kB kQ I k (m+1):=hit2.keeps λo e=>keep _ _ e nIj nfa;exact Sf l3 w.2.1 (back1 _ _ _ _ w.2.2) run done λe=>⟨hj,lJ,fr1,hpa,e,l3,pj.trans w.1.p,back1 _ _ _ _ w.2.2,hitg.keeps λo e=>w.2.2.aZ.dN _ _ e,hitg.there.elim λo q=>w.2.2.aZ.pI q⟩
end
section
variable{g:G}{F:eO g}{au h h' fs:Heap}{ak a9 bK:de}{fr fr':bJ}{hp hp' hp1:H}{s s' s1 s2:Shared}{v:V}{f:dm}{bg:Type}{r:bg}{e t o it a iter elt:Expr}{c ct co ci cit celt ccond:ck}{pos p' px p pi pj pt spos:Pos}{nm y ni nj nx:Str}{val:Value}{i j k xi:Nat}{b:List Stmt}{cb:bN}{xs:List V}{sc':Scope}{ifs:List Expr}
theorem JA(hb:jU g b cb)(aU:mK g j nm)(hfold:Fold it)(x:St F au ak fr hp s)
 (src:∀fs,T F fs ak fr hp s->bI g.X.M F.A (eval it F.env) (λav s1=>∃xs hp1 same,rD F fs ak s hp1 xs same av s1/\rR g j cb same xs fr hp1=ae (f,fr',hp')) No s):rB F au ak s (exec (.For (.Name nm px) it b [] pos) F.env) f fr' hp':=
 x.re λfs y st hfa back=>wpAny_For (e_ (src fs y) λav s1 z=>z.elim λxs z=>z.elim λhp1 z=>z.elim λsame z=>e_ z.1 λi s2 src=>codeAny_mono (Zn hb aU st hfa back src z.2) λr s' z=>z.elim λb8 z=>z.1▸z.2) (hfold F.env)
theorem ae8(h:bT g it c)(hb:jU g b cb)(aU:mK g j nm)(hfold:Fold it):dP g (.For (.Name nm px) it b [] pos) (.F j c cb):=λF au ak fr hp s f fr' hp' x ev=>
 JA hb aU hfold x λfs y=>Jz (K:=λxs n o h=>rR g j cb (λh=>decide (h[n]?=ae o)) xs fr h) h y ev λxs n o av s1 hp1 i e=>⟨xs,hp1,_,i,e⟩
theorem ae6 (bn:gy g y (.type "range")) (h:bT g e c) (hst:g_ e) (hb:jU g b cb) (aU:mK g j nm):dP g (.For (.Name nm px) (.Call (.Name y p) [e] [] p') b [] pos) (.G j c cb):=λF au ak fr hp s f fr' hp' x ev=>
 JA hb aU (λ_ _=>rfl) x λfs z=>RW (K:=λk h=>rR g j cb (λ_=>aB) (fZ k) fr h) bn h hst z ev λk av s1 hp1 i e=>⟨_,hp1,_,i,e⟩
theorem ae7 {iU p1' jg p2':Pos} {k1 k2:Nat} (bn:gy g y (.type "range")) (h:bT g e c) (hst:g_ e) (hb:jU g b cb) (aU:mK g j nm):
 dP g (.For (.Name nm px) (.Call (.Name y p) [e,.UnaryOp .USub (.Constant (.int 1) k1 iU) p1',.UnaryOp .USub (.Constant (.int 1) k2 jg) p2'] [] p') b [] pos) (.H j c cb):=λF au ak fr hp s f fr' hp' x ev=>
 JA hb aU (λ_ _=>rfl) x λfs z=>aeY (K:=λk h=>rR g j cb (λ_=>aB) (oo k) fr h) bn h hst z ev λk av s1 hp1 i e=>⟨_,hp1,_,i,e⟩
theorem af0{l:List V}{q:V×V}(e:DF l=ae q):l=[q.1,q.2]:=by
 cases l with
 | nil=>exact no e
 | cons a l=>cases l with
  | nil=>exact no e
  | cons b l=>cases l with
   | nil=>exact dE e▸rfl
   | cons=>exact no e
theorem ae3{pk:Nat}(h:bT g e c)(hc:rE e)(aC:um (.Tuple [.Name ni pi,.Name nj pj] pk pt) e)(hi:mK g i ni)(hj:mK g j nj):dP g (.Assign [.Tuple [.Name ni pi,.Name nj pj] pk pt] e pos) (.D i j c):=λF au ak fr hp s f fr' hp' x ev=>
 JT hc (aC _) ab (h.qT x (agq.symm.trans ev) λval s1 v bK hp1 l x r ev=>cz ev λn e1 ev=>cz ev λob e2 ev=>cz ev λus e3 ev=>cz ((p1 ..).symm.trans ev) λq e4 ev=>by
  obtain⟨p,hp1',rfl⟩:∃p,bK[n]?=ae p/\val=.ref p.1:=r.ref (P:=λval=>∃p,bK[n]?=ae p/\val=.ref p.1) e1 λp h=>⟨p,h,rfl⟩
  refine x.aZ.tup (R7 e3▸e2) hp1' λvs L R=>?_;rw[af0 e4]at R;obtain _ | ⟨ra,R⟩:=R
  obtain _ | ⟨rb,R⟩:=R
  cases R
  refine wpAny_assign_Tuple F.f_.handled L.tuple rfl rfl λh' he=>?_;have X2:St F au bK fr hp1 {s1 with heap:=h'}:=x.ext he (x.aZ.nF (cC _)) x.size x.aZ.nd;show bI _ _ (do holding _ (assign (.Name ni pi) F.env _);(do holding [] (assign (.Name nj pj) F.env _);pure ())) _ _ _;exact c8 (mE (Au (X2.store hi ra λs3 t3 _ x3=>c8 (mE (Au (x3.store hj rb λs4 t4 _ x4=>fl (jH (P:=λf fr' hp'=>fR F au ak s f fr' hp' .next s4) ev ⟨bK,l.trans ((cZ.up h' s1.toks).trans ⟨iI _,t3.trans t4⟩),rfl,x4⟩))))))))
noncomputable def Ll:js->Operator
 | .A=>.Add
 | _=>.Sub
theorem St.toks(x:St F au ak fr hp s)(t:Nat):St F au ak fr hp {s with toks:=t}:=⟨x.lq,x.e0,x.aZ,x.fr,x.off,x.i9,x.inj,x.ne⟩
theorem ae4{q:js}(h:bT g e c)(aU:mK g j nm):dP g (.AugAssign (.Name nm p') (Ll q) e pos) (.J j q c):=λF au ak fr hp s f fr' hp' x ev=>
 cz (agr.symm.trans ev) λx0 fk ev=>wpAny_AugAssign_Name (Pb F.c9 x.fr (λ_ _ e=>e) aU.1 (aU.2.imp_right .inl) (cz fk λa e1 e2=>e1.trans (congrArg ae e2)) λv0 r0=>h.qT x ev λval s1 v bK hp1 l x r1 ev=>cz ((p1 ..).symm.trans ev) λz ez ev=>cz ez λia ea ez=>cz ez λib eb ez=>by
  obtain⟨ta,rfl⟩:=r0.int (P:=λv=>∃t,v=.int ia t) ea λt=>⟨t,rfl⟩
  obtain⟨tb,rfl⟩:=r1.int (P:=λv=>∃t,v=.int ib t) eb λt=>⟨t,rfl⟩
  have fin:∀(n:Int)(tk:Nat)(t:Tok),ae (V.I n)=ae z->bI g.X.M F.A (storeName F.env nm (.int n t)) (λ_ s'=>fR F au ak s f fr' hp' .next s') No {s1 with toks:=tk}:=λn tk t e=>(x.toks tk).store aU (v:=z) (dE e▸⟨t,rfl⟩) λs2 t2 _ x2=>jH (P:=λf fr' hp'=>fR F au ak s f fr' hp' .next s2) ev ⟨bK,l.trans ((cZ.up s1.heap tk).trans ⟨iI _,t2⟩),rfl,x2⟩;cases q with
  | A=>exact wpAny_iadd_int (fin _ _ _ ez)
  | S=>exact PySem.P.isub_int (fin _ _ _ ez)
  | _=>exact no ez)
theorem abn{C D:Addr}(h:C∉adr ak)(n:D≠C):C∉adr (ak++[(D,D)]):=λm=>HA (P:=λa=>a=C->False) m (λi p e=>q5 e (λe=>⟨λq=>h (q▸qw e),λq=>h (q▸qx e)⟩) λ_ e=>e▸⟨λq=>n q,λq=>n q⟩) ab
theorem ae2(hc:jS g sc' xi nx)(he:bT (g.at sc') elt celt)(aC:o9 (g.at sc') ifs ccond)(hi:bT g iter cit)(hfold:Fold iter)(aU:g.names[j]?=ae nm)(a7:g.sc.names.lookup nm=ae .local)(hline:p'.line=pos.line)(hfree:(sc'.names.any λ(n,k)=>n==nm&&(k==.local||k==.cell))=aP):
 dP g (.Assign [.Name nm p'] (.ListComp elt [⟨.Name nx px,iter,ifs,0⟩] sc' pos) spos) (.A j (.J xi celt cit ccond)):=λF au ak fr hp s f fr' hp' x ev=>by
 have hsw:swapsWith (.ListComp elt [⟨.Name nx px,iter,ifs,0⟩] sc' pos) (ae (.Name nm p')) spos.line F.env=pure true:=by
  show pure (F.env.blockKind==.function&&F.env.kindOf nm==ae .local&&p'.line==pos.line&&!(sc'.names.any λ(n,k)=>n==nm&&(k==.local||k==.cell)))=_;rw[hfree,F.c9.bo nm _ a7,hline,show F.env.blockKind=.function by unfold Env.blockKind;rw[F.c9.kind];rfl,beq_self_eq_true pos.line];rfl
 unfold rB
 rw[exec_Assign_Name_used _ _ _ _ hsw]
 refine c8 (p7 (c8 ?_))
 show bI _ F.A (do let _<-comprehension (.ListComp elt [⟨.Name nx px,iter,ifs,0⟩] sc' pos) sc' F.env _ (newList []) aP (eval iter F.env) (ae (assign (.Name nm p') F.env))) _ _ s
 refine x.re λfs y st hfa back=>c8 (e_ (SK (use:=ae (assign (.Name nm p') F.env)) (Q:=λ_ s'=>fR F au ak s f fr' hp' .next s') ab (hfold F.env) (LH λx hx a7=>F.c9.cells _ (.inl (hc.frees x hx a7))) hc.kind hc.locs
  (Jz (K:=λxs n o h=>B (B (rM g celt ccond fr xi (λh=>decide (h[n]?=ae o)) xs [] h) λys h=>ae (gF h (.L ys))) λv h=>ae (dm.N,fr.set j (ae v),h)) hi y (by
   have ev:=Sr.symm.trans ev;refine AB ?_ ev;show _=B (B (aS g.P g.cl cit fr hp) _) _;rw[KI];refine congrArg (B _) (funext λv=>funext λh=>?_);cases v.gG with
   | none=>rfl
   | some n=>show xA h[n]? _=B (xA h[n]? _) _;cases h[n]? with
    | none=>rfl
    | some o=>show xA o.kf _=B (xA o.kf _) _;cases o.kf with
     | none=>rfl
     | some xs=>rfl) λxs n o xv s1 hp1 itr e=>e_ itr λi s2 src=>i4 e λv hpf e1 ev=>i4 e1 λys hpf' run e2=>?_)) λ_ s' hq=>fl (fl hq))
 refine LK (RR:=λacc C=>compPost g.X.M F.A No (ae (assign (.Name nm p') F.env)) (λ_ s'=>fR F au ak s f fr' hp' .next s') acc C) hc he aC y src run λD C s' a9 vals z hDC hD0 hC0 sys=>?_
 obtain⟨l,hx,vr,aL,⟨m,ns⟩,oH,nc⟩:=z
 cases e2
 have XA:St F au (a9++[(D,D)]) fr (hpf'++[.L ys]) s':=back _ _ s' (l.p.trans (kv _ _)) (Le hx aL vr oH hD0 sys)
 have nf:C∉iy F:=λm=>(hfa _ m).elim λ_ q=>no (hC0.symm.trans q)
 show bI _ F.A (assign (.Name nm p') F.env (.ref D)) _ _ _
 exact Au (XA.store (v:=.R hpf'.length) ⟨aU,.inl a7⟩ ⟨(D,D),uJ hx.len,ab⟩ λs3 t3 sb x3=>sb.elim λa z=>⟨m,ns.at' λo e=>z.2.extBut _ _ (λq=>nf (q▸z.1)) e,λh' hs'=>jH (P:=λf fr' hp'=>fR F au ak s f fr' hp' .next _) ev
  ⟨a9++[(D,D)],l.trans ⟨kv _ _,t3.trans (Ext.mk' _ _ _)⟩,ab,x3.ext hs'.extBut (abn nc hDC) nf (BK st hC0)⟩⟩)
end
noncomputable def qv:List (Str×Value)->List (Str×Value)->List (Str×Value)
 | slots,[]=>slots
 | slots,x::r=>qv (if (slots.lookup x.1).isNone=aB then slots++[(x.1,x.2)]else slots) r
theorem Es:∀(l slots:List (Str×Value)),(forIn l slots λx r=>if (q9 x.1 r).isNone=aB then pure (xq (r++[(x.1,x.2)]))else pure (xq r):Sem (List (Str×Value)))=pure (qv slots l)
 | [],slots=>rfl
 | x::r,slots=>by
  rw[Tx];unfold qv;by_cases h:(slots.lookup x.1).isNone=aB
  .rw[if_pos h,if_pos h,pure_bind];exact Es r _
  .rw[if_neg h,if_neg h,pure_bind];exact Es r _
theorem K_(n:Str):∀(l slots:List (Str×Value)),(qv slots l).lookup n=(slots.lookup n).or (l.lookup n)
 | [],slots=>by simp[qv]
 | x::r,slots=>by
  unfold qv;rw[K_ n r,gu];by_cases aU:n=x.1
  .subst aU;simp only[beq_self_eq_true];cases hs:slots.lookup x.1 with
   | none=>simp[Kf,hs]
   | some v=>simp[hs]
  .have hb:(n==x.1)=false:=by simpa using aU
   rw[hb];dsimp only;split
   .rw[Kf,gu,hb];simp
   .rfl
theorem De:∀{P:List Str}{L:List Value},P.Nodup->∀{i:Nat}{n:Str},P[i]?=ae n->(P.zip L).lookup n=L[i]?
 | [],_,_,i,n,h=>by simp at h
 | x::P,[],_,i,n,h=>by simp
 | x::P,v::L,hnd,i,n,h=>by
  rw[DV,gu];obtain⟨h1,aD⟩:=Ax.mp hnd;cases i with
  | zero=>simp at h;subst h;simp
  | succ i=>
   simp only[SM]at h⊢
   have:(n==x)=false:=by
    rw[beq_eq_false_iff_ne];rintro rfl;exact h1 (rm h)
   rw[this];exact De aD h
theorem N_{f:Str->Option Value}:∀{P:List Str}{W:List Value},P.length=W.length->(∀(i:Nat)(n:Str),P[i]?=ae n->f n=W[i]?)->(P.filterMap λn=>(f n).map λx=>(n,x))=P.zip W
 | [],[],_,_=>rfl
 | [],_::_,h,_=>by simp at h
 | _::_,[],h,_=>by simp at h
 | x::P,v::W,h,k=>by
  have h0:=k 0 x rfl;rw[List.filterMap_cons,h0];simp only[List.getElem?_cons_zero,Tz,DV];congr 1;exact N_ (by simpa using h) λi n e=>by simpa using k (i+1) n (by simpa using e)
theorem Sq{bg:Type}{M:Model}{A:Around}{Q:bg->Shared->Prop}{E:Value->Shared->Prop}{s:Shared}{c:Prop}[Decidable c]{a b:Sem bg}(h:¬c)(k:bI M A b Q E s):bI M A (if c then a else b) Q E s:=by rw[if_neg h];exact k
theorem W7{bg:Type}{D:List bg}{n:Nat}(h:D.length<=n):D.drop (D.length-n)=D:=by rw[Nat.sub_eq_zero_of_le h];rfl
theorem aaW{n m:Nat}(h:n<=m):¬(decide (n>m)&&aB)=true:=λq=>absurd (of_decide_eq_true (iL q).1) (mG.mpr h)
theorem aa4{P:List Str}{vals:List Value}{m:Nat}(hnd:P.Nodup)(h:P.length-m<=vals.length):(P.take (P.length-m)).filter (λn=>(q9 n (P.zip vals)).isNone)=[]:=by
 rw[J6];intro n aU q;obtain⟨i,hi⟩:=J_ aU;rw[S9]at hi;refine dZ hi λhlt hi=>?_;rw[De hnd hi,jn (Ap hlt h)]at q;exact nomatch q
theorem ZX{i p v d:Nat}(h:v<=i)(hd:d<=p)(hg:p<=v+d)(hv:v<=p):i-(p-d)=d-(p-v)+(i-v)/\p-d+(i-(p-d))=i:=by
 obtain⟨k,rfl⟩:=DQ h;obtain⟨m,rfl⟩:=DQ hv;obtain⟨q,rfl⟩:=DQ (SG hg);have hq:q<=v:=SG (xx v m▸hd);obtain⟨u,rfl⟩:=DQ hq;have e:q+u+m-(m+q)=u:=by rw[xx m q,Kg,rg]
 rw[e,rg,rg,rg,Kg,mD,xx u];exact⟨rfl,rfl⟩
theorem UL{P:List Str}{vals D:List Value}(hle:vals.length<=P.length)(hnd:P.Nodup)(hD:D.length<=P.length)(hge:P.length<=vals.length+D.length){i:Nat}{n:Str}(hi:P[i]?=ae n):
 (qv (P.zip vals) ((P.drop (P.length-D.length)).zip D)).lookup n=(vals++D.drop (D.length-(P.length-vals.length)))[i]?:=by
 rw[K_,De hnd hi]
 by_cases a7:i<vals.length
 .rw[gh a7,jn a7];rfl
 .have a7:=mG.mp a7;have z:=ZX a7 hD hge hle;rw[gI a7,DR a7,Option.none_or,S_,<-z.1];exact De (hnd.sublist (List.drop_sublist _ _)) (by rw[S_,z.2];exact hi)
theorem Lf{v d p:Nat}(h:p<=v+d)(hle:v<=p):p=v+(d-(d-(p-v))):=by
 rw[Nat.sub_sub_self (Nat.sub_le_iff_le_add'.mpr h),Nat.add_sub_of_le hle]
theorem UM{P:List Str}{vals D:List Value}(h:P.length<=vals.length+D.length)(hle:vals.length<=P.length)(hD:D.length<=P.length):P.length=(vals++D.drop (D.length-(P.length-vals.length))).length:=by
 rw[ba,To];exact Lf h hle
theorem V8{s:Shared}{fd:FuncData}{vals D:List Value}{P:List Str}(h1:fd.params.posonlyargs=[])(aD:fd.params.args.map (·.arg)=P)(h3:fd.params.vararg=az)(h4:fd.params.kwonlyargs=[])(h5:fd.params.kwarg=az)
 (hle:vals.length<=P.length) (hge:P.length<=vals.length+D.length) (hD:D.length<=P.length) (hnd:P.Nodup)
 (hd:∀(M:Model)(A:Around)(E:Value->Shared->Prop)(Q:Option (Array Value)->Shared->Prop),(∀o:Option (Array Value),(o.getD #[]).toList=D->Q o s)->bI M A (seqItems? fd.defaults) Q E s):
 BindsTo s fd ⟨vals,[]⟩ (P.zip (vals++D.drop (D.length-(P.length-vals.length)))):=by
 intro M A E Q hq
 obtain⟨nm,qn,⟨po,as,va,ko,aT,kw,df⟩,body,sc,gl,LF,dV,kV,doc,pm,ann,cd,ct,bi⟩:=fd
 obtain rfl:po=[]:=h1
 obtain rfl:va=none:=h3
 obtain rfl:ko=[]:=h4
 obtain rfl:kw=none:=h5
 obtain rfl:as.map (·.arg)=P:=aD
 unfold bindArgs
 refine c8 (m:=seqItems? dV) (hd _ _ _ _ λo c9=>?_)
 subst c9
 have miss:=aa4 (m:=(o.getD #[]).toList.length) hnd (Nat.sub_le_iff_le_add.mpr hge)
 have dl:=W7 hD
 refine Sq (c:=(decide (vals.length>(as.map (·.arg)).length)&&aB)=aB) (aaW hle) ?_
 refine Sq (c:=(!List.isEmpty (((as.map (·.arg)).take ((as.map (·.arg)).length-((o.getD #[]).toList.drop ((o.getD #[]).toList.length-(as.map (·.arg)).length)).length)).filter (λn=>(q9 n ((as.map (·.arg)).zip vals)).isNone)))=aB) ?_ ?_
 .rw[dl,miss];exact nP
 .refine c8 (m:=forIn (((as.map (·.arg)).drop ((as.map (·.arg)).length-((o.getD #[]).toList.drop ((o.getD #[]).toList.length-(as.map (·.arg)).length)).length)).zip ((o.getD #[]).toList.drop ((o.getD #[]).toList.length-(as.map (·.arg)).length))) ((as.map (·.arg)).zip vals) _) (T5 (Es _ _) ?_);rw[dl];show bI M A (pure ((as.map (λx:Arg=>x.arg)++[]).filterMap λn=>((qv _ _).lookup n).map λx=>(n,x))) Q E s;rw[iJ,N_ (UM hge hle hD) λi n hi=>UL hle hnd hD hge hi];exact fl hq
theorem Lv{ko:Str->Option NameKind}{y:Str}:∀(P:List Str)(L:List Value)(m:Str->Option Value),y∉P->bindL ko (P.zip L) m y=m y
 | [],L,m,_=>by cases L<;>rfl
 | z::P,[],m,_=>rfl
 | z::P,u::L,m,aU=>by
  refine(Lv P L (if ko z=ae .local then λy=>if y=z then ae u else m y else m) λq=>aU (.tail _ q)).trans ?_;split
  .exact if_neg λq:y=z=>aU (d_.mpr (.inl q))
  .rfl
theorem Lu{ko:Str->Option NameKind}{y:Str}{v:Value}(a7:ko y=ae .local):∀(P:List Str)(L:List Value)(m:Str->Option Value)(i:Nat),P.Nodup->P[i]?=ae y->L[i]?=ae v->bindL ko (P.zip L) m y=ae v
 | [],_,_,_,_,h,_=>no h
 | _::_,[],_,_,_,_,h=>no h
 | x::P,u::L,m,0,ag,h,g=>by
  obtain rfl:=dE h;obtain rfl:=dE g;refine(Lv P L _ (Ax.mp ag).1).trans ?_;rw[if_pos a7];exact if_pos rfl
 | x::P,u::L,m,i+1,ag,h,g=>Lu a7 P L _ i (Ax.mp ag).2 h g
theorem Ls{ko:Str->Option NameKind}{y:Str}:∀(P:List Str)(L:List Value)(m:Str->Option Value),y∉P->bindC ko (P.zip L) m y=m y
 | [],L,m,_=>by cases L<;>rfl
 | z::P,[],m,_=>rfl
 | z::P,u::L,m,aU=>by
  refine(Ls P L (if ko z=ae .local then m else λy=>if y=z then ae u else m y) λq=>aU (.tail _ q)).trans ?_;split
  .rfl
  .exact if_neg λq:y=z=>aU (d_.mpr (.inl q))
theorem Lr{ko:Str->Option NameKind}{y:Str}{v:Value}(a7:ko y≠ae .local):∀(P:List Str)(L:List Value)(m:Str->Option Value)(i:Nat),P.Nodup->P[i]?=ae y->L[i]?=ae v->bindC ko (P.zip L) m y=ae v
 | [],_,_,_,_,h,_=>no h
 | _::_,[],_,_,_,_,h=>no h
 | x::P,u::L,m,0,ag,h,g=>by
  obtain rfl:=dE h;obtain rfl:=dE g;refine(Ls P L _ (Ax.mp ag).1).trans ?_;rw[if_neg a7];exact if_pos rfl
 | x::P,u::L,m,i+1,ag,h,g=>Lr a7 P L _ i (Ax.mp ag).2 h g
theorem NF{d n:Nat}(h:d+4*(n+1)+10<900):d+1+4*n+10<900:=by lia
theorem Y4{g:G}{F:eO g}{a:Addr}{P:Addr->Prop}(m:a∈iy F)(k1:P F.env.locals)(k2:∀x c,g.sc.names.lookup x=ae .cell->F.env.cells.lookup x=ae c->P c):P a:=by
 cases m with
 | head=>exact k1
 | tail _ m=>
  obtain⟨n,_,e⟩:=S8.mp m;cases q:g.sc.names.lookup n with
  | none=>rw[q]at e;exact no e
  | some aT=>rw[q]at e;cases aT with
   | cell=>exact k2 n _ q e
   | _=>exact no e
theorem Sh{d n:Nat}(h:d+16*(n+1)+1000<9000):d+3+16*n+1000<9000/\d+1+16*n+1000<9000:=by lia
theorem ac3{d n:Nat}(h:d+4*(n+1)+10<900):d<recursionLimit:=fO (d8 (nQ d _) (nQ _ 10)) (Ap h (by decide))
theorem jP.deeper{A:Around}{n:Nat}{env:Env}(h:jP A (n+1)):jP (A.deeper env) n:=⟨h.handled,NF h.depth,(Sh h.units).1⟩
noncomputable def eO.aa5{g:G}{A:Around}{env:Env}(f_:jP A (g.n+1))(c9:o6 env g.sc):eO g:=⟨A.deeper env,env,f_.deeper,c9⟩
def xF(X:dC)(dV:Value)(gi:List V):Prop:=(dV=.none/\gi=[])\/∃(T:Addr)(ob:Obj)(items:Array Value)(n:Nat),dV=.ref T/\X.K.lookup T=ae ob/\ob.data=.seq items n/\di X [] gi items.toList
structure Ed(X:dC)(fd:FuncData)(fn:cE)(names:List Str):Prop where
 acF:fd.params.posonlyargs=[]
 args:fd.params.args.map (·.arg)=names.take fn.np
 vararg:fd.params.vararg=az
 aah:fd.params.kwonlyargs=[]
 kwarg:fd.params.kwarg=az
 glob:fd.globals=nW
 blt:fd.builtins=builtinsNs
 LF:fd.closure=[]
 kind:fd.scope.kind=.function
 gen:fd.scope.isGenerator=aP
 co:fd.scope.isCoroutine=aP
 code:codeIn X.K fd.code fd.qualname=aB
 np:fn.np<=names.length
 nodup:names.Nodup
 bo:∀x∈names.take fn.np,fd.scope.names.lookup x=ae .local\/fd.scope.names.lookup x=ae .cell
 F_:∀x,fd.scope.names.lookup x≠ae .free
 gi:xF X fd.defaults fn.gi
 W5:fn.gi.length<=fn.np
section
variable{X:dC}{P:gM}{ak:de}{au:Heap}{hp hp':H}{s:Shared}{A:Around}
theorem WU{fd:FuncData}{gi:List V}(XK:X.K.In s.heap)(h:xF X fd.defaults gi):∃D:List Value,di X [] gi D /\
 ∀(M:Model)(A:Around)(E:Value->Shared->Prop)(Q:Option (Array Value)->Shared->Prop),(∀o:Option (Array Value),(o.getD #[]).toList=D->Q o s)->bI M A (seqItems? fd.defaults) Q E s:=by
 rcases h with⟨h1,rfl⟩ | ⟨T,ob,items,n,h1,aD,hd,h3⟩
 .exact⟨[],.N,λM A E Q q=>by rw[h1];exact fl (q az rfl)⟩
 .exact⟨items.toList,h3,λM A E Q q=>by rw[h1];exact wpAny_seqItems (XK _ _ aD) hd (q _ rfl)⟩
theorem agi{d p v:Nat}(h:p<=v+d)(hle:v<=p):v+(d-(d-(p-v)))=p:=(Lf h hle).symm
def xH(X:dC)(au:Heap)(ak:de)(s:Shared)(v:V)(hp':H)(r:Result)(s':Shared):Prop:=∃val,r=.ok (.ret val)/\bx X au ak s v hp' val s'
theorem agj{f:Nat}{fn:cE}{fd:FuncData}{ob:Obj}{names:List Str}{body:List Stmt}{n:Nat}{cl:Nat->List V->H->Option (V×H)}{args:List V}{vals:List Value}{v:V}
 (c9:X.K.lookup f=ae ob) (hob:ob.data=.func fd) (hbody:fd.body=.stmts body) (Fd:Ed X fd fn names) (hS:jU ⟨X,P,cl,n,fd.scope,names⟩ body fn.body)
 (f_:jP A (n+1)) (hs:mM X au) (x:bG X ak au hp s.heap) (hv:di X ak args vals) (ev:((xR fn args).bind λfr=>kz (b3 P cl fn.body fr hp) λf _ h=>C9 f h)=ae (v,hp')):
 codeAny X.M A (.call (.ref f) ⟨vals,[]⟩) (xH X au ak s v hp') s:=by
 refine cz ev λfr eb ev=>AM ev λb8 fr' hp1 run er=>dZ eb λhb eb=>?_
 obtain⟨D,dv,hd⟩:=WU (hs.iz.keeps x.dN) Fd.gi
 obtain⟨p,loose,mg,mb,TT⟩:=hs.top
 have hP:(names.take fn.np).length=fn.np:=(Tj ..).trans (Tv Fd.np)
 have hnd:(names.take fn.np).Nodup:=Fd.nodup.sublist (List.take_sublist _ _)
 have hl1:=hv.length
 have hl2:=dv.length
 have hW:di X ak (args++fn.gi.drop (fn.gi.length-(fn.np-args.length))) (vals++D.drop (D.length-(fn.np-vals.length))):=by
  rw[hl1,hl2];exact hv.append ((dv.mono (a9:=ak) (List.nil_prefix)).drop _)
 have hWl:(args++fn.gi.drop (fn.gi.length-(fn.np-args.length))).length=fn.np:=by
  rw[ba,To];exact agi hb.2 hb.1
 have kI:=V8 (s:=s) (fd:=fd) (vals:=vals) (D:=D) (P:=names.take fn.np) Fd.acF Fd.args Fd.vararg Fd.aah Fd.kwarg (by rw[hP,hl1];exact hb.1) (by rw[hP,hl1,hl2];exact hb.2) (by rw[hP,hl2];exact Fd.W5) hnd hd
 rw[hP]at kI
 generalize vals++D.drop (D.length-(fn.np-vals.length))=W at hW kI
 generalize args++fn.gi.drop (fn.gi.length-(fn.np-args.length))=Y at hW hWl eb
 refine codeAny_call_function (ac3 f_.depth) (hs.iz.keeps x.dN _ _ c9) hob Fd.co Fd.gen hbody (codeRec_of (hs.iz.keeps x.dN) Fd.code) (kI _ _ _ _ ?_)
 rw[Fd.LF]
 refine wpAny_newFunctionEnv_cells Fd.kind (λy hy=>(Fd.bo _ (List.of_mem_zip hy).1).imp id λh=>⟨h,cellsFrom_some _ _ _ (.inl h)⟩) λenv he s' ic=>?_
 subst he
 have keep:=ic.toInCall.keep
 obtain⟨kQ,tk,hs',_⟩:=ic.done
 have ext:cZ ak s ak s':=⟨iI _,kQ,tk,hs'⟩
 have nf:=Fd.F_
 have ho':o6 (newEnv fd.scope s.heap.objs.size fd.globals (cellsFrom (s.heap.objs.size+1) fd.scope.names []) (fd.qualname++".<locals>.") (ae f) fd.code az fd.builtins) fd.scope:=
  ⟨Fd.kind,Fd.glob,Fd.blt,λy k a7=>(show _=ae k from a7).trans (congrArg ae (if_neg λq=>nf y (a7.trans (congrArg ae q))).symm),λy hy=>SI.mp (cellsFrom_some _ _ _ (.inl (hy.resolve_right (nf y))))⟩
 have hat:∀{i:Nat}{y:Str}{u:V},names[i]?=ae y->fr[i]?=ae (ae u)->(names.take fn.np)[i]?=ae y/\∃val,W[i]?=ae val/\cL X ak u val:=λ{i y u} h g=>by
  obtain rfl:=dE eb;by_cases hi:i<fn.np
  .rw[gh (by rw[cB,hWl];exact hi),jo]at g;exact⟨by rw[S9,if_pos hi];exact h,cz ((p1 ..).symm.trans g) λu' g e=>dE (dE e)▸hW.get g⟩
  .rw[gI (by rw[cB,hWl];exact mG.mp hi),List.getElem?_replicate]at g;exact dZ g λ_ g=>nomatch g
 have above:∀{y c},(cellsFrom (s.heap.objs.size+1) fd.scope.names []).lookup y=ae c->s.heap.objs.size<c:=λ{y c} e=>ic.above y c (mem_of_lookup e)
 have st:St (eO.aa5 (g:=⟨X,P,cl,n,fd.scope,names⟩) f_ ho') au ak fr hp s':=
  {lq:=⟨Fd.nodup,nf⟩
   e0:=hs
   aZ:=x.keeps (λb o e=>keep b o (x.dN b o e)) λb o _=>keep b o
   fr:=⟨⟨_,ic.toInCall.ns,λi y u a b c=>(hat a b).2.elim λval z=>⟨val,Lu c _ _ _ i hnd (hat a b).1 z.1,z.2⟩⟩,λi y u a b c=>have hc:=c.resolve_right (nf y);(ho'.cells y (.inl hc)).imp λc' e=>(hat a b).2.elim λval z=>
    ⟨val,e,Lr (ko:=λy=>fd.scope.names.lookup y) (λq=>nomatch hc.symm.trans q) _ _ (λ_=>az) i hnd (hat a b).1 z.1▸ic.cell y c' e,z.2⟩⟩
   off:=λa m=>Y4 (P:=λa=>a∉adr ak/\au.get? a=az/\∃o,s'.heap.get? a=ae o) m ⟨x.nF (cC _),x.nd,let ⟨o,_,_,z,_⟩:=ic.toInCall.ns;⟨o,z⟩⟩
    λy c _ e=>have lt:=nU (above e);⟨x.nF lt,x.fresh lt,(show ∃o,s'.heap.get? c=ae o/\_ from ic.cell y c e).imp λ_ z=>z.1⟩
   i9:=λy hy a7=>(ho'.cells y (.inl a7)).imp λc e=>⟨_,e,ic.cell y c e⟩
   inj:=λa b c h1 aD=>name_of_addr ic.apart (mem_of_lookup h1) (mem_of_lookup aD)
   ne:=λa c h1=>TR (above h1)}
 refine⟨(TT.nolimit.keeps x.dN).keeps keep,codeAny_func (weak (hS _ au ak _ hp s' b8 fr' hp1 st run) λfl2 s2 z=>z.elim λa9 z=>?_)⟩
 obtain⟨l,r',x'⟩:=z
 have l:=ext.trans l
 cases b8 with
 | N=>cases r';exact eJ (P:=λv hp'=>xH X au ak s v hp' _ s2) er ⟨.none,ab,a9,l,ab,x'.aZ⟩
 | R u=>obtain⟨val,rfl,r'⟩:=r';exact eJ (P:=λv hp'=>xH X au ak s v hp' _ s2) er ⟨val,rfl,a9,l,r',x'.aZ⟩
 | B=>exact no er
theorem aa8 (C:Addr) (rest:List Value):(TZ "type.__call__" ⟨.ref C::rest,[]⟩).weight=1:=by kernel_rfl
theorem aa7 (C:Addr) (rest:List Value):(TZ "type.__call__" ⟨.ref C::rest,[]⟩).cUnits=1:=by kernel_rfl
theorem jP.made {n:Nat} {C:Addr} {rest:List Value} (h:jP A (n+1)):jP (A.under (.builtin "type.__call__" ⟨.ref C::rest,[]⟩)) n:=
 ⟨h.handled,by show A.depth+(Code.weight _)+4*n+10<900;rw[aa8];exact NF h.depth,by show A.units+(Code.cUnits _)+16*n+1000<9000;rw[aa7];exact(Sh h.units).2⟩
structure Ek(K:Frag)(C i:Nat):Prop where
 makes:makesIn K C=aB
 init:findIn K (.ref C) "__init__"=ae (ae (.ref i))
 fn:typeIn K (.ref i)=ae (.type "function")
 mem:C∈pv.map (·.1)
 keep:keepIn K (.ref C)=aB
theorem agl{C i n:Nat}{args:List V}{vals:List Value}{v:V}{cl:Nat->List V->H->Option (V×H)}(M:Ek X.K C i)(CLn:n1 X n cl)(f_:jP A (n+1))(hs:mM X au)(x:bG X ak au hp s.heap)(hv:di X ak args vals)
 (ev:(B (cl i (.R hp.length::args) (hp++[.A C []])) λv h'=>Pj hp.length v h')=ae (v,hp')):codeAny X.M A (.call (.ref C) ⟨vals,[]⟩) (xH X au ak s v hp') s:=by
 refine i4 ev λu hp1 run ev=>?_
 cases u with
 | N=>
  refine eJ (P:=λv hp'=>codeAny X.M A (.call (.ref C) ⟨vals,[]⟩) (xH X au ak s v hp') s) ev ?_
  obtain⟨hh,g,d,t,os⟩:=s
  have XK:=hs.iz.keeps x.dN
  refine make_core (makes_of XK M.makes) (looks_findIn XK M.init) (λself=>bind_fn XK self M.fn) (.inl ab) ?_
  have h1:((hh.push emptyDict).push (instObj C hh.objs.size)).get? hh.objs.size=ae emptyDict:=rh _ (ro _ ab)
  have sz:(hh.push emptyDict).objs.size=hh.objs.size+1:=TF ..
  have aD:((hh.push emptyDict).push (instObj C hh.objs.size)).get? (hh.objs.size+1)=ae (instObj C hh.objs.size):=by rw[<- sz];exact ro _ rfl
  have y:=(x.push emptyDict).push (instObj C hh.objs.size)
  have x1:bG X (ak++[(hh.objs.size+1,hh.objs.size)]) au (hp++[.A C []]) ((hh.push emptyDict).push (instObj C hh.objs.size)):=
   x.adopt (p:=(hh.objs.size+1,hh.objs.size)) y.dN (λb o _ e=>rh _ (rh _ e)) (x.nF (fA _)) (x.nF (cC _)) (x.fresh (fA _)) x.nd (x.yc (fA _))
    ⟨_,_,aD,h1,Nat.succ_ne_self _,M.mem,ab,[],0,ab,(λ_ h=>nomatch h),cC _,λa nm _=>rfl⟩
  have hself:(ak++[(hh.objs.size+1,hh.objs.size)])[hp.length]?=ae (hh.objs.size+1,hh.objs.size):=uJ x.len
  refine codeAny_mono (CLn.run _ au _ _ ⟨(hh.push emptyDict).push (instObj C hh.objs.size),g,d,t,os⟩ i (.R hp.length::args) (.ref (hh.objs.size+1)::vals) .N hp1 f_.made hs x1 (.C ⟨_,hself,ab⟩ (hv.mono (kv _ _))) run) λr s' z=>?_
  obtain⟨val,rfl,a9,l,r',x'⟩:=z
  cases r'
  exact⟨ab,_,ab,a9,⟨(kv _ _).trans l.p,Ext.trans ⟨_,_,ab⟩ l.e⟩,⟨_,j4 l.p hself,ab⟩,x'⟩
 | _=>exact no ev
def FnAt(X:dC)(P:gM)(cl:Nat->List V->H->Option (V×H))(n f:Nat)(fn:cE):Prop:=∃ob fd names body,X.K.lookup f=ae ob/\ob.data=.func fd/\fd.body=.stmts body/\Ed X fd fn names/\jU ⟨X,P,cl,n,fd.scope,names⟩ body fn.body
structure KU(X:dC)(P:gM):Prop where
 fn:∀n cl,n1 X n cl->∀f fn,P.fn f=ae fn->FnAt X P cl n f fn
 cls:∀c i,P.cls c=ae i->Ek X.K c i
theorem Wh(O:KU X P)(k:Nat):n1 X k (aA P k):=by
 induction k with
 | zero=>exact⟨(λf args hp r e=>nomatch e),λA au ak hp s f args vals v hp' _ _ _ _ e=>nomatch e⟩
 | succ k ih=>
  refine⟨λf args hp r e=>?_,λA au ak hp s f args vals v hp' f_ hs x hv e=>?_⟩
  .cases hf:P.fn f with
   | some fn=>
    obtain⟨ob,fd,names,body,h1,aD,_⟩:=O.fn k _ ih f fn hf;obtain⟨oc,od,dt,sl⟩:=ob;obtain rfl:dt=.func fd:=aD;unfold keepIn;dsimp only;rw[h1]
   | none=>
    replace e:(match P.fn f with | some fn=>_ | none=>(P.cls f).bind _)=ae r:=e;rw[hf]at e;exact cz e λi hi _=>(O.cls f i hi).keep
  .cases hf:P.fn f with
   | some fn=>
    obtain⟨ob,fd,names,body,h1,aD,h3,h4,h5⟩:=O.fn k _ ih f fn hf;refine agj h1 aD h3 h4 h5 f_ hs x hv (AB ?_ e);show _=(match P.fn f with | some fn=>_ | none=>_);rw[hf]
   | none=>
    replace e:(match P.fn f with | some fn=>_ | none=>(P.cls f).bind _)=ae (v,hp'):=e;rw[hf]at e;exact cz e λi hi e=>agl (O.cls f i hi) ih f_ hs x hv e
end
abbrev bt(P:Prop):=Option (PLift P)
section
variable{P Q:Prop}{bg:Type}
noncomputable def cA(h:P):bt P:=ae ⟨h⟩
noncomputable def bt.on(x:bt P)(k:P->bt Q):bt Q:=x.bind λh=>k h.down
noncomputable def gR(b:Bool)(k:b=aB->bt Q):bt Q:=if h:b=aB then k h else az
noncomputable def fU[BEq bg][LawfulBEq bg](a b:bg)(k:a=b->bt Q):bt Q:=gR (a==b) λh=>k (beq_iff_eq.mp h)
noncomputable def ja[BEq bg][LawfulBEq bg]{R:bg->Prop}(a b:bg)(k:bt (R b)):bt (R a):=fU a b λh=>h▸k
noncomputable def orM(a:bt P)(b:bt Q):bt (P\/Q):=(a.map λh=>⟨.inl h.down⟩).orElse λ_=>b.map λh=>⟨.inr h.down⟩
noncomputable def j0{R:List bg->Prop}(l:List bg)(k:bt (R [])):bt (R l):=match l with | []=>k | _=>az
noncomputable def tf{R:List bg->Prop}(l:List bg)(k:∀x,bt (R [x])):bt (R l):=match l with | [x]=>k x | _=>az
noncomputable def wt{R:List bg->Prop}(l:List bg)(k:∀x y,bt (R [x,y])):bt (R l):=match l with | [x,y]=>k x y | _=>az
noncomputable def Q5{R:List bg->Prop}(l:List bg)(k:∀x y z,bt (R [x,y,z])):bt (R l):=match l with | [x,y,z]=>k x y z | _=>az
end
section
variable{R:Expr->Prop}(e:Expr)
noncomputable def jD(k:∀x p,bt (R (.Name x p))):bt (R e):=if h:e.ctorIdx=23 then ahX (motive_1:=λe=>bt (R e)) e h k else az
noncomputable def zP(k:∀o n p,bt (R (.Attribute o n p))):bt (R e):=if h:e.ctorIdx=20 then ahB (motive_1:=λe=>bt (R e)) e h k else az
noncomputable def zR(k:∀o i p,bt (R (.Subscript o i p))):bt (R e):=if h:e.ctorIdx=21 then ahC (motive_1:=λe=>bt (R e)) e h k else az
noncomputable def acd(k:∀l u s p,bt (R (.Slice l u s p))):bt (R e):=if h:e.ctorIdx=26 then ahR (motive_1:=λe=>bt (R e)) e h k else az
noncomputable def Q6(k:∀a o b p,bt (R (.BinOp a o b p))):bt (R e):=if h:e.ctorIdx=2 then ahS (motive_1:=λe=>bt (R e)) e h k else az
noncomputable def ab7(k:∀a o b p,bt (R (.Compare a o b p))):bt (R e):=if h:e.ctorIdx=15 then ahK (motive_1:=λe=>bt (R e)) e h k else az
noncomputable def HC(k:∀o l p,bt (R (.BoolOp o l p))):bt (R e):=if h:e.ctorIdx=0 then ahO (motive_1:=λe=>bt (R e)) e h k else az
noncomputable def HG(k:∀o x p,bt (R (.UnaryOp o x p))):bt (R e):=if h:e.ctorIdx=3 then ahL (motive_1:=λe=>bt (R e)) e h k else az
noncomputable def ab9(k:∀t a b p,bt (R (.IfExp t a b p))):bt (R e):=if h:e.ctorIdx=5 then ahT (motive_1:=λe=>bt (R e)) e h k else az
noncomputable def Q9(k:∀l n p,bt (R (.Tuple l n p))):bt (R e):=if h:e.ctorIdx=25 then ahU (motive_1:=λe=>bt (R e)) e h k else az
noncomputable def aca(k:∀l p,bt (R (.List l p))):bt (R e):=if h:e.ctorIdx=24 then ahY (motive_1:=λe=>bt (R e)) e h k else az
noncomputable def Q8(k:∀a b p,bt (R (.Dict a b p))):bt (R e):=if h:e.ctorIdx=6 then ahZ (motive_1:=λe=>bt (R e)) e h k else az
noncomputable def HD(k:∀f l w p,bt (R (.Call f l w p))):bt (R e):=if h:e.ctorIdx=16 then ah0 (motive_1:=λe=>bt (R e)) e h k else az
noncomputable def zQ(k:∀c n p,bt (R (.Constant c n p))):bt (R e):=if h:e.ctorIdx=19 then ahH (motive_1:=λe=>bt (R e)) e h k else az
noncomputable def Q7(k:∀l g s p,bt (R (.ListComp l g s p))):bt (R e):=if h:e.ctorIdx=8 then ahI (motive_1:=λe=>bt (R e)) e h k else az
def ace(k:∀l u p,bt (R (.Slice l u az p))):bt (R e):=acd e λl u s p=>match s with | none=>k l u p | some _=>az
def qQ(k:∀f l p,bt (R (.Call f l [] p))):bt (R e):=HD e λf l w p=>j0 (R:=λw=>R (.Call f l w p)) w (k f l p)
def HE(k:∀elt nx px it ifs sc p,bt (R (.ListComp elt [⟨.Name nx px,it,ifs,0⟩] sc p))):bt (R e):=Q7 e λelt g sc p=>tf (R:=λg=>R (.ListComp elt g sc p)) g λx=>match x with
 | ⟨t,it,ifs,q⟩=>ja (R:=λq=>R (.ListComp elt [⟨t,it,ifs,q⟩] sc p)) q 0 (jD (R:=λt=>R (.ListComp elt [⟨t,it,ifs,0⟩] sc p)) t λnx px=>k elt nx px it ifs sc p)
end
structure KV(e:Expr):Prop where
 star:g_ e
 sub:KX e
 fold:Fold e
structure Ur(e:Expr):Prop where
 aL:KV e
 swap:rE e
 UY:∀o n p,um (.Attribute o n p) e
 sub:∀o n p,um (.Subscript o n p) e
noncomputable def ur(e:Expr):bt (Ur e):=match e with
 | .Name .. | .Constant .. | .Attribute .. | .Subscript .. | .BinOp .. | .Compare .. | .BoolOp .. | .UnaryOp .. | .IfExp .. | .Tuple .. | .List .. | .Dict .. | .Call ..=>cA ⟨⟨λ_ _=>rfl,λ_ _=>rfl,λ_ _=>rfl⟩,λ_ _ _=>rfl,λ_ _ _ _=>rfl,λ_ _ _ _=>rfl⟩
 | _=>az
noncomputable def alt{P:Prop}(a b:bt P):bt P:=a.orElse λ_=>b
def km(e:Expr):bt (KV e):=alt ((ur e).on λh=>cA h.aL) (Q7 e λ_ _ _ _=>cA ⟨λ_ _=>rfl,λ_ _=>rfl,λ_ _=>rfl⟩)
def ED(e:Expr):bt (lP e):=alt (jD e λ_ _=>cA λ_ _ _=>rfl) (alt (zP e λ_ _ _=>cA λ_ _ _=>rfl) (alt (zR e λ_ _ _=>cA λ_ _ _=>rfl) (alt (zQ e λ_ _ _=>cA λ_ _ _=>rfl) (alt (Q6 e λ_ _ _ _=>cA λ_ _ _=>rfl)
 (HD e λf l w p=>match l with | []=>az | _::_=>jD (R:=λf=>lP (.Call f _ w p)) f λ_ _=>cA λ_ _ _=>rfl)))))
def Uy(e:Expr):Prop:=∀a b k p,um (.Tuple [a,b] k p) e
def UW(e:Expr):bt (Uy e):=alt (zR e λ_ _ _=>cA λ_ _ _ _ _=>rfl) (HD e λ_ _ _ _=>cA λ_ _ _ _ _=>rfl)
noncomputable def EL(c:ck)(v:V):bt (c=.C v):=if h:c.ctorIdx=1 then ck.C.elim (motive_1:=λc=>bt (c=.C v)) c h λw=>fU w v λe=>cA (congrArg _ e)else az
noncomputable def mU:List (Str×Value):=[("len",.builtin "len"),("list",.type "list"),("str",.type "str"),("isinstance",.builtin "isinstance"),("range",.type "range")]
theorem V_:(mU.all λy=>bootBuiltins y.1==ae y.2&&!(y.1==("__debug__":Str))&&y.1 != "__name__")=true:=by kernel_rfl
theorem Wa (y:Str×Value) (hy:y∈mU):bootBuiltins y.1=ae y.2/\(y.1==("__debug__":Str))=aP/\y.1≠"__name__":=
 have z:=iL (kx.mp V_ y hy)
 have w:=iL z.1
 ⟨beq_iff_eq.mp w.1,DW _▸w.2,bne_iff_ne.mp z.2⟩
structure p_(g:G):Prop where
 cl:n1 g.X g.n g.cl
 bn:∀y∈mU,nsIn g.X.K nW y.1=ae az
 r6:∀c a f nm,g.P.r6 c a=ae f->jv a=ae nm->findIn g.X.K (.ref c) nm=ae (ae (.ref f))/\typeIn g.X.K (.ref f)=ae (.type "function")/\keepIn g.X.K (.ref f)=aB
structure BT(g:G)(e:Expr)(c:ck):Prop where
 dQ:bT g e c
 st:ST g e c
theorem bv{g:G}{e:Expr}{c:ck}(h:bT g e c)(he:∀env whole,isTrue e env whole=(do let v<-whole;standAt e.pos;holding [v] (p8 v))):BT g e c:=⟨h,afm h he⟩
theorem yx{b:Bool}(h:(!b)=aB):b=false:=DW b▸h
section
variable{g:G}(k:p_ g)(sc:Scope)
def xS(y:Str×Value)(hy:y∈mU)(x:Str){R:Str->Prop}(kk:gy (g.at sc) y.1 y.2->bt (R y.1)):bt (R x):=
 ja x y.1 (fU (sc.names.lookup y.1) (ae .globalImplicit) λh=>have z:=Wa y hy;kk ⟨h,z.2.1,k.bn y hy,z.1,z.2.2⟩)
theorem ey:(("len",.builtin "len"):Str×Value)∈mU:=.head _
theorem bQ:(("list",.type "list"):Str×Value)∈mU:=.tail _ (.head _)
theorem kZ:(("str",.type "str"):Str×Value)∈mU:=.tail _ (.tail _ (.head _))
theorem U1:(("isinstance",.builtin "isinstance"):Str×Value)∈mU:=.tail _ (.tail _ (.tail _ (.head _)))
theorem Eu:(("range",.type "range"):Str×Value)∈mU:=.tail _ (.tail _ (.tail _ (.tail _ (.head _))))
noncomputable def aT(x:Str)(q:NameKind):bt (sc.names.lookup x=ae q):=fU _ _ cA
noncomputable def Pw (x:Str):bt ((x==("__debug__":Str))=aP):=gR (!(x==("__debug__":Str))) λh=>cA (yx h)
def af5(g:G)(e:Expr)(v:V):bt (BT g e (.C v)):=alt (zQ (R:=λe=>BT g e (.C v)) e λc n p=>match c with
 | .none=>fU V.N v λh=>cA (h▸bv aek λ_ _=>rfl)
 | .bool b=>fU (V.B b) v λh=>cA (h▸bv aei λ_ _=>rfl)
 | .int i=>fU (V.I i) v λh=>cA (h▸bv aej λ_ _=>rfl)
 | .str t=>fU (V.S t.cps.toList) v λh=>cA (h▸bv ael λ_ _=>rfl)
 | _=>az)
 (HG (R:=λe=>BT g e (.C v)) e λo x p=>ja (R:=λo=>BT g (.UnaryOp o x p) (.C v)) o .USub (zQ (R:=λx=>BT g (.UnaryOp .USub x p) (.C v)) x λc n q=>match c with
  | .int i=>fU (V.I (-i)) v λh=>cA (h▸bv aeA λ_ _=>rfl)
  | _=>az))
def Of(g:G)(x:Str)(p:Pos)(a:Nat):bt (bT g (.Name x p) (.C (.A a))):=
 (aT g.sc x .globalImplicit).on λh1=>(Pw x).on λaD=>fU (nsIn g.X.K nW x) (ae (ae (.ref a))) λh3=>cA (aeo h1 aD h3)
def WH(g:G)(v:V)(e:Expr):bt (BT g e (.C v)):=match v with
 | .A a=>jD (R:=λe=>BT g e (.C (.A a))) e λx p=>(Of g x p a).on λh=>cA (bv h λ_ _=>rfl)
 | v=>af5 g e v
def ER(g:G)(sc':Scope)(xi:Nat)(nx:Str):bt (jS g sc' xi nx):=
 fU sc'.kind .function λh1=>gR (sc'.names.all λy=>y.2 != .cell) λaD=>gR (sc'.names.all λy=>y.2 != .local||sc'.names.lookup y.1==ae .local) λh3=>(aT sc' nx .local).on λh4=>fU (g.names[xi]?) (ae nx) λh5=>
  gR ((nM g.names.length).all λi=>i==xi||!((g.names[i]?).any λy=>sc'.names.lookup y==ae .local)) λh6=>gR (sc'.names.all λy=>y.2 != .free||g.sc.names.lookup y.1==ae .cell) λh7=>cA
  ⟨h1,λy hy=>bne_iff_ne.mp (kx.mp aD y hy),λy hy e=>beq_iff_eq.mp ((DT.mp (kx.mp h3 y hy)).resolve_left λq=>bne_iff_ne.mp q e),h4,h5,
   λi y a b=>beq_iff_eq.mp ((DT.mp (kx.mp h6 i (xr.mpr (lh a)))).resolve_right λq=>by rw[a]at q;exact absurd (yx q) (by rw[show(ae y).any (λy=>sc'.names.lookup y==ae .local)=aB from beq_iff_eq.mpr b];nofun)),
   λy hy e=>beq_iff_eq.mp ((DT.mp (kx.mp h7 y hy)).resolve_left λq=>bne_iff_ne.mp q e)⟩
def JJ(g:G)(c:ck)(ih:∀e,bt (BT g e c))(ifs:List Expr):bt (o9 g ifs c):=match ifs with
 | []=>(EL c (.B aB)).on λh=>cA (h▸afD)
 | [t]=>(ih t).on λA=>cA (afE A.st)
 | _=>az
def RV(g:G)(c:ck)(ih:∀e,bt (BT g e c))(l:Option Expr):bt (xJ g l c):=match l with
 | none=>(EL c .N).on λh=>cA h
 | some e=>(ih e).on λA=>cA A.dQ
noncomputable def OJ:(ks:List (Option Expr))->(ns:List aw)->bt (n5 ks ns)
 | [],[]=>cA .N
 | some e::r,n::ns=>(OJ r ns).on λh=>zQ (R:=λe=>n5 (ae e::r) (n::ns)) e λc k p=>match c with
  | .str t=>ja (R:=λn=>n5 (ae (.Constant (.str t) k p)::r) (n::ns)) n t.cps.toList (cA (.C h))
  | _=>az
 | _,_=>az
noncomputable def O4(p q:Pos):bt (n6 p q):=gR (p.endLine==q.line) λh=>cA h
end
section
variable{g:G}(k:p_ g)
theorem aec{g:G}{e:Expr}:BT g e .V:=⟨λ_ _ _ _ _ _ _ _ _ h=>no h,λ_ _ _ _ _ _ _ _ _ h=>no h⟩
def yt{g:G}{c:ck}{co:ck}(ih:∀e,bt (BT g e co))(nm:Str){e:Expr}(kk:∀o ap es p,bT g o co->lP o->n6 ap p->bt (BT g (.Call (.Attribute o nm ap) es [] p) c)):bt (BT g e c):=
 qQ (R:=λe=>BT g e c) e λf es p=>zP (R:=λf=>BT g (.Call f es [] p) c) f λo n ap=>ja (R:=λn=>BT g (.Call (.Attribute o n ap) es [] p) c) n nm ((ih o).on λO=>(ED o).on λhb=>(O4 ap p).on λhl=>kk o ap es p O.dQ hb hl)
def Bm(sc:Scope){c:ck}(y:Str×Value)(hy:y∈mU){e:Expr}(kk:∀q es p,gy (g.at sc) y.1 y.2->bt (BT (g.at sc) (.Call (.Name y.1 q) es [] p) c)):bt (BT (g.at sc) e c):=
 qQ (R:=λe=>BT (g.at sc) e c) e λf es p=>jD (R:=λf=>BT (g.at sc) (.Call f es [] p) c) f λx q=>xS k sc y hy x (R:=λx=>BT (g.at sc) (.Call (.Name x q) es [] p) c) λb=>kk q es p b
def AU{g:G}{c ce:ck}{f:Expr}{p:Pos}(ih:∀e,bt (BT g e ce))(es:List Expr)(kk:∀a,bT g a ce->g_ a->BT g (.Call f [a] [] p) c):bt (BT g (.Call f es [] p) c):=
 tf (R:=λes=>BT g (.Call f es [] p) c) es λa=>(ih a).on λA=>(km a).on λq=>cA (kk a A.dQ q.star)
def KP(g:G)(c:ck):Type:=∀sc e,bt (BT (g.at sc) e c)
def i_(c:ck):KP g c:=
 @ck.rec (λc=>KP g c) (λcs=>∀sc l,bt (jQ (g.at sc) l cs))
  (λi sc e=>jD (R:=λe=>BT (g.at sc) e (.L i)) e λx p=>fU (g.names[i]?) (ae x) λh1=>(orM (aT sc x .local) (orM (aT sc x .cell) (aT sc x .free))).on λaD=>(Pw x).on λh3=>cA (bv (aew (g:=g.at sc) h1 aD h3) λ_ _=>rfl))
  (λv sc e=>WH (g.at sc) v e)
  (λc a ih sc e=>zP (R:=λe=>BT (g.at sc) e (.B c a)) e λo n p=>(ih sc o).on λO=>(ED o).on λhb=>gR (decide (a<30)) λh1=>fU (jv a) (ae n) λaD=>cA (bv (aeb O.dQ hb (of_decide_eq_true h1) aD) λ_ _=>rfl))
  (λc i ih ih2 sc e=>zR (R:=λe=>BT (g.at sc) e (.I c i)) e λo x p=>(ih sc o).on λO=>(ih2 sc x).on λX=>(km x).on λq=>cA (bv (aeq O.dQ X.dQ q.sub) λ_ _=>rfl))
  (λc l u ih ih2 ih3 sc e=>zR (R:=λe=>BT (g.at sc) e (.S c l u)) e λo x p=>ace (R:=λx=>BT (g.at sc) (.Subscript o x p) (.S c l u)) x λa b q=>(ih sc o).on λO=>(RV _ l (ih2 sc) a).on λA=>(RV _ u (ih3 sc) b).on λB=>cA (bv (aeF O.dQ A B) λ_ _=>rfl))
  (λo a b ih ih2 sc e=>Q6 (R:=λe=>BT (g.at sc) e (.F o a b)) e λx op y p=>ja (R:=λop=>BT (g.at sc) (.BinOp x op y p) (.F o a b)) op (HH o) ((ih sc x).on λA=>(ih2 sc y).on λB=>cA (bv (aed A.dQ B.dQ) λ_ _=>rfl)))
  (λo a b ih ih2 sc e=>ab7 (R:=λe=>BT (g.at sc) e (.A o a b)) e λx op l p=>ja (R:=λop=>BT (g.at sc) (.Compare x op l p) (.A o a b)) op [qC o] (tf (R:=λl=>BT (g.at sc) (.Compare x [qC o] l p) (.A o a b)) l λy=>(ih sc x).on λA=>(ih2 sc y).on λB=>gR (!behindInMarks (qC o) y) λh=>cA ⟨aef A.dQ B.dQ (yx h),afg A.dQ B.dQ (yx h)⟩))
  (λa b ih ih2 sc e=>HC (R:=λe=>BT (g.at sc) e (.G a b)) e λo l p=>ja (R:=λo=>BT (g.at sc) (.BoolOp o l p) (.G a b)) o .And (wt (R:=λl=>BT (g.at sc) (.BoolOp .And l p) (.G a b)) l λx y=>(ih sc x).on λA=>(ih2 sc y).on λB=>cA ⟨Jq (Jn A.dQ (Jo B.dQ)),JC (JG A.st (JH B.st))⟩))
  (λa b c ih ih2 ih3 sc e=>HC (R:=λe=>BT (g.at sc) e (.W a b c)) e λo l p=>ja (R:=λo=>BT (g.at sc) (.BoolOp o l p) (.W a b c)) o .And (Q5 (R:=λl=>BT (g.at sc) (.BoolOp .And l p) (.W a b c)) l λx y z=>(ih sc x).on λA=>(ih2 sc y).on λB=>(ih3 sc z).on λC=>cA ⟨Jq (Jn A.dQ (Jn B.dQ (Jo C.dQ))),JC (JG A.st (JG B.st (JH C.st)))⟩))
  (λa b ih ih2 sc e=>HC (R:=λe=>BT (g.at sc) e (.O a b)) e λo l p=>ja (R:=λo=>BT (g.at sc) (.BoolOp o l p) (.O a b)) o .Or (wt (R:=λl=>BT (g.at sc) (.BoolOp .Or l p) (.O a b)) l λx y=>(ih sc x).on λA=>(ih2 sc y).on λB=>cA ⟨Jq (ad0 A.dQ (Jo B.dQ)),JC (afv A.st (JH B.st))⟩))
  (λa ih sc e=>HG (R:=λe=>BT (g.at sc) e (.N a)) e λo x p=>ja (R:=λo=>BT (g.at sc) (.UnaryOp o x p) (.N a)) o .Not ((ih sc x).on λA=>cA ⟨aeB A.dQ,afj A.st⟩))
  (λt a b ih ih2 ih3 sc e=>ab9 (R:=λe=>BT (g.at sc) e (.R t a b)) e λx y z p=>(ih sc x).on λT=>(ih2 sc y).on λA=>(ih3 sc z).on λB=>cA ⟨aeu T.st A.dQ B.dQ,afh T.st A.st B.st⟩)
  (λxi elt it cond ih ih2 ih3 sc e=>HE (R:=λe=>BT (g.at sc) e (.J xi elt it cond)) e λx nx px i ifs sc' p=>(ER (g.at sc) sc' xi nx).on λC=>(ih sc' x).on λE=>(JJ _ cond (ih3 sc') ifs).on λT=>(ih2 sc i).on λI=>(km i).on λq=>cA (bv (aeg C E.dQ T I.dQ q.fold) λ_ _=>rfl))
  (λxi elt n cond ih ih2 ih3 sc e=>HE (R:=λe=>BT (g.at sc) e (.X xi elt n cond)) e λx nx px i ifs sc' p=>(ER (g.at sc) sc' xi nx).on λC=>(ih sc' x).on λE=>(JJ _ cond (ih3 sc') ifs).on λT=>qQ (R:=λi=>BT (g.at sc) (.ListComp x [⟨.Name nx px,i,ifs,0⟩] sc' p) (.X xi elt n cond)) i λf es q=>jD (R:=λf=>BT (g.at sc) (.ListComp x [⟨.Name nx px,.Call f es [] q,ifs,0⟩] sc' p) (.X xi elt n cond)) f λy r=>
   xS k sc _ Eu y (R:=λy=>BT (g.at sc) (.ListComp x [⟨.Name nx px,.Call (.Name y r) es [] q,ifs,0⟩] sc' p) (.X xi elt n cond)) λb=>tf (R:=λes=>BT (g.at sc) (.ListComp x [⟨.Name nx px,.Call (.Name "range" r) es [] q,ifs,0⟩] sc' p) (.X xi elt n cond)) es λa=>(ih2 sc a).on λA=>(km a).on λz=>cA (bv (aeh C E.dQ T b A.dQ z.star) λ_ _=>rfl))
  (λes ih sc e=>Q9 (R:=λe=>BT (g.at sc) e (.T es)) e λl n p=>(ih sc l).on λA=>cA (bv (aeI A.Jr) λ_ _=>rfl))
  (λes ih sc e=>aca (R:=λe=>BT (g.at sc) e (.E es)) e λl p=>(ih sc l).on λA=>cA (bv (aex A.Jr) λ_ _=>rfl))
  (λks es ih sc e=>Q8 (R:=λe=>BT (g.at sc) e (.Q ks es)) e λa b p=>alt (j0 (R:=λa=>BT (g.at sc) (.Dict a b p) (.Q ks es)) a (j0 (R:=λb=>BT (g.at sc) (.Dict [] b p) (.Q ks es)) b (j0 (R:=λks=>BT (g.at sc) (.Dict [] [] p) (.Q ks es)) ks (if h:es.ctorIdx=0 then hJ.N.elim (motive_2:=λes=>bt (BT (g.at sc) (.Dict [] [] p) (.Q [] es))) es h (cA (bv aeE λ_ _=>rfl))else az))))
   ((OJ a ks).on λh1=>gR (decide ks.Nodup) λaD=>(ih sc b).on λA=>fU a.length b.length λh3=>gR (decide (0<b.length)) λh4=>gR (decide (b.length<=15)) λh5=>cA (bv (aem h1 (of_decide_eq_true aD) A h3 (of_decide_eq_true h4) (of_decide_eq_true h5)) λ_ _=>rfl)))
  (λsc e=>Q8 (R:=λe=>BT (g.at sc) e (.Z)) e λa b p=>j0 (R:=λa=>BT (g.at sc) (.Dict a b p) .Z) a (j0 (R:=λb=>BT (g.at sc) (.Dict [] b p) .Z) b (cA (bv aep λ_ _=>rfl))))
  (λf es ih ih2 sc e=>qQ (R:=λe=>BT (g.at sc) e (.D f es)) e λx l p=>jD (R:=λx=>BT (g.at sc) (.Call x l [] p) (.D f es)) x λy q=>(ih sc (.Name y q)).on λF=>(ih2 sc l).on λA=>cA (bv (aee k.cl F.dQ A) λ_ _=>rfl))
  (λc a es ih ih2 sc e=>qQ (R:=λe=>BT (g.at sc) e (.M c a es)) e λf l p=>zP (R:=λf=>BT (g.at sc) (.Call f l [] p) (.M c a es)) f λo n ap=>(ih sc o).on λO=>(ED o).on λhb=>(ih2 sc l).on λA=>(O4 ap p).on λhl=>gR (decide (l.length<30)) λh1=>fU (jv a) (ae n) λaD=>
   cA (bv (aez k.cl O.dQ hb A hl (of_decide_eq_true h1) ⟨aD,λc f h=>k.r6 c a f n h aD⟩) λ_ _=>rfl))
  (λl x ih ih2 sc e=>yt (ih sc) "append" λo ap es p O hb hl=>tf (R:=λes=>BT (g.at sc) (.Call (.Attribute o _ ap) es [] p) (.H l x)) es λa=>(ih2 sc a).on λA=>(km a).on λq=>cA (bv (aea O A.dQ hb q.star hl) λ_ _=>rfl))
  (λl ih sc e=>yt (ih sc) "pop" λo ap es p O hb hl=>j0 (R:=λes=>BT (g.at sc) (.Call (.Attribute o _ ap) es [] p) (.U l)) es (cA (bv (aeC O hb hl) λ_ _=>rfl)))
  (λl i x ih ih2 ih3 sc e=>yt (ih sc) "insert" λo ap es p O hb hl=>wt (R:=λes=>BT (g.at sc) (.Call (.Attribute o _ ap) es [] p) (.ins l i x)) es λa b=>(ih2 sc a).on λA=>(km a).on λq=>(ih3 sc b).on λB=>(km b).on λcT=>cA (bv (aer O A.dQ B.dQ hb q.star cT.star hl) λ_ _=>rfl))
  (λl i x ih ih2 ih3 sc e=>yt (ih sc) "get" λo ap es p O hb hl=>wt (R:=λes=>BT (g.at sc) (.Call (.Attribute o _ ap) es [] p) (.rO l i x)) es λa b=>(ih2 sc a).on λA=>(km a).on λq=>(ih3 sc b).on λB=>(km b).on λcT=>cA (bv (aen O A.dQ B.dQ hb q.star cT.star hl) λ_ _=>rfl))
  (λl ih sc e=>yt (ih sc) "split" λo ap es p O hb hl=>j0 (R:=λes=>BT (g.at sc) (.Call (.Attribute o _ ap) es [] p) (.Y l)) es (cA (bv (aeG O hb hl) λ_ _=>rfl)))
  (λc ih sc e=>Bm k sc _ ey λq es p b=>AU (ih sc) es λa A st=>bv (aev b A st) λ_ _=>rfl)
  (λc ih sc e=>Bm k sc _ bQ λq es p b=>AU (ih sc) es λa A st=>bv (aey b A st) λ_ _=>rfl)
  (λc ih sc e=>Bm k sc _ kZ λq es p b=>AU (ih sc) es λa A st=>bv (aeH b A st) λ_ _=>rfl)
  (λc ih sc e=>Bm k sc _ U1 λq es p b=>wt (R:=λes=>BT (g.at sc) (.Call (.Name _ q) es [] p) (.qK c)) es λx y=>(ih sc x).on λA=>(km x).on λz=>jD (R:=λy=>BT (g.at sc) (.Call (.Name _ q) [x,y] [] p) (.qK c)) y λt r=>xS k sc _ kZ t (R:=λt=>BT (g.at sc) (.Call (.Name _ q) [x,.Name t r] [] p) (.qK c)) λb'=>cA (bv (aet b b' A.dQ z.star) λ_ _=>rfl))
  (λc ih sc e=>(ih sc e).on λA=>cA ⟨aeD A.dQ,afk A.st⟩)
  (λf c ih sc e=>qQ (R:=λe=>BT (g.at sc) e (.iso f c)) e λx es p=>jD (R:=λx=>BT (g.at sc) (.Call x es [] p) (.iso f c)) x λy q=>(Of (g.at sc) y q f).on λF=>AU (ih sc) es λa A st=>bv (aes k.cl F A st) λ_ _=>rfl)
  (λsc e=>cA aec)
  (λsc l=>j0 (R:=λl=>jQ (g.at sc) l .N) l (cA .N))
  (λc cs ih ih2 sc l=>match l with
   | []=>az
   | e::es=>(ih sc e).on λA=>(km e).on λq=>(ih2 sc es).on λB=>cA (.C A.dQ q.star B))
  c
end
section
variable{R:Stmt->Prop}(s:Stmt)
noncomputable def ab8(k:∀e p,bt (R (.Expr e p))):bt (R s):=if h:s.ctorIdx=24 then ah1 (motive_2:=λs=>bt (R s)) s h k else az
noncomputable def acb(k:∀e p,bt (R (.Return e p))):bt (R s):=if h:s.ctorIdx=3 then ahP (motive_2:=λs=>bt (R s)) s h k else az
noncomputable def C7(k:∀t e p,bt (R (.Assign [t] e p))):bt (R s):=if h:s.ctorIdx=5 then ahQ (motive_2:=λs=>bt (R s)) s h λff e p=>tf (R:=λff=>R (.Assign ff e p)) ff λt=>k t e p else az
noncomputable def ab5(k:∀t o e p,bt (R (.AugAssign t o e p))):bt (R s):=if h:s.ctorIdx=7 then ahD (motive_2:=λs=>bt (R s)) s h k else az
noncomputable def ab_(k:∀t a b p,bt (R (.If t a b p))):bt (R s):=if h:s.ctorIdx=12 then Stmt.If.elim (motive_2:=λs=>bt (R s)) s h k else az
noncomputable def acf(k:∀t a p,bt (R (.While t a [] p))):bt (R s):=if h:s.ctorIdx=11 then ahV (motive_2:=λs=>bt (R s)) s h λt a b p=>j0 (R:=λb=>R (.While t a b p)) b (k t a p)else az
def HF(k:∀x q i a p,bt (R (.For (.Name x q) i a [] p))):bt (R s):=if h:s.ctorIdx=9 then ah5 (motive_2:=λs=>bt (R s)) s h λt i a b p=>j0 (R:=λb=>R (.For t i a b p)) b (jD (R:=λt=>R (.For t i a [] p)) t λx q=>k x q i a p)else az
noncomputable def ab6(k:∀p,bt (R (.Break p))):bt (R s):=if h:s.ctorIdx=26 then ahW (motive_2:=λs=>bt (R s)) s h k else az
end
def Py{R:Expr->Prop}(e:Expr)(k:∀n p q,bt (R (.UnaryOp .USub (.Constant (.int 1) n p) q))):bt (R e):=
 HG e λo x q=>ja (R:=λo=>R (.UnaryOp o x q)) o .USub (zQ (R:=λx=>R (.UnaryOp .USub x q)) x λc n p=>match c with
  | .int i=>ja (R:=λi=>R (.UnaryOp .USub (.Constant (.int i) n p) q)) i 1 (k n p q)
  | _=>az)
section
variable{g:G}(k:p_ g)(sc:Scope)
def r8(i:Nat)(x:Str):bt (mK (g.at sc) i x):=fU (g.names[i]?) (ae x) λh=>(orM (aT sc x .local) (aT sc x .cell)).on λaD=>cA ⟨h,aD⟩
def UA(i:Nat)(x:Str)(q p:Pos)(v:Expr)(c:ck):bt (dP (g.at sc) (.Assign [.Name x q] v p) (.A i c)):=
 if h:c.ctorIdx=12 then ck.J.elim (motive_1:=λc=>bt (dP (g.at sc) (.Assign [.Name x q] v p) (.A i c))) c h λxi elt it cond=>HE (R:=λv=>dP (g.at sc) (.Assign [.Name x q] v p) (.A i (.J xi elt it cond))) v λe nx px iter ifs sc' r=>
  (ER (g.at sc) sc' xi nx).on λC=>(i_ k elt sc' e).on λE=>(JJ _ cond (i_ k cond sc') ifs).on λT=>(i_ k it sc iter).on λI=>(km iter).on λz=>fU (g.names[i]?) (ae x) λh1=>(aT sc x .local).on λaD=>fU q.line r.line λh3=>
   gR (!(sc'.names.any λ(n,k)=>n==x&&(k==.local||k==.cell))) λh4=>cA (ae2 C E.dQ T I.dQ z.fold h1 aD h3 (yx h4))else az
def Wj(c:bN):∀l,bt (jU (g.at sc) l c):=
 @bN.rec (λc=>∀s,bt (dP (g.at sc) s c)) (λcs=>∀l,bt (jU (g.at sc) l cs))
  (λc s=>ab8 (R:=λs=>dP (g.at sc) s (.E c)) s λe p=>(i_ k c sc e).on λA=>(ur e).on λq=>cA (ae5 A.dQ q.swap))
  (λi c s=>C7 (R:=λs=>dP (g.at sc) s (.A i c)) s λt e p=>jD (R:=λt=>dP (g.at sc) (.Assign [t] e p) (.A i c)) t λx q=>alt ((ur e).on λz=>(i_ k c sc e).on λA=>(r8 sc i x).on λh=>cA (ae1 A.dQ z.swap h)) (UA k sc i x q p e c))
  (λo a c s=>C7 (R:=λs=>dP (g.at sc) s (.B o a c)) s λt e p=>zP (R:=λt=>dP (g.at sc) (.Assign [t] e p) (.B o a c)) t λx n q=>(i_ k c sc e).on λA=>(i_ k o sc x).on λB=>(ur e).on λz=>gR (decide (a<30)) λh1=>fU (jv a) (ae n) λaD=>cA (aeZ A.dQ B.dQ z.swap (z.UY _ _ _) (of_decide_eq_true h1) aD))
  (λo i c s=>C7 (R:=λs=>dP (g.at sc) s (.C o i c)) s λt e p=>zR (R:=λt=>dP (g.at sc) (.Assign [t] e p) (.C o i c)) t λx y q=>(i_ k c sc e).on λA=>(i_ k o sc x).on λB=>(i_ k i sc y).on λC=>(ur e).on λz=>cA (ae0 A.dQ B.dQ C.dQ z.swap (z.sub _ _ _)))
  (λi j c s=>C7 (R:=λs=>dP (g.at sc) s (.D i j c)) s λt e p=>Q9 (R:=λt=>dP (g.at sc) (.Assign [t] e p) (.D i j c)) t λl n q=>wt (R:=λl=>dP (g.at sc) (.Assign [.Tuple l n q] e p) (.D i j c)) l λa b=>jD (R:=λa=>dP (g.at sc) (.Assign [.Tuple [a,b] n q] e p) (.D i j c)) a λx px=>jD (R:=λb=>dP (g.at sc) (.Assign [.Tuple [.Name x px,b] n q] e p) (.D i j c)) b λy py=>
   (i_ k c sc e).on λA=>(ur e).on λz=>(UW e).on λw=>(r8 sc i x).on λh1=>(r8 sc j y).on λaD=>cA (ae3 A.dQ z.swap (w _ _ _ _) h1 aD))
  (λi o c s=>ab5 (R:=λs=>dP (g.at sc) s (.J i o c)) s λt op e p=>jD (R:=λt=>dP (g.at sc) (.AugAssign t op e p) (.J i o c)) t λx q=>ja (R:=λop=>dP (g.at sc) (.AugAssign (.Name x q) op e p) (.J i o c)) op (Ll o) ((i_ k c sc e).on λA=>(r8 sc i x).on λh=>cA (ae4 A.dQ h)))
  (λt a b ih ih2 s=>ab_ (R:=λs=>dP (g.at sc) s (.I t a b)) s λe x y p=>(i_ k t sc e).on λA=>(ih x).on λB=>(ih2 y).on λC=>cA (ae9 A.st B C))
  (λt b ih s=>acf (R:=λs=>dP (g.at sc) s (.W t b)) s λe x p=>(i_ k t sc e).on λA=>(ih x).on λB=>cA (afb A.st B))
  (λi c b ih s=>HF (R:=λs=>dP (g.at sc) s (.F i c b)) s λx q e y p=>(i_ k c sc e).on λA=>(ih y).on λB=>(r8 sc i x).on λh=>(km e).on λz=>cA (ae8 A.dQ B h z.fold))
  (λi c b ih s=>HF (R:=λs=>dP (g.at sc) s (.G i c b)) s λx q e y p=>qQ (R:=λe=>dP (g.at sc) (.For (.Name x q) e y [] p) (.G i c b)) e λf es r=>jD (R:=λf=>dP (g.at sc) (.For (.Name x q) (.Call f es [] r) y [] p) (.G i c b)) f λu v=>xS k sc _ Eu u (R:=λu=>dP (g.at sc) (.For (.Name x q) (.Call (.Name u v) es [] r) y [] p) (.G i c b)) λbn=>
   tf (R:=λes=>dP (g.at sc) (.For (.Name x q) (.Call (.Name _ v) es [] r) y [] p) (.G i c b)) es λa=>(i_ k c sc a).on λA=>(km a).on λz=>(ih y).on λB=>(r8 sc i x).on λh=>cA (ae6 bn A.dQ z.star B h))
  (λi c b ih s=>HF (R:=λs=>dP (g.at sc) s (.H i c b)) s λx q e y p=>qQ (R:=λe=>dP (g.at sc) (.For (.Name x q) e y [] p) (.H i c b)) e λf es r=>jD (R:=λf=>dP (g.at sc) (.For (.Name x q) (.Call f es [] r) y [] p) (.H i c b)) f λu v=>xS k sc _ Eu u (R:=λu=>dP (g.at sc) (.For (.Name x q) (.Call (.Name u v) es [] r) y [] p) (.H i c b)) λbn=>
   Q5 (R:=λes=>dP (g.at sc) (.For (.Name x q) (.Call (.Name _ v) es [] r) y [] p) (.H i c b)) es λa jC m2=>Py (R:=λjC=>dP (g.at sc) (.For (.Name x q) (.Call (.Name _ v) [a,jC,m2] [] r) y [] p) (.H i c b)) jC λgb iU d4=>Py (R:=λm2=>dP (g.at sc) (.For (.Name x q) (.Call (.Name _ v) [a,.UnaryOp .USub (.Constant (.int 1) gb iU) d4,m2] [] r) y [] p) (.H i c b)) m2 λn2 jg cT=>
    (i_ k c sc a).on λA=>(km a).on λz=>(ih y).on λB=>(r8 sc i x).on λh=>cA (ae7 bn A.dQ z.star B h))
  (λc s=>acb (R:=λs=>dP (g.at sc) s (.R c)) s λr p=>match r with
   | some e=>(i_ k c sc e).on λA=>cA (ae_ A.dQ)
   | none=>(EL c .N).on λh=>cA (h▸afa))
  (λs=>ab6 (R:=λs=>dP (g.at sc) s .L) s λp=>cA xa)
  (λs=>cA λ_ _ _ _ _ _ _ _ _ _ h=>no h)
  (λl=>j0 (R:=λl=>jU (g.at sc) l .N) l (cA afd))
  (λc cs ih ih2 l=>match l with
   | []=>az
   | s::ss=>(ih s).on λA=>(ih2 ss).on λB=>cA (afc A B))
  c
end
noncomputable def afP (o:Obj):bt (o={cls:=.type "tuple",data:=.seq #[]}):=match o with
 | ⟨c,d,dt,⟨sl⟩⟩=>ja (R:=λc=>(⟨c,d,dt,⟨sl⟩⟩:Obj)=_) c (.type "tuple") (match d with
  | some _=>az
  | none=>if h:dt.ctorIdx=2 then ah6 (motive:=λdt=>bt ((⟨.type "tuple",az,dt,⟨sl⟩⟩:Obj)=_)) dt h λxs n=>match xs with
   | ⟨xs⟩=>ja (R:=λn=>(⟨.type "tuple",az,.seq ⟨xs⟩ n,⟨sl⟩⟩:Obj)=_) n 0 (j0 (R:=λxs=>(⟨.type "tuple",az,.seq ⟨xs⟩ 0,⟨sl⟩⟩:Obj)=_) xs (j0 (R:=λsl=>(⟨.type "tuple",az,.seq ⟨[]⟩ 0,⟨sl⟩⟩:Obj)=_) sl (cA ab)))else az)
section
variable(X:dC)
def af4(x:V)(v:Value):bt (cL X [] x v):=match x with
 | .B b=>fU v (.bool b) λh=>cA h
 | .I i=>if h:v.ctorIdx=4 then ah2 (motive:=λv=>bt (cL X [] (.I i) v)) v h λj t=>ja (R:=λj=>cL X [] (.I i) (.int j t)) j i (cA ⟨t,ab⟩)else az
 | .S s=>if h:v.ctorIdx=6 then ah3 (motive:=λv=>bt (cL X [] (.S s) v)) v h λj t=>ja (R:=λj=>cL X [] (.S s) (.str j t)) j (gV s) (cA ⟨t,ab⟩)else az
 | .T=>if h:v.ctorIdx=10 then TG (motive:=λv=>bt (cL X [] .T v)) v h λa=>match e:X.K.lookup a with
  | some o=>(afP o).on λh=>cA ⟨a,ab,e.trans (congrArg ae h)⟩
  | none=>az else az
 | _=>az
noncomputable def Sl:(xs:List V)->(vs:List Value)->bt (di X [] xs vs)
 | [],[]=>cA .N
 | x::xs,v::vs=>(af4 X x v).on λA=>(Sl xs vs).on λB=>cA (.C A B)
 | _,_=>az
def WT(dV:Value)(gi:List V):bt (xF X dV gi):=alt (fU dV .none λh=>j0 (R:=λl=>xF X dV l) gi (cA (.inl ⟨h,ab⟩)))
 (if h:dV.ctorIdx=10 then TG (motive:=λv=>bt (xF X v gi)) dV h λa=>match e:X.K.lookup a with
  | some ob=>match e2:ob.data with
   | .seq items n=>(Sl X gi items.toList).on λA=>cA (.inr ⟨a,ob,items,n,ab,e,e2,A⟩)
   | _=>az
  | none=>az else az)
noncomputable def F5{bg:Type}(l:List bg):bt (l=[]):=j0 (R:=λl=>l=[]) l (cA ab)
noncomputable def PE{bg:Type}(o:Option bg):bt (o=az):=match o with | none=>cA rfl | some _=>az
def Y5(fd:FuncData)(fn:cE)(names:List Str):bt (Ed X fd fn names):=
 (F5 fd.params.posonlyargs).on λh1=>fU (fd.params.args.map (·.arg)) (names.take fn.np) λaD=>(PE fd.params.vararg).on λh3=>(F5 fd.params.kwonlyargs).on λh4=>(PE fd.params.kwarg).on λh5=>fU fd.globals nW λh6=>fU fd.builtins builtinsNs λh7=>(F5 fd.closure).on λh8=>
 fU fd.scope.kind .function λh9=>fU fd.scope.isGenerator aP λh10=>fU fd.scope.isCoroutine aP λh11=>gR (codeIn X.K fd.code fd.qualname) λh12=>gR (decide (fn.np<=names.length)) λh13=>gR (decide names.Nodup) λh14=>gR ((names.take fn.np).all λx=>fd.scope.names.lookup x==ae .local||fd.scope.names.lookup x==ae .cell) λh15=>
 gR (fd.scope.names.all λy=>y.2 != .free) λh16=>(WT X fd.defaults fn.gi).on λh17=>gR (decide (fn.gi.length<=fn.np)) λh18=>
 cA ⟨h1,aD,h3,h4,h5,h6,h7,h8,h9,h10,h11,h12,of_decide_eq_true h13,of_decide_eq_true h14,λx hx=>(DT.mp (kx.mp h15 x hx)).imp beq_iff_eq.mp beq_iff_eq.mp,λx hx=>bne_iff_ne.mp (kx.mp h16 _ (lb hx)) ab,h17,of_decide_eq_true h18⟩
def F6(f:Nat):List Str:=((abh.lookup f).getD []).map mF
def Zk{cl:Nat->List V->H->Option (V×H)}{n:Nat}(k:∀sc names,p_ ⟨X,ao,cl,n,sc,names⟩)(f:Nat)(fn:cE):bt (FnAt X ao cl n f fn):=match e:X.K.lookup f with
 | some ob=>match e2:ob.data with
  | .func fd=>match e3:fd.body with
   | .stmts b=>(Y5 X fd fn (F6 f)).on λF=>(Wj (k fd.scope (F6 f)) fd.scope fn.body b).on λS=>cA ⟨ob,fd,F6 f,b,e,e2,e3,F,S⟩
   | _=>az
  | _=>az
 | none=>az
end
noncomputable def Pr (K:Frag) (C i:Nat):Bool:=makesIn K C&&findIn K (.ref C) "__init__"==ae (ae (.ref i))&&typeIn K (.ref i)==ae (.type "function")&&keepIn K (.ref C)
def Pu (K:Frag):Bool:=F1.all λe=>(jv e.1.2).all λnm=>findIn K (.ref e.1.1) nm==ae (ae (.ref e.2))&&typeIn K (.ref e.2)==ae (.type "function")&&keepIn K (.ref e.2)
def Lx(K:Frag):Bool:=mU.all λy=>nsIn K nW y.1==ae az
noncomputable def allM{bg:Type}(l:List bg)(R:bg->Prop)(f:∀y,bt (R y)):Bool:=l.all λy=>(f y).isSome
theorem ZC{bg:Type}{l:List bg}{R:bg->Prop}{f:∀y,bt (R y)}(h:allM l R f=aB){y:bg}(m:y∈l):R y:=((f y).get (kx.mp h y m)).down
def Ee(X:dC)(cl:Nat->List V->H->Option (V×H))(n:Nat)(y:Nat×cE):Prop:=FnAt X ao cl n y.1 y.2
def Zj(X:dC){cl:Nat->List V->H->Option (V×H)}{n:Nat}(k:∀sc names,p_ ⟨X,ao,cl,n,sc,names⟩)(y:Nat×cE):bt (Ee X cl n y):=Zk X k y.1 y.2
theorem ZD{X:dC}{cl:Nat->List V->H->Option (V×H)}{n:Nat}(C:n1 X n cl)(h3:Pu X.K=aB)(h4:Lx X.K=aB)(sc:Scope)(names:List Str):p_ ⟨X,ao,cl,n,sc,names⟩:=
 ⟨C,λy hy=>beq_iff_eq.mp (kx.mp h4 y hy),λc a f nm hm ha=>by
  have q:=kx.mp h3 _ (lb (show F1.lookup (c,a)=ae f from hm));rw[show jv ((c,a),f).1.2=ae nm from ha]at q;have z:=iL q;have w:=iL z.1;exact⟨beq_iff_eq.mp w.1,beq_iff_eq.mp w.2,z.2⟩⟩
theorem aa6{K:Frag}(h:(pv.all λy=>Pr K y.1 y.2)=aB)(c i:Nat)(hc:ao.cls c=ae i):Ek K c i:=
 have m:=lb (show pv.lookup c=ae i from hc)
 have a:=iL (kx.mp h _ m)
 have b:=iL a.1
 have d:=iL b.1
 ⟨d.1,beq_iff_eq.mp d.2,beq_iff_eq.mp b.2,Ka m,a.2⟩
def jq(P:Params)(l:Addr)(o:Obj):Frag:=MineH.KF P++[(l,o)]
theorem Wb(P:Params)(l:Addr)(o:Obj):Lx (jq P l o)=true:=by kernel_rfl
theorem abc(P:Params)(l:Addr)(o:Obj):Pu (jq P l o)=true:=by kernel_rfl
theorem Ws(P:Params)(l:Addr)(o:Obj):(pv.all λy=>Pr (jq P l o) y.1 y.2)=true:=by kernel_rfl
theorem Wq(P:Params)(l:Addr)(o:Obj):xW (jq P l o)=true:=by kernel_rfl
theorem Zl(prog:Program)(w:World)(l:Addr)(o:Obj)(n:Nat)(cl:Nat->List V->H->Option (V×H))(k:∀sc names,p_ ⟨⟨prog,w,jq w.params l o⟩,ao,cl,n,sc,names⟩):allM Bj (Ee ⟨prog,w,jq w.params l o⟩ cl n) (Zj ⟨prog,w,jq w.params l o⟩ k)=true:=by kernel_rfl
theorem aao(P:Params)(l:Addr)(o:Obj):nsIn (jq P l o) nW MineH.dl.name=ae (ae (.ref 795)):=by kernel_rfl
theorem abk (P:Params):(MineH.KF P).all (λp=>p.2.cls != .type "list")=true:=by kernel_rfl
theorem Zm{prog:Program}{w:World}{l:Addr}{o:Obj}{n:Nat}{cl:Nat->List V->H->Option (V×H)}(k:∀sc names,p_ ⟨⟨prog,w,jq w.params l o⟩,ao,cl,n,sc,names⟩)(y:Nat×cE)(m:y∈Bj):Ee ⟨prog,w,jq w.params l o⟩ cl n y:=ZC (Zl prog w l o n cl k) m
theorem acx(prog:Program)(w:World)(l:Addr)(o:Obj):KU ⟨prog,w,jq w.params l o⟩ ao:=
 ⟨λn cl C f fn hf=>Zm (ZD C (abc w.params l o) (Wb w.params l o)) (f,fn) (lb (show Bj.lookup f=ae fn from hf)),aa6 (Ws w.params l o)⟩
theorem Uw {P:Params} {h:Heap} {l:Addr} {o:Obj} (X:(MineH.KF P).In h) (e:h.get? l=ae o) (hc:o.cls=.type "list"):(jq P l o).In h/\(jq P l o).lookup l=ae o:=by
 have aU:(MineH.KF P).lookup l=none:=by
  cases q:(MineH.KF P).lookup l with
  | none=>rfl
  | some o'=>
   have z:=X _ _ q;rw[e]at z;cases z
   exact absurd hc (bne_iff_ne.mp (kx.mp (abk P) _ (lb q)))
 have hl:∀a,(jq P l o).lookup a=((MineH.KF P).lookup a).or ([(l,o)].lookup a):=λa=>Kf;refine⟨λa x q=>?_,?_⟩
 .rw[hl]at q;cases r:(MineH.KF P).lookup a with
  | some y=>rw[r]at q;exact X _ _ (r.trans q)
  | none=>
   rw[r]at q;have m:=lb (l:=[(l,o)]) (show[(l,o)].lookup a=ae x from q);cases m with
   | head=>exact e
   | tail _ h=>exact nomatch h
 .rw[hl,aU];show[(l,o)].lookup l=ae o;rw[gu,beq_self_eq_true]
theorem FE:∀{vs:List Value}{xs:List Int},IntsAre vs xs->vs.length=xs.length/\∀(i:Nat)(x:Int),xs[i]?=ae x->∃t,vs[i]?=ae (.int x t)
 | _,_,.nil=>⟨ab,λi x h=>no h⟩
 | _,_,.cons n t r=>⟨congrArg (·+1) (FE r).1,λi x h=>by
  cases i with
  | zero=>cases h;exact⟨t,ab⟩
  | succ i=>exact(FE r).2 i x h⟩
theorem Uq:jP callerA 60:=⟨ab,by decide,by decide⟩
theorem link(H:∀xs:List Int,xs.length<=63->∃hp',aA ao 60 795 [.C xs] []=ae (.B aB,hp')):AD.Holds:=MineH.holds (by
 intro w aia oY mg mb G Y a o pm cd doc dV kV c9 hd hcd hD hmg hg args vals as hpre hlay hrd hwl hlo;have KX0:=kIn_of Y;refine Ground.open G ?_;intro T B D TE TW;wrow_args hpre hlay hrd hwl hlo;(with_reducible rename IntsAre _ _=>hI);(with_reducible rename Heap.IsList _ _ _=>hL);(with_reducible rename ¬_<_=>hlen);rename_i xs _ _ _ _ _ _ _ l vs _ _ _ _ _ _;obtain⟨ol,e1,e2,k,e3⟩:=id hL;obtain⟨X,hl⟩:=Uw KX0 e1 e2
 have ha:a=795:=by
  have:=mg_of X T.g (aao w.params l ol);rw[hmg]at this;cases this;rfl
 subst ha;have hx:xs.length<=63:=by omega
 obtain⟨hp',run⟩:=H xs hx;obtain⟨i1,i2⟩:=FE hI;have hs:mM ⟨MineH.fG.prog,w,jq w.params l ol⟩ oY.heap:=⟨X,⟨_,_,mg,mb,topRead_of T⟩,Wq w.params l ol⟩;have hr0:bG ⟨MineH.fG.prog,w,jq w.params l ol⟩ [] oY.heap [] oY.heap:=⟨λ_ _ e=>e,rfl,(λn o p h=>nomatch h),(λi j p q h=>nomatch h),(λi p h=>nomatch h),⟨_,_,(by show oZ<795;decide),c9⟩⟩;refine weak (DK (X:=⟨MineH.fG.prog,w,jq w.params l ol⟩) (Wh (acx MineH.fG.prog w l ol) 60) Uq hs hr0 (.C (x:=.C xs) (v:=.ref l) ⟨l,vs,rfl,λh X'=>⟨ol,X' _ _ hl,e2,k,e3⟩,i1,i2⟩ .N) run) λv s' h=>?_;obtain⟨a9,⟨p',⟨h1,t1,rfl⟩⟩,r',x'⟩:=h;cases r'
 exact GoodW.toG ⟨.inl ⟨_,.bool aB,[],ab,λcls=>rfl,.bool aB,by kernel_rfl,unshared_nil⟩,x'.dN,ab,hg⟩)
end Mine
end
namespace Mine.P
open PySem
set_option genInjectivity false
set_option genSizeOf false
section
theorem dF{bg dR:Type}{x:Option bg}{f:bg->Option dR}{a:bg}{r:Option dR}(p:x=ae a)(q:f a=r):x.bind f=r:=by rw[p];exact q
theorem c_{bg dR:Type}{x:Option (dR×H)}{k:dR->H->Option bg}{v:dR}{h:H}{r:Option bg}(p:x=ae (v,h))(q:k v h=r):B x k=r:=by rw[p];exact q
theorem zO{dR:Type}{o:Option dR}{h:H}{r:dR}(p:o=ae r):ok h o=ae (r,h):=by rw[p];rfl
theorem Q3{o:Option Bool}{h:H}{r:Bool}(p:o=ae r):zN h o=ae (.B r,h):=by rw[p];rfl
theorem oX{x:Option (V×H)}{v:V}{h:H}{t:Bool}(p:x=ae (v,h))(w:truthy h v=ae t):ff x=ae (t,h):=c_ p (zO w)
theorem eG{bg:Type}{c:Prop}[Decidable c]{x r:Option bg}(w:c)(q:x=r):(if c then x else az)=r:=by rw[if_pos w];exact q
section
variable{P:gM}{cl:Nat->List V->H->Option (V×H)}{fr fr' fr2:bJ}{h h1 aD h3 h4:H}{v r x y z u:V}{i j n:Nat}{a b c e:ck}{k:Int}
theorem ah(q:fr[i]?=ae (ae v)):aS P cl (.L i) fr h=ae (v,h):=zO (dF q ab)
theorem Zx{m:Nat}{cy:List (Nat×V)}(q:h[n]?=ae (.A m cy))(w:cy.lookup i=ae r):Fs h (.R n) i=ae r:=(show(h[n]?.bind λo=>o.c?.bind λc=>c.2.lookup i)=_ from dF q w)
theorem aW{m:Nat}{cy:List (Nat×V)}(p:aS P cl e fr h=ae (.R n,h1))(q:h1[n]?=ae (.A m cy))(w:cy.lookup i=ae r):aS P cl (.B e i) fr h=ae (r,h1):=c_ p (zO (Zx q w))
theorem aH(p:aS P cl e fr h=ae (x,h1))(q:aS P cl c fr h1=ae (y,aD))(w:qH aD x y=ae r):aS P cl (.I e c) fr h=ae (r,aD):=c_ p (c_ q (zO w))
theorem RH{xs:List V}(w:xs.length<aK)(l:xs[i]?=ae r):gc xs i=ae r:=eG w ((if_pos (DU i)).trans l)
theorem Bn{xs:List V}(q:h[n]?=ae (.L xs))(w:xs.length<aK)(l:xs[i]?=ae r):qH h (.R n) (.I i)=ae r:=(show(h[n]?.bind λo=>o.at _)=_ from dF q (RH w l))
theorem FK{xs:List V}(l:xs.getLast?=ae r):0<=(-1:Int)+xs.length/\xs[((-1:Int)+xs.length).toNat]?=ae r:=by
 cases xs with
 | nil=>cases l
 | cons x xs=>
  have e:(-1:Int)+((x::xs).length:Int)=(xs.length:Nat):=by rw[fH];lia
  rw[e];exact⟨DU _,SE.symm.trans l⟩
theorem dJ{es:List (aw×V)}{s:aw}(q:h[n]?=ae (.S es))(l:es.lookup s=ae r):qH h (.R n) (.S s)=ae r:=(show(h[n]?.bind λo=>o.at _)=_ from dF q l)
theorem Oe{es:List (Int×V)}{s:Int}(q:h[n]?=ae (.I es))(l:es.lookup s=ae r):qH h (.R n) (.I s)=ae r:=(show(h[n]?.bind λo=>o.at _)=_ from dF q l)
theorem kd(p:aS P cl e fr h=ae (x,h1))(q:aS P cl a fr h1=ae (y,aD))(q':aS P cl b fr aD=ae (z,h3))(w:z8 h3 x y z=ae (r,h4)):aS P cl (.S e a b) fr h=ae (r,h4):=c_ p (c_ q (c_ q' w))
theorem fv{o:js}(p:aS P cl a fr h=ae (x,h1))(q:aS P cl b fr h1=ae (y,aD))(w:i6 o aD x y=ae (r,h3)):aS P cl (.F o a b) fr h=ae (r,h3):=c_ p (c_ q w)
theorem aI{o:n3}{t:Bool}(p:aS P cl a fr h=ae (x,h1))(q:aS P cl b fr h1=ae (y,aD))(w:cD o aD x y=ae t):aS P cl (.A o a b) fr h=ae (.B t,aD):=c_ p (c_ q (Q3 w))
theorem Xh(p:aS P cl a fr h=ae (x,h1))(w:truthy h1 x=ae aB)(q:aS P cl b fr h1=ae (y,aD)):aS P cl (.G a b) fr h=ae (y,aD):=c_ p (dF w q)
theorem Xg(p:aS P cl a fr h=ae (x,h1))(w:truthy h1 x=ae aP):aS P cl (.G a b) fr h=ae (x,h1):=c_ p (dF w ab)
theorem pw(p:aS P cl (.G a (.G b c)) fr h=ae (x,h1)):aS P cl (.W a b c) fr h=ae (x,h1):=p
theorem N0(p:aS P cl a fr h=ae (x,h1))(w:truthy h1 x=ae aP)(q:aS P cl b fr h1=ae (y,aD)):aS P cl (.O a b) fr h=ae (y,aD):=c_ p (dF w q)
theorem N2(p:aS P cl a fr h=ae (x,h1))(w:truthy h1 x=ae aB):aS P cl (.O a b) fr h=ae (x,h1):=c_ p (dF w ab)
theorem iQ{t:Bool}(p:aS P cl a fr h=ae (x,h1))(w:truthy h1 x=ae t):aS P cl (.N a) fr h=ae (.B (!t),h1):=c_ (oX p w) ab
theorem NY(p:aS P cl c fr h=ae (x,h1))(w:truthy h1 x=ae aB)(q:aS P cl a fr h1=ae (y,aD)):aS P cl (.R c a b) fr h=ae (y,aD):=c_ (oX p w) q
theorem NX(p:aS P cl c fr h=ae (x,h1))(w:truthy h1 x=ae aP)(q:aS P cl b fr h1=ae (y,aD)):aS P cl (.R c a b) fr h=ae (y,aD):=c_ (oX p w) q
theorem aO:iw P cl .N fr h=ae ([],h):=rfl
theorem ar{cs:hJ}{vs:List V}(p:aS P cl c fr h=ae (x,h1))(q:iw P cl cs fr h1=ae (vs,aD)):iw P cl (.C c cs) fr h=ae (x::vs,aD):=c_ p (c_ q ab)
theorem dj{cs:hJ}{vs:List V}(p:iw P cl cs fr h=ae (vs,h1))(w:vs.length<aK):aS P cl (.T cs) fr h=ae (.R h1.length,h1++[.T vs]):=c_ p (eG w ab)
theorem eW{cs:hJ}{vs:List V}(p:iw P cl cs fr h=ae (vs,h1))(w:vs.length<aK):aS P cl (.E cs) fr h=ae (.R h1.length,h1++[.L vs]):=c_ p (eG w ab)
theorem cu{cs:hJ}{vs:List V}{f:Nat}(p:aS P cl c fr h=ae (.A f,h1))(q:iw P cl cs fr h1=ae (vs,aD))(w:cl f vs aD=ae (r,h3)):aS P cl (.D c cs) fr h=ae (r,h3):=c_ p (c_ q w)
theorem b5{cs:hJ}{vs:List V}{f m:Nat}{cy:List (Nat×V)}(p:aS P cl c fr h=ae (.R n,h1))(g1:h1[n]?=ae (.A m cy))(g2:cy.lookup i=az)(g3:P.r6 m i=ae f)(q:iw P cl cs fr h1=ae (vs,aD))(w:cl f (.R n::vs) aD=ae (r,h3)):
 aS P cl (.M c i cs) fr h=ae (r,h3):=c_ p (show(h1[n]?.bind λo=>o.c?.bind λc=>_)=_ from dF g1 (eG g2 (dF g3 (c_ q w))))
theorem qO{xs:List V}(g:h[n]?=ae (.L xs)):lst h n=ae xs:=dF g ab
theorem NL{xs:List (aw×V)}(g:h[n]?=ae (.S xs)):x6 h n=ae xs:=dF g ab
theorem dW{xs ys:List V}(p:aS P cl a fr h=ae (.R n,h1))(g:h1[n]?=ae (.L ys))(q:aS P cl b fr h1=ae (y,aD))(g2:aD[n]?=ae (.L xs))(w:xs.length<aK):aS P cl (.H a b) fr h=ae (.N,aD.set n (.L (xs++[y]))):=
 c_ p (show(lst h1 n).bind _=_ from dF (qO g) (c_ q (dF (qO g2) (eG w ab))))
theorem pz{xs:List V}(p:aS P cl a fr h=ae (.R n,h1))(g:h1[n]?=ae (.L xs))(w:xs.length<aK)(l:xs.getLast?=ae r):aS P cl (.U a) fr h=ae (r,h1.set n (.L xs.dropLast)):=
 c_ p (show(lst h1 n).bind _=_ from dF (qO g) (eG w (by rw[l];rfl)))
theorem NW{xs ys:List V}(p:aS P cl a fr h=ae (.R n,h1))(g:h1[n]?=ae (.L ys))(q:aS P cl b fr h1=ae (x,aD))(q':aS P cl c fr aD=ae (y,h3))(g2:h3[n]?=ae (.L xs))(w:x=V.I xs.length/\xs.length<aK):aS P cl (.ins a b c) fr h=ae (.N,h3.set n (.L (xs++[y]))):=
 c_ p (show(lst h1 n).bind _=_ from dF (qO g) (c_ q (c_ q' (dF (qO g2) (eG w ab)))))
theorem Fb{es cy:List (aw×V)}{s:aw}(p:aS P cl a fr h=ae (.R n,h1))(g:h1[n]?=ae (.S cy))(q:aS P cl b fr h1=ae (.S s,aD))(q':aS P cl c fr aD=ae (y,h3))(g2:h3[n]?=ae (.S es))(w:(es.lookup s).getD y=r):aS P cl (.rO a b c) fr h=ae (r,h3):=
 c_ p (show(x6 h1 n).bind _=_ from dF (NL g) (c_ q (c_ q' (dF (NL g2) (congrArg (λv=>ae (v,h3)) w)))))
theorem Sd{xs:List V}(q:h[n]?=ae (.L xs))(w:xs.length<aK):truthy h (.R n)=ae (!xs.isEmpty):=(show(h[n]?.bind λo=>o.yl.bind _)=_ from dF q (eG w ab))
theorem gk{xs:List V}(p:aS P cl a fr h=ae (.R n,h1))(g:h1[n]?=ae (.L xs))(w:xs.length<aK):aS P cl (.K a) fr h=ae (.I xs.length,h1):=
 c_ p (dF (show(lst h1 n).map ud=ae xs.length by rw[qO g];rfl) (eG w rfl))
theorem x7{xs:List V}(p:aS P cl a fr h=ae (.R n,h1))(g:h1[n]?=ae (.L xs)\/h1[n]?=ae (.T xs))(w:xs.length<aK):aS P cl (.r5 a) fr h=ae (.R h1.length,h1++[.L xs]):=
 c_ p (dF (show h1[n]?.bind O.kf=ae xs from g.elim (λg=>dF g ab) λg=>dF g ab) (eG w ab))
theorem Bc(p:aS P cl a fr h=ae (.T,h1)):aS P cl (.r5 a) fr h=ae (.R h1.length,h1++[.L []]):=c_ p ab
theorem dG(p:aS P cl a fr h=ae (r,h1))(w:h1.take h.length=h)(d:qJ h.length r=aP):aS P cl (.P a) fr h=ae (r,h):=c_ p (eG ⟨w,d⟩ ab)
theorem bu(p:aS P cl e fr h=ae (v,h1)):cH P cl (.E e) fr h=ae (.N,fr,h1):=by show B (aS P cl e fr h) (λ_ h=>ae (dm.N,fr,h))=_;exact c_ p ab
theorem bM(p:aS P cl e fr h=ae (v,h1)):cH P cl (.A i e) fr h=ae (.N,fr.set i (ae v),h1):=by show B (aS P cl e fr h) (λv h=>ae (dm.N,fr.set i (ae v),h))=_;exact c_ p ab
theorem w5{o:ck}(p:aS P cl e fr h=ae (v,h1))(q:aS P cl o fr h1=ae (x,aD))(w:w7 aD x i v=ae h3):cH P cl (.B o i e) fr h=ae (.N,fr,h3):=by
 show B (aS P cl e fr h) (λx h=>B (aS P cl o fr h) λv h=>(w7 h v i x).map λh=>(dm.N,fr,h))=_;exact c_ p (c_ q (by rw[w];rfl))
theorem w8{m:Nat}{cy:List (Nat×V)}(q:h[n]?=ae (.A m cy))(w:cy.length<100):w7 h (.R n) i v=ae (h.set n (.A m (gm i v cy))):=(show(h[n]?.bind λo=>o.c?.bind _)=_ from dF q (eG w ab))
theorem iD{o k:ck}(p:aS P cl e fr h=ae (v,h1))(q:aS P cl o fr h1=ae (x,aD))(q':aS P cl k fr aD=ae (y,h3))(w:oR h3 x y v=ae h4):cH P cl (.C o k e) fr h=ae (.N,fr,h4):=by
 show B (aS P cl e fr h) (λx h=>B (aS P cl o fr h) λv h=>B (aS P cl k fr h) λk h=>(oR h v k x).map λh=>(dm.N,fr,h))=_;exact c_ p (c_ q (c_ q' (by rw[w];rfl)))
theorem Du{o p:O}{k:V}(q:h[n]?=ae o)(w:o.put k v=ae p):oR h (.R n) k v=ae (h.set n p):=(show(h[n]?.bind λo=>(o.put k v).map _)=_ from dF q (by rw[w];rfl))
theorem Js{xs:List V}(q:h[n]?=ae (.L xs))(w:xs.length<aK)(l:i<xs.length):oR h (.R n) (.I i) v=ae (h.set n (.L (xs.set i v))):=
 Du q (show(z7 xs i v).map O.L=_ by rw[show z7 xs i v=ae (xs.set i v)from eG w ((if_pos (DU i)).trans (eG l rfl))];rfl)
theorem OT{xs:List V}(l:0<xs.length):0<=(-1:Int)+xs.length/\((-1:Int)+xs.length).toNat=xs.length-1:=by lia
theorem RJ{xs:List V}(q:h[n]?=ae (.L xs))(w:xs.length<aK)(l:0<xs.length):oR h (.R n) (.I (-1)) v=ae (h.set n (.L (xs.set (xs.length-1) v))):=
 Du q (show(z7 xs (-1) v).map O.L=_ by rw[show z7 xs (-1) v=ae (xs.set (xs.length-1) v)from eG w ((if_neg (by decide)).trans (eG (OT l).1 (by rw[(OT l).2])))];rfl)
theorem lD{es:List (aw×V)}{s:aw}(q:h[n]?=ae (.S es))(w:es.length<aK):oR h (.R n) (.S s) v=ae (h.set n (.S (gm s v es))):=Du q (eG w ab)
theorem RI{es:List (Int×V)}{s:Int}(q:h[n]?=ae (.I es))(w:es.length<aK):oR h (.R n) (.I s) v=ae (h.set n (.I (gm s v es))):=Du q (eG w ab)
theorem t7(p:aS P cl e fr h=ae (.R n,h1))(q:h1[n]?=ae (.T [x,y])):cH P cl (.D i j e) fr h=ae (.N,(fr.set i (ae x)).set j (ae y),h1):=by
 show B (aS P cl e fr h) (λv h=>v.gG.bind λn=>h[n]?.bind λo=>o.xc.bind λl=>(DF l).map λq=>(dm.N,(fr.set i (ae q.1)).set j (ae q.2),h))=_;exact c_ p (show(h1[n]?.bind λo=>o.xc.bind _)=_ from dF q ab)
theorem U0{o:js}(p:aS P cl e fr h=ae (y,h1))(w:xM o x y=ae z):B (aS P cl e fr h) (λy h=>(xM o x y).map λz=>(dm.N,fr.set i (ae z),h))=ae (.N,fr.set i (ae z),h1):=c_ p (by rw[w];rfl)
theorem Jl{o:js}(g:fr[i]?=ae (ae x))(p:aS P cl e fr h=ae (y,h1))(w:xM o x y=ae z):cH P cl (.J i o e) fr h=ae (.N,fr.set i (ae z),h1):=(show(fr[i]?.bind id).bind _=_ from dF (dF g ab) (U0 p w))
variable{f:dm}{s t:bN}
theorem adZ(p:aS P cl c fr h=ae (x,h1))(w:truthy h1 x=ae aB)(q:b3 P cl s fr h1=ae (f,fr',aD)):cH P cl (.I c s t) fr h=ae (f,fr',aD):=by show B (ff (aS P cl c fr h)) (λt' h=>bif t' then b3 P cl s fr h else b3 P cl t fr h)=_;exact c_ (oX p w) q
theorem RF(p:aS P cl c fr h=ae (x,h1))(w:truthy h1 x=ae aP)(q:b3 P cl t fr h1=ae (f,fr',aD)):cH P cl (.I c s t) fr h=ae (f,fr',aD):=by show B (ff (aS P cl c fr h)) (λt' h=>bif t' then b3 P cl s fr h else b3 P cl t fr h)=_;exact c_ (oX p w) q
theorem cQ(p:aS P cl e fr h=ae (v,h1)):cH P cl (.R e) fr h=ae (.R v,fr,h1):=by show B (aS P cl e fr h) (λv h=>ae (dm.R v,fr,h))=_;exact c_ p ab
theorem aF:b3 P cl .N fr h=ae (.N,fr,h):=rfl
theorem nZ{bg:Type}{x:Option (dm×bJ×H)}{k:dm->bJ->H->Option bg}{f:dm}{r:Option bg}(p:x=ae (f,fr,h))(q:k f fr h=r):kz x k=r:=by rw[p];exact q
theorem aq{st:kA}{fr1:bJ}(p:cH P cl st fr h=ae (.N,fr1,h1))(q:b3 P cl s fr1 h1=ae (f,fr',aD)):b3 P cl (.C st s) fr h=ae (f,fr',aD):=by show kz (cH P cl st fr h) (λf fr h=>f.go fr h (b3 P cl s fr h))=_;exact nZ p q
theorem ji{st:kA}(p:cH P cl st fr h=ae (.R v,fr',h1)):b3 P cl (.C st s) fr h=ae (.R v,fr',h1):=by show kz (cH P cl st fr h) (λf fr h=>f.go fr h (b3 P cl s fr h))=_;exact nZ p ab
theorem xa{st:kA}(p:cH P cl st fr h=ae (.B,fr',h1)):b3 P cl (.C st s) fr h=ae (.B,fr',h1):=by show kz (cH P cl st fr h) (λf fr h=>f.go fr h (b3 P cl s fr h))=_;exact nZ p ab
end
section
variable{P:gM}{k g:Nat}{fn:cE}{args:List V}{fr fr':bJ}{h h1:H}{v:V}
theorem LB(a:P.fn g=ae fn):aA P (k+1) g args h=(xR fn args).bind λfr=>kz (b3 P (aA P k) fn.body fr h) λf _ h=>C9 f h:=by
 show(match P.fn g with | some fn=>_ | none=>_)=_;rw[a]
theorem cJ(a:P.fn g=ae fn)(b:xR fn args=ae fr)(c:b3 P (aA P k) fn.body fr h=ae (.R v,fr',h1)):aA P (k+1) g args h=ae (v,h1):=(LB a).trans (dF b (nZ c ab))
theorem cV(a:P.fn g=ae fn)(b:xR fn args=ae fr)(c:b3 P (aA P k) fn.body fr h=ae (.N,fr',h1)):aA P (k+1) g args h=ae (.N,h1):=(LB a).trans (dF b (nZ c ab))
end
end
section
section
variable{P:gM}{cl:Nat->List V->H->Option (V×H)}{fr fr' fr1 fr2:bJ}{h h1 aD h3 h4:H}{v r x y z u:V}{i j n:Nat}{a b c e:ck}{k:Int}{f:dm}{s t:bN}
theorem aj:aS P cl (.C v) fr h=ae (v,h):=rfl
noncomputable def D9(P:gM)(cl:Nat->List V->H->Option (V×H))(fr:bJ)(b:ck)(x:V)(h:H)(y:V)(aD:H):Prop:=(truthy h x=ae aB/\aS P cl b fr h=ae (y,aD))\/(truthy h x=ae aP/\y=x/\aD=h)
noncomputable def El(P:gM)(cl:Nat->List V->H->Option (V×H))(fr:bJ)(b:ck)(x:V)(h:H)(y:V)(aD:H):Prop:=(truthy h x=ae aB/\y=x/\aD=h)\/(truthy h x=ae aP/\aS P cl b fr h=ae (y,aD))
noncomputable def Ef(P:gM)(cl:Nat->List V->H->Option (V×H))(fr:bJ)(a b:ck)(x:V)(h:H)(r:Option (V×H)):Prop:=(truthy h x=ae aB/\aS P cl a fr h=r)\/(truthy h x=ae aP/\aS P cl b fr h=r)
noncomputable def Eo(P:gM)(cl:Nat->List V->H->Option (V×H))(fr:bJ)(s t:bN)(x:V)(h:H)(r:Option (dm×bJ×H)):Prop:=(truthy h x=ae aB/\b3 P cl s fr h=r)\/(truthy h x=ae aP/\b3 P cl t fr h=r)
theorem dp(p:aS P cl a fr h=ae (x,h1))(q:D9 P cl fr b x h1 y aD):aS P cl (.G a b) fr h=ae (y,aD):=by
 rcases q with⟨w,q⟩ | ⟨w,rfl,rfl⟩
 .exact Xh p w q
 .exact Xg p w
theorem jy(p:aS P cl a fr h=ae (x,h1))(q:El P cl fr b x h1 y aD):aS P cl (.O a b) fr h=ae (y,aD):=by
 rcases q with⟨w,rfl,rfl⟩ | ⟨w,q⟩
 .exact N2 p w
 .exact N0 p w q
theorem oq(p:aS P cl c fr h=ae (x,h1))(q:Ef P cl fr a b x h1 (ae (y,aD))):aS P cl (.R c a b) fr h=ae (y,aD):=by
 rcases q with⟨w,q⟩ | ⟨w,q⟩
 .exact NY p w q
 .exact NX p w q
theorem aM(p:aS P cl c fr h=ae (x,h1))(q:Eo P cl fr s t x h1 (ae (f,fr',aD))):cH P cl (.I c s t) fr h=ae (f,fr',aD):=by
 rcases q with⟨w,q⟩ | ⟨w,q⟩
 .exact adZ p w q
 .exact RF p w q
noncomputable def Ep(P:gM)(cl:Nat->List V->H->Option (V×H))(s:bN)(f:dm)(fr:bJ)(h:H)(r:Option (dm×bJ×H)):Prop:=(f=.N/\b3 P cl s fr h=r)\/(f≠.N/\ae (f,fr,h)=r)
theorem b2{st:kA}{f1:dm}(p:cH P cl st fr h=ae (f1,fr1,h1))(q:Ep P cl s f1 fr1 h1 (ae (f,fr',aD))):b3 P cl (.C st s) fr h=ae (f,fr',aD):=by
 rcases q with⟨rfl,q⟩ | ⟨w,q⟩
 .exact aq p q
 .injection q with q
  injection q with d4 q
  injection q with cT q
  subst d4;subst cT;subst q;cases f1 with
  | N=>exact absurd ab w
  | B=>exact xa p
  | R v=>exact ji p
theorem ah_{r:Option (dm×bJ×H)}(q:b3 P cl s fr h=r):Ep P cl s .N fr h r:=bB ⟨ab,q⟩
theorem b1:Ep P cl s (.R v) fr h (ae (.R v,fr,h)):=bE ⟨dm.noConfusion,ab⟩
theorem fu(q:aS P cl b fr h=ae (y,aD)):D9 P cl fr b (.B aB) h y aD:=bB ⟨ab,q⟩
theorem fS:D9 P cl fr b (.B aP) h (.B aP) h:=bE ⟨ab,ab,ab⟩
theorem Q4:El P cl fr b (.B aB) h (.B aB) h:=bB ⟨ab,ab,ab⟩
theorem ng(q:aS P cl b fr h=ae (y,aD)):El P cl fr b (.B aP) h y aD:=bE ⟨ab,q⟩
theorem Fx{r:Option (V×H)}(q:aS P cl a fr h=r):Ef P cl fr a b (.B aB) h r:=bB ⟨ab,q⟩
theorem Fw{r:Option (V×H)}(q:aS P cl b fr h=r):Ef P cl fr a b (.B aP) h r:=bE ⟨ab,q⟩
theorem cN{r:Option (dm×bJ×H)}(q:b3 P cl s fr h=r):Eo P cl fr s t (.B aB) h r:=bB ⟨ab,q⟩
theorem a_{r:Option (dm×bJ×H)}(q:b3 P cl t fr h=r):Eo P cl fr s t (.B aP) h r:=bE ⟨ab,q⟩
theorem tt:truthy h (.B aB)=ae true:=rfl
theorem fq:truthy h (.B aP)=ae false:=rfl
theorem dk{o:aw}:cD .E h (.S o) (.S o)=ae true:=congrArg ae (decide_eq_true ab)
theorem bL{o cP:aw}(w:o≠cP):cD .E h (.S o) (.S cP)=ae false:=congrArg ae (decide_eq_false w)
theorem iP{o:aw}:cD .N h (.S o) (.S o)=ae false:=congrArg (λb=>ae (!b)) (decide_eq_true (rfl:o=o))
theorem oi{o cP:aw}(w:o≠cP):cD .N h (.S o) (.S cP)=ae true:=congrArg (λb=>ae (!b)) (decide_eq_false w)
theorem pl{o:Int}:cD .E h (.I o) (.I o)=ae true:=congrArg ae (decide_eq_true ab)
theorem iO{o cP:Int}(w:o≠cP):cD .E h (.I o) (.I cP)=ae false:=congrArg ae (decide_eq_false w)
theorem Lz{o cP:Int}(w:o=cP):cD .E h (.I o) (.I cP)=ae true:=congrArg ae (decide_eq_true w)
theorem lY{o:Int}:cD .N h (.I o) (.I o)=ae false:=congrArg (λb=>ae (!b)) (decide_eq_true (rfl:o=o))
theorem lZ{o cP:Int}(w:o≠cP):cD .N h (.I o) (.I cP)=ae true:=congrArg (λb=>ae (!b)) (decide_eq_false w)
theorem pn{o cP:Int}(w:cP<o):cD .G h (.I o) (.I cP)=ae true:=congrArg ae (decide_eq_true w)
theorem EN{o cP:Int}(w:cP<=o):cD .B h (.I o) (.I cP)=ae true:=congrArg ae (decide_eq_true w)
theorem EO{t:Bool}(w:cD .I h x y=ae t):cD .A h x y=ae (!t):=congrArg (Kw (!·)) w
theorem ad_(o:aw)(l:List aw):(l.map V.S).mapM (t8 (.S o))=ae (l.map λp=>decide (o=p)):=by
 induction l with
 | nil=>rfl
 | cons p l ih=>rw[fI,gg,ih];rfl
theorem ad9(o:Int)(l:List Int):(l.map V.I).mapM (t8 (.I o))=ae (l.map λp=>decide (o=p)):=by
 induction l with
 | nil=>rfl
 | cons p l ih=>rw[fI,gg,ih];rfl
theorem UQ{o:aw}(l:List aw):(l.map λp=>decide (o=p)).any id=decide (o∈l):=by
 rw[p5,nR,decide_eq_true_iff];constructor
 .rintro⟨x,q,w⟩;obtain⟨p,r,rfl⟩:=ig.mp q;rw[of_decide_eq_true w];exact r
 .intro q;exact⟨_,ig.mpr ⟨o,q,ab⟩,decide_eq_true ab⟩
theorem UP{o:Int}(l:List Int):(l.map λp=>decide (o=p)).any id=decide (o∈l):=by
 rw[p5,nR,decide_eq_true_iff];constructor
 .rintro⟨x,q,w⟩;obtain⟨p,r,rfl⟩:=ig.mp q;rw[of_decide_eq_true w];exact r
 .intro q;exact⟨_,ig.mpr ⟨o,q,ab⟩,decide_eq_true ab⟩
theorem Lj{o:aw}{l:List aw}{t:Bool}(w:decide (o∈l)=t):rH (.S o) (l.map V.S)=ae t:=by
 show((l.map V.S).mapM (t8 (.S o))).map _=_;rw[ad_,<-w];exact congrArg ae (UQ l)
theorem yh{x:V}{o:O}{t:Bool}(g:h[n]?=ae o)(w:o.has x=ae t):cD .I h x (.R n)=ae t:=(show(h[n]?.bind (O.has x))=_ from dF g w)
theorem fE{o:aw}{l:List aw}{vs:List V}{t:Bool}(g:h[n]?=ae (.T vs))(e:vs=l.map V.S)(w:decide (o∈l)=t):cD .I h (.S o) (.R n)=ae t:=yh g (show rH (.S o) vs=ae t by rw[e];exact Lj w)
theorem FA{o:aw}{l:List aw}{vs:List V}{t:Bool}(g:h[n]?=ae (.L vs))(e:vs=l.map V.S)(w:decide (o∈l)=t):cD .I h (.S o) (.R n)=ae t:=yh g (show rH (.S o) vs=ae t by rw[e];exact Lj w)
theorem Oz{o:Int}{l:List Int}{vs:List V}{t:Bool}(g:h[n]?=ae (.L vs))(e:vs=l.map V.I)(w:decide (o∈l)=t):cD .I h (.I o) (.R n)=ae t:=yh g (show rH (.I o) vs=ae t by
 rw[e];show((l.map V.I).mapM (t8 (.I o))).map _=_;rw[ad9,<-w];exact congrArg ae (UP l))
theorem Z1{o:aw}{es:List (aw×V)}{t:Bool}(g:h[n]?=ae (.S es))(w:(es.lookup o).isSome=t):cD .I h (.S o) (.R n)=ae t:=yh g (congrArg ae w)
theorem Bv{o:Int}{es:List (Int×V)}{t:Bool}(g:h[n]?=ae (.I es))(w:(es.lookup o).isSome=t):cD .I h (.I o) (.R n)=ae t:=yh g (congrArg ae w)
theorem aN{n m:Nat}(h:Nat.blt n m=aB):n<m:=iF h
theorem bl{X:H}{o:O}(q:h[n]?=ae o):(h++X)[n]?=ae o:=by
 rw[gh (jL.mp q).1];exact q
theorem BE{m:Nat}{o w:O}(q:h[n]?=ae o)(d:m≠n):(h.set m w)[n]?=ae o:=by
 rw[rk d];exact q
theorem dn(p:aS P cl a fr h=ae (r,h))(d:qJ h.length r=aP):aS P cl (.P a) fr h=ae (r,h):=
 dG p (Tp ..) d
theorem el{X:H}:(h++X).take h.length=h:=Kn ..
theorem lG{X Y:H}:(h++X++Y).take h.length=h:=by rw[cG];exact Kn ..
noncomputable def fB(P:gM)(cl:Nat->List V->H->Option (V×H))(t:ck)(b:bN)(n:Nat)(fr:bJ)(h:H):Option (dm×bJ×H):=BF (λfr h=>ff (aS P cl t fr h)) (λfr h=>b3 P cl b fr h) n fr h
theorem oQ(p:fB P cl c s 500 fr h=ae (f,fr',h1)):cH P cl (.W c s) fr h=ae (f,fr',h1):=p
theorem JP:fB P cl c s (n+1) fr h=B (ff (aS P cl c fr h)) λb h=>bif b then kz (b3 P cl s fr h) λf fr h=>f.on fr h (fB P cl c s n fr h)else ae (.N,fr,h):=rfl
theorem q8(p:aS P cl c fr h=ae (x,h1))(w:truthy h1 x=ae aP):fB P cl c s (n+1) fr h=ae (.N,fr,h1):=JP.trans (c_ (oX p w) ab)
theorem mB(p:aS P cl c fr h=ae (x,h1))(w:truthy h1 x=ae aB)(q:b3 P cl s fr h1=ae (.N,fr1,aD))(l:fB P cl c s n fr1 aD=ae (f,fr',h3)):fB P cl c s (n+1) fr h=ae (f,fr',h3):=JP.trans (c_ (oX p w) (nZ (k:=λf fr h=>f.on fr h (fB P cl c s n fr h)) q l))
theorem Sm(p:aS P cl c fr h=ae (x,h1))(w:truthy h1 x=ae aB)(q:b3 P cl s fr h1=ae (.R v,fr1,aD)):fB P cl c s (n+1) fr h=ae (.R v,fr1,aD):=JP.trans (c_ (oX p w) (nZ (k:=λf fr h=>f.on fr h (fB P cl c s n fr h)) q ab))
noncomputable def gY(P:gM)(cl:Nat->List V->H->Option (V×H))(i:Nat)(b:bN)(same:H->Bool)(xs:List V)(fr:bJ)(h:H):Option (dm×bJ×H):=uI i (λfr h=>b3 P cl b fr h) same xs fr h
theorem q3{xs:List V}(p:aS P cl e fr h=ae (.R n,h1))(g:h1[n]?=ae (.L xs))(q:gY P cl i s (λh=>decide (h[n]?=ae (.L xs))) xs fr h1=ae (f,fr',aD)):cH P cl (.F i e s) fr h=ae (f,fr',aD):=by
 show B (aS P cl e fr h) (λv h=>v.gG.bind λn=>h[n]?.bind λo=>o.kf.bind λxs=>gY P cl i s (λh=>decide (h[n]?=ae o)) xs fr h)=_;exact c_ p (show(h1[n]?.bind λo=>o.kf.bind _)=_ from dF g q)
theorem adY{xs:List V}(p:aS P cl e fr h=ae (.R n,h1))(g:h1[n]?=ae (.T xs))(q:gY P cl i s (λh=>decide (h[n]?=ae (.T xs))) xs fr h1=ae (f,fr',aD)):cH P cl (.F i e s) fr h=ae (f,fr',aD):=by
 show B (aS P cl e fr h) (λv h=>v.gG.bind λn=>h[n]?.bind λo=>o.kf.bind λxs=>gY P cl i s (λh=>decide (h[n]?=ae o)) xs fr h)=_;exact c_ p (show(h1[n]?.bind λo=>o.kf.bind _)=_ from dF g q)
theorem Jm{k:Int}(p:aS P cl e fr h=ae (.I k,h1))(w:0-100000<=k/\k<100000)(q:gY P cl i s (λ_=>aB) (fZ k) fr h1=ae (f,fr',aD)):cH P cl (.G i e s) fr h=ae (f,fr',aD):=by
 show B (aS P cl e fr h) (λv h=>v.fX.bind λk=>if 0-100000<=k/\k<100000 then gY P cl i s (λ_=>aB) (fZ k) fr h else az)=_;exact c_ p (eG w q)
theorem adX{k:Int}(p:aS P cl e fr h=ae (.I k,h1))(w:-1<=k/\k<100000)(q:gY P cl i s (λ_=>aB) (oo k) fr h1=ae (f,fr',aD)):cH P cl (.H i e s) fr h=ae (f,fr',aD):=by
 show B (aS P cl e fr h) (λv h=>v.fX.bind λk=>if -1<=k/\k<100000 then gY P cl i s (λ_=>aB) (oo k) fr h else az)=_;exact c_ p (eG w q)
variable{same:H->Bool}{xs:List V}
theorem adW:cH P cl .L fr h=ae (.B,fr,h):=rfl
theorem Fi:gY P cl i s same (x::xs) fr h=if same h=aB then kz (b3 P cl s (fr.set i (ae x)) h) λf fr h=>f.on fr h (gY P cl i s same xs fr h)else none:=rfl
theorem ou(g:same h=aB):gY P cl i s same [] fr h=ae (.N,fr,h):=eG g ab
theorem jz(g:same h=aB)(q:b3 P cl s (fr.set i (ae x)) h=ae (.N,fr1,h1))(l:gY P cl i s same xs fr1 h1=ae (f,fr',aD)):gY P cl i s same (x::xs) fr h=ae (f,fr',aD):=Fi.trans (eG g (nZ q l))
theorem Zh(g:same h=aB)(q:b3 P cl s (fr.set i (ae x)) h=ae (.B,fr1,h1)):gY P cl i s same (x::xs) fr h=ae (.N,fr1,h1):=Fi.trans (eG g (nZ q ab))
theorem Fo(g:same h=aB)(q:b3 P cl s (fr.set i (ae x)) h=ae (.R v,fr1,h1)):gY P cl i s same (x::xs) fr h=ae (.R v,fr1,h1):=Fi.trans (eG g (nZ q ab))
theorem ET{elt:V->H->Option (V×H)}{cond:V->H->Option (Bool×H)}(p:V->Bool)(m:V->V)(g:same h=aB):(xs acc:List V)->(hc:∀x∈xs,cond x h=ae (p x,h))->(he:∀x∈xs,p x=aB->elt x h=ae (m x,h))->(l:acc.length+xs.length<aK)->
 l7 elt cond same xs acc h=ae (acc++(xs.filter p).map m,h)
 | [],acc,_,_,_=>eG g (congrArg (λl=>ae (l,h)) (iJ acc).symm)
 | x::xs,acc,hc,he,l=>by
  have ih:=λacc=>ET p m g xs acc (λy hy=>hc y (.tail _ hy)) λy hy=>he y (.tail _ hy);have q:=hc x (.head _);have l1:acc.length+1+xs.length<aK:=Kg _ _ 1▸l;refine eG g (c_ q ?_);cases hp:p x with
  | true=>
   rw[DX,hp];refine c_ (k:=λy h=>if acc.length<aK then l7 elt cond same xs (acc++[y]) h else az) (he x (.head _) hp) (eG (fO (nQ ..) l) ((ih (acc++[m x]) (by rw[ba];exact l1)).trans ?_));rw[cG];rfl
  | false=>
   rw[DX,hp];exact ih acc (Td l)
theorem Ba{xs:List V}(pr:V->Bool)(m:V->V)(p:aS P cl c fr h=ae (.R n,h1))(g:h1[n]?=ae (.L xs))(hc:∀x∈xs,∃u,aS P cl b (fr.set i (ae x)) h1=ae (u,h1)/\truthy h1 u=ae (pr x))(he:∀x∈xs,pr x=aB->aS P cl a (fr.set i (ae x)) h1=ae (m x,h1))(l:xs.length<aK):
 aS P cl (.J i a c b) fr h=ae (.R h1.length,h1++[.L ((xs.filter pr).map m)]):=
 c_ p (show(h1[n]?.bind λo=>o.kf.bind _)=_ from dF g (c_ (k:=λys h=>ae (gF h (.L ys))) (ET (elt:=λy h=>aS P cl a (fr.set i (ae y)) h) (cond:=λy h=>ff (aS P cl b (fr.set i (ae y)) h)) (same:=λh=>decide (h[n]?=ae (.L xs))) pr m (decide_eq_true g) xs [] (λx hx=>(hc x hx).elim λu z=>oX z.1 z.2) he (by rw[nT,AA];exact l)) rfl))
theorem Xi{k:Int}(pr:V->Bool)(m:V->V)(p:aS P cl c fr h=ae (.I k,h1))(hc:∀x∈fZ k,∃u,aS P cl b (fr.set i (ae x)) h1=ae (u,h1)/\truthy h1 u=ae (pr x))(he:∀x∈fZ k,pr x=aB->aS P cl a (fr.set i (ae x)) h1=ae (m x,h1))(w:0-100000<=k/\k<100000)(l:(fZ k).length<aK):
 aS P cl (.X i a c b) fr h=ae (.R h1.length,h1++[.L (((fZ k).filter pr).map m)]):=
 c_ p (eG w (c_ (k:=λys h=>ae (gF h (.L ys))) (ET (elt:=λy h=>aS P cl a (fr.set i (ae y)) h) (cond:=λy h=>ff (aS P cl b (fr.set i (ae y)) h)) (same:=λ_=>aB) pr m rfl (fZ k) [] (λx hx=>(hc x hx).elim λu z=>oX z.1 z.2) he (by rw[nT,AA];exact l)) rfl))
theorem Bb{ks:List aw}{cs:hJ}{vs:List V}(p:iw P cl cs fr h=ae (vs,h1))(w:vs.length=ks.length):aS P cl (.Q ks cs) fr h=ae (.R h1.length,h1++[.S (ks.zip vs)]):=c_ p (eG w ab)
theorem Xl{k:Int}{o:aw}(p:aS P cl a fr h=ae (.I k,h1))(w:Ab k=ae o):aS P cl (.str a) fr h=ae (.S o,h1):=c_ p (zO (show(Ab k).map V.S=_ by rw[w];rfl))
theorem Xk{o:aw}(p:aS P cl a fr h=ae (.S o,h1)):aS P cl (.qK a) fr h=ae (.B aB,h1):=c_ p ab
theorem Xj{xs:List V}(p:aS P cl a fr h=ae (.R n,h1))(g:h1[n]?=ae (.L xs)):aS P cl (.qK a) fr h=ae (.B aP,h1):=c_ p (Q3 (show(lst h1 n).map _=_ by rw[qO g];rfl))
end
end
section
structure br where
 dig:List V
 bo:List V
 bY:List V
 names:List V
 dI:List V
 dH:List V
 b0:List V
 dz:List V
 dU:List (Int×V)
 d5:List V
 ay:List V
 bW:List V
 bH:aw
 am:Nat
 f9:Int
 cy:Bool
 done:Bool
 ctx:Int
 eH:List V
 d1:List V
 bP:List V
 da:List V
 ed:List V
 cO:List V
 cw:Nat
 eU:aw
 lm:Nat
 jd:Bool
 g7:Bool
 gq:Bool
noncomputable abbrev Wf:aw:=[114,111,119]
noncomputable abbrev We:aw:=[99,101,108,108]
noncomputable abbrev dK:aw:=[98]
noncomputable abbrev iM:aw:=[110]
noncomputable def Dq:List (aw×V):=[(cX,.A 658),(ec,.A 686),(lX,.A 686),(i8,.A 686),(lW,.A 686),(og,.A 686),(ux,.A 686),(oh,.A 686),(mX,.A 693),(A1,.A 700)]
noncomputable def EG(af:br):List (Nat×V):=[(10,.R 5),(0,.R 8),(11,.R 19),(12,.R 21),(13,.S af.bH),(14,.S []),(15,.R af.am),(16,.I (-1)),(17,.I af.f9),(18,.R 24),(19,.B af.cy),(20,.B aP),(21,.B aP),(22,.I af.ctx),
 (23,.S Ui),(24,.R 25),(25,.R 26),(26,.S []),(27,.B aP),(28,.B aP),(29,.B af.done)]
noncomputable def afG:List (Nat×V):=[(2,.R 9),(3,.R 10),(4,.R 11),(5,.R 12),(6,.R 13),(7,.R 14),(8,.R 15),(9,.R 16)]
noncomputable def aeM(af:br):List (aw×V):=[(fT,.R af.cw),(rK,.R 29),(ph,.R af.lm),(kJ,.S af.eU),(rL,.R 31),(xT,.B af.jd),(A2,.B af.g7),(A3,.B af.gq)]
noncomputable def ai(af:br)(D:List O):H:=
 .L af.dig::.T [.S (aJ++32::fm),.S []]::.T [.S aJ,.S aR]::.T [.S aJ,.S fj]::.T [.R 1,.R 2,.R 3] ::
 .S Dq::.T [.S fm,.S xU,.S Ly,.S Wf,.S We,.S i7,.S uw] ::
 .A 503 (EG af)::.A 425 afG::.L af.bo::.L af.bY::.L af.names::.L af.dI ::
 .L af.dH::.L af.b0::.L af.dz::.I af.dU::.L []::.L af.d5 ::
 .A 301 [(0,.R 8),(1,.R 20)]::.L af.ay::.A 133 [(0,.R 8),(1,.R 22)]::.L af.bW::.L af.eH::.I []::.L af.d1::.L [] ::
 .L []::.L af.bP::.L af.da::.L af.ed::.L af.cO::.S (aeM af)::D
noncomputable def bb(m:Nat)(l:List V):Prop:=l.length+m<100000
theorem bb.g{m:Nat}{l:List V}(h:bb m l):l.length<aK:=fO (nQ ..) h
theorem bb.a{m:Nat}{l:List V}{x:V}(h:bb (m+1) l):bb m (l++[x]):=by
 unfold bb at h⊢;rw[ba,dS];lia
theorem bb.s{m i:Nat}{l:List V}{x:V}(h:bb m l):bb m (l.set i x):=by
 unfold bb at h⊢;rw[Aw];exact h
theorem bb.w{m k:Nat}{l:List V}(h:bb (m+k) l):bb m l:=by
 unfold bb at h⊢;lia
structure aQ(m:Nat)(af:br):Prop where
 bo:bb m af.bo
 bY:bb m af.bY
 names:bb m af.names
 dI:bb m af.dI
 dH:bb m af.dH
 b0:bb m af.b0
 dz:bb m af.dz
 d5:bb m af.d5
 ay:bb m af.ay
 bW:bb m af.bW
 eH:bb m af.eH
 d1:bb m af.d1
 bP:bb m af.bP
 da:bb m af.da
 ed:bb m af.ed
 cO:bb m af.cO
 dU:af.dU.length+m<100000
theorem aQ.w{m k:Nat}{af:br}(b:aQ (m+k) af):aQ m af:=⟨b.bo.w,b.bY.w,b.names.w,b.dI.w,b.dH.w,b.b0.w,b.dz.w,b.d5.w,b.ay.w,b.bW.w,b.eH.w,b.d1.w,b.bP.w,b.da.w,b.ed.w,b.cO.w,by have:=b.dU;lia⟩
theorem aQ.b9{m:Nat}{af:br}(b:aQ m af):af.dU.length<aK:=fO (nQ ..) b.dU
noncomputable def bj:bN->Nat->kA
 | .C s _,0=>s
 | .C _ t,n+1=>bj t n
 | .N,_=>.K
noncomputable def g9:kA->ck
 | .W t _=>t
 | _=>.V
noncomputable def dr:kA->bN
 | .W _ b=>b
 | .F _ _ b=>b
 | .G _ _ b=>b
 | .H _ _ b=>b
 | _=>.N
theorem RP(af:br)(D:List O):(ai af D).length=D.length+33:=rfl
theorem bS{D:List O}{o:O}:(D++[o])[D.length]?=ae o:=by rw[gI (cC _),gw];rfl
theorem Jt{D:List O}{o w:O}:(D++[o]).set D.length w=D++[w]:=by rw[AE _ _ (cC _),gw];rfl
theorem bD{af:br}{D:List O}{j:Nat}{o:O}(h:D[j]?=ae o):(ai af D)[j+33]?=ae o:=h
theorem A_{h:H}{n:Nat}{o:O}(q:h[n]?=ae o):qJ h.length (.R n)=false:=by
 have:=(jL.mp q).1;exact decide_eq_false (by lia)
theorem lF{h:H}{n:Nat}{xs ys:List V}{x y:V}(q:h[n]?=ae (.L xs))(w:k8 xs x y=ae ys):z8 h (.R n) x y=ae (.R h.length,h++[.L ys]):=(show(h[n]?.bind (O.cut h (.R n) x y))=_ from dF q (show(k8 xs x y).map _=_ by rw[w];rfl))
noncomputable def Dz(h:H)(n:Nat)(xs:List V):V->Option (V×H)
 | .I u=>if xs.length<aK/\0<=u then(if u<xs.length then ae (gF h (.T (xs.take u.toNat)))else ae (.R n,h))else az
 | _=>az
theorem RQ{h:H}{n:Nat}{xs:List V}{u:Int}{r:V×H}(q:h[n]?=ae (.T xs))(w:Dz h n xs (.I u)=ae r):z8 h (.R n) .N (.I u)=ae r:=(show(h[n]?.bind (O.cut h (.R n) .N (.I u)))=_ from dF q (show(if V.N=V.N then Dz h n xs (.I u)else az)=_ from eG ab w))
theorem a8{h:H}{n:Nat}{xs:List V}{k:Int}{r:V}(q:h[n]?=ae (.T xs))(w:gc xs k=ae r):qH h (.R n) (.I k)=ae r:=(show(h[n]?.bind λo=>o.at _)=_ from dF q w)
theorem bX{h:H}{n:Nat}{xs:List V}{k:Int}{r:V}(q:h[n]?=ae (.L xs))(w:gc xs k=ae r):qH h (.R n) (.I k)=ae r:=(show(h[n]?.bind λo=>o.at _)=_ from dF q w)
theorem bc{xs:List V}{i:Nat}{r:V}(w:xs.length<aK)(l:xs[i]?=ae r):gc xs (i:Int)=ae r:=RH w l
theorem iu{xs:List V}{r:V}(w:xs.length<aK)(l:xs.getLast?=ae r):gc xs (-1)=ae r:=eG w ((if_neg (by decide)).trans (eG (FK l).1 (FK l).2))
theorem UX{xs:List V}{r:V}(w:xs.length<aK)(l:xs.getLast?=ae r):gc xs ((xs.length:Int)-1)=ae r:=by
 have z:=FK l;rw[Int.add_comm]at z;exact eG w ((if_pos z.1).trans z.2)
end
section
section
variable{af:br}{D:List O}{k m:Nat}
theorem yo(b:aQ m af):aA ao (k+1) 242 [.R 19] (ai af D)=ae (.I af.ay.length,ai af D):=cJ ab ab (b2 (cQ (gk (aW (ah ab) ab ab) ab (bb.g (aQ.ay b)))) b1)
theorem Jy(b:aQ m af)(v:V):aA ao (k+1) 221 [.R 19,v] (ai af D)=ae (.N,ai {af with ay:=af.ay++[v]} D):=cV rfl rfl (aq (bu (dW (aW (ah rfl) rfl rfl) rfl (ah rfl) rfl (bb.g (aQ.ay b)))) aF)
theorem ya(b:aQ m af)(w:aw):aA ao (k+1) 458 [.R 7,.S w] (ai af D)=ae (.N,ai {af with d1:=af.d1++[.R (D.length+33)]} (D++[.T [.S w,.S af.bH]])):=cV rfl rfl (aq (bu (dW (aW (ah rfl) rfl rfl) rfl (dj (ar (ah rfl) (ar (aW (ah rfl) rfl rfl) aO)) (aN rfl)) rfl (bb.g (aQ.d1 b)))) aF)
theorem DE(m:aw):aA ao (k+1) 465 [.R 7,.S m] (ai af D)=ae (.N,ai {af with bH:=m} D):=cV rfl rfl (aq (w5 (ah rfl) (ah rfl) (w8 rfl (aN rfl))) aF)
theorem DA(b:aQ m af){v:V}(l:af.ay.getLast?=ae v)(n:(af.ay.length:Int)≠0):aA ao (k+1) 228 [.R 19] (ai af D)=ae (v,ai {af with ay:=af.ay.dropLast} D):=cJ rfl rfl (aq (aM (aI (gk (aW (ah rfl) rfl rfl) rfl (bb.g (aQ.ay b))) aj (iO n)) (a_ aF)) (b2 (cQ (pz (aW (ah rfl) rfl rfl) rfl (bb.g (aQ.ay b)) l)) b1))
theorem A8(b:aQ m af){v:V}(l:af.ay.getLast?=ae v)(n:(af.ay.length:Int)≠0):aA ao (k+1) 235 [.R 19] (ai af D)=ae (v,ai af D):=cJ ab ab (aq (aM (aI (gk (aW (ah ab) ab ab) ab (bb.g (aQ.ay b))) aj (iO n)) (a_ aF)) (b2 (cQ (aH (aW (ah ab) ab ab) (fv (gk (aW (ah ab) ab ab) ab (bb.g (aQ.ay b))) aj ab) (bX ab (UX (bb.g (aQ.ay b)) l)))) b1))
theorem UI(b:aQ m af)(n:(af.ay.length:Int)=1)(c:af.ctx≠-1):aA ao (k+2) 493 [.R 7] (ai af D)=ae (.I af.ctx,ai af D):=by
 have c1:=yo (af:=af) (D:=D) (k:=k) b;exact cJ ab ab (b2 (aM (dp (aI (dn (b5 (aW (ah ab) ab ab) ab ab ab aO c1) ab) aj (Lz n)) (fu (aI (aW (ah ab) ab ab) aj (lZ c)))) (cN (b2 (cQ (aW (ah ab) ab ab)) b1))) b1)
theorem Et(b:aQ m af){i:Nat}(l:af.ay.getLast?=ae (.I i))(n0:(af.ay.length:Int)≠0)(n:(af.ay.length:Int)≠1):aA ao (k+2) 493 [.R 7] (ai af D)=ae (.I i,ai af D):=by
 have c1:=yo (af:=af) (D:=D) (k:=k) b;have bf:=A8 (af:=af) (D:=D) (k:=k) b l n0;exact cJ ab ab (aq (aM (dp (aI (dn (b5 (aW (ah ab) ab ab) ab ab ab aO c1) ab) aj (iO n)) fS) (a_ aF)) (b2 (cQ (dn (b5 (aW (ah ab) ab ab) ab ab ab aO bf) ab)) b1))
theorem ki(i:Nat):(i:Int)≠-1:=by lia
theorem abf(b:aQ m af){i:Nat}{nm:aw}(l:af.ay.getLast?=ae (.I i))(n:(af.ay.length:Int)≠0)(s:af.bY[i]?=ae (.S aJ))(t:af.names[i]?=ae (.S nm)):aA ao (k+2) 277 [.R 19] (ai af D)=ae (.S nm,ai af D):=by
 have bf:=A8 (af:=af) (D:=D) (k:=k) b l n;have c3:=ki i;exact cJ ab ab (aq (bM (dn (b5 (ah ab) ab ab ab aO bf) ab)) (aq (aM (jy (aI (ah ab) aj (iO c3)) (ng (aI (aH (aW (aW (ah ab) ab ab) ab ab) (ah ab) (bX ab (bc (bb.g (aQ.bY b)) s))) aj iP))) (a_ aF)) (b2 (cQ (aH (aW (aW (ah ab) ab ab) ab ab) (ah ab) (bX ab (bc (bb.g (aQ.names b)) t)))) b1)))
theorem abe(b:aQ m af){i:Nat}{sp:aw}(l:af.ay.getLast?=ae (.I i))(n:(af.ay.length:Int)≠0)(s:af.bY[i]?=ae (.S sp))(w:sp≠aJ):aA ao (k+2) 277 [.R 19] (ai af D)=ae (.S [],ai af D):=by
 have bf:=A8 (af:=af) (D:=D) (k:=k) b l n;have c3:=ki i;exact cJ ab ab (aq (bM (dn (b5 (ah ab) ab ab ab aO bf) ab)) (b2 (aM (jy (aI (ah ab) aj (iO c3)) (ng (aI (aH (aW (aW (ah ab) ab ab) ab ab) (ah ab) (bX ab (bc (bb.g (aQ.bY b)) s))) aj (oi w)))) (cN (b2 (cQ aj) b1))) b1))
theorem aad(b:aQ m af){i:Nat}{nm:aw}(s:af.bY[i]?=ae (.S aJ))(t:af.names[i]?=ae (.S nm)):aA ao (k+1) 422 [.R 8,.I i,.S nm] (ai af D)=ae (.B aB,ai af D):=by
 have c3:=ki i;exact cJ ab ab (b2 (cQ (pw (dp (aI (ah ab) aj (lZ c3)) (fu (dp (aI (aH (aW (ah ab) ab ab) (ah ab) (bX ab (bc (bb.g (aQ.bY b)) s))) aj dk) (fu (aI (aH (aW (ah ab) ab ab) (ah ab) (bX ab (bc (bb.g (aQ.names b)) t))) (ah ab) dk))))))) b1)
theorem aab(b:aQ m af){i:Nat}{nm sp:aw}(s:af.bY[i]?=ae (.S sp))(w:sp≠aJ):aA ao (k+1) 422 [.R 8,.I i,.S nm] (ai af D)=ae (.B aP,ai af D):=by
 have c3:=ki i;exact cJ ab ab (b2 (cQ (pw (dp (aI (ah ab) aj (lZ c3)) (fu (dp (aI (aH (aW (ah ab) ab ab) (ah ab) (bX ab (bc (bb.g (aQ.bY b)) s))) aj (bL w)) fS))))) b1)
theorem aac(b:aQ m af){i:Nat}{nm n2:aw}(s:af.bY[i]?=ae (.S aJ))(t:af.names[i]?=ae (.S n2))(w:n2≠nm):aA ao (k+1) 422 [.R 8,.I i,.S nm] (ai af D)=ae (.B aP,ai af D):=by
 have c3:=ki i;exact cJ ab ab (b2 (cQ (pw (dp (aI (ah ab) aj (lZ c3)) (fu (dp (aI (aH (aW (ah ab) ab ab) (ah ab) (bX ab (bc (bb.g (aQ.bY b)) s))) aj dk) (fu (aI (aH (aW (ah ab) ab ab) (ah ab) (bX ab (bc (bb.g (aQ.names b)) t))) (ah ab) (bL w)))))))) b1)
theorem Zp(b:aQ m af){i:Nat}(n:(af.ay.length:Int)=1)(c:af.ctx=i)(s:af.bY[i]?=ae (.S aJ)):aA ao (k+3) 500 [.R 7] (ai af D)=ae (.B aP,ai af D):=by
 have c3:=ki i;have c1:=UI (af:=af) (D:=D) (k:=k) b n (by rw[c];exact c3);rw[c]at c1;exact cJ rfl rfl (aq (bM (dn (b5 (ah rfl) rfl rfl rfl aO c1) rfl)) (b2 (cQ (dp (aI (ah rfl) aj (lZ c3)) (fu (aI (aH (aW (aW (ah rfl) rfl rfl) rfl rfl) (ah rfl) (bX rfl (bc (bb.g (aQ.bY b)) s))) aj iP)))) b1))
theorem Zq(b:aQ m af){i:Nat}(l:af.ay.getLast?=ae (.I i))(n0:(af.ay.length:Int)≠0)(n:(af.ay.length:Int)≠1)(s:af.bY[i]?=ae (.S aJ)):aA ao (k+3) 500 [.R 7] (ai af D)=ae (.B aP,ai af D):=by
 have c3:=ki i;have c1:=Et (af:=af) (D:=D) (k:=k) b l n0 n;exact cJ ab ab (aq (bM (dn (b5 (ah ab) ab ab ab aO c1) ab)) (b2 (cQ (dp (aI (ah ab) aj (lZ c3)) (fu (aI (aH (aW (aW (ah ab) ab ab) ab ab) (ah ab) (bX ab (bc (bb.g (aQ.bY b)) s))) aj iP)))) b1))
theorem Zr(b:aQ m af){i:Nat}{sp:aw}(l:af.ay.getLast?=ae (.I i))(n0:(af.ay.length:Int)≠0)(n:(af.ay.length:Int)≠1)(s:af.bY[i]?=ae (.S sp))(w:sp≠aJ):aA ao (k+3) 500 [.R 7] (ai af D)=ae (.B aB,ai af D):=by
 have c3:=ki i;have c1:=Et (af:=af) (D:=D) (k:=k) b l n0 n;exact cJ ab ab (aq (bM (dn (b5 (ah ab) ab ab ab aO c1) ab)) (b2 (cQ (dp (aI (ah ab) aj (lZ c3)) (fu (aI (aH (aW (aW (ah ab) ab ab) ab ab) (ah ab) (bX ab (bc (bb.g (aQ.bY b)) s))) aj (oi w))))) b1))
theorem aaY(b:aQ m af):aA ao (k+1) 81 [.R 21] (ai af D)=ae (.N,ai {af with bW:=af.bW++[.I (-1)]} D):=cV rfl rfl (aq (bu (dW (aW (ah rfl) rfl rfl) rfl aj rfl (bb.g (aQ.bW b)))) aF)
end
end
section
section
variable{af:br}{D:List O}{k m:Nat}
noncomputable def hU(af:br)(aT sp nm dd:aw)(a c:Nat):br:={af with bo:=af.bo++[.S aT],bY:=af.bY++[.S sp],names:=af.names++[.S nm],dI:=af.dI++[.R a],dH:=af.dH++[.S dd],b0:=af.b0++[.I (-1)],dz:=af.dz++[.R c]}
theorem rW{l:List V}{x:V}:((l++[x]).length:Int)-1=l.length:=by rw[ba,dS];lia
theorem UH(b:aQ (m+1) af)(aT sp nm dd:aw){a:Nat}{as:List V}(g:D[a]?=ae (.T as))(w:as.length<aK):aA ao (k+1) 335 [.R 8,.S aT,.S sp,.S nm,.R (a+33),.S dd] (ai af D)=ae (.I (((af.bo++[V.S aT]).length:Int)-1),ai (hU af aT sp nm dd (D.length+33) ((D++[O.L as]).length+33)) (D++[O.L as]++[.L []])):=cJ ab ab (aq (bu (dW (aW (ah ab) ab ab) ab (ah ab) ab (bb.g (aQ.bo b)))) (aq (bu (dW (aW (ah ab) ab ab) ab (ah ab) ab (bb.g (aQ.bY b)))) (aq (bu (dW (aW (ah ab) ab ab) ab (ah ab) ab (bb.g (aQ.names b)))) (aq (bu (dW (aW (ah ab) ab ab) ab (x7 (ah ab) (bE g) w) ab (bb.g (aQ.dI b)))) (aq (bu (dW (aW (ah ab) ab ab) ab (ah ab) ab (bb.g (aQ.dH b)))) (aq (bu (dW (aW (ah ab) ab ab) ab aj ab (bb.g (aQ.b0 b)))) (aq (bu (dW (aW (ah ab) ab ab) ab (eW aO (aN ab)) ab (bb.g (aQ.dz b)))) (b2 (cQ (fv (gk (aW (ah ab) ab ab) ab (bb.g (bb.a (aQ.bo b)))) aj ab)) b1))))))))
theorem Lb(b:aQ (m+1) af)(aT sp nm:aw){a:Nat}{as:List V}(g:D[a]?=ae (.T as))(w:as.length<aK):aA ao (k+1) 335 [.R 8,.S aT,.S sp,.S nm,.R (a+33)] (ai af D)=ae (.I (((af.bo++[V.S aT]).length:Int)-1),ai (hU af aT sp nm [] (D.length+33) ((D++[O.L as]).length+33)) (D++[O.L as]++[.L []])):=cJ ab ab (aq (bu (dW (aW (ah ab) ab ab) ab (ah ab) ab (bb.g (aQ.bo b)))) (aq (bu (dW (aW (ah ab) ab ab) ab (ah ab) ab (bb.g (aQ.bY b)))) (aq (bu (dW (aW (ah ab) ab ab) ab (ah ab) ab (bb.g (aQ.names b)))) (aq (bu (dW (aW (ah ab) ab ab) ab (x7 (ah ab) (bE g) w) ab (bb.g (aQ.dI b)))) (aq (bu (dW (aW (ah ab) ab ab) ab (ah ab) ab (bb.g (aQ.dH b)))) (aq (bu (dW (aW (ah ab) ab ab) ab aj ab (bb.g (aQ.b0 b)))) (aq (bu (dW (aW (ah ab) ab ab) ab (eW aO (aN ab)) ab (bb.g (aQ.dz b)))) (b2 (cQ (fv (gk (aW (ah ab) ab ab) ab (bb.g (bb.a (aQ.bo b)))) aj ab)) b1))))))))
theorem Lc(b:aQ (m+1) af)(aT sp nm:aw):aA ao (k+1) 335 [.R 8,.S aT,.S sp,.S nm,.T] (ai af D)=ae (.I (((af.bo++[V.S aT]).length:Int)-1),ai (hU af aT sp nm [] (D.length+33) ((D++[O.L []]).length+33)) (D++[O.L []]++[.L []])):=cJ ab ab (aq (bu (dW (aW (ah ab) ab ab) ab (ah ab) ab (bb.g (aQ.bo b)))) (aq (bu (dW (aW (ah ab) ab ab) ab (ah ab) ab (bb.g (aQ.bY b)))) (aq (bu (dW (aW (ah ab) ab ab) ab (ah ab) ab (bb.g (aQ.names b)))) (aq (bu (dW (aW (ah ab) ab ab) ab (Bc (ah ab)) ab (bb.g (aQ.dI b)))) (aq (bu (dW (aW (ah ab) ab ab) ab (ah ab) ab (bb.g (aQ.dH b)))) (aq (bu (dW (aW (ah ab) ab ab) ab aj ab (bb.g (aQ.b0 b)))) (aq (bu (dW (aW (ah ab) ab ab) ab (eW aO (aN ab)) ab (bb.g (aQ.dz b)))) (b2 (cQ (fv (gk (aW (ah ab) ab ab) ab (bb.g (bb.a (aQ.bo b)))) aj ab)) b1))))))))
theorem Ld(b:aQ (m+1) af)(aT:aw):aA ao (k+1) 335 [.R 8,.S aT] (ai af D)=ae (.I (((af.bo++[V.S aT]).length:Int)-1),ai (hU af aT [] [] [] (D.length+33) ((D++[O.L []]).length+33)) (D++[O.L []]++[.L []])):=cJ ab ab (aq (bu (dW (aW (ah ab) ab ab) ab (ah ab) ab (bb.g (aQ.bo b)))) (aq (bu (dW (aW (ah ab) ab ab) ab (ah ab) ab (bb.g (aQ.bY b)))) (aq (bu (dW (aW (ah ab) ab ab) ab (ah ab) ab (bb.g (aQ.names b)))) (aq (bu (dW (aW (ah ab) ab ab) ab (Bc (ah ab)) ab (bb.g (aQ.dI b)))) (aq (bu (dW (aW (ah ab) ab ab) ab (ah ab) ab (bb.g (aQ.dH b)))) (aq (bu (dW (aW (ah ab) ab ab) ab aj ab (bb.g (aQ.b0 b)))) (aq (bu (dW (aW (ah ab) ab ab) ab (eW aO (aN ab)) ab (bb.g (aQ.dz b)))) (b2 (cQ (fv (gk (aW (ah ab) ab ab) ab (bb.g (bb.a (aQ.bo b)))) aj ab)) b1))))))))
theorem aQ.add(b:aQ (m+1) af)(aT sp nm dd:aw)(a c:Nat):aQ m (hU af aT sp nm dd a c):=
 ⟨b.bo.a,b.bY.a,b.names.a,b.dI.a,b.dH.a,b.b0.a,b.dz.a,b.d5.w,b.ay.w,b.bW.w,b.eH.w,b.d1.w,b.bP.w,b.da.w,b.ed.w,b.cO.w,show af.dU.length+m<100000 from(b.w (k:=1)).dU⟩
theorem afF(b:aQ (m+1) af)(dd:aw):aA ao (k+2) 351 [.R 8,.S dd] (ai af D)=ae (.I (af.bo.length:Int),ai (hU af gQ [] [] dd ((D++[O.T []]).length+33) ((D++[O.T []]++[O.L []]).length+33)) (D++[O.T []]++[O.L []]++[O.L []])):=by
 have c:=UH (af:=af) (D:=D++[O.T []]) (k:=k) b gQ [] [] dd bS (aN rfl);rw[rW]at c;exact cJ rfl rfl (b2 (cQ (b5 (ah rfl) rfl rfl rfl (ar aj (ar aj (ar aj (ar (dj aO (aN rfl)) (ar (ah rfl) aO))))) c)) b1)
theorem Xn(b:aQ (m+1) af)(sp nm:aw){a:Nat}{as:List V}(g:D[a]?=ae (.T as))(w:as.length<aK)(n:sp≠aJ\/nm≠aR):aA ao (k+2) 344 [.R 8,.S nm,.S sp,.R (a+33)] (ai af D)=ae (.I (af.bo.length:Int),ai (hU af fi sp nm [] (D.length+33) ((D++[O.L as]).length+33)) (D++[O.L as]++[.L []])):=by
 have c:=Lb (af:=af) (D:=D) (k:=k) b fi sp nm g w;rw[rW]at c;rcases n with n | n
 .exact cJ ab ab (aq (bM (b5 (ah ab) ab ab ab (ar aj (ar (ah ab) (ar (ah ab) (ar (ah ab) aO)))) c)) (aq (aM (dp (aI (ah ab) aj (bL n)) fS) (a_ aF)) (b2 (cQ (ah ab)) b1)))
 .by_cases e:sp=aJ
  .subst e;(exact cJ ab ab (aq (bM (b5 (ah ab) ab ab ab (ar aj (ar (ah ab) (ar (ah ab) (ar (ah ab) aO)))) c)) (aq (aM (dp (aI (ah ab) aj dk) (fu (aI (ah ab) aj (bL n)))) (a_ aF)) (b2 (cQ (ah ab)) b1))))
  .exact cJ ab ab (aq (bM (b5 (ah ab) ab ab ab (ar aj (ar (ah ab) (ar (ah ab) (ar (ah ab) aO)))) c)) (aq (aM (dp (aI (ah ab) aj (bL e)) fS) (a_ aF)) (b2 (cQ (ah ab)) b1)))
noncomputable def qE(af:br)(D:List O)(as:List V):br:=hU af fi aJ aR [] (D.length+33) ((D++[O.L as]).length+33)
noncomputable def m4(D:List O)(as:List V):List O:=D++[.L as]++[.L []]
noncomputable def Bd(af:br)(D:List O)(as:List V):br:={hU (qE af D as) oe [] [] [] ((m4 D as).length+33) ((m4 D as++[O.L []]).length+33)with dU:=gm (af.bo.length:Int) (.I (qE af D as).bo.length) af.dU}
theorem Xo(b:aQ (m+2) af){a:Nat}{as:List V}(g:D[a]?=ae (.T as))(w:as.length<aK):aA ao (k+2) 344 [.R 8,.S aR,.S aJ,.R (a+33)] (ai af D)=ae (.I (af.bo.length:Int),ai (Bd af D as) (m4 D as++[O.L []]++[.L []])):=by
 have c:=Lb (af:=af) (D:=D) (k:=k) b fi aJ aR g w;rw[rW]at c;have bQ:aQ (m+1) (qE af D as):=b.add ..;have bf:=Ld (af:=qE af D as) (D:=m4 D as) (k:=k) bQ oe;rw[rW]at bf;have cb:=b.b9;exact cJ rfl rfl (aq (bM (b5 (ah rfl) rfl rfl rfl (ar aj (ar (ah rfl) (ar (ah rfl) (ar (ah rfl) aO)))) c)) (aq (aM (dp (aI (ah rfl) aj dk) (fu (aI (ah rfl) aj dk))) (cN (aq (iD (b5 (ah rfl) rfl rfl rfl (ar aj aO) bf) (aW (ah rfl) rfl rfl) (ah rfl) (RI rfl cb)) aF))) (b2 (cQ (ah rfl)) b1)))
end
end
section
section
variable{af:br}{D:List O}{k m:Nat}
noncomputable def aV(n:Nat):V:=.I n
noncomputable def fJ(af:br):Prop:=∀i,i<af.b0.length->af.b0[i]?=ae (.I (-1))\/∃j:Nat,j<i/\af.b0[i]?=ae (.I j)
theorem K4{cl:Nat->List V->H->Option (V×H)}(b:aQ m af){p:Option V}{v:V}{u:Nat}{acc:List V}(g:acc.length<aK)(q:af.b0[u]?=ae v):
 b3 ao cl (dr (bj AY 2)) [ae (.R 8),p,ae (.R (D.length+33)),ae (.I u)] (ai af (D++[O.L acc]))=ae (.N,[ae (.R 8),p,ae (.R (D.length+33)),ae v],ai af (D++[O.L (acc++[aV u])])):=by
 have e:(ai af (D++[O.L acc])).set (D.length+33) (O.L (acc++[aV u]))=ai af (D++[O.L (acc++[aV u])]):=congrArg (ai af) Jt
 rw[<- e]
 exact aq (bu (dW (ah ab) (bD bS) (ah ab) (bD bS) g)) (aq (bM (aH (aW (ah ab) ab ab) (ah ab) (bX ab (bc (bb.g (aQ.b0 b)) q)))) aF)
theorem K5{cl:Nat->List V->H->Option (V×H)}(b:aQ m af)(pi:fJ af){p:Option V}(f:Nat):(n u:Nat)->(acc:List V)->u<n->u<af.b0.length->acc.length+n<100000->
 ∃l:List Nat,(∀x∈l,x<=u)/\fB ao cl (g9 (bj AY 2)) (dr (bj AY 2)) (f+n+1) [ae (.R 8),p,ae (.R (D.length+33)),ae (.I u)] (ai af (D++[O.L acc]))=ae (.N,[ae (.R 8),p,ae (.R (D.length+33)),ae (.I (-1))],ai af (D++[O.L (acc++l.map aV)]))
 | 0,u,acc,h,_,_=>absurd h (Km _)
 | n+1,u,acc,h,hl,ha=>by
  have g:acc.length<aK:=fO (nQ ..) ha;have c3:=ki u;rcases pi u hl with q | ⟨j,hj,q⟩
  .refine⟨[u],λx hx=>xu (dx.mp hx),?_⟩;apply mB (n:=f+n+1)
   .exact aI (ah ab) aj (lZ c3)
   .exact tt
   .exact K4 b g q
   .apply q8
    .exact aI (ah ab) aj lY
    .exact fq
  .obtain⟨l,hl',w⟩:=K5 (cl:=cl) b pi (p:=p) f n j (acc++[aV u]) (Ap hj (Nat.le_of_lt_succ h)) (fg hj hl) (by rw[ba,dS];lia);refine⟨u::l,λx hx=>?_,?_⟩
   .rcases d_.mp hx with rfl | hx
    .exact cC _
    .exact nU (fO (hl' x hx) hj)
   .apply mB (n:=f+n+1)
    .exact aI (ah ab) aj (lZ c3)
    .exact tt
    .exact K4 b g q
    .rw[w,cG];rfl
theorem K6(b:aQ m af)(pi:fJ af){p:Nat}(hp:p<af.b0.length)(hs:p<400):∃l:List Nat,(∀x∈l,x<p)/\aA ao (k+1) 436 [.R 8,.I p] (ai af D)=ae (.R (D.length+33),ai af (D++[O.L (l.map aV)])):=by
 rcases pi p hp with q | ⟨j,hj,q⟩
 .refine⟨[],nofun,?_⟩;apply cJ ab ab;apply aq
  .exact bM (eW aO (aN ab))
  apply aq
  .exact bM (aH (aW (ah ab) ab ab) (ah ab) (bX ab (bc (bb.g (aQ.b0 b)) q)))
  apply aq
  .apply oQ;apply q8
   .exact aI (ah ab) aj lY
   .exact fq
  exact b2 (cQ (ah ab)) b1
 .have hj':j<499:=by lia
  obtain⟨l,hl,w⟩:=K5 (af:=af) (D:=D) (cl:=aA ao k) b pi (p:=ae (.I p)) (498-j) (j+1) j [] (Av _) (fg hj hp) (by rw[nT];lia);refine⟨l,λx hx=>fO (hl x hx) hj,?_⟩;rw[show 498-j+(j+1)+1=500 by lia]at w;apply cJ rfl rfl;apply aq
  .exact bM (eW aO (aN ab))
  apply aq
  .exact bM (aH (aW (ah ab) ab ab) (ah ab) (bX ab (bc (bb.g (aQ.b0 b)) q)))
  apply aq
  .apply oQ;exact w
  exact b2 (cQ (ah ab)) b1
theorem Rq(b:aQ m af){n:Nat}(q:af.b0[n]?=ae (.I (-1))):aA ao (k+1) 387 [.R 8,.I n] (ai af D)=ae (.N,ai af D):=cV ab ab (aq (aM (aI (aH (aW (ah ab) ab ab) (ah ab) (bX ab (bc (bb.g (aQ.b0 b)) q))) aj lY) (a_ aF)) aF)
theorem FD(b:aQ m af)(pi:fJ af){p n c:Nat}{xs:List V}(hp:p<n)(aU:n<af.b0.length)(hs:p<400)(q:af.b0[n]?=ae (.I (-1)))(qc:af.dz[p]?=ae (.R (c+33)))(g:D[c]?=ae (.L xs))(w:xs.length<aK):
 aA ao (k+2) 373 [.R 8,.I p,.I n,.I (-1)] (ai af D)=ae (.N,ai {af with b0:=af.b0.set n (.I p)} (D.set c (.L (xs++[aV n])))):=by
 obtain⟨l,hl,c1⟩:=K6 (af:=af) (D:=D) (k:=k) b pi (fg hp aU) hs
 have bf:=Rq (af:=af) (D:=D) (k:=k) b q
 have c3:(n:Int)≠p:=by lia
 have c4:(-1:Int)≠n:=by lia
 have c5:cD .I (ai af (D++[O.L (l.map aV)])) (.I n) (.R (D.length+33))=ae false:=by
  apply Oz (l:=l.map pW) (bD bS)
  .rw[pU];rfl
  .apply decide_eq_false;intro hx;obtain⟨x,hx,e⟩:=ig.mp hx;have:=hl x hx;have e2:(x:Int)=n:=e;lia
 exact cV ab ab (aq (aM (jy (aI (ah ab) (ah ab) (iO c3)) (ng (dG (aI (ah ab) (cu aj (ar (ah ab) (ar (ah ab) aO)) c1) c5) el ab))) (a_ aF)) (aq (aM (dp (aI (ah ab) aj lY) fS) (a_ aF)) (aq (aM (aI (ah ab) (ah ab) (iO c4)) (a_ aF)) (aq (bu (b5 (ah ab) ab ab ab (ar (ah ab) aO) bf)) (aq (bM (gk (aH (aW (ah ab) ab ab) (ah ab) (bX ab (bc (bb.g (aQ.dz b)) qc))) g w)) (aq (aM (aI (ah ab) aj lY) (a_ aF)) (aq (bu (NW (aH (aW (ah ab) ab ab) (ah ab) (bX ab (bc (bb.g (aQ.dz b)) qc))) g (ah ab) (ah ab) g ⟨ab,w⟩)) (aq (iD (ah ab) (aW (ah ab) ab ab) (ah ab) (Js ab (bb.g (aQ.b0 b)) aU)) aF))))))))
theorem aan(b:aQ m af){p c:Nat}(qc:af.dz[p]?=ae (.R (c+33)))(g:D[c]?=ae (.L [])):aA ao (k+1) 408 [.R 8,.I p] (ai af D)=ae (.I (-1),ai af D):=by
 have t:truthy (ai af D) (.R (c+33))=ae false:=by
  exact Sd (bD g) (aN (n:=0) (m:=aK) ab)
 apply cJ ab ab;apply ji;apply aM
 .apply iQ
  .exact aH (aW (ah ab) ab ab) (ah ab) (bX ab (bc (bb.g (aQ.dz b)) qc))
  .exact t
 .exact cN (b2 (cQ aj) b1)
theorem OU(b:aQ m af){p c:Nat}{xs:List V}{v:V}(qc:af.dz[p]?=ae (.R (c+33)))(g:D[c]?=ae (.L xs))(w:xs.length<aK)(l:xs.getLast?=ae v):aA ao (k+1) 408 [.R 8,.I p] (ai af D)=ae (v,ai af D):=by
 have t:truthy (ai af D) (.R (c+33))=ae true:=by
  rw[Sd (bD g) w];cases xs with
  | nil=>cases l
  | cons=>rfl
 apply cJ ab ab;apply aq
 .apply aM
  .apply iQ
   .exact aH (aW (ah ab) ab ab) (ah ab) (bX ab (bc (bb.g (aQ.dz b)) qc))
   .exact t
  .exact a_ aF
 exact b2 (cQ (aH (aH (aW (ah ab) ab ab) (ah ab) (bX ab (bc (bb.g (aQ.dz b)) qc))) aj (bX g (iu w l)))) b1
end
end
section
section
variable{af:br}{D:List O}{k m:Nat}
noncomputable def qe(af:br)(p:Nat):Prop:=(af.ay=[]/\p=0)\/∃i:Nat,af.ay.getLast?=ae (.I i)/\(af.ay.length:Int)≠0/\(af.dU.lookup (i:Int)=ae (.I p)\/(af.dU.lookup (i:Int)=az/\p=i))
noncomputable def AT(D:List O)(at':V)(as:List V):Prop:=(at'=.T/\as=[])\/∃a:Nat,at'=.R (a+33)/\D[a]?=ae (.T as)/\as.length<aK
theorem AT.app{at':V}{as:List V}{X:List O}(h:AT D at' as):AT (D++X) at' as:=by
 rcases h with h | ⟨a,e,g,w⟩
 .exact bB h
 .exact bE ⟨a,e,bl g,w⟩
noncomputable def dh(p:Nat):O:=.T [.I p,.I (-1)]
theorem zW(b:aQ m af){p:Nat}(hh:qe af p):aA ao (k+2) 536 [.R 7] (ai af D)=ae (.R (D.length+33),ai af (D++[dh p])):=by
 rcases hh with⟨e,rfl⟩ | ⟨i,l,n,q⟩
 .have c0:(af.ay.length:Int)=0:=by rw[e];rfl
  have c1:aA ao (k+1) 235 [.R 19] (ai af D)=ae (.I (-1),ai af D):=cJ ab ab (b2 (aM (aI (gk (aW (ah ab) ab ab) ab (bb.g (aQ.ay b))) aj (Lz c0)) (cN (b2 (cQ aj) b1))) b1);exact cJ ab ab (aq (bM (aW (ah ab) ab ab)) (aq (bM (ah ab)) (aq (aM (aI (ah ab) aj pl) (cN (aq (bM (dn (b5 (aW (ah ab) ab ab) ab ab ab aO c1) ab)) aF))) (b2 (aM (aI (ah ab) aj pl) (cN (b2 (cQ (dj (ar aj (ar aj aO)) (aN ab))) b1))) b1))))
 .have c1:=A8 (af:=af) (D:=D) (k:=k) b l n;have bf:=ki i;rcases q with q | ⟨q,rfl⟩
  .have c3:cD .I (ai af D) (.I i) (.R 16)=ae true:=Bv rfl (by rw[q];rfl);exact cJ rfl rfl (aq (bM (aW (ah rfl) rfl rfl)) (aq (bM (ah rfl)) (aq (aM (aI (ah rfl) aj pl) (cN (aq (bM (dn (b5 (aW (ah rfl) rfl rfl) rfl rfl rfl aO c1) rfl)) aF))) (aq (aM (aI (ah rfl) aj (iO bf)) (a_ aF)) (aq (bM aj) (aq (aM (pw (dp (aW (ah rfl) rfl rfl) fS)) (a_ aF)) (b2 (aM (aI (ah rfl) (aW (ah rfl) rfl rfl) c3) (cN (b2 (cQ (dj (ar (aH (aW (ah rfl) rfl rfl) (ah rfl) (Oe rfl q)) (ar aj aO)) (aN rfl))) b1))) b1)))))))
  .have c3:cD .I (ai af D) (.I p) (.R 16)=ae false:=Bv rfl (by rw[q];rfl);exact cJ rfl rfl (aq (bM (aW (ah rfl) rfl rfl)) (aq (bM (ah rfl)) (aq (aM (aI (ah rfl) aj pl) (cN (aq (bM (dn (b5 (aW (ah rfl) rfl rfl) rfl rfl rfl aO c1) rfl)) aF))) (aq (aM (aI (ah rfl) aj (iO bf)) (a_ aF)) (aq (bM aj) (aq (aM (pw (dp (aW (ah rfl) rfl rfl) fS)) (a_ aF)) (aq (aM (aI (ah rfl) (aW (ah rfl) rfl rfl) c3) (a_ aF)) (b2 (cQ (dj (ar (ah rfl) (ar (ah rfl) aO)) (aN rfl))) b1))))))))
theorem N3(b:aQ (m+1) af)(sp nm:aw){at':V}{as:List V}(a:AT D at' as)(n:sp≠aJ\/nm≠aR):aA ao (k+2) 344 [.R 8,.S nm,.S sp,at'] (ai af D)=ae (.I (af.bo.length:Int),ai (hU af fi sp nm [] (D.length+33) ((D++[O.L as]).length+33)) (D++[O.L as]++[O.L []])):=by
 rcases a with⟨rfl,rfl⟩ | ⟨a,rfl,g,w⟩
 .have c:=Lc (af:=af) (D:=D) (k:=k) b fi sp nm;rw[rW]at c;rcases n with n | n
  .exact cJ ab ab (aq (bM (b5 (ah ab) ab ab ab (ar aj (ar (ah ab) (ar (ah ab) (ar (ah ab) aO)))) c)) (aq (aM (dp (aI (ah ab) aj (bL n)) fS) (a_ aF)) (b2 (cQ (ah ab)) b1)))
  .by_cases e:sp=aJ
   .subst e;(exact cJ ab ab (aq (bM (b5 (ah ab) ab ab ab (ar aj (ar (ah ab) (ar (ah ab) (ar (ah ab) aO)))) c)) (aq (aM (dp (aI (ah ab) aj dk) (fu (aI (ah ab) aj (bL n)))) (a_ aF)) (b2 (cQ (ah ab)) b1))))
   .exact cJ ab ab (aq (bM (b5 (ah ab) ab ab ab (ar aj (ar (ah ab) (ar (ah ab) (ar (ah ab) aO)))) c)) (aq (aM (dp (aI (ah ab) aj (bL e)) fS) (a_ aF)) (b2 (cQ (ah ab)) b1)))
 .exact Xn b sp nm g w n
theorem fw{o:O}:(D++[o]).length=D.length+1:=by rw[ba,dS]
theorem fJ.add(pi:fJ af){aT sp nm dd:aw}{a c:Nat}:fJ (hU af aT sp nm dd a c):=by
 intro i h;show(af.b0++[.I (-1)])[i]?=_\/_;by_cases e:i<af.b0.length
 .rcases pi i e with q | ⟨j,hj,q⟩
  .exact bB (by rw[gh e];exact q)
  .exact bE ⟨j,hj,by show(af.b0++[.I (-1)])[i]?=_;rw[gh e];exact q⟩
 .have e2:(af.b0++[V.I (-1)]).length=af.b0.length+1:=by rw[ba,dS]
  have e3:i<(af.b0++[V.I (-1)]).length:=h;have e4:i=af.b0.length:=by lia
  subst e4;left;rw[gI (cC _),gw];rfl
theorem Ft{l:List V}{v:V}{n:Nat}(e:l.length=n):(l++[v])[n]?=ae v:=by rw[<- e,gI (cC _),gw];rfl
theorem JF{l:List V}{v w:V}{n:Nat}(e:l.length=n):(l++[v]).set n w=l++[w]:=by rw[<- e,AE _ _ (cC _),gw];rfl
theorem yd{l X:List V}{v:V}{i:Nat}(q:l[i]?=ae v):(l++X)[i]?=ae v:=by
 rw[gh (jL.mp q).1];exact q
theorem pQ{X:List O}{c:Nat}{o w:O}(q:D[c]?=ae o):(D++X).set c w=D.set c w++X:=by
 rw[List.set_append_left _ _ (jL.mp q).1]
theorem FY{v1 v2 v3 r:V}{aD:H}(c:aA ao (k+2) 344 [.R 8,v1,v2,v3] (ai af D)=ae (r,aD)):aA ao (k+3) 551 [.R 7,v1,v3,v2] (ai af D)=ae (r,aD):=cJ ab ab (b2 (cQ (b5 (aW (ah ab) ab ab) ab ab ab (ar (ah ab) (ar (ah ab) (ar (ah ab) aO))) c)) b1)
noncomputable def Oh(af:br)(D:List O)(sp nm:aw)(p:Nat):br:={hU af fi sp nm [] (D.length+1+33) (D.length+2+33)with b0:=af.b0++[.I p],ay:=af.ay++[aV af.bo.length]}
noncomputable def Bo(af:br)(D:List O)(p c:Nat)(xs as:List V):List O:=D.set c (.L (xs++[aV af.bo.length]))++[dh p,.L as,.L []]
theorem Oi(b:aQ (m+1) af)(pi:fJ af)(aL:af.b0.length=af.bo.length)(sp nm:aw){at':V}{as xs:List V}(a:AT D at' as)(n:sp≠aJ\/nm≠aR){p c:Nat}(hh:qe af p)(hp:p<af.bo.length)(hs:p<400)
 (qc:af.dz[p]?=ae (.R (c+33))) (g:D[c]?=ae (.L xs)) (w:xs.length<aK):
 aA ao (k+4) 560 [.R 7,.S nm,at',.S sp] (ai af D)=ae (.I (af.bo.length:Int),ai (Oh af D sp nm p) (Bo af D p c xs as)):=by
 have c1:=zW (af:=af) (D:=D) (k:=k+1) b hh
 have bf:=N3 (af:=af) (D:=D++[dh p]) (k:=k) b sp nm a.app n
 have c3:=FY bf
 have pi2:=pi.add (aT:=fi) (sp:=sp) (nm:=nm) (dd:=[]) (a:=(D++[dh p]).length+33) (c:=(D++[dh p]++[O.L as]).length+33)
 have bQ:=b.add fi sp nm [] ((D++[dh p]).length+33) ((D++[dh p]++[O.L as]).length+33)
 have c4:=FD (D:=D++[dh p]++[O.L as]++[O.L []]) (k:=k+1) (p:=p) (n:=af.bo.length) (c:=c) bQ pi2 hp (by show af.bo.length<(af.b0++[V.I (-1)]).length;rw[ba,dS];lia) hs (Ft aL) (yd qc) (bl (bl (bl g))) w
 have e:ai (Oh af D sp nm p) (Bo af D p c xs as)=ai {({hU af fi sp nm [] ((D++[dh p]).length+33) ((D++[dh p]++[O.L as]).length+33)with b0:=(af.b0++[V.I (-1)]).set af.bo.length (.I p)}:br)with ay:=af.ay++[aV af.bo.length]} ((D++[dh p]++[O.L as]++[O.L []]).set c (.L (xs++[aV af.bo.length]))):=by
  rw[fw (D:=D++[dh p]),fw,JF aL,pQ (bl (bl g)),pQ (bl g),pQ g,cG,cG];rfl
 rw[e]
 have kZ:=bQ.ay
 have c5:=Jy (af:={hU af fi sp nm [] ((D++[dh p]).length+33) ((D++[dh p]++[O.L as]).length+33)with b0:=(af.b0++[V.I (-1)]).set af.bo.length (.I p)}) (D:=(D++[dh p]++[O.L as]++[O.L []]).set c (.L (xs++[aV af.bo.length]))) (k:=k+2) (m:=m) ⟨bQ.bo,bQ.bY,bQ.names,bQ.dI,bQ.dH,bQ.b0.s,bQ.dz,bQ.d5,bQ.ay,bQ.bW,bQ.eH,bQ.d1,bQ.bP,bQ.da,bQ.ed,bQ.cO,bQ.dU⟩ (aV af.bo.length)
 exact cJ ab ab (aq (t7 (cu aj (ar (ah ab) aO) c1) (bD bS)) (aq (bM (cu aj (ar (ah ab) (ar (ah ab) (ar (ah ab) (ar (ah ab) aO)))) c3)) (aq (bu (b5 (aW (ah ab) ab ab) ab ab ab (ar (ah ab) (ar (ah ab) (ar (ah ab) aO))) c4)) (aq (bu (b5 (aW (ah ab) ab ab) ab ab ab (ar (ah ab) aO) c5)) (b2 (cQ (ah ab)) b1)))))
end
end
section
section
variable{af:br}{D:List O}{k m:Nat}
theorem Xp(b:aQ (m+2) af){at':V}{as:List V}(a:AT D at' as):aA ao (k+2) 344 [.R 8,.S aR,.S aJ,at'] (ai af D)=ae (.I (af.bo.length:Int),ai (Bd af D as) (m4 D as++[.L []]++[.L []])):=by
 rcases a with⟨rfl,rfl⟩ | ⟨a,rfl,g,w⟩
 .have c:=Lc (af:=af) (D:=D) (k:=k) (m:=m+1) b fi aJ aR;rw[rW]at c;have bQ:aQ (m+1) (qE af D []):=b.add ..;have bf:=Ld (af:=qE af D []) (D:=m4 D []) (k:=k) bQ oe;rw[rW]at bf;have cb:=b.b9;exact cJ rfl rfl (aq (bM (b5 (ah rfl) rfl rfl rfl (ar aj (ar (ah rfl) (ar (ah rfl) (ar (ah rfl) aO)))) c)) (aq (aM (dp (aI (ah rfl) aj dk) (fu (aI (ah rfl) aj dk))) (cN (aq (iD (b5 (ah rfl) rfl rfl rfl (ar aj aO) bf) (aW (ah rfl) rfl rfl) (ah rfl) (RI rfl cb)) aF))) (b2 (cQ (ah rfl)) b1)))
 .exact Xo b g w
noncomputable def pB(af:br)(D:List O):br:={af with
 bo:=af.bo++[.S fi]++[.S oe],bY:=af.bY++[.S aJ]++[.S []],names:=af.names++[.S aR]++[.S []],dI:=af.dI++[.R (D.length+33)]++[.R (D.length+2+33)]
 dH:=af.dH++[.S []]++[.S []],b0:=af.b0++[.I (-1)]++[.I (-1)],dz:=af.dz++[.R (D.length+1+33)]++[.R (D.length+3+33)],dU:=gm (af.bo.length:Int) (.I (af.bo.length+1:Nat)) af.dU}
theorem Xm{as:List V}:ai (Bd af D as) (m4 D as++[O.L []]++[O.L []])=ai (pB af D) (D++[.L as,.L [],.L [],.L []]):=by
 have e1:(m4 D as).length=D.length+2:=by unfold m4;rw[fw,fw]
 have e2:(m4 D as++[O.L []]).length=D.length+3:=by rw[fw,e1]
 have e3:(qE af D as).bo.length=af.bo.length+1:=by
  show(af.bo++[_]).length=_;rw[ba,dS]
 unfold Bd;rw[e1,e2,e3];unfold m4 qE;rw[fw,cG,cG,cG];rfl
noncomputable def m8(af:br)(D:List O)(p:Nat):br:={pB af (D++[dh p])with b0:=af.b0++[.I p]++[.I (-1)],ay:=af.ay++[aV af.bo.length]}
noncomputable def m9(af:br)(D:List O)(p c:Nat)(xs as:List V):List O:=D.set c (.L (xs++[aV af.bo.length]))++[dh p,.L as,.L [],.L [],.L []]
theorem afu{l:List V}{v w u:V}{n:Nat}(e:l.length=n):(l++[v]++[u]).set n w=l++[w]++[u]:=by rw[cG,<-e,AE _ _ (cC _),gw,cG];rfl
theorem Ol{l:List V}{v u:V}{n:Nat}(e:l.length=n):(l++[v]++[u])[n]?=ae v:=by rw[cG,<-e,gI (cC _),gw];rfl
theorem fJ.Bl(pi:fJ af):fJ (pB af D):=(pi.add (aT:=[]) (sp:=[]) (nm:=[]) (dd:=[]) (a:=0) (c:=0)).add (aT:=[]) (sp:=[]) (nm:=[]) (dd:=[]) (a:=0) (c:=0)
theorem wu{bg:Type}[BEq bg]{x:bg}{v:V}:(l:List (bg×V))->(gm x v l).length<=l.length+1
 | []=>cC _
 | e::r=>by
  unfold gm;cases x==e.1 with
  | true=>exact fA _
  | false=>exact Kj (wu r)
theorem aQ.Bl(b:aQ (m+2) af):aQ m (pB af D):=by
 have c:=b.dU
 exact⟨b.bo.a.a,b.bY.a.a,b.names.a.a,b.dI.a.a,b.dH.a.a,b.b0.a.a,b.dz.a.a,b.d5.w,b.ay.w,b.bW.w,b.eH.w,b.d1.w,b.bP.w,b.da.w,b.ed.w,b.cO.w,by
  have:=wu (x:=(af.bo.length:Int)) (v:=.I (af.bo.length+1:Nat)) af.dU;show(gm _ _ af.dU).length+m<100000;lia⟩
theorem ZG(b:aQ (m+3) af)(pi:fJ af)(aL:af.b0.length=af.bo.length){at':V}{as xs:List V}(a:AT D at' as){p c:Nat}(hh:qe af p)(hp:p<af.bo.length)(hs:p<400)
 (qc:af.dz[p]?=ae (.R (c+33))) (g:D[c]?=ae (.L xs)) (w:xs.length<aK):
 aA ao (k+4) 560 [.R 7,.S aR,at',.S aJ] (ai af D)=ae (.I (af.bo.length:Int),ai (m8 af D p) (m9 af D p c xs as)):=by
 have c1:=zW (af:=af) (D:=D) (k:=k+1) b hh
 have bf:=Xp (af:=af) (D:=D++[dh p]) (k:=k) (m:=m+1) b a.app
 rw[Xm]at bf
 have c3:=FY bf
 have bQ:aQ (m+1) (pB af (D++[dh p])):=aQ.Bl b
 have c4:=FD (af:=pB af (D++[dh p])) (D:=D++[dh p]++[.L as,.L [],.L [],.L []]) (k:=k+1) (p:=p) (n:=af.bo.length) (c:=c) bQ pi.Bl hp (by show af.bo.length<(af.b0++[V.I (-1)]++[V.I (-1)]).length;rw[ba,ba,dS];lia) hs (Ol aL) (yd (yd qc)) (bl (bl g)) w
 have c5:=Jy (af:={pB af (D++[dh p])with b0:=af.b0++[.I p]++[.I (-1)]}) (D:=m9 af D p c xs as) (k:=k+2) (m:=m) ⟨(aQ.w bQ).bo,(aQ.w bQ).bY,(aQ.w bQ).names,(aQ.w bQ).dI,(aQ.w bQ).dH,(b.b0.a (x:=.I p)).a.w,(aQ.w bQ).dz,(aQ.w bQ).d5,(aQ.w bQ).ay,(aQ.w bQ).bW,(aQ.w bQ).eH,(aQ.w bQ).d1,(aQ.w bQ).bP,(aQ.w bQ).da,(aQ.w bQ).ed,(aQ.w bQ).cO,(aQ.w bQ).dU⟩ (aV af.bo.length)
 have e1:(D++[dh p]++[O.L as,.L [],.L [],.L []]).set c (.L (xs++[aV af.bo.length]))=m9 af D p c xs as:=by
  rw[pQ (bl g),pQ g,cG];rfl
 have e2:(pB af (D++[dh p])).b0.set af.bo.length (.I p)=af.b0++[.I p]++[.I (-1)]:=afu aL
 rw[e1,e2]at c4
 exact cJ ab ab (aq (t7 (cu aj (ar (ah ab) aO) c1) (bD bS)) (aq (bM (cu aj (ar (ah ab) (ar (ah ab) (ar (ah ab) (ar (ah ab) aO)))) c3)) (aq (bu (b5 (aW (ah ab) ab ab) ab ab ab (ar (ah ab) (ar (ah ab) (ar (ah ab) aO))) c4)) (aq (bu (b5 (aW (ah ab) ab ab) ab ab ab (ar (ah ab) aO) c5)) (b2 (cQ (ah ab)) b1)))))
end
end
section
section
variable{af:br}{D:List O}{k m:Nat}
theorem aeR(b:aQ m af){p c j:Nat}{aT aX dd:aw}{xs:List V}(hh:qe af p)(qk:af.bo[p]?=ae (.S aT))(nk:aT≠mW)(qc:af.dz[p]?=ae (.R (c+33)))(g:D[c]?=ae (.L xs))(w:xs.length<aK)(l:xs.getLast?=ae (.I j))
 (qj:af.bo[j]?=ae (.S gQ)) (qt:af.dH[j]?=ae (.S dd)) (hj:j<af.dH.length) (ey:dd.length<aK) (bQ:aX.length<aK):
 aA ao (k+3) 543 [.R 7,.S aX] (ai af D)=ae (.N,ai {af with dH:=af.dH.set j (.S (dd++aX))} (D++[dh p])):=by
 have c1:=zW (af:=af) (D:=D) (k:=k) b hh
 have g2:(D++[dh p])[c]?=ae (.L xs):=bl g
 have bf:=OU (af:=af) (D:=D++[dh p]) (k:=k+1) b qc g2 w l
 have c3:=ki j
 have c4:i6 .A (ai af (D++[dh p])) (.S dd) (.S aX)=ae (.S (dd++aX),ai af (D++[dh p])):=by
  show(if dd.length<aK/\aX.length<aK then _ else _)=_;rw[if_pos ⟨ey,bQ⟩]
 exact cV ab ab (aq (bM (aW (ah ab) ab ab)) (aq (t7 (cu aj (ar (ah ab) aO) c1) (bD bS)) (aq (aM (aI (aH (aW (ah ab) ab ab) (ah ab) (bX ab (bc (bb.g (aQ.bo b)) qk))) aj (bL nk)) (a_ aF)) (aq (bM (dn (b5 (ah ab) ab ab ab (ar (ah ab) aO) bf) ab)) (aq (aM (aI (ah ab) aj lY) (a_ aF)) (aq (aM (dp (aI (ah ab) aj (lZ c3)) (fu (aI (aH (aW (ah ab) ab ab) (ah ab) (bX ab (bc (bb.g (aQ.bo b)) qj))) aj dk))) (cN (aq (iD (fv (aH (aW (ah ab) ab ab) (ah ab) (bX ab (bc (bb.g (aQ.dH b)) qt))) (ah ab) c4) (aW (ah ab) ab ab) (ah ab) (Js ab (bb.g (aQ.dH b)) hj)) aF))) aF))))))
theorem aeS(b:aQ (m+1) af)(pi:fJ af)(aL:af.b0.length=af.bo.length){p c:Nat}{aT aX:aw}{xs:List V}(hh:qe af p)(hp:p<af.bo.length)(hs:p<400)(qk:af.bo[p]?=ae (.S aT))(nk:aT≠mW)(qc:af.dz[p]?=ae (.R (c+33)))(g:D[c]?=ae (.L xs))(w:xs.length<aK)
 (l:xs=[]\/∃(j:Nat)(kj:aw),xs.getLast?=ae (.I j)/\af.bo[j]?=ae (.S kj)/\kj≠gQ):
 aA ao (k+4) 543 [.R 7,.S aX] (ai af D)=ae (.N,ai {hU af gQ [] [] aX (D.length+2+33) (D.length+3+33)with b0:=af.b0++[.I p]} (D.set c (.L (xs++[aV af.bo.length]))++[dh p,.T [],.L [],.L []])):=by
 have c1:=zW (af:=af) (D:=D) (k:=k+1) b hh
 have g2:(D++[dh p])[c]?=ae (.L xs):=bl g
 have bf:=afF (af:=af) (D:=D++[dh p]) (k:=k+1) b aX
 rw[fw (D:=D++[dh p]++[O.T []]),fw (D:=D++[dh p]),fw,cG,cG,cG]at bf
 have bQ:=b.add gQ [] [] aX (D.length+2+33) (D.length+3+33)
 have c4:=FD (D:=D++[dh p,.T [],.L [],.L []]) (k:=k+1) (p:=p) (n:=af.bo.length) (c:=c) bQ pi.add hp (by show af.bo.length<(af.b0++[V.I (-1)]).length;rw[ba,dS];lia) hs (Ft aL) (yd qc) (bl g) w
 have e1:(hU af gQ [] [] aX (D.length+2+33) (D.length+3+33)).b0.set af.bo.length (.I p)=af.b0++[.I p]:=JF aL
 rw[e1,pQ g]at c4
 rcases l with rfl | ⟨j,kj,l,qj,nj⟩
 .have c3:=aan (af:=af) (D:=D++[dh p]) (k:=k+2) b qc g2;exact cV ab ab (aq (bM (aW (ah ab) ab ab)) (aq (t7 (cu aj (ar (ah ab) aO) c1) (bD bS)) (aq (aM (aI (aH (aW (ah ab) ab ab) (ah ab) (bX ab (bc (bb.g (aQ.bo b)) qk))) aj (bL nk)) (a_ aF)) (aq (bM (dn (b5 (ah ab) ab ab ab (ar (ah ab) aO) c3) ab)) (aq (aM (aI (ah ab) aj lY) (a_ aF)) (aq (aM (dp (aI (ah ab) aj lY) fS) (a_ (aq (bu (b5 (ah ab) ab ab ab (ar (ah ab) (ar (b5 (ah ab) ab ab ab (ar (ah ab) aO) bf) (ar (ah ab) aO))) c4)) aF))) aF))))))
 .have c3:=OU (af:=af) (D:=D++[dh p]) (k:=k+2) b qc g2 w l;have c5:=ki j;exact cV ab ab (aq (bM (aW (ah ab) ab ab)) (aq (t7 (cu aj (ar (ah ab) aO) c1) (bD bS)) (aq (aM (aI (aH (aW (ah ab) ab ab) (ah ab) (bX ab (bc (bb.g (aQ.bo b)) qk))) aj (bL nk)) (a_ aF)) (aq (bM (dn (b5 (ah ab) ab ab ab (ar (ah ab) aO) c3) ab)) (aq (aM (aI (ah ab) aj lY) (a_ aF)) (aq (aM (dp (aI (ah ab) aj (lZ c5)) (fu (aI (aH (aW (ah ab) ab ab) (ah ab) (bX ab (bc (bb.g (aQ.bo b)) qj))) aj (bL nj)))) (a_ (aq (bu (b5 (ah ab) ab ab ab (ar (ah ab) (ar (b5 (ah ab) ab ab ab (ar (ah ab) aO) bf) (ar (ah ab) aO))) c4)) aF))) aF))))))
noncomputable def gy(af:br)(D:List O)(j:Nat)(aL:aw):Prop:=af.bY[j]?=ae (.S aJ)/\af.names[j]?=ae (.S dK)/\∃a d:Nat,af.dI[j]?=ae (.R (a+33))/\D[a]?=ae (.L [.R (d+33)])/\D[d]?=ae (.T [.S iM,.S aL])
theorem Sk{h:Nat}(b:aQ m af){j:Nat}{aL:aw}(hb:gy af D j aL):aA ao (k+1) 415 [.R 8,.I j,.S iM] (ai af D)=ae (.S aL,ai af D):=by
 obtain⟨s,t,a,d,q,g,w⟩:=hb;apply cJ rfl rfl;apply ji;apply q3
 .exact aH (aW (ah ab) ab ab) (ah ab) (bX ab (bc (bb.g (aQ.dI b)) q))
 .exact g
 .apply Fo
  .exact decide_eq_true (bD g)
  .exact b2 (aM (aI (aH (ah ab) aj (a8 w ab)) (ah ab) dk) (cN (b2 (cQ (aH (ah ab) aj (a8 w ab))) b1))) b1
theorem UK(b:aQ m af){i j:Nat}{aL pm:aw}(hi:gy af D i aL)(hj:gy af D j pm)(w:pm≠aL):aA ao (k+2) 144 [.R 8,.I i,.I j] (ai af D)=ae (.B aP,ai af D):=by
 have c1:=Sk (h:=0) (k:=k) b hj;obtain⟨s,t,a,d,q,g,u⟩:=hi;obtain⟨s2,t2,a2,d2,cT,g2,u2⟩:=hj;apply cJ rfl rfl;apply aq
 .exact aM (jy (aI (aH (aW (ah ab) ab ab) (ah ab) (bX ab (bc (bb.g (aQ.names b)) t))) (aH (aW (ah ab) ab ab) (ah ab) (bX ab (bc (bb.g (aQ.names b)) t2))) iP) (ng (aI (aH (aW (ah ab) ab ab) (ah ab) (bX ab (bc (bb.g (aQ.bY b)) s))) (aH (aW (ah ab) ab ab) (ah ab) (bX ab (bc (bb.g (aQ.bY b)) s2))) iP))) (a_ aF)
 apply aq
 .exact aM (aI (gk (aH (aW (ah ab) ab ab) (ah ab) (bX ab (bc (bb.g (aQ.dI b)) q))) g (aN ab)) (gk (aH (aW (ah ab) ab ab) (ah ab) (bX ab (bc (bb.g (aQ.dI b)) cT))) g2 (aN ab)) lY) (a_ aF)
 apply ji;apply q3
 .exact aH (aW (ah ab) ab ab) (ah ab) (bX ab (bc (bb.g (aQ.dI b)) q))
 .exact g
 .apply Fo
  .exact decide_eq_true (bD g)
  .exact b2 (aM (aI (dn (b5 (ah ab) ab ab ab (ar (ah ab) (ar (aH (ah ab) aj (a8 u ab)) aO)) c1) ab) (aH (ah ab) aj (a8 u ab)) (oi w)) (cN (b2 (cQ aj) b1))) b1
theorem Rg(b:aQ m af){j:Nat}{pm:aw}(hj:gy af D j pm):(xs:List V)->(∀x∈xs,∃i:Nat,x=aV i/\(af.bW[i]?=ae (.I (-1))\/∃(n:Nat)(aL:aw),af.bW[i]?=ae (.I n)/\gy af D n aL/\pm≠aL))->(a:Option V)->
 ∃a',gY ao (aA ao (k+2)) 4 (dr (bj AV 2)) (λ_=>aB) xs [ae (.R 21),ae (.I j),ae (.I 0),ae (.I (-1)),a] (ai af D)=ae (.N,[ae (.R 21),ae (.I j),ae (.I 0),ae (.I (-1)),a'],ai af D)
 | [],_,a=>⟨a,ou ab⟩
 | x::xs,hx,a=>by
  obtain⟨i,rfl,q⟩:=hx x (fa ..);rcases q with q | ⟨n,aL,q,aU,w⟩
  .refine⟨ae (aV i),?_⟩;apply Zh ab;show b3 ao (aA ao (k+2)) (dr (bj AV 2)) [ae (.R 21),ae (.I j),ae (.I 0),ae (.I (-1)),ae (.I i)] (ai af D)=_;apply xa;apply aM
   .exact aI (aH (aW (ah ab) ab ab) (ah ab) (bX ab (bc (bb.g (aQ.bW b)) q))) aj pl
   .refine bB ⟨tt,?_⟩;exact xa adW
  .obtain⟨a',r⟩:=Rg b hj xs (λy hy=>hx y (eV _ hy)) (ae (aV i));refine⟨a',?_⟩;have c1:=UK (k:=k) b aU hj w;have bf:=ki n;refine jz rfl ?_ r;show b3 ao (aA ao (k+2)) (dr (bj AV 2)) [ae (.R 21),ae (.I j),ae (.I 0),ae (.I (-1)),ae (.I i)] (ai af D)=ae (.N,[ae (.R 21),ae (.I j),ae (.I 0),ae (.I (-1)),ae (.I i)],ai af D);exact aq (aM (aI (aH (aW (ah rfl) rfl rfl) (ah rfl) (bX rfl (bc (bb.g (aQ.bW b)) q))) aj (iO bf)) (a_ aF)) (aq (aM (dn (cu aj (ar (aW (ah rfl) rfl rfl) (ar (aH (aW (ah rfl) rfl rfl) (ah rfl) (bX rfl (bc (bb.g (aQ.bW b)) q))) (ar (ah rfl) aO))) c1) rfl) (a_ aF)) aF)
theorem aa0{a:Nat}{x:V}(h:x∈oo ((a:Int)-1)):∃i:Nat,x=aV i/\i<a:=by
 unfold oo at h;obtain⟨i,hi,e⟩:=ig.mp (lM.mp h);have:=xr.mp hi;exact⟨i,e.symm,by lia⟩
theorem Zs(b:aQ m af){j:Nat}{pm:aw}(hj:gy af D j pm)(hf:∀i,i<af.bW.length->af.bW[i]?=ae (.I (-1))\/∃(n:Nat)(aL:aw),af.bW[i]?=ae (.I n)/\gy af D n aL/\pm≠aL)(bs:af.bW.length<99999):
 aA ao (k+3) 74 [.R 21,.I j] (ai af D)=ae (.N,ai {af with bW:=af.bW++[aV j]} D):=by
 obtain⟨a',r⟩:=Rg (k:=k) b hj (oo ((af.bW.length:Int)-1)) (λx hx=>by
  obtain⟨i,rfl,hi⟩:=aa0 hx;exact⟨i,rfl,hf i hi⟩) az
 apply cV ab ab
 apply aq
 .exact bM aj
 apply aq
 .exact bM aj
 apply aq
 .apply adX
  .exact fv (gk (aW (ah ab) ab ab) ab (bb.g (aQ.bW b))) aj ab
  .exact(by lia:-1<=(af.bW.length:Int)-1/\(af.bW.length:Int)-1<100000)
  .exact r
 exact aq (aM (aI (ah ab) aj ab) (a_ aF)) (aq (bu (dW (aW (ah ab) ab ab) ab (ah ab) ab (bb.g (aQ.bW b)))) aF)
theorem UU(b:aQ m af){n:Nat}(q:af.names[n]?=ae (.S aR))(w1:af.f9≠-1)(w2:af.f9≠af.ctx):aA ao (k+1) 574 [.R 7,.I n] (ai af D)=ae (.N,ai af D):=by
 have c1:cD .I (ai af D++[.T [.S Ky,.S Kz,.S KA,.S KC,.S KD,.S nX,.S KG,.S D8]]) (.S aR) (.R (D.length+33))=ae false:=fE (l:=[Ky,Kz,KA,KC,KD,nX,KG,D8]) (by exact bD bS) ab ab;have bf:=EO c1;exact cJ ab ab (aq (aM (jy (aI (aW (ah ab) ab ab) aj (iO w1)) (ng (aI (aW (ah ab) ab ab) (aW (ah ab) ab ab) (iO w2)))) (a_ aF)) (aq (bM (aW (ah ab) ab ab)) (aq (bM (aH (aW (ah ab) ab ab) (ah ab) (bX ab (bc (bb.g (aQ.names b)) q)))) (b2 (aM (dG (aI (ah ab) (dj (ar aj (ar aj (ar aj (ar aj (ar aj (ar aj (ar aj (ar aj aO)))))))) (aN ab)) bf) el ab) (cN (b2 (cQ aj) b1))) b1))))
end
end
section
section
variable{af:br}{D:List O}{k m:Nat}{f g:Nat->aw}
noncomputable def jr(af:br)(f g:Nat->aw)(s:List Nat):Prop:=∀i∈s,af.bY[i]?=ae (.S (f i))/\af.names[i]?=ae (.S (g i))
noncomputable def du(f g:Nat->aw)(nm:aw)(i:Nat):Bool:=decide (f i=aJ)&&decide (g i=nm)
noncomputable def fC(f g:Nat->aw)(i:Nat):aw:=if f i=aJ then g i else[]
theorem aQ.st(b:aQ m af){l:List V}(h:bb m l):aQ m {af with ay:=l}:=⟨b.bo,b.bY,b.names,b.dI,b.dH,b.b0,b.dz,b.d5,h,b.bW,b.eH,b.d1,b.bP,b.da,b.ed,b.cO,b.dU⟩
theorem aQ.Fp(b:aQ m af){l:List V}(h:bb m l):aQ m {af with bW:=l}:=⟨b.bo,b.bY,b.names,b.dI,b.dH,b.b0,b.dz,b.d5,b.ay,h,b.eH,b.d1,b.bP,b.da,b.ed,b.cO,b.dU⟩
theorem bb.cut{l r:List V}(h:bb m (l++r)):bb m l:=by
 unfold bb at h⊢;rw[ba]at h;lia
theorem Z8(b:aQ m af){i:Nat}{nm:aw}(h:af.bY[i]?=ae (.S (f i))/\af.names[i]?=ae (.S (g i))):aA ao (k+1) 422 [.R 8,.I i,.S nm] (ai af D)=ae (.B (du f g nm i),ai af D):=by
 unfold du;by_cases e:f i=aJ
 .by_cases e2:g i=nm
  .rw[decide_eq_true e,decide_eq_true e2];exact aad b (by rw[h.1,e]) (by rw[h.2,e2])
  .rw[decide_eq_true e,decide_eq_false e2];exact aac b (by rw[h.1,e]) h.2 e2
 .rw[decide_eq_false e];exact aab b h.1 e
theorem Om(b:aQ m af){nm:aw}{xs:List V}(q:af.ay=xs):(ys:List Nat)->jr af f g ys->(a:Option V)->∃fr',gY ao (aA ao (k+1)) 2 (dr (bj AW 0)) (λh=>decide (h[20]?=ae (.L xs))) (ys.map aV) [ae (.R 19),ae (.S nm),a] (ai af D)=ae (if ys.any (du f g nm)=aB then .R (.B aB)else .N,fr',ai af D)
 | [],_,a=>⟨_,ou (decide_eq_true (by rw[<- q];rfl))⟩
 | i::ys,aU,a=>by
  have c1:=Z8 (D:=D) (k:=k) (nm:=nm) b (aU i (fa ..));have hs:(λh:H=>decide (h[20]?=ae (.L xs))) (ai af D)=true:=decide_eq_true (by rw[<- q];rfl);rw[TM];cases e:du f g nm i with
  | true=>
   rw[e]at c1;refine⟨[ae (.R 19),ae (.S nm),ae (aV i)],?_⟩;apply Fo hs;show b3 ao (aA ao (k+1)) (dr (bj AW 0)) [ae (.R 19),ae (.S nm),ae (.I i)] (ai af D)=ae (.R (.B aB),[ae (.R 19),ae (.S nm),ae (.I i)],ai af D);exact b2 (aM (dn (b5 (aW (ah rfl) rfl rfl) rfl rfl rfl (ar (ah rfl) (ar (ah rfl) aO)) c1) rfl) (cN (b2 (cQ aj) b1))) b1
  | false=>
   rw[e]at c1;obtain⟨fr',r⟩:=Om b q ys (λj hj=>aU j (eV _ hj)) (ae (aV i));refine⟨fr',?_⟩;refine jz hs ?_ r;show b3 ao (aA ao (k+1)) (dr (bj AW 0)) [ae (.R 19),ae (.S nm),ae (.I i)] (ai af D)=ae (.N,[ae (.R 19),ae (.S nm),ae (.I i)],ai af D);exact aq (aM (dn (b5 (aW (ah rfl) rfl rfl) rfl rfl rfl (ar (ah rfl) (ar (ah rfl) aO)) c1) rfl) (a_ aF)) aF
theorem Bq(b:aQ m af){nm:aw}{s:List Nat}(q:af.ay=s.map aV)(aU:jr af f g s):aA ao (k+2) 284 [.R 19,.S nm] (ai af D)=ae (.B (s.any (du f g nm)),ai af D):=by
 obtain⟨fr',r⟩:=Om (D:=D) (k:=k) (nm:=nm) b rfl s aU az;rw[<- q]at r;cases e:s.any (du f g nm)with
 | true=>
  rw[e]at r;apply cJ rfl rfl;apply ji;apply q3
  .exact aW (ah ab) ab ab
  .exact ab
  .exact r
 | false=>
  rw[e]at r;apply cJ rfl rfl;apply aq
  .apply q3
   .exact aW (ah ab) ab ab
   .exact ab
   .exact r
  .exact b2 (cQ aj) b1
theorem FN{A:List V}{x:V}{R:List Nat}{y:Nat}:A++x::((y::R).reverse.map aV)=(A++x::(R.reverse.map aV))++[aV y]:=by
 rw[xm,cK,cG];rfl
theorem LD{A:List V}:(R:List Nat)->(b:aQ m {af with bW:=A++.I (-1)::(R.reverse.map aV)})->(d:Nat)->fB ao (aA ao k) (g9 (bj Ew 0)) (dr (bj Ew 0)) (d+R.length+1) [ae (.R 21)] (ai {af with bW:=A++.I (-1)::(R.reverse.map aV)} D)=ae (.R .N,[ae (.R 21)],ai {af with bW:=A} D)
 | [],b,d=>by
  have c1:(0:Int)<(A++[V.I (-1)]).length:=by rw[ba,dS];lia
  have bf:(A++[V.I (-1)]).getLast?=ae (.I (-1)):=gf ..;have e:ai {af with bW:=A} D=ai {af with bW:=(A++[V.I (-1)]).dropLast} D:=by rw[iH]
  rw[e];apply Sm
  .exact aI (gk (aW (ah ab) ab ab) ab (bb.g (aQ.bW b))) aj (pn c1)
  .exact tt
  .exact b2 (aM (aI (pz (aW (ah ab) ab ab) ab (bb.g (aQ.bW b)) bf) aj pl) (cN (b2 (cQ aj) b1))) b1
 | x::R,b,d=>by
  rw[FN]at b⊢;have c1:(0:Int)<(A++V.I (-1)::(R.reverse.map aV)++[aV x]).length:=by rw[ba,dS];lia
  have bf:(A++V.I (-1)::(R.reverse.map aV)++[aV x]).getLast?=ae (.I x):=gf ..;have c3:=ki x;have r:=LD R (b.Fp (l:=A++V.I (-1)::(R.reverse.map aV)) b.bW.cut) d;have e:ai {af with bW:=A++V.I (-1)::(R.reverse.map aV)} D=ai {af with bW:=(A++V.I (-1)::(R.reverse.map aV)++[aV x]).dropLast} D:=by rw[iH]
  rw[e]at r;apply mB (n:=d+R.length+1)
  .exact aI (gk (aW (ah ab) ab ab) ab (bb.g (aQ.bW b))) aj (pn c1)
  .exact tt
  .exact aq (aM (aI (pz (aW (ah ab) ab ab) ab (bb.g (aQ.bW b)) bf) aj (iO c3)) (a_ aF)) aF
  .exact r
theorem Wk{A:List V}{R:List Nat}(b:aQ m af)(q:af.bW=A++.I (-1)::(R.reverse.map aV))(aZ:R.length<400):aA ao (k+1) 88 [.R 21] (ai af D)=ae (.N,ai {af with bW:=A} D):=by
 have r:=LD (D:=D) (k:=k) (af:=af) R (A:=A) (by rw[<- q];exact b) (499-R.length);rw[show 499-R.length+R.length+1=500 by lia,<-q]at r;apply cJ rfl rfl;apply ji;apply oQ;exact r
theorem r7(b:aQ m af){i:Nat}(l:af.ay.getLast?=ae (.I i))(n:(af.ay.length:Int)≠0)(h:af.bY[i]?=ae (.S (f i))/\af.names[i]?=ae (.S (g i))):aA ao (k+2) 277 [.R 19] (ai af D)=ae (.S (fC f g i),ai af D):=by
 unfold fC;by_cases e:f i=aJ
 .rw[if_pos e];exact abf b l n (by rw[h.1,e]) h.2
 .rw[if_neg e];exact abe b l n h.1 e
theorem Si{A:List V}{t d:Nat}(aC:D[d]?=ae (.T [.S aR]))(et:fC f g t=aR)(gt:af.bY[t]?=ae (.S (f t))/\af.names[t]?=ae (.S (g t))):(R:List Nat)->jr af f g R->(∀x∈R,fC f g x≠aR)->(b:aQ m {af with ay:=A++aV t::(R.reverse.map aV)})->(u:Nat)->(a1 a2:Option V)->
 ∃fr',fB ao (aA ao (k+2)) (g9 (bj Ex 0)) (dr (bj Ex 0)) (u+R.length+1) [ae (.R 19),ae (.R (d+33)),a1,a2] (ai {af with ay:=A++aV t::(R.reverse.map aV)} D)=ae (.R (aV t),fr',ai {af with ay:=A} D)
 | [],_,_,b,u,a1,a2=>by
  have c1:(0:Int)<(A++[aV t]).length:=by rw[ba,dS];lia
  have bf:(A++[aV t]).getLast?=ae (.I t):=gf ..;have c4:((A++[aV t]).length:Int)≠0:=by lia
  have e:ai {af with ay:=A} D=ai {af with ay:=(A++[aV t]).dropLast} D:=by rw[iH]
  have c5:=r7 (af:={af with ay:=A++[aV t]}) (D:=D) (k:=k) b bf c4 gt;rw[et]at c5;have c6:cD .I (ai {af with ay:=(A++[aV t]).dropLast} D) (.S aR) (.R (d+33))=ae true:=fE (l:=[aR]) (bD aC) rfl rfl;refine⟨[ae (.R 19),ae (.R (d+33)),ae (.S aR),ae (.I t)],?_⟩;rw[e];apply Sm
  .exact aI (gk (aW (ah ab) ab ab) ab (bb.g (aQ.ay b))) aj (pn c1)
  .exact tt
  .exact aq (bM (dn (b5 (ah ab) ab ab ab aO c5) ab)) (aq (bM (pz (aW (ah ab) ab ab) ab (bb.g (aQ.ay b)) bf)) (b2 (aM (aI (ah ab) (ah ab) c6) (cN (b2 (cQ (ah ab)) b1))) b1))
 | x::R,aU,hx,b,u,a1,a2=>by
  rw[FN]at b⊢;have c1:(0:Int)<(A++aV t::(R.reverse.map aV)++[aV x]).length:=by rw[ba,dS];lia
  have bf:(A++aV t::(R.reverse.map aV)++[aV x]).getLast?=ae (.I x):=gf ..;have c4:((A++aV t::(R.reverse.map aV)++[aV x]).length:Int)≠0:=by lia
  have c5:=r7 (af:={af with ay:=A++aV t::(R.reverse.map aV)++[aV x]}) (D:=D) (k:=k) b bf c4 (aU x (fa ..));obtain⟨fr',r⟩:=Si aC et gt R (λy hy=>aU y (eV _ hy)) (λy hy=>hx y (eV _ hy)) (b.st (l:=A++aV t::(R.reverse.map aV)) b.ay.cut) u (ae (.S (fC f g x))) (ae (aV x));have e:ai {af with ay:=A++aV t::(R.reverse.map aV)} D=ai {af with ay:=(A++aV t::(R.reverse.map aV)++[aV x]).dropLast} D:=by rw[iH]
  have c6:cD .I (ai {af with ay:=(A++aV t::(R.reverse.map aV)++[aV x]).dropLast} D) (.S (fC f g x)) (.R (d+33))=ae false:=fE (l:=[aR]) (bD aC) rfl (decide_eq_false λh=>hx x (fa ..) (dx.mp h));rw[e]at r;refine⟨fr',?_⟩;apply mB (n:=u+R.length+1)
  .exact aI (gk (aW (ah ab) ab ab) ab (bb.g (aQ.ay b))) aj (pn c1)
  .exact tt
  .exact aq (bM (dn (b5 (ah ab) ab ab ab aO c5) ab)) (aq (bM (pz (aW (ah ab) ab ab) ab (bb.g (aQ.ay b)) bf)) (aq (aM (aI (ah ab) (ah ab) c6) (a_ aF)) aF))
  .exact r
theorem af1{A:List V}{t d:Nat}{R:List Nat}(b:aQ m af)(aC:D[d]?=ae (.T [.S aR]))(et:fC f g t=aR)(q:af.ay=A++aV t::(R.reverse.map aV))(gt:af.bY[t]?=ae (.S (f t))/\af.names[t]?=ae (.S (g t)))(aU:jr af f g R)(hx:∀x∈R,fC f g x≠aR)(aZ:R.length<400):
 aA ao (k+3) 291 [.R 19,.R (d+33)] (ai af D)=ae (aV t,ai {af with ay:=A} D):=by
 obtain⟨fr',r⟩:=Si (D:=D) (k:=k) (af:=af) (A:=A) aC et gt R aU hx (by rw[<- q];exact b) (499-R.length) az az
 rw[show 499-R.length+R.length+1=500 by lia,<-q]at r
 apply cJ ab ab
 apply ji
 apply oQ
 exact r
end
end
section
section
variable{af:br}{D:List O}{k m:Nat}{f g:Nat->aw}
noncomputable def g5:List aw:=[[100,100],[100,116],xD,Ue,Ug,[112],[114,98],[114,112],[114,116],[114,116,99]]
noncomputable def g6:List aw:=[i7,ky,j8,fj,gK,jO,j9,jN]
noncomputable def kO:O:=.T (g5.map .S)
noncomputable def my:O:=.T (g6.map .S)
noncomputable def m_(D:List O):List O:=D++[kO]++[my]++[.T (g5.map .S++g6.map .S)]
theorem V7{h:H}{a b:Nat}{xs ys:List V}(p:h[a]?=ae (.T xs))(q:h[b]?=ae (.T ys))(w:0<xs.length/\0<ys.length/\xs.length<aK/\ys.length<aK):i6 .A h (.R a) (.R b)=ae (.R h.length,h++[.T (xs++ys)]):=(show(h[a]?.bind λo=>h[b]?.bind λp=>o.add h p)=_ from dF p (dF q (eG w ab)))
theorem xQ{h:H}{a b:Nat}{xs ys:List V}(p:h[a]?=ae (.L xs))(q:h[b]?=ae (.L ys))(w:xs.length<aK)(w2:ys.length<aK):i6 .A h (.R a) (.R b)=ae (.R h.length,h++[.L (xs++ys)]):=(show(h[a]?.bind λo=>h[b]?.bind λp=>o.add h p)=_ from dF p (dF q (eG ⟨w,w2⟩ ab)))
theorem ZY:aA ao (k+1) 193 [] (ai af D)=ae (.R (D.length+33),ai af (D++[kO])):=cJ ab ab (b2 (cQ (dj (ar aj (ar aj (ar aj (ar aj (ar aj (ar aj (ar aj (ar aj (ar aj (ar aj aO)))))))))) (aN ab))) b1)
theorem UN:aA ao (k+2) 200 [] (ai af D)=ae (.R ((D++[kO]++[my]).length+33),ai af (m_ D)):=by
 have c1:=ZY (af:=af) (D:=D) (k:=k)
 have bf:i6 .A (ai af (D++[kO]++[my])) (.R (D.length+33)) (.R ((D++[kO]).length+33))=ae (.R ((D++[kO]++[my]).length+33),ai af (D++[kO]++[my])++[.T (g5.map .S++g6.map .S)]):=
  V7 (bD (bl bS)) (bD bS) ⟨aN (n:=0) (m:=10) ab,aN (n:=0) (m:=8) ab,aN (n:=10) (m:=aK) ab,aN (n:=8) (m:=aK) ab⟩
 exact cJ ab ab (b2 (cQ (fv (cu aj aO c1) (dj (ar aj (ar aj (ar aj (ar aj (ar aj (ar aj (ar aj (ar aj aO)))))))) (aN ab)) bf)) b1)
theorem Ow{A:List V}{t d:Nat}(aC:D[d]?=ae (.T (g5.map .S++g6.map .S)))(et:fC f g t∉g5++g6)(gt:af.bY[t]?=ae (.S (f t))/\af.names[t]?=ae (.S (g t))):(R:List Nat)->jr af f g R->(∀x∈R,fC f g x∈g5++g6)->(b:aQ m {af with ay:=A++aV t::(R.reverse.map aV)})->(u:Nat)->
 fB ao (aA ao (k+2)) (g9 (bj EA 1)) (dr (bj EA 1)) (u+R.length+1) [ae (.R 19),ae (.R (d+33))] (ai {af with ay:=A++aV t::(R.reverse.map aV)} D)=ae (.N,[ae (.R 19),ae (.R (d+33))],ai {af with ay:=A++[aV t]} D)
 | [],_,_,b,u=>by
  have bf:(A++[aV t]).getLast?=ae (.I t):=gf ..;have c4:((A++[aV t]).length:Int)≠0:=by rw[ba,dS];lia
  have c5:=r7 (af:={af with ay:=A++[aV t]}) (D:=D) (k:=k) b bf c4 gt;have c6:cD .I (ai {af with ay:=A++[aV t]} D) (.S (fC f g t)) (.R (d+33))=ae false:=fE (l:=g5++g6) (bD aC) (cK ..).symm (decide_eq_false et);apply q8
  .exact aI (dn (b5 (ah ab) ab ab ab aO c5) ab) (ah ab) c6
  .exact fq
 | x::R,aU,hx,b,u=>by
  rw[FN]at b⊢;have bf:(A++aV t::(R.reverse.map aV)++[aV x]).getLast?=ae (.I x):=gf ..;have c4:((A++aV t::(R.reverse.map aV)++[aV x]).length:Int)≠0:=by rw[ba,dS];lia
  have c5:=r7 (af:={af with ay:=A++aV t::(R.reverse.map aV)++[aV x]}) (D:=D) (k:=k) b bf c4 (aU x (fa ..));have r:=Ow aC et gt R (λy hy=>aU y (eV _ hy)) (λy hy=>hx y (eV _ hy)) (b.st (l:=A++aV t::(R.reverse.map aV)) b.ay.cut) u;have c6:cD .I (ai {af with ay:=A++aV t::(R.reverse.map aV)++[aV x]} D) (.S (fC f g x)) (.R (d+33))=ae true:=fE (l:=g5++g6) (bD aC) (cK ..).symm (decide_eq_true (hx x (fa ..)));have c7:=DA (af:={af with ay:=A++aV t::(R.reverse.map aV)++[aV x]}) (D:=D) (k:=k+1) b bf c4;rw[iH]at c7;apply mB (n:=u+R.length+1)
  .exact aI (dn (b5 (ah ab) ab ab ab aO c5) ab) (ah ab) c6
  .exact tt
  .exact aq (bu (b5 (ah ab) ab ab ab aO c7)) aF
  .exact r
theorem Ox{A:List V}{t:Nat}{R:List Nat}(b:aQ m af)(et:fC f g t∉g5++g6)(q:af.ay=A++aV t::(R.reverse.map aV))(gt:af.bY[t]?=ae (.S (f t))/\af.names[t]?=ae (.S (g t)))(aU:jr af f g R)(hx:∀x∈R,fC f g x∈g5++g6)(aZ:R.length<400):
 aA ao (k+3) 312 [.R 19] (ai af D)=ae (.N,ai {af with ay:=A++[aV t]} (m_ D)):=by
 have r:=Ow (D:=m_ D) (k:=k) (af:=af) (A:=A) (d:=(D++[kO]++[my]).length) bS et gt R aU hx (by rw[<- q];exact b) (499-R.length)
 rw[show 499-R.length+R.length+1=500 by lia,<-q]at r
 have c1:=UN (af:=af) (D:=D) (k:=k)
 apply cV ab ab
 apply aq
 .exact bM (cu aj aO c1)
 apply aq
 .apply oQ;exact r
 .exact aF
theorem Oa:(R:List V)->(b:aQ m {af with ay:=R.reverse})->(u:Nat)->
 fB ao (aA ao (k+1)) (g9 (bj Ez 0)) (dr (bj Ez 0)) (u+R.length+1) [ae (.R 7)] (ai {af with ay:=R.reverse} D)=ae (.N,[ae (.R 7)],ai {af with ay:=[]} D)
 | [],b,u=>by
  have c1:=yo (af:={af with ay:=[]}) (D:=D) (k:=k) b;apply q8
  .exact aI (dn (b5 (aW (ah ab) ab ab) ab ab ab aO c1) ab) aj ab
  .exact fq
 | x::R,b,u=>by
  rw[xm]at b⊢;have bf:(R.reverse++[x]).getLast?=ae x:=gf ..;have c3:(0:Int)<(R.reverse++[x]).length:=by rw[ba,dS];lia
  have c4:((R.reverse++[x]).length:Int)≠0:=by lia
  have c1:=yo (af:={af with ay:=R.reverse++[x]}) (D:=D) (k:=k) b;have c7:=DA (af:={af with ay:=R.reverse++[x]}) (D:=D) (k:=k) b bf c4;rw[iH]at c7;have r:=Oa R (b.st (l:=R.reverse) b.ay.cut) u;apply mB (n:=u+R.length+1)
  .exact aI (dn (b5 (aW (ah ab) ab ab) ab ab ab aO c1) ab) aj (pn c3)
  .exact tt
  .exact aq (bu (b5 (aW (ah ab) ab ab) ab ab ab aO c7)) aF
  .exact r
theorem finish_ok(b:aQ m af)(aZ:af.ay.length<400):aA ao (k+2) 521 [.R 7] (ai af D)=ae (.N,ai {af with ay:=[],done:=aB} D):=by
 have r:=Oa (D:=D) (k:=k) (af:=af) af.ay.reverse (m:=m) (by rw[lL];exact b) (499-af.ay.reverse.length);rw[show 499-af.ay.reverse.length+af.ay.reverse.length+1=500 by rw[mC];lia,lL]at r;apply cV rfl rfl;apply aq
 .apply oQ;exact r
 .exact aq (w5 aj (ah ab) (w8 ab (aN ab))) aF
noncomputable def ah8:aw:=xE
noncomputable def oG:List (aw×aw):=[(fj,og),(jO,og),(jN,lW),(j8,i8),(j9,i8),(gK,i8),(i7,ux),(ky,oh),(xU,lX),(xE,mX),(fm,ec),(Uj,Uk)]
noncomputable def mo(nm:aw):aw:=(oG.lookup nm).getD []
theorem FV{s d:aw}:(l:List (aw×aw))->((l.map λe=>(e.1,V.S e.2)).lookup s).getD (.S d)=.S ((l.lookup s).getD d)
 | []=>rfl
 | e::l=>by
  rw[fI,gu,gu];cases s==e.1 with
  | true=>rfl
  | false=>exact FV l
noncomputable def aa_:O:=.S (oG.map λe=>(e.1,V.S e.2))
theorem aba(nm:aw):aA ao (k+1) 581 [.S nm] (ai af D)=ae (.S (mo nm),ai af (D++[aa_])):=by
 have c1:((oG.map λe=>(e.1,V.S e.2)).lookup nm).getD (.S [])=.S (mo nm):=FV oG;apply cJ ab ab;apply aq
 .exact bM (Bb (ar aj (ar aj (ar aj (ar aj (ar aj (ar aj (ar aj (ar aj (ar aj (ar aj (ar aj (ar aj aO)))))))))))) ab)
 apply ji;apply cQ;apply Fb
 .exact ah ab
 .exact bD bS
 .exact ah ab
 .exact aj
 .exact bD bS
 .exact c1
noncomputable def ah7(af:br)(D:List O)(ms:List V):Prop:=(ai af D)[af.am]?=ae (.L ms)
theorem aa1(b:aQ m af){i:Nat}{sp:aw}(a:Int)(s:af.bY[i]?=ae (.S sp))(w:sp≠aJ):aA ao (k+2) 595 [.R 7,.I i,.I a] (ai af D)=ae (.S [],ai af D):=cJ ab ab (b2 (aM (aI (aH (aW (aW (ah ab) ab ab) ab ab) (ah ab) (bX ab (bc (bb.g (aQ.bY b)) s))) aj (oi w)) (cN (b2 (cQ aj) b1))) b1)
theorem Pq(b:aQ m af){i:Nat}{ms:List V}{mm:aw}(a:Int)(s:af.bY[i]?=ae (.S aJ))(t:af.names[i]?=ae (.S aR))(q:(ai af D)[af.am]?=ae (.L ms))(w:ms.length<aK)(l:ms.getLast?=ae (.S mm)):aA ao (k+2) 595 [.R 7,.I i,.I a] (ai af D)=ae (.S mm,ai af D):=cJ ab ab (aq (aM (aI (aH (aW (aW (ah ab) ab ab) ab ab) (ah ab) (bX ab (bc (bb.g (aQ.bY b)) s))) aj iP) (a_ aF)) (aq (bM (aH (aW (aW (ah ab) ab ab) ab ab) (ah ab) (bX ab (bc (bb.g (aQ.names b)) t)))) (aq (aM (aI (ah ab) aj (bL (of_decide_eq_true (id (dy aB))))) (a_ aF)) (b2 (aM (aI (ah ab) aj dk) (cN (b2 (cQ (aH (aW (ah ab) ab ab) aj (bX q (iu w l)))) b1))) b1))))
theorem aa2(b:aQ m af){i:Nat}(s:af.bY[i]?=ae (.S aJ))(t:af.names[i]?=ae (.S fj)):aA ao (k+2) 595 [.R 7,.I i,.I 0] (ai af D)=ae (.S [],ai af D):=by
 have c1:cD .I (ai af (D++[.T [.S fj,.S jO,.S xE]])) (.S fj) (.R (D.length+33))=ae true:=fE (l:=[fj,jO,xE]) (bD bS) ab ab;exact cJ ab ab (aq (aM (aI (aH (aW (aW (ah ab) ab ab) ab ab) (ah ab) (bX ab (bc (bb.g (aQ.bY b)) s))) aj iP) (a_ aF)) (aq (bM (aH (aW (aW (ah ab) ab ab) ab ab) (ah ab) (bX ab (bc (bb.g (aQ.names b)) t)))) (aq (aM (aI (ah ab) aj (bL (of_decide_eq_true (id (dy aB))))) (a_ aF)) (aq (aM (aI (ah ab) aj (bL (of_decide_eq_true (id (dy aB))))) (a_ aF)) (aq (aM (aI (ah ab) aj (bL (of_decide_eq_true (id (dy aB))))) (a_ aF)) (b2 (aM (dp (aI (ah ab) aj pl) (fu (dG (aI (ah ab) (dj (ar aj (ar aj (ar aj aO))) (aN ab)) c1) el ab))) (cN (b2 (cQ aj) b1))) b1))))))
theorem Pp(b:aQ m af){i:Nat}{nm:aw}{a:Int}(ha:a≠0)(s:af.bY[i]?=ae (.S aJ))(t:af.names[i]?=ae (.S nm))(w1:nm≠aR)(w2:nm≠aJ)(w3:nm≠nX):aA ao (k+2) 595 [.R 7,.I i,.I a] (ai af D)=ae (.S (mo nm),ai af D):=by
 have c1:=aba (af:=af) (D:=D) (k:=k) nm;exact cJ ab ab (aq (aM (aI (aH (aW (aW (ah ab) ab ab) ab ab) (ah ab) (bX ab (bc (bb.g (aQ.bY b)) s))) aj iP) (a_ aF)) (aq (bM (aH (aW (aW (ah ab) ab ab) ab ab) (ah ab) (bX ab (bc (bb.g (aQ.names b)) t)))) (aq (aM (aI (ah ab) aj (bL w3)) (a_ aF)) (aq (aM (aI (ah ab) aj (bL w1)) (a_ aF)) (aq (aM (aI (ah ab) aj (bL w2)) (a_ aF)) (aq (aM (dp (aI (ah ab) aj (iO ha)) fS) (a_ aF)) (b2 (cQ (dG (cu aj (ar (ah ab) aO) c1) el ab)) b1)))))))
end
end
section
section
variable{af:br}{D:List O}{k m:Nat}{f g:Nat->aw}
noncomputable def hZ(f g:Nat->aw)(mm:aw)(i:Nat):aw:=if f i=aJ then(if g i=aR then mm else mo (g i))else[]
noncomputable def mf(f g:Nat->aw)(mm m0:aw):List Nat->aw
 | []=>m0
 | i::R=>if hZ f g mm i=[]then mf f g mm m0 R else hZ f g mm i
theorem aa3(b:aQ m af){i:Nat}{ms:List V}{mm:aw}{a:Int}(ha:a≠0)(h:af.bY[i]?=ae (.S (f i))/\af.names[i]?=ae (.S (g i)))(w2:g i≠aJ)(w3:g i≠nX)(q:(ai af D)[af.am]?=ae (.L ms))(w:ms.length<aK)(l:du f g aR i=aB->ms.getLast?=ae (.S mm)):
 aA ao (k+2) 595 [.R 7,.I i,.I a] (ai af D)=ae (.S (hZ f g mm i),ai af D):=by
 unfold hZ
 by_cases e:f i=aJ
 .rw[if_pos e];by_cases e2:g i=aR
  .rw[if_pos e2];exact Pq b a (by rw[h.1,e]) (by rw[h.2,e2]) q w (l (by unfold du;rw[decide_eq_true e,decide_eq_true e2];rfl))
  .rw[if_neg e2];exact Pp b ha (by rw[h.1,e]) h.2 e2 w2 w3
 .rw[if_neg e];exact aa1 b a h.1 e
theorem HR{m0:aw}{a:Int}{x:Option V}(n:Nat)(w:a=-1\/(0<=a/\m0≠[])):fB ao (aA ao k) (g9 (bj jW 2)) (dr (bj jW 2)) (n+1) [ae (.R 7),ae (.I a),ae (.S m0),x] (ai af D)=ae (.N,[ae (.R 7),ae (.I a),ae (.S m0),x],ai af D):=by
 rcases w with rfl | ⟨w,w2⟩
 .apply q8
  .exact dp (aI (ah ab) aj ab) fS
  .exact fq
 .apply q8
  .exact dp (aI (ah ab) aj (EN w)) (fu (aI (ah ab) aj (bL w2)))
  .exact fq
theorem Rr(b:aQ m af){dO:List Nat}{ms:List V}{mm m0:aw}(n0:Nat)(h0:0<dO.length)(q:(ai af D)[af.am]?=ae (.L ms))(w:ms.length<aK)
 (cR:∀(u:Nat)(a3:Option V),∃x y,fB ao (aA ao (k+2)) (g9 (bj jW 2)) (dr (bj jW 2)) (u+n0) [ae (.R 7),ae (.I ((dO.length:Int)-1)),ae (.S []),a3] (ai af D)=ae (.N,[ae (.R 7),x,ae (.S m0),y],ai af D)):
 (R T:List Nat)->af.ay=(dO++(R.reverse++T)).map aV->jr af f g R->(∀i∈R,g i≠aJ/\g i≠nX)->(∀i∈R,du f g aR i=aB->ms.getLast?=ae (.S mm))->(u:Nat)->(a3:Option V)->
 ∃x y,fB ao (aA ao (k+2)) (g9 (bj jW 2)) (dr (bj jW 2)) (u+R.length+n0+1) [ae (.R 7),ae (.I ((dO.length:Int)+R.length-1)),ae (.S []),a3] (ai af D)=ae (.N,[ae (.R 7),x,ae (.S (mf f g mm m0 R)),y],ai af D)
 | [],T,_,_,_,_,u,a3=>by
  have e:(dO.length:Int)+([]:List Nat).length-1=(dO.length:Int)-1:=by rw[nT];lia
  rw[e];have r:=cR (u+1) a3;rw[show u+1+n0=u+([]:List Nat).length+n0+1 by rw[nT];lia]at r;exact r
 | i::R,T,qs,aU,hg,hl,u,a3=>by
  have c0:af.ay[dO.length+R.length]?=ae (aV i):=by
   rw[qs,jo,gI (by lia),xm,cG,gI (by rw[mC];lia),mC,rg,gw];rfl
  have c1:gc af.ay ((dO.length+R.length:Nat):Int)=ae (.I i):=bc b.ay.g c0;have e:(dO.length:Int)+(i::R).length-1=((dO.length+R.length:Nat):Int):=by rw[fH];lia
  rw[e];have bf:((dO.length+R.length:Nat):Int)≠0:=by lia
  have c3:(0:Int)<=((dO.length+R.length:Nat):Int):=by lia
  have c4:=aa3 (D:=D) (k:=k) b (mm:=mm) bf (aU i (fa ..)) (hg i (fa ..)).1 (hg i (fa ..)).2 q w (hl i (fa ..));have body:b3 ao (aA ao (k+2)) (dr (bj jW 2)) [ae (.R 7),ae (.I ((dO.length+R.length:Nat):Int)),ae (.S []),a3] (ai af D)=ae (.N,[ae (.R 7),ae (.I (((dO.length+R.length:Nat):Int)-1)),ae (.S (hZ f g mm i)),ae (.I i)],ai af D):=aq (bM (aH (aW (aW (ah ab) ab ab) ab ab) (ah ab) (bX ab c1))) (aq (aM (dp (aI (ah ab) aj (iO bf)) fS) (a_ aF)) (aq (bM (dn (cu aj (ar (ah ab) (ar (ah ab) (ar (ah ab) aO))) c4) ab)) (aq (Jl ab aj ab) aF)));have e2:((dO.length+R.length:Nat):Int)-1=(dO.length:Int)+R.length-1:=by lia
  rw[e2]at body;unfold mf;by_cases e3:hZ f g mm i=[]
  .rw[if_pos e3];rw[e3]at body;obtain⟨x,y,r⟩:=Rr b n0 h0 q w cR R (i::T) (by rw[qs,xm,cG];rfl) (λj hj=>aU j (eV _ hj)) (λj hj=>hg j (eV _ hj)) (λj hj=>hl j (eV _ hj)) u (ae (.I i));refine⟨x,y,?_⟩;rw[show u+(i::R).length+n0+1=(u+R.length+n0+1)+1 by rw[fH];lia];apply mB
   .exact dp (aI (ah ab) aj (EN c3)) (fu (aI (ah ab) aj dk))
   .exact tt
   .exact body
   .exact r
  .rw[if_neg e3];have r:=HR (af:=af) (D:=D) (k:=k+2) (m0:=hZ f g mm i) (a:=(dO.length:Int)+R.length-1) (x:=ae (.I i)) (u+R.length+n0) (bE ⟨by lia,e3⟩);refine⟨ae (.I ((dO.length:Int)+R.length-1)),ae (.I i),?_⟩;rw[show u+(i::R).length+n0+1=(u+R.length+n0+1)+1 by rw[fH];lia];apply mB
   .exact dp (aI (ah ab) aj (EN c3)) (fu (aI (ah ab) aj dk))
   .exact tt
   .exact body
   .exact r
theorem V1(b:aQ m af){c i0:Nat}{m0:aw}(hc:af.ctx=c)(qs:af.ay[0]?=ae (.I i0))(c1:aA ao (k+2) 595 [.R 7,.I c,.I 0] (ai af D)=ae (.S m0,ai af D))(u:Nat)(a3:Option V):
 ∃x y,fB ao (aA ao (k+2)) (g9 (bj jW 2)) (dr (bj jW 2)) (u+2) [ae (.R 7),ae (.I 0),ae (.S []),a3] (ai af D)=ae (.N,[ae (.R 7),x,ae (.S m0),y],ai af D):=by
 have bf:gc af.ay 0=ae (.I i0):=bc (i:=0) b.ay.g qs
 have c3:af.ctx≠-1:=by rw[hc];exact ki c
 have r:=HR (af:=af) (D:=D) (k:=k+2) (m0:=m0) (a:=-1) (x:=ae (.I c)) u (bB ab)
 rw[<- hc]at c1 r
 refine⟨ae (.I (-1)),ae (.I af.ctx),?_⟩
 apply mB
 .exact dp (aI (ah ab) aj ab) (fu (aI (ah ab) aj dk))
 .exact tt
 .exact aq (bM (aH (aW (aW (ah ab) ab ab) ab ab) (ah ab) (bX ab bf))) (aq (aM (dp (aI (ah ab) aj pl) (fu (aI (aW (ah ab) ab ab) aj (lZ c3)))) (cN (aq (bM (aW (ah ab) ab ab)) aF))) (aq (bM (dn (cu aj (ar (ah ab) (ar (ah ab) (ar (ah ab) aO))) c1) ab)) (aq (Jl ab aj ab) aF)))
 .exact r
theorem V0(b:aQ m af){i0:Nat}(qs:af.ay[1]?=ae (.I i0))(c1:aA ao (k+2) 595 [.R 7,.I i0,.I 1] (ai af D)=ae (.S ec,ai af D))(u:Nat)(a3:Option V):
 ∃x y,fB ao (aA ao (k+2)) (g9 (bj jW 2)) (dr (bj jW 2)) (u+2) [ae (.R 7),ae (.I 1),ae (.S []),a3] (ai af D)=ae (.N,[ae (.R 7),x,ae (.S ec),y],ai af D):=by
 have bf:gc af.ay 1=ae (.I i0):=bc (i:=1) b.ay.g qs
 have r:=HR (af:=af) (D:=D) (k:=k+2) (m0:=ec) (a:=0) (x:=ae (.I i0)) u (bE ⟨by decide,by decide⟩)
 refine⟨ae (.I 0),ae (.I i0),?_⟩
 apply mB
 .exact dp (aI (ah ab) aj ab) (fu (aI (ah ab) aj dk))
 .exact tt
 .exact aq (bM (aH (aW (aW (ah ab) ab ab) ab ab) (ah ab) (bX ab bf))) (aq (aM (dp (aI (ah ab) aj (iO (of_decide_eq_true (id (dy aB))))) fS) (a_ aF)) (aq (bM (dn (cu aj (ar (ah ab) (ar (ah ab) (ar (ah ab) aO))) c1) ab)) (aq (Jl ab aj ab) aF)))
 .exact r
noncomputable def nu(f g:Nat->aw)(mm m0:aw)(R:List Nat):aw:=if mf f g mm m0 R=[]then ec else mf f g mm m0 R
theorem acZ(b:aQ m af){dO R:List Nat}{ms:List V}{mm m0:aw}(h0:0<dO.length)(q:(ai af D)[af.am]?=ae (.L ms))(w:ms.length<aK)(qs:af.ay=(dO++R.reverse).map aV)(aZ:R.length<400)(aU:jr af f g R)(hg:∀i∈R,g i≠aJ/\g i≠nX)(hl:∀i∈R,du f g aR i=aB->ms.getLast?=ae (.S mm))
 (cR:∀(u:Nat)(a3:Option V),∃x y,fB ao (aA ao (k+2)) (g9 (bj jW 2)) (dr (bj jW 2)) (u+2) [ae (.R 7),ae (.I ((dO.length:Int)-1)),ae (.S []),a3] (ai af D)=ae (.N,[ae (.R 7),x,ae (.S m0),y],ai af D)):
 aA ao (k+3) 602 [.R 7] (ai af D)=ae (.N,ai {af with bH:=nu f g mm m0 R} D):=by
 obtain⟨x,y,r⟩:=Rr (f:=f) (g:=g) (mm:=mm) b 2 h0 q w cR R [] (by rw[iJ];exact qs) aU hg hl (497-R.length) az
 have e:(dO.length:Int)+R.length-1=(af.ay.length:Int)-1:=by rw[qs,cB,ba,mC];lia
 rw[show 497-R.length+R.length+2+1=500 by lia,e]at r
 have c1:=yo (af:=af) (D:=D) (k:=k+1) b
 unfold nu
 by_cases e2:mf f g mm m0 R=[]
 .rw[if_pos e2];rw[e2]at r;have bf:=DE (af:=af) (D:=D) (k:=k+1) ec;apply cV rfl rfl;apply aq
  .exact bM (fv (dn (b5 (aW (ah ab) ab ab) ab ab ab aO c1) ab) aj ab)
  apply aq
  .exact bM aj
  apply aq
  .apply oQ;exact r
  .exact aq (aM (aI (ah ab) aj dk) (cN (aq (bM aj) aF))) (aq (bu (b5 (ah ab) ab ab ab (ar (ah ab) aO) bf)) aF)
 .rw[if_neg e2];have bf:=DE (af:=af) (D:=D) (k:=k+1) (mf f g mm m0 R);apply cV rfl rfl;apply aq
  .exact bM (fv (dn (b5 (aW (ah ab) ab ab) ab ab ab aO c1) ab) aj ab)
  apply aq
  .exact bM aj
  apply aq
  .apply oQ;exact r
  .exact aq (aM (aI (ah ab) aj (bL e2)) (a_ aF)) (aq (bu (b5 (ah ab) ab ab ab (ar (ah ab) aO) bf)) aF)
end
end
section
section
variable{af:br}{D:List O}{k m:Nat}{f g:Nat->aw}
noncomputable def iT(af:br)(ms:List V):br:={af with eH:=if af.am=23 then ms else af.eH}
noncomputable def iS(af:br)(D:List O)(ms:List V):List O:=if af.am=23 then D else D.set (af.am-33) (.L ms)
noncomputable def fQ(af:br)(D:List O)(ms:List V):Prop:=(af.am=23/\af.eH=ms)\/∃j,af.am=j+33/\D[j]?=ae (.L ms)
theorem fQ.get{ms:List V}(h:fQ af D ms):(ai af D)[af.am]?=ae (.L ms):=by
 rcases h with⟨h,rfl⟩ | ⟨j,h,q⟩
 .rw[h];rfl
 .rw[h];exact bD q
theorem fQ.app{ms:List V}{X:List O}(h:fQ af D ms):fQ af (D++X) ms:=by
 rcases h with h | ⟨j,h,q⟩
 .exact bB h
 .exact bE ⟨j,h,bl q⟩
theorem fQ.set{ms:List V}{c:Nat}{o:O}(h:fQ af D ms)(w:af.am≠c+33):fQ af (D.set c o) ms:=by
 rcases h with h | ⟨j,h,q⟩
 .exact bB h
 .exact bE ⟨j,h,BE q (by lia)⟩
theorem rZ{ms ms':List V}(h:fQ af D ms'):(ai af D).set af.am (.L ms)=ai (iT af ms) (iS af D ms):=by
 unfold iT iS;have e1:∀a,a=23->(ai af D).set a (.L ms)=ai {af with eH:=ms} D:=by rintro a rfl;rfl
 have e2:∀a j,a=j+33->(ai af D).set a (.L ms)=ai {af with eH:=af.eH} (D.set (a-33) (.L ms)):=by rintro a j rfl;rw[mD];rfl
 rcases h with⟨h,_⟩ | ⟨j,h,q⟩
 .rw[if_pos h,if_pos h];exact e1 _ h
 .have aD:af.am≠23:=by lia
  rw[if_neg aD,if_neg aD];exact e2 _ j h
theorem fQ.bZ{ms ms':List V}(h:fQ af D ms'):fQ (iT af ms) (iS af D ms) ms:=by
 unfold iT iS;rcases h with⟨h,_⟩ | ⟨j,h,q⟩
 .exact bB ⟨h,if_pos h⟩
 .have aD:af.am≠23:=by lia
  refine bE ⟨j,h,?_⟩;rw[if_neg aD,h,mD,pY (jL.mp q).1]
theorem A4{a b c:V}{h:H}:aA ao (k+1) 560 [a,b,c] h=aA ao (k+1) 560 [a,b,c,.S aJ] h:=by
 unfold aA;rfl
theorem aQ.m8(b:aQ (m+3) af){p:Nat}:aQ m (m8 af D p):=by
 have bQ:aQ (m+1) (pB af (D++[dh p])):=aQ.Bl b;exact⟨(aQ.w bQ).bo,(aQ.w bQ).bY,(aQ.w bQ).names,(aQ.w bQ).dI,(aQ.w bQ).dH,(b.b0.a (x:=.I p)).a.w,(aQ.w bQ).dz,(aQ.w bQ).d5,bQ.ay.a,(aQ.w bQ).bW,(aQ.w bQ).eH,(aQ.w bQ).d1,(aQ.w bQ).bP,(aQ.w bQ).da,(aQ.w bQ).ed,(aQ.w bQ).cO,(aQ.w bQ).dU⟩
theorem afJ(b:aQ (m+3) af)(pi:fJ af)(aL:af.b0.length=af.bo.length)(nl:af.names.length=af.bo.length)(w1:af.f9≠-1)(w2:af.f9≠af.ctx){t:Nat}{aT:V}{tl:List V}{at':V}{as xs:List V}(aC:D[t]?=ae (.T (aT::.S aR::at'::tl)))(tw:(aT::.S aR::at'::tl).length<aK)(a:AT D at' as){p c:Nat}(hh:qe af p)(hp:p<af.bo.length)(hs:p<400)
 (qc:af.dz[p]?=ae (.R (c+33))) (fL:D[c]?=ae (.L xs)) (w:xs.length<aK):
 aA ao (k+5) 567 [.R 7,.R (t+33)] (ai af D)=ae (.I (af.bo.length:Int),ai (m8 af D p) (m9 af D p c xs as)):=by
 have c1:=ZG (k:=k) b pi aL a hh hp hs qc fL w
 rw[<- A4]at c1
 have bf:=UU (af:=m8 af D p) (D:=m9 af D p c xs as) (k:=k+3) b.m8 (n:=af.bo.length) (Ol nl) w1 w2
 exact cJ ab ab (aq (bM (cu aj (ar (ah ab) (ar (aH (ah ab) aj (a8 aC (bc tw ab))) (ar (aH (ah ab) aj (a8 aC (bc tw ab))) aO))) c1)) (aq (bu (dn (cu aj (ar (ah ab) (ar (ah ab) aO)) bf) ab)) (b2 (cQ (ah ab)) b1)))
noncomputable def th(af:br)(D:List O)(p:Nat):br:={m8 af D p with bW:=af.bW++[.I (-1)],cy:=aP,bH:=cX}
theorem ach(b:aQ (m+3) af)(pi:fJ af)(aL:af.b0.length=af.bo.length)(nl:af.names.length=af.bo.length)(w1:af.f9≠-1)(w2:af.f9≠af.ctx){t:Nat}{aT:V}{tl:List V}{at':V}{as xs ms:List V}(aC:D[t]?=ae (.T (aT::.S aR::at'::tl)))(tw:(aT::.S aR::at'::tl).length<aK)(a:AT D at' as){p c:Nat}(hh:qe af p)(hp:p<af.bo.length)(hs:p<400)
 (qc:af.dz[p]?=ae (.R (c+33))) (fL:D[c]?=ae (.L xs)) (w:xs.length<aK) (hm:fQ af D ms) (hc:af.am≠c+33) (wm:ms.length<aK):
 aA ao (k+6) 609 [.R 7,.R (t+33)] (ai af D)=ae (.N,ai (iT (th af D p) (ms++[.S cX])) (iS (th af D p) (m9 af D p c xs as) (ms++[.S cX]))):=by
 have c1:=afJ (k:=k) b pi aL nl w1 w2 aC tw a hh hp hs qc fL w
 have bQ:aQ m (m8 af D p):=b.m8
 have bf:=aaY (af:=m8 af D p) (D:=m9 af D p c xs as) (k:=k+4) bQ
 have c3:=DE (af:={m8 af D p with bW:=af.bW++[.I (-1)],cy:=aP}) (D:=m9 af D p c xs as) (k:=k+4) cX
 have hm2:fQ (th af D p) (m9 af D p c xs as) ms:=fQ.app (af:=th af D p) (fQ.set (af:=th af D p) hm hc)
 have c4:=hm2.get
 rw[<- rZ hm2]
 exact cV ab ab (aq (bu (cu aj (ar (ah ab) (ar (ah ab) aO)) c1)) (aq (bu (b5 (aW (ah ab) ab ab) ab ab ab aO bf)) (aq (w5 aj (ah ab) (w8 ab (aN ab))) (aq (bu (b5 (ah ab) ab ab ab (ar aj aO) c3)) (aq (bu (dW (aW (ah ab) ab ab) c4 aj c4 wm)) aF)))))
end
end
section
section
variable{af:br}{D:List O}{k m:Nat}{f g:Nat->aw}
noncomputable def oT:O:=.T [.S aR]
noncomputable def oB(af:br)(A F ms:List V):br:=iT {af with ay:=A,bW:=F} ms
noncomputable def rV(af:br)(D:List O)(ms:List V):List O:=iS af (D++[oT]) ms
theorem aQ.ms(b:aQ m af){ms:List V}(h:bb m ms):aQ m (iT af ms):=by
 refine⟨b.bo,b.bY,b.names,b.dI,b.dH,b.b0,b.dz,b.d5,b.ay,b.bW,?_,b.d1,b.bP,b.da,b.ed,b.cO,b.dU⟩;show bb m (if af.am=23 then ms else af.eH);split
 .exact h
 .exact b.eH
theorem aap(b:aQ m af){dO fD R Q:List Nat}{F ms:List V}{t:Nat}{l:V}{mm m0:aw}(qs:af.ay=(dO++fD.reverse).map aV++aV t::(R.reverse.map aV))(qf:af.bW=F++.I (-1)::(Q.reverse.map aV))(hm:fQ af D (ms++[l]))(wm:bb m (ms++[l]))
 (gt:af.bY[t]?=ae (.S (f t))/\af.names[t]?=ae (.S (g t))) (et:fC f g t=aR) (aU:jr af f g R) (hx:∀x∈R,fC f g x≠aR) (aZ:R.length<400) (hq:Q.length<400)
 (h0:0<dO.length) (hr2:fD.length<400) (hn2:jr af f g fD) (hg:∀i∈fD,g i≠aJ/\g i≠nX) (hl:∀i∈fD,du f g aR i=aB->ms.getLast?=ae (.S mm))
 (cR:∀(u:Nat)(a3:Option V),∃x y,fB ao (aA ao (k+2)) (g9 (bj jW 2)) (dr (bj jW 2)) (u+2) [ae (.R 7),ae (.I ((dO.length:Int)-1)),ae (.S []),a3] (ai (oB af ((dO++fD.reverse).map aV) F ms) (rV af D ms))=ae (.N,[ae (.R 7),x,ae (.S m0),y],ai (oB af ((dO++fD.reverse).map aV) F ms) (rV af D ms))):
 aA ao (k+4) 616 [.R 7] (ai af D)=ae (.N,ai {oB af ((dO++fD.reverse).map aV) F ms with bH:=nu f g mm m0 fD} (rV af D ms)):=by
 have bA:bb m ((dO++fD.reverse).map aV):=bb.cut (qs▸b.ay)
 have bF:bb m F:=bb.cut (qf▸b.bW)
 have c1:=af1 (D:=D++[oT]) (k:=k) b bS et qs gt aU hx aZ
 have ey:aQ m {af with ay:=(dO++fD.reverse).map aV}:=b.st bA
 have bf:=Wk (D:=D++[oT]) (k:=k+2) ey qf hq
 have hm1:fQ {af with ay:=(dO++fD.reverse).map aV,bW:=F} (D++[oT]) (ms++[l]):=fQ.app (af:={af with ay:=(dO++fD.reverse).map aV,bW:=F}) hm
 have c3:=hm1.get
 have e:ai (oB af ((dO++fD.reverse).map aV) F ms) (rV af D ms)=(ai {af with ay:=(dO++fD.reverse).map aV,bW:=F} (D++[oT])).set af.am (.L (ms++[l]).dropLast):=by
  rw[iH];exact(rZ hm1).symm
 have c4:(ms++[l]).getLast?=ae l:=gf ..
 have wg:=wm.g
 have bms:bb m ms:=wm.cut
 have kZ:aQ m (oB af ((dO++fD.reverse).map aV) F ms):=aQ.ms (ey.Fp bF) bms
 have c5:=acZ (f:=f) (g:=g) (mm:=mm) (k:=k) kZ h0 (hm1.bZ (ms:=ms)).get bms.g ab hr2 hn2 hg hl cR
 have s3:cH ao (aA ao (k+3)) (bj Ln 2) [ae (.R 7)] (ai {af with ay:=(dO++fD.reverse).map aV,bW:=F} (D++[oT]))=ae (.N,[ae (.R 7)],ai (oB af ((dO++fD.reverse).map aV) F ms) (rV af D ms)):=by
  rw[e];exact bu (pz (aW (ah rfl) rfl rfl) c3 wg c4)
 apply cV ab ab
 apply aq
 .exact bu (b5 (aW (ah ab) ab ab) ab ab ab (ar (dj (ar aj aO) (aN ab)) aO) c1)
 apply aq
 .exact bu (b5 (aW (ah ab) ab ab) ab ab ab aO bf)
 apply aq
 .exact s3
 .exact aq (bu (cu aj (ar (ah ab) aO) c5)) aF
noncomputable def kK(af:br)(D:List O):br:={af with d1:=af.d1++[.R (D.length+33)]}
noncomputable def rQ(af:br)(w:aw):O:=.T [.S w,.S af.bH]
theorem Wl(b:aQ m af){s:List Nat}(q:af.ay=s.map aV)(aU:jr af f g s)(h:s.any (du f g aR)=aP):aA ao (k+3) 623 [.R 7] (ai af D)=ae (.N,ai (kK af D) (D++[rQ af j6])):=by
 have c1:=Bq (D:=D) (k:=k) (nm:=aR) b q aU;rw[h]at c1;have bf:=ya (D:=D) (k:=k+1) b j6;exact cJ rfl rfl (b2 (aM (iQ (dn (b5 (aW (ah rfl) rfl rfl) rfl rfl rfl (ar aj aO) c1) rfl) fq) (cN (aq (bu (b5 (ah rfl) rfl rfl rfl (ar aj aO) bf)) (b2 (cQ aj) b1)))) b1)
theorem Wm{r:V}{aD:H}(b:aQ m af){s R:List Nat}{A:List V}{t:Nat}(q:af.ay=s.map aV)(aU:jr af f g s)(h:s.any (du f g aR)=aB)(qs:af.ay=A++aV t::(R.reverse.map aV))(gt:af.bY[t]?=ae (.S (f t))/\af.names[t]?=ae (.S (g t)))(et:fC f g t=aR)(hn2:jr af f g R)(hx:∀x∈R,fC f g x∈g5++g6)(aZ:R.length<400)
 (c:aA ao (k+4) 616 [.R 7] (ai {af with ay:=A++[aV t]} (m_ D))=ae (r,aD)):aA ao (k+5) 623 [.R 7] (ai af D)=ae (.N,aD):=by
 have c1:=Bq (D:=D) (k:=k+2) (nm:=aR) b q aU
 rw[h]at c1
 have bf:=Ox (D:=D) (k:=k+1) b (by rw[et];decide) qs gt hn2 hx aZ
 have bQ:aQ m {af with ay:=A++[aV t]}:=b.st (bb.cut (r:=R.reverse.map aV) (by rw[cG];exact qs▸b.ay))
 have c3:(A++[aV t]).getLast?=ae (.I t):=gf ..
 have c4:((A++[aV t]).length:Int)≠0:=by rw[ba,dS];lia
 have c5:=r7 (af:={af with ay:=A++[aV t]}) (D:=m_ D) (k:=k+2) bQ c3 c4 gt
 rw[et]at c5
 exact cV ab ab (aq (aM (iQ (dn (b5 (aW (ah ab) ab ab) ab ab ab (ar aj aO) c1) ab) tt) (a_ aF)) (aq (bu (cu aj (ar (aW (ah ab) ab ab) aO) bf)) (aq (aM (aI (dn (b5 (aW (ah ab) ab ab) ab ab ab aO c5) ab) aj iP) (a_ aF)) (aq (bu (cu aj (ar (ah ab) aO) c)) aF))))
theorem Wn{r:V}{aD:H}(b:aQ (m+1) af){s R:List Nat}{A:List V}{x:Nat}(q:af.ay=s.map aV)(aU:jr af f g s)(h:s.any (du f g aR)=aB)(qs:af.ay=A++aV x::(R.reverse.map aV))(gt:af.bY[x]?=ae (.S (f x))/\af.names[x]?=ae (.S (g x)))(et:fC f g x∉g5++g6)(en:fC f g x≠aR)(hn2:jr af f g R)(hx:∀x∈R,fC f g x∈g5++g6)(aZ:R.length<400)
 (c:aA ao (k+4) 616 [.R 7] (ai (kK {af with ay:=A++[aV x]} (m_ D)) (m_ D++[rQ af iE]))=ae (r,aD)):aA ao (k+5) 623 [.R 7] (ai af D)=ae (.N,aD):=by
 have c1:=Bq (D:=D) (k:=k+2) (nm:=aR) b q aU
 rw[h]at c1
 have bf:=Ox (D:=D) (k:=k+1) b et qs gt hn2 hx aZ
 have bQ:aQ (m+1) {af with ay:=A++[aV x]}:=b.st (bb.cut (r:=R.reverse.map aV) (by rw[cG];exact qs▸b.ay))
 have c3:(A++[aV x]).getLast?=ae (.I x):=gf ..
 have c4:((A++[aV x]).length:Int)≠0:=by rw[ba,dS];lia
 have c5:=r7 (af:={af with ay:=A++[aV x]}) (D:=m_ D) (k:=k+2) bQ c3 c4 gt
 have c6:=ya (af:={af with ay:=A++[aV x]}) (D:=m_ D) (k:=k+3) bQ iE
 exact cV ab ab (aq (aM (iQ (dn (b5 (aW (ah ab) ab ab) ab ab ab (ar aj aO) c1) ab) tt) (a_ aF)) (aq (bu (cu aj (ar (aW (ah ab) ab ab) aO) bf)) (aq (aM (aI (dn (b5 (aW (ah ab) ab ab) ab ab ab aO c5) ab) aj (oi en)) (cN (aq (bu (b5 (ah ab) ab ab ab (ar aj aO) c6)) aF))) (aq (bu (cu aj (ar (ah ab) aO) c)) aF))))
end
end
section
section
variable{af:br}{D:List O}{k m:Nat}{f g:Nat->aw}
noncomputable def tj:List aw:=[Uc,[100,101,115,99],iN]
theorem Pl(b:aQ m af){i:Nat}(s:af.bY[i]?=ae (.S cY)):aA ao (k+1) 179 [.R 8,.I i] (ai af D)=ae (.B aP,ai af D):=cJ ab ab (b2 (cQ (dp (aI (aH (aW (ah ab) ab ab) (ah ab) (bX ab (bc (bb.g (aQ.bY b)) s))) aj (bL (of_decide_eq_true (id (dy aB))))) fS)) b1)
theorem Rd(b:aQ m af){i:Nat}{nm:aw}(s:af.bY[i]?=ae (.S cY))(t:af.names[i]?=ae (.S nm)):aA ao (k+1) 186 [.R 8,.I i] (ai af D)=ae (.B (decide (nm∈tj)),ai af D):=by
 have c1:cD .I (ai af (D++[.T (tj.map .S)])) (.S nm) (.R (D.length+33))=ae (decide (nm∈tj)):=fE (bD bS) ab ab;exact cJ ab ab (b2 (aM (aI (aH (aW (ah ab) ab ab) (ah ab) (bX ab (bc (bb.g (aQ.bY b)) s))) aj dk) (cN (b2 (cQ (dG (aI (aH (aW (ah ab) ab ab) (ah ab) (bX ab (bc (bb.g (aQ.names b)) t))) (dj (ar aj (ar aj (ar aj aO))) (aN ab)) c1) el ab)) b1))) b1)
theorem afT{t:Nat}(c:aA ao (k+3) 500 [.R 7] (ai af D)=ae (.B aP,ai af D)):aA ao (k+4) 514 [.R 7,.R (t+33)] (ai af D)=ae (.B aB,ai af D):=cJ ab ab (b2 (aM (jy (iQ (dn (b5 (ah ab) ab ab ab aO c) ab) fq) Q4) (cN (b2 (cQ aj) b1))) b1)
theorem afU{t:Nat}{l:List V}(aC:D[t]?=ae (.T (.S dY::l)))(tw:(V.S dY::l).length<aK)(c:aA ao (k+3) 500 [.R 7] (ai af D)=ae (.B aB,ai af D)):aA ao (k+4) 514 [.R 7,.R (t+33)] (ai af D)=ae (.B aB,ai af D):=cJ ab ab (b2 (aM (jy (iQ (dn (b5 (ah ab) ab ab ab aO c) ab) tt) (ng (aI (aH (ah ab) aj (a8 aC (bc tw ab))) aj dk))) (cN (b2 (cQ aj) b1))) b1)
theorem afV(b:aQ m af){t i:Nat}{l:List V}{nm:aw}(aC:D[t]?=ae (.T (.S d6::l)))(tw:(V.S d6::l).length<aK)(c:aA ao (k+3) 500 [.R 7] (ai af D)=ae (.B aB,ai af D))(a:aA ao (k+3) 493 [.R 7] (ai af D)=ae (.I i,ai af D))(s:af.bY[i]?=ae (.S cY))(n:af.names[i]?=ae (.S nm)):aA ao (k+4) 514 [.R 7,.R (t+33)] (ai af D)=ae (.B (decide (nm∈tj)),ai af D):=by
 have bf:=Pl (D:=D) (k:=k+2) b s;have c3:=Rd (D:=D) (k:=k+2) b s n;exact cJ ab ab (aq (aM (jy (iQ (dn (b5 (ah ab) ab ab ab aO c) ab) tt) (ng (aI (aH (ah ab) aj (a8 aC (bc tw ab))) aj (bL (of_decide_eq_true (id (dy aB))))))) (a_ aF)) (aq (bM (aW (ah ab) ab ab)) (aq (bM (dn (b5 (ah ab) ab ab ab aO a) ab)) (b2 (aM (aI (aH (ah ab) aj (a8 aC (bc tw ab))) aj dk) (cN (b2 (cQ (jy (dn (cu aj (ar (ah ab) (ar (ah ab) aO)) bf) ab) (ng (dn (cu aj (ar (ah ab) (ar (ah ab) aO)) c3) ab)))) b1))) b1))))
theorem afW(b:aQ m af){t i:Nat}{l:List V}{aT:aw}(aC:D[t]?=ae (.T (.S aT::l)))(tw:(V.S aT::l).length<aK)(w1:aT≠dY)(w2:aT≠d6)(w3:aT≠bO)(c:aA ao (k+3) 500 [.R 7] (ai af D)=ae (.B aB,ai af D))(a:aA ao (k+3) 493 [.R 7] (ai af D)=ae (.I i,ai af D)):aA ao (k+4) 514 [.R 7,.R (t+33)] (ai af D)=ae (.B aP,ai af D):=cJ ab ab (aq (aM (jy (iQ (dn (b5 (ah ab) ab ab ab aO c) ab) tt) (ng (aI (aH (ah ab) aj (a8 aC (bc tw ab))) aj (bL w1)))) (a_ aF)) (aq (bM (aW (ah ab) ab ab)) (aq (bM (dn (b5 (ah ab) ab ab ab aO a) ab)) (aq (aM (aI (aH (ah ab) aj (a8 aC (bc tw ab))) aj (bL w2)) (a_ aF)) (b2 (aM (aI (aH (ah ab) aj (a8 aC (bc tw ab))) aj (oi w3)) (cN (b2 (cQ aj) b1))) b1)))))
theorem afX(b:aQ m af){t i:Nat}{l:List V}{nm:aw}(aC:D[t]?=ae (.T (.S bO::l)))(tw:(V.S bO::l).length<aK)(c:aA ao (k+3) 500 [.R 7] (ai af D)=ae (.B aB,ai af D))(a:aA ao (k+3) 493 [.R 7] (ai af D)=ae (.I i,ai af D))(s:af.bY[i]?=ae (.S cY))(n:af.names[i]?=ae (.S nm)):aA ao (k+4) 514 [.R 7,.R (t+33)] (ai af D)=ae (.B (decide (nm∈tj)),ai af D):=by
 have bf:=Pl (D:=D) (k:=k+2) b s;have c3:=Rd (D:=D) (k:=k+2) b s n;exact cJ ab ab (aq (aM (jy (iQ (dn (b5 (ah ab) ab ab ab aO c) ab) tt) (ng (aI (aH (ah ab) aj (a8 aC (bc tw ab))) aj (bL (of_decide_eq_true (id (dy aB))))))) (a_ aF)) (aq (bM (aW (ah ab) ab ab)) (aq (bM (dn (b5 (ah ab) ab ab ab aO a) ab)) (aq (aM (aI (aH (ah ab) aj (a8 aC (bc tw ab))) aj (bL (of_decide_eq_true (id (dy aB))))) (a_ aF)) (aq (aM (aI (aH (ah ab) aj (a8 aC (bc tw ab))) aj iP) (a_ aF)) (aq (aM (dp (dn (cu aj (ar (ah ab) (ar (ah ab) aO)) bf) ab) fS) (a_ aF)) (aq (aM (pw (dp (aI (aH (aW (ah ab) ab ab) (ah ab) (bX ab (bc (bb.g (aQ.bY b)) s))) aj (bL (of_decide_eq_true (id (dy aB))))) fS)) (a_ aF)) (b2 (cQ (dn (cu aj (ar (ah ab) (ar (ah ab) aO)) c3) ab)) b1))))))))
theorem mz{nm:aw}{fn:Nat}{t r:V}{aD:H}(q:Dq.lookup nm=ae (.A fn))(c:aA ao k fn [.R 7,t] (ai af D)=ae (r,aD)):aA ao (k+1) 472 [.R 7,.S nm,t] (ai af D)=ae (.N,aD):=by
 have c1:cD .I (ai af D) (.S nm) (.R 5)=ae true:=Z1 rfl (by rw[q];rfl);have bf:=EO c1;exact cV rfl rfl (aq (aM (aI (ah rfl) (aW (ah rfl) rfl rfl) bf) (a_ aF)) (aq (bM (aH (aW (ah rfl) rfl rfl) (ah rfl) (dJ rfl q))) (aq (bu (cu (ah rfl) (ar (ah rfl) (ar (ah rfl) aO)) c)) aF)))
theorem Rf{t r:V}{aD:H}(a:aA ao (k+1) 514 [.R 7,t] (ai af D)=ae (.B aB,ai af D))(c:aA ao (k+1) 472 [.R 7,.S af.bH,t] (ai af D)=ae (r,aD)):aA ao (k+2) 479 [.R 7,t] (ai af D)=ae (.N,aD):=cV ab ab (aq (aM (dn (cu aj (ar (ah ab) (ar (ah ab) aO)) a) ab) (cN (aq (bu (b5 (ah ab) ab ab ab (ar (aW (ah ab) ab ab) (ar (ah ab) aO)) c)) aF))) aF)
theorem acK{t r:V}{aD:H}(a:aA ao (k+1) 514 [.R 7,t] (ai af D)=ae (.B aP,ai af D))(c:aA ao (k+1) 472 [.R 7,.S A1,t] (ai af D)=ae (r,aD)):aA ao (k+2) 479 [.R 7,t] (ai af D)=ae (.N,aD):=cV ab ab (aq (aM (dn (cu aj (ar (ah ab) (ar (ah ab) aO)) a) ab) (a_ (aq (bu (b5 (ah ab) ab ab ab (ar aj (ar (ah ab) aO)) c)) aF))) aF)
theorem Za{t:V}(w:af.done=aB):aA ao (k+1) 486 [.R 7,t] (ai af D)=ae (.N,ai af D):=by
 have e:EG af=EG {af with done:=aB}:=by rw[<- w]
 have e2:ai af D=ai {af with done:=aB} D:=by rw[<- w]
 rw[e2];exact cJ rfl rfl (b2 (aM (aW (ah rfl) rfl rfl) (cN (b2 (cQ aj) b1))) b1)
theorem Bh{t:Nat}{aT:aw}{l:List V}{r:V}{aG:br}{D':List O}(w:af.done=aP)(c:aA ao k 479 [.R 7,.R (t+33)] (ai af D)=ae (r,ai aG D'))(aC:D'[t]?=ae (.T (.S aT::l)))(tw:(V.S aT::l).length<aK)(w3:aT≠bO):aA ao (k+1) 486 [.R 7,.R (t+33)] (ai af D)=ae (.N,ai aG D'):=by
 have e2:ai af D=ai {af with done:=aP} D:=by rw[<- w]
 rw[e2]at c⊢;exact cV rfl rfl (aq (aM (aW (ah rfl) rfl rfl) (a_ aF)) (aq (aM (aW (ah rfl) rfl rfl) (a_ aF)) (aq (w5 aj (ah rfl) (w8 rfl (aN rfl))) (aq (bu (b5 (ah rfl) rfl rfl rfl (ar (ah rfl) aO) c)) (aq (aM (pw (dp (aI (aH (ah rfl) aj (a8 aC (bc tw rfl))) aj (bL w3)) fS)) (a_ aF)) aF)))))
theorem Zc{t:Nat}{x y:V}{s:Bool}{r:V}{aG:br}{D':List O}(w:af.done=aP)(c:aA ao (k+1) 479 [.R 7,.R (t+33)] (ai af D)=ae (r,ai aG D'))(aC:D'[t]?=ae (.T [.S bO,x,y,.B s]))(b:aQ m aG):aA ao (k+2) 486 [.R 7,.R (t+33)] (ai af D)=ae (.N,if s=aB then ai (kK aG D') (D'++[rQ aG mA])else ai aG D'):=by
 have e2:ai af D=ai {af with done:=aP} D:=by rw[<- w]
 have tw:[V.S bO,x,y,.B s].length<aK:=aN (n:=4) (m:=aK) rfl;have bf:=ya (D:=D') (k:=k) b mA;rw[e2]at c⊢;cases s with
 | true=>
  rw[if_pos rfl];exact cV rfl rfl (aq (aM (aW (ah rfl) rfl rfl) (a_ aF)) (aq (aM (aW (ah rfl) rfl rfl) (a_ aF)) (aq (w5 aj (ah rfl) (w8 rfl (aN rfl))) (aq (bu (b5 (ah rfl) rfl rfl rfl (ar (ah rfl) aO) c)) (aq (aM (pw (dp (aI (aH (ah rfl) aj (a8 aC rfl)) aj dk) (fu (dp (aH (ah rfl) aj (a8 aC rfl)) (fu (iQ (aW (ah rfl) rfl rfl) fq)))))) (cN (aq (bu (b5 (ah rfl) rfl rfl rfl (ar aj aO) bf)) aF))) aF)))))
 | false=>
  rw[if_neg (by decide)];exact cV rfl rfl (aq (aM (aW (ah rfl) rfl rfl) (a_ aF)) (aq (aM (aW (ah rfl) rfl rfl) (a_ aF)) (aq (w5 aj (ah rfl) (w8 rfl (aN rfl))) (aq (bu (b5 (ah rfl) rfl rfl rfl (ar (ah rfl) aO) c)) (aq (aM (pw (dp (aI (aH (ah rfl) aj (a8 aC rfl)) aj dk) (fu (dp (aH (ah rfl) aj (a8 aC rfl)) fS)))) (a_ aF)) aF)))))
noncomputable def pC:List aw:=[xC,AF,AG,AH,AI,AJ,AK,AL,aR,iN]
theorem ZR{t:Nat}{nm:aw}{l:List V}(aC:D[t]?=ae (.T (.S bO::.S nm::l)))(tw:(V.S bO::.S nm::l).length<aK):aA ao (k+1) 630 [.R (t+33)] (ai af D)=ae (.B (decide (nm∈pC)),ai af D):=by
 have c1:cD .I (ai af (D++[.T (pC.map .S)])) (.S nm) (.R (D.length+33))=ae (decide (nm∈pC)):=fE (bD bS) ab ab;exact cJ ab ab (aq (aM (aI (aH (ah ab) aj (a8 aC (bc tw ab))) aj (bL (of_decide_eq_true (id (dy aB))))) (a_ aF)) (b2 (cQ (dp (aI (aH (ah ab) aj (a8 aC (bc tw ab))) aj dk) (fu (dG (aI (aH (ah ab) aj (a8 aC (bc tw ab))) (dj (ar aj (ar aj (ar aj (ar aj (ar aj (ar aj (ar aj (ar aj (ar aj (ar aj aO)))))))))) (aN ab)) c1) el ab)))) b1))
theorem ZS{t:Nat}{l:List V}(aC:D[t]?=ae (.T (.S dc::.S aR::l)))(tw:(V.S dc::.S aR::l).length<aK):aA ao (k+1) 630 [.R (t+33)] (ai af D)=ae (.B aB,ai af D):=cJ ab ab (b2 (aM (aI (aH (ah ab) aj (a8 aC (bc tw ab))) aj dk) (cN (b2 (cQ (aI (aH (ah ab) aj (a8 aC (bc tw ab))) aj dk)) b1))) b1)
theorem ZQ{t:Nat}{nm:aw}{l:List V}(w:nm≠aR)(aC:D[t]?=ae (.T (.S dc::.S nm::l)))(tw:(V.S dc::.S nm::l).length<aK):aA ao (k+1) 630 [.R (t+33)] (ai af D)=ae (.B aP,ai af D):=cJ ab ab (b2 (aM (aI (aH (ah ab) aj (a8 aC (bc tw ab))) aj dk) (cN (b2 (cQ (aI (aH (ah ab) aj (a8 aC (bc tw ab))) aj (bL w))) b1))) b1)
theorem Ot{t:Nat}{aT:aw}{l:List V}(w:aT≠dc)(w2:aT≠bO)(aC:D[t]?=ae (.T (.S aT::l)))(tw:(V.S aT::l).length<aK):aA ao (k+1) 630 [.R (t+33)] (ai af D)=ae (.B aP,ai af D):=cJ ab ab (aq (aM (aI (aH (ah ab) aj (a8 aC (bc tw ab))) aj (bL w)) (a_ aF)) (b2 (cQ (dp (aI (aH (ah ab) aj (a8 aC (bc tw ab))) aj (bL w2)) fS)) b1))
end
end
section
section
variable{af:br}{D:List O}{k m:Nat}{f g:Nat->aw}
noncomputable def Ac:List aw:=[i7,ky,j8,gK,j9]
noncomputable def xV:List aw:=[fj,jO]
noncomputable def dw(nm:aw):aw:=if nm∈Ac then lX else if nm=rx then oh else if nm=jN then i8 else if nm∈xV then lW else ec
theorem afI(nm:aw):aA ao (k+1) 637 [.S nm] (ai af D)=ae (.S (dw nm),ai af D):=by
 unfold dw;by_cases e1:nm∈Ac
 .rw[if_pos e1];have c1:cD .I (ai af (D++[.T (Ac.map .S)])) (.S nm) (.R (D.length+33))=ae true:=fE (bD bS) rfl (decide_eq_true e1);exact cJ rfl rfl (b2 (aM (dG (aI (ah rfl) (dj (ar aj (ar aj (ar aj (ar aj (ar aj aO))))) (aN rfl)) c1) el rfl) (cN (b2 (cQ aj) b1))) b1)
 .rw[if_neg e1];have c1:cD .I (ai af (D++[.T (Ac.map .S)])) (.S nm) (.R (D.length+33))=ae false:=fE (bD bS) rfl (decide_eq_false e1);by_cases e2:nm=rx
  .rw[if_pos e2];subst e2;exact cJ rfl rfl (aq (aM (dG (aI (ah rfl) (dj (ar aj (ar aj (ar aj (ar aj (ar aj aO))))) (aN rfl)) c1) el rfl) (a_ aF)) (b2 (aM (aI (ah rfl) aj dk) (cN (b2 (cQ aj) b1))) b1))
  .rw[if_neg e2];by_cases e3:nm=jN
   .rw[if_pos e3];subst e3;exact cJ rfl rfl (aq (aM (dG (aI (ah rfl) (dj (ar aj (ar aj (ar aj (ar aj (ar aj aO))))) (aN rfl)) c1) el rfl) (a_ aF)) (aq (aM (aI (ah rfl) aj (bL e2)) (a_ aF)) (b2 (aM (aI (ah rfl) aj dk) (cN (b2 (cQ aj) b1))) b1)))
   .rw[if_neg e3];by_cases e4:nm∈xV
    .rw[if_pos e4];have bf:cD .I (ai af (D++[.T (xV.map .S)])) (.S nm) (.R (D.length+33))=ae true:=fE (bD bS) rfl (decide_eq_true e4);exact cJ rfl rfl (aq (aM (dG (aI (ah rfl) (dj (ar aj (ar aj (ar aj (ar aj (ar aj aO))))) (aN rfl)) c1) el rfl) (a_ aF)) (aq (aM (aI (ah rfl) aj (bL e2)) (a_ aF)) (aq (aM (aI (ah rfl) aj (bL e3)) (a_ aF)) (b2 (aM (dG (aI (ah rfl) (dj (ar aj (ar aj aO)) (aN rfl)) bf) el rfl) (cN (b2 (cQ aj) b1))) b1))))
    .rw[if_neg e4];have bf:cD .I (ai af (D++[.T (xV.map .S)])) (.S nm) (.R (D.length+33))=ae false:=fE (bD bS) rfl (decide_eq_false e4);exact cJ rfl rfl (aq (aM (dG (aI (ah rfl) (dj (ar aj (ar aj (ar aj (ar aj (ar aj aO))))) (aN rfl)) c1) el rfl) (a_ aF)) (aq (aM (aI (ah rfl) aj (bL e2)) (a_ aF)) (aq (aM (aI (ah rfl) aj (bL e3)) (a_ aF)) (aq (aM (dG (aI (ah rfl) (dj (ar aj (ar aj aO)) (aN rfl)) bf) el rfl) (a_ aF)) (b2 (cQ aj) b1)))))
theorem aaZ{a b c:List V}(h:fQ af D c):ai (iT (iT af a) b) (iS (iT af a) (iS af D a) b)=ai (iT af b) (iS af D b):=by
 rw[<- rZ (h.bZ (ms:=a)),<-rZ h,<-rZ h];exact List.set_set ..
theorem afZ{t:Nat}{nm:aw}{tl ms:List V}{aT l r:V}{aD:H}(aC:D[t]?=ae (.T (aT::.S nm::tl)))(tw:(aT::.S nm::tl).length<aK)(hm:fQ af D (ms++[l]))(wm:bb 1 (ms++[l]))(c:aA ao (k+1) 479 [.R 7,.R (t+33)] (ai {iT af (ms++[.S (dw nm)])with bH:=dw nm} (iS af D (ms++[.S (dw nm)])))=ae (r,aD)):
 aA ao (k+2) 644 [.R 7,.R (t+33)] (ai af D)=ae (.N,aD):=by
 have c1:=afI (af:=af) (D:=D) (k:=k) nm
 have bf:=hm.get
 have c3:(ms++[l]).getLast?=ae l:=gf ..
 have wg:=wm.g
 have s1:cH ao (aA ao (k+1)) (bj EC 1) [ae (.R 7),ae (.R (t+33)),ae (.S (dw nm))] (ai af D)=ae (.N,[ae (.R 7),ae (.R (t+33)),ae (.S (dw nm))],ai (iT af ms) (iS af D ms)):=by
  rw[<- rZ hm];have e:ms=(ms++[l]).dropLast:=(iH ..).symm;rw[show(ai af D).set af.am (.L ms)=(ai af D).set af.am (.L (ms++[l]).dropLast) by rw[<- e]];exact bu (pz (aW (ah rfl) rfl rfl) bf wg c3)
 have hm1:fQ (iT af ms) (iS af D ms) ms:=hm.bZ
 have c4:=hm1.get
 have wg2:=wm.cut.g
 have s2:cH ao (aA ao (k+1)) (bj EC 2) [ae (.R 7),ae (.R (t+33)),ae (.S (dw nm))] (ai (iT af ms) (iS af D ms))=ae (.N,[ae (.R 7),ae (.R (t+33)),ae (.S (dw nm))],ai (iT af (ms++[.S (dw nm)])) (iS af D (ms++[.S (dw nm)]))):=by
  rw[<- aaZ (a:=ms) (b:=ms++[V.S (dw nm)]) hm,<-rZ (ms:=ms++[V.S (dw nm)]) hm1];exact bu (dW (aW (ah rfl) rfl rfl) c4 (ah rfl) c4 wg2)
 have c5:=DE (af:=iT af (ms++[.S (dw nm)])) (D:=iS af D (ms++[.S (dw nm)])) (k:=k) (dw nm)
 apply cV ab ab
 apply aq
 .exact bM (dn (cu aj (ar (aH (ah ab) aj (a8 aC (bc tw ab))) aO) c1) ab)
 apply aq
 .exact s1
 apply aq
 .exact s2
 .exact aq (bu (b5 (ah ab) ab ab ab (ar (ah ab) aO) c5)) (aq (bu (b5 (ah ab) ab ab ab (ar (ah ab) aO) c)) aF)
theorem XD{n:Nat}{x:Option V}(c:aA ao (k+1) 284 [.R 19,.S aR] (ai af D)=ae (.B aP,ai af D)):fB ao (aA ao (k+1)) (g9 (bj mS 1)) (dr (bj mS 1)) (n+1) [ae (.R 7),x] (ai af D)=ae (.N,[ae (.R 7),x],ai af D):=by
 apply q8
 .exact dn (b5 (aW (ah ab) ab ab) ab ab ab (ar aj aO) c) ab
 .exact fq
theorem XC{n:Nat}{x:Option V}{r:V}{aG:br}{D':List O}{R:dm×bJ×H}(b:aQ m af)(c:aA ao (k+1) 284 [.R 19,.S aR] (ai af D)=ae (.B aB,ai af D))(bf:aA ao (k+1) 616 [.R 7] (ai (kK af D) (D++[rQ af eK]))=ae (r,ai aG D'))
 (l:fB ao (aA ao (k+1)) (g9 (bj mS 1)) (dr (bj mS 1)) n [ae (.R 7),x] (ai aG D')=ae R):fB ao (aA ao (k+1)) (g9 (bj mS 1)) (dr (bj mS 1)) (n+1) [ae (.R 7),x] (ai af D)=ae R:=by
 have c3:=ya (D:=D) (k:=k) b eK
 obtain⟨f1,fr1,h1⟩:=R
 apply mB
 .exact dn (b5 (aW (ah ab) ab ab) ab ab ab (ar aj aO) c) ab
 .exact tt
 .exact aq (bu (b5 (ah ab) ab ab ab (ar aj aO) c3)) (aq (bu (cu aj (ar (ah ab) aO) bf)) aF)
 .exact l
theorem Xz{t r:V}{aD:H}(c:aA ao (k+1) 284 [.R 19,.S aR] (ai af D)=ae (.B aP,ai af D))(bf:aA ao (k+1) 521 [.R 7] (ai af D)=ae (r,aD)):aA ao (k+2) 651 [.R 7,t] (ai af D)=ae (.N,aD):=cJ ab ab (b2 (aM (iQ (dn (b5 (aW (ah ab) ab ab) ab ab ab (ar aj aO) c) ab) fq) (cN (aq (bu (cu aj (ar (ah ab) aO) bf)) (b2 (cQ aj) b1)))) b1)
theorem XB{t r:V}{aD:H}{aG:br}{D':List O}(c:aA ao (k+1) 284 [.R 19,.S aR] (ai af D)=ae (.B aB,ai af D))(l:fB ao (aA ao (k+1)) (g9 (bj mS 1)) (dr (bj mS 1)) 500 [ae (.R 7),ae t] (ai af D)=ae (.N,[ae (.R 7),ae t],ai aG D'))
 (bf:aA ao (k+1) 479 [.R 7,t] (ai aG D')=ae (r,aD)):aA ao (k+2) 651 [.R 7,t] (ai af D)=ae (.N,aD):=by
 apply cV ab ab
 apply aq
 .exact aM (iQ (dn (b5 (aW (ah ab) ab ab) ab ab ab (ar aj aO) c) ab) tt) (a_ aF)
 apply aq
 .apply oQ;exact l
 .exact aq (bu (b5 (ah ab) ab ab ab (ar (ah ab) aO) bf)) aF
noncomputable def q7:List aw:=[d6,mV,oa]
theorem OA{t:Nat}{aT:aw}{l:List V}{r:V}{aD:H}(aC:D[t]?=ae (.T (.S aT::l)))(tw:(V.S aT::l).length<aK)(w:aT∈q7)(c:aA ao (k+1) 472 [.R 7,.S ec,.R (t+33)] (ai af D)=ae (r,aD)):aA ao (k+2) 658 [.R 7,.R (t+33)] (ai af D)=ae (.N,aD):=by
 have c1:cD .I (ai af (D++[.T (q7.map .S)])) (.S aT) (.R (D.length+33))=ae true:=fE (bD bS) ab (decide_eq_true w);exact cV ab ab (aq (bM (aH (ah ab) aj (a8 aC (bc tw ab)))) (aq (aM (dG (aI (ah ab) (dj (ar aj (ar aj (ar aj aO))) (aN ab)) c1) el ab) (cN (aq (bu (b5 (ah ab) ab ab ab (ar aj (ar (ah ab) aO)) c)) aF))) aF))
theorem OB{t:Nat}{aT:aw}{l:List V}{r:V}{aD:H}(aC:D[t]?=ae (.T (.S aT::l)))(tw:(V.S aT::l).length<aK)(w:aT∉q7)(hp:aA ao (k+1) 630 [.R (t+33)] (ai af D)=ae (.B aB,ai af D))(c:aA ao (k+1) 472 [.R 7,.S mX,.R (t+33)] (ai af D)=ae (r,aD)):aA ao (k+2) 658 [.R 7,.R (t+33)] (ai af D)=ae (.N,aD):=by
 have c1:cD .I (ai af (D++[.T (q7.map .S)])) (.S aT) (.R (D.length+33))=ae false:=fE (bD bS) ab (decide_eq_false w);exact cV ab ab (aq (bM (aH (ah ab) aj (a8 aC (bc tw ab)))) (aq (aM (dG (aI (ah ab) (dj (ar aj (ar aj (ar aj aO))) (aN ab)) c1) el ab) (a_ (aq (aM (dn (cu aj (ar (ah ab) aO) hp) ab) (cN (aq (bu (b5 (ah ab) ab ab ab (ar aj (ar (ah ab) aO)) c)) aF))) aF))) aF))
theorem Z7{t:Nat}{l:List V}{r:V}{aD:H}(aC:D[t]?=ae (.T (.S bO::l)))(tw:(V.S bO::l).length<aK)(hp:aA ao (k+1) 630 [.R (t+33)] (ai af D)=ae (.B aP,ai af D))(c:aA ao (k+1) 644 [.R 7,.R (t+33)] (ai af D)=ae (r,aD)):aA ao (k+2) 658 [.R 7,.R (t+33)] (ai af D)=ae (.N,aD):=by
 have c1:cD .I (ai af (D++[.T (q7.map .S)])) (.S bO) (.R (D.length+33))=ae false:=fE (bD bS) ab ab;exact cV ab ab (aq (bM (aH (ah ab) aj (a8 aC (bc tw ab)))) (aq (aM (dG (aI (ah ab) (dj (ar aj (ar aj (ar aj aO))) (aN ab)) c1) el ab) (a_ (aq (aM (dn (cu aj (ar (ah ab) aO) hp) ab) (a_ (aq (aM (aI (ah ab) aj dk) (cN (aq (bu (cu aj (ar (ah ab) (ar (ah ab) aO)) c)) aF))) aF))) aF))) aF))
theorem Z6(b:aQ m af){t:Nat}{l:List V}(aC:D[t]?=ae (.T (.S dc::l)))(tw:(V.S dc::l).length<aK)(hp:aA ao (k+1) 630 [.R (t+33)] (ai af D)=ae (.B aP,ai af D)):aA ao (k+2) 658 [.R 7,.R (t+33)] (ai af D)=ae (.N,ai (kK af D) (D++[rQ af j6])):=by
 have c1:cD .I (ai af (D++[.T (q7.map .S)])) (.S dc) (.R (D.length+33))=ae false:=fE (bD bS) ab ab;have bf:=ya (D:=D) (k:=k) b j6;exact cV ab ab (aq (bM (aH (ah ab) aj (a8 aC (bc tw ab)))) (aq (aM (dG (aI (ah ab) (dj (ar aj (ar aj (ar aj aO))) (aN ab)) c1) el ab) (a_ (aq (aM (dn (cu aj (ar (ah ab) aO) hp) ab) (a_ (aq (aM (aI (ah ab) aj (bL (of_decide_eq_true (id (dy aB))))) (a_ (aq (aM (aI (ah ab) aj dk) (cN (aq (bu (b5 (ah ab) ab ab ab (ar aj aO) bf)) aF))) aF))) aF))) aF))) aF))
theorem Bw{t:Nat}{l:List V}{r:V}{aD:H}(aC:D[t]?=ae (.T (.S dY::l)))(tw:(V.S dY::l).length<aK)(hp:aA ao (k+1) 630 [.R (t+33)] (ai af D)=ae (.B aP,ai af D))(c:aA ao (k+1) 651 [.R 7,.R (t+33)] (ai af D)=ae (r,aD)):aA ao (k+2) 658 [.R 7,.R (t+33)] (ai af D)=ae (.N,aD):=by
 have c1:cD .I (ai af (D++[.T (q7.map .S)])) (.S dY) (.R (D.length+33))=ae false:=fE (bD bS) ab ab;exact cV ab ab (aq (bM (aH (ah ab) aj (a8 aC (bc tw ab)))) (aq (aM (dG (aI (ah ab) (dj (ar aj (ar aj (ar aj aO))) (aN ab)) c1) el ab) (a_ (aq (aM (dn (cu aj (ar (ah ab) aO) hp) ab) (a_ (aq (aM (aI (ah ab) aj (bL (of_decide_eq_true (id (dy aB))))) (a_ (aq (aM (aI (ah ab) aj (bL (of_decide_eq_true (id (dy aB))))) (a_ (aq (bu (cu aj (ar (ah ab) (ar (ah ab) aO)) c)) aF))) aF))) aF))) aF))) aF))
end
end
section
section
variable{af:br}{D:List O}{k m t:Nat}{r:V}{aD:H}{l:List V}
noncomputable def r9(af:br)(t:Nat):O:=.T [.S af.bH,.R (t+33)]
noncomputable def jf:List aw:=[mV,oa]
theorem ON{c:V}(aC:D[t]?=ae (.T [.S d6,c]))(q:aA ao k 543 [.R 7,c] (ai af D)=ae (r,aD)):aA ao (k+1) 686 [.R 7,.R (t+33)] (ai af D)=ae (.N,aD):=by
 have tw:[V.S d6,c].length<aK:=aN (n:=2) (m:=aK) ab;exact cV ab ab (aq (aM (aI (aH (ah ab) aj (a8 aC ab)) aj dk) (cN (aq (bu (cu aj (ar (ah ab) (ar (aH (ah ab) aj (a8 aC ab)) aO)) q)) aF))) aF)
theorem OO(aC:D[t]?=ae (.T [.S dY]))(hm:fQ af D [])(q:aA ao k 521 [.R 7] (ai af D)=ae (r,aD)):aA ao (k+1) 686 [.R 7,.R (t+33)] (ai af D)=ae (.N,aD):=by
 have c:=hm.get;exact cV ab ab (aq (aM (aI (aH (ah ab) aj (a8 aC ab)) aj (bL (of_decide_eq_true (id (dy aB))))) (a_ (aq (aM (aI (aH (ah ab) aj (a8 aC ab)) aj dk) (cN (aq (aM (aI (gk (aW (ah ab) ab ab) c (aN ab)) aj ab) (a_ (aq (bu (cu aj (ar (ah ab) aO) q)) aF))) aF))) aF))) aF)
theorem OP{ms:List V}(aC:D[t]?=ae (.T [.S dY]))(hm:fQ af D ms)(w:ms.length<aK)(w2:(0:Int)<ms.length)(q:aA ao k 472 [.R 7,.S cX,.R (t+33)] (ai af D)=ae (r,aD)):aA ao (k+1) 686 [.R 7,.R (t+33)] (ai af D)=ae (.N,aD):=by
 have c:=hm.get;exact cV ab ab (aq (aM (aI (aH (ah ab) aj (a8 aC ab)) aj (bL (of_decide_eq_true (id (dy aB))))) (a_ (aq (aM (aI (aH (ah ab) aj (a8 aC ab)) aj dk) (cN (aq (aM (aI (gk (aW (ah ab) ab ab) c w) aj (pn w2)) (cN (aq (bu (b5 (ah ab) ab ab ab (ar aj (ar (ah ab) aO)) q)) aF))) aF))) aF))) aF)
theorem OQ(b:aQ m af){aT:aw}(aC:D[t]?=ae (.T (.S aT::l)))(tw:(V.S aT::l).length<aK)(w1:aT≠d6)(w2:aT≠dY)(w:aT∈jf):aA ao (k+1) 686 [.R 7,.R (t+33)] (ai af D)=ae (.N,ai (kK af D) (D++[r9 af t])):=by
 have c1:cD .I (ai af (D++[.T (jf.map .S)])) (.S aT) (.R (D.length+33))=ae true:=fE (bD bS) ab (decide_eq_true w);exact cV ab ab (aq (aM (aI (aH (ah ab) aj (a8 aC (bc tw ab))) aj (bL w1)) (a_ (aq (aM (aI (aH (ah ab) aj (a8 aC (bc tw ab))) aj (bL w2)) (a_ (aq (aM (dG (aI (aH (ah ab) aj (a8 aC (bc tw ab))) (dj (ar aj (ar aj aO)) (aN ab)) c1) el ab) (cN (aq (bu (dW (aW (ah ab) ab ab) ab (dj (ar (aW (ah ab) ab ab) (ar (ah ab) aO)) (aN ab)) ab (bb.g (aQ.d1 b)))) aF))) aF))) aF))) aF)
theorem OR{aT:aw}(aC:D[t]?=ae (.T (.S aT::.S aR::l)))(tw:(V.S aT::.S aR::l).length<aK)(w1:aT≠d6)(w2:aT≠dY)(w:aT∉jf)(q:aA ao k 472 [.R 7,.S mX,.R (t+33)] (ai af D)=ae (r,aD)):aA ao (k+1) 686 [.R 7,.R (t+33)] (ai af D)=ae (.N,aD):=by
 have c1:cD .I (ai af (D++[.T (jf.map .S)])) (.S aT) (.R (D.length+33))=ae false:=fE (bD bS) ab (decide_eq_false w);exact cV ab ab (aq (aM (aI (aH (ah ab) aj (a8 aC (bc tw ab))) aj (bL w1)) (a_ (aq (aM (aI (aH (ah ab) aj (a8 aC (bc tw ab))) aj (bL w2)) (a_ (aq (aM (dG (aI (aH (ah ab) aj (a8 aC (bc tw ab))) (dj (ar aj (ar aj aO)) (aN ab)) c1) el ab) (a_ (aq (aM (aI (aH (ah ab) aj (a8 aC (bc tw ab))) aj dk) (cN (aq (bu (b5 (ah ab) ab ab ab (ar aj (ar (ah ab) aO)) q)) aF))) aF))) aF))) aF))) aF)
theorem aak{nm en:aw}(aC:D[t]?=ae (.T (.S dc::.S nm::l)))(tw:(V.S dc::.S nm::l).length<aK)(w:nm≠aR)(q:aA ao k 277 [.R 19] (ai af D)=ae (.S en,ai af D))(cT:aA ao k 228 [.R 19] (ai af D)=ae (r,aD)):aA ao (k+1) 686 [.R 7,.R (t+33)] (ai af D)=ae (.N,if en=nm then aD else ai af D):=by
 have c1:cD .I (ai af (D++[.T (jf.map .S)])) (.S dc) (.R (D.length+33))=ae false:=fE (bD bS) ab ab;by_cases e:en=nm
 .subst e;rw[if_pos rfl];exact cV rfl rfl (aq (aM (aI (aH (ah rfl) aj (a8 aC (bc tw rfl))) aj (bL (of_decide_eq_true (id (dy aB))))) (a_ (aq (aM (aI (aH (ah rfl) aj (a8 aC (bc tw rfl))) aj (bL (of_decide_eq_true (id (dy aB))))) (a_ (aq (aM (dG (aI (aH (ah rfl) aj (a8 aC (bc tw rfl))) (dj (ar aj (ar aj aO)) (aN rfl)) c1) el rfl) (a_ (aq (aM (aI (aH (ah rfl) aj (a8 aC (bc tw rfl))) aj (bL w)) (a_ (aq (aM (aI (aH (ah rfl) aj (a8 aC (bc tw rfl))) aj dk) (cN (aq (aM (aI (dn (b5 (aW (ah rfl) rfl rfl) rfl rfl rfl aO q) rfl) (aH (ah rfl) aj (a8 aC (bc tw rfl))) dk) (cN (aq (bu (b5 (aW (ah rfl) rfl rfl) rfl rfl rfl aO cT)) aF))) aF))) aF))) aF))) aF))) aF))) aF)
 .rw[if_neg e];exact cV rfl rfl (aq (aM (aI (aH (ah rfl) aj (a8 aC (bc tw rfl))) aj (bL (of_decide_eq_true (id (dy aB))))) (a_ (aq (aM (aI (aH (ah rfl) aj (a8 aC (bc tw rfl))) aj (bL (of_decide_eq_true (id (dy aB))))) (a_ (aq (aM (dG (aI (aH (ah rfl) aj (a8 aC (bc tw rfl))) (dj (ar aj (ar aj aO)) (aN rfl)) c1) el rfl) (a_ (aq (aM (aI (aH (ah rfl) aj (a8 aC (bc tw rfl))) aj (bL w)) (a_ (aq (aM (aI (aH (ah rfl) aj (a8 aC (bc tw rfl))) aj dk) (cN (aq (aM (aI (dn (b5 (aW (ah rfl) rfl rfl) rfl rfl rfl aO q) rfl) (aH (ah rfl) aj (a8 aC (bc tw rfl))) (bL e)) (a_ aF)) aF))) aF))) aF))) aF))) aF))) aF)
theorem aam{a x:V}(aC:D[t]?=ae (.T [.S bO,.S cY,a,x]))(q:aA ao k 560 [.R 7,.S aR,a,.S cY] (ai af D)=ae (r,aD)):aA ao (k+1) 686 [.R 7,.R (t+33)] (ai af D)=ae (.N,aD):=by
 have tw:[V.S bO,.S cY,a,x].length<aK:=aN (n:=4) (m:=aK) ab;have c1:cD .I (ai af (D++[.T (jf.map .S)])) (.S bO) (.R (D.length+33))=ae false:=fE (bD bS) ab ab;exact cV ab ab (aq (aM (aI (aH (ah ab) aj (a8 aC ab)) aj (bL (of_decide_eq_true (id (dy aB))))) (a_ (aq (aM (aI (aH (ah ab) aj (a8 aC ab)) aj (bL (of_decide_eq_true (id (dy aB))))) (a_ (aq (aM (dG (aI (aH (ah ab) aj (a8 aC ab)) (dj (ar aj (ar aj aO)) (aN ab)) c1) el ab) (a_ (aq (aM (aI (aH (ah ab) aj (a8 aC ab)) aj (bL (of_decide_eq_true (id (dy aB))))) (a_ (aq (aM (aI (aH (ah ab) aj (a8 aC ab)) aj (bL (of_decide_eq_true (id (dy aB))))) (a_ (aq (aM (aI (aH (ah ab) aj (a8 aC ab)) aj dk) (cN (aq (bu (cu aj (ar (ah ab) (ar aj (ar (aH (ah ab) aj (a8 aC ab)) (ar aj aO)))) q)) aF))) aF))) aF))) aF))) aF))) aF))) aF)
theorem aaj{a x r1:V}{aG:br}{D':List O}(aC:D[t]?=ae (.T [.S bO,.S dK,a,x]))(ht':D'[t]?=ae (.T [.S bO,.S dK,a,x]))(q:aA ao k 560 [.R 7,.S dK,a] (ai af D)=ae (r1,ai aG D'))(cT:aA ao k 74 [.R 21,r1] (ai aG D')=ae (r,aD)):aA ao (k+1) 686 [.R 7,.R (t+33)] (ai af D)=ae (.N,aD):=by
 have tw:[V.S bO,.S dK,a,x].length<aK:=aN (n:=4) (m:=aK) ab;have c1:cD .I (ai af (D++[.T (jf.map .S)])) (.S bO) (.R (D.length+33))=ae false:=fE (bD bS) ab ab;exact cV ab ab (aq (aM (aI (aH (ah ab) aj (a8 aC ab)) aj (bL (of_decide_eq_true (id (dy aB))))) (a_ (aq (aM (aI (aH (ah ab) aj (a8 aC ab)) aj (bL (of_decide_eq_true (id (dy aB))))) (a_ (aq (aM (dG (aI (aH (ah ab) aj (a8 aC ab)) (dj (ar aj (ar aj aO)) (aN ab)) c1) el ab) (a_ (aq (aM (aI (aH (ah ab) aj (a8 aC ab)) aj (bL (of_decide_eq_true (id (dy aB))))) (a_ (aq (aM (aI (aH (ah ab) aj (a8 aC ab)) aj (bL (of_decide_eq_true (id (dy aB))))) (a_ (aq (aM (aI (aH (ah ab) aj (a8 aC ab)) aj (bL (of_decide_eq_true (id (dy aB))))) (a_ (aq (bM (cu aj (ar (ah ab) (ar (aH (ah ab) aj (a8 aC ab)) (ar (aH (ah ab) aj (a8 aC ab)) aO))) q)) (aq (aM (aI (aH (ah ab) aj (a8 ht' ab)) aj dk) (cN (aq (bu (b5 (aW (ah ab) ab ab) ab ab ab (ar (ah ab) aO) cT)) aF))) aF)))) aF))) aF))) aF))) aF))) aF))) aF)
theorem aal{a x r1:V}{nm:aw}{aG:br}{D':List O}(aC:D[t]?=ae (.T [.S bO,.S nm,a,x]))(ht':D'[t]?=ae (.T [.S bO,.S nm,a,x]))(w1:nm≠aR)(w2:nm≠cY)(w3:nm≠dK)(q:aA ao k 560 [.R 7,.S nm,a] (ai af D)=ae (r1,ai aG D')):aA ao (k+1) 686 [.R 7,.R (t+33)] (ai af D)=ae (.N,ai aG D'):=by
 have tw:[V.S bO,.S nm,a,x].length<aK:=aN (n:=4) (m:=aK) ab;have c1:cD .I (ai af (D++[.T (jf.map .S)])) (.S bO) (.R (D.length+33))=ae false:=fE (bD bS) ab ab;exact cV ab ab (aq (aM (aI (aH (ah ab) aj (a8 aC ab)) aj (bL (of_decide_eq_true (id (dy aB))))) (a_ (aq (aM (aI (aH (ah ab) aj (a8 aC ab)) aj (bL (of_decide_eq_true (id (dy aB))))) (a_ (aq (aM (dG (aI (aH (ah ab) aj (a8 aC ab)) (dj (ar aj (ar aj aO)) (aN ab)) c1) el ab) (a_ (aq (aM (aI (aH (ah ab) aj (a8 aC ab)) aj (bL w1)) (a_ (aq (aM (aI (aH (ah ab) aj (a8 aC ab)) aj (bL (of_decide_eq_true (id (dy aB))))) (a_ (aq (aM (aI (aH (ah ab) aj (a8 aC ab)) aj (bL w2)) (a_ (aq (bM (cu aj (ar (ah ab) (ar (aH (ah ab) aj (a8 aC ab)) (ar (aH (ah ab) aj (a8 aC ab)) aO))) q)) (aq (aM (aI (aH (ah ab) aj (a8 ht' ab)) aj (bL w3)) (a_ aF)) aF)))) aF))) aF))) aF))) aF))) aF))) aF)
theorem OZ(aC:D[t]?=ae (.T (.S bO::.S aR::l)))(tw:(V.S bO::.S aR::l).length<aK)(q:aA ao k 609 [.R 7,.R (t+33)] (ai af D)=ae (r,aD)):aA ao (k+1) 693 [.R 7,.R (t+33)] (ai af D)=ae (.N,aD):=cV ab ab (aq (aM (aI (aH (ah ab) aj (a8 aC (bc tw ab))) aj iP) (a_ (aq (aM (aI (aH (ah ab) aj (a8 aC (bc tw ab))) aj dk) (cN (aq (bu (cu aj (ar (ah ab) (ar (ah ab) aO)) q)) aF))) aF))) aF)
theorem FP(aC:D[t]?=ae (.T (.S dc::.S aR::l)))(tw:(V.S dc::.S aR::l).length<aK)(q:aA ao k 623 [.R 7] (ai af D)=ae (r,aD)):aA ao (k+1) 693 [.R 7,.R (t+33)] (ai af D)=ae (.N,aD):=cV ab ab (aq (aM (aI (aH (ah ab) aj (a8 aC (bc tw ab))) aj iP) (a_ (aq (aM (aI (aH (ah ab) aj (a8 aC (bc tw ab))) aj (bL (of_decide_eq_true (id (dy aB))))) (a_ (aq (bu (cu aj (ar (ah ab) aO) q)) aF))) aF))) aF)
theorem aax(b:aQ m af){nm:aw}{a x r1:V}{aG:br}{D':List O}(aC:D[t]?=ae (.T [.S bO,.S nm,a,x]))(w:nm≠aR)(q:aA ao k 560 [.R 7,.S nm,a] (ai (kK af D) (D++[r9 af t]))=ae (r1,ai aG D'))(cT:aA ao k 228 [.R 19] (ai aG D')=ae (r,aD)):aA ao (k+1) 693 [.R 7,.R (t+33)] (ai af D)=ae (.N,aD):=by
 have tw:[V.S bO,.S nm,a,x].length<aK:=aN (n:=4) (m:=aK) ab;exact cV ab ab (aq (aM (aI (aH (ah ab) aj (a8 aC ab)) aj (oi w)) (cN (aq (bu (dW (aW (ah ab) ab ab) ab (dj (ar (aW (ah ab) ab ab) (ar (ah ab) aO)) (aN ab)) ab (bb.g (aQ.d1 b)))) (aq (bu (cu aj (ar (ah ab) (ar (aH (ah ab) aj (a8 (bl aC) ab)) (ar (aH (ah ab) aj (a8 (bl aC) ab)) aO))) q)) (aq (bu (b5 (aW (ah ab) ab ab) ab ab ab aO cT)) aF))))) aF)
theorem aaq{c:V}(aC:D[t]?=ae (.T [.S d6,c]))(q:aA ao k 543 [.R 7,c] (ai af D)=ae (r,aD)):aA ao (k+1) 700 [.R 7,.R (t+33)] (ai af D)=ae (.N,aD):=by
 have tw:[V.S d6,c].length<aK:=aN (n:=2) (m:=aK) ab;exact cV ab ab (aq (aM (aI (aH (ah ab) aj (a8 aC ab)) aj dk) (cN (aq (bu (cu aj (ar (ah ab) (ar (aH (ah ab) aj (a8 aC ab)) aO)) q)) aF))) aF)
theorem aat{nm a x:V}(aC:D[t]?=ae (.T [.S bO,nm,a,x]))(q:aA ao k 560 [.R 7,nm,a,.S cY] (ai af D)=ae (r,aD)):aA ao (k+1) 700 [.R 7,.R (t+33)] (ai af D)=ae (.N,aD):=by
 have tw:[V.S bO,nm,a,x].length<aK:=aN (n:=4) (m:=aK) ab;exact cV ab ab (aq (aM (aI (aH (ah ab) aj (a8 aC ab)) aj (bL (of_decide_eq_true (id (dy aB))))) (a_ (aq (aM (aI (aH (ah ab) aj (a8 aC ab)) aj dk) (cN (aq (bu (cu aj (ar (ah ab) (ar (aH (ah ab) aj (a8 aC ab)) (ar (aH (ah ab) aj (a8 aC ab)) (ar aj aO)))) q)) aF))) aF))) aF)
theorem aas(b:aQ m af){aT:aw}(aC:D[t]?=ae (.T (.S aT::l)))(tw:(V.S aT::l).length<aK)(w1:aT≠d6)(w2:aT≠bO)(w3:aT≠dc):aA ao (k+1) 700 [.R 7,.R (t+33)] (ai af D)=ae (.N,ai (kK af D) (D++[r9 af t])):=cV ab ab (aq (aM (aI (aH (ah ab) aj (a8 aC (bc tw ab))) aj (bL w1)) (a_ (aq (aM (aI (aH (ah ab) aj (a8 aC (bc tw ab))) aj (bL w2)) (a_ (aq (aM (aI (aH (ah ab) aj (a8 aC (bc tw ab))) aj (oi w3)) (cN (aq (bu (dW (aW (ah ab) ab ab) ab (dj (ar (aW (ah ab) ab ab) (ar (ah ab) aO)) (aN ab)) ab (bb.g (aQ.d1 b)))) aF))) aF))) aF))) aF)
theorem aau(aC:D[t]?=ae (.T (.S dc::.S aR::l)))(tw:(V.S dc::.S aR::l).length<aK)(q:aA ao k 472 [.R 7,.S mX,.R (t+33)] (ai af D)=ae (r,aD)):aA ao (k+1) 700 [.R 7,.R (t+33)] (ai af D)=ae (.N,aD):=cV ab ab (aq (aM (aI (aH (ah ab) aj (a8 aC (bc tw ab))) aj (bL (of_decide_eq_true (id (dy aB))))) (a_ (aq (aM (aI (aH (ah ab) aj (a8 aC (bc tw ab))) aj (bL (of_decide_eq_true (id (dy aB))))) (a_ (aq (aM (aI (aH (ah ab) aj (a8 aC (bc tw ab))) aj iP) (a_ (aq (aM (aI (aH (ah ab) aj (a8 aC (bc tw ab))) aj dk) (cN (aq (bu (b5 (ah ab) ab ab ab (ar aj (ar (ah ab) aO)) q)) aF))) aF))) aF))) aF))) aF)
theorem aar{nm:aw}(aC:D[t]?=ae (.T (.S dc::.S nm::l)))(tw:(V.S dc::.S nm::l).length<aK)(w:nm≠aR)(q:aA ao k 228 [.R 19] (ai af D)=ae (r,aD)):aA ao (k+1) 700 [.R 7,.R (t+33)] (ai af D)=ae (.N,aD):=cV ab ab (aq (aM (aI (aH (ah ab) aj (a8 aC (bc tw ab))) aj (bL (of_decide_eq_true (id (dy aB))))) (a_ (aq (aM (aI (aH (ah ab) aj (a8 aC (bc tw ab))) aj (bL (of_decide_eq_true (id (dy aB))))) (a_ (aq (aM (aI (aH (ah ab) aj (a8 aC (bc tw ab))) aj iP) (a_ (aq (aM (aI (aH (ah ab) aj (a8 aC (bc tw ab))) aj (bL w)) (a_ (aq (bu (b5 (aW (ah ab) ab ab) ab ab ab aO q)) aF))) aF))) aF))) aF))) aF)
end
end
section
section
variable{h:H}{a b n:Nat}{xs ys:List V}{d e:PyData}
noncomputable def sp(x:aw):PyData:=.str ⟨x.toArray⟩
noncomputable def cM(x:aw):Prop:=lN (sp x)=aB
theorem dD{x:aw}(w:x.all (λc=>decide (c<0x110000))=aB):cM x:=by
 unfold cM sp lN;show Kx x.toArray _=aB;rw[Tq];exact w
theorem qS:cF h (n+1) (.R a)=h[a]?.bind (O.cF (cF h n)):=rfl
theorem iC{ds:List PyData}(q:h[a]?=ae (.L xs))(w:xs.mapM (cF h n)=ae ds):cF h (n+1) (.R a)=ae (.list ds):=qS.trans (dF q (show(xs.mapM (cF h n)).map _=_ by rw[w];rfl))
theorem mi{ds:List PyData}(q:h[a]?=ae (.T xs))(w:xs.mapM (cF h n)=ae ds):cF h (n+1) (.R a)=ae (.tuple ds):=qS.trans (dF q (show(xs.mapM (cF h n)).map _=_ by rw[w];rfl))
theorem iW(x:aw):cF h n (.S x)=ae (sp x):=by cases n<;>rfl
theorem zZ:cF h n .N=ae .none:=by cases n<;>rfl
theorem wA(x:Bool):cF h n (.B x)=ae (.bool x):=by cases n<;>rfl
theorem mh(l:List aw):(l.map V.S).mapM (cF h n)=ae (l.map sp):=by
 induction l with
 | nil=>rfl
 | cons x l ih=>rw[fI,gg,iW,ih];rfl
theorem acV{n:Nat}{d:PyData}(r:cF h n (.R a)=ae d):∃o,h[a]?=ae o/\∀es,o≠.S es:=by
 cases n with
 | zero=>cases r
 | succ n=>
  have r:=qS.symm.trans r;cases q:h[a]? with
  | none=>rw[q]at r;cases r
  | some o=>rw[q]at r;exact⟨o,rfl,λes e=>by subst e;cases r⟩
theorem Xf{o p:O}(h:∀es,p≠.S es):o.fk p=false:=by
 cases o with
 | I es=>cases es with
  | nil=>cases p with
   | S cy=>exact absurd ab (h cy)
   | _=>rfl
  | cons=>rfl
 | _=>rfl
theorem XE{o p:O}(iU:h[a]?=ae o)(jg:h[b]?=ae p)(fk:o.fk p=aP)(r1:cF h 60 (.R a)=ae d)(r2:cF h 60 (.R b)=ae e)(s:(jG d&&jG e)=aB):Fc h a b=ae (q_ d e):=by
 show(h[a]?.bind λo=>h[b]?.bind λp=>bif o.fk p then ae aB else _)=_;exact dF iU (dF jg (by rw[fk];exact dF r1 (dF r2 (eG s rfl))))
theorem Be{o:O}(p:h[a]?=ae o)(no:o≠.I [])(r1:cF h 60 (.R a)=ae d)(r2:cF h 60 (.R b)=ae e)(s1:jG d=aB)(s2:jG e=aB):cD .E h (.R a) (.R b)=ae (q_ d e):=by
 obtain⟨q,d4,cT⟩:=acV r2;exact(show Fc h a b=_ from XE p d4 (Xf cT) r1 r2 (by rw[s1,s2];rfl))
theorem yu{t:Bool}{x y:V}(w:cD .E h x y=ae t):cD .N h x y=ae (!t):=congrArg (Kw (!·)) w
theorem XF(x y:aw):q_ (sp x) (sp y)=decide (x=y):=by
 unfold sp;unfold q_;rw[p5,beq_iff_eq,decide_eq_true_iff];constructor
 .intro q;have:x.toArray=y.toArray:=congrArg Str.cps q;exact congrArg Array.toList this
 .rintro rfl;rfl
theorem Fh:(l r:List aw)->TN (l.map sp) (r.map sp)=decide (l=r)
 | [],[]=>rfl
 | [],_::_=>rfl
 | _::_,[]=>rfl
 | x::l,y::r=>by
  rw[fI,fI];unfold TN;rw[XF,Fh l r,p5,kS,decide_eq_true_iff,decide_eq_true_iff,decide_eq_true_iff,uj]
theorem OW{l:List aw}(w:∀x∈l,cM x):p2 (l.map sp)=true:=by
 induction l with
 | nil=>rfl
 | cons x l ih=>
  rw[fI];unfold p2;rw[w x (fa ..),ih λy hy=>w y (eV _ hy)];rfl
theorem NH(l:List aw):rr (l.map sp)=0:=by
 induction l with
 | nil=>rfl
 | cons x l ih=>
  rw[fI];unfold rr;rw[ih];rfl
theorem RL{l:List aw}(w:∀x∈l,cM x):jG (.list (l.map sp))=true:=by
 unfold jG lN nV;rw[OW w,NH];rfl
theorem RM{l:List aw}(w:∀x∈l,cM x):jG (.tuple (l.map sp))=true:=by
 unfold jG lN nV;rw[OW w,NH];rfl
theorem x9{l r:List aw}(p:h[a]?=ae (.L (l.map .S)))(q:h[b]?=ae (.L (r.map .S)))(w:∀x∈l,cM x)(w2:∀x∈r,cM x):cD .E h (.R a) (.R b)=ae (decide (l=r)):=by
 rw[Be p (nofun) (iC p (mh l)) (iC q (mh r)) (RL w) (RL w2)];unfold q_;rw[Fh]
theorem Bf{l r:List aw}(p:h[a]?=ae (.T (l.map .S)))(q:h[b]?=ae (.T (r.map .S)))(w:∀x∈l,cM x)(w2:∀x∈r,cM x):cD .E h (.R a) (.R b)=ae (decide (l=r)):=by
 rw[Be p (nofun) (mi p (mh l)) (mi q (mh r)) (RM w) (RM w2)];unfold q_;rw[Fh]
end
end
section
section
variable{af:br}{D:List O}{k m:Nat}
theorem O9(b:aQ m af)(w:aw):aA ao (k+1) 707 [.R 32,.S w] (ai af D)=ae (.N,ai {af with cO:=af.cO++[.R (D.length+33)]} (D++[.T [.S w,.S af.eU]])):=cV rfl rfl (aq (bu (dW (aH (ah rfl) aj (dJ rfl rfl)) rfl (dj (ar (ah rfl) (ar (aH (ah rfl) aj (dJ rfl rfl)) aO)) (aN rfl)) rfl (bb.g (aQ.cO b)))) aF)
noncomputable def mI(D:List O)(n:Nat)(sp nm:aw)(a7:Nat):Prop:=∃(la:V)(je:Nat),D[n]?=ae (.L [.S sp,.S nm,la,.R (a7+33),.N])\/D[n]?=ae (.L [.S sp,.S nm,la,.R (je+33),.R (a7+33)])
theorem aae{h:H}{n:Nat}:cD .C h (.R n) .N=ae false:=rfl
theorem Bt{n a7:Nat}{sp nm:aw}(h:mI D n sp nm a7):aA ao (k+1) 714 [.R (n+33)] (ai af D)=ae (.R (a7+33),ai af D):=by
 obtain⟨la,je,q | q⟩:=h
 .exact cJ ab ab (b2 (cQ (oq (aI (aH (ah ab) aj (bX q ab)) aj ab) (Fx (aH (ah ab) aj (bX q ab))))) b1)
 .have c:=aae (h:=ai af D) (n:=a7+33);exact cJ ab ab (b2 (cQ (oq (aI (aH (ah ab) aj (bX q ab)) aj c) (Fw (aH (ah ab) aj (bX q ab))))) b1)
theorem acN{n a7:Nat}{sp nm dd aX:aw}{ps xs:List V}(qp:(ai af D)[af.cw]?=ae (.L ps))(wp:ps.length<aK)(l:ps.getLast?=ae (.R (n+33)))(h:mI D n sp nm a7)(g:D[a7]?=ae (.L xs))(w:xs.length<aK)(lx:xs.getLast?=ae (.S dd))(ey:dd.length<aK)(bQ:aX.length<aK):
 aA ao (k+2) 721 [.R 32,.S aX] (ai af D)=ae (.N,ai af (D.set a7 (.L (xs.set (xs.length-1) (.S (dd++aX)))))):=by
 have c1:=Bt (af:=af) (k:=k) h
 have w0:0<xs.length:=by
  cases xs with
  | nil=>cases lx
  | cons=>exact xy _
 have bf:(0:Int)<xs.length:=by lia
 have c4:i6 .A (ai af D) (.S dd) (.S aX)=ae (.S (dd++aX),ai af D):=by
  show(if dd.length<aK/\aX.length<aK then _ else _)=_;rw[if_pos ⟨ey,bQ⟩]
 exact cV ab ab (aq (bM (dn (cu aj (ar (aH (aH (ah ab) aj (dJ ab ab)) aj (bX qp (iu wp l))) aO) c1) (A_ g))) (aq (aM (dp (aI (gk (ah ab) g w) aj (pn bf)) (fu (Xk (aH (ah ab) aj (bX g (iu w lx)))))) (cN (aq (iD (fv (aH (ah ab) aj (bX g (iu w lx))) (ah ab) c4) (ah ab) aj (RJ g w w0)) aF))) aF))
theorem acO{n a7:Nat}{sp nm aX:aw}{ps xs:List V}(qp:(ai af D)[af.cw]?=ae (.L ps))(wp:ps.length<aK)(l:ps.getLast?=ae (.R (n+33)))(h:mI D n sp nm a7)(g:D[a7]?=ae (.L xs))(w:xs.length<aK)(lx:xs=[]\/∃(j:Nat)(ys:List V),xs.getLast?=ae (.R (j+33))/\D[j]?=ae (.L ys)):
 aA ao (k+2) 721 [.R 32,.S aX] (ai af D)=ae (.N,ai af (D.set a7 (.L (xs++[.S aX])))):=by
 have c1:=Bt (af:=af) (k:=k) h
 rcases lx with rfl | ⟨j,ys,lx,gj⟩
 .exact cV ab ab (aq (bM (dn (cu aj (ar (aH (aH (ah ab) aj (dJ ab ab)) aj (bX qp (iu wp l))) aO) c1) (A_ g))) (aq (aM (dp (aI (gk (ah ab) g w) aj ab) fS) (a_ (aq (bu (dW (ah ab) g (ah ab) g w)) aF))) aF))
 .have w0:0<xs.length:=by
   cases xs with
   | nil=>cases lx
   | cons=>exact xy _
  have bf:(0:Int)<xs.length:=by lia
  exact cV ab ab (aq (bM (dn (cu aj (ar (aH (aH (ah ab) aj (dJ ab ab)) aj (bX qp (iu wp l))) aO) c1) (A_ g))) (aq (aM (dp (aI (gk (ah ab) g w) aj (pn bf)) (fu (Xj (aH (ah ab) aj (bX g (iu w lx))) gj))) (a_ (aq (bu (dW (ah ab) g (ah ab) g w)) aF))) aF))
end
end
section
section
variable{af:br}{D:List O}{k m:Nat}
noncomputable def fe:bN->bN
 | .C _ t=>t
 | .N=>.N
theorem ix{P:gM}{cl:Nat->List V->H->Option (V×H)}{s:kA}{fr fr1 fr':bJ}{h h1 h':H}{f:dm}(p:cH P cl s fr h=ae (f,fr1,h1))(e:fr1=fr')(e2:h1=h'):cH P cl s fr h=ae (f,fr',h'):=by rw[p,e,e2]
theorem g8:cM aJ:=dD ab
theorem pJ:cM aR:=dD ab
noncomputable def oJ(D:List O)(as:List V)(sp nm:aw):List O:=D++[.L as]++[.L []]++[.L [.S sp,.S nm,.R (D.length+33),.R ((D++[O.L as]).length+33),.N]]
noncomputable def oK(D:List O)(as:List V):List O:=D++[.L as]++[.L []]++[.L []]++[.L [.S aJ,.S aR,.R (D.length+33),.R ((D++[O.L as]).length+33),.R ((D++[O.L as]++[O.L []]).length+33)]]
theorem PH{sp nm:aw}{at':V}{as:List V}(a:AT D at' as)(n:sp≠aJ\/nm≠aR)(aE:cM sp)(cP:cM nm):
 cH ao (aA ao k) (bj xO 0) [ae (.R 32),ae (.S sp),ae (.S nm),ae at',az] (ai af D)=ae (.N,[ae (.R 32),ae (.S sp),ae (.S nm),ae at',ae (.R ((D++[O.L as]++[O.L []]).length+33))],ai af (oJ D as sp nm)):=by
 have c:cD .E (ai af (D++[O.L as]++[O.L []]++[.T [.S sp,.S nm]]++[.T [.S aJ,.S aR]])) (.R ((D++[O.L as]++[O.L []]).length+33)) (.R ((D++[O.L as]++[O.L []]++[O.T [.S sp,.S nm]]).length+33))=ae false:=by
  refine(Bf (l:=[sp,nm]) (r:=[aJ,aR]) (bD (bl bS)) (bD bS) (by intro x hx;rcases d_.mp hx with rfl | hx;exact aE;rw[dx.mp hx];exact cP) (by intro x hx;rcases d_.mp hx with rfl | hx;exact g8;rw[dx.mp hx];exact pJ)).trans (congrArg ae (decide_eq_false ?_));intro q;injection q with d4 cT
  injection cT with cT _
  rcases n with n | n
  .exact n d4
  .exact n cT
 rcases a with⟨rfl,rfl⟩ | ⟨a,rfl,g,w⟩
 .apply ix
  .exact bM (eW (ar (ah ab) (ar (ah ab) (ar (Bc (ah ab)) (ar (eW aO (aN ab)) (ar (oq (dG (aI (dj (ar (ah ab) (ar (ah ab) aO)) (aN ab)) (dj (ar aj (ar aj aO)) (aN ab)) c) lG ab) (Fw aj)) aO))))) (aN ab))
  .exact ab
  .exact ab
 .apply ix
  .exact bM (eW (ar (ah ab) (ar (ah ab) (ar (x7 (ah ab) (bE g) w) (ar (eW aO (aN ab)) (ar (oq (dG (aI (dj (ar (ah ab) (ar (ah ab) aO)) (aN ab)) (dj (ar aj (ar aj aO)) (aN ab)) c) lG ab) (Fw aj)) aO))))) (aN ab))
  .exact ab
  .exact ab
theorem abl{at':V}{as:List V}(a:AT D at' as):
 cH ao (aA ao k) (bj xO 0) [ae (.R 32),ae (.S aJ),ae (.S aR),ae at',az] (ai af D)=ae (.N,[ae (.R 32),ae (.S aJ),ae (.S aR),ae at',ae (.R ((D++[O.L as]++[O.L []]++[O.L []]).length+33))],ai af (oK D as)):=by
 have c:cD .E (ai af (D++[O.L as]++[O.L []]++[.T [.S aJ,.S aR]]++[.T [.S aJ,.S aR]])) (.R ((D++[O.L as]++[O.L []]).length+33)) (.R ((D++[O.L as]++[O.L []]++[O.T [.S aJ,.S aR]]).length+33))=ae true:=by
  refine(Bf (l:=[aJ,aR]) (r:=[aJ,aR]) (bD (bl bS)) (bD bS) (by intro x hx;rcases d_.mp hx with rfl | hx;exact g8;rw[dx.mp hx];exact pJ) (by intro x hx;rcases d_.mp hx with rfl | hx;exact g8;rw[dx.mp hx];exact pJ)).trans (congrArg ae (decide_eq_true rfl))
 rcases a with⟨rfl,rfl⟩ | ⟨a,rfl,g,w⟩
 .apply ix
  .exact bM (eW (ar (ah ab) (ar (ah ab) (ar (Bc (ah ab)) (ar (eW aO (aN ab)) (ar (oq (dG (aI (dj (ar (ah ab) (ar (ah ab) aO)) (aN ab)) (dj (ar aj (ar aj aO)) (aN ab)) c) lG ab) (Fx (eW aO (aN ab)))) aO))))) (aN ab))
  .exact ab
  .exact ab
 .apply ix
  .exact bM (eW (ar (ah ab) (ar (ah ab) (ar (x7 (ah ab) (bE g) w) (ar (eW aO (aN ab)) (ar (oq (dG (aI (dj (ar (ah ab) (ar (ah ab) aO)) (aN ab)) (dj (ar aj (ar aj aO)) (aN ab)) c) lG ab) (Fx (eW aO (aN ab)))) aO))))) (aN ab))
  .exact ab
  .exact ab
end
end
section
section
variable{af:br}{D:List O}{k m:Nat}
noncomputable def rU(E:List O)(a7:Nat)(xs ps:List V)(n:Nat):List O:=E.set a7 (.L (xs++[.R (n+33)]))++[.L [.R (n+33)]]++[.L (ps++[.R (n+33)])]
theorem OY{cl:Nat->List V->H->Option (V×H)}{E:List O}{sp nm at':V}{ps xs:List V}{n q a7:Nat}{sp0 nm0:aw}(qp:(ai af E)[af.cw]?=ae (.L ps))(wp:bb 1 ps)(l:ps.getLast?=ae (.R (q+33)))(c1:cl 714 [.R (q+33)] (ai af E)=ae (.R (a7+33),ai af E))(g:E[a7]?=ae (.L xs))(w:xs.length<aK)(np:af.cw≠a7+33):
 b3 ao cl (fe xO) [ae (.R 32),ae sp,ae nm,ae at',ae (.R (n+33))] (ai af E)=ae (.N,[ae (.R 32),ae sp,ae nm,ae at',ae (.R (n+33))],ai {af with cw:=(E.set a7 (.L (xs++[.R (n+33)]))++[O.L [.R (n+33)]]).length+33} (rU E a7 xs ps n)):=by
 have w0:0<ps.length:=by
  cases ps with
  | nil=>cases l
  | cons=>exact xy _
 have bf:(0:Int)<ps.length:=by lia
 have c3:(a7+33)≠af.cw:=λe=>np e.symm
 have wg:=wp.g
 have cT:(ai af (E.set a7 (.L (xs++[.R (n+33)]))++[O.L [.R (n+33)]]))[af.cw]?=ae (.L ps):=bl (h:=ai af (E.set a7 (.L (xs++[.R (n+33)])))) (BE (h:=ai af E) (m:=a7+33) qp c3)
 have c4:i6 .A (ai af (E.set a7 (.L (xs++[.R (n+33)]))++[O.L [.R (n+33)]])) (.R af.cw) (.R ((E.set a7 (.L (xs++[.R (n+33)]))).length+33))=_:=xQ cT (bD bS) wg (aN (n:=1) (m:=aK) ab)
 exact aq (aM (aI (gk (aH (ah ab) aj (dJ ab ab)) qp wg) aj (pn bf)) (cN (aq (bu (dW (dn (cu aj (ar (aH (aH (ah ab) aj (dJ ab ab)) aj (bX qp (iu wg l))) aO) c1) (A_ g)) g (ah ab) g w)) aF))) (aq (iD (fv (aH (ah ab) aj (dJ ab ab)) (eW (ar (ah ab) aO) (aN ab)) c4) (ah ab) aj (lD ab (aN ab))) aF)
end
end
section
section
variable{af:br}{D:List O}{k m:Nat}
theorem mI.app{n a7:Nat}{sp nm:aw}{X:List O}(h:mI D n sp nm a7):mI (D++X) n sp nm a7:=by
 obtain⟨la,je,q | q⟩:=h
 .exact⟨la,je,bB (bl q)⟩
 .exact⟨la,je,bE (bl q)⟩
theorem uK{as:List V}{sp nm:aw}:oJ D as sp nm=D++[.L as,.L [],.L [.S sp,.S nm,.R (D.length+33),.R (D.length+1+33),.N]]:=by
 unfold oJ;rw[fw,cG,cG];rfl
theorem yw{as:List V}:oK D as=D++[.L as,.L [],.L [],.L [.S aJ,.S aR,.R (D.length+33),.R (D.length+1+33),.R (D.length+2+33)]]:=by
 unfold oK;rw[fw (D:=D++[O.L as]),fw,cG,cG,cG];rfl
theorem OX{sp nm:aw}{at':V}{as ps xs:List V}{q a7:Nat}{sp0 nm0:aw}(a:AT D at' as)(n:sp≠aJ\/nm≠aR)(aE:cM sp)(cP:cM nm)(qp:(ai af D)[af.cw]?=ae (.L ps))(wp:bb 1 ps)(l:ps.getLast?=ae (.R (q+33)))(h:mI D q sp0 nm0 a7)(g:D[a7]?=ae (.L xs))(w:xs.length<aK)(np:af.cw≠a7+33):
 aA ao (k+2) 728 [.R 32,.S sp,.S nm,at'] (ai af D)=ae (.N,ai {af with cw:=((oJ D as sp nm).set a7 (.L (xs++[.R (D.length+2+33)]))++[O.L [.R (D.length+2+33)]]).length+33} (rU (oJ D as sp nm) a7 xs ps (D.length+2))):=by
 have s1:=PH (af:=af) (k:=k+1) a n aE cP
 rw[fw,fw]at s1
 have h':mI (oJ D as sp nm) q sp0 nm0 a7:=by rw[uK];exact h.app
 have g':(oJ D as sp nm)[a7]?=ae (.L xs):=by rw[uK];exact bl g
 have qp':(ai af (oJ D as sp nm))[af.cw]?=ae (.L ps):=by rw[uK];exact bl (h:=ai af D) qp
 have r:=OY (sp:=.S sp) (nm:=.S nm) (at':=at') (n:=D.length+2) (sp0:=sp0) (nm0:=nm0) qp' wp l (Bt (af:=af) (k:=k) h') g' w np
 exact cV ab ab (aq s1 r)
theorem aaw{at':V}{as ps xs:List V}{q a7:Nat}{sp0 nm0:aw}(a:AT D at' as)(qp:(ai af D)[af.cw]?=ae (.L ps))(wp:bb 1 ps)(l:ps.getLast?=ae (.R (q+33)))(h:mI D q sp0 nm0 a7)(g:D[a7]?=ae (.L xs))(w:xs.length<aK)(np:af.cw≠a7+33):
 aA ao (k+2) 728 [.R 32,.S aJ,.S aR,at'] (ai af D)=ae (.N,ai {af with cw:=((oK D as).set a7 (.L (xs++[.R (D.length+3+33)]))++[O.L [.R (D.length+3+33)]]).length+33} (rU (oK D as) a7 xs ps (D.length+3))):=by
 have s1:=abl (af:=af) (k:=k+1) a
 rw[fw,fw,fw]at s1
 have h':mI (oK D as) q sp0 nm0 a7:=by rw[yw];exact h.app
 have g':(oK D as)[a7]?=ae (.L xs):=by rw[yw];exact bl g
 have qp':(ai af (oK D as))[af.cw]?=ae (.L ps):=by rw[yw];exact bl (h:=ai af D) qp
 have r:=OY (sp:=.S aJ) (nm:=.S aR) (at':=at') (n:=D.length+3) (sp0:=sp0) (nm0:=nm0) qp' wp l (Bt (af:=af) (k:=k) h') g' w np
 exact cV ab ab (aq s1 r)
end
end
section
section
variable{af:br}{D:List O}{k m:Nat}
noncomputable def b_(ln:Nat->Nat)(i:Nat):V:=.R (ln i+33)
noncomputable def gZ(D:List O)(f g:Nat->aw)(ln:Nat->Nat)(s:List Nat):Prop:=∀i∈s,cM (f i)/\cM (g i)/\∃x y z,D[ln i]?=ae (.L [.S (f i),.S (g i),x,y,z])
noncomputable def lE(f g:Nat->aw)(s:List Nat):V->Bool
 | .I a=>match s[a.toNat]? with
  | some i=>du f g aR i
  | none=>aP
 | _=>aP
theorem Jv{f g:Nat->aw}{ln:Nat->Nat}{s:List Nat}{ps:List V}(lp:gZ D f g ln s)(qs:ps=s.map (b_ ln))(qp:(ai af D)[af.cw]?=ae (.L ps))(w:s.length<90000):
 aA ao (k+1) 733 [.R 32] (ai af D)=ae (.R (D.length+33),ai af (D++[.L (((fZ s.length).filter (lE f g s)).map id)])):=by
 have wl:ps.length=s.length:=by rw[qs,cB]
 have wg:ps.length<aK:=by rw[wl];exact fg w (aN rfl)
 apply cJ ab ab
 apply ji
 apply cQ
 rw[<- wl]
 refine Xi (h1:=ai af D) (k:=(ps.length:Int)) (lE f g s) id ?_ ?_ ?_ ?_ ?_
 .exact gk (aH (ah ab) aj (dJ ab ab)) qp wg
 .intro x hx;obtain⟨a,ha,e⟩:=ig.mp hx;have e2:x=.I a:=e.symm;subst e2;have ha2:a<s.length:=by have:=xr.mp ha;lia
  have hs:s[a]?=ae s[a]:=jn ha2;obtain⟨aE,cP,x1,y1,z1,q⟩:=lp s[a] (rq ha2);have ca:ps[a]?=ae (.R (ln s[a]+33)):=by rw[qs,jo,hs];rfl
  have c1:cD .E (ai af (D++[O.L [.S (f s[a]),.S (g s[a])]]++[O.L [.S aJ,.S aR]])) (.R (D.length+33)) (.R ((D++[O.L [.S (f s[a]),.S (g s[a])]]).length+33))=ae (decide ([f s[a],g s[a]]=[aJ,aR])):=
   x9 (l:=[f s[a],g s[a]]) (r:=[aJ,aR]) (bD (bl bS)) (bD bS) (by intro x hx;rcases d_.mp hx with rfl | hx;exact aE;rw[dx.mp hx];exact cP) (by intro x hx;rcases d_.mp hx with rfl | hx;exact g8;rw[dx.mp hx];exact pJ)
  refine⟨.B (decide ([f s[a],g s[a]]=[aJ,aR])),?_,?_⟩
  .exact dG (aI (kd (aH (aH (ah ab) aj (dJ ab ab)) (ah ab) (bX qp (bc wg ca))) aj aj (lF q ab)) (eW (ar aj (ar aj aO)) (aN ab)) c1) lG ab
  .show ae _=ae _;congr 1;show _=match s[(a:Int).toNat]? with | some i=>du f g aR i | none=>aP
   rw[o3,hs];show _=(decide (f s[a]=aJ)&&decide (g s[a]=aR));rw[p5,kS,decide_eq_true_iff,decide_eq_true_iff,decide_eq_true_iff,uj,uj];exact⟨λh=>⟨h.1,h.2.1⟩,λh=>⟨h.1,h.2,rfl⟩⟩
 .intro x hx _;exact ah ab
 .rw[wl];constructor<;>lia
 .unfold fZ;rw[cB,As,wl];exact fg (by lia:(s.length:Int).toNat<90000) (aN rfl)
end
end
section
section
variable{af:br}{D:List O}{k m:Nat}{f g:Nat->aw}{ln:Nat->Nat}
noncomputable def toN:List (aw×aw):=[(fj,og),(jO,og),(jN,lW),(j8,i8),(j9,i8),(gK,i8),(i7,ux),(ky,oh)]
noncomputable def gD(f g:Nat->aw)(mm:aw)(bZ:aw)(i:Nat):aw:=if du f g aR i=aB then mm else if f i=aJ then(toN.lookup (g i)).getD bZ else bZ
theorem aaa{i:Nat}(aE:cM (f i))(cP:cM (g i)):cD .E (ai af (D++[O.L [.S (f i),.S (g i)]]++[O.L [.S aJ,.S aR]])) (.R (D.length+33)) (.R ((D++[O.L [.S (f i),.S (g i)]]).length+33))=ae (du f g aR i):=by
 refine(x9 (l:=[f i,g i]) (r:=[aJ,aR]) (bD (bl bS)) (bD bS) (by intro x hx;rcases d_.mp hx with rfl | hx;exact aE;rw[dx.mp hx];exact cP) (by intro x hx;rcases d_.mp hx with rfl | hx;exact g8;rw[dx.mp hx];exact pJ)).trans ?_;congr 1;show _=(decide (f i=aJ)&&decide (g i=aR));rw[p5,kS,decide_eq_true_iff,decide_eq_true_iff,decide_eq_true_iff,uj,uj];exact⟨λh=>⟨h.1,h.2.1⟩,λh=>⟨h.1,h.2,rfl⟩⟩
theorem O8{mm:aw}{told pth:Nat}{ms nodes:List V}(qt:(ai af D)[told]?=ae (.S (toN.map λe=>(e.1,V.S e.2))))(qm:(ai af D)[af.lm]?=ae (.L ms))(wm:ms.length<aK)(qn:(ai af D)[pth]?=ae (.L nodes)):(s:List Nat)->gZ D f g ln s->(∀i∈s,du f g aR i=aB->ms.getLast?=ae (.S mm))->(bZ:aw)->(a:Option V)->
 ∃a',gY ao (aA ao k) 3 (dr (bj pd 5)) (λh=>decide (h[pth]?=ae (.L nodes))) (s.map (b_ ln)) [ae (.R 32),ae (.S bZ),ae (.R told),a] (ai af D)=ae (.N,[ae (.R 32),ae (.S (s.foldl (gD f g mm) bZ)),ae (.R told),a'],ai af D)
 | [],_,_,bZ,a=>⟨a,ou (decide_eq_true qn)⟩
 | i::s,lp,hm,bZ,a=>by
  obtain⟨aE,cP,x,y,z,q⟩:=lp i (fa ..);obtain⟨a',r⟩:=O8 qt qm wm qn s (λj hj=>lp j (eV _ hj)) (λj hj=>hm j (eV _ hj)) (gD f g mm bZ i) (ae (b_ ln i));have c1:=aaa (af:=af) (D:=D) aE cP;refine⟨a',jz (decide_eq_true qn) ?_ r⟩;show b3 ao (aA ao k) (dr (bj pd 5)) [ae (.R 32),ae (.S bZ),ae (.R told),ae (.R (ln i+33))] (ai af D)=ae (.N,[ae (.R 32),ae (.S (gD f g mm bZ i)),ae (.R told),ae (.R (ln i+33))],ai af D);unfold gD;cases e:du f g aR i with
  | true=>
   rw[e]at c1;have hl:=hm i (fa ..) e;rw[if_pos rfl];exact aq (aM (dG (aI (kd (ah rfl) aj aj (lF q rfl)) (eW (ar aj (ar aj aO)) (aN rfl)) c1) lG rfl) (cN (aq (bM (aH (aH (ah rfl) aj (dJ rfl rfl)) aj (bX qm (iu wm hl)))) aF))) aF
  | false=>
   rw[e]at c1;rw[if_neg (by decide)];by_cases e2:f i=aJ
   .rw[if_pos e2];rw[e2]at q c1;have bf:((toN.map λe=>(e.1,V.S e.2)).lookup (g i)).getD (.S bZ)=.S ((toN.lookup (g i)).getD bZ):=FV toN;exact aq (aM (dG (aI (kd (ah rfl) aj aj (lF q rfl)) (eW (ar aj (ar aj aO)) (aN rfl)) c1) lG rfl) (a_ (aq (aM (aI (aH (ah rfl) aj (bX q rfl)) aj dk) (cN (aq (bM (Fb (ah rfl) qt (aH (ah rfl) aj (bX q rfl)) (ah rfl) qt bf)) aF))) aF))) aF
   .rw[if_neg e2];exact aq (aM (dG (aI (kd (ah rfl) aj aj (lF q rfl)) (eW (ar aj (ar aj aO)) (aN rfl)) c1) lG rfl) (a_ (aq (aM (aI (aH (ah rfl) aj (bX q rfl)) aj (bL e2)) (a_ aF)) aF))) aF
end
end
section
section
variable{af:br}{D:List O}{k m:Nat}{f g:Nat->aw}{ln:Nat->Nat}
noncomputable def kg(af:br)(ms:List V):br:={af with ed:=if af.lm=30 then ms else af.ed}
noncomputable def iB(af:br)(D:List O)(ms:List V):List O:=if af.lm=30 then D else D.set (af.lm-33) (.L ms)
noncomputable def fP(af:br)(D:List O)(ms:List V):Prop:=(af.lm=30/\af.ed=ms)\/∃j,af.lm=j+33/\D[j]?=ae (.L ms)
theorem fP.get{ms:List V}(h:fP af D ms):(ai af D)[af.lm]?=ae (.L ms):=by
 rcases h with⟨h,rfl⟩ | ⟨j,h,q⟩
 .rw[h];rfl
 .rw[h];exact bD q
theorem fP.app{ms:List V}{X:List O}(h:fP af D ms):fP af (D++X) ms:=by
 rcases h with h | ⟨j,h,q⟩
 .exact bB h
 .exact bE ⟨j,h,bl q⟩
theorem F0{ms ms':List V}(h:fP af D ms'):(ai af D).set af.lm (.L ms)=ai (kg af ms) (iB af D ms):=by
 unfold kg iB;have e1:∀a,a=30->(ai af D).set a (.L ms)=ai {af with ed:=ms} D:=by rintro a rfl;rfl
 have e2:∀a j,a=j+33->(ai af D).set a (.L ms)=ai {af with ed:=af.ed} (D.set (a-33) (.L ms)):=by rintro a j rfl;rw[mD];rfl
 rcases h with⟨h,_⟩ | ⟨j,h,q⟩
 .rw[if_pos h,if_pos h];exact e1 _ h
 .have aD:af.lm≠30:=by lia
  rw[if_neg aD,if_neg aD];exact e2 _ j h
theorem fP.bZ{ms ms':List V}(h:fP af D ms'):fP (kg af ms) (iB af D ms) ms:=by
 unfold kg iB;rcases h with⟨h,_⟩ | ⟨j,h,q⟩
 .exact bB ⟨h,if_pos h⟩
 .have aD:af.lm≠30:=by lia
  refine bE ⟨j,h,?_⟩;rw[if_neg aD,h,mD,pY (jL.mp q).1]
theorem OS{P:Nat->Bool}{a:Nat}(h:P a=aB):(n:Nat)->a<n->(∀j,a<j->j<n->P j=aP)->((nM n).filter P).getLast?=ae a
 | 0,w,_=>absurd w (Km _)
 | n+1,w,q=>by
  rw[List.range_succ,List.filter_append];by_cases e:a=n
  .subst e;rw[DX,h,if_pos rfl];exact gf ..
  .rw[DX,q n (by lia) (Av _)];show((nM n).filter P++[]).getLast?=_;rw[iJ];exact OS h n (by lia) λj h1 aD=>q j h1 (by lia)
noncomputable def eC(f g:Nat->aw)(s:List Nat):O:=.L (((fZ s.length).filter (lE f g s)).map id)
theorem RN(s:List Nat):((fZ s.length).filter (lE f g s)).map id=((nM s.length).filter λa:Nat=>lE f g s (.I a)).map λa:Nat=>V.I a:=by
 rw[Kt];unfold fZ;rw[TA,o3];rfl
theorem RO{s R:List Nat}{t:Nat}(aC:du f g aR t=aB)(hR:∀i∈R,du f g aR i=aP):(((fZ (s++t::R).length).filter (lE f g (s++t::R))).map id).getLast?=ae (.I s.length):=by
 rw[RN,p3]
 have e:∀j:Nat,lE f g (s++t::R) (.I j)=match(s++t::R)[j]? with | some i=>du f g aR i | none=>false:=by
  intro j;show(match(s++t::R)[(j:Int).toNat]? with | some i=>du f g aR i | none=>aP)=_;rw[o3]
 rw[OS (a:=s.length)]
 .rfl
 .rw[e,gI (cC _),gw];exact aC
 .rw[ba,fH];lia
 .intro j h1 aD;rw[e,gI (by lia)];have e2:j-s.length=(j-s.length-1)+1:=by lia
  rw[e2,SM];rw[ba,fH]at aD;have h3:j-s.length-1<R.length:=by lia
  rw[jn h3];exact hR _ (rq h3)
theorem WK{xs:List V}{n:Nat}(w:xs.length<aK)(h:n<=xs.length):k8 xs .N (.I n)=ae (xs.take n):=by
 unfold k8;rw[if_pos w];show ae ((xs.take (mZ n xs.length)).drop 0)=_
 have e:mZ n xs.length=n:=by
  unfold mZ;rw[if_neg (by lia),o3];lia
 rw[e];rfl
theorem E0{xs:List V}{n:Nat}(w:xs.length<aK)(h:n<=xs.length):k8 xs (.I n) .N=ae (xs.drop n):=by
 unfold k8;rw[if_pos w];show ae ((xs.take xs.length).drop (mZ n xs.length))=_
 have e:mZ n xs.length=n:=by
  unfold mZ;rw[if_neg (by lia),o3];lia
 rw[e,Tp]
theorem aaP{s R:List Nat}{t:Nat}{x y z:Option V}(lp:gZ D f g ln (s++t::R))(qp:(ai af D)[af.cw]?=ae (.L ((s++t::R).map (b_ ln))))(w:(s++t::R).length<90000)(aC:du f g aR t=aB)(hR:∀i∈R,du f g aR i=aP):
 cH ao (aA ao (k+1)) (bj pd 0) [ae (.R 32),x,y,z] (ai af D)=ae (.N,[ae (.R 32),x,y,z],ai {af with cw:=D.length+1+33} (D++[eC f g (s++t::R),.L (s.map (b_ ln))])):=by
 have c1:=Jv (af:=af) (k:=k) lp ab qp w
 have bf:=RO (s:=s) aC hR
 have w1:(((fZ (s++t::R).length).filter (lE f g (s++t::R))).map id).length<aK:=by
  rw[cB];refine fO (SX ..) ?_;unfold fZ;rw[cB,As,o3];exact fg w (aN rfl)
 have w2:((s++t::R).map (b_ ln)).length<aK:=by
  rw[cB];exact fg w (aN rfl)
 have cT:(ai af (D++[eC f g (s++t::R)]))[af.cw]?=ae (.L ((s++t::R).map (b_ ln))):=bl (h:=ai af D) qp
 have c3:k8 ((s++t::R).map (b_ ln)) .N (.I s.length)=ae (s.map (b_ ln)):=by
  rw[WK w2 (by rw[cB,ba];lia)];congr 1;rw[<- List.map_take,Kn]
 have e:D++[eC f g (s++t::R),.L (s.map (b_ ln))]=D++[eC f g (s++t::R)]++[.L (s.map (b_ ln))]:=by rw[cG];rfl
 rw[e]
 unfold eC at cT⊢
 apply ix
 .exact iD (kd (aH (ah ab) aj (dJ ab ab)) aj (aH (cu aj (ar (ah ab) aO) c1) aj (bX (bD bS) (iu w1 bf))) (lF cT c3)) (ah ab) aj (lD ab (aN ab))
 .exact ab
 .rw[<- fw (D:=D) (o:=.L (((fZ (s++t::R).length).filter (lE f g (s++t::R))).map id))];rfl
theorem aaQ(b:aQ m af){gv:V}{x y z:Option V}(qg:af.da.getLast?=ae gv):
 cH ao (aA ao k) (bj pd 1) [ae (.R 32),x,y,z] (ai af D)=ae (.N,[ae (.R 32),x,y,z],ai {af with da:=af.da.dropLast} D):=by
 apply ix
 .exact bu (pz (aH (ah ab) aj (dJ ab ab)) ab (bb.g (aQ.da b)) qg)
 .exact ab
 .exact ab
theorem aaR{ms:List V}{l:V}{x y z:Option V}(hm:fP af D (ms++[l]))(w:(ms++[l]).length<aK):
 cH ao (aA ao k) (bj pd 2) [ae (.R 32),x,y,z] (ai af D)=ae (.N,[ae (.R 32),x,y,z],ai (kg af ms) (iB af D ms)):=by
 rw[<- F0 hm]
 have e:ms=(ms++[l]).dropLast:=(iH ..).symm
 rw[show(ai af D).set af.lm (.L ms)=(ai af D).set af.lm (.L (ms++[l]).dropLast) by rw[<- e]]
 have q:=hm.get
 have c:(ms++[l]).getLast?=ae l:=gf ..
 exact bu (pz (aH (ah ab) aj (dJ ab ab)) q w c)
theorem aaS{ms:List V}{m0:aw}{x y z:Option V}(hm:fP af D ms)(w:ms.length<aK)(h0:(af.gq=aB/\ms[0]?=ae (.S m0))\/(af.gq=aP/\m0=ec)):
 cH ao (aA ao k) (bj pd 3) [ae (.R 32),x,y,z] (ai af D)=ae (.N,[ae (.R 32),ae (.S m0),y,z],ai af D):=by
 have q:=hm.get
 rcases h0 with⟨h,ly⟩ | ⟨h,rfl⟩
 .have c:gc ms 0=ae (.S m0):=bc (i:=0) w ly;have e:truthy (ai af D) (.B af.gq)=ae true:=by rw[h];rfl
  apply bM;apply oq
  .exact aH (ah ab) aj (dJ ab ab)
  .refine bB ⟨e,?_⟩;exact aH (aH (ah ab) aj (dJ ab ab)) aj (bX q c)
 .have e:truthy (ai af D) (.B af.gq)=ae false:=by rw[h];rfl
  apply bM;apply oq
  .exact aH (ah ab) aj (dJ ab ab)
  .refine bE ⟨e,?_⟩;exact aj
theorem aaT{x y z:Option V}:cH ao (aA ao k) (bj pd 4) [ae (.R 32),x,y,z] (ai af D)=ae (.N,[ae (.R 32),x,ae (.R (D.length+33)),z],ai af (D++[.S (toN.map λe=>(e.1,V.S e.2))])):=by
 apply ix
 .exact bM (Bb (ar aj (ar aj (ar aj (ar aj (ar aj (ar aj (ar aj (ar aj aO)))))))) ab)
 .exact ab
 .exact ab
noncomputable def Ae:O:=.S (toN.map λe=>(e.1,V.S e.2))
theorem aaU{s:List Nat}{i0:Nat}{ms:List V}{mm bZ:aw}(lp:gZ D f g ln s)(qp:(ai af D)[af.cw]?=ae (.L ((i0::s).map (b_ ln))))(w:(i0::s).length<90000){told:Nat}(qt:(ai af D)[told]?=ae Ae)(hm:fP af D ms)(wm:ms.length<aK)(hl:∀i∈s,du f g aR i=aB->ms.getLast?=ae (.S mm)){a:Option V}:
 ∃fr',b3 ao (aA ao k) (fe (fe (fe (fe (fe pd))))) [ae (.R 32),ae (.S bZ),ae (.R told),a] (ai af D)=ae (.N,fr',ai {af with eU:=s.foldl (gD f g mm) bZ} (D++[.L (s.map (b_ ln))])):=by
 have w2:((i0::s).map (b_ ln)).length<aK:=by
  rw[cB];exact fg w (aN rfl)
 have c3:k8 ((i0::s).map (b_ ln)) (.I 1) .N=ae (s.map (b_ ln)):=by
  rw[show(1:Int)=((1:Nat):Int)from rfl,E0 w2 (by rw[cB,fH];lia)];rfl
 have lp':gZ (D++[.L (s.map (b_ ln))]) f g ln s:=λi hi=>by
  obtain⟨aE,cP,x,y,z,q⟩:=lp i hi;exact⟨aE,cP,x,y,z,bl q⟩
 obtain⟨a',r⟩:=O8 (af:=af) (D:=D++[.L (s.map (b_ ln))]) (k:=k) (told:=told) (pth:=D.length+33) (mm:=mm) (bl (h:=ai af D) qt) hm.app.get wm (bD bS) s lp' hl bZ a
 refine⟨[ae (.R 32),ae (.S (s.foldl (gD f g mm) bZ)),ae (.R told),a'],?_⟩
 apply aq
 .apply q3
  .exact kd (aH (ah ab) aj (dJ ab ab)) aj aj (lF qp c3)
  .exact bD bS
  .exact r
 .exact aq (iD (ah ab) (ah ab) aj (lD ab (aN ab))) aF
theorem aaF(b:aQ m af){s R:List Nat}{i0 t:Nat}{gv l:V}{ms:List V}{mm m0:aw}(lp:gZ D f g ln (i0::s++t::R))(qp:(ai af D)[af.cw]?=ae (.L ((i0::s++t::R).map (b_ ln))))(w:(i0::s++t::R).length<90000)(aC:du f g aR t=aB)(hR:∀i∈R,du f g aR i=aP)
 (qg:af.da.getLast?=ae gv) (hm:fP af D (ms++[l])) (wm:(ms++[l]).length<aK) (h0:(af.gq=aB/\ms[0]?=ae (.S m0))\/(af.gq=aP/\m0=ec)) (hl:∀i∈s,du f g aR i=aB->ms.getLast?=ae (.S mm))
 (nl:∀i∈s,af.lm≠ln i+33):
 aA ao (k+2) 740 [.R 32] (ai af D)=ae (.N,ai {kg {af with cw:=D.length+1+33,da:=af.da.dropLast} ms with eU:=s.foldl (gD f g mm) m0} (iB af (D++[eC f g (i0::s++t::R),.L ((i0::s).map (b_ ln))]) ms++[Ae,.L (s.map (b_ ln))])):=by
 have c0:=aaP (af:=af) (k:=k) (x:=az) (y:=az) (z:=az) lp qp w aC hR
 have c1:=aaQ (af:={af with cw:=D.length+1+33}) (D:=D++[eC f g (i0::s++t::R),.L ((i0::s).map (b_ ln))]) (k:=k+1) (x:=az) (y:=az) (z:=az) (m:=m) ⟨b.bo,b.bY,b.names,b.dI,b.dH,b.b0,b.dz,b.d5,b.ay,b.bW,b.eH,b.d1,b.bP,b.da,b.ed,b.cO,b.dU⟩ qg
 have hm1:fP {af with cw:=D.length+1+33,da:=af.da.dropLast} (D++[eC f g (i0::s++t::R),.L ((i0::s).map (b_ ln))]) (ms++[l]):=fP.app (af:={af with cw:=D.length+1+33,da:=af.da.dropLast}) hm
 have bf:=aaR (k:=k+1) (x:=az) (y:=az) (z:=az) hm1 wm
 have hm2:=hm1.bZ (ms:=ms)
 have wm2:ms.length<aK:=by rw[ba]at wm;exact fO (nQ ..) wm
 have c3:=aaS (k:=k+1) (x:=az) (y:=az) (z:=az) hm2 wm2 h0
 have c4:=aaT (af:=kg {af with cw:=D.length+1+33,da:=af.da.dropLast} ms) (D:=iB {af with cw:=D.length+1+33,da:=af.da.dropLast} (D++[eC f g (i0::s++t::R),.L ((i0::s).map (b_ ln))]) ms) (k:=k+1) (x:=ae (.S m0)) (y:=az) (z:=az)
 have lpD:gZ (iB {af with cw:=D.length+1+33,da:=af.da.dropLast} (D++[eC f g (i0::s++t::R),.L ((i0::s).map (b_ ln))]) ms++[Ae]) f g ln s:=by
  intro i hi;obtain⟨aE,cP,x,y,z,q⟩:=lp i (iG _ (eV _ hi));refine⟨aE,cP,x,y,z,bl ?_⟩;unfold iB;split
  .exact bl q
  .rename_i h;have aD:=nl i hi;have h3:af.lm≠30:=h;rcases hm with⟨hm,_⟩ | ⟨j,hm,_⟩
   .exact absurd hm h3
   .exact BE (bl q) (by show af.lm-33≠ln i;lia)
 have qpD:(ai (kg {af with cw:=D.length+1+33,da:=af.da.dropLast} ms) (iB {af with cw:=D.length+1+33,da:=af.da.dropLast} (D++[eC f g (i0::s++t::R),.L ((i0::s).map (b_ ln))]) ms++[Ae]))[D.length+1+33]?=ae (.L ((i0::s).map (b_ ln))):=by
  refine bD (bl ?_)
  have q:(D++[eC f g (i0::s++t::R),O.L ((i0::s).map (b_ ln))])[D.length+1]?=ae (.L ((i0::s).map (b_ ln))):=by
   rw[gI (by lia),rg];rfl
  unfold iB;split
  .exact q
  .rename_i h;have h3:af.lm≠30:=h;rcases hm with⟨hm,_⟩ | ⟨j,hm,qj⟩
   .exact absurd hm h3
   .have:=(jL.mp qj).1;exact BE q (by show af.lm-33≠D.length+1;lia)
 have w3:(i0::s).length<90000:=by
  rw[ba]at w;exact fO (nQ ..) w
 obtain⟨fr',c5⟩:=aaU (af:=kg {af with cw:=D.length+1+33,da:=af.da.dropLast} ms) (k:=k+1) (bZ:=m0) (mm:=mm) (told:=(iB {af with cw:=D.length+1+33,da:=af.da.dropLast} (D++[eC f g (i0::s++t::R),.L ((i0::s).map (b_ ln))]) ms).length+33) (a:=az) lpD qpD w3 (bD bS) hm2.app wm2 hl
 rw[cG]at c5
 exact cV ab ab (aq c0 (aq c1 (aq bf (aq c3 (aq c4 c5)))))
end
end
section
theorem uC{P:gM}{cl:Nat->List V->H->Option (V×H)}{fr:bJ}{h h1:H}{c:ck}{t:aw}{l:List aw}(p:aS P cl c fr h=ae (.S t,h1))(w:t.length<1000/\(nO ⟨t.toArray⟩ (t.length+1)).length<1000)(q:nH t=l):aS P cl (.Y c) fr h=ae (.R h1.length,h1++[.L (l.map .S)]):=by
 show((aS P cl c fr h).bind _)=_;rw[p];show(if t.length<1000/\(nO ⟨t.toArray⟩ (t.length+1)).length<1000 then ae (gF h1 (.L ((nH t).map .S)))else az)=_;rw[if_pos w,q];rfl
section
variable{af:br}{D:List O}{k m:Nat}{f g:Nat->aw}{ln:Nat->Nat}
noncomputable def yg:aw:=Uo
noncomputable def oA:List aw:=[[112],xD,fj,jO,jN,j8,j9,gK,i7,ky]
theorem ZZ:nH yg=oA:=by decide +kernel
theorem Z0:yg.length<1000/\(nO ⟨yg.toArray⟩ (yg.length+1)).length<1000:=by decide +kernel
noncomputable def gC:O:=.L (oA.map .S)
noncomputable def fW(D:List O)(f g:Nat->aw)(s:List Nat):List O:=D++[gC]++[eC f g s]
noncomputable def Fu(D:List O)(t:Nat)(x y:Option V):bJ:=[ae (.R 32),ae (.R (t+33)),ae (.R (D.length+33)),ae (.R (D.length+1+33)),x,y]
theorem gZ.app{s:List Nat}{X:List O}(h:gZ D f g ln s):gZ (D++X) f g ln s:=λi hi=>by
 obtain⟨aE,cP,x,y,z,q⟩:=h i hi;exact⟨aE,cP,x,y,z,bl q⟩
theorem Br{s:List Nat}{t:Nat}{x y z u:Option V}{F:dm}{fr':bJ}{h':H}(lp:gZ D f g ln s)(qp:(ai af D)[af.cw]?=ae (.L (s.map (b_ ln))))(w:s.length<90000)
 (r:b3 ao (aA ao (k+1)) (fe (fe n9)) (Fu D t x y) (ai af (fW D f g s))=ae (F,fr',h')):
 b3 ao (aA ao (k+1)) n9 [ae (.R 32),ae (.R (t+33)),z,u,x,y] (ai af D)=ae (F,fr',h'):=by
 have c1:=Jv (af:=af) (D:=D++[gC]) (k:=k) lp.app ab (bl (h:=ai af D) qp) w
 have s0:cH ao (aA ao (k+1)) (bj n9 0) [ae (.R 32),ae (.R (t+33)),z,u,x,y] (ai af D)=ae (.N,[ae (.R 32),ae (.R (t+33)),ae (.R (D.length+33)),u,x,y],ai af (D++[gC])):=by
  apply bM;exact uC (t:=yg) aj Z0 ZZ
 have s1:cH ao (aA ao (k+1)) (bj n9 1) [ae (.R 32),ae (.R (t+33)),ae (.R (D.length+33)),u,x,y] (ai af (D++[gC]))=ae (.N,Fu D t x y,ai af (fW D f g s)):=by
  apply ix
  .exact bM (cu aj (ar (ah ab) aO) c1)
  .rw[fw];exact rfl
  .exact ab
 exact aq s0 (aq s1 r)
noncomputable def qM(af:br)(t:Nat):O:=.T [.S af.eU,.R (t+33)]
noncomputable def oE(af:br)(D:List O):br:={af with cO:=af.cO++[.R (D.length+33)]}
theorem E1{xs:List V}(w:xs.length<aK)(h:0<xs.length):k8 xs .N (.I (-1))=ae xs.dropLast:=by
 unfold k8;rw[if_pos w];show ae ((xs.take (mZ (-1) xs.length)).drop 0)=_
 have e:mZ (-1) xs.length=xs.length-1:=by
  unfold mZ;rw[if_pos (by decide)];lia
 rw[e,J7];rfl
theorem ZL(b:aQ m af){s:List Nat}{t:Nat}{nm:aw}{a x r1:V}{aG:br}{D':List O}{ps:List V}(lp:gZ D f g ln s)(qp:(ai af D)[af.cw]?=ae (.L (s.map (b_ ln))))(w:s.length<90000)(aC:D[t]?=ae (.T [.S bO,.S nm,a,x]))(wn:nm≠aR)
 (q:aA ao (k+1) 728 [.R 32,.S aJ,.S nm,a] (ai (oE af (fW D f g s)) (fW D f g s++[qM af t]))=ae (r1,ai aG D')) (qp':(ai aG D')[aG.cw]?=ae (.L ps)) (wp:ps.length<aK) (w0:0<ps.length):
 aA ao (k+2) 745 [.R 32,.R (t+33)] (ai af D)=ae (.N,ai {aG with cw:=D'.length+33} (D'++[.L ps.dropLast])):=by
 have ht':(fW D f g s)[t]?=ae (.T [.S bO,.S nm,a,x]):=bl (bl aC)
 have tw:[V.S bO,.S nm,a,x].length<aK:=aN (n:=4) (m:=aK) ab
 have c1:=E1 wp w0
 apply cV ab ab
 apply Br lp qp w
 exact aq (aM (aI (aH (ah ab) aj (a8 ht' ab)) aj (oi wn)) (cN (aq (bu (dW (aH (ah ab) aj (dJ ab ab)) ab (dj (ar (aH (ah ab) aj (dJ ab ab)) (ar (ah ab) aO)) (aN ab)) ab (bb.g (aQ.cO b)))) (aq (bu (cu aj (ar (ah ab) (ar aj (ar (aH (ah ab) aj (a8 (bl ht') ab)) (ar (aH (ah ab) aj (a8 (bl ht') ab)) aO)))) q)) (aq (iD (kd (aH (ah ab) aj (dJ ab ab)) aj aj (lF qp' c1)) (ah ab) aj (lD ab (aN ab))) aF))))) aF
noncomputable def jk:kA->bN
 | .I _ a _=>a
 | _=>.N
noncomputable def m5:kA->bN
 | .I _ _ a=>a
 | _=>.N
noncomputable def zT(af:br)(D:List O)(ms:List V):br:=kg {af with da:=af.da++[.R (D.length+33)]} (ms++[.S cX])
noncomputable def zS(af:br)(D:List O)(ms:List V):List O:=iB af (D++[.L []]) (ms++[.S cX])
theorem ZM{fr:bJ}{t:Nat}{l:List V}{a r1:V}{aG:br}{D':List O}{ms:List V}(f0:fr[0]?=ae (ae (.R 32)))(f1:fr[1]?=ae (ae (.R (t+33))))(aC:D[t]?=ae (.T (.S bO::.S aR::a::l)))(tw:(.S bO::.S aR::a::l).length<aK)
 (q:aA ao (k+1) 728 [.R 32,.S aJ,.S aR,a] (ai af D)=ae (r1,ai aG D')) (b:aQ (m+1) aG) (hm:fP aG D' ms) (wm:ms.length<aK):
 b3 ao (aA ao (k+1)) (jk (bj (m5 (bj n9 2)) 0)) fr (ai af D)=ae (.N,fr,ai {zT aG D' ms with eU:=cX,g7:=aP} (zS aG D' ms)):=by
 have hm2:fP {aG with da:=aG.da++[.R (D'.length+33)]} (D'++[.L []]) ms:=fP.app (af:={aG with da:=aG.da++[.R (D'.length+33)]}) hm
 have c4:=hm2.get
 have l0:aS ao (aA ao (k+1)) (.L 0) fr (ai aG D')=ae (.R 32,ai aG D'):=ah f0
 have s2:cH ao (aA ao (k+1)) (bj (jk (bj (m5 (bj n9 2)) 0)) 1) fr (ai aG D')=ae (.N,fr,ai {aG with da:=aG.da++[.R (D'.length+33)]} (D'++[.L []])):=by
  apply ix
  .apply bu;apply dW
   .apply aH
    .exact l0
    .exact aj
    .exact dJ ab ab
   .exact ab
   .exact eW aO (aN ab)
   .exact ab
   .exact bb.g (aQ.da b)
  .exact ab
  .exact ab
 have s3:cH ao (aA ao (k+1)) (bj (jk (bj (m5 (bj n9 2)) 0)) 2) fr (ai {aG with da:=aG.da++[.R (D'.length+33)]} (D'++[.L []]))=ae (.N,fr,ai (zT aG D' ms) (zS aG D' ms)):=by
  rw[show ai (zT aG D' ms) (zS aG D' ms)=_ from(F0 hm2).symm];apply bu;apply dW
  .apply aH
   .exact ah f0
   .exact aj
   .exact dJ ab ab
  .exact c4
  .exact aj
  .exact c4
  .exact wm
 apply aq
 .apply bu;apply cu
  .exact aj
  .apply ar
   .exact ah f0
   apply ar
   .exact aj
   apply ar
   .exact aj
   apply ar
   .apply aH
    .exact ah f1
    .exact aj
    .exact a8 aC (bc tw ab)
   .exact aO
  .exact q
 apply aq s2
 apply aq s3
 apply aq
 .apply iD
  .exact aj
  .exact ah f0
  .exact aj
  .exact lD ab (aN ab)
 apply aq
 .apply iD
  .exact aj
  .exact ah f0
  .exact aj
  .exact lD ab (aN ab)
 exact aF
theorem ZK{s:List Nat}{t:Nat}{l:List V}{a r1:V}{aG:br}{D':List O}{ms:List V}(lp:gZ D f g ln s)(qp:(ai af D)[af.cw]?=ae (.L (s.map (b_ ln))))(w:s.length<90000)(aC:D[t]?=ae (.T (.S bO::.S aR::a::l)))(tw:(.S bO::.S aR::a::l).length<aK)
 (q:aA ao (k+1) 728 [.R 32,.S aJ,.S aR,a] (ai af (fW D f g s))=ae (r1,ai aG D')) (b:aQ (m+1) aG) (hm:fP aG D' ms) (wm:ms.length<aK):
 aA ao (k+2) 745 [.R 32,.R (t+33)] (ai af D)=ae (.N,ai {zT aG D' ms with eU:=cX,g7:=aP} (zS aG D' ms)):=by
 have ht':(fW D f g s)[t]?=ae (.T (.S bO::.S aR::a::l)):=bl (bl aC)
 have r:=ZM (af:=af) (k:=k) (fr:=Fu D t az az) ab ab ht' tw q b hm wm
 apply cV ab ab
 apply Br lp qp w
 apply aq
 .apply aM
  .exact aI (aH (ah ab) aj (a8 ht' (bc tw ab))) aj iP
  .refine bE ⟨fq,?_⟩;apply aq
   .apply aM
    .exact aI (aH (ah ab) aj (a8 ht' (bc tw ab))) aj dk
    .exact bB ⟨tt,r⟩
   .exact aF
 .exact aF
end
end
section
section
variable{af:br}{D:List O}{k m:Nat}{f g:Nat->aw}{ln:Nat->Nat}
theorem eq_nil{h:H}{a b:Nat}{xs:List V}{ds:List PyData}(p:h[a]?=ae (.L xs))(q:h[b]?=ae (.L []))(r:xs.mapM (cF h 59)=ae ds)(s:jG (.list ds)=aB):cD .E h (.R a) (.R b)=ae xs.isEmpty:=by
 have e:xs.length=ds.length:=by
  clear p s;induction xs generalizing ds with
  | nil=>cases r;rfl
  | cons x xs ih=>
   rw[gg]at r;cases h1:cF h 59 x with
   | none=>rw[h1]at r;cases r
   | some d=>
    rw[h1]at r;cases aD:xs.mapM (cF h 59)with
    | none=>rw[aD]at r;cases r
    | some es=>
     rw[aD]at r;cases r
     rw[fH,fH,ih aD]
 rw[Be p (nofun) (iC p r) (iC (ds:=[]) q rfl) s rfl];unfold q_;cases xs with
 | nil=>cases ds with
  | nil=>rfl
  | cons=>cases e
 | cons=>cases ds with
  | nil=>cases e
  | cons=>rfl
theorem acT{h:H}{n:Nat}(l:List Int):(l.map V.I).mapM (cF h n)=ae (l.map D5):=by
 induction l with
 | nil=>rfl
 | cons x l ih=>
  rw[fI,gg,ih];cases n<;>rfl
theorem aeQ(l:List Int):jG (.list (l.map D5))=true:=by
 have h1:p2 (l.map D5)=true:=by
  induction l with
  | nil=>rfl
  | cons x l ih=>
   rw[fI];unfold p2;rw[ih];rfl
 have aD:rr (l.map D5)=0:=by
  induction l with
  | nil=>rfl
  | cons x l ih=>
   rw[fI];unfold rr;rw[ih (by unfold p2 at h1;exact(SY.mp h1).2)];rfl
 unfold jG lN nV;rw[h1,aD];rfl
theorem aeO(s:List Nat):∃l:List Int,eC f g s=.L (l.map V.I)/\(l=[]↔∀i∈s,du f g aR i=aP):=by
 refine⟨((nM s.length).filter λa:Nat=>lE f g s (.I a)).map λa:Nat=>(a:Int),?_,?_⟩
 .unfold eC;rw[RN,pU];rfl
 .rw[Kc,J6]
  have e:∀a:Nat,lE f g s (.I a)=match s[a]? with | some i=>du f g aR i | none=>false:=by
   intro a;show(match s[(a:Int).toNat]? with | some i=>du f g aR i | none=>aP)=_;rw[o3]
  constructor
  .intro h i hi;obtain⟨a,ha,e2⟩:=List.mem_iff_getElem.mp hi;have aD:=h a (xr.mpr ha);rw[e,jn ha,e2]at aD;exact o4.mpr aD
  .intro h a ha;have ha2:=xr.mp ha;rw[e,jn ha2];show ¬(du f g aR s[a]=aB);rw[h _ (rq ha2)];decide
theorem Ju{s:List Nat}{a:Nat}(q:D[a]?=ae (eC f g s)){t:Bool}(aC:t=aB↔∀i∈s,du f g aR i=aP):cD .E (ai af (D++[.L []])) (.R (a+33)) (.R (D.length+33))=ae t:=by
 obtain⟨l,e,e2⟩:=aeO (f:=f) (g:=g) s;rw[e]at q;rw[eq_nil (bD (bl q)) (bD bS) (acT l) (aeQ l)];congr 1;rw[p5,aC,<-e2,Tr,Kc]
theorem ZJ{s:List Nat}{t:Nat}{l:List V}{r1:V}{aD:H}(lp:gZ D f g ln s)(qp:(ai af D)[af.cw]?=ae (.L (s.map (b_ ln))))(w:s.length<90000)(aC:D[t]?=ae (.T (.S dc::.S aR::l)))(tw:(.S dc::.S aR::l).length<aK)(hs:∀i∈s,du f g aR i=aP)
 (q:aA ao (k+1) 707 [.R 32,.S j6] (ai af (fW D f g s))=ae (r1,aD)):
 aA ao (k+2) 745 [.R 32,.R (t+33)] (ai af D)=ae (.N,aD):=by
 have ht':(fW D f g s)[t]?=ae (.T (.S dc::.S aR::l)):=bl (bl aC)
 have ly:(fW D f g s)[D.length+1]?=ae (eC f g s):=by
  rw[<- fw (D:=D) (o:=gC)];exact bS
 have c1:=Ju (af:=af) ly (t:=aB) (by simpa using hs)
 apply cV ab ab
 apply Br lp qp w
 exact aq (aM (aI (aH (ah ab) aj (a8 ht' (bc tw ab))) aj iP) (a_ (aq (aM (aI (aH (ah ab) aj (a8 ht' (bc tw ab))) aj (bL (of_decide_eq_true (id (dy aB))))) (a_ (aq (aM (dG (aI (ah ab) (eW aO (aN ab)) c1) el ab) (cN (aq (bu (cu aj (ar (ah ab) (ar aj aO)) q)) aF))) aF))) aF))) aF
noncomputable def h2(f g:Nat->aw)(i:Nat):Bool:=decide (f i=cY)||!decide (g i∈oA)
noncomputable def zU(D:List O):V->Bool
 | .R n=>match D[n-33]? with
  | some (.L (.S a::.S b::_))=>decide (a=cY)||!decide (b∈oA)
  | _=>aP
 | _=>aP
theorem Ze{s:List Nat}(lp:gZ D f g ln s):(s.map (b_ ln)).filter (zU D)=(s.filter (h2 f g)).map (b_ ln):=by
 rw[TA];congr 1;apply List.filter_congr;intro i hi;obtain⟨_,_,x,y,z,q⟩:=lp i hi;show(match D[ln i+33-33]? with | some (.L (.S a::.S b::_))=>decide (a=cY)||!decide (b∈oA) | _=>aP)=_;rw[mD,q];rfl
theorem Wu{R:List Nat}{fr:bJ}{n:Nat}{ip:Nat}(h4:fr[4]?=ae (ae (.R n)))(aD:fr[2]?=ae (ae (.R ip)))(h5:5<fr.length)(qn:(ai af D)[n]?=ae (.L (R.map (b_ ln))))(qi:(ai af D)[ip]?=ae gC)(lp:gZ D f g ln R)(w:R.length<90000):
 aS ao (aA ao k) (.J 5 (.L 5) (.L 4) (.O (.A .E (.I (.L 5) (.C (.I 0))) (.C (.S cY))) (.A .A (.I (.L 5) (.C (.I 1))) (.L 2)))) fr (ai af D)=ae (.R (D.length+33),ai af (D++[.L ((R.filter (h2 f g)).map (b_ ln))])):=by
 rw[<- Ze lp,<-Kt ((R.map (b_ ln)).filter (zU D))]
 have l5:∀x:V,(fr.set 5 (ae x))[5]?=ae (ae x):=λx=>pY h5
 have l2:∀x:V,(fr.set 5 (ae x))[2]?=ae (ae (.R ip)):=λx=>by rw[rk (by decide)];exact aD
 refine Ba (h1:=ai af D) (zU D) id (ah h4) qn ?_ ?_ ?_
 .intro x hx;obtain⟨i,hi,rfl⟩:=ig.mp hx;obtain⟨aE,cP,x1,y1,z1,q⟩:=lp i hi
  have e:zU D (b_ ln i)=(decide (f i=cY)||!decide (g i∈oA)):=by
   show(match D[ln i+33-33]? with | some (.L (.S a::.S b::_))=>decide (a=cY)||!decide (b∈oA) | _=>aP)=_;rw[mD,q]
  have lw:[V.S (f i),.S (g i),x1,y1,z1].length<aK:=aN (n:=5) (m:=aK) ab
  have a1:aS ao (aA ao k) (.I (.L 5) (.C (.I 0))) (fr.set 5 (ae (b_ ln i))) (ai af D)=ae (.S (f i),ai af D):=by
   apply aH
   .exact ah (l5 _)
   .exact aj
   .exact Bn (i:=0) (bD q) lw ab
  have a2:aS ao (aA ao k) (.I (.L 5) (.C (.I 1))) (fr.set 5 (ae (b_ ln i))) (ai af D)=ae (.S (g i),ai af D):=by
   apply aH
   .exact ah (l5 _)
   .exact aj
   .exact Bn (i:=1) (bD q) lw ab
  have a3:cD .E (ai af D) (.S (f i)) (.S cY)=ae (decide (f i=cY)):=rfl;have a4:cD .I (ai af D) (.S (g i)) (.R ip)=ae (decide (g i∈oA)):=FA qi rfl rfl;refine⟨.B (zU D (b_ ln i)),?_,rfl⟩;rw[e];cases e1:decide (f i=cY)with
  | true=>
   rw[e1]at a3;exact N2 (aI a1 aj a3) tt
  | false=>
   rw[e1]at a3;rw[TO];exact N0 (aI a1 aj a3) fq (aI a2 (ah (l2 _)) (EO a4))
 .intro x hx _;exact ah (l5 _)
 .rw[cB];exact fg w (aN rfl)
noncomputable def lR(h:H)(v:V):Prop:=∃d,cF h 59 v=ae d/\d.canLay0=aB/\d.depth<=60
theorem acS{h:H}:{l:List V}->(∀x∈l,lR h x)->∃ds,l.mapM (cF h 59)=ae ds/\jG (.list ds)=aB
 | l,hl=>by
  have:∃ds,l.mapM (cF h 59)=ae ds/\p2 ds=aB/\rr ds<=60:=by
   induction l with
   | nil=>exact⟨[],ab,ab,gJ _⟩
   | cons x l ih=>
    obtain⟨d,q,c,w⟩:=hl x (fa ..);obtain⟨ds,cT,bf,w2⟩:=ih λy hy=>hl y (eV _ hy);refine⟨d::ds,?_,?_,?_⟩
    .rw[gg,q,cT];rfl
    .unfold p2;rw[c,bf];rfl
    .unfold rr;exact T9.mpr ⟨w,w2⟩
  obtain⟨ds,q,c,w⟩:=this;refine⟨ds,q,?_⟩;unfold jG lN nV;rw[c,TP,decide_eq_true_iff];lia
theorem rY{bg dR:Type}{p q:bg->Option dR}:(l:List bg)->{r:List dR}->(∀x∈l,∀d,p x=ae d->q x=ae d)->l.mapM p=ae r->l.mapM q=ae r
 | [],_,_,w=>w
 | x::l,r,h,w=>by
  rw[gg]at w⊢;cases h1:p x with
  | none=>rw[h1]at w;cases w
  | some d=>
   cases aD:l.mapM p with
   | none=>rw[h1,aD]at w;cases w
   | some es=>
    rw[h1,aD]at w;rw[h x (fa ..) d h1,rY l (λy hy=>h y (eV _ hy)) aD];exact w
theorem Rn{f g:V->Option PyData}{o:O}(h:∀x d,f x=ae d->g x=ae d){d:PyData}(w:o.cF f=ae d):o.cF g=ae d:=by
 cases o with
 | L xs=>
  obtain⟨es,h1,rfl⟩:=J5.mp (show(xs.mapM f).map _=_ from w);exact(show(xs.mapM g).map _=_ by rw[rY xs (λx _=>h x) h1];rfl)
 | T xs=>
  obtain⟨es,h1,rfl⟩:=J5.mp (show(xs.mapM f).map _=_ from w);exact(show(xs.mapM g).map _=_ by rw[rY xs (λx _=>h x) h1];rfl)
 | _=>cases w
theorem nr{h X:H}:(n:Nat)->(v:V)->{d:PyData}->cF h n v=ae d->cF (h++X) n v=ae d
 | 0,v,d,w=>by cases v<;>first | exact w | cases w
 | n+1,v,d,w=>by
  cases v with
  | R a=>
   obtain⟨o,q,w⟩:=SN.mp (qS.symm.trans w);exact qS.trans (dF (bl q) (Rn (λx _=>nr n x) w))
  | _=>exact w
theorem lR.app{h X:H}{v:V}(q:lR h v):lR (h++X) v:=by
 obtain⟨d,a,b,c⟩:=q;exact⟨d,nr _ _ a,b,c⟩
noncomputable def jZ(D:List O)(f g:Nat->aw)(ln:Nat->Nat)(s:List Nat)(t:Nat)(R:List Nat):List O:=fW D f g (s++t::R)++[.L (R.map (b_ ln))]
theorem Oo{s R:List Nat}{tk t:Nat}{l:List V}{r2:V}{h1 aD:H}(lp:gZ D f g ln (s++t::R))(qp:(ai af D)[af.cw]?=ae (.L ((s++t::R).map (b_ ln))))(w:(s++t::R).length<90000)(aC:D[tk]?=ae (.T (.S dc::.S aR::l)))(tw:(.S dc::.S aR::l).length<aK)
 (hT:du f g aR t=aB) (hR:∀i∈R,du f g aR i=aP) (hrd:∀i∈R,lR (ai af D) (b_ ln i))
 (d4:(R.any (h2 f g)=aB/\∃r,aA ao (k+1) 707 [.R 32,.S iE] (ai af (jZ D f g ln s t R))=ae (r,h1))\/(R.any (h2 f g)=aP/\h1=ai af (jZ D f g ln s t R))) (cT:aA ao (k+1) 740 [.R 32] h1=ae (r2,aD)):
 aA ao (k+2) 745 [.R 32,.R (tk+33)] (ai af D)=ae (.N,aD):=by
 have ht':(fW D f g (s++t::R))[tk]?=ae (.T (.S dc::.S aR::l)):=bl (bl aC)
 have ly:(fW D f g (s++t::R))[D.length+1]?=ae (eC f g (s++t::R)):=by
  rw[<- fw (D:=D) (o:=gC)];exact bS
 have qi:(fW D f g (s++t::R))[D.length]?=ae gC:=bl bS
 have c1:=Ju (af:=af) ly (t:=aP) ⟨λh=>absurd h (by decide),λh=>by
  have:=h t (gr _ (fa ..));rw[hT]at this;cases this⟩
 have w2:((s++t::R).map (b_ ln)).length<aK:=by
  rw[cB];exact fg w (aN rfl)
 have wR:R.length<90000:=by
  rw[ba,fH]at w;lia
 have w1:(((fZ (s++t::R).length).filter (lE f g (s++t::R))).map id).length<aK:=by
  rw[cB];refine fO (SX ..) ?_;unfold fZ;rw[cB,As,o3];exact fg w (aN rfl)
 have bf:gc (((fZ (s++t::R).length).filter (lE f g (s++t::R))).map id) (-1)=ae (.I s.length):=iu w1 (RO hT hR)
 have c3:k8 ((s++t::R).map (b_ ln)) (.I ((s.length:Int)+1)) .N=ae (R.map (b_ ln)):=by
  rw[show(s.length:Int)+1=((s.length+1:Nat):Int)from rfl,E0 w2 (by rw[cB,ba,fH];lia)];rw[<- List.map_drop];congr 2;rw[List.drop_append,rg,SS (fA _)];rfl
 have qp':(ai af (fW D f g (s++t::R)))[af.cw]?=ae (.L ((s++t::R).map (b_ ln))):=bl (h:=ai af (D++[gC])) (bl (h:=ai af D) qp)
 have lpR:gZ (jZ D f g ln s t R) f g ln R:=by
  intro i hi;obtain⟨aE,cP,x,y,z,q⟩:=lp i (gr _ (eV _ hi));exact⟨aE,cP,x,y,z,bl (bl (bl q))⟩
 have c4:=Wu (af:=af) (D:=jZ D f g ln s t R) (k:=k+1) (R:=R) (fr:=[ae (.R 32),ae (.R (tk+33)),ae (.R (D.length+33)),ae (.R (D.length+1+33)),ae (.R ((fW D f g (s++t::R)).length+33)),az]) (n:=(fW D f g (s++t::R)).length+33) (ip:=D.length+33) ab ab (aN ab) (bD bS) (bD (bl qi)) lpR wR
 have hrd2:∀x∈(R.filter (h2 f g)).map (b_ ln),lR (ai af (jZ D f g ln s t R++[.L ((R.filter (h2 f g)).map (b_ ln))]++[.L []])) x:=by
  intro x hx;obtain⟨i,hi,rfl⟩:=ig.mp hx;exact lR.app (h:=ai af (jZ D f g ln s t R++[.L ((R.filter (h2 f g)).map (b_ ln))])) (lR.app (h:=ai af (jZ D f g ln s t R)) (lR.app (h:=ai af (fW D f g (s++t::R))) (lR.app (h:=ai af (D++[gC])) (lR.app (h:=ai af D) (hrd i (List.mem_filter.mp hi).1)))))
 obtain⟨ds,rds,sds⟩:=acS hrd2
 have c5:cD .N (ai af (jZ D f g ln s t R++[.L ((R.filter (h2 f g)).map (b_ ln))]++[.L []])) (.R ((jZ D f g ln s t R).length+33)) (.R ((jZ D f g ln s t R++[O.L ((R.filter (h2 f g)).map (b_ ln))]).length+33))=ae (R.any (h2 f g)):=by
  rw[yu (eq_nil (bD (bl bS)) (bD bS) rds sds)];congr 1;rw[p5,DW,nR,o4,Ne,Tr,Kc,J6];constructor
  .intro h;apply o1;intro h3;exact h λa ha h4=>h3 ⟨a,ha,h4⟩
  .rintro⟨x,hx,h3⟩ h;exact h x hx h3
 have s5:cH ao (aA ao (k+1)) (bj (m5 (bj (m5 (bj (m5 (bj n9 2)) 0)) 0)) 1) [ae (.R 32),ae (.R (tk+33)),ae (.R (D.length+33)),ae (.R (D.length+1+33)),ae (.R ((fW D f g (s++t::R)).length+33)),az] (ai af (jZ D f g ln s t R))=ae (.N,[ae (.R 32),ae (.R (tk+33)),ae (.R (D.length+33)),ae (.R (D.length+1+33)),ae (.R ((fW D f g (s++t::R)).length+33)),az],h1):=by
  have t1:aS ao (aA ao (k+1)) (.P (.A .N (.J 5 (.L 5) (.L 4) (.O (.A .E (.I (.L 5) (.C (.I 0))) (.C (.S cY))) (.A .A (.I (.L 5) (.C (.I 1))) (.L 2)))) (.E .N))) [ae (.R 32),ae (.R (tk+33)),ae (.R (D.length+33)),ae (.R (D.length+1+33)),ae (.R ((fW D f g (s++t::R)).length+33)),az] (ai af (jZ D f g ln s t R))=ae (.B (R.any (h2 f g)),ai af (jZ D f g ln s t R)):=by
   apply dG
   .apply aI
    .exact c4
    .exact eW aO (aN ab)
    .exact c5
   .exact lG (h:=ai af (jZ D f g ln s t R))
   .rfl
  apply aM t1;rcases d4 with⟨e,r,d4⟩ | ⟨e,rfl⟩
  .rw[e];refine bB ⟨tt,?_⟩;exact aq (bu (cu aj (ar (ah rfl) (ar aj aO)) d4)) aF
  .rw[e];exact bE ⟨fq,aF⟩
 have iY:b3 ao (aA ao (k+1)) (m5 (bj (m5 (bj (m5 (bj n9 2)) 0)) 0)) [ae (.R 32),ae (.R (tk+33)),ae (.R (D.length+33)),ae (.R (D.length+1+33)),az,az] (ai af (fW D f g (s++t::R)))=ae (.N,[ae (.R 32),ae (.R (tk+33)),ae (.R (D.length+33)),ae (.R (D.length+1+33)),ae (.R ((fW D f g (s++t::R)).length+33)),az],aD):=by
  apply aq
  .unfold eC at ly;exact bM (kd (aH (ah ab) aj (dJ ab ab)) (fv (aH (ah ab) aj (bX ly bf)) aj ab) aj (lF qp' c3))
  apply aq s5;exact aq (bu (cu aj (ar (ah ab) aO) cT)) aF
 apply cV ab ab
 apply Br lp qp w
 apply aq
 .apply aM
  .exact aI (aH (ah ab) aj (a8 ht' (bc tw ab))) aj iP
  .refine bE ⟨fq,?_⟩;apply aq
   .apply aM
    .exact aI (aH (ah ab) aj (a8 ht' (bc tw ab))) aj (bL (of_decide_eq_true (id (dy aB))))
    .refine bE ⟨fq,?_⟩;apply aq
     .apply aM
      .exact dG (aI (ah ab) (eW aO (aN ab)) c1) el ab
      .exact bE ⟨fq,iY⟩
     .exact aF
   .exact aF
 .exact aF
end
end
section
section
variable{af:br}{D:List O}{k m t:Nat}{f g:Nat->aw}{ln:Nat->Nat}{r:V}{aD:H}{l:List V}
theorem K7{c:V}(aC:D[t]?=ae (.T [.S d6,c]))(q:aA ao k 721 [.R 32,c] (ai af D)=ae (r,aD)):aA ao (k+1) 752 [.R 32,.R (t+33)] (ai af D)=ae (.N,aD):=by
 have tw:[V.S d6,c].length<aK:=aN (n:=2) (m:=aK) ab;exact cV ab ab (aq (aM (aI (aH (ah ab) aj (a8 aC ab)) aj dk) (cN (aq (bu (cu aj (ar (ah ab) (ar (aH (ah ab) aj (a8 aC ab)) aO)) q)) aF))) aF)
theorem K8(b:aQ m af){aT:aw}(aC:D[t]?=ae (.T (.S aT::l)))(tw:(V.S aT::l).length<aK)(w1:aT≠d6)(w:aT∈jf):aA ao (k+1) 752 [.R 32,.R (t+33)] (ai af D)=ae (.N,ai (oE af D) (D++[qM af t])):=by
 have c1:cD .I (ai af (D++[.T (jf.map .S)])) (.S aT) (.R (D.length+33))=ae true:=fE (bD bS) ab (decide_eq_true w);exact cV ab ab (aq (aM (aI (aH (ah ab) aj (a8 aC (bc tw ab))) aj (bL w1)) (a_ (aq (aM (dG (aI (aH (ah ab) aj (a8 aC (bc tw ab))) (dj (ar aj (ar aj aO)) (aN ab)) c1) el ab) (cN (aq (bu (dW (aH (ah ab) aj (dJ ab ab)) ab (dj (ar (aH (ah ab) aj (dJ ab ab)) (ar (ah ab) aO)) (aN ab)) ab (bb.g (aQ.cO b)))) aF))) aF))) aF)
theorem K9{aT:aw}(aC:D[t]?=ae (.T (.S aT::.S aR::l)))(tw:(V.S aT::.S aR::l).length<aK)(w1:aT≠d6)(w:aT∉jf)(q:aA ao k 745 [.R 32,.R (t+33)] (ai af D)=ae (r,aD)):aA ao (k+1) 752 [.R 32,.R (t+33)] (ai af D)=ae (.N,aD):=by
 have c1:cD .I (ai af (D++[.T (jf.map .S)])) (.S aT) (.R (D.length+33))=ae false:=fE (bD bS) ab (decide_eq_false w);exact cV ab ab (aq (aM (aI (aH (ah ab) aj (a8 aC (bc tw ab))) aj (bL w1)) (a_ (aq (aM (dG (aI (aH (ah ab) aj (a8 aC (bc tw ab))) (dj (ar aj (ar aj aO)) (aN ab)) c1) el ab) (a_ (aq (aM (aI (aH (ah ab) aj (a8 aC (bc tw ab))) aj dk) (cN (aq (bu (cu aj (ar (ah ab) (ar (ah ab) aO)) q)) aF))) aF))) aF))) aF)
theorem Z9{i:Nat}{nm:aw}(aE:cM (f i))(cP:cM (g i))(me:cM nm):cD .E (ai af (D++[O.L [.S (f i),.S (g i)]]++[O.L [.S aJ,.S nm]])) (.R (D.length+33)) (.R ((D++[O.L [.S (f i),.S (g i)]]).length+33))=ae (du f g nm i):=by
 refine(x9 (l:=[f i,g i]) (r:=[aJ,nm]) (bD (bl bS)) (bD bS) (by intro x hx;rcases d_.mp hx with rfl | hx;exact aE;rw[dx.mp hx];exact cP) (by intro x hx;rcases d_.mp hx with rfl | hx;exact g8;rw[dx.mp hx];exact me)).trans ?_;congr 1;show _=(decide (f i=aJ)&&decide (g i=nm));rw[p5,kS,decide_eq_true_iff,decide_eq_true_iff,decide_eq_true_iff,uj,uj];exact⟨λh=>⟨h.1,h.2.1⟩,λh=>⟨h.1,h.2,rfl⟩⟩
theorem UC{nm:aw}{i:Nat}{ps:List V}{x y z:V}(aC:D[t]?=ae (.T (.S dc::.S nm::l)))(tw:(V.S dc::.S nm::l).length<aK)(w:nm≠aR)(qp:(ai af D)[af.cw]?=ae (.L ps))(wp:ps.length<aK)(lp:ps.getLast?=ae (b_ ln i))(aE:cM (f i))(cP:cM (g i))(me:cM nm)(qn:D[ln i]?=ae (.L [.S (f i),.S (g i),x,y,z])):
 aA ao (k+1) 752 [.R 32,.R (t+33)] (ai af D)=ae (.N,if du f g nm i=aB then ai {af with cw:=D.length+33} (D++[.L ps.dropLast])else ai af D):=by
 have c1:cD .I (ai af (D++[.T (jf.map .S)])) (.S dc) (.R (D.length+33))=ae false:=fE (bD bS) ab ab
 have bf:=Z9 (af:=af) (D:=D) (nm:=nm) aE cP me
 have w0:0<ps.length:=by
  cases ps with
  | nil=>cases lp
  | cons=>exact xy _
 have c3:=E1 wp w0
 have lp':ps.getLast?=ae (.R (ln i+33)):=lp
 cases e:du f g nm i with
 | true=>
  rw[e]at bf
  rw[if_pos rfl]
  exact cV ab ab (aq (aM (aI (aH (ah ab) aj (a8 aC (bc tw ab))) aj (bL (of_decide_eq_true (id (dy aB))))) (a_ (aq (aM (dG (aI (aH (ah ab) aj (a8 aC (bc tw ab))) (dj (ar aj (ar aj aO)) (aN ab)) c1) el ab) (a_ (aq (aM (aI (aH (ah ab) aj (a8 aC (bc tw ab))) aj (bL w)) (a_ (aq (aM (aI (aH (ah ab) aj (a8 aC (bc tw ab))) aj dk) (cN (aq (aM (dG (aI (kd (aH (aH (ah ab) aj (dJ ab ab)) aj (bX qp (iu wp lp'))) aj aj (lF qn ab)) (eW (ar aj (ar (aH (ah ab) aj (a8 (bl aC) (bc tw ab))) aO)) (aN ab)) bf) lG ab) (cN (aq (iD (kd (aH (ah ab) aj (dJ ab ab)) aj aj (lF qp c3)) (ah ab) aj (lD ab (aN ab))) aF))) aF))) aF))) aF))) aF))) aF)
 | false=>
  rw[e]at bf
  rw[if_neg (by decide)]
  exact cV ab ab (aq (aM (aI (aH (ah ab) aj (a8 aC (bc tw ab))) aj (bL (of_decide_eq_true (id (dy aB))))) (a_ (aq (aM (dG (aI (aH (ah ab) aj (a8 aC (bc tw ab))) (dj (ar aj (ar aj aO)) (aN ab)) c1) el ab) (a_ (aq (aM (aI (aH (ah ab) aj (a8 aC (bc tw ab))) aj (bL w)) (a_ (aq (aM (aI (aH (ah ab) aj (a8 aC (bc tw ab))) aj dk) (cN (aq (aM (dG (aI (kd (aH (aH (ah ab) aj (dJ ab ab)) aj (bX qp (iu wp lp'))) aj aj (lF qn ab)) (eW (ar aj (ar (aH (ah ab) aj (a8 (bl aC) (bc tw ab))) aO)) (aN ab)) bf) lG ab) (a_ aF)) aF))) aF))) aF))) aF))) aF)
theorem UE{a x:V}(aC:D[t]?=ae (.T [.S bO,.S cY,a,x]))(q:aA ao k 728 [.R 32,.S cY,.S aR,a] (ai af D)=ae (r,aD)):aA ao (k+1) 752 [.R 32,.R (t+33)] (ai af D)=ae (.N,aD):=by
 have tw:[V.S bO,.S cY,a,x].length<aK:=aN (n:=4) (m:=aK) ab;have c1:cD .I (ai af (D++[.T (jf.map .S)])) (.S bO) (.R (D.length+33))=ae false:=fE (bD bS) ab ab;exact cV ab ab (aq (aM (aI (aH (ah ab) aj (a8 aC ab)) aj (bL (of_decide_eq_true (id (dy aB))))) (a_ (aq (aM (dG (aI (aH (ah ab) aj (a8 aC ab)) (dj (ar aj (ar aj aO)) (aN ab)) c1) el ab) (a_ (aq (aM (aI (aH (ah ab) aj (a8 aC ab)) aj (bL (of_decide_eq_true (id (dy aB))))) (a_ (aq (aM (aI (aH (ah ab) aj (a8 aC ab)) aj (bL (of_decide_eq_true (id (dy aB))))) (a_ (aq (aM (aI (aH (ah ab) aj (a8 aC ab)) aj dk) (cN (aq (bu (cu aj (ar (ah ab) (ar aj (ar aj (ar (aH (ah ab) aj (a8 aC ab)) aO)))) q)) aF))) aF))) aF))) aF))) aF))) aF)
theorem UD{a x r1:V}{nm:aw}{aG:br}{D':List O}(aC:D[t]?=ae (.T [.S bO,.S nm,a,x]))(ht':D'[t]?=ae (.T [.S bO,.S nm,a,x]))(w1:nm≠aR)(w2:nm≠cY)(w3:nm≠dK)(q:aA ao k 728 [.R 32,.S aJ,.S nm,a] (ai af D)=ae (r1,ai aG D')):aA ao (k+1) 752 [.R 32,.R (t+33)] (ai af D)=ae (.N,ai aG D'):=by
 have tw:[V.S bO,.S nm,a,x].length<aK:=aN (n:=4) (m:=aK) ab;have c1:cD .I (ai af (D++[.T (jf.map .S)])) (.S bO) (.R (D.length+33))=ae false:=fE (bD bS) ab ab;exact cV ab ab (aq (aM (aI (aH (ah ab) aj (a8 aC ab)) aj (bL (of_decide_eq_true (id (dy aB))))) (a_ (aq (aM (dG (aI (aH (ah ab) aj (a8 aC ab)) (dj (ar aj (ar aj aO)) (aN ab)) c1) el ab) (a_ (aq (aM (aI (aH (ah ab) aj (a8 aC ab)) aj (bL w1)) (a_ (aq (aM (aI (aH (ah ab) aj (a8 aC ab)) aj (bL (of_decide_eq_true (id (dy aB))))) (a_ (aq (aM (aI (aH (ah ab) aj (a8 aC ab)) aj (bL w2)) (a_ (aq (bu (cu aj (ar (ah ab) (ar aj (ar (aH (ah ab) aj (a8 aC ab)) (ar (aH (ah ab) aj (a8 aC ab)) aO)))) q)) (aq (aM (aI (aH (ah ab) aj (a8 ht' ab)) aj (bL w3)) (a_ aF)) aF)))) aF))) aF))) aF))) aF))) aF)
theorem UB{x r1:V}{a d dA:Nat}{aL:aw}{xs:List V}{aG:br}{D':List O}(b:aQ m aG)(aC:D[t]?=ae (.T [.S bO,.S dK,.R (a+33),x]))(ht':D'[t]?=ae (.T [.S bO,.S dK,.R (a+33),x]))(ha:D'[a]?=ae (.T [.R (d+33)]))(hd:D'[d]?=ae (.T [.S iM,.S aL]))(q:aA ao k 728 [.R 32,.S aJ,.S dK,.R (a+33)] (ai af D)=ae (r1,ai aG D'))
 (lg:aG.da.getLast?=ae (.R dA)) (qg:(ai aG D')[dA]?=ae (.L xs)) (wg:xs.length<aK):aA ao (k+1) 752 [.R 32,.R (t+33)] (ai af D)=ae (.N,(ai aG D').set dA (.L (xs++[.S aL]))):=by
 have tw:[V.S bO,.S dK,.R (a+33),x].length<aK:=aN (n:=4) (m:=aK) ab
 have c1:cD .I (ai af (D++[.T (jf.map .S)])) (.S bO) (.R (D.length+33))=ae false:=fE (bD bS) ab ab
 exact cV ab ab (aq (aM (aI (aH (ah ab) aj (a8 aC ab)) aj (bL (of_decide_eq_true (id (dy aB))))) (a_ (aq (aM (dG (aI (aH (ah ab) aj (a8 aC ab)) (dj (ar aj (ar aj aO)) (aN ab)) c1) el ab) (a_ (aq (aM (aI (aH (ah ab) aj (a8 aC ab)) aj (bL (of_decide_eq_true (id (dy aB))))) (a_ (aq (aM (aI (aH (ah ab) aj (a8 aC ab)) aj (bL (of_decide_eq_true (id (dy aB))))) (a_ (aq (aM (aI (aH (ah ab) aj (a8 aC ab)) aj (bL (of_decide_eq_true (id (dy aB))))) (a_ (aq (bu (cu aj (ar (ah ab) (ar aj (ar (aH (ah ab) aj (a8 aC ab)) (ar (aH (ah ab) aj (a8 aC ab)) aO)))) q)) (aq (aM (aI (aH (ah ab) aj (a8 ht' ab)) aj dk) (cN (aq (bu (dW (aH (aH (ah ab) aj (dJ ab ab)) aj (bX ab (iu (bb.g (aQ.da b)) lg))) qg (aH (aH (aH (ah ab) aj (a8 ht' ab)) aj (a8 ha ab)) aj (a8 hd ab)) qg wg)) aF))) aF)))) aF))) aF))) aF))) aF))) aF)
theorem Y6{c:V}(aC:D[t]?=ae (.T [.S d6,c]))(q:aA ao k 721 [.R 32,c] (ai af D)=ae (r,aD)):aA ao (k+1) 759 [.R 32,.R (t+33)] (ai af D)=ae (.N,aD):=by
 have tw:[V.S d6,c].length<aK:=aN (n:=2) (m:=aK) ab;exact cV ab ab (aq (aM (aI (aH (ah ab) aj (a8 aC ab)) aj dk) (cN (aq (bu (cu aj (ar (ah ab) (ar (aH (ah ab) aj (a8 aC ab)) aO)) q)) aF))) aF)
theorem Y9{nm a x:V}(aC:D[t]?=ae (.T [.S bO,nm,a,x]))(q:aA ao k 728 [.R 32,.S cY,nm,a] (ai af D)=ae (r,aD)):aA ao (k+1) 759 [.R 32,.R (t+33)] (ai af D)=ae (.N,aD):=by
 have tw:[V.S bO,nm,a,x].length<aK:=aN (n:=4) (m:=aK) ab;exact cV ab ab (aq (aM (aI (aH (ah ab) aj (a8 aC ab)) aj (bL (of_decide_eq_true (id (dy aB))))) (a_ (aq (aM (aI (aH (ah ab) aj (a8 aC ab)) aj dk) (cN (aq (bu (cu aj (ar (ah ab) (ar aj (ar (aH (ah ab) aj (a8 aC ab)) (ar (aH (ah ab) aj (a8 aC ab)) aO)))) q)) aF))) aF))) aF)
theorem Y8(b:aQ m af){aT:aw}(aC:D[t]?=ae (.T (.S aT::l)))(tw:(V.S aT::l).length<aK)(w1:aT≠d6)(w2:aT≠bO)(w3:aT≠dc):aA ao (k+1) 759 [.R 32,.R (t+33)] (ai af D)=ae (.N,ai (oE af D) (D++[qM af t])):=cV ab ab (aq (aM (aI (aH (ah ab) aj (a8 aC (bc tw ab))) aj (bL w1)) (a_ (aq (aM (aI (aH (ah ab) aj (a8 aC (bc tw ab))) aj (bL w2)) (a_ (aq (aM (aI (aH (ah ab) aj (a8 aC (bc tw ab))) aj (oi w3)) (cN (aq (bu (dW (aH (ah ab) aj (dJ ab ab)) ab (dj (ar (aH (ah ab) aj (dJ ab ab)) (ar (ah ab) aO)) (aN ab)) ab (bb.g (aQ.cO b)))) aF))) aF))) aF))) aF)
theorem Y_(aC:D[t]?=ae (.T (.S dc::.S aR::l)))(tw:(V.S dc::.S aR::l).length<aK)(q:aA ao k 745 [.R 32,.R (t+33)] (ai af D)=ae (r,aD)):aA ao (k+1) 759 [.R 32,.R (t+33)] (ai af D)=ae (.N,aD):=cV ab ab (aq (aM (aI (aH (ah ab) aj (a8 aC (bc tw ab))) aj (bL (of_decide_eq_true (id (dy aB))))) (a_ (aq (aM (aI (aH (ah ab) aj (a8 aC (bc tw ab))) aj (bL (of_decide_eq_true (id (dy aB))))) (a_ (aq (aM (aI (aH (ah ab) aj (a8 aC (bc tw ab))) aj iP) (a_ (aq (aM (aI (aH (ah ab) aj (a8 aC (bc tw ab))) aj dk) (cN (aq (bu (cu aj (ar (ah ab) (ar (ah ab) aO)) q)) aF))) aF))) aF))) aF))) aF)
theorem Y7{nm:aw}{ps:List V}(aC:D[t]?=ae (.T (.S dc::.S nm::l)))(tw:(V.S dc::.S nm::l).length<aK)(w:nm≠aR)(qp:(ai af D)[af.cw]?=ae (.L ps))(wp:ps.length<aK)(w0:0<ps.length):aA ao (k+1) 759 [.R 32,.R (t+33)] (ai af D)=ae (.N,ai {af with cw:=D.length+33} (D++[.L ps.dropLast])):=by
 have c3:=E1 wp w0;exact cV ab ab (aq (aM (aI (aH (ah ab) aj (a8 aC (bc tw ab))) aj (bL (of_decide_eq_true (id (dy aB))))) (a_ (aq (aM (aI (aH (ah ab) aj (a8 aC (bc tw ab))) aj (bL (of_decide_eq_true (id (dy aB))))) (a_ (aq (aM (aI (aH (ah ab) aj (a8 aC (bc tw ab))) aj iP) (a_ (aq (aM (aI (aH (ah ab) aj (a8 aC (bc tw ab))) aj (bL w)) (a_ (aq (iD (kd (aH (ah ab) aj (dJ ab ab)) aj aj (lF qp c3)) (ah ab) aj (lD ab (aN ab))) aF))) aF))) aF))) aF))) aF)
end
end
section
section
variable{af:br}{D:List O}{k m t:Nat}{f g:Nat->aw}{ln:Nat->Nat}{r:V}{aD:H}{l:List V}
noncomputable def ye:aw:=Up
noncomputable def qI:List aw:=[iN,AI,AH,AL,xC,AK,AJ,aR,AG,AF]
theorem ZN:nH ye=qI:=by decide +kernel
theorem ZO:ye.length<1000/\(nO ⟨ye.toArray⟩ (ye.length+1)).length<1000:=by decide +kernel
noncomputable def iR:O:=.L (qI.map .S)
noncomputable def ua:List (aw×V):=[(rx,.S oh),(jN,.S i8),(jO,.S lW),(fj,.S lW)]
noncomputable def jm:List aw:=[ky,i7,j9,j8,gK]
noncomputable def pS:List (aw×V):=ua++jm.map λe=>(e,V.S lX)
noncomputable def JO:O:=.S pS
noncomputable def nK(n:Nat):List (aw×V):=ua++(jm.take n).map λe=>(e,V.S lX)
noncomputable def fz(D:List O):List O:=D++[iR]++[JO]++[.T (jm.map .S)]
theorem lookup_none{s:aw}:(l:List (aw×V))->(∀e∈l,s≠e.1)->l.lookup s=az
 | [],_=>rfl
 | e::l,h=>by
  rw[gu,show(s==e.1)=aP from beq_eq_false_iff_ne.mpr (h e (fa ..))];exact lookup_none l λx hx=>h x (eV _ hx)
theorem afO(nm:aw):(pS.lookup nm).getD (.S ec)=.S (dw nm):=by
 by_cases h:nm∈pS.map (·.1)
 .have:nm=rx\/nm=jN\/nm=jO\/nm=fj\/nm=ky\/nm=i7\/nm=j9\/nm=j8\/nm=gK:=by simpa[pS,ua,jm]using h
  rcases this with rfl | rfl | rfl | rfl | rfl | rfl | rfl | rfl | rfl<;>rfl
 .rw[lookup_none pS λe he q=>h (ig.mpr ⟨e,he,q.symm⟩)];show V.S ec=V.S (dw nm);have n:∀x:aw,x∈pS.map (·.1)->nm≠x:=λx hx q=>h (q▸hx);unfold dw;rw[if_neg,if_neg (n _ (by decide)),if_neg (n _ (by decide)),if_neg]
  .intro q;exact h (by revert q;unfold xV;intro q;simp[pS,ua,jm]at q⊢;rcases q with q | q<;>simp[q])
  .intro q;exact h (by revert q;unfold Ac;intro q;simp[pS,ua,jm]at q⊢;rcases q with q | q | q | q | q<;>simp[q])
noncomputable def jJ(D:List O)(t:Nat):bJ:=[ae (.R 32),ae (.R (t+33)),ae (.R (D.length+33)),ae (.R (D.length+1+33)),ae (.S gK)]
theorem afw{x y z:Option V}{F:dm}{fr':bJ}{h':H}(q:b3 ao (aA ao k) (fe (fe (fe n_))) (jJ D t) (ai af (fz D))=ae (F,fr',h')):b3 ao (aA ao k) n_ [ae (.R 32),ae (.R (t+33)),x,y,z] (ai af D)=ae (F,fr',h'):=by
 have s0:cH ao (aA ao k) (bj n_ 0) [ae (.R 32),ae (.R (t+33)),x,y,z] (ai af D)=ae (.N,[ae (.R 32),ae (.R (t+33)),ae (.R (D.length+33)),y,z],ai af (D++[iR])):=by
  apply bM;exact uC (t:=ye) aj ZO ZN
 have s1:cH ao (aA ao k) (bj n_ 1) [ae (.R 32),ae (.R (t+33)),ae (.R (D.length+33)),y,z] (ai af (D++[iR]))=ae (.N,[ae (.R 32),ae (.R (t+33)),ae (.R (D.length+33)),ae (.R (D.length+1+33)),z],ai af (D++[iR]++[.S ua])):=by
  apply ix
  .exact bM (Bb (ar aj (ar aj (ar aj (ar aj aO)))) ab)
  .rw[RP,fw];exact rfl
  .exact ab
 have st:∀(nm:aw)(es:List (aw×V))(w:es.length<aK)(z:Option V) ,b3 ao (aA ao k) (dr (bj n_ 2)) [ae (.R 32),ae (.R (t+33)),ae (.R (D.length+33)),ae (.R (D.length+1+33)),ae (.S nm)] (ai af (D++[iR]++[.S es]++[.T (jm.map .S)]))=ae (.N,[ae (.R 32),ae (.R (t+33)),ae (.R (D.length+33)),ae (.R (D.length+1+33)),ae (.S nm)],ai af (D++[iR]++[.S (gm nm (.S lX) es)]++[.T (jm.map .S)])):=by
  intro nm es w z
  have q:(D++[iR]++[O.S es]++[O.T (jm.map .S)])[D.length+1]?=ae (.S es):=by
   rw[<- fw (D:=D) (o:=iR)];exact bl bS
  have e:(ai af (D++[iR]++[O.S es]++[O.T (jm.map .S)])).set (D.length+1+33) (.S (gm nm (.S lX) es))=ai af (D++[iR]++[.S (gm nm (.S lX) es)]++[.T (jm.map .S)]):=by
   show ai af ((D++[iR]++[O.S es]++[O.T (jm.map .S)]).set (D.length+1) _)=_;rw[pQ (by rw[<- fw (D:=D) (o:=iR)];exact bS),<-fw (D:=D) (o:=iR),Jt]
  rw[<- e];apply aq
  .apply iD
   .exact aj
   .exact ah ab
   .exact ah ab
   .exact lD (bD q) w
  .exact aF
 have ln:∀es:List (aw×V),(D++[iR]++[O.S es]).length=D.length+2:=λes=>by rw[fw,fw]
 have sm':∀es:List (aw×V),decide ((ai af (D++[iR]++[.S es]++[.T (jm.map .S)]))[D.length+2+33]?=ae (.T (jm.map .S)))=true:=λes=>by rw[<- ln es];exact decide_eq_true (bD bS)
 have r:∀n,n=D.length+2+33->gY ao (aA ao k) 4 (dr (bj n_ 2)) (λh=>decide (h[n]?=ae (.T (jm.map .S)))) (jm.map .S) [ae (.R 32),ae (.R (t+33)),ae (.R (D.length+33)),ae (.R (D.length+1+33)),z] (ai af (D++[iR]++[.S ua]++[.T (jm.map .S)]))=ae (.N,[ae (.R 32),ae (.R (t+33)),ae (.R (D.length+33)),ae (.R (D.length+1+33)),ae (.S gK)],ai af (fz D)):=by
  rintro n rfl;apply jz (sm' (nK 0)) (st ky (nK 0) (aN (n:=4) (m:=aK) rfl) z);apply jz (sm' (nK 1)) (st i7 (nK 1) (aN (n:=5) (m:=aK) rfl) z);apply jz (sm' (nK 2)) (st j9 (nK 2) (aN (n:=6) (m:=aK) rfl) z);apply jz (sm' (nK 3)) (st j8 (nK 3) (aN (n:=7) (m:=aK) rfl) z);apply jz (sm' (nK 4)) (st gK (nK 4) (aN (n:=8) (m:=aK) rfl) z);exact ou (sm' (nK 5))
 apply aq s0;apply aq s1;apply aq
 .apply adY
  .exact dj (ar aj (ar aj (ar aj (ar aj (ar aj aO))))) (aN ab)
  .exact bD bS
  .exact r _ (by rw[RP,ln])
 .exact q
end
end
section
section
variable{af:br}{D:List O}{k m t:Nat}{f g:Nat->aw}{ln:Nat->Nat}{r:V}{aD:H}{l:List V}
theorem Ad{F:dm}{fr':bJ}{h':H}{o:V}(q:b3 ao (aA ao k) (fe (fe (fe n_))) (jJ D t) (ai af (fz D))=ae (F,fr',h'))(e:C9 F h'=ae (o,h')):aA ao (k+1) 766 [.R 32,.R (t+33)] (ai af D)=ae (o,h'):=by
 have cT:=afw (x:=az) (y:=az) (z:=az) q;cases F with
 | N=>cases e;exact cV ab ab cT
 | B=>cases e
 | R v=>cases e;exact cJ ab ab cT
theorem t_{o:O}(aC:D[t]?=ae o):(fz D)[t]?=ae o:=bl (bl (bl aC))
theorem R8:(fz D)[D.length]?=ae iR:=bl (bl bS)
theorem afC:(fz D)[D.length+1]?=ae JO:=by
 refine bl ?_;rw[<- fw (D:=D) (o:=iR)];exact bS
theorem JI{aT s:aw}{fr:bJ}{E:List O}(f1:fr[1]?=ae (ae (.R (t+33))))(aC:E[t]?=ae (.T (.S aT::.S s::l)))(tw:(V.S aT::.S s::l).length<aK)(aE:cM aT)(cP:cM s):
 aS ao (aA ao k) (.P (.A .E (.S (.L 1) (.C .N) (.C (.I 2))) (.T (.C (.C (.S dc)) (.C (.C (.S aR)) .N))))) fr (ai af E)=ae (.B (decide ([aT,s]=[dc,aR])),ai af E):=by
 have ow:∀x∈[aT,s],cM x:=by intro x hx;rcases d_.mp hx with rfl | hx;exact aE;rw[dx.mp hx];exact cP
 have ow2:∀x∈[dc,aR],cM x:=by intro x hx;rcases d_.mp hx with rfl | hx;exact dD rfl;rw[dx.mp hx];exact pJ
 cases l with
 | nil=>
  have sl:Dz (ai af E) (t+33) [.S aT,.S s] (.I 2)=ae (.R (t+33),ai af E):=rfl
  apply dG
  .apply aI
   .apply kd
    .exact ah f1
    .exact aj
    .exact aj
    .exact RQ (bD aC) sl
   .exact dj (ar aj (ar aj aO)) tw
   .exact Bf (l:=[aT,s]) (r:=[dc,aR]) (bD (bl aC)) (bD bS) ow ow2
  .exact el (h:=ai af E)
  .rfl
 | cons x l=>
  have sl:Dz (ai af E) (t+33) (.S aT::.S s::x::l) (.I 2)=ae (.R (E.length+33),ai af (E++[.T [.S aT,.S s]])):=by
   show(if (V.S aT::.S s::x::l).length<aK/\(0:Int)<=2 then(if (2:Int)<((V.S aT::.S s::x::l).length:Int)then ae (gF (ai af E) (.T ((V.S aT::.S s::x::l).take (2:Int).toNat)))else ae (.R (t+33),ai af E))else az)=_;rw[if_pos ⟨tw,by decide⟩,if_pos (by rw[fH,fH,fH];lia)];rfl
  apply dG
  .apply aI
   .apply kd
    .exact ah f1
    .exact aj
    .exact aj
    .exact RQ (bD aC) sl
   .exact dj (ar aj (ar aj aO)) (aN ab)
   .exact Bf (l:=[aT,s]) (r:=[dc,aR]) (bD (bl bS)) (bD bS) ow ow2
  .exact lG (h:=ai af E)
  .rfl
theorem afy{nm:aw}(aC:D[t]?=ae (.T (.S bO::.S nm::l)))(tw:(V.S bO::.S nm::l).length<aK)(w:nm∈qI)(q:aA ao k 745 [.R 32,.R (t+33)] (ai af (fz D))=ae (r,aD)):aA ao (k+1) 766 [.R 32,.R (t+33)] (ai af D)=ae (.N,aD):=by
 have ht':=t_ aC;have c1:cD .I (ai af (fz D)) (.S nm) (.R (D.length+33))=ae true:=FA (bD R8) ab (decide_eq_true w);refine Ad (F:=.N) (fr':=jJ D t) ?_ ab;unfold jJ;apply aq
 .apply aM
  .exact jy (dp (aI (aH (ah ab) aj (a8 ht' (bc tw ab))) aj dk) (fu (aI (aH (ah ab) aj (a8 ht' (bc tw ab))) (ah ab) c1))) Q4
  .refine bB ⟨tt,?_⟩;exact aq (bu (cu aj (ar (ah ab) (ar (ah ab) aO)) q)) aF
 .exact aF
theorem afz(aC:D[t]?=ae (.T (.S dc::.S aR::l)))(tw:(V.S dc::.S aR::l).length<aK)(q:aA ao k 745 [.R 32,.R (t+33)] (ai af (fz D))=ae (r,aD)):aA ao (k+1) 766 [.R 32,.R (t+33)] (ai af D)=ae (.N,aD):=by
 have ht':=t_ aC;have c1:=JI (af:=af) (k:=k) (fr:=jJ D t) ab ht' tw (dD ab) pJ;refine Ad (F:=.N) (fr':=jJ D t) ?_ ab;apply aq
 .apply aM
  .apply jy
   .show aS ao (aA ao k) (.G (.A .E (.I (.L 1) (.C (.I 0))) (.C (.S bO))) (.A .I (.I (.L 1) (.C (.I 1))) (.L 2))) [ae (.R 32),ae (.R (t+33)),ae (.R (D.length+33)),ae (.R (D.length+1+33)),ae (.S gK)] (ai af (fz D))=ae (.B aP,ai af (fz D));exact dp (aI (aH (ah ab) aj (a8 ht' (bc tw ab))) aj (bL (of_decide_eq_true (id (dy aB))))) fS
   .exact bE ⟨fq,c1⟩
  .refine bB ⟨tt,?_⟩;unfold jJ;exact aq (bu (cu aj (ar (ah ab) (ar (ah ab) aO)) q)) aF
 .exact aF
theorem afA{nm:aw}(aC:D[t]?=ae (.T (.S bO::.S nm::l)))(tw:(V.S bO::.S nm::l).length<aK)(w:nm∉qI)(cP:cM nm):aS ao (aA ao k) (.O (.G (.A .E (.I (.L 1) (.C (.I 0))) (.C (.S bO))) (.A .I (.I (.L 1) (.C (.I 1))) (.L 2))) (.P (.A .E (.S (.L 1) (.C .N) (.C (.I 2))) (.T (.C (.C (.S dc)) (.C (.C (.S aR)) .N)))))) (jJ D t) (ai af (fz D))=ae (.B aP,ai af (fz D)):=by
 have ht':=t_ aC;have c0:cD .I (ai af (fz D)) (.S nm) (.R (D.length+33))=ae false:=FA (bD R8) rfl (decide_eq_false w);have c1:=JI (af:=af) (k:=k) (fr:=jJ D t) rfl ht' tw (dD rfl) cP;rw[show decide ([bO,nm]=[dc,aR])=aP from decide_eq_false (by intro h;injection h with h _;revert h;decide)]at c1;apply jy
 .show aS ao (aA ao k) (.G (.A .E (.I (.L 1) (.C (.I 0))) (.C (.S bO))) (.A .I (.I (.L 1) (.C (.I 1))) (.L 2))) [ae (.R 32),ae (.R (t+33)),ae (.R (D.length+33)),ae (.R (D.length+1+33)),ae (.S gK)] (ai af (fz D))=ae (.B aP,ai af (fz D));exact dp (aI (aH (ah ab) aj (a8 ht' (bc tw ab))) aj dk) (fu (aI (aH (ah ab) aj (a8 ht' (bc tw ab))) (ah ab) c0))
 .exact bE ⟨fq,c1⟩
theorem R9{aT s:aw}(aC:D[t]?=ae (.T (.S aT::.S s::l)))(tw:(V.S aT::.S s::l).length<aK)(wk:aT≠bO)(w:aT≠dc\/s≠aR)(aE:cM aT)(cP:cM s):aS ao (aA ao k) (.O (.G (.A .E (.I (.L 1) (.C (.I 0))) (.C (.S bO))) (.A .I (.I (.L 1) (.C (.I 1))) (.L 2))) (.P (.A .E (.S (.L 1) (.C .N) (.C (.I 2))) (.T (.C (.C (.S dc)) (.C (.C (.S aR)) .N)))))) (jJ D t) (ai af (fz D))=ae (.B aP,ai af (fz D)):=by
 have ht':=t_ aC;have c1:=JI (af:=af) (k:=k) (fr:=jJ D t) rfl ht' tw aE cP;rw[show decide ([aT,s]=[dc,aR])=aP from decide_eq_false (by intro h;injection h with h aD;injection aD with aD _;rcases w with w | w;exact w h;exact w aD)]at c1;apply jy
 .show aS ao (aA ao k) (.G (.A .E (.I (.L 1) (.C (.I 0))) (.C (.S bO))) (.A .I (.I (.L 1) (.C (.I 1))) (.L 2))) [ae (.R 32),ae (.R (t+33)),ae (.R (D.length+33)),ae (.R (D.length+1+33)),ae (.S gK)] (ai af (fz D))=ae (.B aP,ai af (fz D));exact dp (aI (aH (ah ab) aj (a8 ht' (bc tw ab))) aj (bL wk)) fS
 .exact bE ⟨fq,c1⟩
theorem afx{nm:aw}(aC:D[t]?=ae (.T (.S dc::.S nm::l)))(tw:(V.S dc::.S nm::l).length<aK)(w:nm≠aR)(cP:cM nm)(q:aA ao k 707 [.R 32,.S j6] (ai af (fz D))=ae (r,aD)):aA ao (k+1) 766 [.R 32,.R (t+33)] (ai af D)=ae (.N,aD):=by
 have ht':=t_ aC;have c1:=R9 (af:=af) (k:=k) aC tw (by decide) (bE w) (dD ab) cP;refine Ad (F:=.N) (fr':=jJ D t) ?_ ab;apply aq
 .apply aM c1;refine bE ⟨fq,?_⟩;unfold jJ;exact aq (aM (aI (aH (ah ab) aj (a8 ht' (bc tw ab))) aj (bL (of_decide_eq_true (id (dy aB))))) (a_ (aq (aM (aI (aH (ah ab) aj (a8 ht' (bc tw ab))) aj dk) (cN (aq (bu (cu aj (ar (ah ab) (ar aj aO)) q)) aF))) aF))) aF
 .exact aF
theorem R_{aT s:aw}(aC:D[t]?=ae (.T (.S aT::.S s::l)))(tw:(V.S aT::.S s::l).length<aK)(w1:aT≠bO)(w2:aT≠dc)(aE:cM aT)(cP:cM s)(q:aA ao k 752 [.R 32,.R (t+33)] (ai af (fz D))=ae (r,aD)):aA ao (k+1) 766 [.R 32,.R (t+33)] (ai af D)=ae (.N,aD):=by
 have ht':=t_ aC;have c1:=R9 (af:=af) (k:=k) aC tw w1 (bB w2) aE cP;refine Ad (F:=.N) (fr':=jJ D t) ?_ ab;apply aq
 .apply aM c1;refine bE ⟨fq,?_⟩;unfold jJ;exact aq (aM (aI (aH (ah ab) aj (a8 ht' (bc tw ab))) aj (bL w1)) (a_ (aq (aM (aI (aH (ah ab) aj (a8 ht' (bc tw ab))) aj (bL w2)) (a_ (aq (bu (cu aj (ar (ah ab) (ar (ah ab) aO)) q)) aF))) aF))) aF
 .exact aF
theorem afB{nm:aw}{ms:List V}{x:V}(aC:D[t]?=ae (.T (.S bO::.S nm::l)))(tw:(V.S bO::.S nm::l).length<aK)(w:nm∉qI)(cP:cM nm)(hm:fP af D (ms++[x]))(wm:(ms++[x]).length<aK)
 (q:aA ao k 752 [.R 32,.R (t+33)] (ai {kg af (ms++[.S (dw nm)])with eU:=dw nm} (iB af (fz D) (ms++[.S (dw nm)])))=ae (r,aD)):aA ao (k+1) 766 [.R 32,.R (t+33)] (ai af D)=ae (.N,aD):=by
 have ht':=t_ aC
 have c1:=afA (af:=af) (k:=k) aC tw w cP
 have bf:=afO nm
 have td:(fz D)[D.length+1]?=ae (.S pS):=afC
 have hm2:fP {af with eU:=dw nm} (fz D) (ms++[x]):=fP.app (af:={af with eU:=dw nm}) (fP.app (af:={af with eU:=dw nm}) (fP.app (af:={af with eU:=dw nm}) hm))
 have c3:=hm2.get
 have e:(ms++[x]).set ((ms++[x]).length-1) (.S (dw nm))=ms++[.S (dw nm)]:=by
  rw[ba,dS,mD,AE _ _ (cC _),gw];rfl
 have w0:0<(ms++[x]).length:=by rw[ba,dS];lia
 refine Ad (F:=.N) (fr':=jJ D t) ?_ ab
 apply aq
 .apply aM c1;refine bE ⟨fq,?_⟩;unfold jJ;apply aq
  .apply aM
   .exact aI (aH (ah ab) aj (a8 ht' (bc tw ab))) aj dk
   .refine bB ⟨tt,?_⟩
    have s1:cH ao (aA ao k) (bj (jk (bj (m5 (bj n_ 3)) 0)) 0) [ae (.R 32),ae (.R (t+33)),ae (.R (D.length+33)),ae (.R (D.length+1+33)),ae (.S gK)] (ai af (fz D))=ae (.N,[ae (.R 32),ae (.R (t+33)),ae (.R (D.length+33)),ae (.R (D.length+1+33)),ae (.S gK)],ai {af with eU:=dw nm} (fz D)):=by
     apply ix
     .exact iD (Fb (ah ab) td (aH (ah ab) aj (a8 ht' (bc tw ab))) aj td bf) (ah ab) aj (lD ab (aN ab))
     .exact ab
     .exact ab
    have s2:cH ao (aA ao k) (bj (jk (bj (m5 (bj n_ 3)) 0)) 1) [ae (.R 32),ae (.R (t+33)),ae (.R (D.length+33)),ae (.R (D.length+1+33)),ae (.S gK)] (ai {af with eU:=dw nm} (fz D))=ae (.N,[ae (.R 32),ae (.R (t+33)),ae (.R (D.length+33)),ae (.R (D.length+1+33)),ae (.S gK)],ai {kg af (ms++[.S (dw nm)])with eU:=dw nm} (iB af (fz D) (ms++[.S (dw nm)]))):=by
     rw[show ai {kg af (ms++[.S (dw nm)])with eU:=dw nm} (iB af (fz D) (ms++[.S (dw nm)]))=_ from(F0 hm2).symm,<-e];apply iD
     .exact aH (ah ab) aj (dJ ab ab)
     .exact aH (ah ab) aj (dJ ab ab)
     .exact aj
     .exact RJ c3 wm w0
    apply aq s1;apply aq s2;exact aq (bu (cu aj (ar (ah ab) (ar (ah ab) aO)) q)) aF
  .exact aF
 .exact aF
end
end
section
section
variable{af:br}{D:List O}{k m t:Nat}{f g:Nat->aw}{ln:Nat->Nat}{r:V}{aD:H}{l:List V}
theorem NJ{s:List Nat}{fr:bJ}{x:Bool}(f0:fr[0]?=ae (ae (.R 32)))(lp:gZ D f g ln s)(qp:(ai af D)[af.cw]?=ae (.L (s.map (b_ ln))))(w:s.length<90000)(hx:x=aB↔∀i∈s,du f g aR i=aP):
 aS ao (aA ao (k+1)) (g9 (bj (jk (bj jx 0)) 0)) fr (ai af D)=ae (.B (!x),ai af D):=by
 have c1:=Jv (af:=af) (k:=k) lp ab qp w
 have bf:=yu (Ju (af:=af) (D:=D++[eC f g s]) bS hx)
 apply dG
 .apply aI
  .apply cu
   .exact aj
   .apply ar
    .exact ah f0
    .exact aO
   .exact c1
  .exact eW aO (aN ab)
  .exact bf
 .exact lG (h:=ai af D)
 .rfl
theorem WW{s:List Nat}{fr:bJ}{n:Nat}(f0:fr[0]?=ae (ae (.R 32)))(lp:gZ D f g ln s)(qp:(ai af D)[af.cw]?=ae (.L (s.map (b_ ln))))(w:s.length<90000)(hx:∀i∈s,du f g aR i=aP):
 fB ao (aA ao (k+1)) (g9 (bj (jk (bj jx 0)) 0)) (dr (bj (jk (bj jx 0)) 0)) (n+1) fr (ai af D)=ae (.N,fr,ai af D):=
 q8 (NJ f0 lp qp w (x:=aB) (by simpa using hx)) fq
theorem WV{s:List Nat}{fr:bJ}{n i:Nat}{r1 r2:V}{h1 aD:H}{R:dm×bJ×H}(f0:fr[0]?=ae (ae (.R 32)))(lp:gZ D f g ln s)(qp:(ai af D)[af.cw]?=ae (.L (s.map (b_ ln))))(w:s.length<90000)(hi:i∈s)(ti:du f g aR i=aB)
 (d4:aA ao (k+1) 707 [.R 32,.S eK] (ai af D)=ae (r1,h1)) (cT:aA ao (k+1) 740 [.R 32] h1=ae (r2,aD)) (L:fB ao (aA ao (k+1)) (g9 (bj (jk (bj jx 0)) 0)) (dr (bj (jk (bj jx 0)) 0)) n fr aD=ae R):
 fB ao (aA ao (k+1)) (g9 (bj (jk (bj jx 0)) 0)) (dr (bj (jk (bj jx 0)) 0)) (n+1) fr (ai af D)=ae R:=by
 obtain⟨f1,fr1,h3⟩:=R
 refine mB (NJ f0 lp qp w (x:=aP) ⟨λh=>absurd h (by decide),λh=>by have:=h i hi;rw[ti]at this;cases this⟩) tt ?_ L
 apply aq
 .apply bu;apply cu
  .exact aj
  .apply ar
   .exact ah f0
   .exact ar aj aO
  .exact d4
 apply aq
 .apply bu;apply cu
  .exact aj
  .apply ar
   .exact ah f0
   .exact aO
  .exact cT
 exact aF
theorem W8{aG:br}{D':List O}(aC:D[t]?=ae (.T [.S dY]))(ht':D'[t]?=ae (.T [.S dY]))(L:fB ao (aA ao k) (g9 (bj (jk (bj jx 0)) 0)) (dr (bj (jk (bj jx 0)) 0)) 500 [ae (.R 32),ae (.R (t+33))] (ai af D)=ae (.N,[ae (.R 32),ae (.R (t+33))],ai aG D')):
 aA ao (k+1) 773 [.R 32,.R (t+33)] (ai af D)=ae (.N,ai {aG with cw:=D'.length+33,jd:=aB} (D'++[.L []])):=by
 have tw:[V.S dY].length<aK:=aN (n:=1) (m:=aK) ab
 have ht2:(D'++[O.L []])[t]?=ae (.T [.S dY]):=bl ht'
 have s2:cH ao (aA ao k) (bj (jk (bj jx 0)) 1) [ae (.R 32),ae (.R (t+33))] (ai aG D')=ae (.N,[ae (.R 32),ae (.R (t+33))],ai {aG with cw:=D'.length+33} (D'++[.L []])):=by
  apply ix
  .exact iD (eW aO (aN ab)) (ah ab) aj (lD ab (aN ab))
  .exact ab
  .exact ab
 have s3:cH ao (aA ao k) (bj (jk (bj jx 0)) 2) [ae (.R 32),ae (.R (t+33))] (ai {aG with cw:=D'.length+33} (D'++[.L []]))=ae (.N,[ae (.R 32),ae (.R (t+33))],ai {aG with cw:=D'.length+33,jd:=aB} (D'++[.L []])):=by
  apply ix
  .exact iD aj (ah ab) aj (lD ab (aN ab))
  .exact ab
  .exact ab
 apply cV ab ab
 apply aq
 .apply aM
  .exact aI (aH (ah ab) aj (a8 aC ab)) aj dk
  .refine bB ⟨tt,?_⟩;apply aq (oQ L);apply aq s2;apply aq s3;exact aF
 .exact aq (aM (dp (aI (aH (ah ab) aj (a8 ht2 ab)) aj (bL (of_decide_eq_true (id (dy aB))))) fS) (a_ aF)) aF
noncomputable def mx:List aw:=[d6,bO]
theorem Xb{aT:aw}{aG:br}{D':List O}(aC:D'[t]?=ae (.T (.S aT::l)))(tw:(V.S aT::l).length<aK)(w:aT≠bO):b3 ao (aA ao k) (fe jx) [ae (.R 32),ae (.R (t+33))] (ai aG D')=ae (.N,[ae (.R 32),ae (.R (t+33))],ai aG D'):=aq (aM (dp (aI (aH (ah ab) aj (a8 aC (bc tw ab))) aj (bL w)) fS) (a_ aF)) aF
theorem Xc{x y:V}{s:Bool}{aG:br}{D':List O}(b:aQ m aG)(aC:D'[t]?=ae (.T [.S bO,x,y,.B s])):b3 ao (aA ao (k+1)) (fe jx) [ae (.R 32),ae (.R (t+33))] (ai aG D')=ae (.N,[ae (.R 32),ae (.R (t+33))],if s=aB then ai (oE aG D') (D'++[.T [.S mA,.S aG.eU]])else ai aG D'):=by
 have tw:[V.S bO,x,y,.B s].length<aK:=aN (n:=4) (m:=aK) rfl;have bf:=O9 (af:=aG) (D:=D') (k:=k) b mA;cases s with
 | true=>
  rw[if_pos rfl];exact aq (aM (dp (aI (aH (ah rfl) aj (a8 aC rfl)) aj dk) (fu (aH (ah rfl) aj (a8 aC rfl)))) (cN (aq (bu (cu aj (ar (ah rfl) (ar aj aO)) bf)) aF))) aF
 | false=>
  rw[if_neg (by decide)];exact aq (aM (dp (aI (aH (ah rfl) aj (a8 aC rfl)) aj dk) (fu (aH (ah rfl) aj (a8 aC rfl)))) (a_ aF)) aF
theorem Xa{aT sp nm:aw}{n:Nat}{ps l2:List V}(aC:D[t]?=ae (.T (.S aT::l)))(tw:(V.S aT::l).length<aK)(qp:(ai af D)[af.cw]?=ae (.L ps))(wp:ps.length<aK)(lp:ps.getLast?=ae (.R (n+33)))(qn:D[n]?=ae (.L (.S sp::.S nm::l2)))(w2:(V.S sp::.S nm::l2).length<aK):
 aS ao (aA ao k) (.G (.A .E (.I (.I (.I (.L 0) (.C (.S fT))) (.C (.I (-1)))) (.C (.I 0))) (.C (.S cY))) (.N (.G (.A .E (.I (.I (.I (.L 0) (.C (.S fT))) (.C (.I (-1)))) (.C (.I 1))) (.C (.S iN))) (.P (.A .I (.I (.L 1) (.C (.I 0))) (.T (.C (.C (.S d6)) (.C (.C (.S bO)) .N)))))))) [ae (.R 32),ae (.R (t+33))] (ai af D)=ae (.B (decide (sp=cY)&&!(decide (nm=iN)&&decide (aT∈mx))),ai af D):=by
 have c1:cD .I (ai af (D++[.T (mx.map .S)])) (.S aT) (.R (D.length+33))=ae (decide (aT∈mx)):=fE (bD bS) ab ab
 by_cases e1:sp=cY
 .subst e1;by_cases e2:nm=iN
  .subst e2;have e:(decide (cY=cY)&&!(decide (iN=iN)&&decide (aT∈mx)))=!decide (aT∈mx):=rfl;rw[e];apply dp
   .exact aI (aH (aH (aH (ah ab) aj (dJ ab ab)) aj (bX qp (iu wp lp))) aj (bX qn (bc w2 ab))) aj dk
   .refine bB ⟨tt,?_⟩;apply iQ
    .apply dp
     .exact aI (aH (aH (aH (ah ab) aj (dJ ab ab)) aj (bX qp (iu wp lp))) aj (bX qn (bc w2 ab))) aj dk
     .refine bB ⟨tt,?_⟩;exact dG (aI (aH (ah ab) aj (a8 aC (bc tw ab))) (dj (ar aj (ar aj aO)) (aN ab)) c1) el ab
    .rfl
  .have e:(decide (cY=cY)&&!(decide (nm=iN)&&decide (aT∈mx)))=true:=by rw[decide_eq_false e2];rfl
   rw[e];apply dp
   .exact aI (aH (aH (aH (ah ab) aj (dJ ab ab)) aj (bX qp (iu wp lp))) aj (bX qn (bc w2 ab))) aj dk
   .refine bB ⟨tt,?_⟩;refine iQ (t:=aP) (x:=.B aP) ?_ ab;exact dp (aI (aH (aH (aH (ah ab) aj (dJ ab ab)) aj (bX qp (iu wp lp))) aj (bX qn (bc w2 ab))) aj (bL e2)) fS
 .have e:(decide (sp=cY)&&!(decide (nm=iN)&&decide (aT∈mx)))=false:=by rw[decide_eq_false e1];rfl
  rw[e];exact dp (aI (aH (aH (aH (ah rfl) aj (dJ rfl rfl)) aj (bX qp (iu wp lp))) aj (bX qn (bc w2 rfl))) aj (bL e1)) fS
noncomputable def A9(sp nm aT bZ:aw):Nat:=if (decide (sp=cY)&&!(decide (nm=iN)&&decide (aT∈mx)))=aB then 759 else if bZ=cX then 766 else 752
theorem NQ{aT sp nm:aw}{n:Nat}{ps l2:List V}(aC:D[t]?=ae (.T (.S aT::l)))(tw:(V.S aT::l).length<aK)(we:aT≠dY)(qp:(ai af D)[af.cw]?=ae (.L ps))(wp:ps.length<aK)(lp:ps.getLast?=ae (.R (n+33)))(qn:D[n]?=ae (.L (.S sp::.S nm::l2)))(w2:(V.S sp::.S nm::l2).length<aK)
 (q:aA ao k (A9 sp nm aT af.eU) [.R 32,.R (t+33)] (ai af D)=ae (r,aD)):cH ao (aA ao k) (bj jx 0) [ae (.R 32),ae (.R (t+33))] (ai af D)=ae (.N,[ae (.R 32),ae (.R (t+33))],aD):=by
 have c:=Xa (af:=af) (k:=k) aC tw qp wp lp qn w2
 apply aM
 .exact aI (aH (ah ab) aj (a8 aC (bc tw ab))) aj (bL we)
 .refine bE ⟨fq,?_⟩;apply aq
  .apply aM c;unfold A9 at q;cases e:(decide (sp=cY)&&!(decide (nm=iN)&&decide (aT∈mx)))with
   | true=>
    rw[e,if_pos rfl]at q;refine bB ⟨tt,?_⟩;exact aq (bu (cu aj (ar (ah rfl) (ar (ah rfl) aO)) q)) aF
   | false=>
    rw[e,if_neg (by decide)]at q;refine bE ⟨fq,?_⟩;by_cases e2:af.eU=cX
    .rw[if_pos e2]at q;have c3:cD .E (ai af D) (.S af.eU) (.S cX)=ae true:=by rw[e2];exact dk
     exact aq (aM (aI (aH (ah ab) aj (dJ ab ab)) aj c3) (cN (aq (bu (cu aj (ar (ah ab) (ar (ah ab) aO)) q)) aF))) aF
    .rw[if_neg e2]at q;exact aq (aM (aI (aH (ah rfl) aj (dJ rfl rfl)) aj (bL e2)) (a_ (aq (bu (cu aj (ar (ah rfl) (ar (ah rfl) aO)) q)) aF))) aF
  .exact aF
theorem W9{aT sp nm:aw}{n:Nat}{ps l2:List V}{aG:br}{D':List O}(aC:D[t]?=ae (.T (.S aT::l)))(ht':D'[t]?=ae (.T (.S aT::l)))(tw:(V.S aT::l).length<aK)(we:aT≠dY)(ws:aT≠bO)(qp:(ai af D)[af.cw]?=ae (.L ps))(wp:ps.length<aK)(lp:ps.getLast?=ae (.R (n+33)))(qn:D[n]?=ae (.L (.S sp::.S nm::l2)))(w2:(V.S sp::.S nm::l2).length<aK)
 (q:aA ao k (A9 sp nm aT af.eU) [.R 32,.R (t+33)] (ai af D)=ae (r,ai aG D')):aA ao (k+1) 773 [.R 32,.R (t+33)] (ai af D)=ae (.N,ai aG D'):=
 cV ab ab (aq (NQ aC tw we qp wp lp qn w2 q) (Xb ht' tw ws))
theorem W_{sp nm:aw}{x y:V}{s:Bool}{n:Nat}{ps l2:List V}{aG:br}{D':List O}(b:aQ m aG)(aC:D[t]?=ae (.T [.S bO,x,y,.B s]))(ht':D'[t]?=ae (.T [.S bO,x,y,.B s]))(qp:(ai af D)[af.cw]?=ae (.L ps))(wp:ps.length<aK)(lp:ps.getLast?=ae (.R (n+33)))(qn:D[n]?=ae (.L (.S sp::.S nm::l2)))(w2:(V.S sp::.S nm::l2).length<aK)
 (q:aA ao (k+1) (A9 sp nm bO af.eU) [.R 32,.R (t+33)] (ai af D)=ae (r,ai aG D')):aA ao (k+2) 773 [.R 32,.R (t+33)] (ai af D)=ae (.N,if s=aB then ai (oE aG D') (D'++[.T [.S mA,.S aG.eU]])else ai aG D'):=
 cV ab ab (aq (NQ aC (aN (n:=4) (m:=aK) ab) (by decide) qp wp lp qn w2 q) (Xc b ht'))
end
end
section
structure bk where
 aT:aw
 sp:aw
 nm:aw
 dd:aw
 aL:aw
 lw:Bool
 ch:List Nat
noncomputable def F2:bk:=⟨[],[],[],[],[],aP,[]⟩
inductive iq where
 | W (word bH:aw) | T (bH:aw) (a:Nat)
structure bw where
 ag:List bk
 ay:List Nat
 bq:List (List Nat)
 cf:List aw
 bH:aw
 cy:Bool
 done:Bool
 cO:List iq
 fc:List V:=[]
noncomputable def nn(l:List bk)(i:Nat):bk:=(l[i]?).getD F2
theorem F8{l X:List bk}{i:Nat}(h:i<l.length):nn (l++X) i=nn l i:=by
 unfold nn;rw[gh h]
theorem abj{l X:List bk}{j:Nat}:nn (l++X) (l.length+j)=nn X j:=by
 unfold nn;rw[gI (nQ ..),rg]
theorem lr{l:List bk}{i:Nat}(h:l.length<=i):nn l i=F2:=by
 unfold nn;rw[DR h];rfl
theorem abi{l:List bk}{p i:Nat}{f:bk->bk}(h:i<l.length):nn (l.modify p f) i=if p=i then f (nn l i)else nn l i:=by
 unfold nn;rw[Am,jn h];show(if p=i then f l[i]else l[i])=_;split<;>rfl
theorem BJ{l:List bk}{p i:Nat}{f:bk->bk}(h:p≠i):nn (l.modify p f) i=nn l i:=by
 unfold nn;rw[Am];cases l[i]? with
 | none=>rfl
 | some x=>show(if p=i then f x else x)=_;rw[if_neg h];rfl
theorem BI{l:List bk}{p:Nat}{f:bk->bk}(h:p<l.length):nn (l.modify p f) p=f (nn l p):=by
 rw[abi h,if_pos rfl]
theorem kh{bg:Type}{l:List bk}{p i:Nat}{f:bk->bk}(F:bk->bg)(h:∀n,F (f n)=F n):F (nn (l.modify p f) i)=F (nn l i):=by
 unfold nn;rw[Am];cases l[i]? with
 | none=>rfl
 | some x=>
  show F (if p=i then f x else x)=F x;split
  .exact h x
  .rfl
theorem yq{bg:Type}{l:List bk}{p:Nat}{f:bk->bk}(F:bk->bg)(h:∀n,F (f n)=F n):(l.modify p f).map F=l.map F:=by
 apply Ar;intro i;rw[jo,jo,Am];cases l[i]? with
 | none=>rfl
 | some x=>
  show ae (F (if p=i then f x else x))=ae (F x);split
  .rw[h x]
  .rfl
theorem F9{l:List bk}{i:Nat}(h:i<l.length):l[i]?=ae (nn l i):=by
 unfold nn;rw[jn h];rfl
theorem gT{bg:Type}{l:List bk}{F:bk->bg}{i:Nat}(h:i<l.length):(l.map F)[i]?=ae (F (nn l i)):=by
 rw[jo,F9 h];rfl
noncomputable def bw.f(B:bw)(i:Nat):aw:=(nn B.ag i).sp
noncomputable def bw.g(B:bw)(i:Nat):aw:=(nn B.ag i).nm
noncomputable def bp(l:List bk)(i:Nat):Bool:=decide ((nn l i).sp=aJ)&&decide ((nn l i).nm=aR)
noncomputable def yf(l:List bk)(i:Nat):Nat:=if bp l i=aB then i+1 else i
def top(B:bw):Nat:=B.ay.getLastD 0
noncomputable def bw.hm(B:bw):Nat:=yf B.ag (top B)
inductive aY where
 | I (o:O) | C (i:Nat) | L (i:Nat) | G (j:Nat) | B | A
noncomputable def ej(ln:Nat->Nat)(l:List bk)(j:Nat):V:=if (nn l j).lw=aB then .R (ln j+33)else .S (nn l j).dd
noncomputable def dT(l:List bk)(i:Nat):V:=.S (nn l i).aL
noncomputable def C(B L:bw)(ln:Nat->Nat):aY->O
 | .I o=>o
 | .C i=>.L ((nn B.ag i).ch.map aV)
 | .L i=>.L ((nn L.ag i).ch.map (ej ln L.ag))
 | .G j=>.L (((L.bq[j]?).getD []).map (dT L.ag))
 | .B=>.L (B.cf.map .S)
 | .A=>.L (L.cf.map .S)
noncomputable def OC:aY->Prop
 | .I _=>False
 | _=>True
structure Fr(sc:Nat)(R:List aY)(nB nL gL:Nat):Prop where
 gd:∀(a b:Nat)(r:aY),OC r->R[a]?=ae r->R[b]?=ae r->a=b
 ch:∀(a i:Nat),R[a]?=ae (.C i)->i<nB
 je:∀(a i:Nat),R[a]?=ae (.L i)->i<nL
 dA:∀(a j:Nat),R[a]?=ae (.G j)->0<j/\j<gL
 bm:∀(a:Nat),R[a]?=ae .B->sc=1
 lm:∀(a:Nat),R[a]?=ae .A->sc=1
theorem oF{R:List aY}{c c':aY->O}{a:Nat}{r:aY}(h:R[a]?=ae r)(u:∀b,R[b]?=ae r->b=a)(e:∀r'∈R,r'≠r->c' r'=c r'):(R.map c).set a (c' r)=R.map c':=by
 apply Ar;intro i;rw[Te,jo,jo,cB];by_cases hi:a=i
 .subst hi;rw[if_pos rfl,if_pos (jL.mp h).1,h];rfl
 .rw[if_neg hi];cases q:R[i]? with
  | none=>rfl
  | some r'=>
   have n:r'≠r:=λaD=>hi (u i (aD▸q)).symm;show ae (c r')=ae (c' r');rw[e r' (rm q) n]
theorem Pk{R:List aY}{c c':aY->O}(e:∀r∈R,c' r=c r):R.map c=R.map c':=j7 λr aZ=>(e r aZ).symm
theorem c2{R:List aY}{c:aY->O}{a:Nat}{r:aY}(h:R[a]?=ae r):(R.map c)[a]?=ae (c r):=by rw[jo,h];rfl
noncomputable def bh(R R':List aY):Prop:=∀(a:Nat)(r:aY),R[a]?=ae r->R'[a]?=ae r
noncomputable def ef(R R':List aY):Prop:=∀(a:Nat)(r:aY),(∀j,r≠.G j)->R[a]?=ae r->R'[a]?=ae r
theorem bh.ex{R R':List aY}(h:bh R R'):ef R R':=λa r _ q=>h a r q
theorem bh.app{R X:List aY}:bh R (R++X):=λa r q=>by rw[gh (jL.mp q).1];exact q
theorem bh.iX{R:List aY}:bh R R:=λ_ _ q=>q
theorem bh.trans{R R' R'':List aY}(h:bh R R')(aD:bh R' R''):bh R R'':=λa r q=>aD a r (h a r q)
noncomputable def nY(R:List aY)(a:Nat)(aL:aw):Prop:=(aL=[]/\R[a]?=ae (.I (.L [])))\/(aL≠[]/\∃d,R[a]?=ae (.I (.L [.R (d+33)]))/\R[d]?=ae (.I (.T [.S iM,.S aL])))
theorem nY.ex{R R':List aY}{a:Nat}{aL:aw}(x:ef R R')(h:nY R a aL):nY R' a aL:=by
 rcases h with⟨e,q⟩ | ⟨ne,d,q,cT⟩
 .exact bB ⟨e,x _ _ nofun q⟩
 .exact bE ⟨ne,d,x _ _ nofun q,x _ _ nofun cT⟩
noncomputable def gU:iq->O
 | .W a m=>.T [.S a,.S m]
 | .T m a=>.T [.S m,.R (a+33)]
inductive mH(R:List aY):List V->List iq->Prop
 | N:mH R [] []
 | S {vs:List V} {ns:List iq} {a:Nat} {n:iq}:mH R vs ns->R[a]?=ae (.I (gU n))->mH R (vs++[.R (a+33)]) (ns++[n])
theorem mH.ex{R R':List aY}(x:ef R R'){vs:List V}{ns:List iq}(h:mH R vs ns):mH R' vs ns:=by
 induction h with
 | N=>exact .N
 | S _ q ih=>exact .S ih (x _ _ nofun q)
theorem mH.len{R:List aY}{vs:List V}{ns:List iq}(h:mH R vs ns):vs.length=ns.length:=by
 induction h with
 | N=>rfl
 | S _ _ ih=>rw[ba,ba,ih];rfl
noncomputable def dM:List (List Nat)->List V
 | []=>[]
 | g::r=>g.map aV++r.flatMap λx=>.I (-1)::x.map aV
structure lO(sc:Nat)(af:br)(R:List aY)(B:bw):Prop where
 bo:af.bo=B.ag.map λn=>V.S n.aT
 bY:af.bY=B.ag.map λn=>V.S n.sp
 names:af.names=B.ag.map λn=>V.S n.nm
 dH:af.dH=B.ag.map λn=>V.S n.dd
 jE:af.b0.length=B.ag.length
 lu:fJ af
 kb:af.dI.length=B.ag.length
 dI:∀i,0<i->i<B.ag.length->∃a,af.dI[i]?=ae (.R (a+33))/\nY R a (nn B.ag i).aL
 kc:af.dz.length=B.ag.length
 child:∀i,0<i->i<B.ag.length->∃c,af.dz[i]?=ae (.R (c+33))/\R[c]?=ae (.C i)
 dU:∀i:Nat,af.dU.lookup (i:Int)=if bp B.ag i=aB then ae (.I ((i+1:Nat):Int))else az
 cl:af.dU.length<=B.ag.length
 ay:af.ay=B.ay.map aV
 bW:af.bW=dM B.bq
 bH:af.bH=B.bH
 cy:af.cy=B.cy
 done:af.done=B.done
 am:(sc≠1/\af.am=23/\af.eH=B.cf.map .S)\/(sc=1/\∃j,af.am=j+33/\R[j]?=ae .B)
 d1:mH R af.d1 B.cO
noncomputable def b4(a:Nat):V:=.R (a+33)
noncomputable def mJ(R:List aY)(ln:Nat->Nat)(l:List bk)(i:Nat):Prop:=∃la k,nY R la (nn l i).aL/\R[k]?=ae (.L i) /\
 ((bp l i=aP/\R[ln i]?=ae (.I (.L [.S (nn l i).sp,.S (nn l i).nm,b4 la,b4 k,.N]))) \/
  (bp l i=aB/\∃k2,R[k2]?=ae (.L (i+1))/\R[ln i]?=ae (.I (.L [.S (nn l i).sp,.S (nn l i).nm,b4 la,b4 k,b4 k2]))))
structure AP(sc:Nat)(af:br)(R:List aY)(L:bw)(ln:Nat->Nat):Prop where
 cw:∃j,af.cw=j+33/\R[j]?=ae (.I (.L (L.ay.map (b_ ln))))
 nodes:∀i,(nn L.ag i).lw=aB->mJ R ln L.ag i
 bP:af.bP=((L.bq[0]?).getD []).map (dT L.ag)
 bq:∃ga:List Nat,af.da=.R 28::ga.map b4/\ga.length+1=L.bq.length/\∀(j a:Nat),ga[j]?=ae a->R[a]?=ae (.G (j+1))
 lm:(sc≠1/\af.lm=30/\af.ed=L.cf.map .S)\/(sc=1/\∃j,af.lm=j+33/\R[j]?=ae .A)
 bH:af.eU=L.bH
 cy:af.g7=L.cy
 done:af.jd=L.done
 cO:mH R af.cO L.cO
noncomputable def KL(af aG:br):Prop:=aG={af with bP:=aG.bP,da:=aG.da,ed:=aG.ed,cO:=aG.cO,cw:=aG.cw,eU:=aG.eU,lm:=aG.lm,jd:=aG.jd,g7:=aG.g7}
theorem lO.mono{sc:Nat}{af aG:br}{R R':List aY}{B:bw}(h:lO sc af R B)(e:KL af aG)(x:ef R R'):lO sc aG R' B:=by
 rw[e];refine⟨h.bo,h.bY,h.names,h.dH,h.jE,h.lu,h.kb,?_,h.kc,?_,h.dU,h.cl,h.ay,h.bW,h.bH,h.cy,h.done,?_,h.d1.ex x⟩
 .intro i h0 h1;obtain⟨a,q,w⟩:=h.dI i h0 h1;exact⟨a,q,w.ex x⟩
 .intro i h0 h1;obtain⟨c,q,w⟩:=h.child i h0 h1;exact⟨c,q,x _ _ nofun w⟩
 .rcases h.am with q | ⟨s,j,q,w⟩
  .exact bB q
  .exact bE ⟨s,j,q,x _ _ nofun w⟩
noncomputable def Ux(af aG:br):Prop:=aG.bP=af.bP/\aG.da=af.da/\aG.ed=af.ed/\aG.cO=af.cO/\aG.cw=af.cw/\aG.eU=af.eU/\aG.lm=af.lm/\aG.jd=af.jd/\aG.g7=af.g7/\aG.gq=af.gq/\aG.dig=af.dig
theorem AP.mono{sc:Nat}{af aG:br}{R R':List aY}{L:bw}{ln:Nat->Nat}(h:AP sc af R L ln)(e:Ux af aG)(x:bh R R'):AP sc aG R' L ln:=by
 obtain⟨e1,e2,e3,e4,e5,e6,e7,e8,e9,_,_⟩:=e;refine⟨?_,?_,e1▸h.bP,?_,?_,e6▸h.bH,e9▸h.cy,e8▸h.done,e4▸h.cO.ex x.ex⟩
 .obtain⟨j,q,w⟩:=h.cw;exact⟨j,e5▸q,x _ _ w⟩
 .intro i hi;obtain⟨la,k,a,b,c⟩:=h.nodes i hi;refine⟨la,k,a.ex x.ex,x _ _ b,?_⟩;rcases c with⟨t,q⟩ | ⟨t,k2,q,w⟩
  .exact bB ⟨t,x _ _ q⟩
  .exact bE ⟨t,k2,x _ _ q,x _ _ w⟩
 .obtain⟨ga,q,w,u⟩:=h.bq;exact⟨ga,e2▸q,w,λj a hj=>x _ _ (u j a hj)⟩
 .rcases h.lm with q | ⟨s,j,q,w⟩
  .exact bB (by rw[e7,e3];exact q)
  .exact bE ⟨s,j,e7▸q,x _ _ w⟩
end
section
noncomputable def fx:List aw:=[aR,KH,fj,jN,cY,[98],i7,rx,xD,j8,iN,[112],ky,j9,gK,jO,xC,AK,AI,AH,AL,AJ,AF,AG]
noncomputable def ho:List aw:=[ec,cX,lX,i8,lW,og,ux,oh]
noncomputable def cg(q:Nat):aw:=if q<10 then[48+q]else[49,38+q]
theorem acD:∀q:Nat,q<14->Ab (q:Int)=ae (cg q):=by decide +kernel
theorem acC:∀a,a<14->∀b,b<14->cg a=cg b->a=b:=by decide +kernel
theorem HK{q:Nat}(h:q<14):cM (cg q):=by
 have:∀q,q<14->(cg q).all (λc=>decide (c<0x110000))=true:=by decide +kernel
 exact dD (this q h)
theorem pH{x:aw}(h:x∈fx):cM x:=by
 have:∀x∈fx,x.all (λc=>decide (c<0x110000))=true:=by decide +kernel
 exact dD (this x h)
theorem F7{x:aw}(h:x∈fx):x≠aJ/\x≠nX/\x≠fm/\(x=aR\/toN.lookup x=oG.lookup x):=by
 have:∀x∈fx,x≠aJ/\x≠nX/\x≠fm/\(x=aR\/toN.lookup x=oG.lookup x):=by decide +kernel
 exact this x h
theorem lk{x:aw}(h:x∈ho):cM x:=by
 have:∀x∈ho,x.all (λc=>decide (c<0x110000))=true:=by decide +kernel
 exact dD (this x h)
theorem Pn{x:aw}(h:x∈ho):x≠[]/\(x=cX\/Dq.lookup x=ae (.A 686)):=by
 have:∀x∈ho,x≠[]/\(x=cX\/Dq.lookup x=ae (.A 686)):=by decide +kernel
 exact this x h
noncomputable def cR(sc:Nat):List Nat:=if sc=0 then[1,2]else[1]
structure bz(sc p:Nat)(B:bw):Prop where
 st:(B.done=aB/\B.ay=[])\/(B.done=aP/\∃r,B.ay=cR sc++r/\∀i∈r,((nn B.ag i).sp=aJ\/(nn B.ag i).sp=cY)/\(nn B.ag i).nm∈fx)
 ey:(nn B.ag 1).sp=aJ/\(nn B.ag 1).nm=aJ
 bQ:sc=0->(nn B.ag 2).sp=aJ/\(nn B.ag 2).nm=fm
 bf:sc≠0->(nn B.ag 2).sp=aJ/\(nn B.ag 2).nm=if sc=1 then aR else fj
 nl:2<B.ag.length
 mem:∀i∈B.ay,0<i/\i<B.ag.length/\(nn B.ag i).lw=aB
 gz:∀i,(nn B.ag i).lw=aB->(nn B.ag i).aT=fi/\0<i/\cM (nn B.ag i).sp/\cM (nn B.ag i).nm
 oW:∀i,bp B.ag i=aB->i+1<B.ag.length/\(nn B.ag (i+1)).aT=oe
 ch:∀p j,j∈(nn B.ag p).ch->p<j/\j<B.ag.length/\((nn B.ag j).lw=aB\/(nn B.ag j).aT=gQ)
 gd:∀p q j,j∈(nn B.ag p).ch->j∈(nn B.ag q).ch->p=q
 nG:∀p,(nn B.ag p).ch.Pairwise (·<·)
 ok:∀i,cM (nn B.ag i).aL/\cM (nn B.ag i).dd
 dA:B.bq≠[]
 jY:∀g∈B.bq,∀i∈g,(nn B.ag i).lw=aB/\(nn B.ag i).sp=aJ/\(nn B.ag i).nm=dK/\∃q,q<p/\(nn B.ag i).aL=cg q
 fL:B.bq.length=1+B.ay.countP (bp B.ag)
 fM:B.cf.length=B.ay.countP (bp B.ag)+(if sc=1 then 1 else 0)
 bZ:B.bH∈ho
 ms:∀x∈B.cf,x∈ho
 mt:B.bH=cX->B.cf≠[]
 lw:B.ag.countP (·.lw)<=2+p
 gb:(nn B.ag 1).lw=aB/\(nn B.ag 1).aL=[]
structure cW(n m:Nat)(B:bw):Prop where
 ag:B.ag.length<=n
 ay:B.ay.length<=n
 bW:(dM B.bq).length<=n
 cf:B.cf.length<=n
 bq:B.bq.length<=n
 dd:∀i,(nn B.ag i).dd.length<=n
 ch:∀i,(nn B.ag i).ch.length<=n
 cO:B.cO.length<=m
structure Ec(sc:Nat)(d:List V)(af:br):Prop where
 ctx:af.ctx=if sc=0 then -1 else 2
 f9:af.f9=1
 d5:af.d5=[aV 1]
 gq:af.gq=decide (sc=1)
 eH:sc=1->af.eH=[]
 ed:sc=1->af.ed=[]
 mY:af.dz[0]?=ae (.R 18)
 fc:af.dig=d
inductive Tk where
 | S (nm aL:aw) (s:Bool) | E (nm:aw) | C (aX:aw) | N (aT x:aw) (l:List V) | A
noncomputable def fK(R:List aY)(t:Nat):Tk->Prop
 | .S nm aL s=>nm∈fx/\(aL≠[]/\cM aL)/\∃a d,R[t]?=ae (.I (.T [.S bO,.S nm,.R (a+33),.B s]))/\R[a]?=ae (.I (.T [.R (d+33)]))/\R[d]?=ae (.I (.T [.S iM,.S aL]))
 | .E nm=>nm∈fx/\∃v,R[t]?=ae (.I (.T [.S dc,.S nm,v,.B aP]))
 | .C aX=>cM aX/\aX.length=1/\R[t]?=ae (.I (.T [.S d6,.S aX]))
 | .N aT x l=>(aT=mV/\l=[]\/aT=oa/\l=[.N,.N,.B aP])/\cM x/\R[t]?=ae (.I (.T (.S aT::.S x::l)))
 | .A=>R[t]?=ae (.I (.T [.S dY]))
theorem fK.ex{R R':List aY}{t:Nat}(x:ef R R'):(k:Tk)->fK R t k->fK R' t k
 | .S ..,⟨n,ne,a,d,d4,cT,fN⟩=>⟨n,ne,a,d,x _ _ nofun d4,x _ _ nofun cT,x _ _ nofun fN⟩
 | .E _,⟨n,v,q⟩=>⟨n,v,x _ _ nofun q⟩
 | .C _,⟨o,l,q⟩=>⟨o,l,x _ _ nofun q⟩
 | .N ..,⟨o,l,q⟩=>⟨o,l,x _ _ nofun q⟩
 | .A,q=>x _ _ nofun q
noncomputable def ir(R:List aY):iq->Prop
 | .W a m=>cM a/\cM m
 | .T m a=>cM m/\∃k,fK R a k/\(∀nm,k≠.E nm)
theorem ir.ex{R R':List aY}(x:ef R R'):(n:iq)->ir R n->ir R' n
 | .W _ _,h=>h
 | .T _ _,⟨a,k,b,c⟩=>⟨a,k,b.ex x k,c⟩
structure cj(sc:Nat)(af:br)(R:List aY)(B L:bw)(ln:Nat->Nat):Prop where
 bi:lO sc af R B
 li:AP sc af R L ln
 fr:Fr sc R B.ag.length L.ag.length L.bq.length
 bR:Ec sc B.fc af
 nb:∀x∈B.cO,ir R x
 nl:∀x∈L.cO,ir R x
theorem j5{l:List V}{n:Nat}(h:l.length<=n)(w:n<50000):bb 50000 l:=by unfold bb;lia
theorem k7{sc n m:Nat}{af:br}{R:List aY}{B L:bw}{ln:Nat->Nat}(c:cj sc af R B L ln)(b7:cW n m B)(dq:cW n m L)(aU:n<10000)(hm:m<40000):aQ 50000 af:=by
 have e23:af.eH.length<=n:=by
  rcases c.bi.am with⟨_,_,q⟩ | ⟨s,_⟩
  .rw[q,cB];exact b7.cf
  .rw[c.bR.eH s];exact gJ _
 have e30:af.ed.length<=n:=by
  rcases c.li.lm with⟨_,_,q⟩ | ⟨s,_⟩
  .rw[q,cB];exact dq.cf
  .rw[c.bR.ed s];exact gJ _
 obtain⟨ga,qg,wg,_⟩:=c.li.bq;have eg:af.da.length<=n:=by rw[qg,fH,cB,wg];exact dq.bq
 have fk:af.bP.length<=n:=by
  rw[c.li.bP,cB];have:=dq.bW;cases h:L.bq with
  | nil=>exact gJ _
  | cons x r=>
   rw[h]at this;unfold dM at this;rw[ba,cB]at this;exact d8 (nQ ..) this
 have b:=c.bi;have ln':=b7.ag;refine⟨j5 (n:=n) (by rw[b.bo,cB];exact ln') (by lia),j5 (n:=n) (by rw[b.bY,cB];exact ln') (by lia),j5 (n:=n) (by rw[b.names,cB];exact ln') (by lia),j5 (n:=n) (by rw[b.kb];exact ln') (by lia),j5 (n:=n) (by rw[b.dH,cB];exact ln') (by lia),j5 (n:=n) (by rw[b.jE];exact ln') (by lia),j5 (n:=n) (by rw[b.kc];exact ln') (by lia),j5 (n:=1) (by rw[c.bR.d5];exact cC _) (by lia),j5 (n:=n) (by rw[b.ay,cB];exact b7.ay) (by lia),j5 (n:=n) (by rw[b.bW];exact b7.bW) (by lia),j5 e23 (by lia),j5 (n:=m) (by rw[b.d1.len];exact b7.cO) (by lia),j5 fk (by lia),j5 eg (by lia),j5 e30 (by lia),j5 (n:=m) (by rw[c.li.cO.len];exact dq.cO) (by lia),?_⟩;have:=b.cl;lia
end
section
noncomputable def BA(j:Nat)(n:bk):bk:={n with ch:=n.ch++[j]}
noncomputable def bC(l:List bk)(p j:Nat):List bk:=l.modify p (BA j)
noncomputable def dg(sp nm aL:aw):bk:=⟨fi,sp,nm,[],aL,aB,[]⟩
noncomputable def eX:bk:=⟨oe,[],[],[],[],aP,[]⟩
noncomputable def jI(dd:aw):bk:=⟨gQ,[],[],dd,[],aP,[]⟩
noncomputable def eQ(B:bw)(sp nm aL:aw):bw:={B with ag:=bC B.ag B.hm B.ag.length++[dg sp nm aL],ay:=B.ay++[B.ag.length]}
noncomputable def gP(B:bw)(aL:aw):bw:={B with ag:=bC B.ag B.hm B.ag.length++[dg aJ aR aL,eX],ay:=B.ay++[B.ag.length]}
noncomputable def jV(B:bw)(aX:aw):bw:={B with ag:=bC B.ag B.hm B.ag.length++[jI aX]}
noncomputable def cU(aX:aw)(n:bk):bk:={n with dd:=n.dd++aX}
noncomputable def jt(B:bw)(j:Nat)(aX:aw):bw:={B with ag:=B.ag.modify j (cU aX)}
noncomputable def rF(B:bw):bw:={B with ay:=B.ay.dropLast}
noncomputable def mR(B:bw)(x:iq):bw:={B with cO:=B.cO++[x]}
theorem jc{l:List bk}{p j:Nat}:(bC l p j).length=l.length:=xB ..
section
variable{l X:List bk}{p i j:Nat}
theorem yj(h:p<l.length):(nn (bC l p j++X) p).ch=(nn l p).ch++[j]:=by
 rw[F8 (by rw[jc];exact h)];unfold bC;rw[BI h];rfl
theorem yk(h:p≠i)(hi:i<l.length):nn (bC l p j++X) i=nn l i:=by
 rw[F8 (by rw[jc];exact hi)];exact BJ h
theorem hn{bg:Type}(F:bk->bg)(h:∀n,F (BA j n)=F n)(hi:i<l.length):F (nn (bC l p j++X) i)=F (nn l i):=by
 rw[F8 (by rw[jc];exact hi)];exact kh F h
theorem iA{r:Nat}:nn (bC l p j++X) (l.length+r)=nn X r:=by
 have:=abj (l:=bC l p j) (X:=X) (j:=r);rw[jc]at this;exact this
theorem yi(hi:i<l.length):bp (bC l p j++X) i=bp l i:=by
 unfold bp;rw[hn bk.sp (λ_=>rfl) hi,hn bk.nm (λ_=>rfl) hi]
theorem FG(h:l.length<=i):bp l i=false:=by
 unfold bp;rw[lr h];rfl
end
theorem Sb{B:bw}{i:Nat}(h:B.ay.getLast?=ae i):top B=i:=by
 unfold top;rw[J4,h];rfl
theorem R4{B:bw}(h:B.ay≠[]):∃s,B.ay=s++[top B]:=by
 refine⟨B.ay.dropLast,?_⟩;unfold top;rw[J4,D6 h];exact(ue h).symm
theorem Ag{B:bw}(h:B.ay≠[]):top B∈B.ay:=by
 obtain⟨s,e⟩:=R4 h;exact e▸gr _ (o2 _)
theorem pD{sc p:Nat}{B:bw}(w:bz sc p B)(h:B.ay≠[]):0<B.hm/\B.hm<B.ag.length/\((nn B.ag B.hm).aT=fi\/(nn B.ag B.hm).aT=oe):=by
 obtain⟨h0,h1,aD⟩:=w.mem _ (Ag h);unfold bw.hm yf;split
 .next t=>
  obtain⟨t1,t2⟩:=w.oW _ t;exact⟨by lia,t1,bE t2⟩
 .exact⟨h0,h1,bB (w.gz _ aD).1⟩
theorem jj{sc p:Nat}{B:bw}(w:bz sc p B)(h:B.done=aP):B.ay≠[]:=by
 rcases w.st with⟨e,_⟩ | ⟨_,r,e,_⟩
 .rw[h]at e;cases e
 .rw[e];unfold cR;split<;>exact o5 _ _
theorem LQ{l:List bk}{p:Nat}{f:bk->bk}{P:bk->Bool}(h:∀n,P (f n)=P n):(l.modify p f).countP P=l.countP P:=by
 have e:∀l:List bk,l.countP P=(l.map P).countP id:=λl=>by rw[List.countP_map];rfl
 rw[e,e,yq P h]
theorem FQ{n m:Nat}{B:bw}{X:List bk}{s:List Nat}(h:cW n m B)(hX:X.length<=2)(aC:∀i,(nn X i).dd.length<=1)(hc:∀i,(nn X i).ch=[])(hs:s.length<=B.ay.length+1):cW (n+2) m {B with ag:=bC B.ag B.hm B.ag.length++X,ay:=s}:=by
 refine⟨?_,?_,d8 h.bW (by lia),d8 h.cf (by lia),d8 h.bq (by lia),?_,?_,h.cO⟩
 .have:=h.ag;show(bC B.ag B.hm B.ag.length++X).length<=_;rw[ba,jc];lia
 .have:=h.ay;show s.length<=_;lia
 .intro i;show(nn (bC B.ag B.hm B.ag.length++X) i).dd.length<=_;by_cases hi:i<B.ag.length
  .rw[hn bk.dd (λ_=>rfl) hi];exact d8 (h.dd i) (by lia)
  .have e:i=B.ag.length+(i-B.ag.length):=by lia
   rw[e,iA];exact d8 (aC _) (by lia)
 .intro i;show(nn (bC B.ag B.hm B.ag.length++X) i).ch.length<=_;have hci:=h.ch i;by_cases hi:i<B.ag.length
  .by_cases e:B.hm=i
   .rw[<- e]at hi hci⊢;rw[yj hi,ba,dS];lia
   .rw[yk e hi];lia
  .have e:i=B.ag.length+(i-B.ag.length):=by lia
   rw[e,iA,hc];exact gJ _
theorem DI{sc p p':Nat}{B:bw}{X:List bk}{s:List Nat}{x:bk}{X':List bk}(w:bz sc p B)(hd:B.done=aP)(hX:X=x::X')(hs:s=B.ay++[B.ag.length]/\x.lw=aB/\(x.sp=aJ\/x.sp=cY)/\x.nm∈fx/\bp X 0=aP\/s=B.ay)
 (ch:∀i,(nn X i).ch=[]) (gz:∀i,(nn X i).lw=aB->(nn X i).aT=fi/\cM (nn X i).sp/\cM (nn X i).nm) (oW:∀i,bp X i=aB->i+1<X.length/\(nn X (i+1)).aT=oe) (k0:x.lw=aB\/x.aT=gQ) (ok:∀i,cM (nn X i).aL/\cM (nn X i).dd) (lw:X.countP (·.lw)+p<=p'):
 bz sc p' {B with ag:=bC B.ag B.hm B.ag.length++X,ay:=s}:=by
 have hne:=jj w hd
 obtain⟨hm0,hm1,_⟩:=pD w hne
 have N:(bC B.ag B.hm B.ag.length++X).length=B.ag.length+X.length:=by rw[ba,jc]
 have X0:0<X.length:=by rw[hX];exact xy _
 have hold:∀{bg:Type}(F:bk->bg)(h:∀n,F (BA B.ag.length n)=F n){i:Nat},i<B.ag.length->F (nn (bC B.ag B.hm B.ag.length++X) i)=F (nn B.ag i):=λF h i hi=>hn F h hi
 have new:∀i,B.ag.length<=i->nn (bC B.ag B.hm B.ag.length++X) i=nn X (i-B.ag.length):=λi hi=>by
  have:=iA (l:=B.ag) (X:=X) (p:=B.hm) (j:=B.ag.length) (r:=i-B.ag.length);rw[show B.ag.length+(i-B.ag.length)=i by lia]at this;exact this
 have told:∀i,i<B.ag.length->bp (bC B.ag B.hm B.ag.length++X) i=bp B.ag i:=λi hi=>yi hi
 have tnew:∀i,B.ag.length<=i->bp (bC B.ag B.hm B.ag.length++X) i=bp X (i-B.ag.length):=λi hi=>by
  unfold bp;rw[new i hi]
 have cold:∀q j,q<B.ag.length->(j∈(nn (bC B.ag B.hm B.ag.length++X) q).ch↔(j∈(nn B.ag q).ch\/(q=B.hm/\j=B.ag.length))):=by
  intro q j hq;by_cases e:B.hm=q
  .subst e;rw[yj hm1,gW,dx];constructor
   .rintro(h | h)
    .exact bB h
    .exact bE ⟨ab,h⟩
   .rintro(h | h)
    .exact bB h
    .exact bE h.2
  .rw[yk e hq];constructor
   .exact bB
   .rintro(h | ⟨h,_⟩)
    .exact h
    .exact absurd h.symm e
 have cnew:∀q,B.ag.length<=q->(nn (bC B.ag B.hm B.ag.length++X) q).ch=[]:=λq hq=>by rw[new q hq];exact ch _
 have call:∀q j,j∈(nn (bC B.ag B.hm B.ag.length++X) q).ch->j∈(nn B.ag q).ch\/(q=B.hm/\j=B.ag.length):=by
  intro q j h;by_cases hq:q<B.ag.length
  .exact(cold q j hq).mp h
  .rw[cnew q (by lia)]at h;cases h
 have nl:=w.nl
 have smem:∀i∈s,(i∈B.ay\/(i=B.ag.length/\x.lw=aB)):=by
  intro i hi;rcases hs with⟨e,hx,_⟩ | e
  .rw[e]at hi;rcases gW.mp hi with hi | hi
   .exact bB hi
   .exact bE ⟨dx.mp hi,hx⟩
  .exact bB (e▸hi)
 have x0:nn X 0=x:=by rw[hX];rfl
 have cnt:s.countP (bp (bC B.ag B.hm B.ag.length++X))=B.ay.countP (bp B.ag):=by
  have e1:B.ay.countP (bp (bC B.ag B.hm B.ag.length++X))=B.ay.countP (bp B.ag):=List.countP_congr λi hi=>by rw[told i (w.mem i hi).2.1]
  rcases hs with⟨e,_,_,_,aC⟩ | e
  .rw[e,kR,e1]
   have:bp (bC B.ag B.hm B.ag.length++X) B.ag.length=false:=by
    rw[tnew _ (cC _),gw];exact aC
   rw[p4,this];rfl
  .rw[e,e1]
 refine⟨?_,?_,?_,?_,?_,?_,?_,?_,?_,?_,?_,?_,w.dA,?_,?_,?_,w.bZ,w.ms,w.mt,?_,?_⟩
 .right;refine⟨hd,?_⟩;rcases w.st with⟨e,_⟩ | ⟨_,r,e,aZ⟩
  .rw[hd]at e;cases e
  .have hr':∀i∈r,((nn (bC B.ag B.hm B.ag.length++X) i).sp=aJ\/(nn (bC B.ag B.hm B.ag.length++X) i).sp=cY)/\(nn (bC B.ag B.hm B.ag.length++X) i).nm∈fx:=by
    intro i hi;have hl:=(w.mem i (by rw[e];exact gr _ hi)).2.1;rw[hold bk.sp (λ_=>rfl) hl,hold bk.nm (λ_=>rfl) hl];exact aZ i hi
   rcases hs with⟨e2,_,h1,aD,_⟩ | e2
   .refine⟨r++[B.ag.length],by rw[show bw.ay {B with ag:=bC B.ag B.hm B.ag.length++X,ay:=s}=s from rfl,e2,e,cG],?_⟩;intro i hi;rcases gW.mp hi with hi | hi
    .exact hr' i hi
    .rw[dx.mp hi];show((nn (bC B.ag B.hm B.ag.length++X) B.ag.length).sp=aJ\/_)/\_;rw[new _ (cC _),gw,x0];exact⟨h1,aD⟩
   .exact⟨r,by rw[show bw.ay {B with ag:=bC B.ag B.hm B.ag.length++X,ay:=s}=s from rfl,e2,e],hr'⟩
 .show(nn (bC B.ag B.hm B.ag.length++X) 1).sp=_/\(nn (bC B.ag B.hm B.ag.length++X) 1).nm=_;rw[hold bk.sp (λ_=>rfl) (by lia),hold bk.nm (λ_=>rfl) (by lia)];exact w.ey
 .show sc=0->(nn (bC B.ag B.hm B.ag.length++X) 2).sp=_/\(nn (bC B.ag B.hm B.ag.length++X) 2).nm=_;rw[hold bk.sp (λ_=>rfl) (by lia),hold bk.nm (λ_=>rfl) (by lia)];exact w.bQ
 .show sc≠0->(nn (bC B.ag B.hm B.ag.length++X) 2).sp=_/\(nn (bC B.ag B.hm B.ag.length++X) 2).nm=_;rw[hold bk.sp (λ_=>rfl) (by lia),hold bk.nm (λ_=>rfl) (by lia)];exact w.bf
 .show 2<(bC B.ag B.hm B.ag.length++X).length;lia
 .intro i hi;show 0<i/\i<(bC B.ag B.hm B.ag.length++X).length/\(nn (bC B.ag B.hm B.ag.length++X) i).lw=aB;rcases smem i hi with hi | ⟨rfl,hx⟩
  .obtain⟨a,b,c⟩:=w.mem i hi;exact⟨a,by lia,by rw[hold bk.lw (λ_=>rfl) b];exact c⟩
  .exact⟨by lia,by lia,by rw[new _ (cC _),gw,x0];exact hx⟩
 .intro i hi;have hi:(nn (bC B.ag B.hm B.ag.length++X) i).lw=true:=hi;show(nn (bC B.ag B.hm B.ag.length++X) i).aT=_/\0<i/\cM (nn (bC B.ag B.hm B.ag.length++X) i).sp/\cM (nn (bC B.ag B.hm B.ag.length++X) i).nm;by_cases h:i<B.ag.length
  .rw[hold bk.lw (λ_=>rfl) h]at hi;rw[hold bk.aT (λ_=>rfl) h,hold bk.sp (λ_=>rfl) h,hold bk.nm (λ_=>rfl) h];exact w.gz i hi
  .rw[new i (by lia)]at hi⊢;obtain⟨a,b,c⟩:=gz _ hi;exact⟨a,by lia,b,c⟩
 .intro i hi;have hi:bp (bC B.ag B.hm B.ag.length++X) i=true:=hi;show i+1<(bC B.ag B.hm B.ag.length++X).length/\(nn (bC B.ag B.hm B.ag.length++X) (i+1)).aT=_;by_cases h:i<B.ag.length
  .rw[told i h]at hi;obtain⟨a,b⟩:=w.oW i hi;exact⟨by lia,by rw[hold bk.aT (λ_=>rfl) a];exact b⟩
  .rw[tnew i (by lia)]at hi;obtain⟨a,b⟩:=oW _ hi;exact⟨by lia,by rw[new _ (by lia),show i+1-B.ag.length=i-B.ag.length+1 by lia];exact b⟩
 .intro q j hj;show q<j/\j<(bC B.ag B.hm B.ag.length++X).length/\((nn (bC B.ag B.hm B.ag.length++X) j).lw=aB\/(nn (bC B.ag B.hm B.ag.length++X) j).aT=gQ);rcases call q j hj with h | ⟨rfl,rfl⟩
  .obtain⟨a,b,c⟩:=w.ch q j h;exact⟨a,by lia,by rw[hold bk.lw (λ_=>rfl) b,hold bk.aT (λ_=>rfl) b];exact c⟩
  .exact⟨hm1,by lia,by rw[new _ (cC _),gw,x0];exact k0⟩
 .intro q q' j h h';rcases call q j h with h | ⟨rfl,rfl⟩
  .rcases call q' j h' with h' | ⟨rfl,rfl⟩
   .exact w.gd q q' j h h'
   .have:=(w.ch q _ h).2.1;lia
  .rcases call q' _ h' with h' | ⟨rfl,_⟩
   .have:=(w.ch q' _ h').2.1;lia
   .rfl
 .intro q;show(nn (bC B.ag B.hm B.ag.length++X) q).ch.Pairwise (·<·);by_cases hq:q<B.ag.length
  .by_cases e:B.hm=q
   .subst e;rw[yj hm1,S1];refine⟨w.nG _,SO ..,?_⟩;intro a ha b hb;rw[dx.mp hb];exact(w.ch _ _ ha).2.1
   .rw[yk e hq];exact w.nG q
  .rw[cnew q (by lia)];exact xn
 .intro i;show cM (nn (bC B.ag B.hm B.ag.length++X) i).aL/\cM (nn (bC B.ag B.hm B.ag.length++X) i).dd;by_cases h:i<B.ag.length
  .rw[hold bk.aL (λ_=>rfl) h,hold bk.dd (λ_=>rfl) h];exact w.ok i
  .rw[new i (by lia)];exact ok _
 .intro g hg i hi;show(nn (bC B.ag B.hm B.ag.length++X) i).lw=aB/\(nn (bC B.ag B.hm B.ag.length++X) i).sp=_/\(nn (bC B.ag B.hm B.ag.length++X) i).nm=_/\∃q,q<p'/\(nn (bC B.ag B.hm B.ag.length++X) i).aL=cg q;obtain⟨a,b,c,q,hq,d⟩:=w.jY g hg i hi
  have h:i<B.ag.length:=by
   apply o1;intro h;rw[lr (by lia)]at a;cases a
  rw[hold bk.lw (λ_=>rfl) h,hold bk.sp (λ_=>rfl) h,hold bk.nm (λ_=>rfl) h,hold bk.aL (λ_=>rfl) h];exact⟨a,b,c,q,by lia,d⟩
 .show B.bq.length=1+s.countP (bp (bC B.ag B.hm B.ag.length++X));rw[cnt];exact w.fL
 .show B.cf.length=s.countP (bp (bC B.ag B.hm B.ag.length++X))+_;rw[cnt];exact w.fM
 .show(bC B.ag B.hm B.ag.length++X).countP (·.lw)<=2+p';have e:(bC B.ag B.hm B.ag.length).countP (·.lw)=B.ag.countP (·.lw):=LQ λ_=>rfl;rw[kR,e];have:=w.lw;lia
 .show(nn (bC B.ag B.hm B.ag.length++X) 1).lw=aB/\(nn (bC B.ag B.hm B.ag.length++X) 1).aL=[];rw[hold bk.lw (λ_=>rfl) (by lia),hold bk.aL (λ_=>rfl) (by lia)];exact w.gb
end
section
theorem fp{R:List aY}{r r':aY}{a:Nat}(h:(R++[r])[a]?=ae r'):R[a]?=ae r'\/(a=R.length/\r'=r):=by
 by_cases e:a<R.length
 .rw[gh e]at h;exact bB h
 .have aD:=(jL.mp h).1;rw[ba,dS]at aD;have e2:a=R.length:=by lia
  subst e2;rw[gI (cC _),gw]at h;exact bE ⟨rfl,(dE h).symm⟩
theorem hB{R:List aY}{r:aY}:(R++[r])[R.length]?=ae r:=by
 rw[gI (cC _),gw];rfl
section
variable{sc nB nL gL:Nat}{R:List aY}
theorem Fr.eT(h:Fr sc R nB nL gL){o:O}:Fr sc (R++[.I o]) nB nL gL:=by
 refine⟨?_,?_,?_,?_,?_,?_⟩
 .intro a b r m qa qb;rcases fp qa with qa | ⟨_,e⟩
  .rcases fp qb with qb | ⟨_,e⟩
   .exact h.gd a b r m qa qb
   .rw[e]at m;exact m.elim
  .rw[e]at m;exact m.elim
 .intro a i q;rcases fp q with q | ⟨_,e⟩
  .exact h.ch a i q
  .cases e
 .intro a i q;rcases fp q with q | ⟨_,e⟩
  .exact h.je a i q
  .cases e
 .intro a i q;rcases fp q with q | ⟨_,e⟩
  .exact h.dA a i q
  .cases e
 .intro a q;rcases fp q with q | ⟨_,e⟩
  .exact h.bm a q
  .cases e
 .intro a q;rcases fp q with q | ⟨_,e⟩
  .exact h.lm a q
  .cases e
theorem Fr.q4(h:Fr sc R nB nL gL):Fr sc (R++[.C nB]) (nB+1) nL gL:=by
 refine⟨?_,?_,?_,?_,?_,?_⟩
 .intro a b r m qa qb;rcases fp qa with qa | ⟨e1,e⟩
  .rcases fp qb with qb | ⟨e2,e⟩
   .exact h.gd a b r m qa qb
   .have:=h.ch a nB (e▸qa);lia
  .rcases fp qb with qb | ⟨e2,e'⟩
   .have:=h.ch b nB (e▸qb);lia
   .lia
 .intro a i q;rcases fp q with q | ⟨_,e⟩
  .have:=h.ch a i q;lia
  .cases e;lia
 .intro a i q;rcases fp q with q | ⟨_,e⟩
  .exact h.je a i q
  .cases e
 .intro a i q;rcases fp q with q | ⟨_,e⟩
  .exact h.dA a i q
  .cases e
 .intro a q;rcases fp q with q | ⟨_,e⟩
  .exact h.bm a q
  .cases e
 .intro a q;rcases fp q with q | ⟨_,e⟩
  .exact h.lm a q
  .cases e
theorem Fr.z9(h:Fr sc R nB nL gL):Fr sc (R++[.L nL]) nB (nL+1) gL:=by
 refine⟨?_,?_,?_,?_,?_,?_⟩
 .intro a b r m qa qb;rcases fp qa with qa | ⟨e1,e⟩
  .rcases fp qb with qb | ⟨e2,e⟩
   .exact h.gd a b r m qa qb
   .have:=h.je a nL (e▸qa);lia
  .rcases fp qb with qb | ⟨e2,e'⟩
   .have:=h.je b nL (e▸qb);lia
   .lia
 .intro a i q;rcases fp q with q | ⟨_,e⟩
  .exact h.ch a i q
  .cases e
 .intro a i q;rcases fp q with q | ⟨_,e⟩
  .have:=h.je a i q;lia
  .cases e;lia
 .intro a i q;rcases fp q with q | ⟨_,e⟩
  .exact h.dA a i q
  .cases e
 .intro a q;rcases fp q with q | ⟨_,e⟩
  .exact h.bm a q
  .cases e
 .intro a q;rcases fp q with q | ⟨_,e⟩
  .exact h.lm a q
  .cases e
theorem Fr.aeN(h:Fr sc R nB nL gL)(bP:0<gL):Fr sc (R++[.G gL]) nB nL (gL+1):=by
 refine⟨?_,?_,?_,?_,?_,?_⟩
 .intro a b r m qa qb;rcases fp qa with qa | ⟨e1,e⟩
  .rcases fp qb with qb | ⟨e2,e⟩
   .exact h.gd a b r m qa qb
   .have:=h.dA a gL (e▸qa);lia
  .rcases fp qb with qb | ⟨e2,e'⟩
   .have:=h.dA b gL (e▸qb);lia
   .lia
 .intro a i q;rcases fp q with q | ⟨_,e⟩
  .exact h.ch a i q
  .cases e
 .intro a i q;rcases fp q with q | ⟨_,e⟩
  .exact h.je a i q
  .cases e
 .intro a i q;rcases fp q with q | ⟨_,e⟩
  .have:=h.dA a i q;lia
  .cases e;lia
 .intro a q;rcases fp q with q | ⟨_,e⟩
  .exact h.bm a q
  .cases e
 .intro a q;rcases fp q with q | ⟨_,e⟩
  .exact h.lm a q
  .cases e
end
section
variable{sc p k:Nat}{af:br}{R:List aY}{B L:bw}{ln:Nat->Nat}
theorem FL{l:List Nat}{i:Nat}(h:l.getLast?=ae i):(l.map aV).getLast?=ae (.I i):=by rw[p3,h];rfl
theorem xf(h:B.ay≠[]):B.ay.getLast?=ae (top B):=by
 obtain⟨s,e⟩:=R4 h;rw[e];exact gf ..
theorem Aa(c:lO sc af R B)(h:B.ay≠[]):af.ay.getLast?=ae (.I (top B))/\(af.ay.length:Int)≠0:=by
 rw[c.ay];refine⟨FL (xf h),?_⟩;rw[cB];have:=ui.mpr h;lia
theorem Bs(c:lO sc af R B)(h:B.ay≠[]):qe af B.hm:=by
 obtain⟨l1,l2⟩:=Aa c h;refine bE ⟨top B,l1,l2,?_⟩;have:=c.dU (top B);unfold bw.hm yf;split
 .next t=>
  rw[if_pos t]at this;exact bB this
 .next t=>
  rw[if_neg t]at this;exact bE ⟨this,rfl⟩
noncomputable def mN(R:List aY)(a:Nat)(aL:aw):Prop:=aL≠[]/\∃d,R[a]?=ae (.I (.T [.R (d+33)]))/\R[d]?=ae (.I (.T [.S iM,.S aL]))
theorem mN.at{c:aY->O}(hc:∀o,c (.I o)=o){a:Nat}{aL:aw}(h:mN R a aL):aL≠[]/\∃d,AT (R.map c) (.R (a+33)) [.R (d+33)]/\R[d]?=ae (.I (.T [.S iM,.S aL])):=by
 obtain⟨ne,d,d4,cT⟩:=h;refine⟨ne,d,bE ⟨a,rfl,?_,aN (n:=1) (m:=aK) rfl⟩,cT⟩;rw[c2 d4,hc]
theorem mN.ex{R R':List aY}{a:Nat}{aL:aw}(x:ef R R')(h:mN R a aL):mN R' a aL:=by
 obtain⟨ne,d,d4,cT⟩:=h;exact⟨ne,d,x _ _ nofun d4,x _ _ nofun cT⟩
theorem fJ.pE(h:fJ af){q:Nat}(hq:q<af.b0.length){ps:List V}(e:ps=af.b0++[.I q]){aG:br}(e2:aG.b0=ps):fJ aG:=by
 intro i hi;rw[e2,e]at hi⊢;by_cases e:i<af.b0.length
 .rcases h i e with q | ⟨j,hj,q⟩
  .exact bB (by rw[gh e];exact q)
  .exact bE ⟨j,hj,by rw[gh e];exact q⟩
 .rw[ba,dS]at hi;have e3:i=af.b0.length:=by lia
  subst e3;refine bE ⟨q,hq,?_⟩;rw[gI (cC _),gw];rfl
theorem fJ.C8(h:fJ af){aG:br}(e2:aG.b0=af.b0++[.I (-1)]):fJ aG:=by
 intro i hi;rw[e2]at hi⊢;by_cases e:i<af.b0.length
 .rcases h i e with q | ⟨j,hj,q⟩
  .exact bB (by rw[gh e];exact q)
  .exact bE ⟨j,hj,by rw[gh e];exact q⟩
 .rw[ba,dS]at hi;have e3:i=af.b0.length:=by lia
  subst e3;left;rw[gI (cC _),gw];rfl
theorem t9{l:List V}{v:V}{n i:Nat}(e:l.length=n)(h:i=n):(l++[v])[i]?=ae v:=by
 subst h;rw[<- e,gI (cC _),gw];rfl
theorem kH{l X:List V}{v:V}{i:Nat}(q:l[i]?=ae v):(l++X)[i]?=ae v:=by
 rw[gh (jL.mp q).1];exact q
theorem Ea{X:List bk}{B':bw}(e:B'.ag=bC B.ag q B.ag.length++X)(em:B'.cf=B.cf)(hR:∀(a i:Nat),R[a]?=ae (.C i)->i<B.ag.length):∀r∈R,r≠.C q->C B' L ln r=C B L ln r:=by
 intro r aZ aU;cases r with
 | I o=>rfl
 | C i=>
  obtain⟨a,ha⟩:=uh.mp aZ;have hi:=hR a i ha;show O.L ((nn B'.ag i).ch.map aV)=_;rw[e,yk (λh=>aU (by rw[h])) hi];rfl
 | L i=>rfl
 | G j=>rfl
 | B=>show O.L (B'.cf.map .S)=_;rw[em];rfl
 | A=>rfl
theorem Eb{X:List bk}{B':bw}(e:B'.ag=bC B.ag q B.ag.length++X)(hq:q<B.ag.length):C B' L ln (.C q)=.L ((nn B.ag q).ch.map aV++[aV B.ag.length]):=by
 show O.L ((nn B'.ag q).ch.map aV)=_;rw[e,yj hq,cK];rfl
theorem AN{X:List bk}{B':bw}{r:Nat}(e:B'.ag=bC B.ag q B.ag.length++X)(h:(nn X r).ch=[]):C B' L ln (.C (B.ag.length+r))=.L []:=by
 show O.L ((nn B'.ag (B.ag.length+r)).ch.map aV)=_;rw[e,iA,h];rfl
theorem A5{n m:Nat}(h:cW n m B)(aU:n<1000)(i:Nat):((nn B.ag i).ch.map aV).length<aK:=by
 rw[cB];exact fO (h.ch i) (fg aU (aN rfl))
theorem md{bg:Type}{l:List bk}{q j:Nat}(F:bk->bg)(h:∀n,F (BA j n)=F n):(bC l q j).map F=l.map F:=yq F h
theorem xX{n m mb:Nat}(c:cj sc af R B L ln)(w:bz sc p B)(b7:cW n m B)(b:aQ (mb+1) af)(hd:B.done=aP)(aU:n<400){a:Nat}{sp nm aL:aw}(tk:mN R a aL)(nt:sp≠aJ\/nm≠aR):
 ∃aG R',aA ao (k+4) 560 [.R 7,.S nm,.R (a+33),.S sp] (ai af (R.map (C B L ln)))=ae (.I B.ag.length,ai aG (R'.map (C (eQ B sp nm aL) L ln)))/\cj sc aG R' (eQ B sp nm aL) L ln/\bh R R':=by
 have hne:=jj w hd
 obtain⟨hm0,hm1,_⟩:=pD w hne
 have bi:=c.bi
 obtain⟨cc,qc,rc⟩:=bi.child _ hm0 hm1
 obtain⟨ne,d,a1,cF⟩:=tk.at (c:=C B L ln) (λ_=>rfl)
 have kl:af.bo.length=B.ag.length:=by rw[bi.bo,cB]
 have g:(R.map (C B L ln))[cc]?=ae (.L ((nn B.ag B.hm).ch.map aV)):=c2 rc
 have hN:=b7.ag
 have r:=Oi (k:=k) b bi.lu (by rw[bi.jE,kl]) sp nm a1 nt (Bs bi hne) (by rw[kl];exact hm1) (by lia) qc g (A5 b7 (by lia) _)
 rw[kl]at r
 have eN:(eQ B sp nm aL).ag=bC B.ag B.hm B.ag.length++[dg sp nm aL]:=rfl
 have eD:Bo af (R.map (C B L ln)) B.hm cc ((nn B.ag B.hm).ch.map aV) [.R (d+33)]=(R++[aY.I (dh B.hm)]++[aY.I (.L [.R (d+33)])]++[aY.C B.ag.length]).map (C (eQ B sp nm aL) L ln):=by
  unfold Bo;rw[kl,cK,cK,cK,<-oF rc (λb hb=>c.fr.gd b cc (.C B.hm) trivial hb rc) (Ea eN rfl c.fr.ch),Eb eN hm1,cG,cG];have cn:=AN (B:=B) (L:=L) (ln:=ln) (r:=0) eN rfl;show _=_++[dh B.hm,O.L [V.R (d+33)],C (eQ B sp nm aL) L ln (.C (B.ag.length+0))];rw[cn]
 rw[eD]at r
 have f2:=((c.fr.eT (o:=dh B.hm)).eT (o:=.L [.R (d+33)])).q4
 have pf:bh R (R++[aY.I (dh B.hm)]++[aY.I (.L [.R (d+33)])]++[aY.C B.ag.length]):=(bh.app.trans bh.app).trans bh.app
 have Rl:(R.map (C B L ln)).length=R.length:=cB ..
 refine⟨_,_,r,⟨?_,c.li.mono ⟨ab,ab,ab,ab,ab,ab,ab,ab,ab,ab,ab⟩ pf,?_,?_,λx hx=>(c.nb x hx).ex pf.ex x,λx hx=>(c.nl x hx).ex pf.ex x⟩,pf⟩
 .have N1:(eQ B sp nm aL).ag.length=B.ag.length+1:=by rw[eN,ba,jc];rfl
  refine⟨?_,?_,?_,?_,?_,?_,?_,?_,?_,?_,?_,?_,?_,bi.bW,bi.bH,bi.cy,bi.done,?_,bi.d1.ex pf.ex⟩
  .show af.bo++_=_;rw[eN,cK,bi.bo];congr 1;exact(md (λn=>V.S n.aT) λ_=>rfl).symm
  .show af.bY++_=_;rw[eN,cK,bi.bY];congr 1;exact(md (λn=>V.S n.sp) λ_=>rfl).symm
  .show af.names++_=_;rw[eN,cK,bi.names];congr 1;exact(md (λn=>V.S n.nm) λ_=>rfl).symm
  .show af.dH++_=_;rw[eN,cK,bi.dH];congr 1;exact(md (λn=>V.S n.dd) λ_=>rfl).symm
  .show(af.b0++[_]).length=_;rw[N1,ba,bi.jE];rfl
  .exact bi.lu.pE (q:=B.hm) (by rw[bi.jE];exact hm1) rfl rfl
  .show(af.dI++[_]).length=_;rw[N1,ba,bi.kb];rfl
  .intro i h0 h1;show ∃a,(af.dI++[V.R ((R.map (C B L ln)).length+1+33)])[i]?=_/\_;rw[N1]at h1;rw[eN];by_cases hi:i<B.ag.length
   .obtain⟨a,q,u⟩:=bi.dI i h0 hi;rw[hn bk.aL (λ_=>rfl) hi];exact⟨a,kH q,u.ex pf.ex⟩
   .have e:i=B.ag.length:=by lia
    subst e;refine⟨R.length+1,by rw[Rl];exact t9 bi.kb rfl,?_⟩;rw[show(nn (bC B.ag B.hm B.ag.length++[dg sp nm aL]) B.ag.length)=dg sp nm aL from iA (r:=0)];refine bE ⟨ne,d,?_,pf _ _ cF⟩;refine bh.app _ _ ?_;rw[show R.length+1=(R++[aY.I (dh B.hm)]).length by rw[ba];rfl];exact hB
  .show(af.dz++[_]).length=_;rw[N1,ba,bi.kc];rfl
  .intro i h0 h1;show ∃a,(af.dz++[V.R ((R.map (C B L ln)).length+2+33)])[i]?=_/\_;rw[N1]at h1;by_cases hi:i<B.ag.length
   .obtain⟨a,q,u⟩:=bi.child i h0 hi;exact⟨a,kH q,pf _ _ u⟩
   .have e:i=B.ag.length:=by lia
    subst e;refine⟨R.length+2,by rw[Rl];exact t9 bi.kc rfl,?_⟩;rw[show R.length+2=(R++[aY.I (dh B.hm)]++[aY.I (.L [.R (d+33)])]).length by rw[ba,ba];rfl];exact hB
  .intro i;show af.dU.lookup (i:Int)=_;rw[bi.dU i,eN];by_cases hi:i<B.ag.length
   .rw[yi hi]
   .have e:i=B.ag.length+(i-B.ag.length):=by lia
    rw[FG (by lia)]
    have e2:bp (bC B.ag B.hm B.ag.length++[dg sp nm aL]) i=false:=by
     unfold bp;rw[e,iA];cases i-B.ag.length with
     | zero=>
      show(decide (sp=aJ)&&decide (nm=aR))=aP;rcases nt with h | h
      .rw[decide_eq_false h];rfl
      .rw[decide_eq_false h,rt]
     | succ=>rfl
    rw[e2]
  .show af.dU.length<=_;rw[N1];exact d8 bi.cl (fA _)
  .show af.ay++_=_;rw[bi.ay,kl];show _=(B.ay++[B.ag.length]).map aV;rw[cK];rfl
  .rcases bi.am with h | ⟨s,j,h,q⟩
   .exact bB h
   .exact bE ⟨s,j,h,pf _ _ q⟩
 .rw[show(eQ B sp nm aL).ag.length=B.ag.length+1 by rw[eN,ba,jc];rfl];exact f2
 .exact⟨c.bR.ctx,c.bR.f9,c.bR.d5,c.bR.gq,c.bR.eH,c.bR.ed,kH c.bR.mY,c.bR.fc⟩
end
end
section
section
variable{sc p k:Nat}{af:br}{R:List aY}{B L:bw}{ln:Nat->Nat}
theorem pF(bi:lO sc af R B):fQ af (R.map (C B L ln)) (B.cf.map .S):=by
 rcases bi.am with⟨_,h,q⟩ | ⟨_,j,h,q⟩
 .exact bB ⟨h,q⟩
 .exact bE ⟨j,h,c2 q⟩
theorem Pm{B':bw}{nB nL gL:Nat}{ms:List aw}(am:(sc≠1/\af.am=23)\/(sc=1/\∃j,af.am=j+33/\R[j]?=ae .B))(fr:Fr sc R nB nL gL)(e1:B'.ag=B.ag)(e2:B'.cf=ms):iS af (R.map (C B L ln)) (ms.map .S)=R.map (C B' L ln):=by
 have cong:∀r∈R,r≠.B->C B' L ln r=C B L ln r:=by
  intro r _ aU;cases r with
  | C i=>show O.L ((nn B'.ag i).ch.map aV)=_;rw[e1];rfl
  | B=>exact absurd ab aU
  | _=>rfl
 unfold iS;rcases am with⟨s,h⟩ | ⟨_,j,h,q⟩
 .rw[if_pos h];apply Pk;intro r aZ;apply cong r aZ;rintro rfl;obtain⟨a,ha⟩:=uh.mp aZ;exact s (fr.bm a ha)
 .rw[if_neg (by lia),h,mD,<-oF q (λb hb=>fr.gd b j .B trivial hb q) cong];congr 1;show _=O.L (B'.cf.map .S);rw[e2]
theorem qF{gs:List (List Nat)}{g:List Nat}(h:gs≠[]):dM (gs++[g])=dM gs++V.I (-1)::g.map aV:=by
 cases gs with
 | nil=>exact absurd ab h
 | cons x r=>
  show x.map aV++(r++[g]).flatMap _=(x.map aV++r.flatMap _)++_;rw[List.flatMap_append,cG];show x.map aV++(_++((V.I (-1)::g.map aV)++[]))=_;rw[iJ]
theorem Pd{x y:Int}{v:V}:(l:List (Int×V))->(gm x v l).lookup y=if y=x then ae v else l.lookup y
 | []=>by
  show q9 y [(x,v)]=_;rw[gu];by_cases h:y=x
  .rw[if_pos h,show(y==x)=aB from beq_iff_eq.mpr h]
  .rw[if_neg h,show(y==x)=aP from beq_eq_false_iff_ne.mpr h]
 | e::l=>by
  unfold gm;by_cases h1:x=e.1
  .rw[show(x==e.1)=aB from beq_iff_eq.mpr h1,if_pos rfl,gu,gu];by_cases h:y=x
   .rw[if_pos h,show(y==e.1)=aB from beq_iff_eq.mpr (h.trans h1)]
   .rw[if_neg h,show(y==e.1)=aP from beq_eq_false_iff_ne.mpr (h1▸h)]
  .rw[show(x==e.1)=aP from beq_eq_false_iff_ne.mpr h1,if_neg (by decide),gu,gu,Pd l];by_cases h:y=x
   .subst h;rw[if_pos rfl,show(y==e.1)=aP from beq_eq_false_iff_ne.mpr h1];show ae v=if y=y then ae v else _
    rw[if_pos rfl]
   .rw[if_neg h];cases y==e.1<;>exact(if_neg h).symm
noncomputable def lU(B:bw)(aL:aw):bw:={gP B aL with bq:=B.bq++[[]],cf:=B.cf++[cX],bH:=cX,cy:=aP}
noncomputable def tg(R:List aY)(B:bw)(d:Nat):List aY:=R++[aY.I (dh B.hm)]++[aY.I (.L [.R (d+33)])]++[aY.C B.ag.length]++[aY.I (.L [])]++[aY.C (B.ag.length+1)]
theorem RU{l:List V}{u v:V}{n i:Nat}(e:l.length=n)(h:i=n+1):(l++[u]++[v])[i]?=ae v:=t9 (by rw[ba,e];rfl) h
theorem LN{n m mb:Nat}(c:cj sc af R B L ln)(w:bz sc p B)(b7:cW n m B)(b:aQ (mb+3) af)(hd:B.done=aP)(aU:n<400){t a:Nat}{aL:aw}{s:Bool}(aC:R[t]?=ae (.I (.T [.S bO,.S aR,.R (a+33),.B s])))(tk:mN R a aL):
 ∃aG R',aA ao (k+6) 609 [.R 7,.R (t+33)] (ai af (R.map (C B L ln)))=ae (.N,ai aG (R'.map (C (lU B aL) L ln)))/\cj sc aG R' (lU B aL) L ln/\bh R R':=by
 have hne:=jj w hd
 obtain⟨hm0,hm1,_⟩:=pD w hne
 have bi:=c.bi
 obtain⟨cc,qc,rc⟩:=bi.child _ hm0 hm1
 obtain⟨ne,d,a1,cF⟩:=tk.at (c:=C B L ln) (λ_=>rfl)
 have kl:af.bo.length=B.ag.length:=by rw[bi.bo,cB]
 have nl:af.names.length=B.ag.length:=by rw[bi.names,cB]
 have g:(R.map (C B L ln))[cc]?=ae (.L ((nn B.ag B.hm).ch.map aV)):=c2 rc
 have hN:=b7.ag
 have hf1:af.f9≠-1:=by rw[c.bR.f9];decide
 have hf2:af.f9≠af.ctx:=by rw[c.bR.f9,c.bR.ctx];split<;>decide
 have hc:af.am≠cc+33:=by
  rcases bi.am with⟨_,h,_⟩ | ⟨_,j,h,q⟩
  .lia
  .intro e;have e2:j=cc:=by lia
   rw[e2,rc]at q;cases q
 have wm:(B.cf.map V.S).length<aK:=by
  rw[cB];exact fO b7.cf (fg aU (aN rfl))
 have r:=ach (k:=k) (aT:=.S bO) (at':=.R (a+33)) (tl:=[.B s]) b bi.lu (by rw[bi.jE,kl]) (by rw[nl,kl]) hf1 hf2 (c2 aC) (aN (n:=4) (m:=aK) rfl) a1 (Bs bi hne) (by rw[kl];exact hm1) (by lia) qc g (A5 b7 (by lia) _) (pF bi) hc wm
 have eN:(gP B aL).ag=bC B.ag B.hm B.ag.length++[dg aJ aR aL,eX]:=rfl
 have N1:(lU B aL).ag.length=B.ag.length+2:=by
  show(bC B.ag B.hm B.ag.length++[dg aJ aR aL,eX]).length=_;rw[ba,jc];rfl
 have eD:m9 af (R.map (C B L ln)) B.hm cc ((nn B.ag B.hm).ch.map aV) [.R (d+33)]=(tg R B d).map (C (gP B aL) L ln):=by
  unfold m9 tg;have cn:=AN (B:=B) (L:=L) (ln:=ln) (r:=0) eN rfl;have cn1:=AN (B:=B) (L:=L) (ln:=ln) (r:=1) eN rfl;rw[kl,cK,cK,cK,cK,cK,<-oF rc (λb hb=>c.fr.gd b cc (.C B.hm) trivial hb rc) (Ea eN rfl c.fr.ch),Eb eN hm1,cG,cG,cG,cG];show _=_++[dh B.hm,O.L [V.R (d+33)],C (gP B aL) L ln (.C (B.ag.length+0)),O.L [],C (gP B aL) L ln (.C (B.ag.length+1))];rw[cn,cn1]
 have f2:Fr sc (tg R B d) (B.ag.length+2) L.ag.length L.bq.length:=((((c.fr.eT (o:=dh B.hm)).eT (o:=.L [.R (d+33)])).q4).eT (o:=.L [])).q4
 have pf:bh R (tg R B d):=(((bh.app.trans bh.app).trans bh.app).trans bh.app).trans bh.app
 have am:(sc≠1/\af.am=23)\/(sc=1/\∃j,af.am=j+33/\(tg R B d)[j]?=ae .B):=by
  rcases bi.am with⟨s,h,_⟩ | ⟨s,j,h,q⟩
  .exact bB ⟨s,h⟩
  .exact bE ⟨s,j,h,pf _ _ q⟩
 have eM:iS (th af (R.map (C B L ln)) B.hm) ((tg R B d).map (C (gP B aL) L ln)) (B.cf.map .S++[.S cX])=(tg R B d).map (C (lU B aL) L ln):=by
  have:=Pm (af:=th af (R.map (C B L ln)) B.hm) (B:=gP B aL) (B':=lU B aL) (L:=L) (ln:=ln) (ms:=B.cf++[cX]) am f2 rfl rfl;rw[cK]at this;exact this
 rw[eD,eM]at r
 have Rl:(R.map (C B L ln)).length=R.length:=cB ..
 have Rl1:(R.map (C B L ln)++[dh B.hm]).length=R.length+1:=by rw[ba,Rl];rfl
 refine⟨_,_,r,⟨?_,c.li.mono ⟨ab,ab,ab,ab,ab,ab,ab,ab,ab,ab,ab⟩ pf,?_,?_,λx hx=>(c.nb x hx).ex pf.ex x,λx hx=>(c.nl x hx).ex pf.ex x⟩,pf⟩
 .refine⟨?_,?_,?_,?_,?_,?_,?_,?_,?_,?_,?_,?_,?_,?_,ab,ab,bi.done,?_,bi.d1.ex pf.ex⟩
  .show af.bo++_++_=(bC B.ag B.hm B.ag.length++[dg aJ aR aL,eX]).map _;rw[cK,bi.bo,md (λn=>V.S n.aT) λ_=>rfl,cG];rfl
  .show af.bY++_++_=(bC B.ag B.hm B.ag.length++[dg aJ aR aL,eX]).map _;rw[cK,bi.bY,md (λn=>V.S n.sp) λ_=>rfl,cG];rfl
  .show af.names++_++_=(bC B.ag B.hm B.ag.length++[dg aJ aR aL,eX]).map _;rw[cK,bi.names,md (λn=>V.S n.nm) λ_=>rfl,cG];rfl
  .show af.dH++_++_=(bC B.ag B.hm B.ag.length++[dg aJ aR aL,eX]).map _;rw[cK,bi.dH,md (λn=>V.S n.dd) λ_=>rfl,cG];rfl
  .show(af.b0++[_]++[_]).length=_;rw[N1,ba,ba,bi.jE];rfl
  .have iU:fJ {af with b0:=af.b0++[V.I B.hm]}:=bi.lu.pE (q:=B.hm) (by rw[bi.jE];exact hm1) rfl rfl;exact iU.C8 rfl
  .show(af.dI++[_]++[_]).length=_;rw[N1,ba,ba,bi.kb];rfl
  .intro i h0 h1;show ∃a,(af.dI++[V.R ((R.map (C B L ln)++[dh B.hm]).length+33)]++[V.R ((R.map (C B L ln)++[dh B.hm]).length+2+33)])[i]?=_/\nY _ a (nn (bC B.ag B.hm B.ag.length++[dg aJ aR aL,eX]) i).aL;rw[N1]at h1;rw[Rl1];by_cases hi:i<B.ag.length
   .obtain⟨a,q,u⟩:=bi.dI i h0 hi;rw[hn bk.aL (λ_=>rfl) hi];exact⟨a,kH (kH q),u.ex pf.ex⟩
   .by_cases e:i=B.ag.length
    .subst e;refine⟨R.length+1,kH (t9 bi.kb rfl),?_⟩;rw[show(nn (bC B.ag B.hm B.ag.length++[dg aJ aR aL,eX]) B.ag.length)=dg aJ aR aL from iA (r:=0)];refine bE ⟨ne,d,?_,pf _ _ cF⟩;refine bh.app _ _ (bh.app _ _ (bh.app _ _ ?_));rw[show R.length+1=(R++[aY.I (dh B.hm)]).length by rw[ba];rfl];exact hB
    .have e:i=B.ag.length+1:=by lia
     subst e;refine⟨R.length+3,RU bi.kb rfl,?_⟩;rw[show(nn (bC B.ag B.hm B.ag.length++[dg aJ aR aL,eX]) (B.ag.length+1))=eX from iA (r:=1)];refine bB ⟨rfl,?_⟩;refine bh.app _ _ ?_;rw[show R.length+3=(R++[aY.I (dh B.hm)]++[aY.I (.L [.R (d+33)])]++[aY.C B.ag.length]).length by rw[ba,ba,ba];rfl];exact hB
  .show(af.dz++[_]++[_]).length=_;rw[N1,ba,ba,bi.kc];rfl
  .intro i h0 h1;show ∃a,(af.dz++[V.R ((R.map (C B L ln)++[dh B.hm]).length+1+33)]++[V.R ((R.map (C B L ln)++[dh B.hm]).length+3+33)])[i]?=_/\_;rw[N1]at h1;rw[Rl1];by_cases hi:i<B.ag.length
   .obtain⟨a,q,u⟩:=bi.child i h0 hi;exact⟨a,kH (kH q),pf _ _ u⟩
   .by_cases e:i=B.ag.length
    .subst e;refine⟨R.length+2,kH (t9 bi.kc rfl),?_⟩;refine bh.app _ _ (bh.app _ _ ?_);rw[show R.length+2=(R++[aY.I (dh B.hm)]++[aY.I (.L [.R (d+33)])]).length by rw[ba,ba];rfl];exact hB
    .have e:i=B.ag.length+1:=by lia
     subst e;refine⟨R.length+4,RU bi.kc rfl,?_⟩;rw[show R.length+4=(R++[aY.I (dh B.hm)]++[aY.I (.L [.R (d+33)])]++[aY.C B.ag.length]++[aY.I (.L [])]).length by rw[ba,ba,ba,ba];rfl];exact hB
  .intro i;show(gm (af.bo.length:Int) (.I (af.bo.length+1:Nat)) af.dU).lookup (i:Int)=if bp (bC B.ag B.hm B.ag.length++[dg aJ aR aL,eX]) i=aB then _ else _
   rw[Pd,kl];by_cases e:i=B.ag.length
   .subst e;rw[if_pos rfl]
    have:bp (bC B.ag B.hm B.ag.length++[dg aJ aR aL,eX]) B.ag.length=true:=by
     unfold bp;rw[show(nn (bC B.ag B.hm B.ag.length++[dg aJ aR aL,eX]) B.ag.length)=dg aJ aR aL from iA (r:=0)];rfl
    rw[this,if_pos rfl]
   .rw[if_neg (by lia),bi.dU i];by_cases hi:i<B.ag.length
    .rw[yi hi]
    .rw[FG (by lia)]
     have e2:bp (bC B.ag B.hm B.ag.length++[dg aJ aR aL,eX]) i=false:=by
      unfold bp;rw[show i=B.ag.length+(i-B.ag.length-1+1) by lia,iA];cases i-B.ag.length-1 with
      | zero=>rfl
      | succ=>rfl
     rw[e2]
  .show(gm (af.bo.length:Int) (.I (af.bo.length+1:Nat)) af.dU).length<=_;have:=wu (x:=(af.bo.length:Int)) (v:=.I (af.bo.length+1:Nat)) af.dU;have:=bi.cl;lia
  .show af.ay++_=(B.ay++[B.ag.length]).map aV;rw[bi.ay,kl,cK];rfl
  .show af.bW++_=dM (B.bq++[[]]);rw[bi.bW,qF w.dA];rfl
  .rcases bi.am with⟨s,h,_⟩ | ⟨s,j,h,q⟩
   .refine bB ⟨s,h,?_⟩;show(if af.am=23 then _ else _)=(B.cf++[cX]).map V.S;rw[if_pos h,cK];rfl
   .exact bE ⟨s,j,h,pf _ _ q⟩
 .rw[N1];exact f2
 .refine⟨c.bR.ctx,c.bR.f9,c.bR.d5,c.bR.gq,?_,c.bR.ed,kH (kH c.bR.mY),c.bR.fc⟩;intro s;show(if af.am=23 then _ else af.eH)=[];rcases bi.am with⟨s',h,_⟩ | ⟨_,j,h,q⟩
  .exact absurd s s'
  .rw[if_neg (by lia)];exact c.bR.eH s
end
end
section
section
variable{sc p k:Nat}{af:br}{R:List aY}{B L:bw}{ln:Nat->Nat}
theorem aaX{bg:Type}{l:List bk}{j:Nat}{f:bk->bk}(F:bk->bg):(l.modify j f).map F=(l.map F).set j (F (f (nn l j))):=by
 apply Ar;intro i;rw[jo,Am,Te,jo,cB];by_cases e:j=i
 .subst e;by_cases h:j<l.length
  .rw[if_pos rfl,if_pos h,F9 h];show ae (F (if j=j then f (nn l j)else nn l j))=_;rw[if_pos rfl]
  .rw[if_pos rfl,if_neg h,DR (by lia)];rfl
 .rw[if_neg e];cases l[i]? with
  | none=>rfl
  | some x=>
   show ae (F (if j=i then f x else x))=ae (F x);rw[if_neg e]
theorem FF{l:List bk}{j i:Nat}{f:bk->bk}(h1:∀n,(f n).sp=n.sp)(aD:∀n,(f n).nm=n.nm):bp (l.modify j f) i=bp l i:=by
 unfold bp;rw[kh bk.sp h1,kh bk.nm aD]
theorem rN(c:cj sc af R B L ln){x:iq}(hx:ir R x):cj sc {af with d1:=af.d1++[.R (R.length+33)]} (R++[aY.I (gU x)]) (mR B x) L ln:=by
 have pf:bh R (R++[aY.I (gU x)]):=bh.app;have b:=c.bi;refine⟨⟨b.bo,b.bY,b.names,b.dH,b.jE,b.lu,b.kb,?_,b.kc,?_,b.dU,b.cl,b.ay,b.bW,b.bH,b.cy,b.done,?_,.S (b.d1.ex pf.ex) hB⟩,c.li.mono ⟨ab,ab,ab,ab,ab,ab,ab,ab,ab,ab,ab⟩ pf,c.fr.eT,⟨c.bR.ctx,c.bR.f9,c.bR.d5,c.bR.gq,c.bR.eH,c.bR.ed,c.bR.mY,c.bR.fc⟩,?_,λx hx=>(c.nl x hx).ex pf.ex x⟩
 .intro i h0 h1;obtain⟨a,q,u⟩:=b.dI i h0 h1;exact⟨a,q,u.ex pf.ex⟩
 .intro i h0 h1;obtain⟨a,q,u⟩:=b.child i h0 h1;exact⟨a,q,pf _ _ u⟩
 .rcases b.am with q | ⟨s,j,q,u⟩
  .exact bB q
  .exact bE ⟨s,j,q,pf _ _ u⟩
 .intro y hy;rcases gW.mp hy with hy | hy
  .exact(c.nb y hy).ex pf.ex y
  .rw[dx.mp hy];exact hx.ex pf.ex x
theorem r_{x:iq}:R.map (C B L ln)++[gU x]=(R++[aY.I (gU x)]).map (C (mR B x) L ln):=by rw[cK];rfl
theorem oj(c:cj sc af R B L ln){X:List O}:cj sc af (R++X.map aY.I) B L ln:=by
 have pf:bh R (R++X.map aY.I):=bh.app;refine⟨c.bi.mono ab pf.ex,c.li.mono ⟨ab,ab,ab,ab,ab,ab,ab,ab,ab,ab,ab⟩ pf,?_,c.bR,λx hx=>(c.nb x hx).ex pf.ex x,λx hx=>(c.nl x hx).ex pf.ex x⟩
 have:∀X:List O,∀R:List aY,Fr sc R B.ag.length L.ag.length L.bq.length->Fr sc (R++X.map aY.I) B.ag.length L.ag.length L.bq.length:=by
  intro X;induction X with
  | nil=>intro R h;rw[D0,iJ];exact h
  | cons x X ih=>
   intro R h;have:=ih (R++[aY.I x]) h.eT;rw[cG]at this;exact this
 exact this X R c.fr
theorem oy{X:List O}:R.map (C B L ln)++X=(R++X.map aY.I).map (C B L ln):=by
 rw[cK,pU];congr 1;exact(Kt X).symm
theorem A7(c:cj sc af R B L ln){st:List Nat}:cj sc {af with ay:=st.map aV} R {B with ay:=st} L ln:=by
 have b:=c.bi;exact⟨⟨b.bo,b.bY,b.names,b.dH,b.jE,b.lu,b.kb,b.dI,b.kc,b.child,b.dU,b.cl,ab,b.bW,b.bH,b.cy,b.done,b.am,b.d1⟩,c.li.mono ⟨ab,ab,ab,ab,ab,ab,ab,ab,ab,ab,ab⟩ bh.iX,c.fr,⟨c.bR.ctx,c.bR.f9,c.bR.d5,c.bR.gq,c.bR.eH,c.bR.ed,c.bR.mY,c.bR.fc⟩,c.nb,c.nl⟩
theorem WE{n m mb:Nat}(c:cj sc af R B L ln)(w:bz sc p B)(b7:cW n m B)(b:aQ mb af)(hd:B.done=aP)(aU:n<400){j:Nat}{aX:aw}(hj:(nn B.ag B.hm).ch.getLast?=ae j)(kj:(nn B.ag j).aT=gQ)(hs:aX.length=1):
 ∃aG R',aA ao (k+3) 543 [.R 7,.S aX] (ai af (R.map (C B L ln)))=ae (.N,ai aG (R'.map (C (jt B j aX) L ln)))/\cj sc aG R' (jt B j aX) L ln/\bh R R':=by
 have hne:=jj w hd
 obtain⟨hm0,hm1,a7⟩:=pD w hne
 have bi:=c.bi
 obtain⟨cc,qc,rc⟩:=bi.child _ hm0 hm1
 have g:(R.map (C B L ln))[cc]?=ae (.L ((nn B.ag B.hm).ch.map aV)):=c2 rc
 have jl:=(w.ch _ _ (DS hj)).2.1
 have r:=aeR (k:=k) (aX:=aX) (dd:=(nn B.ag j).dd) (aT:=(nn B.ag B.hm).aT) b (Bs bi hne) (by rw[bi.bo];exact gT hm1) (by rcases a7 with h | h<;>rw[h]<;>decide) qc g (A5 b7 (by lia) _) (FL hj) (by rw[bi.bo,gT jl,kj]) (by rw[bi.dH];exact gT jl) (by rw[bi.dH,cB];exact jl) (fO (b7.dd j) (fg aU (aN rfl))) (by rw[hs];exact aN rfl)
 have eD:R.map (C B L ln)++[dh B.hm]=(R++[aY.I (dh B.hm)]).map (C (jt B j aX) L ln):=by
  rw[cK];congr 1;apply j7;intro r _;cases r with
  | C i=>
   show _=O.L ((nn (B.ag.modify j (cU aX)) i).ch.map aV);rw[kh (f:=cU aX) bk.ch λ_=>rfl];rfl
  | _=>rfl
 rw[eD]at r
 have pf:bh R (R++[aY.I (dh B.hm)]):=bh.app
 have N1:(jt B j aX).ag.length=B.ag.length:=xB ..
 refine⟨_,_,r,⟨?_,c.li.mono ⟨rfl,rfl,rfl,rfl,rfl,rfl,rfl,rfl,rfl,rfl,rfl⟩ pf,by rw[N1];exact c.fr.eT,⟨c.bR.ctx,c.bR.f9,c.bR.d5,c.bR.gq,c.bR.eH,c.bR.ed,c.bR.mY,c.bR.fc⟩,λx hx=>(c.nb x hx).ex pf.ex x,λx hx=>(c.nl x hx).ex pf.ex x⟩,pf⟩
 refine⟨?_,?_,?_,?_,?_,bi.lu,?_,?_,?_,?_,?_,?_,bi.ay,bi.bW,bi.bH,bi.cy,bi.done,?_,bi.d1.ex pf.ex⟩
 .show af.bo=(B.ag.modify j (cU aX)).map _;rw[yq (f:=cU aX) (λn=>V.S n.aT) λ_=>rfl];exact bi.bo
 .show af.bY=(B.ag.modify j (cU aX)).map _;rw[yq (f:=cU aX) (λn=>V.S n.sp) λ_=>rfl];exact bi.bY
 .show af.names=(B.ag.modify j (cU aX)).map _;rw[yq (f:=cU aX) (λn=>V.S n.nm) λ_=>rfl];exact bi.names
 .show af.dH.set j (.S ((nn B.ag j).dd++aX))=(B.ag.modify j (cU aX)).map _;rw[aaX,bi.dH];rfl
 .rw[N1];exact bi.jE
 .rw[N1];exact bi.kb
 .intro i h0 h1;rw[N1]at h1;obtain⟨a,q,u⟩:=bi.dI i h0 h1;refine⟨a,q,?_⟩;show nY _ a (nn (B.ag.modify j (cU aX)) i).aL;rw[kh (f:=cU aX) bk.aL λ_=>rfl];exact u.ex pf.ex
 .rw[N1];exact bi.kc
 .intro i h0 h1;rw[N1]at h1;obtain⟨a,q,u⟩:=bi.child i h0 h1;exact⟨a,q,pf _ _ u⟩
 .intro i;have:bp (jt B j aX).ag i=bp B.ag i:=FF (f:=cU aX) (λ_=>rfl) λ_=>rfl;rw[this];exact bi.dU i
 .rw[N1];exact bi.cl
 .rcases bi.am with q | ⟨s,j,q,u⟩
  .exact bB q
  .exact bE ⟨s,j,q,pf _ _ u⟩
noncomputable def DG(R:List aY)(B:bw):List aY:=R++[aY.I (dh B.hm)]++[aY.I (.T [])]++[aY.I (.L [])]++[aY.C B.ag.length]
theorem LP{n m mb:Nat}(c:cj sc af R B L ln)(w:bz sc p B)(b7:cW n m B)(b:aQ (mb+1) af)(hd:B.done=aP)(aU:n<400){aX:aw}(hj:∀j,(nn B.ag B.hm).ch.getLast?=ae j->(nn B.ag j).aT≠gQ):
 ∃aG R',aA ao (k+4) 543 [.R 7,.S aX] (ai af (R.map (C B L ln)))=ae (.N,ai aG (R'.map (C (jV B aX) L ln)))/\cj sc aG R' (jV B aX) L ln/\bh R R':=by
 have hne:=jj w hd
 obtain⟨hm0,hm1,a7⟩:=pD w hne
 have bi:=c.bi
 obtain⟨cc,qc,rc⟩:=bi.child _ hm0 hm1
 have kl:af.bo.length=B.ag.length:=by rw[bi.bo,cB]
 have g:(R.map (C B L ln))[cc]?=ae (.L ((nn B.ag B.hm).ch.map aV)):=c2 rc
 have hN:=b7.ag
 have hl:(nn B.ag B.hm).ch.map aV=[]\/∃(j:Nat)(kj:aw),((nn B.ag B.hm).ch.map aV).getLast?=ae (.I j)/\af.bo[j]?=ae (.S kj)/\kj≠gQ:=by
  cases h:(nn B.ag B.hm).ch.getLast? with
  | none=>left;rw[SH.mp h];rfl
  | some j=>exact bE ⟨j,(nn B.ag j).aT,FL h,by rw[bi.bo];exact gT (w.ch _ _ (DS h)).2.1,hj j h⟩
 have r:=aeS (k:=k) (aX:=aX) (aT:=(nn B.ag B.hm).aT) b bi.lu (by rw[bi.jE,kl]) (Bs bi hne) (by rw[kl];exact hm1) (by lia) (by rw[bi.bo];exact gT hm1) (by rcases a7 with h | h<;>rw[h]<;>decide) qc g (A5 b7 (by lia) _) hl
 rw[kl]at r
 have eN:(jV B aX).ag=bC B.ag B.hm B.ag.length++[jI aX]:=rfl
 have eD:(R.map (C B L ln)).set cc (.L ((nn B.ag B.hm).ch.map aV++[aV B.ag.length]))++[dh B.hm,.T [],.L [],.L []]=(DG R B).map (C (jV B aX) L ln):=by
  unfold DG;have cn:=AN (B:=B) (L:=L) (ln:=ln) (r:=0) eN rfl;rw[cK,cK,cK,cK,<-oF rc (λb hb=>c.fr.gd b cc (.C B.hm) trivial hb rc) (Ea eN rfl c.fr.ch),Eb eN hm1,cG,cG,cG];show _=_++[dh B.hm,O.T [],O.L [],C (jV B aX) L ln (.C (B.ag.length+0))];rw[cn]
 rw[eD]at r
 have f2:Fr sc (DG R B) (B.ag.length+1) L.ag.length L.bq.length:=(((c.fr.eT (o:=dh B.hm)).eT (o:=.T [])).eT (o:=.L [])).q4
 have pf:bh R (DG R B):=((bh.app.trans bh.app).trans bh.app).trans bh.app
 have Rl:(R.map (C B L ln)).length=R.length:=cB ..
 have N1:(jV B aX).ag.length=B.ag.length+1:=by rw[eN,ba,jc];rfl
 refine⟨_,_,r,⟨?_,c.li.mono ⟨rfl,rfl,rfl,rfl,rfl,rfl,rfl,rfl,rfl,rfl,rfl⟩ pf,by rw[N1];exact f2,⟨c.bR.ctx,c.bR.f9,c.bR.d5,c.bR.gq,c.bR.eH,c.bR.ed,kH c.bR.mY,c.bR.fc⟩,λx hx=>(c.nb x hx).ex pf.ex x,λx hx=>(c.nl x hx).ex pf.ex x⟩,pf⟩
 refine⟨?_,?_,?_,?_,?_,?_,?_,?_,?_,?_,?_,?_,bi.ay,bi.bW,bi.bH,bi.cy,bi.done,?_,bi.d1.ex pf.ex⟩
 .show af.bo++_=(bC B.ag B.hm B.ag.length++[jI aX]).map _;rw[cK,bi.bo,md (λn=>V.S n.aT) λ_=>rfl];rfl
 .show af.bY++_=(bC B.ag B.hm B.ag.length++[jI aX]).map _;rw[cK,bi.bY,md (λn=>V.S n.sp) λ_=>rfl];rfl
 .show af.names++_=(bC B.ag B.hm B.ag.length++[jI aX]).map _;rw[cK,bi.names,md (λn=>V.S n.nm) λ_=>rfl];rfl
 .show af.dH++_=(bC B.ag B.hm B.ag.length++[jI aX]).map _;rw[cK,bi.dH,md (λn=>V.S n.dd) λ_=>rfl];rfl
 .show(af.b0++[_]).length=_;rw[N1,ba,bi.jE];rfl
 .exact bi.lu.pE (q:=B.hm) (by rw[bi.jE];exact hm1) rfl rfl
 .show(af.dI++[_]).length=_;rw[N1,ba,bi.kb];rfl
 .intro i h0 h1;show ∃a,(af.dI++[V.R ((R.map (C B L ln)).length+2+33)])[i]?=_/\nY _ a (nn (bC B.ag B.hm B.ag.length++[jI aX]) i).aL;rw[N1]at h1;by_cases hi:i<B.ag.length
  .obtain⟨a,q,u⟩:=bi.dI i h0 hi;rw[hn bk.aL (λ_=>rfl) hi];exact⟨a,kH q,u.ex pf.ex⟩
  .have e:i=B.ag.length:=by lia
   subst e;refine⟨R.length+2,by rw[Rl];exact t9 bi.kb rfl,?_⟩;rw[show(nn (bC B.ag B.hm B.ag.length++[jI aX]) B.ag.length)=jI aX from iA (r:=0)];refine bB ⟨rfl,?_⟩;refine bh.app _ _ ?_;rw[show R.length+2=(R++[aY.I (dh B.hm)]++[aY.I (.T [])]).length by rw[ba,ba];rfl];exact hB
 .show(af.dz++[_]).length=_;rw[N1,ba,bi.kc];rfl
 .intro i h0 h1;show ∃a,(af.dz++[V.R ((R.map (C B L ln)).length+3+33)])[i]?=_/\_;rw[N1]at h1;by_cases hi:i<B.ag.length
  .obtain⟨a,q,u⟩:=bi.child i h0 hi;exact⟨a,kH q,pf _ _ u⟩
  .have e:i=B.ag.length:=by lia
   subst e;refine⟨R.length+3,by rw[Rl];exact t9 bi.kc rfl,?_⟩;rw[show R.length+3=(R++[aY.I (dh B.hm)]++[aY.I (.T [])]++[aY.I (.L [])]).length by rw[ba,ba,ba];rfl];exact hB
 .intro i;show af.dU.lookup (i:Int)=_;rw[bi.dU i,eN];by_cases hi:i<B.ag.length
  .rw[yi hi]
  .rw[FG (by lia)]
   have e2:bp (bC B.ag B.hm B.ag.length++[jI aX]) i=false:=by
    unfold bp;rw[show i=B.ag.length+(i-B.ag.length) by lia,iA];cases i-B.ag.length with
    | zero=>rfl
    | succ=>rfl
   rw[e2]
 .show af.dU.length<=_;rw[N1];exact d8 bi.cl (fA _)
 .rcases bi.am with q | ⟨s,j,q,u⟩
  .exact bB q
  .exact bE ⟨s,j,q,pf _ _ u⟩
noncomputable def ju(B:bw)(aX:aw):bw:=match(nn B.ag B.hm).ch.getLast? with
 | some j=>if (nn B.ag j).aT=gQ then jt B j aX else jV B aX
 | none=>jV B aX
theorem EZ{n m mb:Nat}(c:cj sc af R B L ln)(w:bz sc p B)(b7:cW n m B)(b:aQ (mb+1) af)(hd:B.done=aP)(aU:n<400){aX:aw}(hs:aX.length=1):
 ∃aG R',aA ao (k+4) 543 [.R 7,.S aX] (ai af (R.map (C B L ln)))=ae (.N,ai aG (R'.map (C (ju B aX) L ln)))/\cj sc aG R' (ju B aX) L ln/\bh R R':=by
 unfold ju
 cases h:(nn B.ag B.hm).ch.getLast? with
 | none=>exact LP c w b7 b hd aU λj hj=>by rw[h]at hj;cases hj
 | some j=>
  dsimp only
  by_cases e:(nn B.ag j).aT=gQ
  .rw[if_pos e];exact WE (k:=k+1) c w b7 b.w hd aU h e hs
  .rw[if_neg e];exact LP c w b7 b hd aU λj' hj=>by rw[h]at hj;cases hj;exact e
end
end
section
section
variable{f g:Nat->aw}{mm:aw}
noncomputable def jB(sc:Nat)(f g:Nat->aw)(ms:List aw)(r:List Nat):aw:=r.foldl (gD f g ((ms.getLast?).getD [])) (if sc=1 then(ms.head?).getD []else ec)
theorem aa9:∀e∈oG,e.2≠[]:=by decide
theorem lb{x v:aw}:(l:List (aw×aw))->l.lookup x=ae v->∃e∈l,e.2=v
 | [],h=>by cases h
 | e::l,h=>by
  rw[gu]at h;cases q:x==e.1 with
  | true=>rw[q]at h;cases h;exact⟨e,fa ..,rfl⟩
  | false=>
   rw[q]at h;obtain⟨e',h1,aD⟩:=lb l h;exact⟨e',eV _ h1,aD⟩
theorem HT{m0 ml:aw}(h0:(if m0=[]then ec else m0)=ml):(r:List Nat)->(∀i∈r,(f i=aJ\/f i=cY)/\g i∈fx)->(∀i∈r,du f g aR i=aB->mm≠[])->nu f g mm m0 r=r.reverse.foldl (gD f g mm) ml
 | [],_,_=>h0
 | x::r,aZ,aC=>by
  have ih:=HT h0 r (λi hi=>aZ i (eV _ hi)) (λi hi=>aC i (eV _ hi));obtain⟨hx,hg⟩:=aZ x (fa ..);obtain⟨_,_,_,n4⟩:=F7 hg;rw[xm,Tf,<-ih];show _=gD f g mm (nu f g mm m0 r) x
  have dN:hZ f g mm x=[]->nu f g mm m0 (x::r)=nu f g mm m0 r:=by
   intro h;unfold nu
   have:mf f g mm m0 (x::r)=mf f g mm m0 r:=by
    show(if hZ f g mm x=[]then mf f g mm m0 r else hZ f g mm x)=_;rw[if_pos h]
   rw[this]
  have turn:hZ f g mm x≠[]->nu f g mm m0 (x::r)=hZ f g mm x:=by
   intro h;unfold nu
   have:mf f g mm m0 (x::r)=hZ f g mm x:=by
    show(if hZ f g mm x=[]then mf f g mm m0 r else hZ f g mm x)=_;rw[if_neg h]
   rw[this,if_neg h]
  unfold gD;by_cases e1:f x=aJ
  .by_cases e2:g x=aR
   .have t:du f g aR x=true:=by unfold du;rw[decide_eq_true e1,decide_eq_true e2];rfl
    have m:hZ f g mm x=mm:=by unfold hZ;rw[if_pos e1,if_pos e2]
    rw[if_pos t,turn (by rw[m];exact aC x (fa ..) t),m]
   .have t:¬du f g aR x=true:=by unfold du;rw[decide_eq_true e1,decide_eq_false e2];decide
    have m:hZ f g mm x=mo (g x):=by unfold hZ;rw[if_pos e1,if_neg e2]
    rw[if_neg t,if_pos e1];have e3:toN.lookup (g x)=oG.lookup (g x):=n4.resolve_left e2;rw[e3];cases q:oG.lookup (g x)with
    | none=>exact dN (by rw[m];unfold mo;rw[q];rfl)
    | some v=>
     have mv:hZ f g mm x=v:=by rw[m];unfold mo;rw[q];rfl
     obtain⟨e,he,hv⟩:=lb oG q;rw[turn (by rw[mv,<-hv];exact aa9 e he),mv];rfl
  .have t:¬du f g aR x=true:=by unfold du;rw[decide_eq_false e1,Bool.false_and];decide
   rw[if_neg t,if_neg e1];exact dN (by unfold hZ;rw[if_neg e1])
theorem fold_any{a b:aw}:(r:List Nat)->(∃i∈r,du f g aR i=aB)->r.foldl (gD f g mm) a=r.foldl (gD f g mm) b
 | [],h=>by obtain⟨i,hi,_⟩:=h;cases hi
 | x::r,h=>by
  show r.foldl (gD f g mm) (gD f g mm a x)=r.foldl (gD f g mm) (gD f g mm b x);by_cases t:du f g aR x=aB
  .unfold gD;rw[if_pos t,if_pos t]
  .obtain⟨i,hi,ti⟩:=h;rcases d_.mp hi with rfl | hi
   .exact absurd ti t
   .exact fold_any r ⟨i,hi,ti⟩
end
section
variable{sc p k:Nat}{af:br}{R:List aY}{B L:bw}{ln:Nat->Nat}
theorem Ob{gs:List (List Nat)}{g:List Nat}{j:Nat}:dM (gs++[g++[j]])=dM (gs++[g])++[aV j]:=by
 cases gs with
 | nil=>
  show(g++[j]).map aV++[]=(g.map aV++[])++[aV j];rw[iJ,iJ,cK];rfl
 | cons x r=>
  rw[qF (o5 _ _),qF (o5 _ _),cK,cG];rfl
theorem Po{v:V}{gs:List (List Nat)}(h:v∈dM gs):v=.I (-1)\/∃g∈gs,∃i∈g,v=aV i:=by
 cases gs with
 | nil=>cases h
 | cons x r=>
  rcases gW.mp h with h | h
  .obtain⟨i,hi,e⟩:=ig.mp h;exact bE ⟨x,fa ..,i,hi,e.symm⟩
  .obtain⟨g,hg,h⟩:=Ts.mp h;rcases d_.mp h with h | h
   .exact bB h
   .obtain⟨i,hi,e⟩:=ig.mp h;exact bE ⟨g,eV _ hg,i,hi,e.symm⟩
theorem Ra(q:Nat):cg q≠[]:=by unfold cg;split<;>exact o5 _ _
theorem EJ(bi:lO sc af R B){i q:Nat}(h0:0<i)(hi:i<B.ag.length)(s:(nn B.ag i).sp=aJ)(n:(nn B.ag i).nm=dK)(e:(nn B.ag i).aL=cg q):gy af (R.map (C B L ln)) i (cg q):=by
 refine⟨by rw[bi.bY,gT hi,s],by rw[bi.names,gT hi,n],?_⟩;obtain⟨a,qa,u⟩:=bi.dI i h0 hi;rcases u with⟨e2,_⟩ | ⟨_,d,d4,cT⟩
 .rw[e]at e2;exact absurd e2 (Ra q)
 .rw[e]at cT;exact⟨a,d,qa,c2 d4,c2 cT⟩
theorem WG{m q:Nat}(c:cj sc af R B L ln)(b:aQ m af){gs:List (List Nat)}{g:List Nat}{j:Nat}(eg:B.bq=gs++[g])(hq:q<14)(hj:0<j/\j<B.ag.length/\(nn B.ag j).sp=aJ/\(nn B.ag j).nm=dK/\(nn B.ag j).aL=cg q)
 (hg:∀g∈B.bq,∀i∈g,0<i/\i<B.ag.length/\(nn B.ag i).sp=aJ/\(nn B.ag i).nm=dK/\∃q',q'<q/\(nn B.ag i).aL=cg q') (hf:(dM B.bq).length<90000):
 aA ao (k+3) 74 [.R 21,.I j] (ai af (R.map (C B L ln)))=ae (.N,ai {af with bW:=af.bW++[aV j]} (R.map (C {B with bq:=gs++[g++[j]]} L ln)))/\cj sc {af with bW:=af.bW++[aV j]} R {B with bq:=gs++[g++[j]]} L ln:=by
 have bi:=c.bi
 obtain⟨h1,aD,h3,h4,h5⟩:=hj
 have r:=Zs (k:=k) (D:=R.map (C B L ln)) b (EJ bi h1 aD h3 h4 h5) (λi hi=>by
  rw[bi.bW]at hi⊢;rw[jn hi];rcases Po (rq hi)with e | ⟨g,hg',i',hi',e⟩
  .exact bB (congrArg ae e)
  .obtain⟨a1,a2,a3,a4,q',hq',a5⟩:=hg g hg' i' hi';refine bE ⟨i',cg q',congrArg ae e,EJ bi a1 a2 a3 a4 a5,?_⟩;intro e2;have:=acC q hq q' (by lia) e2;lia) (by rw[bi.bW];lia)
 refine⟨r,?_⟩
 exact⟨⟨bi.bo,bi.bY,bi.names,bi.dH,bi.jE,bi.lu,bi.kb,bi.dI,bi.kc,bi.child,bi.dU,bi.cl,bi.ay,by show af.bW++_=dM (gs++[g++[j]]);rw[Ob,bi.bW,eg],bi.bH,bi.cy,bi.done,bi.am,bi.d1⟩,c.li.mono ⟨rfl,rfl,rfl,rfl,rfl,rfl,rfl,rfl,rfl,rfl,rfl⟩ bh.iX,c.fr,⟨c.bR.ctx,c.bR.f9,c.bR.d5,c.bR.gq,c.bR.eH,c.bR.ed,c.bR.mY,c.bR.fc⟩,c.nb,c.nl⟩
noncomputable def rG(B:bw)(st:List Nat)(gs:List (List Nat))(ms:List aw)(bZ:aw):bw:={B with ay:=st,bq:=gs,cf:=ms,bH:=bZ}
theorem LO(c:cj sc af R B L ln){st:List Nat}{gs:List (List Nat)}{ms:List aw}{bZ:aw}:cj sc {iT {af with ay:=st.map aV,bW:=dM gs} (ms.map .S)with bH:=bZ} R (rG B st gs ms bZ) L ln:=by
 have bi:=c.bi;refine⟨⟨bi.bo,bi.bY,bi.names,bi.dH,bi.jE,bi.lu,bi.kb,bi.dI,bi.kc,bi.child,bi.dU,bi.cl,ab,ab,ab,bi.cy,bi.done,?_,bi.d1⟩,c.li.mono ⟨ab,ab,ab,ab,ab,ab,ab,ab,ab,ab,ab⟩ bh.iX,c.fr,⟨c.bR.ctx,c.bR.f9,c.bR.d5,c.bR.gq,?_,c.bR.ed,c.bR.mY,c.bR.fc⟩,c.nb,c.nl⟩
 .rcases bi.am with⟨s,h,_⟩ | ⟨s,j,h,q⟩
  .exact bB ⟨s,h,if_pos h⟩
  .exact bE ⟨s,j,h,q⟩
 .intro s;show(if af.am=23 then _ else af.eH)=[];rcases bi.am with⟨s',h,_⟩ | ⟨_,j,h,q⟩
  .exact absurd s s'
  .rw[if_neg (by lia)];exact c.bR.eH s
theorem UO(bi:lO sc af R B):(sc≠1/\af.am=23)\/(sc=1/\∃j,af.am=j+33/\R[j]?=ae .B):=by
 rcases bi.am with⟨s,h,_⟩ | ⟨s,j,h,q⟩
 .exact bB ⟨s,h⟩
 .exact bE ⟨s,j,h,q⟩
theorem RK(c:cj sc af R B L ln){st:List Nat}{gs:List (List Nat)}{ms:List aw}{bZ:aw}:iS af (R.map (C B L ln)) (ms.map .S)=R.map (C (rG B st gs ms bZ) L ln):=Pm (UO c.bi) c.fr ab ab
theorem pG(bi:lO sc af R B){s:List Nat}(h:∀i∈s,i<B.ag.length):jr af B.f B.g s:=λi hi=>⟨by rw[bi.bY];exact gT (h i hi),by rw[bi.names];exact gT (h i hi)⟩
theorem LR{P:Nat->Bool}{l:List Nat}{i:Nat}(h:i∈l)(w:P i=aB):0<l.countP P:=Ao.mpr ⟨i,h,w⟩
theorem oS{l:List aw}(h:l≠[]):∃ms x,l=ms++[x]:=⟨l.dropLast,l.getLast h,(ue h).symm⟩
theorem z_{l:List (List Nat)}(h:l≠[]):∃ms x,l=ms++[x]:=⟨l.dropLast,l.getLast h,(ue h).symm⟩
theorem xP(w:bz sc p B):(cR sc).countP (bp B.ag)=0:=by
 rw[pZ];intro i hi h;have e1:=w.ey;unfold cR at hi;split at hi
 .next s=>
  rcases d_.mp hi with rfl | hi
  .unfold bp at h;rw[e1.1,e1.2]at h;revert h;decide
  .rw[dx.mp hi]at h;unfold bp at h;rw[(w.bQ s).1,(w.bQ s).2]at h;revert h;decide
 .rw[dx.mp hi]at h;unfold bp at h;rw[e1.1,e1.2]at h;revert h;decide
structure Cut(sc:Nat)(B:bw)(r1 r2:List Nat)(t:Nat)(gs:List (List Nat))(g:List Nat)(ms:List aw)(x:aw):Prop where
 st:B.ay=cR sc++r1++t::r2
 aC:bp B.ag t=aB
 aD:∀i∈r2,bp B.ag i=aP
 dA:B.bq=gs++[g]
 bP:gs≠[]
 bZ:B.cf=ms++[x]
 m0:(sc=1->ms≠[])/\∀i∈r1,bp B.ag i=aB->ms≠[]
 jC:sc=1->(∀i∈r1,bp B.ag i=aP)->ms.length=1
theorem Fl{P:Nat->Bool}:(l:List Nat)->(∃i∈l,P i=aB)->∃a t b,l=a++t::b/\P t=aB/\∀i∈b,P i=aP
 | [],h=>by obtain⟨i,hi,_⟩:=h;cases hi
 | x::l,h=>by
  by_cases e:∃i∈l,P i=aB
  .obtain⟨a,t,b,q,h1,aD⟩:=Fl l e;exact⟨x::a,t,b,by rw[q];rfl,h1,aD⟩
  .obtain⟨i,hi,hp⟩:=h;rcases d_.mp hi with rfl | hi
   .exact⟨[],i,l,ab,hp,λj hj=>o4.mpr λq=>e ⟨j,hj,q⟩⟩
   .exact absurd ⟨i,hi,hp⟩ e
theorem uz(w:bz sc p B)(h:∃i∈B.ay,bp B.ag i=aB):∃r1 r2 t gs g ms x,Cut sc B r1 r2 t gs g ms x:=by
 obtain⟨i0,hi0,ti0⟩:=h;rcases w.st with⟨_,e⟩ | ⟨_,r,e,aZ⟩
 .rw[e]at hi0;cases hi0
 .have cb:=xP w
  have hr2:∃i∈r,bp B.ag i=true:=by
   rw[e]at hi0;rcases gW.mp hi0 with hi | hi
   .have:=LR hi ti0;lia
   .exact⟨i0,hi,ti0⟩
  obtain⟨r1,t,r2,er,aC,aD⟩:=Fl r hr2
  have cs:B.ay.countP (bp B.ag)=r1.countP (bp B.ag)+1:=by
   have bf:r2.countP (bp B.ag)=0:=pZ.mpr λi hi=>by rw[aD i hi];decide
   rw[e,er,kR,kR,p4,cb,bf,aC];simp
  have gl:=w.fL;have ml:=w.fM;rw[cs]at gl ml;obtain⟨gs,g,eg⟩:=z_ w.dA;have mne:B.cf≠[]:=by intro q;rw[q,nT]at ml;lia
  obtain⟨ms,x,em⟩:=oS mne;refine⟨r1,r2,t,gs,g,ms,x,⟨by rw[e,er,cG],aC,aD,eg,?_,em,⟨?_,?_⟩,?_⟩⟩
  .intro q;rw[eg,q,p6,dS]at gl;lia
  .intro s q;rw[em,q,if_pos s,p6,dS]at ml;lia
  .intro i hi ti q;have:=LR hi ti;rw[em,q,p6,dS]at ml;lia
  .intro s aU;have:r1.countP (bp B.ag)=0:=pZ.mpr λi hi=>by rw[aU i hi];decide
   rw[em,if_pos s,this,ba,dS]at ml;lia
noncomputable def kX(sc:Nat)(B:bw)(r1:List Nat)(gs:List (List Nat))(ms:List aw):bw:=rG B (cR sc++r1) gs ms (jB sc B.f B.g ms r1)
end
end
section
section
variable{sc p k:Nat}{af:br}{R:List aY}{B L:bw}{ln:Nat->Nat}{r1 r2:List Nat}{t:Nat}{gs:List (List Nat)}{g:List Nat}{ms:List aw}{x:aw}
theorem E2(w:bz sc p B)(ct:Cut sc B r1 r2 t gs g ms x):(∀i∈r1,((nn B.ag i).sp=aJ\/(nn B.ag i).sp=cY)/\(nn B.ag i).nm∈fx)/\(∀i∈r2,((nn B.ag i).sp=aJ\/(nn B.ag i).sp=cY)/\(nn B.ag i).nm∈fx):=by
 rcases w.st with⟨_,e⟩ | ⟨_,r,e,aZ⟩
 .rw[ct.st]at e;have:=congrArg ud e;rw[ba,fH]at this;simp at this
 .have e2:cR sc++(r1++t::r2)=cR sc++r:=by rw[<- e,ct.st,cG]
  have e3:=SP e2;exact⟨λi hi=>aZ i (e3▸iG _ hi),λi hi=>aZ i (e3▸gr _ (eV _ hi))⟩
theorem LS(w:bz sc p B)(ct:Cut sc B r1 r2 t gs g ms x):(∀i∈cR sc,i<B.ag.length)/\(∀i∈r1,i<B.ag.length)/\t<B.ag.length/\(∀i∈r2,i<B.ag.length):=by
 have h:∀i,i∈cR sc++r1++t::r2->i<B.ag.length:=λi hi=>(w.mem i (ct.st▸hi)).2.1;exact⟨λi hi=>h i (iG _ (iG _ hi)),λi hi=>h i (iG _ (gr _ hi)),h t (gr _ (fa ..)),λi hi=>h i (gr _ (eV _ hi))⟩
theorem Lp:0<(cR sc).length:=by unfold cR;split<;>decide
noncomputable def l_(sc:Nat)(ms:List aw):aw:=if sc=0 then ec else if sc=1 then(ms.getLast?).getD []else[]
theorem acg{ms:List aw}(h:ms.length=1):(ms.getLast?).getD []=(ms.head?).getD []:=by
 cases ms with
 | nil=>cases h
 | cons y r=>cases r with
  | nil=>rfl
  | cons=>cases h
theorem aaV(w:bz sc p B)(ct:Cut sc B r1 r2 t gs g ms x):nu B.f B.g ((ms.getLast?).getD []) (l_ sc ms) r1.reverse=jB sc B.f B.g ms r1:=by
 have aZ:=(E2 w ct).1
 have mmne:ms≠[]->(ms.getLast?).getD []≠[]:=by
  intro h;obtain⟨a,y,e⟩:=oS h;have:(ms.getLast?).getD []=y:=by rw[e,gf];rfl
  rw[this];exact(Pn (w.ms y (by rw[ct.bZ,e];exact iG _ (gr _ (o2 _))))).1
 have aC:∀i∈r1.reverse,du B.f B.g aR i=aB->(ms.getLast?).getD []≠[]:=λi hi ti=>mmne (ct.m0.2 i (lM.mp hi) ti);have aU:∀i∈r1.reverse,(B.f i=aJ\/B.f i=cY)/\B.g i∈fx:=λi hi=>aZ i (lM.mp hi);unfold jB;by_cases s1:sc=1
 .have hne:=mmne (ct.m0.1 s1);have e:l_ sc ms=(ms.getLast?).getD []:=by unfold l_;rw[if_neg (by lia),if_pos s1]
  rw[e,HT (ml:=(ms.getLast?).getD []) (if_neg hne) _ aU aC,lL,if_pos s1];by_cases hT:∃i∈r1,bp B.ag i=aB
  .exact fold_any _ hT
  .have l1:=ct.jC s1 λi hi=>o4.mpr λq=>hT ⟨i,hi,q⟩;exact congrArg (λa=>r1.foldl (gD B.f B.g ((ms.getLast?).getD [])) a) (acg l1)
 .rw[if_neg s1]
  have e:(if l_ sc ms=[]then ec else l_ sc ms)=ec:=by
   unfold l_;by_cases s0:sc=0
   .rw[if_pos s0];rfl
   .rw[if_neg s0,if_neg s1];rfl
  rw[HT e _ aU aC,lL]
theorem EV{n m mb:Nat}(c:cj sc af R B L ln)(w:bz sc p B)(b7:cW n m B)(b:aQ mb af)(hmb:mb<=50000)(aU:n<400)(ct:Cut sc B r1 r2 t gs g ms x):
 ∃aG R',aA ao (k+4) 616 [.R 7] (ai af (R.map (C B L ln)))=ae (.N,ai aG (R'.map (C (kX sc B r1 gs ms) L ln)))/\cj sc aG R' (kX sc B r1 gs ms) L ln/\bh R R':=by
 have bi:=c.bi
 obtain⟨gb,n2⟩:=E2 w ct
 obtain⟨l0,l1,l2,l3⟩:=LS w ct
 have c1:=oj c (X:=[oT])
 have bf:=LO c1 (st:=cR sc++r1) (gs:=gs) (ms:=ms) (bZ:=jB sc B.f B.g ms r1)
 have eR:=RK c1 (st:=cR sc++r1) (gs:=gs) (ms:=ms) (bZ:=jB sc B.f B.g ms r1)
 rw[<- oy]at eR
 have qs:af.ay=(cR sc++r1.reverse.reverse).map aV++aV t::(r2.reverse.reverse.map aV):=by
  rw[bi.ay,ct.st,lL,lL,cK,fI]
 have qf:af.bW=dM gs++V.I (-1)::(g.reverse.reverse.map aV):=by
  rw[bi.bW,ct.dA,qF ct.bP,lL]
 have hm:fQ af (R.map (C B L ln)) (ms.map V.S++[.S x]):=by
  have:=pF (L:=L) (ln:=ln) bi;rw[ct.bZ,cK]at this;exact this
 have wm:bb mb (ms.map V.S++[.S x]):=by
  have h1:=b7.cf;have e:(ms.map V.S++[V.S x]).length=B.cf.length:=by rw[ct.bZ,ba,ba,cB];rfl
  unfold bb;lia
 have bA:bb mb ((cR sc++r1).map aV):=bb.cut (r:=aV t::r2.map aV) (by
  have e:(cR sc++r1).map aV++aV t::r2.map aV=af.ay:=by rw[bi.ay,ct.st,cK (l₁:=cR sc++r1)];rfl
  rw[e];exact b.ay)
 have bF:bb mb (dM gs):=bb.cut (qf▸b.bW)
 have kZ:aQ mb (oB af ((cR sc++r1).map aV) (dM gs) (ms.map V.S)):=aQ.ms ((b.st bA).Fp bF) wm.cut
 have r:=aap (k:=k) (D:=R.map (C B L ln)) (f:=B.f) (g:=B.g) (dO:=cR sc) (fD:=r1.reverse) (R:=r2.reverse) (Q:=g.reverse) (F:=dM gs) (ms:=ms.map V.S) (l:=.S x) (t:=t) (mm:=(ms.getLast?).getD []) (m0:=l_ sc ms) b qs qf hm wm
  (pG bi (s:=[t]) (λi hi=>by rw[dx.mp hi];exact l2) t (o2 _))
  (by have h:=ct.aC
      unfold bp at h
      rw[kS,decide_eq_true_iff,decide_eq_true_iff]at h
      unfold fC
      rw[if_pos (show B.f t=aJ from h.1)];exact h.2)
  (pG bi λi hi=>l3 i (lM.mp hi))
  (λi hi=>by
   have h:=ct.aD i (lM.mp hi);unfold fC;intro q;split at q
   .next d4=>
    have:bp B.ag i=true:=by
     unfold bp;rw[kS,decide_eq_true_iff,decide_eq_true_iff];exact⟨d4,q⟩
    rw[h]at this;cases this
   .cases q)
  (by
   have:=b7.ay;rw[ct.st,ba,fH]at this;rw[mC];lia)
  (by
   have:=b7.bW;rw[ct.dA,qF ct.bP,ba,fH,cB]at this;rw[mC];lia)
  Lp
  (by
   have:=b7.ay;rw[ct.st,ba,ba]at this;rw[mC];lia)
  (pG bi λi hi=>l1 i (lM.mp hi))
  (λi hi=>by
   obtain⟨_,h⟩:=gb i (lM.mp hi);obtain⟨h1,aD,_⟩:=F7 h;exact⟨h1,aD⟩)
  (λi hi ti=>by
   obtain⟨a,y,e⟩:=oS (ct.m0.2 i (lM.mp hi) ti);rw[e,cK,gf];exact gf ..)
  (by
   intro u a3;rw[lL];have sp2:(nn B.ag 2).sp=aJ->af.bY[2]?=ae (.S aJ):=λh=>by rw[bi.bY,gT w.nl,h]
   by_cases s0:sc=0
   .subst s0;obtain⟨e1,e2⟩:=w.bQ rfl;have m0e:l_ 0 ms=ec:=rfl;rw[m0e];exact V0 (i0:=2) kZ rfl (Pp (nm:=fm) kZ (by decide) (sp2 e1) (by show af.names[2]?=_;rw[bi.names,gT w.nl,e2]) (by decide) (by decide) (by decide)) u a3
   .obtain⟨e1,e2⟩:=w.bf s0;have mT:cR sc=[1]:=by unfold cR;rw[if_neg s0]
    have hctx:(oB af ((cR sc++r1).map aV) (dM gs) (ms.map V.S)).ctx=((2:Nat):Int):=by
     show af.ctx=_;rw[c.bR.ctx,if_neg s0];rfl
    have hs0:(oB af ((cR sc++r1).map aV) (dM gs) (ms.map V.S)).ay[0]?=ae (.I (1:Nat)):=by
     show((cR sc++r1).map aV)[0]?=_;rw[mT];rfl
    have bl2:((cR sc).length:Int)-1=0:=by rw[mT];rfl
    rw[bl2];refine V1 (c:=2) (i0:=1) kZ hctx hs0 ?_ u a3;by_cases s1:sc=1
    .rw[if_pos s1]at e2;have m0e:l_ sc ms=(ms.getLast?).getD []:=by unfold l_;rw[if_neg s0,if_pos s1]
     rw[m0e];have ly:=pF (L:=L) (ln:=ln) bf.bi;have cT:fQ (oB af ((cR sc++r1).map aV) (dM gs) (ms.map V.S)) ((R++[oT].map aY.I).map (C (rG B (cR sc++r1) gs ms (jB sc B.f B.g ms r1)) L ln)) (ms.map V.S):=ly;have eR2:rV af (R.map (C B L ln)) (ms.map V.S)=(R++[oT].map aY.I).map (C (rG B (cR sc++r1) gs ms (jB sc B.f B.g ms r1)) L ln):=eR;refine Pq kZ _ (sp2 e1) (by show af.names[2]?=_;rw[bi.names,gT w.nl,e2]) (ms:=ms.map V.S) ?_ wm.cut.g ?_
     .rw[eR2];exact cT.get
     .obtain⟨a,y,e⟩:=oS (ct.m0.1 s1);rw[e,cK,gf];exact gf ..
    .rw[if_neg s1]at e2;have m0e:l_ sc ms=[]:=by unfold l_;rw[if_neg s0,if_neg s1]
     rw[m0e];exact aa2 kZ (sp2 e1) (by show af.names[2]?=_;rw[bi.names,gT w.nl,e2]))
 rw[aaV w ct,lL]at r
 have eR2:rV af (R.map (C B L ln)) (ms.map V.S)=(R++[oT].map aY.I).map (C (rG B (cR sc++r1) gs ms (jB sc B.f B.g ms r1)) L ln):=eR
 rw[eR2]at r
 exact⟨_,_,r,bf,bh.app⟩
end
end
section
section
variable{sc p k:Nat}{af:br}{R:List aY}{B L:bw}{ln:Nat->Nat}
theorem pq{aG:br}{d:List V}(h:Ec sc d af)(e:KL af aG)(e2:aG.ed=af.ed\/sc≠1):Ec sc d aG:=by
 rw[e];refine⟨h.ctx,h.f9,h.d5,h.gq,h.eH,?_,h.mY,h.fc⟩;intro s;rcases e2 with e2 | e2
 .exact e2.trans (h.ed s)
 .exact absurd s e2
theorem uy(c:cj sc af R B L ln){x:iq}(hx:ir R x):cj sc {af with cO:=af.cO++[.R (R.length+33)]} (R++[aY.I (gU x)]) B (mR L x) ln:=by
 have pf:bh R (R++[aY.I (gU x)]):=bh.app;have l:=c.li;refine⟨c.bi.mono ab pf.ex,⟨?_,?_,l.bP,?_,?_,l.bH,l.cy,l.done,.S (l.cO.ex pf.ex) hB⟩,c.fr.eT,pq c.bR ab (bB ab),λx hx=>(c.nb x hx).ex pf.ex x,?_⟩
 .obtain⟨j,q,w⟩:=l.cw;exact⟨j,q,pf _ _ w⟩
 .intro i hi;obtain⟨la,k,a,b,h⟩:=l.nodes i hi;refine⟨la,k,a.ex pf.ex,pf _ _ b,?_⟩;rcases h with⟨t,q⟩ | ⟨t,k2,q,w⟩
  .exact bB ⟨t,pf _ _ q⟩
  .exact bE ⟨t,k2,pf _ _ q,pf _ _ w⟩
 .obtain⟨ga,q,w,u⟩:=l.bq;exact⟨ga,q,w,λj a hj=>pf _ _ (u j a hj)⟩
 .rcases l.lm with q | ⟨s,j,q,w⟩
  .exact bB q
  .exact bE ⟨s,j,q,pf _ _ w⟩
 .intro y hy;rcases gW.mp hy with hy | hy
  .exact(c.nl y hy).ex pf.ex y
  .rw[dx.mp hy];exact hx.ex pf.ex x
theorem BD{x:iq}:R.map (C B L ln)++[gU x]=(R++[aY.I (gU x)]).map (C B (mR L x) ln):=by rw[cK];rfl
theorem xZ(c:cj sc af R B L ln){st:List Nat}:cj sc {af with cw:=R.length+33} (R++[aY.I (.L (st.map (b_ ln)))]) B {L with ay:=st} ln:=by
 have pf:bh R (R++[aY.I (.L (st.map (b_ ln)))]):=bh.app;have l:=c.li;refine⟨c.bi.mono ab pf.ex,⟨⟨R.length,ab,hB⟩,?_,l.bP,?_,?_,l.bH,l.cy,l.done,l.cO.ex pf.ex⟩,c.fr.eT,pq c.bR ab (bB ab),λx hx=>(c.nb x hx).ex pf.ex x,λx hx=>(c.nl x hx).ex pf.ex x⟩
 .intro i hi;obtain⟨la,k,a,b,h⟩:=l.nodes i hi;refine⟨la,k,a.ex pf.ex,pf _ _ b,?_⟩;rcases h with⟨t,q⟩ | ⟨t,k2,q,w⟩
  .exact bB ⟨t,pf _ _ q⟩
  .exact bE ⟨t,k2,pf _ _ q,pf _ _ w⟩
 .obtain⟨ga,q,w,u⟩:=l.bq;exact⟨ga,q,w,λj a hj=>pf _ _ (u j a hj)⟩
 .rcases l.lm with q | ⟨s,j,q,w⟩
  .exact bB q
  .exact bE ⟨s,j,q,pf _ _ w⟩
theorem C_{st:List Nat}:R.map (C B L ln)++[O.L (st.map (b_ ln))]=(R++[aY.I (.L (st.map (b_ ln)))]).map (C B {L with ay:=st} ln):=by rw[cK];rfl
theorem j3(c:cj sc af R B L ln):(ai af (R.map (C B L ln)))[af.cw]?=ae (.L (L.ay.map (b_ ln))):=by
 obtain⟨j,q,w⟩:=c.li.cw;rw[q];exact bD (c2 w)
theorem qN(c:cj sc af R B L ln)(w:bz sc p L){s:List Nat}(h:∀i∈s,i∈L.ay):gZ (R.map (C B L ln)) L.f L.g ln s:=by
 intro i hi;obtain⟨_,_,hl⟩:=w.mem i (h i hi);obtain⟨_,_,aE,cP⟩:=w.gz i hl;obtain⟨la,k,_,_,h⟩:=c.li.nodes i hl;rcases h with⟨_,q⟩ | ⟨_,k2,_,q⟩
 .exact⟨aE,cP,b4 la,b4 k,.N,c2 q⟩
 .exact⟨aE,cP,b4 la,b4 k,b4 k2,c2 q⟩
theorem BC(c:cj sc af R B L ln)(w:bz sc p L)(hne:L.ay≠[]):∃a7,mI (R.map (C B L ln)) (ln (top L)) (L.f (top L)) (L.g (top L)) a7/\R[a7]?=ae (.L L.hm):=by
 obtain⟨_,_,hl⟩:=w.mem _ (Ag hne);obtain⟨la,k,_,ly,h⟩:=c.li.nodes _ hl;rcases h with⟨t,q⟩ | ⟨t,k2,d4,q⟩
 .refine⟨k,⟨b4 la,k,bB (c2 q)⟩,?_⟩;unfold bw.hm yf;rw[t];exact ly
 .refine⟨k2,⟨b4 la,k,bE (c2 q)⟩,?_⟩;unfold bw.hm yf;rw[t];exact d4
theorem O_(c:cj sc af R B L ln){a7 i:Nat}(h:R[a7]?=ae (.L i)):af.cw≠a7+33:=by
 obtain⟨j,q,w⟩:=c.li.cw;intro e;have:j=a7:=by lia
 rw[this,h]at w;cases w
noncomputable def upd(ln:Nat->Nat)(n a:Nat)(i:Nat):Nat:=if i=n then a else ln i
theorem Sj{n a i:Nat}(h:i≠n):upd ln n a i=ln i:=if_neg h
theorem xj{n a:Nat}:upd ln n a n=a:=if_pos ab
theorem Og(w:bz sc p L){j i:Nat}(h:i∈(L.bq[j]?).getD []):i<L.ag.length:=by
 cases q:L.bq[j]? with
 | none=>rw[q]at h;cases h
 | some g=>
  rw[q]at h;obtain⟨hl,_⟩:=w.jY g (rm q) i h;apply o1;intro hi;rw[lr (by lia)]at hl;cases hl
theorem Ei{X:List bk}{L':bw}{q:Nat}{ln':Nat->Nat}(w:bz sc p L)(e:L'.ag=bC L.ag q L.ag.length++X)(em:L'.cf=L.cf)(eg:L'.bq=L.bq)(gz:∀i,i<L.ag.length->ln' i=ln i)(hR:∀(a i:Nat),R[a]?=ae (.L i)->i<L.ag.length):∀r∈R,r≠.L q->C B L' ln' r=C B L ln r:=by
 intro r aZ aU;cases r with
 | I o=>rfl
 | C i=>rfl
 | L i=>
  obtain⟨a,ha⟩:=uh.mp aZ;have hi:=hR a i ha;show O.L ((nn L'.ag i).ch.map (ej ln' L'.ag))=O.L ((nn L.ag i).ch.map (ej ln L.ag));rw[e,yk (λh=>aU (by rw[h])) hi];congr 1;apply j7;intro j hj;have hj2:=(w.ch i j hj).2.1;unfold ej;rw[hn bk.lw (λ_=>rfl) hj2,hn bk.dd (λ_=>rfl) hj2,gz j hj2]
 | G j=>
  show O.L (((L'.bq[j]?).getD []).map (dT L'.ag))=O.L (((L.bq[j]?).getD []).map (dT L.ag));rw[eg,e];congr 1;apply j7;intro i hi;unfold dT;rw[hn bk.aL (λ_=>rfl) (Og w hi)]
 | B=>rfl
 | A=>show O.L (L'.cf.map .S)=_;rw[em];rfl
theorem Ej{X:List bk}{L':bw}{q:Nat}{ln':Nat->Nat}{v:V}(w:bz sc p L)(e:L'.ag=bC L.ag q L.ag.length++X)(gz:∀i,i<L.ag.length->ln' i=ln i)(hq:q<L.ag.length)(hv:ej ln' L'.ag L.ag.length=v):C B L' ln' (.L q)=.L ((nn L.ag q).ch.map (ej ln L.ag)++[v]):=by
 show O.L ((nn L'.ag q).ch.map (ej ln' L'.ag))=_;rw[e]at hv⊢;rw[yj hq,cK];congr 2
 .apply j7;intro j hj;have hj2:=(w.ch q j hj).2.1;unfold ej;rw[hn bk.lw (λ_=>rfl) hj2,hn bk.dd (λ_=>rfl) hj2,gz j hj2]
 .show[ej ln' _ L.ag.length]=_;rw[hv]
theorem Eh{X:List bk}{q:Nat}(w:bz sc p L):((L.bq[0]?).getD []).map (dT (bC L.ag q L.ag.length++X))=((L.bq[0]?).getD []).map (dT L.ag):=by
 apply j7;intro i hi;unfold dT;rw[hn bk.aL (λ_=>rfl) (Og w hi)]
theorem mJ.pE{X:List bk}{R':List aY}{ln':Nat->Nat}{q i:Nat}(h:mJ R ln L.ag i)(hi:i<L.ag.length)(gz:ln' i=ln i)(x:ef R R'):mJ R' ln' (bC L.ag q L.ag.length++X) i:=by
 obtain⟨la,k,a,b,h⟩:=h;refine⟨la,k,by rw[hn bk.aL (λ_=>rfl) hi];exact a.ex x,x _ _ nofun b,?_⟩;rw[yi hi,hn bk.sp (λ_=>rfl) hi,hn bk.nm (λ_=>rfl) hi,gz];rcases h with⟨t,q⟩ | ⟨t,k2,q,w⟩
 .exact bB ⟨t,x _ _ nofun q⟩
 .exact bE ⟨t,k2,x _ _ nofun q,x _ _ nofun w⟩
theorem Fr.mono{nB nL gL nL':Nat}(h:Fr sc R nB nL gL)(w:nL<=nL'):Fr sc R nB nL' gL:=⟨h.gd,h.ch,λa i q=>Ap (h.je a i q) w,h.dA,h.bm,h.lm⟩
theorem A6{n m:Nat}(h:cW n m L)(aU:n<1000)(i:Nat):((nn L.ag i).ch.map (ej ln L.ag)).length<aK:=by
 rw[cB];exact fO (h.ch i) (fg aU (aN rfl))
noncomputable def uG(R:List aY)(L:bw)(ln:Nat->Nat)(d:Nat)(sp nm:aw):List aY:=R++[aY.I (.L [.R (d+33)])]++[aY.L L.ag.length]++[aY.I (.L [.S sp,.S nm,b4 R.length,b4 (R.length+1),.N])]++[aY.I (.L [b4 (R.length+2)])]++[aY.I (.L (L.ay.map (b_ ln)++[b4 (R.length+2)]))]
theorem xY{n m:Nat}(c:cj sc af R B L ln)(w:bz sc p L)(dq:cW n m L)(hd:L.done=aP)(aU:n<400){a:Nat}{sp nm aL:aw}(tk:mN R a aL)(nt:sp≠aJ\/nm≠aR)(aE:cM sp)(cP:cM nm):
 ∃aG R' ln',aA ao (k+2) 728 [.R 32,.S sp,.S nm,.R (a+33)] (ai af (R.map (C B L ln)))=ae (.N,ai aG (R'.map (C B (eQ L sp nm aL) ln')))/\cj sc aG R' B (eQ L sp nm aL) ln'/\bh R R'/\∀i,i<L.ag.length->ln' i=ln i:=by
 have hne:=jj w hd
 obtain⟨hm0,hm1,_⟩:=pD w hne
 obtain⟨a7,hLN,eY⟩:=BC c w hne
 obtain⟨ne,d,a1,cF⟩:=tk.at (c:=C B L ln) (λ_=>rfl)
 have li:=c.li
 have Rl:(R.map (C B L ln)).length=R.length:=cB ..
 have wps:bb 1 (L.ay.map (b_ ln)):=by
  have:=dq.ay;unfold bb;rw[cB];lia
 have r:=OX (k:=k) a1 nt aE cP (j3 c) wps (by rw[p3,xf hne];rfl) hLN (c2 eY) (A6 (ln:=ln) dq (by lia) _) (O_ c eY)
 have eN:(eQ L sp nm aL).ag=bC L.ag L.hm L.ag.length++[dg sp nm aL]:=rfl
 have eu:∀i,i<L.ag.length->upd ln L.ag.length (R.length+2) i=ln i:=λi hi=>Sj (by lia)
 have lnew:(nn (bC L.ag L.hm L.ag.length++[dg sp nm aL]) L.ag.length)=dg sp nm aL:=iA (r:=0)
 have eD:rU (oJ (R.map (C B L ln)) [.R (d+33)] sp nm) a7 ((nn L.ag L.hm).ch.map (ej ln L.ag)) (L.ay.map (b_ ln)) ((R.map (C B L ln)).length+2)=(uG R L ln d sp nm).map (C B (eQ L sp nm aL) (upd ln L.ag.length (R.length+2))):=by
  unfold rU uG;rw[uK,Rl,pQ (c2 eY),cK,cK,cK,cK,cK];have e1:=oF (c:=C B L ln) (c':=C B (eQ L sp nm aL) (upd ln L.ag.length (R.length+2))) eY (λb hb=>c.fr.gd b a7 (.L L.hm) trivial hb eY) (Ei w eN rfl rfl eu c.fr.je)
  rw[Ej (v:=V.R (R.length+2+33)) w eN eu hm1 (by
   unfold ej;rw[eN,lnew,xj];rfl)]at e1
  rw[<- e1]
  have e2:C B (eQ L sp nm aL) (upd ln L.ag.length (R.length+2)) (.L L.ag.length)=.L []:=by
   show O.L ((nn (eQ L sp nm aL).ag L.ag.length).ch.map _)=_;rw[eN,lnew];rfl
  show _=_++[_]++[C B (eQ L sp nm aL) (upd ln L.ag.length (R.length+2)) (.L L.ag.length)]++_++_++_;rw[e2];simp only[cG,xp,p6];rfl
 have eP:((oJ (R.map (C B L ln)) [.R (d+33)] sp nm).set a7 (.L ((nn L.ag L.hm).ch.map (ej ln L.ag)++[.R ((R.map (C B L ln)).length+2+33)]))++[O.L [.R ((R.map (C B L ln)).length+2+33)]]).length=R.length+4:=by
  rw[uK,ba,Aw,ba,Rl];rfl
 rw[eD,eP]at r
 have pf:bh R (uG R L ln d sp nm):=(((bh.app.trans bh.app).trans bh.app).trans bh.app).trans bh.app
 have f2:Fr sc (uG R L ln d sp nm) B.ag.length (L.ag.length+1) L.bq.length:=((((c.fr.eT (o:=.L [.R (d+33)])).z9).eT (o:=.L [.S sp,.S nm,b4 R.length,b4 (R.length+1),.N])).eT (o:=.L [b4 (R.length+2)])).eT
 have N1:(eQ L sp nm aL).ag.length=L.ag.length+1:=by rw[eN,ba,jc];rfl
 refine⟨_,_,_,r,⟨c.bi.mono rfl pf.ex,⟨?_,?_,?_,?_,?_,li.bH,li.cy,li.done,li.cO.ex pf.ex⟩,by rw[N1];exact f2,pq c.bR rfl (bB rfl),λx hx=>(c.nb x hx).ex pf.ex x,λx hx=>(c.nl x hx).ex pf.ex x⟩,pf,eu⟩
 .refine⟨R.length+4,ab,?_⟩
  have e:(L.ay++[L.ag.length]).map (b_ (upd ln L.ag.length (R.length+2)))=L.ay.map (b_ ln)++[b4 (R.length+2)]:=by
   rw[cK];congr 1
   .apply j7;intro i hi;unfold b_;rw[eu i (w.mem i hi).2.1]
   .show[V.R (upd ln L.ag.length (R.length+2) L.ag.length+33)]=_;rw[xj];rfl
  show(uG R L ln d sp nm)[R.length+4]?=ae (.I (.L ((L.ay++[L.ag.length]).map _)));rw[e];unfold uG;rw[show R.length+4=(R++[aY.I (.L [.R (d+33)])]++[aY.L L.ag.length]++[aY.I (.L [.S sp,.S nm,b4 R.length,b4 (R.length+1),.N])]++[aY.I (.L [b4 (R.length+2)])]).length by simp only[ba];rfl];exact hB
 .intro i hi;have hi:(nn (bC L.ag L.hm L.ag.length++[dg sp nm aL]) i).lw=true:=hi;show mJ _ _ (bC L.ag L.hm L.ag.length++[dg sp nm aL]) i;by_cases h:i<L.ag.length
  .rw[hn bk.lw (λ_=>rfl) h]at hi;exact(li.nodes i hi).pE h (eu i h) pf.ex
  .have e:i=L.ag.length:=by
    apply o1;intro aD;rw[lr (by rw[ba,jc];show L.ag.length+1<=i;lia)]at hi;cases hi
   subst e;refine⟨R.length,R.length+1,?_,?_,bB ⟨?_,?_⟩⟩
   .rw[lnew];refine bE ⟨ne,d,?_,pf _ _ cF⟩;exact bh.app _ _ (bh.app _ _ (bh.app _ _ (bh.app _ _ hB)))
   .refine bh.app _ _ (bh.app _ _ (bh.app _ _ ?_));rw[show R.length+1=(R++[aY.I (.L [.R (d+33)])]).length by rw[ba];rfl];exact hB
   .unfold bp;rw[lnew];show(decide (sp=aJ)&&decide (nm=aR))=aP;rcases nt with h | h
    .rw[decide_eq_false h];rfl
    .rw[decide_eq_false h,rt]
   .rw[lnew,xj];refine bh.app _ _ (bh.app _ _ ?_);rw[show R.length+2=(R++[aY.I (.L [.R (d+33)])]++[aY.L L.ag.length]).length by rw[ba,ba];rfl];exact hB
 .show af.bP=_;rw[li.bP];exact(Eh w).symm
 .obtain⟨ga,q,w,u⟩:=li.bq;exact⟨ga,q,w,λj a hj=>pf _ _ (u j a hj)⟩
 .rcases li.lm with q | ⟨s,j,q,w⟩
  .exact bB q
  .exact bE ⟨s,j,q,pf _ _ w⟩
end
end
section
section
variable{sc p k:Nat}{af:br}{R:List aY}{B L:bw}{ln:Nat->Nat}
noncomputable def uH(R:List aY)(L:bw)(ln:Nat->Nat)(d:Nat):List aY:=R++[aY.I (.L [.R (d+33)])]++[aY.L L.ag.length]++[aY.L (L.ag.length+1)]++[aY.I (.L [.S aJ,.S aR,b4 R.length,b4 (R.length+1),b4 (R.length+2)])]++[aY.I (.L [b4 (R.length+3)])]++[aY.I (.L (L.ay.map (b_ ln)++[b4 (R.length+3)]))]
theorem WC{n m:Nat}(c:cj sc af R B L ln)(w:bz sc p L)(dq:cW n m L)(hd:L.done=aP)(aU:n<400){a:Nat}{aL:aw}(tk:mN R a aL):
 ∃aG R' ln',aA ao (k+2) 728 [.R 32,.S aJ,.S aR,.R (a+33)] (ai af (R.map (C B L ln)))=ae (.N,ai aG (R'.map (C B (gP L aL) ln')))/\cj sc aG R' B (gP L aL) ln'/\bh R R'/\∀i,i<L.ag.length->ln' i=ln i:=by
 have hne:=jj w hd
 obtain⟨hm0,hm1,_⟩:=pD w hne
 obtain⟨a7,hLN,eY⟩:=BC c w hne
 obtain⟨ne,d,a1,cF⟩:=tk.at (c:=C B L ln) (λ_=>rfl)
 have li:=c.li
 have Rl:(R.map (C B L ln)).length=R.length:=cB ..
 have wps:bb 1 (L.ay.map (b_ ln)):=by
  have:=dq.ay;unfold bb;rw[cB];lia
 have r:=aaw (k:=k) (sp0:=L.f (top L)) (nm0:=L.g (top L)) a1 (j3 c) wps (by rw[p3,xf hne];rfl) hLN (c2 eY) (A6 (ln:=ln) dq (by lia) _) (O_ c eY)
 have eN:(gP L aL).ag=bC L.ag L.hm L.ag.length++[dg aJ aR aL,eX]:=rfl
 have eu:∀i,i<L.ag.length->upd ln L.ag.length (R.length+3) i=ln i:=λi hi=>Sj (by lia)
 have lnew:(nn (bC L.ag L.hm L.ag.length++[dg aJ aR aL,eX]) L.ag.length)=dg aJ aR aL:=iA (r:=0)
 have lnew1:(nn (bC L.ag L.hm L.ag.length++[dg aJ aR aL,eX]) (L.ag.length+1))=eX:=iA (r:=1)
 have eD:rU (oK (R.map (C B L ln)) [.R (d+33)]) a7 ((nn L.ag L.hm).ch.map (ej ln L.ag)) (L.ay.map (b_ ln)) ((R.map (C B L ln)).length+3)=(uH R L ln d).map (C B (gP L aL) (upd ln L.ag.length (R.length+3))):=by
  unfold rU uH;rw[yw,Rl,pQ (c2 eY),cK,cK,cK,cK,cK,cK];have e1:=oF (c:=C B L ln) (c':=C B (gP L aL) (upd ln L.ag.length (R.length+3))) eY (λb hb=>c.fr.gd b a7 (.L L.hm) trivial hb eY) (Ei w eN rfl rfl eu c.fr.je)
  rw[Ej (v:=V.R (R.length+3+33)) w eN eu hm1 (by
   unfold ej;rw[eN,lnew,xj];rfl)]at e1
  rw[<- e1]
  have e2:C B (gP L aL) (upd ln L.ag.length (R.length+3)) (.L L.ag.length)=.L []:=by
   show O.L ((nn (gP L aL).ag L.ag.length).ch.map _)=_;rw[eN,lnew];rfl
  have e3:C B (gP L aL) (upd ln L.ag.length (R.length+3)) (.L (L.ag.length+1))=.L []:=by
   show O.L ((nn (gP L aL).ag (L.ag.length+1)).ch.map _)=_;rw[eN,lnew1];rfl
  show _=_++[_]++[C B (gP L aL) (upd ln L.ag.length (R.length+3)) (.L L.ag.length)]++[C B (gP L aL) (upd ln L.ag.length (R.length+3)) (.L (L.ag.length+1))]++_++_++_;rw[e2,e3];simp only[cG,xp,p6];rfl
 have eP:((oK (R.map (C B L ln)) [.R (d+33)]).set a7 (.L ((nn L.ag L.hm).ch.map (ej ln L.ag)++[.R ((R.map (C B L ln)).length+3+33)]))++[O.L [.R ((R.map (C B L ln)).length+3+33)]]).length=R.length+5:=by
  rw[yw,ba,Aw,ba,Rl];rfl
 rw[eD,eP]at r
 have pf:bh R (uH R L ln d):=((((bh.app.trans bh.app).trans bh.app).trans bh.app).trans bh.app).trans bh.app
 have f2:Fr sc (uH R L ln d) B.ag.length (L.ag.length+2) L.bq.length:=(((((c.fr.eT (o:=.L [.R (d+33)])).z9).z9).eT (o:=.L [.S aJ,.S aR,b4 R.length,b4 (R.length+1),b4 (R.length+2)])).eT (o:=.L [b4 (R.length+3)])).eT
 have N1:(gP L aL).ag.length=L.ag.length+2:=by rw[eN,ba,jc];rfl
 refine⟨_,_,_,r,⟨c.bi.mono rfl pf.ex,⟨?_,?_,?_,?_,?_,li.bH,li.cy,li.done,li.cO.ex pf.ex⟩,by rw[N1];exact f2,pq c.bR rfl (bB rfl),λx hx=>(c.nb x hx).ex pf.ex x,λx hx=>(c.nl x hx).ex pf.ex x⟩,pf,eu⟩
 .refine⟨R.length+5,ab,?_⟩
  have e:(L.ay++[L.ag.length]).map (b_ (upd ln L.ag.length (R.length+3)))=L.ay.map (b_ ln)++[b4 (R.length+3)]:=by
   rw[cK];congr 1
   .apply j7;intro i hi;unfold b_;rw[eu i (w.mem i hi).2.1]
   .show[V.R (upd ln L.ag.length (R.length+3) L.ag.length+33)]=_;rw[xj];rfl
  show(uH R L ln d)[R.length+5]?=ae (.I (.L ((L.ay++[L.ag.length]).map _)));rw[e];unfold uH;rw[show R.length+5=(R++[aY.I (.L [.R (d+33)])]++[aY.L L.ag.length]++[aY.L (L.ag.length+1)]++[aY.I (.L [.S aJ,.S aR,b4 R.length,b4 (R.length+1),b4 (R.length+2)])]++[aY.I (.L [b4 (R.length+3)])]).length by simp only[ba];rfl];exact hB
 .intro i hi;have hi:(nn (bC L.ag L.hm L.ag.length++[dg aJ aR aL,eX]) i).lw=true:=hi;show mJ _ _ (bC L.ag L.hm L.ag.length++[dg aJ aR aL,eX]) i;by_cases h:i<L.ag.length
  .rw[hn bk.lw (λ_=>rfl) h]at hi;exact(li.nodes i hi).pE h (eu i h) pf.ex
  .have e:i=L.ag.length:=by
    apply o1;intro aD;by_cases h3:i=L.ag.length+1
    .rw[h3,lnew1]at hi;cases hi
    .rw[lr (by rw[ba,jc];show L.ag.length+2<=i;lia)]at hi;cases hi
   subst e;refine⟨R.length,R.length+1,?_,?_,bE ⟨?_,R.length+2,?_,?_⟩⟩
   .rw[lnew];refine bE ⟨ne,d,?_,pf _ _ cF⟩;exact bh.app _ _ (bh.app _ _ (bh.app _ _ (bh.app _ _ (bh.app _ _ hB))))
   .refine bh.app _ _ (bh.app _ _ (bh.app _ _ (bh.app _ _ ?_)));rw[show R.length+1=(R++[aY.I (.L [.R (d+33)])]).length by rw[ba];rfl];exact hB
   .unfold bp;rw[lnew];rfl
   .refine bh.app _ _ (bh.app _ _ (bh.app _ _ ?_));rw[show R.length+2=(R++[aY.I (.L [.R (d+33)])]++[aY.L L.ag.length]).length by rw[ba,ba];rfl];exact hB
   .rw[lnew,xj];refine bh.app _ _ (bh.app _ _ ?_);rw[show R.length+3=(R++[aY.I (.L [.R (d+33)])]++[aY.L L.ag.length]++[aY.L (L.ag.length+1)]).length by rw[ba,ba,ba];rfl];exact hB
 .show af.bP=_;rw[li.bP];exact(Eh w).symm
 .obtain⟨ga,q,w,u⟩:=li.bq;exact⟨ga,q,w,λj a hj=>pf _ _ (u j a hj)⟩
 .rcases li.lm with q | ⟨s,j,q,w⟩
  .exact bB q
  .exact bE ⟨s,j,q,pf _ _ w⟩
theorem Wz(c:cj sc af R B L ln)(hg:L.bq≠[]):cj sc {af with da:=af.da++[.R (R.length+33)]} (R++[aY.G L.bq.length]) B {L with bq:=L.bq++[[]]} ln:=by
 have pf:bh R (R++[aY.G L.bq.length]):=bh.app;have l:=c.li;have gp:=ui.mpr hg;refine⟨c.bi.mono ab pf.ex,⟨?_,?_,?_,?_,?_,l.bH,l.cy,l.done,l.cO.ex pf.ex⟩,?_,pq c.bR ab (bB ab),λx hx=>(c.nb x hx).ex pf.ex x,λx hx=>(c.nl x hx).ex pf.ex x⟩
 .obtain⟨j,q,w⟩:=l.cw;exact⟨j,q,pf _ _ w⟩
 .intro i hi;obtain⟨la,k,a,b,h⟩:=l.nodes i hi;refine⟨la,k,a.ex pf.ex,pf _ _ b,?_⟩;rcases h with⟨t,q⟩ | ⟨t,k2,q,w⟩
  .exact bB ⟨t,pf _ _ q⟩
  .exact bE ⟨t,k2,pf _ _ q,pf _ _ w⟩
 .show af.bP=(((L.bq++[[]])[0]?).getD []).map _;rw[gh gp];exact l.bP
 .obtain⟨ga,q,w,u⟩:=l.bq;refine⟨ga++[R.length],?_,?_,?_⟩
  .show af.da++_=_;rw[q,cK];rfl
  .rw[ba,ba,<-w];rfl
  .intro j a hj;by_cases e:j<ga.length
   .rw[gh e]at hj;exact pf _ _ (u j a hj)
   .have aD:=(jL.mp hj).1;rw[ba,dS]at aD;have e2:j=ga.length:=by lia
    subst e2;rw[gI (cC _),gw]at hj;have e3:R.length=a:=dE hj;rw[<- e3,w];exact hB
 .rcases l.lm with q | ⟨s,j,q,w⟩
  .exact bB q
  .exact bE ⟨s,j,q,pf _ _ w⟩
 .show Fr sc _ _ _ (L.bq++[[]]).length;rw[ba];exact c.fr.aeN gp
theorem ZE(hg:∀(a j:Nat),R[a]?=ae (.G j)->0<j/\j<L.bq.length):R.map (C B L ln)++[O.L []]=(R++[aY.G L.bq.length]).map (C B {L with bq:=L.bq++[[]]} ln):=by
 rw[cK];congr 1
 .apply j7;intro r aZ;cases r with
  | G j=>
   obtain⟨a,ha⟩:=uh.mp aZ;show O.L (((L.bq[j]?).getD []).map _)=O.L ((((L.bq++[[]])[j]?).getD []).map _);rw[gh (hg a j ha).2]
  | _=>rfl
 .show _=[O.L ((((L.bq++[[]])[L.bq.length]?).getD []).map _)];rw[gI (cC _),gw];rfl
noncomputable def uF(L:bw)(ms:List aw)(bZ:aw)(cy:Bool):bw:={L with cf:=ms,bH:=bZ,cy:=cy}
theorem EX(c:cj sc af R B L ln){ms:List aw}{bZ:aw}{cy:Bool}:cj sc {kg af (ms.map .S)with eU:=bZ,g7:=cy} R B (uF L ms bZ cy) ln:=by
 have l:=c.li;refine⟨c.bi.mono ab bh.iX.ex,⟨l.cw,l.nodes,l.bP,l.bq,?_,ab,ab,l.done,l.cO⟩,c.fr,?_,c.nb,c.nl⟩
 .rcases l.lm with⟨s,h,_⟩ | ⟨s,j,h,q⟩
  .exact bB ⟨s,h,if_pos h⟩
  .exact bE ⟨s,j,h,q⟩
 .refine pq c.bR rfl ?_;rcases l.lm with⟨s,h,_⟩ | ⟨s,j,h,q⟩
  .exact bE s
  .left;show(if af.lm=30 then _ else af.ed)=_;rw[if_neg (by lia)]
theorem BH(c:cj sc af R B L ln):fP af (R.map (C B L ln)) (L.cf.map .S):=by
 rcases c.li.lm with⟨_,h,q⟩ | ⟨_,j,h,q⟩
 .exact bB ⟨h,q⟩
 .exact bE ⟨j,h,c2 q⟩
theorem FW(c:cj sc af R B L ln){ms:List aw}{bZ:aw}{cy:Bool}:iB af (R.map (C B L ln)) (ms.map .S)=R.map (C B (uF L ms bZ cy) ln):=by
 have cong:∀r∈R,r≠.A->C B (uF L ms bZ cy) ln r=C B L ln r:=by
  intro r _ aU;cases r with
  | A=>exact absurd ab aU
  | _=>rfl
 unfold iB;rcases c.li.lm with⟨s,h,_⟩ | ⟨_,j,h,q⟩
 .rw[if_pos h];apply Pk;intro r aZ;apply cong r aZ;rintro rfl;obtain⟨a,ha⟩:=uh.mp aZ;exact s (c.fr.lm a ha)
 .rw[if_neg (by lia),h,mD,<-oF q (λb hb=>c.fr.gd b j .A trivial hb q) cong];rfl
end
end
section
section
variable{sc p k:Nat}{af:br}{R:List aY}{B L:bw}{ln:Nat->Nat}
theorem ef.iX:ef R R:=λ_ _ _ q=>q
theorem ef.trans{R R' R'':List aY}(h:ef R R')(aD:ef R' R''):ef R R'':=λa r n q=>aD a r n (h a r n q)
theorem mJ.ex{l:List bk}{R':List aY}{i:Nat}(h:mJ R ln l i)(x:ef R R'):mJ R' ln l i:=by
 obtain⟨la,k,a,b,h⟩:=h;refine⟨la,k,a.ex x,x _ _ nofun b,?_⟩;rcases h with⟨t,q⟩ | ⟨t,k2,q,w⟩
 .exact bB ⟨t,x _ _ nofun q⟩
 .exact bE ⟨t,k2,x _ _ nofun q,x _ _ nofun w⟩
theorem LM{n m:Nat}(c:cj sc af R B L ln)(w:bz sc p L)(dq:cW n m L)(hd:L.done=aP)(aU:n<400){aX:aw}(hj:∀j,(nn L.ag L.hm).ch.getLast?=ae j->(nn L.ag j).aT≠gQ):
 ∃aG R',aA ao (k+2) 721 [.R 32,.S aX] (ai af (R.map (C B L ln)))=ae (.N,ai aG (R'.map (C B (jV L aX) ln)))/\cj sc aG R' B (jV L aX) ln/\ef R R':=by
 have hne:=jj w hd
 obtain⟨hm0,hm1,_⟩:=pD w hne
 obtain⟨a7,hLN,eY⟩:=BC c w hne
 have li:=c.li
 have wps:(L.ay.map (b_ ln)).length<aK:=by
  have:=dq.ay;rw[cB];exact fO this (fg aU (aN rfl))
 have eN:(jV L aX).ag=bC L.ag L.hm L.ag.length++[jI aX]:=rfl
 have lnew:(nn (bC L.ag L.hm L.ag.length++[jI aX]) L.ag.length)=jI aX:=iA (r:=0)
 have hl:(nn L.ag L.hm).ch.map (ej ln L.ag)=[]\/∃(j:Nat)(ys:List V),((nn L.ag L.hm).ch.map (ej ln L.ag)).getLast?=ae (.R (j+33))/\(R.map (C B L ln))[j]?=ae (.L ys):=by
  cases h:(nn L.ag L.hm).ch.getLast? with
  | none=>left;rw[SH.mp h];rfl
  | some j=>
   right;have hlw:(nn L.ag j).lw=true:=(w.ch _ _ (DS h)).2.2.resolve_right (hj j h)
   have aZ:((nn L.ag L.hm).ch.map (ej ln L.ag)).getLast?=ae (.R (ln j+33)):=by
    rw[p3,h];show ae (ej ln L.ag j)=_;unfold ej;rw[if_pos hlw]
   obtain⟨la,k,_,_,h⟩:=li.nodes _ hlw;rcases h with⟨t,q⟩ | ⟨t,k2,d4,q⟩
   .exact⟨ln j,_,aZ,c2 q⟩
   .exact⟨ln j,_,aZ,c2 q⟩
 have r:=acO (k:=k) (aX:=aX) (j3 c) wps (by rw[p3,xf hne];rfl) hLN (c2 eY) (A6 (ln:=ln) dq (by lia) _) hl
 have eD:(R.map (C B L ln)).set a7 (.L ((nn L.ag L.hm).ch.map (ej ln L.ag)++[.S aX]))=R.map (C B (jV L aX) ln):=by
  have e1:=oF (c:=C B L ln) (c':=C B (jV L aX) ln) eY (λb hb=>c.fr.gd b a7 (.L L.hm) trivial hb eY) (Ei w eN ab ab (λ_ _=>rfl) c.fr.je)
  rw[Ej (v:=V.S aX) w eN (λ_ _=>rfl) hm1 (by
   unfold ej;rw[eN,lnew];rfl)]at e1
  exact e1
 rw[eD]at r
 have N1:(jV L aX).ag.length=L.ag.length+1:=by rw[eN,ba,jc];rfl
 refine⟨_,_,r,⟨c.bi,⟨li.cw,?_,?_,li.bq,li.lm,li.bH,li.cy,li.done,li.cO⟩,by rw[N1];exact c.fr.mono (fA _),c.bR,c.nb,c.nl⟩,ef.iX⟩
 .intro i hi;have hi:(nn (bC L.ag L.hm L.ag.length++[jI aX]) i).lw=true:=hi;show mJ _ _ (bC L.ag L.hm L.ag.length++[jI aX]) i
  have h:i<L.ag.length:=by
   apply o1;intro aD;by_cases e:i=L.ag.length
   .rw[e,lnew]at hi;cases hi
   .rw[lr (by rw[ba,jc];show L.ag.length+1<=i;lia)]at hi;cases hi
  rw[hn bk.lw (λ_=>rfl) h]at hi;exact(li.nodes i hi).pE h rfl ef.iX
 .rw[li.bP];exact(Eh w).symm
theorem WD{n m:Nat}(c:cj sc af R B L ln)(w:bz sc p L)(dq:cW n m L)(hd:L.done=aP)(aU:n<400){j:Nat}{aX:aw}(hj:(nn L.ag L.hm).ch.getLast?=ae j)(kj:(nn L.ag j).aT=gQ)(hs:aX.length=1):
 ∃aG R',aA ao (k+2) 721 [.R 32,.S aX] (ai af (R.map (C B L ln)))=ae (.N,ai aG (R'.map (C B (jt L j aX) ln)))/\cj sc aG R' B (jt L j aX) ln/\ef R R':=by
 have hne:=jj w hd
 obtain⟨hm0,hm1,_⟩:=pD w hne
 obtain⟨a7,hLN,eY⟩:=BC c w hne
 have li:=c.li
 have jl:=(w.ch _ _ (DS hj)).2.1
 have jlw:(nn L.ag j).lw=false:=by
  apply o4.mpr;intro h;rw[(w.gz j h).1]at kj;revert kj;decide
 have wps:(L.ay.map (b_ ln)).length<aK:=by
  have:=dq.ay;rw[cB];exact fO this (fg aU (aN rfl))
 obtain⟨init,ei⟩:∃init,(nn L.ag L.hm).ch=init++[j]:=by
  have hne2:(nn L.ag L.hm).ch≠[]:=by intro q;rw[q]at hj;cases hj
  refine⟨(nn L.ag L.hm).ch.dropLast,?_⟩;rw[D6 hne2]at hj;rw[<- dE hj];exact(ue hne2).symm
 have aZ:((nn L.ag L.hm).ch.map (ej ln L.ag)).getLast?=ae (.S (nn L.ag j).dd):=by
  rw[p3,hj];show ae (ej ln L.ag j)=_;unfold ej;rw[jlw];rfl
 have r:=acN (k:=k) (aX:=aX) (dd:=(nn L.ag j).dd) (j3 c) wps (by rw[p3,xf hne];rfl) hLN (c2 eY) (A6 (ln:=ln) dq (by lia) _) aZ (fO (dq.dd j) (fg aU (aN rfl))) (by rw[hs];exact aN rfl)
 have rsame:∀i,i≠j->ej ln (L.ag.modify j (cU aX)) i=ej ln L.ag i:=λi hi=>by
  unfold ej;rw[BJ λh=>hi h.symm]
 have rj:ej ln (L.ag.modify j (cU aX)) j=.S ((nn L.ag j).dd++aX):=by
  unfold ej;rw[BI jl];show(if (nn L.ag j).lw=aB then _ else _)=_;rw[jlw];rfl
 have cong:∀r'∈R,r'≠.L L.hm->C B (jt L j aX) ln r'=C B L ln r':=by
  intro r' _ hn';cases r' with
  | L i=>
   show O.L ((nn (L.ag.modify j (cU aX)) i).ch.map (ej ln (L.ag.modify j (cU aX))))=_;rw[kh (f:=cU aX) bk.ch λ_=>rfl];congr 1;apply j7;intro i' hi';apply rsame;rintro rfl;exact hn' (by rw[w.gd i L.hm i' hi' (by rw[ei];exact gr _ (o2 _))])
  | G j'=>
   show O.L (((L.bq[j']?).getD []).map (dT (L.ag.modify j (cU aX))))=_;congr 1;apply j7;intro i' _;unfold dT;rw[kh (f:=cU aX) bk.aL λ_=>rfl]
  | _=>rfl
 have eD:(R.map (C B L ln)).set a7 (.L (((nn L.ag L.hm).ch.map (ej ln L.ag)).set (((nn L.ag L.hm).ch.map (ej ln L.ag)).length-1) (.S ((nn L.ag j).dd++aX))))=R.map (C B (jt L j aX) ln):=by
  have e1:=oF (c:=C B L ln) (c':=C B (jt L j aX) ln) eY (λb hb=>c.fr.gd b a7 (.L L.hm) trivial hb eY) cong;rw[<- e1];congr 1;show _=O.L ((nn (L.ag.modify j (cU aX)) L.hm).ch.map (ej ln (L.ag.modify j (cU aX))));rw[kh (f:=cU aX) bk.ch λ_=>rfl,ei,cK,cK,ba]
  have e2:init.map (ej ln (L.ag.modify j (cU aX)))=init.map (ej ln L.ag):=by
   apply j7;intro i hi;apply rsame;have nG:=w.nG L.hm;rw[ei,S1]at nG;have:=nG.2.2 i hi j (o2 _);lia
  rw[e2];show O.L ((init.map (ej ln L.ag)++[_]).set ((init.map (ej ln L.ag)).length+1-1) _)=O.L (_++[ej ln (L.ag.modify j (cU aX)) j]);rw[rj,mD,AE _ _ (cC _),gw];rfl
 rw[eD]at r
 have N1:(jt L j aX).ag.length=L.ag.length:=xB ..
 refine⟨_,_,r,⟨c.bi,⟨li.cw,?_,?_,li.bq,li.lm,li.bH,li.cy,li.done,li.cO⟩,by rw[N1];exact c.fr,c.bR,c.nb,c.nl⟩,ef.iX⟩
 .intro i hi;have hi:(nn (L.ag.modify j (cU aX)) i).lw=true:=hi;rw[kh (f:=cU aX) bk.lw λ_=>rfl]at hi;obtain⟨la,k,a,b,h⟩:=li.nodes i hi;refine⟨la,k,?_,b,?_⟩
  .show nY R la (nn (L.ag.modify j (cU aX)) i).aL;rw[kh (f:=cU aX) bk.aL λ_=>rfl];exact a
  .have et:bp (jt L j aX).ag i=bp L.ag i:=FF (f:=cU aX) (λ_=>rfl) λ_=>rfl;have es:(nn (jt L j aX).ag i).sp=(nn L.ag i).sp:=kh (f:=cU aX) bk.sp λ_=>rfl;have en:(nn (jt L j aX).ag i).nm=(nn L.ag i).nm:=kh (f:=cU aX) bk.nm λ_=>rfl;rw[et,es,en];exact h
 .rw[li.bP];show _=((L.bq[0]?).getD []).map (dT (L.ag.modify j (cU aX)));apply j7;intro i' _;unfold dT;rw[kh (f:=cU aX) bk.aL λ_=>rfl]
theorem EY{n m:Nat}(c:cj sc af R B L ln)(w:bz sc p L)(dq:cW n m L)(hd:L.done=aP)(aU:n<400){aX:aw}(hs:aX.length=1):
 ∃aG R',aA ao (k+2) 721 [.R 32,.S aX] (ai af (R.map (C B L ln)))=ae (.N,ai aG (R'.map (C B (ju L aX) ln)))/\cj sc aG R' B (ju L aX) ln/\ef R R':=by
 unfold ju
 cases h:(nn L.ag L.hm).ch.getLast? with
 | none=>exact LM c w dq hd aU λj hj=>by rw[h]at hj;cases hj
 | some j=>
  dsimp only
  by_cases e:(nn L.ag j).aT=gQ
  .rw[if_pos e];exact WD c w dq hd aU h e hs
  .rw[if_neg e];exact LM c w dq hd aU λj' hj=>by rw[h]at hj;cases hj;exact e
theorem WA(c:cj sc af R B L ln){gs:List (List Nat)}{g:List Nat}{j:Nat}(eg:L.bq=gs++[g]):∃dA aG,af.da.getLast?=ae (.R dA)/\(ai af (R.map (C B L ln)))[dA]?=ae (.L (g.map (dT L.ag))) /\
 (ai af (R.map (C B L ln))).set dA (.L (g.map (dT L.ag)++[dT L.ag j]))=ai aG (R.map (C B {L with bq:=gs++[g++[j]]} ln))/\cj sc aG R B {L with bq:=gs++[g++[j]]} ln:=by
 have l:=c.li
 obtain⟨ga,q,w,u⟩:=l.bq
 have gl:ga.length=gs.length:=by rw[eg,ba,dS]at w;lia
 have fr:Fr sc R B.ag.length L.ag.length (gs++[g++[j]]).length:=by
  have:=c.fr;rw[eg]at this;rw[show(gs++[g++[j]]).length=(gs++[g]).length by rw[ba,ba];rfl];exact this
 cases hga:ga with
 | nil=>
  have fk:gs=[]:=by rw[hga]at gl;exact List.length_eq_zero_iff.mp gl.symm
  subst fk
  refine⟨28,{af with bP:=af.bP++[dT L.ag j]},by rw[q,hga];rfl,?_,?_,?_⟩
  .show ae (O.L af.bP)=_;rw[l.bP,eg];rfl
  .have e1:R.map (C B {L with bq:=[]++[g++[j]]} ln)=R.map (C B L ln):=by
    apply j7;intro r aZ;cases r with
    | G j'=>
     obtain⟨a,ha⟩:=uh.mp aZ;have:=c.fr.dA a j' ha;rw[eg]at this;have aD:j'<1:=this.2;lia
    | _=>rfl
   rw[e1];have e2:g.map (dT L.ag)++[dT L.ag j]=af.bP++[dT L.ag j]:=by rw[l.bP,eg];rfl
   rw[e2];rfl
  .refine⟨c.bi.mono ab ef.iX,⟨l.cw,l.nodes,?_,⟨ga,q,?_,u⟩,l.lm,l.bH,l.cy,l.done,l.cO⟩,fr,pq c.bR ab (bB ab),c.nb,c.nl⟩
   .show af.bP++_=(g++[j]).map _;rw[l.bP,eg,cK];rfl
   .show ga.length+1=1;rw[hga];rfl
 | cons a0 ga0=>
  obtain⟨ga',a,e⟩:∃ga' a,ga=ga'++[a]:=⟨ga.dropLast,ga.getLast (by rw[hga];exact o5 _ _),(ue _).symm⟩
  have la:ga'.length+1=gs.length:=by rw[<- gl,e,ba];rfl
  have ra:R[a]?=ae (.G gs.length):=by
   rw[<- la];apply u;rw[e,gI (cC _),gw];rfl
  have cga:C B L ln (.G gs.length)=.L (g.map (dT L.ag)):=by
   show O.L (((L.bq[gs.length]?).getD []).map _)=_;rw[eg,gI (cC _),gw];rfl
  have cgb:C B {L with bq:=gs++[g++[j]]} ln (.G gs.length)=.L (g.map (dT L.ag)++[dT L.ag j]):=by
   show O.L ((((gs++[g++[j]])[gs.length]?).getD []).map (dT L.ag))=_;rw[gI (cC _),gw];show O.L ((g++[j]).map _)=_;rw[cK];rfl
  have cong:∀r'∈R,r'≠.G gs.length->C B {L with bq:=gs++[g++[j]]} ln r'=C B L ln r':=by
   intro r' aZ aU;cases r' with
   | G j'=>
    obtain⟨b,hb⟩:=uh.mp aZ;have aD:=(c.fr.dA b j' hb).2;rw[eg,ba,dS]at aD;have h3:j'≠gs.length:=λh=>aU (by rw[h]);show O.L ((((gs++[g++[j]])[j']?).getD []).map _)=O.L (((L.bq[j']?).getD []).map _);rw[eg,gh (by lia),gh (by lia)]
   | _=>rfl
  refine⟨a+33,af,?_,?_,?_,?_⟩
  .rw[q,e,cK];show(V.R 28::(ga'.map b4++[b4 a])).getLast?=_;rw[<- xp,gf];rfl
  .rw[<- cga];exact bD (c2 ra)
  .rw[<- cgb];show ai af ((R.map (C B L ln)).set a _)=_;rw[oF ra (λb hb=>c.fr.gd b a (.G gs.length) trivial hb ra) cong]
  .refine⟨c.bi,⟨l.cw,l.nodes,?_,⟨ga,q,?_,u⟩,l.lm,l.bH,l.cy,l.done,l.cO⟩,fr,c.bR,c.nb,c.nl⟩
   .show af.bP=(((gs++[g++[j]])[0]?).getD []).map _;rw[l.bP,eg,gh (by lia),gh (by lia)]
   .show ga.length+1=(gs++[g++[j]]).length;rw[gl,ba];rfl
theorem Wy(c:cj sc af R B L ln){gs:List (List Nat)}{g:List Nat}(eg:L.bq=gs++[g])(hg:gs≠[]):∃gv R',af.da.getLast?=ae gv/\R.map (C B L ln)=R'.map (C B {L with bq:=gs} ln)/\R'.length=R.length/\cj sc {af with da:=af.da.dropLast} R' B {L with bq:=gs} ln/\ef R R':=by
 have l:=c.li;obtain⟨ga,q,w,u⟩:=l.bq;have gp:=ui.mpr hg;have gl:ga.length=gs.length:=by rw[eg,ba,dS]at w;lia
 have gne:ga≠[]:=by intro h;rw[h]at gl;exact absurd gl.symm (by show gs.length≠0;lia)
 obtain⟨ga',a,e⟩:∃ga' a,ga=ga'++[a]:=⟨ga.dropLast,ga.getLast gne,(ue _).symm⟩;have la:ga'.length+1=gs.length:=by rw[<- gl,e,ba];rfl
 have ra:R[a]?=ae (.G gs.length):=by
  rw[<- la];apply u;rw[e,gI (cC _),gw];rfl
 have al:=(jL.mp ra).1;have get:∀b,b≠a->(R.set a (.I (C B L ln (.G gs.length))))[b]?=R[b]?:=λb hb=>rk (λh=>hb h.symm);have get0:(R.set a (.I (C B L ln (.G gs.length))))[a]?=ae (.I (C B L ln (.G gs.length))):=pY al
 have back:∀(b:Nat)(r:aY),OC r->(R.set a (.I (C B L ln (.G gs.length))))[b]?=ae r->b≠a/\R[b]?=ae r:=by
  intro b r hm h;by_cases hb:b=a
  .rw[hb,get0]at h;rw[<- dE h]at hm;exact hm.elim
  .rw[get b hb]at h;exact⟨hb,h⟩
 have x:ef R (R.set a (.I (C B L ln (.G gs.length)))):=by
  intro b r aU hq
  have hb:b≠a:=by
   rintro rfl;rw[ra]at hq;exact aU _ (dE hq).symm
  rw[get b hb];exact hq
 have sp:af.da=(V.R 28::ga'.map b4)++[b4 a]:=by
  rw[q,e,cK];rfl
 refine⟨b4 a,R.set a (.I (C B L ln (.G gs.length))),by rw[sp,gf],?_,Aw ..,⟨c.bi.mono rfl x,⟨?_,λi hi=>(l.nodes i hi).ex x,?_,⟨ga',?_,la,?_⟩,?_,l.bH,l.cy,l.done,l.cO.ex x⟩,?_,pq c.bR rfl (bB rfl),λy hy=>(c.nb y hy).ex x y,λy hy=>(c.nl y hy).ex x y⟩,x⟩
 .apply Ar;intro b;rw[jo,jo];by_cases hb:b=a
  .subst hb;rw[get0,ra];rfl
  .rw[get b hb];cases hq:R[b]? with
   | none=>rfl
   | some r=>
    show ae (C B L ln r)=ae (C B {L with bq:=gs} ln r);congr 1;cases r with
    | G j'=>
     have aD:=(c.fr.dA b j' hq).2;rw[eg,ba,dS]at aD;have h3:j'≠gs.length:=λh=>hb (c.fr.gd b a (.G gs.length) trivial (h▸hq) ra);show O.L (((L.bq[j']?).getD []).map _)=O.L (((gs[j']?).getD []).map _);rw[eg,gh (by lia)]
    | _=>rfl
 .obtain⟨j,q,w⟩:=l.cw;exact⟨j,q,x _ _ nofun w⟩
 .show af.bP=((gs[0]?).getD []).map _;rw[l.bP,eg,gh gp]
 .show af.da.dropLast=_;rw[sp,iH]
 .intro j a' hj;have hj2:=(jL.mp hj).1;have h1:=u j a' (by rw[e,gh hj2];exact hj)
  have hb:a'≠a:=by
   rintro rfl;rw[ra]at h1;have:=dE h1;injection this with this
   lia
  rw[get a' hb];exact h1
 .rcases l.lm with q | ⟨s,j,q,w⟩
  .exact bB q
  .exact bE ⟨s,j,q,x _ _ nofun w⟩
 .refine⟨?_,λb i h=>c.fr.ch b i (back b (.C i) trivial h).2,λb i h=>c.fr.je b i (back b (.L i) trivial h).2,?_,λb h=>c.fr.bm b (back b .B trivial h).2,λb h=>c.fr.lm b (back b .A trivial h).2⟩
  .intro b b' r hm h h';exact c.fr.gd b b' r hm (back b r hm h).2 (back b' r hm h').2
  .intro b j' h;obtain⟨hb,hq⟩:=back b (.G j') trivial h;have aD:=c.fr.dA b j' hq;rw[eg,ba,dS]at aD;have h3:j'≠gs.length:=λh=>hb (c.fr.gd b a (.G gs.length) trivial (h▸hq) ra);exact⟨aD.1,by show j'<gs.length;lia⟩
end
end
section
section
variable{sc p k:Nat}{af:br}{R:List aY}{B L:bw}{ln:Nat->Nat}{r1 r2:List Nat}{t:Nat}{gs:List (List Nat)}{g:List Nat}{ms:List aw}{x:aw}
noncomputable def kI(sc:Nat):List Nat:=if sc=0 then[2]else[]
theorem EE:cR sc=1::kI sc:=by unfold cR kI;split<;>rfl
theorem ZP{ms:List aw}(h:ms≠[]):(ms.map V.S)[0]?=ae (.S ((ms.head?).getD [])):=by
 cases ms with
 | nil=>exact absurd ab h
 | cons y r=>rfl
theorem EW{n m mb:Nat}(c:cj sc af R B L ln)(w:bz sc p L)(dq:cW n m L)(b:aQ mb af)(aU:n<400)(ct:Cut sc L r1 r2 t gs g ms x):
 ∃aG R',aA ao (k+2) 740 [.R 32] (ai af (R.map (C B L ln)))=ae (.N,ai aG (R'.map (C B (kX sc L r1 gs ms) ln)))/\cj sc aG R' B (kX sc L r1 gs ms) ln/\ef R R':=by
 have es:L.ay=1::(kI sc++r1)++t::r2:=by rw[ct.st,EE];rfl
 have e1:cR sc++r1=1::(kI sc++r1):=by rw[EE];rfl
 have c1:=oj c (X:=[eC L.f L.g L.ay])
 have bf:=xZ c1 (st:=cR sc++r1)
 obtain⟨gv,R3,qg,eR3,lR3,c3,x3⟩:=Wy bf ct.dA ct.bP
 have c4:=EX c3 (ms:=ms) (bZ:=jB sc L.f L.g ms r1) (cy:=af.g7)
 have r4:=FW c3 (ms:=ms) (bZ:=jB sc L.f L.g ms r1) (cy:=af.g7)
 have c5:=oj c4 (X:=[Ae,.L ((kI sc++r1).map (b_ ln))])
 have Rl:(R.map (C B L ln)).length=R.length:=cB ..
 have hm:fP af (R.map (C B L ln)) (ms.map V.S++[.S x]):=by
  have:=BH c;rw[ct.bZ,cK]at this;exact this
 have wm:(ms.map V.S++[V.S x]).length<aK:=by
  have h1:=dq.cf;have e:(ms.map V.S++[V.S x]).length=L.cf.length:=by rw[ct.bZ,ba,ba,cB];rfl
  rw[e];exact fO h1 (fg aU (aN rfl))
 have h0:(af.gq=aB/\(ms.map V.S)[0]?=ae (.S (if sc=1 then(ms.head?).getD []else ec)))\/(af.gq=aP/\(if sc=1 then(ms.head?).getD []else ec)=ec):=by
  by_cases s1:sc=1
  .left;refine⟨by rw[c.bR.gq,decide_eq_true s1],?_⟩;rw[if_pos s1];exact ZP (ct.m0.1 s1)
  .right;exact⟨by rw[c.bR.gq,decide_eq_false s1],if_neg s1⟩
 have nbt:∀i∈kI sc,bp L.ag i=false:=by
  intro i hi;have:=pZ.mp (xP w) i (by rw[EE];exact eV _ hi);exact o4.mpr this
 have r:=aaF (k:=k) (f:=L.f) (g:=L.g) (ln:=ln) (s:=kI sc++r1) (R:=r2) (i0:=1) (t:=t) (gv:=gv) (l:=.S x) (ms:=ms.map V.S) (mm:=(ms.getLast?).getD []) (m0:=if sc=1 then(ms.head?).getD []else ec) b
  (qN c w (s:=1::(kI sc++r1)++t::r2) λi hi=>by rw[es];exact hi)
  (by rw[<- es];exact j3 c)
  (by rw[<- es];have:=dq.ay;lia)
  ct.aC ct.aD qg hm wm h0
  (λi hi ti=>by
   rcases gW.mp hi with hi | hi
   .have h1:bp L.ag i=true:=ti;rw[nbt i hi]at h1;cases h1
   .obtain⟨a,y,e⟩:=oS (ct.m0.2 i hi ti);rw[e,cK,gf];exact gf ..)
  (λi hi=>by
   have hs:i∈L.ay:=by rw[es];exact iG _ (eV _ hi)
   obtain⟨_,_,hl⟩:=w.mem i hs;obtain⟨la,k,_,_,h⟩:=c.li.nodes i hl
   have hq:∃o,R[ln i]?=ae (.I o):=by
    rcases h with⟨_,q⟩ | ⟨_,k2,_,q⟩
    .exact⟨_,q⟩
    .exact⟨_,q⟩
   obtain⟨o,hq⟩:=hq;rcases c.li.lm with⟨_,h,_⟩ | ⟨_,j,h,q⟩
   .lia
   .intro e;have:j=ln i:=by lia
    rw[this,hq]at q;cases q)
 rw[<- es,<-e1]at r
 have eb:(kI sc++r1).foldl (gD L.f L.g ((ms.getLast?).getD [])) (if sc=1 then(ms.head?).getD []else ec)=jB sc L.f L.g ms r1:=by
  rw[Tf];unfold jB;congr 1;unfold kI;by_cases s0:sc=0
  .rw[if_pos s0];obtain⟨ey,bQ⟩:=w.bQ s0;show gD _ _ _ _ 2=_;unfold gD
   have h1:¬du L.f L.g aR 2=true:=by
    show ¬(decide ((nn L.ag 2).sp=aJ)&&decide ((nn L.ag 2).nm=aR))=aB;rw[bQ];rw[kS,decide_eq_true_iff,decide_eq_true_iff];intro h;exact absurd h.2 (by decide)
   rw[if_neg h1];show(if (nn L.ag 2).sp=aJ then(toN.lookup (nn L.ag 2).nm).getD _ else _)=_;rw[ey,bQ];rfl
  .rw[if_neg s0];rfl
 rw[eb]at r
 have eA:R.map (C B L ln)++[eC L.f L.g L.ay,O.L ((cR sc++r1).map (b_ ln))]=R3.map (C B {({L with ay:=cR sc++r1}:bw)with bq:=gs} ln):=by
  rw[<- eR3,<-C_,<-oy,cG];rfl
 have eM:iB af (R.map (C B L ln)++[eC L.f L.g L.ay,O.L ((cR sc++r1).map (b_ ln))]) (ms.map V.S)=R3.map (C B (uF {({L with ay:=cR sc++r1}:bw)with bq:=gs} ms (jB sc L.f L.g ms r1) af.g7) ln):=by
  rw[eA];exact r4
 rw[eM,oy,Rl]at r
 have eF:uF {({L with ay:=cR sc++r1}:bw)with bq:=gs} ms (jB sc L.f L.g ms r1) af.g7=kX sc L r1 gs ms:=by rw[c.li.cy];rfl
 rw[eF]at r c5
 have eL:(R++[eC L.f L.g L.ay].map aY.I).length=R.length+1:=by rw[ba];rfl
 rw[eL]at c5
 exact⟨_,_,r,c5,(bh.ex bh.app).trans ((bh.ex bh.app).trans (x3.trans (bh.ex bh.app)))⟩
end
end
section
section
variable{sc p p' n m n' m':Nat}{B B':bw}
theorem cW.mono(h:cW n m B)(w:n<=n')(w2:m<=m'):cW n' m' B:=⟨d8 h.ag w,d8 h.ay w,d8 h.bW w,d8 h.cf w,d8 h.bq w,λi=>d8 (h.dd i) w,λi=>d8 (h.ch i) w,d8 h.cO w2⟩
theorem cW.to(h:cW n m B)(en:B'.ag=B.ag)(e1:B'.ay.length<=n')(e2:(dM B'.bq).length<=n')(e3:B'.cf.length<=n')(e4:B'.bq.length<=n')(w:n<=n')(e5:B'.cO.length<=m'):cW n' m' B':=⟨en▸d8 h.ag w,e1,e2,e3,e4,λi=>en▸d8 (h.dd i) w,λi=>en▸d8 (h.ch i) w,e5⟩
theorem k_(h:cW n m B){x:iq}:cW n (m+1) (mR B x):=h.to rfl h.ay h.bW h.cf h.bq (cC _) (by show(B.cO++[x]).length<=_;rw[ba];exact Kj h.cO)
theorem aaC(h:cW n m B){j:Nat}{aX:aw}(hs:aX.length=1):cW (n+2) m (jt B j aX):=by
 refine⟨?_,d8 h.ay (by lia),d8 h.bW (by lia),d8 h.cf (by lia),d8 h.bq (by lia),?_,?_,h.cO⟩
 .show(B.ag.modify j (cU aX)).length<=_;rw[xB];exact d8 h.ag (by lia)
 .intro i;show(nn (B.ag.modify j (cU aX)) i).dd.length<=_;have:=h.dd i;by_cases e:j=i
  .subst e;by_cases hj:j<B.ag.length
   .rw[BI hj];show((nn B.ag j).dd++aX).length<=_;rw[ba,hs];lia
   .rw[lr (by rw[xB];lia)];exact gJ _
  .rw[BJ e];lia
 .intro i;show(nn (B.ag.modify j (cU aX)) i).ch.length<=_;rw[kh (f:=cU aX) bk.ch λ_=>rfl];exact d8 (h.ch i) (by lia)
theorem qL(h:cW n m B){sp nm aL:aw}:cW (n+2) m (eQ B sp nm aL):=
 FQ h (fA _) (λi=>by cases i<;>exact gJ _) (λi=>by cases i<;>rfl) (by rw[ba];exact cC _)
theorem O0(h:cW n m B){aL:aw}:cW (n+2) m (gP B aL):=
 FQ h (cC _) (λi=>by rcases i with _ | _ | i<;>exact gJ _) (λi=>by rcases i with _ | _ | i<;>rfl) (by rw[ba];exact cC _)
theorem O3(h:cW n m B){aX:aw}(hs:aX.length=1):cW (n+2) m (jV B aX):=
 FQ h (fA _) (λi=>by cases i;exact xu hs;exact gJ _) (λi=>by cases i<;>rfl) (fA _)
theorem aaD(h:cW n m B){aX:aw}(hs:aX.length=1):cW (n+2) m (ju B aX):=by
 unfold ju;cases(nn B.ag B.hm).ch.getLast? with
 | none=>exact O3 h hs
 | some j=>
  dsimp only;split
  .exact aaC h hs
  .exact O3 h hs
theorem O1(h:cW n m B)(hg:B.bq≠[]){aL:aw}:cW (n+2) m (lU B aL):=by
 refine(O0 h (aL:=aL)).to ab ?_ ?_ ?_ ?_ (cC _) h.cO
 .have:=h.ay;show(B.ay++[B.ag.length]).length<=_;rw[ba,dS];lia
 .have:=h.bW;show(dM (B.bq++[[]])).length<=_;rw[qF hg,ba,fH,D0,nT];lia
 .have:=h.cf;show(B.cf++[cX]).length<=_;rw[ba,dS];lia
 .have:=h.bq;show(B.bq++[[]]).length<=_;rw[ba,dS];lia
theorem Ai{r:List Nat}(w:bz sc p B)(pp:p<=p')(en:B'.ag=B.ag)(hd:B.done=aP)(hd':B'.done=aP)(e:B'.ay=cR sc++r)(aZ:∀i∈r,(0<i/\i<B.ag.length/\(nn B.ag i).lw=aB)/\((nn B.ag i).sp=aJ\/(nn B.ag i).sp=cY)/\(nn B.ag i).nm∈fx)
 (bP:B'.bq≠[]) (jY:∀g∈B'.bq,∀i∈g,(nn B.ag i).lw=aB/\(nn B.ag i).sp=aJ/\(nn B.ag i).nm=dK/\∃q,q<p'/\(nn B.ag i).aL=cg q) (fL:B'.bq.length=1+r.countP (bp B.ag)) (fM:B'.cf.length=r.countP (bp B.ag)+(if sc=1 then 1 else 0)) (bZ:B'.bH∈ho) (ms:∀x∈B'.cf,x∈ho) (mt:B'.bH=cX->B'.cf≠[]):bz sc p' B':=by
 have cb:B'.ay.countP (bp B'.ag)=r.countP (bp B.ag):=by rw[en,e,kR,xP w,AA]
 have hb:∀i∈cR sc,i∈B.ay:=by
  rcases w.st with⟨h,_⟩ | ⟨_,r0,fk,_⟩
  .rw[hd]at h;cases h
  .intro i hi;rw[fk];exact iG _ hi
 refine⟨bE ⟨hd',r,e,λi hi=>en▸(aZ i hi).2⟩,en▸w.ey,en▸w.bQ,en▸w.bf,en▸w.nl,?_,en▸w.gz,en▸w.oW,en▸w.ch,en▸w.gd,en▸w.nG,en▸w.ok,bP,en▸jY,cb▸fL,cb▸fM,bZ,ms,mt,?_,en▸w.gb⟩
 .rw[e,en];intro i hi;rcases gW.mp hi with hi | hi
  .exact w.mem i (hb i hi)
  .exact(aZ i hi).1
 .rw[en];exact d8 w.lw (by lia)
theorem bz.mono(w:bz sc p B)(pp:p<=p'):bz sc p' B:=⟨w.st,w.ey,w.bQ,w.bf,w.nl,w.mem,w.gz,w.oW,w.ch,w.gd,w.nG,w.ok,w.dA,λg hg i hi=>by
 obtain⟨a,b,c,q,hq,d⟩:=w.jY g hg i hi;exact⟨a,b,c,q,by lia,d⟩,w.fL,w.fM,w.bZ,w.ms,w.mt,d8 w.lw (by lia),w.gb⟩
theorem lI(w:bz sc p B){x:iq}:bz sc p (mR B x):=⟨w.st,w.ey,w.bQ,w.bf,w.nl,w.mem,w.gz,w.oW,w.ch,w.gd,w.nG,w.ok,w.dA,w.jY,w.fL,w.fM,w.bZ,w.ms,w.mt,w.lw,w.gb⟩
theorem ub(w:bz sc p B)(hd:B.done=aP):∃r,B.ay=cR sc++r/\(∀i∈r,(0<i/\i<B.ag.length/\(nn B.ag i).lw=aB)/\((nn B.ag i).sp=aJ\/(nn B.ag i).sp=cY)/\(nn B.ag i).nm∈fx)/\B.ay.countP (bp B.ag)=r.countP (bp B.ag):=by
 rcases w.st with⟨h,_⟩ | ⟨_,r,e,aZ⟩
 .rw[hd]at h;cases h
 .refine⟨r,e,λi hi=>⟨w.mem i (by rw[e];exact gr _ hi),aZ i hi⟩,?_⟩;rw[e,kR,xP w,AA]
theorem head_mem{ms l:List aw}(h:ms≠[])(q:∀y∈ms,y∈l):(ms.head?).getD []∈l:=by
 cases ms with
 | nil=>exact absurd ab h
 | cons y r=>exact q y (fa ..)
theorem xl{r1 r2:List Nat}{t:Nat}{gs:List (List Nat)}{g:List Nat}{ms:List aw}{x:aw}(w:bz sc p B)(hd:B.done=aP)(ct:Cut sc B r1 r2 t gs g ms x):bz sc p (kX sc B r1 gs ms):=by
 obtain⟨r,er,aZ,hc⟩:=ub w hd
 have e2:r=r1++t::r2:=by
  have e:=ct.st;rw[er,cG]at e;exact SP e
 have cs:B.ay.countP (bp B.ag)=r1.countP (bp B.ag)+1:=by
  have bf:r2.countP (bp B.ag)=0:=pZ.mpr λi hi=>by rw[ct.aD i hi];decide
  rw[hc,e2,kR,p4,bf,ct.aC];simp
 have fL:=w.fL;have fM:=w.fM;rw[cs]at fL fM;rw[ct.dA,ba,dS]at fL;rw[ct.bZ,ba,dS]at fM
 have lvm:jB sc B.f B.g ms r1∈ho/\(jB sc B.f B.g ms r1=cX->ms≠[]):=by
  have hms:∀y∈ms,y∈ho:=λy hy=>w.ms y (by rw[ct.bZ];exact iG _ hy)
  have hmm:(∃i∈r1,bp B.ag i=aB)->(ms.getLast?).getD []∈ho/\((ms.getLast?).getD []=cX->ms≠[]):=by
   rintro⟨i,hi,ti⟩;have hne:=ct.m0.2 i hi ti;obtain⟨a,y,e⟩:=oS hne;have:(ms.getLast?).getD []=y:=by rw[e,gf];rfl
   rw[this];exact⟨hms y (by rw[e];exact gr _ (o2 _)),λ_=>hne⟩
  have start:(if sc=1 then(ms.head?).getD []else ec)∈ho/\((if sc=1 then(ms.head?).getD []else ec)=cX->ms≠[]):=by
   by_cases s1:sc=1
   .rw[if_pos s1];have h:=ct.m0.1 s1;refine⟨?_,λ_=>h⟩;exact head_mem h hms
   .rw[if_neg s1];exact⟨by decide,λh=>absurd h (by decide)⟩
  have told:∀e∈toN,e.2∈ho/\e.2≠cX:=by decide
  unfold jB
  have:∀(r:List Nat)(a:aw),(∀i∈r,i∈r1)->(a∈ho/\(a=cX->ms≠[]))->(r.foldl (gD B.f B.g ((ms.getLast?).getD [])) a∈ho/\(r.foldl (gD B.f B.g ((ms.getLast?).getD [])) a=cX->ms≠[])):=by
   intro r;induction r with
   | nil=>intro a _ h;exact h
   | cons i r ih=>
    intro a aZ h;refine ih _ (λj hj=>aZ j (eV _ hj)) ?_;unfold gD;by_cases ti:du B.f B.g aR i=aB
    .rw[if_pos ti];exact hmm ⟨i,aZ i (fa ..),ti⟩
    .rw[if_neg ti];split
     .cases q:toN.lookup (B.g i)with
      | none=>exact h
      | some v=>
       obtain⟨e,he,hv⟩:=lb toN q;show v∈ho/\(v=cX->_);rw[<- hv];exact⟨(told e he).1,λh=>absurd h (told e he).2⟩
     .exact h
  exact this r1 _ (λi hi=>hi) start
 refine Ai w (cC _) rfl hd hd rfl (r:=r1) (λi hi=>aZ i (by rw[e2];exact iG _ hi)) ct.bP (λg hg=>w.jY g (by rw[ct.dA];exact iG _ hg)) ?_ ?_ lvm.1 ?_ lvm.2
 .show gs.length=_;lia
 .show ms.length=_;lia
 .intro y hy;exact w.ms y (by rw[ct.bZ];exact iG _ hy)
theorem Zi{gs:List (List Nat)}{g:List Nat}(h:gs≠[]):(dM gs).length<=(dM (gs++[g])).length:=by rw[qF h,ba];lia
theorem ym{r1 r2:List Nat}{t:Nat}{gs:List (List Nat)}{g:List Nat}{ms:List aw}{x:aw}(h:cW n m B)(ct:Cut sc B r1 r2 t gs g ms x):cW n m (kX sc B r1 gs ms):=by
 refine h.to ab ?_ ?_ ?_ ?_ (cC _) h.cO
 .have:=h.ay;rw[ct.st,ba]at this;show(cR sc++r1).length<=n;lia
 .have:=h.bW;rw[ct.dA]at this;exact d8 (Zi ct.bP) this
 .have:=h.cf;rw[ct.bZ,ba]at this;show ms.length<=n;lia
 .have:=h.bq;rw[ct.dA,ba]at this;show gs.length<=n;lia
theorem DJ(w:bz sc p B)(hd:B.done=aP){sp nm aL:aw}(nt:sp≠aJ\/nm≠aR)(h1:sp=aJ\/sp=cY)(aD:nm∈fx)(op:cM aL):bz sc (p+1) (eQ B sp nm aL):=by
 have t0:bp [dg sp nm aL] 0=false:=by
  show(decide (sp=aJ)&&decide (nm=aR))=aP;rcases nt with h | h
  .rw[decide_eq_false h];rfl
  .rw[decide_eq_false h,rt]
 refine DI (X:=[dg sp nm aL]) (x:=dg sp nm aL) (X':=[]) w hd ab (bB ⟨ab,ab,h1,aD,t0⟩) (λi=>by cases i<;>rfl) ?_ ?_ (bB ab) ?_ ?_
 .intro i hi;cases i with
  | zero=>
   refine⟨rfl,?_,pH aD⟩;rcases h1 with h | h
   .show cM sp;rw[h];exact g8
   .show cM sp;rw[h];exact dD rfl
  | succ i=>cases hi
 .intro i hi;cases i with
  | zero=>rw[t0]at hi;cases hi
  | succ i=>cases hi
 .intro i;cases i with
  | zero=>exact⟨op,dD ab⟩
  | succ i=>exact⟨dD ab,dD ab⟩
 .show 1+p<=p+1;lia
theorem HB{a b:aw}(h1:cM a)(aD:cM b):cM (a++b):=by
 unfold cM sp lN at *;have e:∀x:aw,Kx x.toArray (λc=>decide (c<0x110000))=aB↔x.all (λc=>decide (c<0x110000))=true:=λx=>by rw[Tq]
 show Kx (a++b).toArray (λc=>decide (c<0x110000))=aB;rw[e,List.all_append,kS];exact⟨(e a).mp h1,(e b).mp aD⟩
theorem Sp(w:bz sc p B)(hd:B.done=aP){aX:aw}(o:cM aX):bz sc p (jV B aX):=by
 refine DI (X:=[jI aX]) (x:=jI aX) (X':=[]) w hd ab (bE ab) (λi=>by cases i<;>rfl) ?_ ?_ (bE ab) ?_ ?_
 .intro i hi;cases i<;>cases hi
 .intro i hi;cases i with
  | zero=>revert hi;show(decide (([]:aw)=aJ)&&_)=aB->_;intro h;cases h
  | succ i=>cases hi
 .intro i;cases i with
  | zero=>exact⟨dD ab,o⟩
  | succ i=>exact⟨dD ab,dD ab⟩
 .show 0+p<=p;lia
theorem age(w:bz sc p B){j:Nat}{aX:aw}(o:cM aX):bz sc p (jt B j aX):=by
 have b8:∀{bg:Type}(F:bk->bg)(h:∀n,F (cU aX n)=F n)(i:Nat),F (nn (B.ag.modify j (cU aX)) i)=F (nn B.ag i):=λF h i=>kh F h;have ft:bp (B.ag.modify j (cU aX))=bp B.ag:=funext λi=>FF (f:=cU aX) (λ_=>rfl) λ_=>rfl;have N:(B.ag.modify j (cU aX)).length=B.ag.length:=xB ..;refine⟨?_,?_,?_,?_,?_,?_,?_,?_,?_,?_,?_,?_,w.dA,?_,?_,?_,w.bZ,w.ms,w.mt,?_,?_⟩
 .rcases w.st with h | ⟨h,r,e,aZ⟩
  .exact bB h
  .refine bE ⟨h,r,e,λi hi=>?_⟩;show((nn (B.ag.modify j (cU aX)) i).sp=_\/(nn (B.ag.modify j (cU aX)) i).sp=_)/\(nn (B.ag.modify j (cU aX)) i).nm∈_;rw[b8 bk.sp (λ_=>rfl),b8 bk.nm (λ_=>rfl)];exact aZ i hi
 .show(nn (B.ag.modify j (cU aX)) 1).sp=_/\(nn (B.ag.modify j (cU aX)) 1).nm=_;rw[b8 bk.sp (λ_=>rfl),b8 bk.nm (λ_=>rfl)];exact w.ey
 .show sc=0->(nn (B.ag.modify j (cU aX)) 2).sp=_/\(nn (B.ag.modify j (cU aX)) 2).nm=_;rw[b8 bk.sp (λ_=>rfl),b8 bk.nm (λ_=>rfl)];exact w.bQ
 .show sc≠0->(nn (B.ag.modify j (cU aX)) 2).sp=_/\(nn (B.ag.modify j (cU aX)) 2).nm=_;rw[b8 bk.sp (λ_=>rfl),b8 bk.nm (λ_=>rfl)];exact w.bf
 .show 2<(B.ag.modify j (cU aX)).length;rw[N];exact w.nl
 .intro i hi;show 0<i/\i<(B.ag.modify j (cU aX)).length/\(nn (B.ag.modify j (cU aX)) i).lw=aB;rw[N,b8 bk.lw (λ_=>rfl)];exact w.mem i hi
 .intro i hi;have hi:(nn (B.ag.modify j (cU aX)) i).lw=true:=hi;show(nn (B.ag.modify j (cU aX)) i).aT=_/\_/\cM (nn (B.ag.modify j (cU aX)) i).sp/\cM (nn (B.ag.modify j (cU aX)) i).nm;rw[b8 bk.lw (λ_=>rfl)]at hi;rw[b8 bk.aT (λ_=>rfl),b8 bk.sp (λ_=>rfl),b8 bk.nm (λ_=>rfl)];exact w.gz i hi
 .intro i hi;have hi:bp (B.ag.modify j (cU aX)) i=true:=hi;show i+1<(B.ag.modify j (cU aX)).length/\(nn (B.ag.modify j (cU aX)) (i+1)).aT=_;rw[ft]at hi;rw[N,b8 bk.aT (λ_=>rfl)];exact w.oW i hi
 .intro q i hi;have hi:i∈(nn (B.ag.modify j (cU aX)) q).ch:=hi;show q<i/\i<(B.ag.modify j (cU aX)).length/\((nn (B.ag.modify j (cU aX)) i).lw=aB\/(nn (B.ag.modify j (cU aX)) i).aT=_);rw[b8 bk.ch (λ_=>rfl)]at hi;rw[N,b8 bk.lw (λ_=>rfl),b8 bk.aT (λ_=>rfl)];exact w.ch q i hi
 .intro q q' i hi hi';have hi:i∈(nn (B.ag.modify j (cU aX)) q).ch:=hi;have hi':i∈(nn (B.ag.modify j (cU aX)) q').ch:=hi';rw[b8 bk.ch (λ_=>rfl)]at hi hi';exact w.gd q q' i hi hi'
 .intro q;show(nn (B.ag.modify j (cU aX)) q).ch.Pairwise _;rw[b8 bk.ch (λ_=>rfl)];exact w.nG q
 .intro i;show cM (nn (B.ag.modify j (cU aX)) i).aL/\cM (nn (B.ag.modify j (cU aX)) i).dd;rw[b8 bk.aL (λ_=>rfl)];refine⟨(w.ok i).1,?_⟩;by_cases e:j=i
  .subst e;by_cases hj:j<B.ag.length
   .rw[BI hj];exact HB (w.ok j).2 o
   .rw[lr (by rw[N];lia)];exact dD rfl
  .rw[BJ e];exact(w.ok i).2
 .intro g hg i hi;show(nn (B.ag.modify j (cU aX)) i).lw=aB/\(nn (B.ag.modify j (cU aX)) i).sp=_/\(nn (B.ag.modify j (cU aX)) i).nm=_/\∃q,q<p/\(nn (B.ag.modify j (cU aX)) i).aL=_;rw[b8 bk.lw (λ_=>rfl),b8 bk.sp (λ_=>rfl),b8 bk.nm (λ_=>rfl),b8 bk.aL (λ_=>rfl)];exact w.jY g hg i hi
 .show B.bq.length=1+B.ay.countP (bp (B.ag.modify j (cU aX)));rw[ft];exact w.fL
 .show B.cf.length=B.ay.countP (bp (B.ag.modify j (cU aX)))+_;rw[ft];exact w.fM
 .show(B.ag.modify j (cU aX)).countP _<=_;rw[LQ (f:=cU aX) λ_=>rfl];exact w.lw
 .show(nn (B.ag.modify j (cU aX)) 1).lw=aB/\(nn (B.ag.modify j (cU aX)) 1).aL=[];rw[b8 bk.lw (λ_=>rfl),b8 bk.aL (λ_=>rfl)];exact w.gb
theorem agg(w:bz sc p B)(hd:B.done=aP){aX:aw}(o:cM aX):bz sc p (ju B aX):=by
 unfold ju;cases(nn B.ag B.hm).ch.getLast? with
 | none=>exact Sp w hd o
 | some j=>
  dsimp only;split
  .exact age w o
  .exact Sp w hd o
theorem Sn(w:bz sc p B)(hd:B.done=aP){aL:aw}(op:cM aL):bz sc (p+1) (lU B aL):=by
 have w1:bz sc (p+1) {B with ag:=bC B.ag B.hm B.ag.length++[dg aJ aR aL,eX],ay:=B.ay}:=by
  refine DI (X:=[dg aJ aR aL,eX]) (x:=dg aJ aR aL) (X':=[eX]) w hd rfl (bE rfl) (λi=>by rcases i with _ | _ | i<;>rfl) ?_ ?_ (bB rfl) ?_ ?_
  .intro i hi;rcases i with _ | _ | i
   .exact⟨ab,g8,pJ⟩
   .cases hi
   .cases hi
  .intro i hi;rcases i with _ | _ | i
   .exact⟨aN ab,ab⟩
   .revert hi;show(decide (([]:aw)=aJ)&&_)=aB->_;intro h;cases h
   .cases hi
  .intro i;rcases i with _ | _ | i
   .exact⟨op,dD ab⟩
   .exact⟨dD ab,dD ab⟩
   .exact⟨dD ab,dD ab⟩
  .show 1+p<=p+1;lia
 have hd1:bw.done {B with ag:=bC B.ag B.hm B.ag.length++[dg aJ aR aL,eX],ay:=B.ay}=false:=hd;obtain⟨r,er,aZ,hc⟩:=ub w1 hd1;have lnew:(nn (bC B.ag B.hm B.ag.length++[dg aJ aR aL,eX]) B.ag.length)=dg aJ aR aL:=iA (r:=0);have er:B.ay=cR sc++r:=er
 have tN:bp (bC B.ag B.hm B.ag.length++[dg aJ aR aL,eX]) B.ag.length=true:=by
  unfold bp;rw[lnew];rfl
 have cc:(r++[B.ag.length]).countP (bp (bC B.ag B.hm B.ag.length++[dg aJ aR aL,eX]))=B.ay.countP (bp (bC B.ag B.hm B.ag.length++[dg aJ aR aL,eX]))+1:=by
  rw[kR,p4,tN];show r.countP _+1=_;exact congrArg (·+1) hc.symm
 refine Ai (B':=lU B aL) (r:=r++[B.ag.length]) w1 (cC _) rfl hd1 hd ?_ ?_ ?_ ?_ ?_ ?_ (by decide:cX∈ho) ?_ (λ_=>by show B.cf++[cX]≠[];simp)
 .show B.ay++[B.ag.length]=_;rw[er,cG]
 .intro i hi;rcases gW.mp hi with hi | hi
  .exact aZ i hi
  .rw[dx.mp hi];show(0<B.ag.length/\B.ag.length<(bC B.ag B.hm B.ag.length++[dg aJ aR aL,eX]).length/\(nn (bC B.ag B.hm B.ag.length++[dg aJ aR aL,eX]) B.ag.length).lw=aB)/\((nn (bC B.ag B.hm B.ag.length++[dg aJ aR aL,eX]) B.ag.length).sp=_\/_)/\(nn (bC B.ag B.hm B.ag.length++[dg aJ aR aL,eX]) B.ag.length).nm∈_;rw[lnew];have:=w.nl;refine⟨⟨by lia,?_,rfl⟩,bB rfl,(by decide:aR∈fx)⟩;rw[ba,jc];show B.ag.length<B.ag.length+2;lia
 .show B.bq++[[]]≠[];simp
 .intro g hg i hi;rcases gW.mp hg with hg | hg
  .exact w1.jY g hg i hi
  .rw[dx.mp hg]at hi;cases hi
 .rw[cc];have:=w1.fL;show(B.bq++[[]]).length=_;rw[ba,dS];have aD:B.bq.length=1+B.ay.countP (bp (bC B.ag B.hm B.ag.length++[dg aJ aR aL,eX])):=this;lia
 .rw[cc];have:=w1.fM;show(B.cf++[cX]).length=_;rw[ba,dS];have aD:B.cf.length=B.ay.countP (bp (bC B.ag B.hm B.ag.length++[dg aJ aR aL,eX]))+(if sc=1 then 1 else 0):=this;lia
 .intro x hx;rcases gW.mp hx with hx | hx
  .exact w.ms x hx
  .rw[dx.mp hx];decide
end
end
section
noncomputable def HM(P:Nat->Bool)(l:List Nat):List Nat:=(l.reverse.dropWhile λi=>!P i).tail.reverse
noncomputable def Dd(P:Nat->Bool)(l:List Nat):List Nat:=(l.reverse.takeWhile λi=>!P i).reverse
theorem NT{P:Nat->Bool}{t:Nat}{a:List Nat}(aC:P t=aB):(b:List Nat)->(∀i∈b,P i=aP)->(b++t::a).dropWhile (λi=>!P i)=t::a/\(b++t::a).takeWhile (λi=>!P i)=b
 | [],_=>by
  constructor
  .show(match !P t with | true=>a.dropWhile _ | false=>t::a)=_;rw[aC];rfl
  .show(match !P t with | true=>t::a.takeWhile _ | false=>[])=_;rw[aC];rfl
 | x::b,h=>by
  obtain⟨h1,aD⟩:=NT (a:=a) aC b λi hi=>h i (eV _ hi);have hx:=h x (fa ..);constructor
  .show(match !P x with | true=>(b++t::a).dropWhile _ | false=>x::(b++t::a))=_;rw[hx];exact h1
  .show(match !P x with | true=>x::(b++t::a).takeWhile _ | false=>[])=_;rw[hx];show x::_=_;rw[aD]
theorem acJ{P:Nat->Bool}{t:Nat}{a b:List Nat}(aC:P t=aB)(h:∀i∈b,P i=aP):HM P (a++t::b)=a/\Dd P (a++t::b)=b:=by
 have e:(a++t::b).reverse=b.reverse++t::a.reverse:=by rw[List.reverse_append,xm,cG];rfl
 obtain⟨h1,aD⟩:=NT (a:=a.reverse) aC b.reverse λi hi=>h i (lM.mp hi);unfold HM Dd;rw[e,h1,aD];exact⟨lL _,lL _⟩
noncomputable def dX(B:bw)(w:aw):bw:=mR B (.W w B.bH)
noncomputable def iK(B:bw)(t:Nat):bw:=mR B (.T B.bH t)
noncomputable def AR(B:bw):bw:={B with bq:=B.bq.dropLast++[(B.bq.getLast?).getD []++[top B]]}
noncomputable def qu(B:bw)(bZ:aw):bw:=rG B B.ay B.bq (B.cf.dropLast++[bZ]) bZ
noncomputable def kG(B:bw)(nm aL:aw):bw:=if nm=aR then lU B aL else if nm=cY then eQ B cY aR aL else if nm=dK then AR (eQ B aJ dK aL)else eQ B aJ nm aL
noncomputable def pb(B:bw)(nm aL:aw)(t:Nat):bw:=if nm=aR then lU B aL else{eQ (iK B t) aJ nm aL with ay:=B.ay}
noncomputable def hQ(sc:Nat)(B:bw):bw:=kX sc B ((HM (bp B.ag) B.ay).drop (cR sc).length) B.bq.dropLast B.cf.dropLast
noncomputable def mP(sc:Nat)(B:bw):bw:=if B.ay.any (bp B.ag)=aB then(if (Dd (bp B.ag) B.ay).any (h2 B.f B.g)=aB then hQ sc (dX B iE)else hQ sc B)else dX B j6
noncomputable def jX(sc:Nat):Nat->bw->bw
 | 0,B=>B
 | k+1,B=>jX sc k (hQ sc (dX B eK))
noncomputable def mQ(sc:Nat)(B:bw):bw:={jX sc (B.ay.countP (bp B.ag)) B with ay:=[],done:=aB}
noncomputable def hk(B:bw):Bool:=decide ((nn B.ag (top B)).sp=cY)
noncomputable def ku(B:bw):Bool:=decide ((nn B.ag (top B)).nm=iN)
noncomputable def qr(s:Bool)(B:bw):bw:=if s=aB then dX B mA else B
noncomputable def lT(sc:Nat)(B:bw)(nm:aw):bw:=if nm=aR then mP sc B else if hk B=aB then rF B else if B.bH=cX then dX B j6 else if du B.f B.g nm (top B)=aB then rF B else B
noncomputable def hM(B:bw)(nm aL:aw)(t:Nat):bw:=if (hk B&&!ku B)=aB then eQ B cY nm aL else if B.bH=cX then(if nm∈pC then pb B nm aL t else kG (qu B (dw nm)) nm aL)else kG B nm aL
noncomputable def kY(sc:Nat)(B:bw)(t:Nat):Tk->bw
 | .C aX=>ju B aX
 | .N _ _ _=>iK B t
 | .A=>mQ sc B
 | .E nm=>lT sc B nm
 | .S nm aL s=>qr s (hM B nm aL t)
theorem mc{sc:Nat}{B:bw}{r1 r2:List Nat}{t:Nat}{gs:List (List Nat)}{g:List Nat}{ms:List aw}{x:aw}(ct:Cut sc B r1 r2 t gs g ms x):hQ sc B=kX sc B r1 gs ms/\Dd (bp B.ag) B.ay=r2:=by
 obtain⟨h1,aD⟩:=acJ (P:=bp B.ag) (a:=cR sc++r1) ct.aC ct.aD;constructor
 .unfold hQ;rw[ct.st,h1,List.drop_left,ct.dA,ct.bZ,iH,iH]
 .rw[ct.st];exact aD
structure dB(sc n m:Nat)(af:br)(R:List aY)(B L:bw)(ln:Nat->Nat):Prop where
 c:cj sc af R B L ln
 b7:cW n m B
 dq:cW n m L
 aU:n<400
 hm:m<40000
section
variable{sc p k n m t:Nat}{af:br}{R:List aY}{B L:bw}{ln:Nat->Nat}{nm:aw}{s:Bool}
theorem dB.bd(I:dB sc n m af R B L ln):aQ 50000 af:=k7 I.c I.b7 I.dq (by have:=I.aU;lia) I.hm
theorem q6{aL:aw}(tk:fK R t (.S nm aL s)):∃a,R[t]?=ae (.I (.T [.S bO,.S nm,.R (a+33),.B s]))/\mN R a aL:=by
 obtain⟨_,ne,a,d,h1,aD,h3⟩:=tk;exact⟨a,h1,ne.1,d,aD,h3⟩
theorem Bp{aL:aw}{gs:List (List Nat)}{g:List Nat}(eg:B.bq=gs++[g]):AR (eQ B aJ dK aL)={eQ B aJ dK aL with bq:=gs++[g++[B.ag.length]]}:=by
 have e1:(eQ B aJ dK aL).bq=gs++[g]:=eg
 have e2:top (eQ B aJ dK aL)=B.ag.length:=by
  unfold top;show(B.ay++[B.ag.length]).getLastD 0=_;rw[J4,gf];rfl
 unfold AR;rw[e1,e2,iH,gf];rfl
theorem Lo(I:dB sc n m af R B L ln)(w:bz sc p B)(hd:B.done=aP)(hp:p<14)(tk:fK R t (.S nm (cg p) s)):
 ∃aG R',aA ao (k+10) 686 [.R 7,.R (t+33)] (ai af (R.map (C B L ln)))=ae (.N,ai aG (R'.map (C (kG B nm (cg p)) L ln)))/\cj sc aG R' (kG B nm (cg p)) L ln/\bh R R':=by
 obtain⟨a,aC,ta⟩:=q6 tk
 have ht2:=c2 (c:=C B L ln) aC
 have tw:∀nm:aw,[V.S bO,.S nm,.R (a+33),.B s].length<aK:=λ_=>aN (n:=4) (m:=aK) ab
 unfold kG
 by_cases e1:nm=aR
 .subst e1;rw[if_pos rfl];obtain⟨aG,R',r,c',pf⟩:=LN (k:=k+1) (mb:=49997) I.c w I.b7 I.bd hd I.aU aC ta;have r1:=OZ ht2 (tw aR) r;have r2:=mz (nm:=mX) (fn:=693) rfl r1;exact⟨aG,R',OR ht2 (tw aR) (by decide) (by decide) (by decide) r2,c',pf⟩
 .rw[if_neg e1];by_cases e2:nm=cY
  .subst e2;rw[if_pos rfl];obtain⟨aG,R',r,c',pf⟩:=xX (k:=k+5) (mb:=49999) (sp:=cY) (nm:=aR) I.c w I.b7 I.bd hd I.aU ta (bB (by decide));exact⟨aG,R',aam ht2 r,c',pf⟩
  .rw[if_neg e2];by_cases e3:nm=dK
   .subst e3;rw[if_pos rfl];obtain⟨gs,g,eg⟩:=z_ w.dA;rw[Bp eg];obtain⟨aG,R',r,c',pf⟩:=xX (k:=k+5) (mb:=49999) (sp:=aJ) (nm:=dK) I.c w I.b7 I.bd hd I.aU ta (bE (by decide));have bd':aQ 50000 aG:=k7 c' (qL I.b7) (I.dq.mono (by lia) (cC _)) (by have:=I.aU;lia) I.hm;have lnew:(nn (bC B.ag B.hm B.ag.length++[dg aJ dK (cg p)]) B.ag.length)=dg aJ dK (cg p):=iA (r:=0)
    have N1:(eQ B aJ dK (cg p)).ag.length=B.ag.length+1:=by
     show(bC B.ag B.hm B.ag.length++[_]).length=_;rw[ba,jc];rfl
    have nl:=w.nl;have hf:=I.b7.bW;have aU:=I.aU
    obtain⟨r2,bf⟩:=WG (k:=k+6) (q:=p) (gs:=gs) (g:=g) (j:=B.ag.length) c' bd' eg hp ⟨by lia,by lia,by show(nn (bC B.ag B.hm B.ag.length++[dg aJ dK (cg p)]) B.ag.length).sp=_;rw[lnew];rfl,by show(nn (bC B.ag B.hm B.ag.length++[dg aJ dK (cg p)]) B.ag.length).nm=_;rw[lnew];rfl,by show(nn (bC B.ag B.hm B.ag.length++[dg aJ dK (cg p)]) B.ag.length).aL=_;rw[lnew];rfl⟩ (λg hg i hi=>by
     obtain⟨h1,aD,h3,h4⟩:=w.jY g hg i hi
     have hi:i<B.ag.length:=by
      apply o1;intro h;rw[lr (by lia)]at h1;cases h1
     refine⟨(w.gz i h1).2.1,by lia,?_⟩;show(nn (bC B.ag B.hm B.ag.length++[dg aJ dK (cg p)]) i).sp=_/\(nn (bC B.ag B.hm B.ag.length++[dg aJ dK (cg p)]) i).nm=_/\∃q',q'<p/\(nn (bC B.ag B.hm B.ag.length++[dg aJ dK (cg p)]) i).aL=_;rw[hn bk.sp (λ_=>rfl) hi,hn bk.nm (λ_=>rfl) hi,hn bk.aL (λ_=>rfl) hi];exact⟨aD,h3,h4⟩) (by show(dM B.bq).length<_;lia)
    refine⟨_,R',aaj ht2 (c2 (pf _ _ aC)) ?_ r2,bf,pf⟩;rw[A4];exact r
   .rw[if_neg e3];obtain⟨aG,R',r,c',pf⟩:=xX (k:=k+5) (mb:=49999) (sp:=aJ) (nm:=nm) I.c w I.b7 I.bd hd I.aU ta (bE e1);refine⟨aG,R',aal (r1:=.I B.ag.length) ht2 (c2 (pf _ _ aC)) e1 e2 e3 ?_,c',pf⟩;rw[A4];exact r
end
end
section
section
variable{sc p k n m t:Nat}{af:br}{R:List aY}{B L:bw}{ln:Nat->Nat}{nm:aw}{s:Bool}
theorem x_(bi:lO sc af R B){w:aw}:rQ af w=gU (.W w B.bH):=by unfold rQ;rw[bi.bH];rfl
theorem PK(bi:lO sc af R B){t:Nat}:r9 af t=gU (.T B.bH t):=by unfold r9;rw[bi.bH];rfl
theorem uE:kK af (R.map (C B L ln))={af with d1:=af.d1++[.R (R.length+33)]}:=by unfold kK;rw[cB]
theorem JR(w:bz sc p B)(hd:B.done=aP){st r':List Nat}(e:st=cR sc++r')(aZ:∀i∈r',i∈B.ay/\((nn B.ag i).sp=aJ\/(nn B.ag i).sp=cY)/\(nn B.ag i).nm∈fx)(hc:r'.countP (bp B.ag)=B.ay.countP (bp B.ag)):bz sc p {B with ay:=st}:=
 Ai w (cC _) ab hd hd e (λi hi=>⟨w.mem i (aZ i hi).1,(aZ i hi).2⟩) w.dA w.jY (hc▸w.fL) (hc▸w.fM) w.bZ w.ms w.mt
theorem FR(h:cW n m B){st:List Nat}(hl:st.length<=B.ay.length):cW n m {B with ay:=st}:=h.to rfl (d8 hl h.ay) h.bW h.cf h.bq (cC _) h.cO
theorem Fy{f g:Nat->aw}{i:Nat}(h1:f i=aJ\/f i=cY)(aD:g i∈fx):(h2 f g i=aP->fC f g i∈g5++g6)/\(h2 f g i=aB->fC f g i∉g5++g6):=by
 have e:∀x∈fx,(x∈oA->x∈g5++g6)/\(x∉oA->x∉g5++g6):=by decide +kernel
 obtain⟨e1,e2⟩:=e _ aD;have ns:aJ≠cY:=by decide
 unfold h2 fC;rcases h1 with h | h
 .rw[h,if_pos rfl,decide_eq_false ns,TO];constructor
  .intro q;rw[Bool.not_eq_false',decide_eq_true_iff]at q;exact e1 q
  .intro q;rw[DW,decide_eq_false_iff_not]at q;exact e2 q
 .rw[h,if_neg ns.symm,decide_eq_true rfl,Kq];exact⟨(λq=>by cases q),(λ_=>by decide)⟩
theorem VH(I:dB sc n m af R B L ln)(w:bz sc p B)(hd:B.done=aP)(tk:fK R t (.S nm (cg p) s))(hm:m+1<40000):
 ∃aG R',aA ao (k+10) 693 [.R 7,.R (t+33)] (ai af (R.map (C B L ln)))=ae (.N,ai aG (R'.map (C (pb B nm (cg p) t) L ln)))/\cj sc aG R' (pb B nm (cg p) t) L ln/\bh R R':=by
 obtain⟨a,aC,ta⟩:=q6 tk
 have ht2:=c2 (c:=C B L ln) aC
 have tw:∀nm:aw,[V.S bO,.S nm,.R (a+33),.B s].length<aK:=λ_=>aN (n:=4) (m:=aK) ab
 unfold pb
 by_cases e1:nm=aR
 .subst e1;rw[if_pos rfl];obtain⟨aG,R',r,c',pf⟩:=LN (k:=k+3) (mb:=49997) I.c w I.b7 I.bd hd I.aU aC ta;exact⟨aG,R',OZ ht2 (tw aR) r,c',pf⟩
 .rw[if_neg e1];have hx:ir R (.T B.bH t):=⟨lk w.bZ,_,tk,nofun⟩;have c1:=rN I.c hx;have pf1:bh R (R++[aY.I (gU (.T B.bH t))]):=bh.app;have l1:=k_ I.b7 (x:=.T B.bH t);have ey:=k7 c1 l1 (I.dq.mono (cC _) (fA _)) (by have:=I.aU;lia) hm;obtain⟨aG,R',r,c',pf⟩:=xX (k:=k+5) (mb:=49999) (sp:=aJ) (nm:=nm) c1 (lI w) l1 ey hd I.aU (ta.ex pf1.ex) (bE e1);have bQ:=k7 c' (qL l1) (I.dq.mono (by lia) (fA _)) (by have:=I.aU;lia) hm
  have es:aG.ay=B.ay.map aV++[aV B.ag.length]:=by
   rw[c'.bi.ay];show(B.ay++[B.ag.length]).map aV=_;rw[cK];rfl
  have r2:=DA (k:=k+8) (D:=R'.map (C (eQ (iK B t) aJ nm (cg p)) L ln)) bQ (v:=aV B.ag.length) (by rw[es];exact gf ..) (by rw[es,ba,dS];lia);rw[es,iH]at r2;refine⟨_,R',aax I.bd ht2 e1 (r1:=.I B.ag.length) ?_ r2,A7 c',pf1.trans pf⟩;rw[A4,PK I.c.bi,uE,r_];exact r
theorem PD(c:cj sc af R B L ln)(w:bz sc p B):jr af B.f B.g B.ay:=pG c.bi λi hi=>(w.mem i hi).2.1
theorem WJ{r1 r2:List Nat}{t:Nat}{gs:List (List Nat)}{g:List Nat}{ms:List aw}{x:aw}(ct:Cut sc B r1 r2 t gs g ms x):B.ay.any (bp B.ag)=true:=by
 rw[ct.st,List.any_append,TM,ct.aC,Kq,T1]
theorem Ey(I:dB sc n m af R B L ln)(w:bz sc p B)(hd:B.done=aP)(hm:m+1<40000):
 ∃aG R',aA ao (k+5) 623 [.R 7] (ai af (R.map (C B L ln)))=ae (.N,ai aG (R'.map (C (mP sc B) L ln)))/\cj sc aG R' (mP sc B) L ln/\bh R R':=by
 have c:=I.c
 have bi:=c.bi
 have ni:=PD c w
 unfold mP
 cases ha:B.ay.any (bp B.ag)with
 | false=>
  rw[if_neg (by decide)]
  have r:=Wl (k:=k+2) (D:=R.map (C B L ln)) (f:=B.f) (g:=B.g) I.bd bi.ay ni ha
  have hx:ir R (.W j6 B.bH):=⟨dD ab,lk w.bZ⟩
  rw[x_ bi,uE,r_]at r
  exact⟨_,_,r,rN c hx,bh.app⟩
 | true=>
  rw[if_pos rfl]
  obtain⟨r1,r2,t,gs,g,ms,x,ct⟩:=uz w (nR.mp ha)
  obtain⟨gb,n2⟩:=E2 w ct
  obtain⟨l0,l1,l2,l3⟩:=LS w ct
  obtain⟨elv,epost⟩:=mc ct
  rw[epost]
  have c0:B.ay.countP (bp B.ag)=r1.countP (bp B.ag)+1:=by
   have bf:r2.countP (bp B.ag)=0:=pZ.mpr λi hi=>by rw[ct.aD i hi];decide
   rw[ct.st,kR,kR,p4,xP w,bf,ct.aC];simp
  have et:fC B.f B.g t=aR:=by
   have h:=ct.aC;unfold bp at h;rw[kS,decide_eq_true_iff,decide_eq_true_iff]at h;unfold fC;rw[if_pos (show B.f t=aJ from h.1)];exact h.2
  have gt:=pG bi (s:=[t]) (λi hi=>by rw[dx.mp hi];exact l2) t (o2 _)
  have tn:((nn B.ag t).sp=aJ\/(nn B.ag t).sp=cY)/\(nn B.ag t).nm∈fx:=by
   have h:=ct.aC;unfold bp at h;rw[kS,decide_eq_true_iff,decide_eq_true_iff]at h;exact⟨bB h.1,by rw[h.2];decide⟩
  have hlen:=I.b7.ay
  rw[ct.st,ba,ba,fH]at hlen
  have aU:=I.aU
  have cI:=oj c (X:=[kO,my,.T (g5.map .S++g6.map .S)])
  have eI:m_ (R.map (C B L ln))=(R++[kO,my,.T (g5.map .S++g6.map .S)].map aY.I).map (C B L ln):=by
   rw[<- oy];unfold m_;rw[cG,cG];rfl
  have mem:∀i,i∈cR sc++r1++t::r2->i∈B.ay:=λi hi=>ct.st▸hi
  by_cases c9:r2.any (h2 B.f B.g)=aB
  .rw[if_pos c9];obtain⟨ra,y,rb,e2,hy,hb⟩:=Fl (P:=h2 B.f B.g) r2 (nR.mp c9);have yr:y∈r2:=by rw[e2];exact gr _ (fa ..)
   have eqs:B.ay=(cR sc++r1++t::ra)++y::rb:=by rw[ct.st,e2,cG _ (t::ra)];rfl
   have qs:af.ay=(cR sc++r1++t::ra).map aV++aV y::(rb.reverse.reverse.map aV):=by
    rw[bi.ay,eqs,lL,cK,fI]
   have est:(cR sc++r1++t::ra).map aV++[aV y]=(cR sc++r1++t::(ra++[y])).map aV:=by
    simp only[cK,fI,D0,cG,xp,p6]
   have hra:∀i∈ra++[y],i∈r2:=by
    intro i hi;rw[e2];rcases gW.mp hi with hi | hi
    .exact iG _ hi
    .rw[dx.mp hi];exact gr _ (fa ..)
   have w1:bz sc p {B with ay:=cR sc++r1++t::(ra++[y])}:=by
    refine JR w hd (r':=r1++t::(ra++[y])) (cG ..) ?_ ?_
    .intro i hi;rcases gW.mp hi with hi | hi
     .exact⟨mem i (iG _ (gr _ hi)),gb i hi⟩
     .rcases d_.mp hi with rfl | hi
      .exact⟨mem i (gr _ (fa ..)),tn⟩
      .exact⟨mem i (gr _ (eV _ (hra i hi))),n2 i (hra i hi)⟩
    .have bf:(ra++[y]).countP (bp B.ag)=0:=pZ.mpr λi hi=>by rw[ct.aD i (hra i hi)];decide
     rw[c0,kR,p4,bf,ct.aC];simp
   have ct1:Cut sc (dX {B with ay:=cR sc++r1++t::(ra++[y])} iE) r1 (ra++[y]) t gs g ms x:=⟨rfl,ct.aC,λi hi=>ct.aD i (hra i hi),ct.dA,ct.bP,ct.bZ,ct.m0,ct.jC⟩
   have l1':cW n m {B with ay:=cR sc++r1++t::(ra++[y])}:=FR I.b7 (by
    rw[ct.st,e2];simp only[ba,fH,nT];lia)
   have c1:=A7 cI (st:=cR sc++r1++t::(ra++[y]));have hx:ir (R++[kO,my,.T (g5.map .S++g6.map .S)].map aY.I) (.W iE B.bH):=⟨dD rfl,lk w.bZ⟩;have bf:=rN (x:=.W iE B.bH) c1 hx;have l2':=k_ l1' (x:=.W iE B.bH);have bQ:=k7 bf l2' (I.dq.mono (cC _) (fA _)) (by lia) hm;obtain⟨aG,R',r,c',pf⟩:=EV (k:=k) bf (lI w1) l2' bQ (cC _) I.aU ct1
   have e3:hQ sc (dX B iE)=kX sc (dX {B with ay:=cR sc++r1++t::(ra++[y])} iE) r1 gs ms:=by
    have ct2:Cut sc (dX B iE) r1 r2 t gs g ms x:=⟨ct.st,ct.aC,ct.aD,ct.dA,ct.bP,ct.bZ,ct.m0,ct.jC⟩;rw[(mc ct2).1];rfl
   rw[e3];refine⟨aG,R',Wn (f:=B.f) (g:=B.g) (r:=.N) (m:=49999) I.bd bi.ay ni ha qs (pG bi (s:=[y]) (λi hi=>by rw[dx.mp hi];exact l3 y yr) y (o2 _)) ((Fy (n2 y yr).1 (n2 y yr).2).2 hy) ?_ (pG bi λi hi=>l3 i (by rw[e2];exact gr _ (eV _ (lM.mp hi)))) ?_ ?_ ?_,c',(bh.app.trans bh.app).trans pf⟩
   .intro q;have h1:=ct.aD y yr;unfold fC at q;split at q
    .next d4=>
     have:bp B.ag y=true:=by
      unfold bp;rw[kS,decide_eq_true_iff,decide_eq_true_iff];exact⟨d4,q⟩
     rw[h1]at this;cases this
    .cases q
   .intro i hi;have hi2:=lM.mp hi;have him:i∈r2:=by rw[e2];exact gr _ (eV _ hi2)
    exact(Fy (n2 i him).1 (n2 i him).2).1 (hb i hi2)
   .rw[mC];rw[e2,ba,fH]at hlen;lia
   .rw[est,eI]
    have e4:kK {af with ay:=(cR sc++r1++t::(ra++[y])).map aV} ((R++[kO,my,.T (g5.map .S++g6.map .S)].map aY.I).map (C B L ln))={({af with ay:=(cR sc++r1++t::(ra++[y])).map aV}:br)with d1:=af.d1++[.R ((R++[kO,my,.T (g5.map .S++g6.map .S)].map aY.I).length+33)]}:=by
     unfold kK;rw[cB]
    rw[e4,x_ bi];have e5:(R++[kO,my,.T (g5.map .S++g6.map .S)].map aY.I).map (C B L ln)++[gU (.W iE B.bH)]=_:=r_ (B:={B with ay:=cR sc++r1++t::(ra++[y])}) (L:=L) (ln:=ln);rw[e5];exact r
  .rw[if_neg c9,elv];have ho2:∀i∈r2,h2 B.f B.g i=false:=λi hi=>o4.mpr λq=>c9 (nR.mpr ⟨i,hi,q⟩)
   have qs:af.ay=(cR sc++r1).map aV++aV t::(r2.reverse.reverse.map aV):=by
    rw[bi.ay,ct.st,lL,cK,fI]
   have est:(cR sc++r1).map aV++[aV t]=(cR sc++r1++t::[]).map aV:=by rw[cK (l₁:=cR sc++r1)];rfl
   have w1:bz sc p {B with ay:=cR sc++r1++t::[]}:=by
    refine JR w hd (r':=r1++[t]) (cG ..) ?_ ?_
    .intro i hi;rcases gW.mp hi with hi | hi
     .exact⟨mem i (iG _ (gr _ hi)),gb i hi⟩
     .rw[dx.mp hi];exact⟨mem t (gr _ (fa ..)),tn⟩
    .rw[c0,kR,p4,ct.aC];rfl
   have ct1:Cut sc {B with ay:=cR sc++r1++t::[]} r1 [] t gs g ms x:=⟨rfl,ct.aC,nofun,ct.dA,ct.bP,ct.bZ,ct.m0,ct.jC⟩
   have l1':cW n m {B with ay:=cR sc++r1++t::[]}:=FR I.b7 (by
    rw[ct.st];simp only[ba,fH,nT];lia)
   have c1:=A7 cI (st:=cR sc++r1++t::[]);have ey:=k7 c1 l1' I.dq (by lia) I.hm;obtain⟨aG,R',r,c',pf⟩:=EV (k:=k) c1 w1 l1' ey (cC _) I.aU ct1;refine⟨aG,R',Wm (f:=B.f) (g:=B.g) (r:=.N) (m:=50000) I.bd bi.ay ni ha qs gt et (pG bi λi hi=>l3 i (lM.mp hi)) (λi hi=>?_) ?_ ?_,c',bh.app.trans pf⟩
   .have hi2:=lM.mp hi;exact(Fy (n2 i hi2).1 (n2 i hi2).2).1 (ho2 i hi2)
   .rw[mC];lia
   .rw[est,eI];exact r
end
end
section
section
variable{sc p k n m t:Nat}{af:br}{R:List aY}{B L:bw}{ln:Nat->Nat}{nm:aw}{s:Bool}
theorem Af(w:bz sc p B)(hd:B.done=aP):(nn B.ag (top B)).sp=aJ\/((nn B.ag (top B)).sp=cY/\(nn B.ag (top B)).nm∈fx/\B.ay.length≠1):=by
 obtain⟨r,er,aZ,_⟩:=ub w hd;by_cases e:r=[]
 .left;rw[e,iJ]at er;have h1:=w.ey;unfold top;rw[er];unfold cR;by_cases s0:sc=0
  .rw[if_pos s0];exact(w.bQ s0).1
  .rw[if_neg s0];exact h1.1
 .have hl:r.getLast?=ae (r.getLast e):=D6 e;have aC:top B=r.getLast e:=Sb (by rw[er,S2,hl];rfl);obtain⟨_,h1,aD⟩:=aZ _ (List.getLast_mem e);rw[aC];rcases h1 with h1 | h1
  .exact bB h1
  .refine bE ⟨h1,aD,?_⟩;rw[er,ba];have:=ui.mpr e;have:=Lp (sc:=sc);lia
theorem top_lt(w:bz sc p B)(hd:B.done=aP):top B<B.ag.length:=(w.mem _ (Ag (jj w hd))).2.1
theorem VG(I:dB sc n m af R B L ln)(w:bz sc p B)(hd:B.done=aP):aA ao (k+3) 500 [.R 7] (ai af (R.map (C B L ln)))=ae (.B (hk B),ai af (R.map (C B L ln))):=by
 have bi:=I.c.bi;obtain⟨l1,l2⟩:=Aa bi (jj w hd);have tl:=top_lt w hd;have sp1:af.bY[top B]?=ae (.S (nn B.ag (top B)).sp):=by rw[bi.bY];exact gT tl
 unfold hk;by_cases e1:B.ay.length=1
 .have e2:(af.ay.length:Int)=1:=by rw[bi.ay,cB];lia
  have hh:(nn B.ag (top B)).sp=aJ:=by
   rcases Af w hd with h | ⟨_,_,h⟩
   .exact h
   .exact absurd e1 h
  rw[hh]
  have s0:sc≠0:=by
   rintro rfl;obtain⟨r,er,_⟩:=ub w hd;rw[er,ba]at e1;have:(cR 0).length=2:=rfl;lia
  exact Zp (i:=2) I.bd e2 (by rw[I.c.bR.ctx,if_neg s0];rfl) (by rw[bi.bY,gT w.nl,(w.bf s0).1])
 .have e2:(af.ay.length:Int)≠1:=by rw[bi.ay,cB];lia
  rcases Af w hd with h | ⟨h,_,_⟩
  .rw[h]at sp1⊢;exact Zq I.bd l1 l2 e2 sp1
  .rw[h]at sp1⊢;exact Zr I.bd l1 l2 e2 sp1 (by decide)
theorem VB(I:dB sc n m af R B L ln)(w:bz sc p B)(hd:B.done=aP)(hf:hk B=aB):aA ao (k+2) 493 [.R 7] (ai af (R.map (C B L ln)))=ae (.I (top B),ai af (R.map (C B L ln))):=by
 have bi:=I.c.bi;obtain⟨l1,l2⟩:=Aa bi (jj w hd)
 have e1:B.ay.length≠1:=by
  rcases Af w hd with h | ⟨_,_,h⟩
  .unfold hk at hf;rw[h]at hf;exact absurd hf (by decide)
  .exact h
 exact Et I.bd l1 l2 (by rw[bi.ay,cB];lia)
noncomputable def lH(B:bw)(aT:aw):Bool:=!hk B||(decide (aT=dY)||((decide (aT=d6)||decide (aT=bO))&&ku B))
theorem EB(I:dB sc n m af R B L ln)(w:bz sc p B)(hd:B.done=aP){aT:aw}{l:List V}(aC:R[t]?=ae (.I (.T (.S aT::l))))(tw:(V.S aT::l).length<aK):
 aA ao (k+5) 514 [.R 7,.R (t+33)] (ai af (R.map (C B L ln)))=ae (.B (lH B aT),ai af (R.map (C B L ln))):=by
 have bi:=I.c.bi
 have ht2:=c2 (c:=C B L ln) aC
 have bV:=VG (k:=k+1) I w hd
 unfold lH
 cases hf:hk B with
 | false=>
  rw[hf]at bV
  exact afT (k:=k+1) bV
 | true=>
  rw[hf]at bV
  have ad:=VB (k:=k+2) I w hd hf
  obtain⟨hs,aU,_⟩:(nn B.ag (top B)).sp=cY/\(nn B.ag (top B)).nm∈fx/\B.ay.length≠1:=by
   rcases Af w hd with h | h
   .unfold hk at hf;rw[h]at hf;exact absurd hf (by decide)
   .exact h
  have tl:=top_lt w hd
  have sp1:af.bY[top B]?=ae (.S cY):=by rw[bi.bY,gT tl,hs]
  have nm1:af.names[top B]?=ae (.S (nn B.ag (top B)).nm):=by rw[bi.names];exact gT tl
  have pt:decide ((nn B.ag (top B)).nm∈tj)=ku B:=by
   have:∀x∈fx,decide (x∈tj)=decide (x=iN):=by decide +kernel
   exact this _ aU
  by_cases e1:aT=dY
  .subst e1;exact afU (k:=k+1) ht2 tw bV
  .by_cases e2:aT=d6
   .subst e2;have:=afV (k:=k+1) I.bd ht2 tw bV ad sp1 nm1;rw[pt]at this;exact this
   .by_cases e3:aT=bO
    .subst e3;have:=afX (k:=k+1) I.bd ht2 tw bV ad sp1 nm1;rw[pt]at this;exact this
    .have:=afW (k:=k+1) I.bd ht2 tw e1 e2 e3 bV ad;rw[decide_eq_false e1,decide_eq_false e2,decide_eq_false e3];exact this
theorem nh(I:dB sc n m af R B L ln)(w:bz sc p B)(hd:B.done=aP){aT:aw}{l:List V}{aD:H}(aC:R[t]?=ae (.I (.T (.S aT::l))))(tw:(V.S aT::l).length<aK)(e:lH B aT=aB)(hm:B.bH≠cX)(q:aA ao (k+4) 686 [.R 7,.R (t+33)] (ai af (R.map (C B L ln)))=ae (.N,aD)):
 aA ao (k+6) 479 [.R 7,.R (t+33)] (ai af (R.map (C B L ln)))=ae (.N,aD):=by
 have r:=EB (k:=k) I w hd aC tw
 rw[e]at r
 have rule:=(Pn w.bZ).2.resolve_left hm
 exact Rf (k:=k+4) r (by rw[I.c.bi.bH];exact mz rule q)
theorem qR(I:dB sc n m af R B L ln)(w:bz sc p B)(hd:B.done=aP){aT:aw}{l:List V}{aD:H}(aC:R[t]?=ae (.I (.T (.S aT::l))))(tw:(V.S aT::l).length<aK)(e:lH B aT=aB)(hm:B.bH=cX)(q:aA ao (k+4) 658 [.R 7,.R (t+33)] (ai af (R.map (C B L ln)))=ae (.N,aD)):
 aA ao (k+6) 479 [.R 7,.R (t+33)] (ai af (R.map (C B L ln)))=ae (.N,aD):=by
 have r:=EB (k:=k) I w hd aC tw
 rw[e]at r
 exact Rf (k:=k+4) r (by rw[I.c.bi.bH,hm];exact mz rfl q)
theorem zX(I:dB sc n m af R B L ln)(w:bz sc p B)(hd:B.done=aP){aT:aw}{l:List V}{aD:H}(aC:R[t]?=ae (.I (.T (.S aT::l))))(tw:(V.S aT::l).length<aK)(e:lH B aT=aP)(q:aA ao (k+4) 700 [.R 7,.R (t+33)] (ai af (R.map (C B L ln)))=ae (.N,aD)):
 aA ao (k+6) 479 [.R 7,.R (t+33)] (ai af (R.map (C B L ln)))=ae (.N,aD):=by
 have r:=EB (k:=k) I w hd aC tw
 rw[e]at r
 exact acK (k:=k+4) r (mz ab q)
theorem aco(I:dB sc n m af R B L ln)(w:bz sc p B)(hd:B.done=aP){aX:aw}(tk:fK R t (.C aX)):
 ∃aG R',aA ao (k+20) 479 [.R 7,.R (t+33)] (ai af (R.map (C B L ln)))=ae (.N,ai aG (R'.map (C (ju B aX) L ln)))/\cj sc aG R' (ju B aX) L ln/\bh R R':=by
 obtain⟨_,hl,aC⟩:=tk
 have ht2:=c2 (c:=C B L ln) aC
 have tw:[V.S d6,.S aX].length<aK:=aN (n:=2) (m:=aK) ab
 cases e:lH B d6 with
 | false=>
  obtain⟨aG,R',r,c',pf⟩:=EZ (k:=k+13) (mb:=49999) I.c w I.b7 I.bd hd I.aU hl
  exact⟨aG,R',zX (k:=k+14) I w hd aC tw e (aaq (k:=k+17) ht2 r),c',pf⟩
 | true=>
  by_cases hm:B.bH=cX
  .obtain⟨aG,R',r,c',pf⟩:=EZ (k:=k+11) (mb:=49999) I.c w I.b7 I.bd hd I.aU hl;exact⟨aG,R',qR (k:=k+14) I w hd aC tw e hm (OA (k:=k+16) ht2 tw (by decide) (mz (fn:=686) rfl (ON (k:=k+15) ht2 r))),c',pf⟩
  .obtain⟨aG,R',r,c',pf⟩:=EZ (k:=k+13) (mb:=49999) I.c w I.b7 I.bd hd I.aU hl;exact⟨aG,R',nh (k:=k+14) I w hd aC tw e hm (ON (k:=k+17) ht2 r),c',pf⟩
end
end
section
section
variable{sc p k n m t:Nat}{af:br}{R:List aY}{B L:bw}{ln:Nat->Nat}{nm:aw}{s:Bool}
theorem acr(I:dB sc n m af R B L ln)(w:bz sc p B)(hd:B.done=aP){aT x:aw}{l:List V}(tk:fK R t (.N aT x l)):
 ∃aG R',aA ao (k+20) 479 [.R 7,.R (t+33)] (ai af (R.map (C B L ln)))=ae (.N,ai aG (R'.map (C (iK B t) L ln)))/\cj sc aG R' (iK B t) L ln/\bh R R':=by
 have hx:ir R (.T B.bH t):=⟨lk w.bZ,_,tk,nofun⟩
 obtain⟨a7,_,aC⟩:=tk
 have ht2:=c2 (c:=C B L ln) aC
 have tw:(V.S aT::.S x::l).length<aK:=by
  rcases a7 with⟨_,rfl⟩ | ⟨_,rfl⟩
  .exact aN (n:=2) (m:=aK) ab
  .exact aN (n:=5) (m:=aK) ab
 obtain⟨k1,k2,k3,k4,k5,k6⟩:aT≠d6/\aT≠dY/\aT≠bO/\aT≠dc/\aT∈jf/\aT∈q7:=by
  rcases a7 with⟨rfl,_⟩ | ⟨rfl,_⟩<;>decide
 have eh:ai (kK af (R.map (C B L ln))) (R.map (C B L ln)++[r9 af t])=ai {af with d1:=af.d1++[.R (R.length+33)]} ((R++[aY.I (gU (.T B.bH t))]).map (C (iK B t) L ln)):=by
  rw[uE,PK I.c.bi,r_];rfl
 refine⟨_,_,?_,rN I.c hx,bh.app⟩
 rw[show ai _ _=ai (kK af (R.map (C B L ln))) (R.map (C B L ln)++[r9 af t])from eh.symm]
 cases e:lH B aT with
 | false=>exact zX (k:=k+14) I w hd aC tw e (aas (k:=k+17) I.bd ht2 tw k1 k3 k4)
 | true=>
  by_cases hm:B.bH=cX
  .exact qR (k:=k+14) I w hd aC tw e hm (OA (k:=k+16) ht2 tw k6 (mz (fn:=686) ab (OQ (k:=k+15) I.bd ht2 tw k1 k2 k5)))
  .exact nh (k:=k+14) I w hd aC tw e hm (OQ (k:=k+17) I.bd ht2 tw k1 k2 k5)
theorem VX(I:dB sc n m af R B L ln)(w:bz sc p B)(hd:B.done=aP):∃aG,(∀k,aA ao (k+1) 228 [.R 19] (ai af (R.map (C B L ln)))=ae (.I (top B),ai aG (R.map (C (rF B) L ln))))/\cj sc aG R (rF B) L ln:=by
 obtain⟨l1,l2⟩:=Aa I.c.bi (jj w hd);refine⟨{af with ay:=B.ay.dropLast.map aV},λk=>?_,A7 I.c⟩;have r:=DA (k:=k) (D:=R.map (C B L ln)) I.bd l1 l2;rw[I.c.bi.ay,<-Ki]at r;exact r
theorem acp(I:dB sc n m af R B L ln)(w:bz sc p B)(hd:B.done=aP)(hm:m+1<40000)(tk:fK R t (.E nm)):
 ∃aG R',aA ao (k+20) 479 [.R 7,.R (t+33)] (ai af (R.map (C B L ln)))=ae (.N,ai aG (R'.map (C (lT sc B nm) L ln)))/\cj sc aG R' (lT sc B nm) L ln/\bh R R':=by
 obtain⟨aU,v,aC⟩:=tk
 have ht2:=c2 (c:=C B L ln) aC
 have tw:∀nm:aw,[V.S dc,.S nm,v,.B aP].length<aK:=λ_=>aN (n:=4) (m:=aK) ab
 have et:lH B dc=!hk B:=by
  unfold lH;have:(decide (dc=dY)||((decide (dc=d6)||decide (dc=bO))&&ku B))=false:=rfl;rw[this,Bool.or_false]
 unfold lT
 by_cases e1:nm=aR
 .subst e1;rw[if_pos rfl];cases hf:hk B with
  | true=>
   rw[hf]at et;obtain⟨aG,R',r,c',pf⟩:=Ey (k:=k+10) I w hd hm;exact⟨aG,R',zX (k:=k+14) I w hd aC (tw _) et (aau (k:=k+17) ht2 (tw _) (mz (k:=k+16) (fn:=693) rfl (FP ht2 (tw _) r))),c',pf⟩
  | false=>
   rw[hf]at et;by_cases hmd:B.bH=cX
   .obtain⟨aG,R',r,c',pf⟩:=Ey (k:=k+10) I w hd hm;exact⟨aG,R',qR (k:=k+14) I w hd aC (tw _) et hmd (OB (k:=k+16) ht2 (tw _) (by decide) (ZS ht2 (tw _)) (mz (k:=k+16) (fn:=693) rfl (FP (k:=k+15) ht2 (tw _) r))),c',pf⟩
   .obtain⟨aG,R',r,c',pf⟩:=Ey (k:=k+10) I w hd hm;exact⟨aG,R',nh (k:=k+14) I w hd aC (tw _) et hmd (OR (k:=k+17) ht2 (tw _) (by decide) (by decide) (by decide) (mz (k:=k+16) (fn:=693) rfl (FP (k:=k+15) ht2 (tw _) r))),c',pf⟩
 .rw[if_neg e1];obtain⟨Sv,rp,cp⟩:=VX I w hd;cases hf:hk B with
  | true=>
   rw[hf]at et;rw[if_pos rfl];exact⟨Sv,R,zX (k:=k+14) I w hd aC (tw _) et (aar (k:=k+17) ht2 (tw _) e1 (rp (k+16))),cp,bh.iX⟩
  | false=>
   rw[hf]at et;rw[if_neg (by decide)];by_cases hmd:B.bH=cX
   .rw[if_pos hmd];have hx:ir R (.W j6 B.bH):=⟨dD rfl,lk w.bZ⟩;have r:=Z6 (k:=k+16) (D:=R.map (C B L ln)) I.bd ht2 (tw _) (ZQ (k:=k+16) e1 ht2 (tw _));rw[uE,x_ I.c.bi,r_]at r;exact⟨_,_,qR (k:=k+14) I w hd aC (tw _) et hmd r,rN I.c hx,bh.app⟩
   .rw[if_neg hmd]
    have hh:(nn B.ag (top B)).sp=aJ:=by
     rcases Af w hd with h | ⟨h,_,_⟩
     .exact h
     .unfold hk at hf;rw[h]at hf;exact absurd hf (by decide)
    obtain⟨l1,l2⟩:=Aa I.c.bi (jj w hd);have nmq:=r7 (k:=k+15) (D:=R.map (C B L ln)) (f:=B.f) (g:=B.g) I.bd l1 l2 (pG I.c.bi (s:=[top B]) (λi hi=>by rw[dx.mp hi];exact top_lt w hd) _ (o2 _));have r:=aak (k:=k+17) (D:=R.map (C B L ln)) ht2 (tw _) e1 nmq (rp (k+16));have ee:fC B.f B.g (top B)=B.g (top B):=by unfold fC;rw[if_pos (show B.f (top B)=aJ from hh)]
    rw[ee]at r;by_cases e2:B.g (top B)=nm
    .rw[if_pos e2]at r
     have:du B.f B.g nm (top B)=true:=by
      unfold du;rw[show B.f (top B)=aJ from hh,e2,decide_eq_true rfl,decide_eq_true rfl];rfl
     rw[if_pos this];exact⟨Sv,R,nh (k:=k+14) I w hd aC (tw _) et hmd r,cp,bh.iX⟩
    .rw[if_neg e2]at r
     have:du B.f B.g nm (top B)≠true:=by
      unfold du;rw[decide_eq_false e2,rt];decide
     rw[if_neg this];exact⟨af,R,nh (k:=k+14) I w hd aC (tw _) et hmd r,I.c,bh.iX⟩
theorem DD(nm:aw):dw nm∈ho/\dw nm≠cX:=by
 unfold dw;repeat (first | (split) | decide)
theorem JS(w:bz sc p B)(hd:B.done=aP)(hm:B.cf≠[]){bZ:aw}(h:bZ∈ho):bz sc p (qu B bZ):=by
 obtain⟨r,er,aZ,hc⟩:=ub w hd;obtain⟨ms,x,em⟩:=oS hm;have fM:=w.fM;have fL:=w.fL;rw[hc]at fM fL;refine Ai w (cC _) rfl hd hd er aZ w.dA w.jY fL ?_ h ?_ (λ_=>by show B.cf.dropLast++[bZ]≠[];simp)
 .show(B.cf.dropLast++[bZ]).length=_;rw[em]at fM⊢;rw[iH,ba];rw[ba]at fM;exact fM
 .intro y hy;rcases gW.mp hy with hy | hy
  .exact w.ms y (by rw[em]at hy⊢;rw[iH]at hy;exact iG _ hy)
  .rw[dx.mp hy];exact h
theorem FT(h:cW n m B)(hm:B.cf≠[]){bZ:aw}:cW n m (qu B bZ):=by
 obtain⟨ms,x,em⟩:=oS hm;refine h.to rfl h.ay h.bW ?_ h.bq (cC _) h.cO;have:=h.cf;show(B.cf.dropLast++[bZ]).length<=n;rw[em]at this⊢;rw[iH,ba];rw[ba]at this;exact this
theorem acs(I:dB sc n m af R B L ln)(w:bz sc p B)(hd:B.done=aP)(hm:m+1<40000)(hp:p<14)(tk:fK R t (.S nm (cg p) s)):
 ∃aG R',aA ao (k+30) 479 [.R 7,.R (t+33)] (ai af (R.map (C B L ln)))=ae (.N,ai aG (R'.map (C (hM B nm (cg p) t) L ln)))/\cj sc aG R' (hM B nm (cg p) t) L ln/\bh R R':=by
 obtain⟨a,aC,ta⟩:=q6 tk
 have ht2:=c2 (c:=C B L ln) aC
 have tw:∀nm:aw,[V.S bO,.S nm,.R (a+33),.B s].length<aK:=λ_=>aN (n:=4) (m:=aK) ab
 have et:∀B:bw,lH B bO=!(hk B&&!ku B):=by
  intro B;unfold lH
  have:(decide (bO=dY)||((decide (bO=d6)||decide (bO=bO))&&ku B))=ku B:=by
   show(aP||((aP||true)&&ku B))=ku B;cases ku B<;>rfl
  rw[this];cases hk B<;>cases ku B<;>rfl
 unfold hM
 cases hf:hk B&&!ku B with
 | true=>
  have e:=et B
  rw[hf]at e
  rw[if_pos rfl]
  obtain⟨aG,R',r,c',pf⟩:=xX (k:=k+23) (mb:=49999) (sp:=cY) (nm:=nm) I.c w I.b7 I.bd hd I.aU ta (bB (by decide))
  exact⟨aG,R',zX (k:=k+24) I w hd aC (tw _) e (aat (k:=k+27) ht2 r),c',pf⟩
 | false=>
  have e:=et B
  rw[hf]at e
  rw[if_neg (by decide)]
  by_cases hmd:B.bH=cX
  .rw[if_pos hmd];have hh:=ZR (k:=k+26) (af:=af) ht2 (tw nm);by_cases hl:nm∈pC
   .rw[decide_eq_true hl]at hh;rw[if_pos hl];obtain⟨aG,R',r,c',pf⟩:=VH (k:=k+16) I w hd tk hm;exact⟨aG,R',qR (k:=k+24) I w hd aC (tw _) e hmd (OB (k:=k+26) ht2 (tw _) (by decide) hh (mz (k:=k+26) (fn:=693) rfl r)),c',pf⟩
   .rw[decide_eq_false hl]at hh;rw[if_neg hl];have bi:=I.c.bi;have mne:=w.mt hmd;obtain⟨ms,x,em⟩:=oS mne;have ct:=LO I.c (st:=B.ay) (gs:=B.bq) (ms:=B.cf.dropLast++[dw nm]) (bZ:=dw nm);have cr:=RK I.c (st:=B.ay) (gs:=B.bq) (ms:=B.cf.dropLast++[dw nm]) (bZ:=dw nm);have fk:({af with ay:=B.ay.map aV,bW:=dM B.bq}:br)=af:=by rw[<- bi.ay,<-bi.bW]
    rw[fk]at ct;have w1:=JS w hd mne (DD nm).1;have I1:dB sc n m {iT af ((B.cf.dropLast++[dw nm]).map .S)with bH:=dw nm} R (qu B (dw nm)) L ln:=⟨ct,FT I.b7 mne,I.dq,I.aU,I.hm⟩;obtain⟨aG,R',r,c',pf⟩:=Lo (k:=k+14) I1 w1 hd hp tk;have r2:=nh (k:=k+20) I1 w1 hd aC (tw _) e (DD nm).2 r
    have hmod:fQ af (R.map (C B L ln)) (ms.map V.S++[.S x]):=by
     have:=pF (L:=L) (ln:=ln) bi;rw[em,cK]at this;exact this
    have wm:bb 1 (ms.map V.S++[V.S x]):=by
     have h1:=I.b7.cf;have aD:=I.aU;have e:(ms.map V.S++[V.S x]).length=B.cf.length:=by rw[em,ba,ba,cB];rfl
     unfold bb;rw[e];lia
    have em2:(B.cf.dropLast++[dw nm]).map V.S=ms.map V.S++[.S (dw nm)]:=by rw[em,iH,cK];rfl
    rw[show R.map (C (qu B (dw nm)) L ln)=_ from cr.symm,em2]at r2;have r3:=afZ (k:=k+25) (af:=af) ht2 (tw nm) hmod wm r2;exact⟨aG,R',qR (k:=k+24) I w hd aC (tw _) e hmd (Z7 (k:=k+26) ht2 (tw _) hh r3),c',pf⟩
  .rw[if_neg hmd];obtain⟨aG,R',r,c',pf⟩:=Lo (k:=k+18) I w hd hp tk;exact⟨aG,R',nh (k:=k+24) I w hd aC (tw _) e hmd r,c',pf⟩
end
end
section
section
variable{sc p k n m t:Nat}{af:br}{R:List aY}{B L:bw}{ln:Nat->Nat}{nm:aw}{s:Bool}
noncomputable def pa(B:bw):bw:={B with ay:=[],done:=aB}
theorem EU(c:cj sc af R B L ln):cj sc {af with ay:=[],done:=aB} R (pa B) L ln:=by
 have b:=c.bi;exact⟨⟨b.bo,b.bY,b.names,b.dH,b.jE,b.lu,b.kb,b.dI,b.kc,b.child,b.dU,b.cl,ab,b.bW,b.bH,b.cy,ab,b.am,b.d1⟩,c.li.mono ⟨ab,ab,ab,ab,ab,ab,ab,ab,ab,ab,ab⟩ bh.iX,c.fr,⟨c.bR.ctx,c.bR.f9,c.bR.d5,c.bR.gq,c.bR.eH,c.bR.ed,c.bR.mY,c.bR.fc⟩,c.nb,c.nl⟩
theorem agd(w:bz sc p B)(h:B.ay.countP (bp B.ag)=0):bz sc p (pa B):=⟨bB ⟨rfl,rfl⟩,w.ey,w.bQ,w.bf,w.nl,nofun,w.gz,w.oW,w.ch,w.gd,w.nG,w.ok,w.dA,w.jY,(by have:=w.fL;rw[h]at this;exact this),(by have:=w.fM;rw[h]at this;exact this),w.bZ,w.ms,w.mt,w.lw,w.gb⟩
theorem aaB(h:cW n m B):cW n m (pa B):=h.to ab (gJ _) h.bW h.cf h.bq (cC _) h.cO
theorem Li(h:B.ay.countP (bp B.ag)=0):B.ay.any (bp B.ag)=false:=by
 rw[pZ]at h;rw[o4];intro q;obtain⟨i,hi,ti⟩:=nR.mp q;exact h i hi ti
theorem AZ(I:dB sc n m af R B L ln)(w:bz sc p B):aA ao (k+2) 284 [.R 19,.S aR] (ai af (R.map (C B L ln)))=ae (.B (B.ay.any (bp B.ag)),ai af (R.map (C B L ln))):=
 Bq (f:=B.f) (g:=B.g) I.bd I.c.bi.ay (PD I.c w)
theorem FX{r1 r2:List Nat}{t:Nat}{gs:List (List Nat)}{g:List Nat}{ms:List aw}{x:aw}(w:bz sc p B)(hd:B.done=aP)(ct:Cut sc B r1 r2 t gs g ms x):(kX sc B r1 gs ms).ay.countP (bp (kX sc B r1 gs ms).ag)+1=B.ay.countP (bp B.ag):=by
 have h1:=w.fL;have aD:=(xl w hd ct).fL
 have h3:(kX sc B r1 gs ms).bq.length+1=B.bq.length:=by
  show gs.length+1=_;rw[ct.dA,ba];rfl
 lia
theorem N6{x:Option V}:(c:Nat)->(af:br)->(R:List aY)->(B:bw)->(m d:Nat)->dB sc n m af R B L ln->bz sc p B->B.done=aP->B.ay.countP (bp B.ag)=c->m+c<40000->
 ∃aG R',fB ao (aA ao (k+4)) (g9 (bj mS 1)) (dr (bj mS 1)) (d+c+1) [ae (.R 7),x] (ai af (R.map (C B L ln)))=ae (.N,[ae (.R 7),x],ai aG (R'.map (C (jX sc c B) L ln)))/\dB sc n (m+c) aG R' (jX sc c B) L ln/\bz sc p (jX sc c B)/\(jX sc c B).done=aP/\(jX sc c B).ay.countP (bp (jX sc c B).ag)=0/\bh R R'
 | 0,af,R,B,m,d,I,w,hd,hc,_=>by
  have h:=AZ (k:=k+2) I w;rw[Li hc]at h;exact⟨af,R,XD (k:=k+3) h,I,w,hd,hc,bh.iX⟩
 | c+1,af,R,B,m,d,I,w,hd,hc,hm=>by
  have hex:∃i∈B.ay,bp B.ag i=true:=Ao.mp (by lia);obtain⟨r1,r2,t,gs,g,ms,y,ct⟩:=uz w hex;have h:=AZ (k:=k+2) I w;rw[WJ ct]at h;have hx:ir R (.W eK B.bH):=⟨dD rfl,lk w.bZ⟩;have c1:cj sc _ _ (dX B eK) L ln:=rN I.c hx;have l1:cW n (m+1) (dX B eK):=k_ I.b7;have ey:=k7 c1 l1 (I.dq.mono (cC _) (fA _)) (by have:=I.aU;lia) (by lia);have ct1:Cut sc (dX B eK) r1 r2 t gs g ms y:=⟨ct.st,ct.aC,ct.aD,ct.dA,ct.bP,ct.bZ,ct.m0,ct.jC⟩;have w1:bz sc p (dX B eK):=lI w;obtain⟨jK,g4,r,bf,pf⟩:=EV (k:=k) c1 w1 l1 ey (cC _) I.aU ct1;have w2:=xl w1 hd ct1;have cn:=FX w1 hd ct1;rw[<- (mc ct1).1]at r bf w2 cn;have l2:cW n (m+1) (hQ sc (dX B eK)):=by rw[(mc ct1).1];exact ym l1 ct1
  have hd2:(hQ sc (dX B eK)).done=false:=hd
  have cc:(hQ sc (dX B eK)).ay.countP (bp (hQ sc (dX B eK)).ag)=c:=by
   have:(dX B eK).ay.countP (bp (dX B eK).ag)=c+1:=hc;lia
  obtain⟨aG,R',r3,I3,w3,d3,z3,pf3⟩:=N6 c jK g4 (hQ sc (dX B eK)) (m+1) d ⟨bf,l2,I.dq.mono (cC _) (fA _),I.aU,by lia⟩ w2 hd2 cc (by lia);refine⟨aG,R',?_,by rw[show m+(c+1)=m+1+c by lia];exact I3,w3,d3,z3,(bh.app.trans pf).trans pf3⟩;have:=XC (k:=k+3) (n:=d+c+1) (x:=x) I.bd h (r:=.N) (aG:=jK) (D':=g4.map (C (hQ sc (dX B eK)) L ln)) (by rw[uE,x_ I.c.bi,r_];exact r) r3;exact this
theorem EK(I:dB sc n m af R B L ln)(w:bz sc p B):aA ao (k+2) 521 [.R 7] (ai af (R.map (C B L ln)))=ae (.N,ai {af with ay:=[],done:=aB} (R.map (C (pa B) L ln))):=
 finish_ok I.bd (by rw[I.c.bi.ay,cB];have:=I.b7.ay;have:=I.aU;lia)
theorem JX{v:V}(I:dB sc n m af R B L ln)(w:bz sc p B)(hc:B.ay.countP (bp B.ag)=0):aA ao (k+4) 651 [.R 7,v] (ai af (R.map (C B L ln)))=ae (.N,ai {af with ay:=[],done:=aB} (R.map (C (pa B) L ln))):=by
 have h:=AZ (k:=k+1) I w;rw[Li hc]at h;exact Xz (k:=k+2) h (EK (k:=k+1) I w)
theorem xh:lH B dY=true:=by
 unfold lH;rw[decide_eq_true rfl,Kq,T1]
theorem abb(w:bz sc p B)(h:B.cf=[]):B.ay.countP (bp B.ag)=0:=by
 have:=w.fM;rw[h,nT]at this;lia
theorem Pt(I:dB sc n m af R B L ln):(B.cf.map V.S).length<aK:=by
 rw[cB];exact fO I.b7.cf (fg I.aU (aN rfl))
theorem agt(I:dB sc n m af R B L ln)(w:bz sc p B)(hd:B.done=aP)(aC:R[t]?=ae (.I (.T [.S dY])))(hc:B.ay.countP (bp B.ag)=0):aA ao (k+12) 479 [.R 7,.R (t+33)] (ai af (R.map (C B L ln)))=ae (.N,ai {af with ay:=[],done:=aB} (R.map (C (pa B) L ln))):=by
 have ht2:=c2 (c:=C B L ln) aC;have tw:[V.S dY].length<aK:=aN (n:=1) (m:=aK) ab;have hp:∀k,aA ao (k+1) 630 [.R (t+33)] (ai af (R.map (C B L ln)))=ae (.B aP,ai af (R.map (C B L ln))):=λk=>Ot (by decide) (by decide) ht2 tw;by_cases hmd:B.bH=cX
 .exact qR (k:=k+6) I w hd aC tw xh hmd (Bw (k:=k+8) ht2 tw (hp _) (JX (k:=k+5) I w hc))
 .by_cases hm:B.cf=[]
  .have ms:=pF (L:=L) (ln:=ln) I.c.bi;rw[hm]at ms;exact nh (k:=k+6) I w hd aC tw xh hmd (OO (k:=k+9) ht2 ms (EK (k:=k+7) I w))
  .refine nh (k:=k+6) I w hd aC tw xh hmd (OP (k:=k+9) ht2 (pF I.c.bi) (Pt I) ?_ (mz (k:=k+8) (fn:=658) rfl (Bw (k:=k+6) ht2 tw (hp _) (JX (k:=k+3) I w hc))));rw[cB];have:=ui.mpr hm;lia
theorem NU(I:dB sc n m af R B L ln)(w:bz sc p B)(hd:B.done=aP)(aC:R[t]?=ae (.I (.T [.S dY])))(hm:m+n<40000):
 ∃aG R',aA ao (k+14) 651 [.R 7,.R (t+33)] (ai af (R.map (C B L ln)))=ae (.N,ai aG (R'.map (C (mQ sc B) L ln)))/\cj sc aG R' (mQ sc B) L ln/\bh R R':=by
 by_cases hc:B.ay.countP (bp B.ag)=0
 .have e:mQ sc B=pa B:=by unfold mQ;rw[hc];rfl
  rw[e];exact⟨_,R,JX (k:=k+10) I w hc,EU I.c,bh.iX⟩
 .have hl:B.ay.countP (bp B.ag)<=n:=d8 J9 I.b7.ay;have aU:=I.aU;obtain⟨jK,g4,r,I1,w1,uA,z1,pf⟩:=N6 (k:=k+9) (x:=ae (.R (t+33))) (B.ay.countP (bp B.ag)) af R B m (499-B.ay.countP (bp B.ag)) I w hd rfl (by lia);rw[show 499-B.ay.countP (bp B.ag)+B.ay.countP (bp B.ag)+1=500 by lia]at r;have h:=AZ (k:=k+11) I w;have ha:B.ay.any (bp B.ag)=true:=nR.mpr (Ao.mp (by lia));rw[ha]at h;have r2:=agt (k:=k+1) I1 w1 uA (pf _ _ aC) z1;exact⟨_,g4,XB (k:=k+12) h r r2,EU I1.c,pf⟩
theorem acq(I:dB sc n m af R B L ln)(w:bz sc p B)(hd:B.done=aP)(aC:R[t]?=ae (.I (.T [.S dY])))(hmn:m+n<40000):
 ∃aG R',aA ao (k+30) 479 [.R 7,.R (t+33)] (ai af (R.map (C B L ln)))=ae (.N,ai aG (R'.map (C (mQ sc B) L ln)))/\cj sc aG R' (mQ sc B) L ln/\bh R R':=by
 have ht2:=c2 (c:=C B L ln) aC
 have tw:[V.S dY].length<aK:=aN (n:=1) (m:=aK) ab
 have hp:∀k,aA ao (k+1) 630 [.R (t+33)] (ai af (R.map (C B L ln)))=ae (.B aP,ai af (R.map (C B L ln))):=λk=>Ot (by decide) (by decide) ht2 tw
 by_cases hmd:B.bH=cX
 .obtain⟨aG,R',r,c',pf⟩:=NU (k:=k+13) I w hd aC hmn;exact⟨aG,R',qR (k:=k+24) I w hd aC tw xh hmd (Bw (k:=k+26) ht2 tw (hp _) r),c',pf⟩
 .by_cases hm:B.cf=[]
  .have ms:=pF (L:=L) (ln:=ln) I.c.bi;rw[hm]at ms;have e:mQ sc B=pa B:=by unfold mQ;rw[abb w hm];rfl
   rw[e];exact⟨_,R,nh (k:=k+24) I w hd aC tw xh hmd (OO (k:=k+27) ht2 ms (EK (k:=k+25) I w)),EU I.c,bh.iX⟩
  .obtain⟨aG,R',r,c',pf⟩:=NU (k:=k+11) I w hd aC hmn;refine⟨aG,R',nh (k:=k+24) I w hd aC tw xh hmd (OP (k:=k+27) ht2 (pF I.c.bi) (Pt I) ?_ (mz (k:=k+26) (fn:=658) rfl (Bw (k:=k+24) ht2 tw (hp _) r))),c',pf⟩;rw[cB];have:=ui.mpr hm;lia
theorem agf(w:bz sc p B)(hd:B.done=aP)(w1:bz sc (p+1) (eQ B aJ dK (cg p))):bz sc (p+1) (AR (eQ B aJ dK (cg p))):=by
 obtain⟨gs,g,eg⟩:=z_ w.dA;rw[Bp eg];have hd1:(eQ B aJ dK (cg p)).done=false:=hd;obtain⟨r,er,aZ,hc⟩:=ub w1 hd1;have fL:=w1.fL;have fM:=w1.fM;rw[hc]at fL fM;have lnew:(nn (bC B.ag B.hm B.ag.length++[dg aJ dK (cg p)]) B.ag.length)=dg aJ dK (cg p):=iA (r:=0);have e1:(eQ B aJ dK (cg p)).bq=gs++[g]:=eg;refine Ai w1 (cC _) rfl hd1 hd1 er aZ (by show gs++[g++[B.ag.length]]≠[];simp) ?_ ?_ fM w1.bZ w1.ms w1.mt
 .intro g' hg' i hi;rcases gW.mp hg' with hg' | hg'
  .exact w1.jY g' (by rw[e1];exact iG _ hg') i hi
  .rw[dx.mp hg']at hi;rcases gW.mp hi with hi | hi
   .exact w1.jY g (by rw[e1];exact gr _ (o2 _)) i hi
   .rw[dx.mp hi];show(nn (bC B.ag B.hm B.ag.length++[dg aJ dK (cg p)]) B.ag.length).lw=aB/\(nn (bC B.ag B.hm B.ag.length++[dg aJ dK (cg p)]) B.ag.length).sp=_/\(nn (bC B.ag B.hm B.ag.length++[dg aJ dK (cg p)]) B.ag.length).nm=_/\∃q,q<p+1/\(nn (bC B.ag B.hm B.ag.length++[dg aJ dK (cg p)]) B.ag.length).aL=_;rw[lnew];exact⟨rfl,rfl,rfl,p,Av _,rfl⟩
 .rw[e1,ba]at fL;show(gs++[g++[B.ag.length]]).length=_;rw[ba];exact fL
theorem R0(w:bz sc p B)(hd:B.done=aP)(b7:cW n m B)(hp:p<14)(aU:nm∈fx):bz sc (p+1) (kG B nm (cg p))/\cW (n+4) m (kG B nm (cg p))/\(kG B nm (cg p)).done=false:=by
 have op:=HK hp;unfold kG;by_cases e1:nm=aR
 .rw[if_pos e1];exact⟨Sn w hd op,(O1 b7 w.dA).mono (by lia) (cC _),hd⟩
 .rw[if_neg e1];by_cases e2:nm=cY
  .rw[if_pos e2];exact⟨DJ w hd (bB (by decide)) (bE rfl) (by decide) op,(qL b7).mono (by lia) (cC _),hd⟩
  .rw[if_neg e2];by_cases e3:nm=dK
   .rw[if_pos e3];have w1:bz sc (p+1) (eQ B aJ dK (cg p)):=DJ w hd (bE (by decide)) (bB rfl) (by decide) op;refine⟨agf w hd w1,?_,hd⟩;obtain⟨gs,g,eg⟩:=z_ w.dA;rw[Bp eg];have l1:=qL b7 (sp:=aJ) (nm:=dK) (aL:=cg p);refine l1.to rfl (d8 l1.ay (by lia)) ?_ (d8 l1.cf (by lia)) ?_ (by lia) l1.cO
    .have:=b7.bW;show(dM (gs++[g++[B.ag.length]])).length<=_;rw[eg]at this;rw[Ob,ba,dS];lia
    .have:=b7.bq;show(gs++[g++[B.ag.length]]).length<=_;rw[eg,ba,dS]at this;rw[ba,dS];lia
   .rw[if_neg e3];exact⟨DJ w hd (bE e1) (bB rfl) aU op,(qL b7).mono (by lia) (cC _),hd⟩
theorem EF(w:bz sc p B)(hd:B.done=aP)(b7:cW n m B)(hp:p<14)(aU:nm∈fx):bz sc (p+1) (hM B nm (cg p) t)/\cW (n+4) (m+1) (hM B nm (cg p) t)/\(hM B nm (cg p) t).done=false:=by
 have op:=HK hp;unfold hM;split
 .exact⟨DJ w hd (bB (by decide)) (bE ab) aU op,(qL b7).mono (by lia) (by lia),hd⟩
 .by_cases hmd:B.bH=cX
  .rw[if_pos hmd];split
   .unfold pb;by_cases e1:nm=aR
    .rw[if_pos e1];exact⟨Sn w hd op,(O1 b7 w.dA).mono (by lia) (by lia),hd⟩
    .rw[if_neg e1];refine⟨?_,?_,hd⟩
     .have t0:bp [dg aJ nm (cg p)] 0=false:=by
       show(decide (aJ=aJ)&&decide (nm=aR))=aP;rw[decide_eq_false e1,rt]
      refine DI (B:=iK B t) (X:=[dg aJ nm (cg p)]) (x:=dg aJ nm (cg p)) (X':=[]) (lI w) hd ab (bE ab) (λi=>by cases i<;>rfl) ?_ ?_ (bB ab) ?_ ?_
      .intro i hi;cases i with
       | zero=>exact⟨ab,g8,pH aU⟩
       | succ i=>cases hi
      .intro i hi;cases i with
       | zero=>rw[t0]at hi;cases hi
       | succ i=>cases hi
      .intro i;cases i with
       | zero=>exact⟨op,dD ab⟩
       | succ i=>exact⟨dD ab,dD ab⟩
      .show 1+p<=p+1;lia
     .have l1:=qL (k_ b7 (x:=.T B.bH t)) (sp:=aJ) (nm:=nm) (aL:=cg p);have:=b7.ay;exact l1.to ab (by show B.ay.length<=_;lia) (d8 l1.bW (by lia)) (d8 l1.cf (by lia)) (d8 l1.bq (by lia)) (by lia) l1.cO
   .obtain⟨a,b,c⟩:=R0 (B:=qu B (dw nm)) (JS w hd (w.mt hmd) (DD nm).1) hd (FT b7 (w.mt hmd)) hp aU;exact⟨a,b.mono (cC _) (by lia),c⟩
  .rw[if_neg hmd];obtain⟨a,b,c⟩:=R0 w hd b7 hp aU;exact⟨a,b.mono (cC _) (by lia),c⟩
noncomputable def qq(p:Nat):Tk->Prop
 | .S _ aL _=>aL=cg p
 | _=>True
theorem Zb(I:dB sc n m af R B L ln)(w:bz sc p B)(hd:B.done=aP)(hp:p<14)(hmn:m+n+3<40000){tk:Tk}(h:fK R t tk)(tp:qq p tk):
 ∃aG R',aA ao (k+31) 486 [.R 7,.R (t+33)] (ai af (R.map (C B L ln)))=ae (.N,ai aG (R'.map (C (kY sc B t tk) L ln)))/\cj sc aG R' (kY sc B t tk) L ln/\bh R R':=by
 have d0:af.done=false:=by rw[I.c.bi.done];exact hd
 cases tk with
 | C aX=>
  obtain⟨aG,R',r,c',pf⟩:=aco (k:=k+10) I w hd h
  exact⟨aG,R',Bh (k:=k+30) d0 r (c2 (pf _ _ h.2.2)) (aN (n:=2) (m:=aK) ab) (by decide),c',pf⟩
 | N aT x l=>
  obtain⟨aG,R',r,c',pf⟩:=acr (k:=k+10) I w hd h
  obtain⟨a7,_,aC⟩:=h
  have tw:(V.S aT::.S x::l).length<aK:=by
   rcases a7 with⟨_,rfl⟩ | ⟨_,rfl⟩
   .exact aN (n:=2) (m:=aK) ab
   .exact aN (n:=5) (m:=aK) ab
  exact⟨aG,R',Bh (k:=k+30) d0 r (c2 (pf _ _ aC)) tw (by rcases a7 with⟨rfl,_⟩ | ⟨rfl,_⟩<;>decide),c',pf⟩
 | A=>
  obtain⟨aG,R',r,c',pf⟩:=acq (k:=k) I w hd h (by lia)
  exact⟨aG,R',Bh (k:=k+30) d0 r (c2 (pf _ _ h)) (aN (n:=1) (m:=aK) ab) (by decide),c',pf⟩
 | E nm=>
  obtain⟨aG,R',r,c',pf⟩:=acp (k:=k+10) I w hd (by lia) h
  obtain⟨_,v,aC⟩:=h
  exact⟨aG,R',Bh (k:=k+30) d0 r (c2 (pf _ _ aC)) (aN (n:=4) (m:=aK) ab) (by decide),c',pf⟩
 | S nm aL s=>
  have tp:aL=cg p:=tp
  subst tp
  obtain⟨aG,R',r,c',pf⟩:=acs (k:=k) I w hd (by lia) hp h
  obtain⟨a,aC,ta⟩:=q6 h
  obtain⟨w',l',_⟩:=EF (t:=t) w hd I.b7 hp h.1
  have aU:=I.aU
  have b':=k7 c' l' (I.dq.mono (by lia) (by lia)) (by lia) (by lia)
  have r2:=Zc (k:=k+29) d0 r (c2 (pf _ _ aC)) b'
  cases s with
  | false=>exact⟨aG,R',r2,c',pf⟩
  | true=>
   have hx:ir R' (.W mA (hM B nm (cg p) t).bH):=⟨dD ab,lk w'.bZ⟩
   rw[if_pos rfl,uE,x_ c'.bi,r_]at r2
   exact⟨_,_,r2,rN c' hx,pf.trans bh.app⟩
end
end
section
noncomputable def rJ(aL:aw):PyData:=.list (if aL=[]then[]else[.tuple [sp iM,sp aL]])
noncomputable def k9(l:List bk)(D:Nat->PyData)(j:Nat):PyData:=if (nn l j).lw=aB then D j else sp (nn l j).dd
noncomputable def iv(l:List bk):Nat->Nat->PyData
 | 0,_=>.none
 | h+1,i=>.list [sp (nn l i).sp,sp (nn l i).nm,rJ (nn l i).aL,.list ((nn l i).ch.map (k9 l (iv l h))),if bp l i=aB then .list ((nn l (i+1)).ch.map (k9 l (iv l h)))else .none]
noncomputable def eY(l:List bk)(i:Nat):Nat:=(l.drop i).countP (·.lw)
theorem Dp{l:List bk}{i:Nat}(h:(nn l i).lw=aB):eY l i=1+eY l (i+1):=by
 have hi:i<l.length:=by
  apply o1;intro aD;rw[lr (by lia)]at h;cases h
 unfold eY;rw[SF hi,p4]
 have:l[i].lw=true:=by
  have:=F9 hi;rw[jn hi]at this;rw[dE this];exact h
 rw[this,if_pos rfl,xx]
theorem Rt{l:List bk}{i j:Nat}(h:i<=j):eY l j<=eY l i:=by
 unfold eY;have e:l.drop j=(l.drop i).drop (j-i):=by rw[List.drop_drop];congr 1;lia
 rw[e];have aD:=kR (p:=λn:bk=>n.lw) (l₁:=(l.drop i).take (j-i)) (l₂:=(l.drop i).drop (j-i));rw[List.take_append_drop]at aD;lia
theorem Dn{l:List bk}{i j:Nat}(h:(nn l i).lw=aB)(hj:i<j):eY l j<eY l i:=by
 have h1:=Dp h;have aD:=Rt (l:=l) (i:=i+1) (j:=j) hj;lia
theorem HQ{h:H}{n:Nat}{F:Nat->V}{D:Nat->PyData}:(l:List Nat)->(∀j∈l,cF h n (F j)=ae (D j))->(l.map F).mapM (cF h n)=ae (l.map D)
 | [],_=>rfl
 | x::l,q=>by
  rw[fI,gg,q x (fa ..),HQ l λj hj=>q j (eV _ hj)];rfl
theorem wB{h:H}:(n n':Nat)->(v:V)->{d:PyData}->n<=n'->cF h n v=ae d->cF h n' v=ae d
 | 0,n',v,d,_,w=>by cases v<;>first | (cases n'<;>exact w) | cases w
 | n+1,0,v,d,hl,w=>absurd hl (Nat.not_succ_le_zero _)
 | n+1,n'+1,v,d,hl,w=>by
  cases v with
  | R a=>
   obtain⟨o,q,w⟩:=SN.mp (qS.symm.trans w);exact qS.trans (dF q (Rn (λx _=>wB n n' x (Nat.le_of_succ_le_succ hl)) w))
  | _=>exact w
section
variable{sc p:Nat}{af:br}{R:List aY}{B L:bw}{ln:Nat->Nat}
theorem Dm{a n:Nat}{aL:aw}(h:nY R a aL):cF (ai af (R.map (C B L ln))) (n+3) (b4 a)=ae (rJ aL):=by
 rcases h with⟨rfl,q⟩ | ⟨ne,d,q,cT⟩
 .exact iC (bD (c2 q)) ab
 .have h1:cF (ai af (R.map (C B L ln))) (n+2) (.R (d+33))=ae (.tuple [sp iM,sp aL]):=mi (bD (c2 cT)) (mh [iM,aL]);have aD:rJ aL=.list [.tuple [sp iM,sp aL]]:=by unfold rJ;rw[if_neg ne]
  rw[aD];refine iC (bD (c2 q)) ?_;rw[gg,h1];rfl
theorem yp{h:H}{n:Nat}{a b c d e:V}{a' b' c' d' e':PyData}(h1:cF h n a=ae a')(aD:cF h n b=ae b')(h3:cF h n c=ae c')(h4:cF h n d=ae d')(h5:cF h n e=ae e'):[a,b,c,d,e].mapM (cF h n)=ae [a',b',c',d',e']:=by
 rw[gg,gg,gg,gg,gg,h1,aD,h3,h4,h5];rfl
theorem HP(c:cj sc af R B L ln)(w:bz sc p L):(h i:Nat)->(nn L.ag i).lw=aB->eY L.ag i<=h->cF (ai af (R.map (C B L ln))) (2*h+3) (.R (ln i+33))=ae (iv L.ag h i)
 | 0,i,hl,aZ=>by have:=Dp hl;lia
 | h+1,i,hl,aZ=>by
  have ih:=HP c w h;obtain⟨la,k,a,b,q⟩:=c.li.nodes i hl
  have kids:∀q k,i<=q->R[k]?=ae (.L q)->cF (ai af (R.map (C B L ln))) (2*h+4) (b4 k)=ae (.list ((nn L.ag q).ch.map (k9 L.ag (iv L.ag h)))):=by
   intro q k hq a7;refine iC (bD (c2 a7)) (HQ _ λj hj=>?_);have hj2:=(w.ch q j hj).1;unfold ej k9;split
   .next hlj=>
    have:=Dn hl (show i<j by lia);exact ih j hlj (by lia)
   .exact iW _
  show cF _ (2*h+4+1) _=_;unfold iv;rcases q with⟨t,q⟩ | ⟨t,k2,cT,q⟩
  .rw[t];exact iC (bD (c2 q)) (yp (iW _) (iW _) (Dm (n:=2*h+1) a) (kids i k (cC _) b) zZ)
  .rw[t];exact iC (bD (c2 q)) (yp (iW _) (iW _) (Dm (n:=2*h+1) a) (kids i k (cC _) b) (kids (i+1) k2 (fA _) cT))
theorem OV{l:List PyData}(h:∀d∈l,d.canLay0=aB):p2 l=true:=by
 induction l with
 | nil=>rfl
 | cons x l ih=>
  unfold p2;rw[h x (fa ..),ih λd hd=>h d (eV _ hd)];rfl
theorem NG{n:Nat}{l:List PyData}(h:∀d∈l,d.depth<=n):rr l<=n:=by
 induction l with
 | nil=>exact gJ _
 | cons x l ih=>
  unfold rr;exact T9.mpr ⟨h x (fa ..),ih λd hd=>h d (eV _ hd)⟩
noncomputable def gX(n:Nat)(d:PyData):Prop:=d.canLay0=aB/\d.depth<=n
theorem rS{n:Nat}{l:List PyData}(h:∀d∈l,gX n d):gX (n+1) (.list l):=by
 unfold gX lN nV;refine⟨OV λd hd=>(h d hd).1,?_⟩;have:=NG λd hd=>(h d hd).2;lia
theorem m7{n:Nat}{l:List PyData}(h:∀d∈l,gX n d):gX (n+1) (.tuple l):=by
 unfold gX lN nV;refine⟨OV λd hd=>(h d hd).1,?_⟩;have:=NG λd hd=>(h d hd).2;lia
theorem hY{n:Nat}{x:aw}(h:cM x):gX n (sp x):=⟨h,by unfold sp nV;exact gJ _⟩
theorem Fn{n:Nat}:gX n .none:=⟨by unfold lN;rfl,by unfold nV;exact gJ _⟩
theorem gX.mono{n m:Nat}{d:PyData}(h:gX n d)(w:n<=m):gX m d:=⟨h.1,d8 h.2 w⟩
theorem Zg{aL:aw}(h:cM aL):gX 2 (rJ aL):=by
 unfold rJ;split
 .exact rS (n:=1) nofun
 .refine rS (n:=1) λd hd=>?_;rw[dx.mp hd];refine m7 (n:=0) λd hd=>?_;rcases d_.mp hd with rfl | hd
  .exact hY (dD ab)
  .rw[dx.mp hd];exact hY h
theorem Fm(w:bz sc p L):(h i:Nat)->(nn L.ag i).lw=aB->eY L.ag i<=h->gX (2*h+1) (iv L.ag h i)
 | 0,i,hl,aZ=>by have:=Dp hl;lia
 | h+1,i,hl,aZ=>by
  have ih:=Fm w h;obtain⟨_,_,aE,cP⟩:=w.gz i hl
  have kids:∀q,i<=q->gX (2*h+2) (.list ((nn L.ag q).ch.map (k9 L.ag (iv L.ag h)))):=by
   intro q hq;refine rS λd hd=>?_;obtain⟨j,hj,rfl⟩:=ig.mp hd;have hj2:=(w.ch q j hj).1;unfold k9;split
   .next hlj=>
    have:=Dn hl (show i<j by lia);exact ih j hlj (by lia)
   .exact hY (w.ok j).2
  show gX (2*h+2+1) _;unfold iv;refine rS λd hd=>?_;rcases d_.mp hd with rfl | hd
  .exact hY aE
  rcases d_.mp hd with rfl | hd
  .exact hY cP
  rcases d_.mp hd with rfl | hd
  .exact(Zg (w.ok i).1).mono (by lia)
  rcases d_.mp hd with rfl | hd
  .exact kids i (cC _)
  rw[dx.mp hd];split
  .exact kids (i+1) (fA _)
  .exact Fn
theorem HS(w:bz sc p L){i:Nat}:eY L.ag i<=2+p:=d8 (Rt (gJ i)) w.lw
theorem Rp(c:cj sc af R B L ln)(w:bz sc p L)(hp:p<=14){i:Nat}(hl:(nn L.ag i).lw=aB):lR (ai af (R.map (C B L ln))) (b_ ln i):=by
 have h1:=HP c w (2+p) i hl (HS w);obtain⟨a,b⟩:=Fm w (2+p) i hl (HS w);exact⟨_,wB _ 59 _ (by lia) h1,a,by lia⟩
end
end
section
section
variable{sc p k n m t:Nat}{af:br}{R:List aY}{B L:bw}{ln:Nat->Nat}{nm:aw}{s:Bool}
theorem xb(I:dB sc n m af R B L ln):L.ay.length<90000:=by have:=I.dq.ay;have:=I.aU;lia
theorem Fv{s:List Nat}:fW (R.map (C B L ln)) L.f L.g s=(R++[gC,eC L.f L.g s].map aY.I).map (C B L ln):=by
 rw[<- oy];unfold fW;rw[cG];rfl
theorem OK(I:dB sc n m af R B L ln)(w:bz sc p L)(hd:L.done=aP){a:Nat}{aL:aw}(aC:R[t]?=ae (.I (.T [.S bO,.S aR,.R (a+33),.B s])))(tk:mN R a aL):
 ∃aG R' ln',aA ao (k+4) 745 [.R 32,.R (t+33)] (ai af (R.map (C B L ln)))=ae (.N,ai aG (R'.map (C B (lU L aL) ln')))/\cj sc aG R' B (lU L aL) ln'/\ef R R':=by
 have cI:=oj I.c (X:=[gC,eC L.f L.g L.ay])
 have pf0:bh R (R++[gC,eC L.f L.g L.ay].map aY.I):=bh.app
 obtain⟨jK,g4,ln1,r1,c1,pf1,_⟩:=WC (k:=k+1) cI w I.dq hd I.aU (tk.ex pf0.ex)
 have aU:=I.aU
 have ey:=k7 c1 (I.b7.mono (show n<=n+2 by lia) (cC _)) (O0 I.dq) (by lia) I.hm
 have hml:(L.cf.map V.S).length<aK:=by
  rw[cB];exact fO I.dq.cf (fg aU (aN rfl))
 have hmld:fP jK (g4.map (C B (gP L aL) ln1)) (L.cf.map V.S):=BH c1
 have r:=ZK (k:=k+2) (m:=49999) (f:=L.f) (g:=L.g) (ln:=ln) (qN I.c w λi hi=>hi) (j3 I.c) (xb I) (c2 aC) (aN (n:=4) (m:=aK) rfl) (by rw[Fv];exact r1) ey hmld hml
 have bf:=Wz c1 (L:=gP L aL) w.dA
 have e2:=ZE (R:=g4) (B:=B) (L:=gP L aL) (ln:=ln1) c1.fr.dA
 have c3:=EX bf (ms:=L.cf++[cX]) (bZ:=cX) (cy:=aP)
 have e3:=FW bf (ms:=L.cf++[cX]) (bZ:=cX) (cy:=aP)
 have em:(L.cf++[cX]).map V.S=L.cf.map V.S++[.S cX]:=by rw[cK];rfl
 rw[<- e2,em]at e3
 refine⟨_,_,ln1,?_,c3,pf0.ex.trans (pf1.ex.trans (bh.ex bh.app))⟩
 rw[r]
 unfold zT zS
 rw[cB]
 have e4:iB jK (g4.map (C B (gP L aL) ln1)++[O.L []]) (L.cf.map V.S++[.S cX])=_:=e3
 rw[e4,<-em]
 rfl
theorem aai(I:dB sc n m af R B L ln)(w:bz sc p L)(hd:L.done=aP)(tk:fK R t (.S nm (cg p) s)):
 ∃aG R' ln',aA ao (k+4) 745 [.R 32,.R (t+33)] (ai af (R.map (C B L ln)))=ae (.N,ai aG (R'.map (C B (pb L nm (cg p) t) ln')))/\cj sc aG R' B (pb L nm (cg p) t) ln'/\ef R R':=by
 obtain⟨a,aC,ta⟩:=q6 tk
 have ht2:=c2 (c:=C B L ln) aC
 unfold pb
 by_cases e1:nm=aR
 .subst e1;rw[if_pos rfl];exact OK I w hd aC ta
 .rw[if_neg e1];have cI:=oj I.c (X:=[gC,eC L.f L.g L.ay]);have pf0:bh R (R++[gC,eC L.f L.g L.ay].map aY.I):=bh.app;have hx:ir (R++[gC,eC L.f L.g L.ay].map aY.I) (.T L.bH t):=⟨lk w.bZ,_,tk.ex pf0.ex _,nofun⟩;have c1:cj sc _ _ B (iK L t) ln:=uy cI hx;have pf1:bh (R++[gC,eC L.f L.g L.ay].map aY.I) ((R++[gC,eC L.f L.g L.ay].map aY.I)++[aY.I (gU (.T L.bH t))]):=bh.app;have l1:cW n (m+1) (iK L t):=k_ I.dq;have w1:bz sc p (iK L t):=lI w;obtain⟨Al,fD,ln2,r2,bf,pf2,_⟩:=xY (k:=k+1) (sp:=aJ) (nm:=nm) c1 w1 l1 hd I.aU ((ta.ex pf0.ex).ex pf1.ex) (bE e1) g8 (pH tk.1);have aU:=I.aU
  have hl:((eQ (iK L t) aJ nm (cg p)).ay.map (b_ ln2)).length<aK:=by
   rw[cB];have:=I.dq.ay;show(L.ay++[L.ag.length]).length<aK;rw[ba,dS];exact fg (by lia:L.ay.length+1<401) (aN rfl)
  have eh:ai (oE af (fW (R.map (C B L ln)) L.f L.g L.ay)) (fW (R.map (C B L ln)) L.f L.g L.ay++[qM af t])=ai {af with cO:=af.cO++[.R ((R++[gC,eC L.f L.g L.ay].map aY.I).length+33)]} (((R++[gC,eC L.f L.g L.ay].map aY.I)++[aY.I (gU (.T L.bH t))]).map (C B (iK L t) ln)):=by
   unfold oE qM;rw[Fv,cB,I.c.li.bH];rw[show iK L t=mR L (.T L.bH t)from rfl,<-BD];rfl
  have r:=ZL (k:=k+2) (f:=L.f) (g:=L.g) (ln:=ln) I.bd (qN I.c w λi hi=>hi) (j3 I.c) (xb I) ht2 e1 (by rw[eh];exact r2) (j3 bf) hl (by
   rw[cB];show 0<(L.ay++[L.ag.length]).length;rw[ba,dS];lia)
  have c3:=xZ bf (st:=L.ay);have e3:=C_ (R:=fD) (B:=B) (L:=eQ (iK L t) aJ nm (cg p)) (ln:=ln2) (st:=L.ay)
  have e4:((eQ (iK L t) aJ nm (cg p)).ay.map (b_ ln2)).dropLast=L.ay.map (b_ ln2):=by
   rw[<- Ki];show((L.ay++[L.ag.length]).dropLast).map _=_;rw[iH]
  rw[e4,cB,e3]at r;exact⟨_,_,ln2,r,c3,pf0.ex.trans (pf1.ex.trans (pf2.ex.trans (bh.ex bh.app)))⟩
theorem BB{w:aw}(I:dB sc n m af R B L ln)(wl:bz sc p L)(hw:cM w):aA ao (k+1) 707 [.R 32,.S w] (ai af (R.map (C B L ln)))=ae (.N,ai {af with cO:=af.cO++[.R (R.length+33)]} ((R++[aY.I (gU (.W w L.bH))]).map (C B (dX L w) ln)))/\cj sc {af with cO:=af.cO++[.R (R.length+33)]} (R++[aY.I (gU (.W w L.bH))]) B (dX L w) ln:=by
 have hx:ir R (.W w L.bH):=⟨hw,lk wl.bZ⟩;have r:=O9 (k:=k) (D:=R.map (C B L ln)) I.bd w;have e:O.T [V.S w,.S af.eU]=gU (.W w L.bH):=by rw[I.c.li.bH];rfl
 rw[e,cB]at r;refine⟨?_,uy I.c hx⟩;rw[r,show dX L w=mR L (.W w L.bH)from rfl,<-BD]
theorem FH(I:dB sc n m af R B L ln)(w:bz sc p L)(hd:L.done=aP)(hm:m+1<40000)(hp:p<=14){l:List V}(aC:R[t]?=ae (.I (.T (.S dc::.S aR::l))))(tw:(V.S dc::.S aR::l).length<aK):
 ∃aG R',aA ao (k+4) 745 [.R 32,.R (t+33)] (ai af (R.map (C B L ln)))=ae (.N,ai aG (R'.map (C B (mP sc L) ln)))/\cj sc aG R' B (mP sc L) ln/\ef R R':=by
 have ht2:=c2 (c:=C B L ln) aC
 have lp:=qN I.c w (s:=L.ay) λi hi=>hi
 unfold mP
 cases ha:L.ay.any (bp L.ag)with
 | false=>
  rw[if_neg (by decide)]
  have cI:=oj I.c (X:=[gC,eC L.f L.g L.ay])
  have I1:dB sc n m af (R++[gC,eC L.f L.g L.ay].map aY.I) B L ln:=⟨cI,I.b7,I.dq,I.aU,I.hm⟩
  obtain⟨r,c1⟩:=BB (k:=k+2) I1 w (w:=j6) (dD rfl)
  refine⟨_,_,ZJ (k:=k+2) (f:=L.f) (g:=L.g) (r1:=.N) lp (j3 I.c) (xb I) ht2 tw (λi hi=>?_) (by rw[Fv];exact r),c1,(bh.ex bh.app).trans (bh.ex bh.app)⟩
  rw[o4]at ha⊢
  intro q
  exact ha (nR.mpr ⟨i,hi,q⟩)
 | true=>
  rw[if_pos rfl]
  obtain⟨r1,r2,t',gs,g,ms,x,ct⟩:=uz w (nR.mp ha)
  obtain⟨elv,epost⟩:=mc ct
  rw[epost]
  have cI:=oj I.c (X:=[gC,eC L.f L.g L.ay,.L (r2.map (b_ ln))])
  have eI:jZ (R.map (C B L ln)) L.f L.g ln (cR sc++r1) t' r2=(R++[gC,eC L.f L.g L.ay,.L (r2.map (b_ ln))].map aY.I).map (C B L ln):=by
   rw[<- oy];unfold jZ fW;rw[<- ct.st,cG,cG];rfl
  have I1:dB sc n m af (R++[gC,eC L.f L.g L.ay,.L (r2.map (b_ ln))].map aY.I) B L ln:=⟨cI,I.b7,I.dq,I.aU,I.hm⟩
  have lp':=lp
  have qp:=j3 I.c
  have hl:=xb I
  have mem2:∀i∈r2,(nn L.ag i).lw=true:=λi hi=>(w.mem i (by rw[ct.st];exact gr _ (eV _ hi))).2.2
  rw[ct.st]at lp' qp hl
  cases c9:r2.any (h2 L.f L.g)with
  | true=>
   rw[if_pos rfl]
   obtain⟨rn,c1⟩:=BB (k:=k+2) I1 w (w:=iE) (dD rfl)
   have ct1:Cut sc (dX L iE) r1 r2 t' gs g ms x:=⟨ct.st,ct.aC,ct.aD,ct.dA,ct.bP,ct.bZ,ct.m0,ct.jC⟩
   have l1:cW n (m+1) (dX L iE):=k_ I.dq
   have ey:=k7 c1 (I.b7.mono (cC _) (fA _)) l1 (by have:=I.aU;lia) hm
   obtain⟨aG,R',r,bf,ex⟩:=EW (k:=k+1) c1 (lI w) l1 ey I.aU ct1
   rw[<- (mc ct1).1]at r bf
   exact⟨aG,R',Oo (k:=k+2) (f:=L.f) (g:=L.g) (ln:=ln) lp' qp hl ht2 tw ct.aC ct.aD (λi hi=>Rp I.c w hp (mem2 i hi)) (bB ⟨c9,.N,by rw[eI];exact rn⟩) r,bf,(bh.ex bh.app).trans ((bh.ex bh.app).trans ex)⟩
  | false=>
   rw[if_neg (by decide)]
   obtain⟨aG,R',r,bf,ex⟩:=EW (k:=k+1) cI w I.dq I1.bd I.aU ct
   rw[<- elv]at r bf
   exact⟨aG,R',Oo (k:=k+2) (f:=L.f) (g:=L.g) (ln:=ln) lp' qp hl ht2 tw ct.aC ct.aD (λi hi=>Rp I.c w hp (mem2 i hi)) (bE ⟨c9,by rw[eI]⟩) r,bf,(bh.ex bh.app).trans ex⟩
end
end
section
section
variable{sc p k n m t:Nat}{af:br}{R:List aY}{B L:bw}{ln:Nat->Nat}{nm:aw}{s:Bool}
theorem OM(I:dB sc n m af R B L ln)(w:bz sc p L)(hd:L.done=aP)(tk:fK R t (.S nm (cg p) s)):
 ∃aG R' ln',aA ao (k+5) 752 [.R 32,.R (t+33)] (ai af (R.map (C B L ln)))=ae (.N,ai aG (R'.map (C B (kG L nm (cg p)) ln')))/\cj sc aG R' B (kG L nm (cg p)) ln'/\ef R R':=by
 obtain⟨a,aC,ta⟩:=q6 tk
 have ht2:=c2 (c:=C B L ln) aC
 have tw:∀nm:aw,[V.S bO,.S nm,.R (a+33),.B s].length<aK:=λ_=>aN (n:=4) (m:=aK) ab
 have aU:=I.aU
 unfold kG
 by_cases e1:nm=aR
 .subst e1;rw[if_pos rfl];obtain⟨aG,R',ln',r,c',ex⟩:=OK (k:=k) I w hd aC ta;exact⟨aG,R',ln',K9 ht2 (tw aR) (by decide) (by decide) r,c',ex⟩
 .rw[if_neg e1];by_cases e2:nm=cY
  .subst e2;rw[if_pos rfl];obtain⟨aG,R',ln',r,c',pf,_⟩:=xY (k:=k+2) (sp:=cY) (nm:=aR) I.c w I.dq hd I.aU ta (bB (by decide)) (dD rfl) pJ;exact⟨aG,R',ln',UE ht2 r,c',pf.ex⟩
  .rw[if_neg e2];by_cases e3:nm=dK
   .subst e3;rw[if_pos rfl];obtain⟨gs,g,eg⟩:=z_ w.dA;rw[Bp eg];obtain⟨aG,R',ln',r,c',pf,_⟩:=xY (k:=k+2) (sp:=aJ) (nm:=dK) I.c w I.dq hd I.aU ta (bE (by decide)) g8 (dD rfl);obtain⟨dA,Al,lg,qg,es,bf⟩:=WA c' (gs:=gs) (g:=g) (j:=L.ag.length) eg;have b':=k7 c' (I.b7.mono (show n<=n+2 by lia) (cC _)) (qL I.dq) (by lia) I.hm;obtain⟨_,d,h1,aD⟩:=ta;have lnew:(nn (bC L.ag L.hm L.ag.length++[dg aJ dK (cg p)]) L.ag.length)=dg aJ dK (cg p):=iA (r:=0)
    have ep:dT (eQ L aJ dK (cg p)).ag L.ag.length=.S (cg p):=by
     show V.S (nn (bC L.ag L.hm L.ag.length++[dg aJ dK (cg p)]) L.ag.length).aL=_;rw[lnew];rfl
    rw[ep]at es;have hf:=I.dq.bW
    have gl:g.length<=(dM L.bq).length:=by
     rw[eg];cases gs with
     | nil=>show g.length<=(g.map aV++[]).length;rw[iJ,cB];exact cC _
     | cons x r=>rw[qF (o5 _ _),ba,fH,cB];lia
    refine⟨Al,R',ln',?_,bf,pf.ex⟩;rw[<- es]
    exact UB (k:=k+4) b' ht2 (c2 (pf _ _ aC)) (c2 (pf _ _ h1)) (c2 (pf _ _ aD)) r lg qg (by
     rw[cB];exact fg (show g.length<400 by lia) (aN rfl))
   .rw[if_neg e3];obtain⟨aG,R',ln',r,c',pf,_⟩:=xY (k:=k+2) (sp:=aJ) (nm:=nm) I.c w I.dq hd I.aU ta (bE e1) g8 (pH tk.1);exact⟨aG,R',ln',UD ht2 (c2 (pf _ _ aC)) e1 e2 e3 r,c',pf.ex⟩
noncomputable def oU:List O:=[iR,JO,.T (jm.map .S)]
theorem xd:fz (R.map (C B L ln))=(R++oU.map aY.I).map (C B L ln):=by
 rw[<- oy];unfold fz oU;rw[cG,cG];rfl
theorem Bx(I:dB sc n m af R B L ln)(X:List O):dB sc n m af (R++X.map aY.I) B L ln:=⟨oj I.c,I.b7,I.dq,I.aU,I.hm⟩
theorem JN(I:dB sc n m af R B L ln)(w:bz sc p L)(hd:L.done=aP):∃x y z,(R.map (C B L ln))[ln (top L)]?=ae (.L [.S (nn L.ag (top L)).sp,.S (nn L.ag (top L)).nm,x,y,z]):=by
 obtain⟨_,_,x,y,z,q⟩:=qN I.c w (s:=L.ay) (λi hi=>hi) _ (Ag (jj w hd));exact⟨x,y,z,q⟩
noncomputable def qD(L:bw)(aT:aw):Nat:=if (hk L&&!(ku L&&decide (aT∈mx)))=aB then 759 else if L.bH=cX then 766 else 752
theorem HJ(I:dB sc n m af R B L ln)(w:bz sc p L)(hd:L.done=aP):(L.ay.map (b_ ln)).length<aK/\0<(L.ay.map (b_ ln)).length/\(L.ay.map (b_ ln)).getLast?=ae (.R (ln (top L)+33)):=by
 have aU:=I.aU;have hs:=I.dq.ay;have:=ui.mpr (jj w hd);refine⟨?_,?_,?_⟩
 .rw[cB];exact fg (show L.ay.length<400 by lia) (aN rfl)
 .rw[cB];exact this
 .rw[p3,xf (jj w hd)];rfl
theorem E_(I:dB sc n m af R B L ln)(w:bz sc p L)(hd:L.done=aP){aT:aw}{l:List V}{L':bw}(aC:R[t]?=ae (.I (.T (.S aT::l))))(tw:(V.S aT::l).length<aK)(we:aT≠dY)(ws:aT≠bO)
 (q:∃aG R',aA ao k (qD L aT) [.R 32,.R (t+33)] (ai af (R.map (C B L ln)))=ae (.N,ai aG (R'.map (C B L' ln)))/\cj sc aG R' B L' ln/\ef R R'):
 ∃aG R',aA ao (k+1) 773 [.R 32,.R (t+33)] (ai af (R.map (C B L ln)))=ae (.N,ai aG (R'.map (C B L' ln)))/\cj sc aG R' B L' ln/\ef R R':=by
 obtain⟨aG,R',r,c',ex⟩:=q
 obtain⟨x,y,z,qn⟩:=JN I w hd
 obtain⟨h1,_,h3⟩:=HJ I w hd
 refine⟨aG,R',W9 (r:=.N) (c2 aC) (c2 (ex _ (.I _) nofun aC)) tw we ws (j3 I.c) h1 h3 qn (aN (n:=5) (m:=aK) ab) ?_,c',ex⟩
 rw[I.c.li.bH];exact r
theorem OL:ai {af with cw:=(R.map (C B L ln)).length+33} (R.map (C B L ln)++[.L (L.ay.map (b_ ln)).dropLast])=ai {af with cw:=R.length+33} ((R++[aY.I (.L (L.ay.dropLast.map (b_ ln)))]).map (C B (rF L) ln)):=by
 rw[cB,<-Ki,C_];rfl
theorem WM(I:dB sc n m af R B L ln)(w:bz sc p L)(hd:L.done=aP){aX:aw}(tk:fK R t (.C aX)):
 ∃aG R',aA ao (k+5) 773 [.R 32,.R (t+33)] (ai af (R.map (C B L ln)))=ae (.N,ai aG (R'.map (C B (ju L aX) ln)))/\cj sc aG R' B (ju L aX) ln/\ef R R':=by
 obtain⟨o,hl,aC⟩:=tk
 have ht2:=c2 (c:=C B L ln) aC
 have tw:[V.S d6,.S aX].length<aK:=aN (n:=2) (m:=aK) ab
 refine E_ (k:=k+4) I w hd aC tw (by decide) (by decide) ?_
 unfold qD
 split
 .obtain⟨aG,R',r,c',ex⟩:=EY (k:=k+1) I.c w I.dq hd I.aU hl;exact⟨aG,R',Y6 ht2 r,c',ex⟩
 .split
  .have I1:=Bx I oU;obtain⟨aG,R',r,c',ex⟩:=EY (k:=k) I1.c w I.dq hd I.aU hl;refine⟨aG,R',R_ (k:=k+3) ht2 tw (by decide) (by decide) (dD rfl) o (r:=.N) ?_,c',(bh.ex bh.app).trans ex⟩;rw[xd];exact K7 (k:=k+2) (c2 (bh.app _ _ aC)) r
  .obtain⟨aG,R',r,c',ex⟩:=EY (k:=k+1) I.c w I.dq hd I.aU hl;exact⟨aG,R',K7 ht2 r,c',ex⟩
theorem FJ(I:dB sc n m af R B L ln):ai (oE af (R.map (C B L ln))) (R.map (C B L ln)++[qM af t])=ai {af with cO:=af.cO++[.R (R.length+33)]} ((R++[aY.I (gU (.T L.bH t))]).map (C B (iK L t) ln)):=by
 have e:qM af t=gU (.T L.bH t):=by unfold qM;rw[I.c.li.bH];rfl
 unfold oE;rw[e,cB,show iK L t=mR L (.T L.bH t)from rfl,<-BD]
theorem WR(I:dB sc n m af R B L ln)(w:bz sc p L)(hd:L.done=aP){aT x:aw}{l:List V}(tk:fK R t (.N aT x l)):
 ∃aG R',aA ao (k+5) 773 [.R 32,.R (t+33)] (ai af (R.map (C B L ln)))=ae (.N,ai aG (R'.map (C B (iK L t) ln)))/\cj sc aG R' B (iK L t) ln/\ef R R':=by
 have hx:ir R (.T L.bH t):=⟨lk w.bZ,_,tk,nofun⟩
 have tk0:=tk
 obtain⟨a7,o,aC⟩:=tk
 have ht2:=c2 (c:=C B L ln) aC
 have tw:(V.S aT::.S x::l).length<aK:=by
  rcases a7 with⟨_,rfl⟩ | ⟨_,rfl⟩
  .exact aN (n:=2) (m:=aK) ab
  .exact aN (n:=5) (m:=aK) ab
 obtain⟨k1,k2,k3,k4,k5,k6⟩:aT≠d6/\aT≠dY/\aT≠bO/\aT≠dc/\aT∈jf/\cM aT:=by
  rcases a7 with⟨rfl,_⟩ | ⟨rfl,_⟩
  .exact⟨by decide,by decide,by decide,by decide,by decide,dD ab⟩
  .exact⟨by decide,by decide,by decide,by decide,by decide,dD ab⟩
 refine E_ (k:=k+4) I w hd aC tw k2 k3 ?_
 unfold qD
 split
 .refine⟨_,_,?_,uy I.c hx,bh.ex bh.app⟩;exact(Y8 (k:=k+3) I.bd ht2 tw k1 k3 k4).trans (by rw[FJ I])
 .split
  .have I1:=Bx I oU;have pf:bh R (R++oU.map aY.I):=bh.app;refine⟨_,_,?_,uy I1.c (hx.ex pf.ex _),pf.ex.trans (bh.ex bh.app)⟩;refine R_ (k:=k+3) ht2 tw k3 k4 k6 o (r:=.N) ?_;rw[xd];exact(K8 (k:=k+2) I1.bd (c2 (pf _ _ aC)) tw k1 k5).trans (by rw[FJ I1])
  .refine⟨_,_,?_,uy I.c hx,bh.ex bh.app⟩;exact(K8 (k:=k+3) I.bd ht2 tw k1 k5).trans (by rw[FJ I])
theorem WN(I:dB sc n m af R B L ln)(w:bz sc p L)(hd:L.done=aP)(hm:m+1<40000)(hp:p<=14)(tk:fK R t (.E nm)):
 ∃aG R',aA ao (k+7) 773 [.R 32,.R (t+33)] (ai af (R.map (C B L ln)))=ae (.N,ai aG (R'.map (C B (lT sc L nm) ln)))/\cj sc aG R' B (lT sc L nm) ln/\ef R R':=by
 obtain⟨aU,v,aC⟩:=tk
 have ht2:=c2 (c:=C B L ln) aC
 have tw:∀nm:aw,[V.S dc,.S nm,v,.B aP].length<aK:=λ_=>aN (n:=4) (m:=aK) ab
 refine E_ (k:=k+6) I w hd aC (tw nm) (by decide) (by decide) ?_
 have ek:qD L dc=if hk L=aB then 759 else if L.bH=cX then 766 else 752:=by
  unfold qD;rw[show decide (dc∈mx)=aP from rfl,rt,Bool.not_false,TQ]
 rw[ek]
 obtain⟨h1,aD,h3⟩:=HJ I w hd
 have I1:=Bx I oU
 have pf:bh R (R++oU.map aY.I):=bh.app
 unfold lT
 by_cases e1:nm=aR
 .subst e1;rw[if_pos rfl];split
  .obtain⟨aG,R',r,c',ex⟩:=FH (k:=k+1) I w hd hm hp aC (tw _);exact⟨aG,R',Y_ ht2 (tw _) r,c',ex⟩
  .split
   .obtain⟨aG,R',r,c',ex⟩:=FH (k:=k+1) I1 w hd hm hp (pf _ _ aC) (tw _);exact⟨aG,R',afz ht2 (tw _) (by rw[xd];exact r),c',pf.ex.trans ex⟩
   .obtain⟨aG,R',r,c',ex⟩:=FH (k:=k+1) I w hd hm hp aC (tw _);exact⟨aG,R',K9 ht2 (tw _) (by decide) (by decide) r,c',ex⟩
 .rw[if_neg e1];cases hf:hk L with
  | true=>
   rw[if_pos rfl,if_pos rfl];have r:=Y7 (k:=k+5) ht2 (tw nm) e1 (j3 I.c) h1 aD;rw[OL]at r;exact⟨_,_,r,xZ I.c,bh.ex bh.app⟩
  | false=>
   rw[if_neg nP,if_neg nP];by_cases hmd:L.bH=cX
   .rw[if_pos hmd,if_pos hmd];obtain⟨r,c1⟩:=BB (k:=k+4) I1 w (w:=j6) (dD rfl);exact⟨_,_,afx (k:=k+5) ht2 (tw nm) e1 (pH aU) (by rw[xd];exact r),c1,pf.ex.trans (bh.ex bh.app)⟩
   .rw[if_neg hmd,if_neg hmd];obtain⟨x,y,z,qn⟩:=JN I w hd;obtain⟨_,_,hl⟩:=w.mem _ (Ag (jj w hd));obtain⟨_,_,aE,cP⟩:=w.gz _ hl;have r:=UC (k:=k+5) (f:=L.f) (g:=L.g) (ln:=ln) (i:=top L) ht2 (tw nm) e1 (j3 I.c) h1 h3 aE cP (pH aU) qn;by_cases e2:du L.f L.g nm (top L)=aB
    .rw[if_pos e2]at r⊢;rw[OL]at r;exact⟨_,_,r,xZ I.c,bh.ex bh.app⟩
    .rw[if_neg e2]at r⊢;exact⟨af,R,r,I.c,ef.iX⟩
end
end
section
section
variable{sc p k n m t:Nat}{af:br}{R:List aY}{B L:bw}{ln:Nat->Nat}{nm:aw}{s:Bool}
theorem Oq:∀x,x∈qI↔x∈pC:=by
 have h1:∀x∈qI,x∈pC:=by decide
 have aD:∀x∈pC,x∈qI:=by decide
 exact λx=>⟨h1 x,aD x⟩
theorem V5(I:dB sc n m af R B L ln)(w:bz sc p L)(hd:L.done=aP)(tk:fK R t (.S nm (cg p) s)):
 ∃aG R' ln',aA ao (k+8) (qD L bO) [.R 32,.R (t+33)] (ai af (R.map (C B L ln)))=ae (.N,ai aG (R'.map (C B (hM L nm (cg p) t) ln')))/\cj sc aG R' B (hM L nm (cg p) t) ln'/\ef R R':=by
 obtain⟨a,aC,ta⟩:=q6 tk
 have ht2:=c2 (c:=C B L ln) aC
 have tw:∀nm:aw,[V.S bO,.S nm,.R (a+33),.B s].length<aK:=λ_=>aN (n:=4) (m:=aK) ab
 have ek:qD L bO=if (hk L&&!ku L)=aB then 759 else if L.bH=cX then 766 else 752:=by
  unfold qD;rw[show decide (bO∈mx)=aB from rfl,TQ]
 rw[ek]
 have pf:bh R (R++oU.map aY.I):=bh.app
 unfold hM
 cases hf:hk L&&!ku L with
 | true=>
  rw[if_pos rfl,if_pos rfl]
  obtain⟨aG,R',ln',r,c',pf,_⟩:=xY (k:=k+5) (sp:=cY) (nm:=nm) I.c w I.dq hd I.aU ta (bB (by decide)) (dD rfl) (pH tk.1)
  exact⟨aG,R',ln',Y9 ht2 r,c',pf.ex⟩
 | false=>
  rw[if_neg nP,if_neg nP]
  by_cases hmd:L.bH=cX
  .rw[if_pos hmd,if_pos hmd];have I1:=Bx I oU;by_cases hl:nm∈pC
   .rw[if_pos hl];obtain⟨aG,R',ln',r,c',ex⟩:=aai (k:=k+3) I1 w hd (tk.ex pf.ex _);exact⟨aG,R',ln',afy ht2 (tw nm) ((Oq nm).mpr hl) (by rw[xd];exact r),c',pf.ex.trans ex⟩
   .rw[if_neg hl];have mne:=w.mt hmd;obtain⟨ms,x,em⟩:=oS mne;have ct:=EX I1.c (ms:=L.cf.dropLast++[dw nm]) (bZ:=dw nm) (cy:=af.g7);have cr:=FW I1.c (ms:=L.cf.dropLast++[dw nm]) (bZ:=dw nm) (cy:=af.g7);have ea:uF L (L.cf.dropLast++[dw nm]) (dw nm) af.g7=qu L (dw nm):=by rw[I.c.li.cy];rfl
    rw[ea]at ct cr;have w1:=JS w hd mne (DD nm).1;have I2:dB sc n m {kg af ((L.cf.dropLast++[dw nm]).map .S)with eU:=dw nm,g7:=af.g7} (R++oU.map aY.I) B (qu L (dw nm)) ln:=⟨ct,I.b7,FT I.dq mne,I.aU,I.hm⟩;obtain⟨aG,R',ln',r,c',ex⟩:=OM (k:=k+2) I2 w1 hd (tk.ex pf.ex _)
    have hmod:fP af (R.map (C B L ln)) (ms.map V.S++[.S x]):=by
     have:=BH I.c;rw[em,cK]at this;exact this
    have wm:(ms.map V.S++[V.S x]).length<aK:=by
     have h1:=I.dq.cf;have aD:=I.aU;have e:(ms.map V.S++[V.S x]).length=L.cf.length:=by rw[em,ba,ba,cB];rfl
     rw[e];exact fg (show L.cf.length<400 by lia) (aN rfl)
    have em2:(L.cf.dropLast++[dw nm]).map V.S=ms.map V.S++[.S (dw nm)]:=by rw[em,iH,cK];rfl
    rw[<- cr,em2,<-xd]at r;exact⟨aG,R',ln',afB (k:=k+7) ht2 (tw nm) (λh=>hl ((Oq nm).mp h)) (pH tk.1) hmod wm r,c',pf.ex.trans ex⟩
  .rw[if_neg hmd,if_neg hmd];exact OM (k:=k+3) I w hd tk
theorem WS(I:dB sc n m af R B L ln)(w:bz sc p L)(hd:L.done=aP)(hm:m+n+3<40000)(hp:p<14)(tk:fK R t (.S nm (cg p) s)):
 ∃aG R' ln',aA ao (k+9) 773 [.R 32,.R (t+33)] (ai af (R.map (C B L ln)))=ae (.N,ai aG (R'.map (C B (qr s (hM L nm (cg p) t)) ln')))/\cj sc aG R' B (qr s (hM L nm (cg p) t)) ln'/\ef R R':=by
 obtain⟨a,aC,ta⟩:=q6 tk
 obtain⟨aG,R',ln',r,c',ex⟩:=V5 (k:=k) I w hd tk
 obtain⟨x,y,z,qn⟩:=JN I w hd
 obtain⟨h1,_,h3⟩:=HJ I w hd
 obtain⟨w',l',_⟩:=EF (t:=t) w hd I.dq hp tk.1
 have aU:=I.aU
 have b':=k7 c' (I.b7.mono (by lia) (by lia)) l' (by lia) (by lia)
 have r2:=W_ (k:=k+7) (r:=.N) b' (c2 aC) (c2 (ex _ (.I _) nofun aC)) (j3 I.c) h1 h3 qn (aN (n:=5) (m:=aK) rfl) (by rw[I.c.li.bH];exact r)
 cases s with
 | false=>exact⟨aG,R',ln',r2,c',ex⟩
 | true=>
  have hx:ir R' (.W mA (hM L nm (cg p) t).bH):=⟨dD ab,lk w'.bZ⟩
  refine⟨_,_,ln',?_,uy c' hx,ex.trans (bh.ex bh.app)⟩
  rw[r2,if_pos rfl]
  have e:O.T [V.S mA,.S aG.eU]=gU (.W mA (hM L nm (cg p) t).bH):=by rw[c'.li.bH];rfl
  unfold oE
  rw[e,cB,BD];rfl
theorem NI{fr:bJ}(f0:fr[0]?=ae (ae (.R 32))):(c:Nat)->(af:br)->(R:List aY)->(L:bw)->(m d:Nat)->dB sc n m af R B L ln->bz sc p L->L.done=aP->L.ay.countP (bp L.ag)=c->m+c<40000->
 ∃aG R',fB ao (aA ao (k+3)) (g9 (bj (jk (bj jx 0)) 0)) (dr (bj (jk (bj jx 0)) 0)) (d+c+1) fr (ai af (R.map (C B L ln)))=ae (.N,fr,ai aG (R'.map (C B (jX sc c L) ln)))/\dB sc n (m+c) aG R' B (jX sc c L) ln/\ef R R'
 | 0,af,R,L,m,d,I,w,hd,hc,_=>by
  refine⟨af,R,WW (k:=k+2) (f:=L.f) (g:=L.g) (ln:=ln) f0 (qN I.c w λi hi=>hi) (j3 I.c) (xb I) λi hi=>?_,I,ef.iX⟩;exact o4.mpr (pZ.mp hc i hi)
 | c+1,af,R,L,m,d,I,w,hd,hc,hm=>by
  have hex:∃i∈L.ay,bp L.ag i=true:=Ao.mp (by lia);obtain⟨r1,r2,t,gs,g,ms,y,ct⟩:=uz w hex;obtain⟨i,hi,ti⟩:=hex;obtain⟨rn,c1⟩:=BB (k:=k+2) I w (w:=eK) (dD rfl);have l1:cW n (m+1) (dX L eK):=k_ I.dq;have ey:=k7 c1 (I.b7.mono (cC _) (fA _)) l1 (by have:=I.aU;lia) (by lia);have ct1:Cut sc (dX L eK) r1 r2 t gs g ms y:=⟨ct.st,ct.aC,ct.aD,ct.dA,ct.bP,ct.bZ,ct.m0,ct.jC⟩;have w1:bz sc p (dX L eK):=lI w;obtain⟨jK,g4,r,bf,ex⟩:=EW (k:=k+1) c1 w1 l1 ey I.aU ct1;have w2:=xl w1 hd ct1;have cn:=FX w1 hd ct1;rw[<- (mc ct1).1]at r bf w2 cn;have l2:cW n (m+1) (hQ sc (dX L eK)):=by rw[(mc ct1).1];exact ym l1 ct1
  have hd2:(hQ sc (dX L eK)).done=false:=hd
  have cc:(hQ sc (dX L eK)).ay.countP (bp (hQ sc (dX L eK)).ag)=c:=by
   have:(dX L eK).ay.countP (bp (dX L eK).ag)=c+1:=hc;lia
  obtain⟨aG,R',r3,I3,ex3⟩:=NI f0 c jK g4 (hQ sc (dX L eK)) (m+1) d ⟨bf,I.b7.mono (cC _) (fA _),l2,I.aU,by lia⟩ w2 hd2 cc (by lia);refine⟨aG,R',?_,by rw[show m+(c+1)=m+1+c by lia];exact I3,(bh.ex bh.app).trans (ex.trans ex3)⟩;exact WV (k:=k+2) (n:=d+c+1) (f:=L.f) (g:=L.g) (ln:=ln) f0 (qN I.c w λi hi=>hi) (j3 I.c) (xb I) hi ti rn r r3
theorem WB(c:cj sc af R B L ln):cj sc {af with cw:=R.length+33,jd:=aB} (R++[aY.I (.L [])]) B (pa L) ln:=by
 have c1:=xZ c (st:=[]);have l:=c1.li;exact⟨c1.bi.mono ab ef.iX,⟨l.cw,l.nodes,l.bP,l.bq,l.lm,l.bH,l.cy,ab,l.cO⟩,c1.fr,pq c1.bR ab (bB ab),c1.nb,c1.nl⟩
theorem WO(I:dB sc n m af R B L ln)(w:bz sc p L)(hd:L.done=aP)(hm:m+n<40000)(aC:R[t]?=ae (.I (.T [.S dY]))):
 ∃aG R',aA ao (k+4) 773 [.R 32,.R (t+33)] (ai af (R.map (C B L ln)))=ae (.N,ai aG (R'.map (C B (mQ sc L) ln)))/\cj sc aG R' B (mQ sc L) ln/\ef R R':=by
 have hl:L.ay.countP (bp L.ag)<=n:=d8 J9 I.dq.ay
 have aU:=I.aU
 obtain⟨jK,g4,r,I1,ex⟩:=NI (k:=k) (fr:=[ae (.R 32),ae (.R (t+33))]) rfl (L.ay.countP (bp L.ag)) af R L m (499-L.ay.countP (bp L.ag)) I w hd rfl (by lia)
 rw[show 499-L.ay.countP (bp L.ag)+L.ay.countP (bp L.ag)+1=500 by lia]at r
 have r2:=W8 (k:=k+3) (c2 aC) (c2 (ex _ (.I _) nofun aC)) r
 refine⟨_,_,?_,WB I1.c,ex.trans (bh.ex bh.app)⟩
 rw[r2,cB]
 have:=C_ (R:=g4) (B:=B) (L:=jX sc (L.ay.countP (bp L.ag)) L) (ln:=ln) (st:=[])
 rw[show O.L (([]:List Nat).map (b_ ln))=O.L []from rfl]at this
 rw[this];rfl
theorem Xe(I:dB sc n m af R B L ln)(w:bz sc p L)(hd:L.done=aP)(hp:p<14)(hmn:m+n+3<40000){tk:Tk}(h:fK R t tk)(tp:qq p tk):
 ∃aG R' ln',aA ao (k+9) 773 [.R 32,.R (t+33)] (ai af (R.map (C B L ln)))=ae (.N,ai aG (R'.map (C B (kY sc L t tk) ln')))/\cj sc aG R' B (kY sc L t tk) ln'/\ef R R':=by
 cases tk with
 | C aX=>
  obtain⟨aG,R',r,c',ex⟩:=WM (k:=k+4) I w hd h
  exact⟨aG,R',ln,r,c',ex⟩
 | N aT x l=>
  obtain⟨aG,R',r,c',ex⟩:=WR (k:=k+4) I w hd h
  exact⟨aG,R',ln,r,c',ex⟩
 | A=>
  obtain⟨aG,R',r,c',ex⟩:=WO (k:=k+5) I w hd (by lia) h
  exact⟨aG,R',ln,r,c',ex⟩
 | E nm=>
  obtain⟨aG,R',r,c',ex⟩:=WN (k:=k+2) I w hd (by lia) (by lia) h
  exact⟨aG,R',ln,r,c',ex⟩
 | S nm aL s=>
  have tp:aL=cg p:=tp
  subst tp
  exact WS (k:=k) I w hd hmn hp h
end
end
section
section
variable{sc p n m t:Nat}{R:List aY}{B:bw}{nm:aw}
theorem So(w:bz sc p B)(hd:B.done=aP)(h:(nn B.ag (top B)).sp=cY\/(nn B.ag (top B)).nm∈fx)(aC:bp B.ag (top B)=aP):bz sc p (rF B):=by
 obtain⟨r,er,aZ,hc⟩:=ub w hd
 have rne:r≠[]:=by
  intro e;rw[e,iJ]at er
  have hb:(nn B.ag (top B)).sp=aJ/\((nn B.ag (top B)).nm=aJ\/(nn B.ag (top B)).nm=fm):=by
   unfold top;rw[er];unfold cR;by_cases s0:sc=0
   .rw[if_pos s0];exact⟨(w.bQ s0).1,bE (w.bQ s0).2⟩
   .rw[if_neg s0];exact⟨w.ey.1,bB w.ey.2⟩
  rcases h with h | h
  .rw[hb.1]at h;revert h;decide
  .obtain⟨h1,_,h3,_⟩:=F7 h;rcases hb.2 with e | e
   .exact h1 e
   .exact h3 e
 have gz:r=r.dropLast++[r.getLast rne]:=(ue rne).symm;have hl:top B=r.getLast rne:=Sb (by rw[er,S2,D6 rne];rfl);have es:B.ay.dropLast=cR sc++r.dropLast:=by rw[er,List.dropLast_append_of_ne_nil rne]
 refine JR w hd es (λi hi=>?_) ?_
 .have hi2:i∈r:=(List.dropLast_sublist r).subset hi;exact⟨by rw[er];exact gr _ hi2,(aZ i hi2).2⟩
 .rw[hc];conv=>rhs;rw[gz]
  rw[kR,p4,<-hl,aC];rfl
theorem O2(h:cW n m B):cW n m (rF B):=FR h (by rw[List.length_dropLast];lia)
theorem N5:(c:Nat)->(B:bw)->(m:Nat)->bz sc p B->B.done=aP->B.ay.countP (bp B.ag)=c->cW n m B->bz sc p (jX sc c B)/\cW n (m+c) (jX sc c B)/\(jX sc c B).ay.countP (bp (jX sc c B).ag)=0
 | 0,B,m,w,hd,hc,b7=>⟨w,b7,hc⟩
 | c+1,B,m,w,hd,hc,b7=>by
  have hex:∃i∈B.ay,bp B.ag i=true:=Ao.mp (by lia);obtain⟨r1,r2,t,gs,g,ms,y,ct⟩:=uz w hex;have l1:cW n (m+1) (dX B eK):=k_ b7;have ct1:Cut sc (dX B eK) r1 r2 t gs g ms y:=⟨ct.st,ct.aC,ct.aD,ct.dA,ct.bP,ct.bZ,ct.m0,ct.jC⟩;have w1:bz sc p (dX B eK):=lI w;have w2:=xl w1 hd ct1;have cn:=FX w1 hd ct1;rw[<- (mc ct1).1]at w2 cn;have l2:cW n (m+1) (hQ sc (dX B eK)):=by rw[(mc ct1).1];exact ym l1 ct1
  have cc:(hQ sc (dX B eK)).ay.countP (bp (hQ sc (dX B eK)).ag)=c:=by
   have:(dX B eK).ay.countP (bp (dX B eK).ag)=c+1:=hc;lia
  obtain⟨a,b,d⟩:=N5 c (hQ sc (dX B eK)) (m+1) w2 hd cc l2;exact⟨a,by rw[show m+(c+1)=m+1+c by lia];exact b,d⟩
theorem Wo(w:bz sc p B)(hd:B.done=aP)(b7:cW n m B):bz sc p (mP sc B)/\cW n (m+1) (mP sc B):=by
 unfold mP;split
 .next ha=>
  obtain⟨r1,r2,t,gs,g,ms,x,ct⟩:=uz w (nR.mp ha);split
  .have ct1:Cut sc (dX B iE) r1 r2 t gs g ms x:=⟨ct.st,ct.aC,ct.aD,ct.dA,ct.bP,ct.bZ,ct.m0,ct.jC⟩;have l1:cW n (m+1) (dX B iE):=k_ b7;have w1:bz sc p (dX B iE):=lI w;rw[(mc ct1).1];exact⟨xl w1 hd ct1,ym l1 ct1⟩
  .rw[(mc ct).1];exact⟨xl w hd ct,(ym b7 ct).mono (cC _) (fA _)⟩
 .exact⟨lI w,k_ b7⟩
theorem Xy(w:bz sc p B)(hd:B.done=aP)(b7:cW n m B)(aU:nm∈fx):bz sc p (lT sc B nm)/\cW n (m+1) (lT sc B nm):=by
 unfold lT;by_cases e1:nm=aR
 .rw[if_pos e1];exact Wo w hd b7
 .rw[if_neg e1];cases hf:hk B with
  | true=>
   rw[if_pos rfl];have hs:(nn B.ag (top B)).sp=cY:=of_decide_eq_true hf;refine⟨So w hd (bB hs) ?_,(O2 b7).mono (cC _) (fA _)⟩;unfold bp;rw[hs];rfl
  | false=>
   rw[if_neg nP];split
   .exact⟨lI w,k_ b7⟩
   .split
    .next h=>
     unfold du at h;rw[kS,decide_eq_true_iff,decide_eq_true_iff]at h;have aD:(nn B.ag (top B)).nm=nm:=h.2;refine⟨So w hd (bE (by rw[aD];exact aU)) ?_,(O2 b7).mono (cC _) (fA _)⟩;unfold bp;rw[aD,decide_eq_false e1,rt]
    .exact⟨w,b7.mono (cC _) (fA _)⟩
theorem afr{tk:Tk}(w:bz sc p B)(hd:B.done=aP)(b7:cW n m B)(hp:p<14)(h:fK R t tk)(tp:qq p tk):bz sc (p+1) (kY sc B t tk)/\cW (n+4) (m+n+3) (kY sc B t tk):=by
 cases tk with
 | C aX=>exact⟨(agg w hd h.1).mono (fA _),(aaD b7 h.2.1).mono (by lia) (by lia)⟩
 | N aT x l=>exact⟨(lI w).mono (fA _),(k_ b7).mono (by lia) (by lia)⟩
 | E nm=>
  obtain⟨a,b⟩:=Xy w hd b7 h.1;exact⟨a.mono (fA _),b.mono (by lia) (by lia)⟩
 | A=>
  obtain⟨a,b,c⟩:=N5 (B.ay.countP (bp B.ag)) B m w hd rfl b7;have hl:B.ay.countP (bp B.ag)<=n:=d8 J9 b7.ay;exact⟨(agd a c).mono (fA _),(aaB b).mono (by lia) (by lia)⟩
 | S nm aL s=>
  have tp:aL=cg p:=tp;subst tp;obtain⟨a,b,_⟩:=EF (t:=t) w hd b7 hp h.1;show bz sc (p+1) (qr s (hM B nm (cg p) t))/\cW (n+4) (m+n+3) (qr s (hM B nm (cg p) t));unfold qr;split
  .exact⟨lI a,(k_ b).mono (by lia) (by lia)⟩
  .exact⟨a,b.mono (by lia) (by lia)⟩
end
end
section
section
variable{sc p k n m t:Nat}{af:br}{R:List aY}{B L:bw}{ln:Nat->Nat}{nm:aw}{s:Bool}
theorem Ff{h:H}{a b:Nat}{o:O}{d:PyData}(p:h[a]?=ae o)(no:o≠.I [])(r1:cF h 60 (.R a)=ae d)(r2:cF h 60 (.R b)=ae d)(f:gX 64 d):cD .E h (.R a) (.R b)=ae true:=by
 have hs:jG d=true:=by unfold jG;rw[f.1,TP,decide_eq_true_iff];exact f.2
 rw[Be p no r1 r2 hs hs,ahs d f.1]
noncomputable def o8(x:aw):Prop:=x.length<1000
theorem aeP{x:aw}(h:x∈fx):o8 x:=by
 have:∀x∈fx,x.length<1000:=by decide
 exact this x h
theorem R2(w:bz sc p B){i:Nat}(hi:i∈B.ay):o8 (nn B.ag i).sp/\o8 (nn B.ag i).nm:=by
 have hs:∀x,x=aJ\/x=cY->o8 x:=by
  rintro x (rfl | rfl)
  .exact(by decide:aJ.length<1000)
  .exact(by decide:cY.length<1000)
 have hb:o8 fm:=(by decide:fm.length<1000);rcases w.st with⟨_,e⟩ | ⟨_,r,e,aZ⟩
 .rw[e]at hi;cases hi
 .rw[e]at hi;rcases gW.mp hi with hi | hi
  .unfold cR at hi;split at hi
   .next s0=>
    rcases d_.mp hi with rfl | hi
    .rw[w.ey.1,w.ey.2];exact⟨hs _ (bB rfl),hs _ (bB rfl)⟩
    .rw[dx.mp hi,(w.bQ s0).1,(w.bQ s0).2];exact⟨hs _ (bB rfl),hb⟩
   .rw[dx.mp hi,w.ey.1,w.ey.2];exact⟨hs _ (bB rfl),hs _ (bB rfl)⟩
  .obtain⟨h1,aD⟩:=aZ i hi;exact⟨hs _ h1,aeP aD⟩
noncomputable def fo(l:List bk)(i:Nat):aw:=(nn l i).sp++[32]++(nn l i).nm
noncomputable def Ou(l:List bk):V->V
 | .I i=>.S (fo l i.toNat)
 | _=>.N
theorem OH{h:H}{a b:aw}(h1:o8 a)(aD:o8 b):i6 .A h (.S a) (.S [32])=ae (.S (a++[32]),h)/\i6 .A h (.S (a++[32])) (.S b)=ae (.S (a++[32]++b),h):=by
 have g1:a.length<aK:=fg h1 (aN ab);have g2:b.length<aK:=fg aD (aN ab)
 have g3:(a++[32]).length<aK:=by
  rw[ba];have:a.length<1000:=h1;exact fg (show a.length+[32].length<1002 by rw[dS];lia) (aN rfl)
 constructor
 .show(if a.length<aK/\[32].length<aK then _ else _)=_;rw[if_pos ⟨g1,aN rfl⟩]
 .show(if (a++[32]).length<aK/\b.length<aK then _ else _)=_;rw[if_pos ⟨g3,g2⟩]
theorem ad2(I:dB sc n m af R B L ln)(w:bz sc p B){fr:bJ}(f0:fr[0]?=ae (ae (.R 7)))(f2:fr[2]?=ae (ae (.R 8)))(f8:8<fr.length):
 aS ao (aA ao k) (.J 8 (.F .A (.F .A (.I (.B (.L 2) 3) (.L 8)) (.C (.S [32]))) (.I (.B (.L 2) 4) (.L 8))) (.B (.B (.L 0) 11) 1) (.C (.B aB))) fr (ai af (R.map (C B L ln)))=ae (.R (R.length+33),ai af (R.map (C B L ln)++[.L (B.ay.map λi=>V.S (fo B.ag i))])):=by
 have bi:=I.c.bi
 have b:=I.bd
 have l8:∀x:V,(fr.set 8 (ae x))[8]?=ae (ae x):=λx=>pY f8
 have l2:∀x:V,(fr.set 8 (ae x))[2]?=ae (ae (.R 8)):=λx=>by rw[rk (by decide)];exact f2
 have e1:B.ay.map (λi=>V.S (fo B.ag i))=(((B.ay.map aV).filter λ_=>aB).map (Ou B.ag)):=by
  rw[Kd.mpr λ_ _=>rfl,pU];rfl
 rw[e1,<-cB (f:=C B L ln)]
 refine Ba (h1:=ai af (R.map (C B L ln))) (λ_=>aB) (Ou B.ag) (n:=20) ?_ ?_ (λx hx=>⟨.B aB,aj,ab⟩) ?_ ?_
 .apply aW
  .apply aW
   .exact ah f0
   .exact ab
   .exact ab
  .exact ab
  .exact ab
 .show ae (O.L af.ay)=_;rw[bi.ay]
 .intro x hx _;obtain⟨i,hi,rfl⟩:=ig.mp hx;obtain⟨h1,aD⟩:=R2 w hi;have il:=(w.mem i hi).2.1;obtain⟨j1,j2⟩:=OH (h:=ai af (R.map (C B L ln))) h1 aD;have d4:af.bY[i]?=ae (.S (nn B.ag i).sp):=by rw[bi.bY];exact gT il
  have cT:af.names[i]?=ae (.S (nn B.ag i).nm):=by rw[bi.names];exact gT il
  have a1:gc af.bY (i:Int)=ae (.S (nn B.ag i).sp):=bc b.bY.g d4;have a2:gc af.names (i:Int)=ae (.S (nn B.ag i).nm):=bc b.names.g cT;show _=ae (V.S (fo B.ag i),_);apply fv
  .apply fv
   .apply aH
    .apply aW
     .exact ah (l2 _)
     .exact ab
     .exact ab
    .exact ah (l8 _)
    .exact bX (h:=ai af (R.map (C B L ln))) (n:=10) ab a1
   .exact aj
   .exact j1
  .apply aH
   .apply aW
    .exact ah (l2 _)
    .exact ab
    .exact ab
   .exact ah (l8 _)
   .exact bX (h:=ai af (R.map (C B L ln))) (n:=11) ab a2
  .exact j2
 .rw[cB];exact fO I.b7.ay (fg I.aU (aN rfl))
noncomputable def fY(l:List bk):V->V
 | .I i=>if i=-1 then .S eS else .S (nn l i.toNat).aL
 | _=>.N
theorem ad3(I:dB sc n m af R B L ln)(w:bz sc p B){E:List O}(hE:∀(a:Nat)(o:O),(R.map (C B L ln))[a]?=ae o->E[a]?=ae o){fr:bJ}(f0:fr[0]?=ae (ae (.R 7)))(f2:fr[2]?=ae (ae (.R 8)))(f8:8<fr.length):
 aS ao (aA ao (k+1)) (.J 8 (.R (.A .E (.L 8) (.C (.I (-1)))) (.C (.S eS)) (.P (.M (.L 2) 30 (.C (.L 8) (.C (.C (.S [110])) .N))))) (.B (.B (.L 0) 12) 1) (.C (.B aB))) fr (ai af E)=ae (.R (E.length+33),ai af (E++[.L ((dM B.bq).map (fY B.ag))])):=by
 have bi:=I.c.bi
 have b:=I.bd
 have l8:∀x:V,(fr.set 8 (ae x))[8]?=ae (ae x):=λx=>pY f8
 have l2:∀x:V,(fr.set 8 (ae x))[2]?=ae (ae (.R 8)):=λx=>by rw[rk (by decide)];exact f2
 have e1:(dM B.bq).map (fY B.ag)=(((dM B.bq).filter λ_=>aB).map (fY B.ag)):=by
  rw[Kd.mpr λ_ _=>rfl]
 rw[e1]
 refine Ba (h1:=ai af E) (λ_=>aB) (fY B.ag) (n:=22) ?_ ?_ (λx hx=>⟨.B aB,aj,ab⟩) ?_ ?_
 .apply aW
  .apply aW
   .exact ah f0
   .exact ab
   .exact ab
  .exact ab
  .exact ab
 .show ae (O.L af.bW)=_;rw[bi.bW]
 .intro x hx _;rcases Po hx with rfl | ⟨g,hg,i,hi,rfl⟩
  .show _=ae (V.S eS,_);apply oq
   .apply aI
    .exact ah (l8 _)
    .exact aj
    .exact pl
   .exact bB ⟨tt,aj⟩
  .obtain⟨h1,aD,h3,q,_,h4⟩:=w.jY g hg i hi
   have il:i<B.ag.length:=by
    apply o1;intro h;rw[lr (by lia)]at h1;cases h1
   have bn:gy af (R.map (C B L ln)) i (cg q):=EJ bi (w.gz i h1).2.1 il aD h3 h4
   have bn2:gy af E i (cg q):=by
    obtain⟨s,t,a,d,d4,cT,fN⟩:=bn;exact⟨s,t,a,d,d4,hE _ _ cT,hE _ _ fN⟩
   have c1:=Sk (h:=0) (k:=k) b bn2;have ni:(i:Int)≠-1:=by lia
   have ev:fY B.ag (aV i)=.S (cg q):=by
    show(if (i:Int)=-1 then V.S eS else .S (nn B.ag (i:Int).toNat).aL)=_;rw[if_neg ni,o3,h4]
   rw[ev];apply oq
   .apply aI
    .exact ah (l8 _)
    .exact aj
    .exact iO ni
   .refine bE ⟨fq,?_⟩;apply dn
    .apply b5
     .exact ah (l2 _)
     .exact ab
     .exact ab
     .exact ab
     .apply ar
      .exact ah (l8 _)
      .exact ar aj aO
     .exact c1
    .exact ab
 .exact fO I.b7.bW (fg I.aU (aN ab))
end
end
section
section
variable{sc p k n m t:Nat}{af:br}{R:List aY}{B L:bw}{ln:Nat->Nat}{nm:aw}{s:Bool}
noncomputable def ll:O:=.L [.S eS]
theorem Xd{cl:Nat->List V->H->Option (V×H)}{E:List O}{acc gl:List V}{a g:Nat}{f0 f1 f2 f3 f4 f7 f8:Option V}(ha:E[a]?=ae (.L acc))(hg:E[g]?=ae (.L gl))(w1:acc.length+1<aK)(w2:gl.length<aK):
 b3 ao cl (dr (bj uu 4)) [f0,f1,f2,f3,f4,ae (.R (a+33)),ae (.R (g+33)),f7,f8] (ai af E)=ae (.N,[f0,f1,f2,f3,f4,ae (.R (E.length+2+33)),ae (.R (g+33)),f7,f8],ai af (E++[ll]++[.L (acc++[.S eS])]++[.L (acc++[.S eS]++gl)])):=by
 have c1:i6 .A (ai af (E++[ll])) (.R (a+33)) (.R (E.length+33))=_:=xQ (bD (bl ha)) (bD bS) (Td w1) (aN (n:=1) (m:=aK) ab)
 have w3:(acc++[V.S eS]).length<aK:=by rw[ba];exact w1
 have bf:i6 .A (ai af (E++[ll]++[.L (acc++[.S eS])])) (.R ((E++[ll]).length+33)) (.R (g+33))=_:=xQ (bD bS) (bD (bl (bl hg))) w3 w2
 have e:E.length+2=(E++[ll]++[O.L (acc++[.S eS])]).length:=by rw[ba,ba];rfl
 rw[e]
 apply aq
 .apply bM;apply fv
  .apply fv
   .exact ah ab
   .exact eW (ar aj aO) (aN ab)
   .exact c1
  .exact ah ab
  .exact bf
 .exact aF
theorem NS{cl:Nat->List V->H->Option (V×H)}{n:Nat}{xs0:List V}{f0 f1 f2 f3 f4 f7 f8:Option V}:(gp:List (Nat×List V))->(E:List O)->(acc:List V)->(a:Nat)->(f6:Option V)->E[a]?=ae (.L acc)->(∀x∈gp,E[x.1]?=ae (.L x.2))->E[n]?=ae (.L xs0)->acc.length+(gp.flatMap λx=>V.S eS::x.2).length+1<aK->
 ∃X a' f6',gY ao cl 6 (dr (bj uu 4)) (λh=>decide (h[n+33]?=ae (.L xs0))) (gp.map λx=>b4 x.1) [f0,f1,f2,f3,f4,ae (.R (a+33)),f6,f7,f8] (ai af E)=ae (.N,[f0,f1,f2,f3,f4,ae (.R (a'+33)),f6',f7,f8],ai af (E++X))/\(E++X)[a']?=ae (.L (acc++gp.flatMap λx=>V.S eS::x.2))
 | [],E,acc,a,f6,ha,_,aU,_=>⟨[],a,f6,by rw[iJ];exact ou (decide_eq_true (bD aU)),by rw[iJ];rw[ha];show _=ae (O.L (acc++[]));rw[iJ]⟩
 | (g,gl)::gp,E,acc,a,f6,ha,hg,aU,w=>by
  have hl:((g,gl)::gp).flatMap (λx=>V.S eS::x.2)=(V.S eS::gl)++gp.flatMap λx=>V.S eS::x.2:=rfl;rw[hl,ba,fH]at w;have r:=Xd (af:=af) (cl:=cl) (f0:=f0) (f1:=f1) (f2:=f2) (f3:=f3) (f4:=f4) (f7:=f7) (f8:=f8) ha (hg _ (fa ..)) (by lia) (by show gl.length<aK;lia);have ge:∀(i:Nat)(o:O),E[i]?=ae o->(E++[ll]++[.L (acc++[.S eS])]++[.L (acc++[.S eS]++gl)])[i]?=ae o:=λi o q=>bl (bl (bl q))
  have gn:(E++[ll]++[.L (acc++[.S eS])]++[O.L (acc++[.S eS]++gl)])[E.length+2]?=ae (.L (acc++[.S eS]++gl)):=by
   have e:E.length+2=(E++[ll]++[O.L (acc++[.S eS])]).length:=by rw[ba,ba];rfl
   rw[e];exact bS
  obtain⟨X,a',f6',r2,cT⟩:=NS (cl:=cl) (n:=n) (xs0:=xs0) (f0:=f0) (f1:=f1) (f2:=f2) (f3:=f3) (f4:=f4) (f7:=f7) (f8:=f8) gp _ _ (E.length+2) (ae (b4 g)) gn (λx hx=>ge _ _ (hg x (eV _ hx))) (ge _ _ aU) (by
   rw[ba,ba,dS];lia)
  refine⟨[ll]++[.L (acc++[.S eS])]++[.L (acc++[.S eS]++gl)]++X,a',f6',?_,?_⟩
  .have eE:E++([ll]++[O.L (acc++[.S eS])]++[O.L (acc++[.S eS]++gl)]++X)=E++[ll]++[.L (acc++[.S eS])]++[.L (acc++[.S eS]++gl)]++X:=by simp only[cG]
   rw[eE];exact jz (decide_eq_true (bD aU)) r r2
  .have eE:E++([ll]++[O.L (acc++[.S eS])]++[O.L (acc++[.S eS]++gl)]++X)=E++[ll]++[.L (acc++[.S eS])]++[.L (acc++[.S eS]++gl)]++X:=by simp only[cG]
   rw[eE,cT,hl];congr 2;simp only[cG,xp,p6]
theorem Oj{R:List aY}{c:aY->O}{f:List Nat->List V}{G:List (List Nat)}(hc:∀j,c (.G j)=.L (f ((G[j]?).getD []))):(ga:List Nat)->(gt:List (List Nat))->(off:Nat)->ga.length=gt.length->(∀(j a:Nat),ga[j]?=ae a->R[a]?=ae (.G (off+j)))->(∀j,G[off+j]?=gt[j]?)->
 ∃gp:List (Nat×List V),(gp.map λx=>b4 x.1)=ga.map b4/\(gp.flatMap λx=>V.S eS::x.2)=gt.flatMap (λg=>V.S eS::f g)/\∀x∈gp,(R.map c)[x.1]?=ae (.L x.2)
 | [],[],_,_,_,_=>⟨[],ab,ab,nofun⟩
 | [],_::_,_,h,_,_=>by cases h
 | _::_,[],_,h,_,_=>by cases h
 | a::ga,g::gt,off,h,aZ,hG=>by
  obtain⟨gp,e1,e2,e3⟩:=Oj hc ga gt (off+1) (DZ h) (λj a hj=>by rw[show off+1+j=off+(j+1) by lia];exact aZ (j+1) a hj) (λj=>by rw[show off+1+j=off+(j+1) by lia];exact hG (j+1));refine⟨(a,f g)::gp,by rw[fI,fI,e1],?_,?_⟩
  .rw[xo,xo,e2]
  .intro x hx;rcases d_.mp hx with rfl | hx
   .have h1:=aZ 0 a rfl;have aD:=hG 0;rw[c2 h1,hc,aD];rfl
   .exact e3 x hx
noncomputable def oC(l:List bk)(bP:List Nat)(gt:List (List Nat)):List aw:=bP.map (λi=>(nn l i).aL)++gt.flatMap λg=>eS::g.map λi=>(nn l i).aL
theorem FU{l:List bk}:(g:List Nat)->(g.map aV).map (fY l)=(g.map λi=>(nn l i).aL).map V.S
 | []=>rfl
 | i::g=>by
  rw[fI,fI,FU g,fI,fI];congr 1
theorem O6{l:List bk}{bP:List Nat}{gt:List (List Nat)}:(dM (bP::gt)).map (fY l)=(oC l bP gt).map V.S:=by
 unfold dM oC;rw[cK,cK,FU];congr 1;induction gt with
 | nil=>rfl
 | cons g gt ih=>
  rw[xo,xo,cK,cK,ih,fI,fI,FU];rfl
theorem NR{l:List bk}{bP:List Nat}{gt:List (List Nat)}:bP.map (dT l)++gt.flatMap (λg=>V.S eS::g.map (dT l))=(oC l bP gt).map V.S:=by
 unfold oC;rw[cK,pU];congr 1;induction gt with
 | nil=>rfl
 | cons g gt ih=>
  rw[xo,xo,cK,ih,fI,pU];rfl
theorem O7(w:bz sc p B){bP:List Nat}{gt:List (List Nat)}:∀x∈oC B.ag bP gt,cM x:=by
 intro x hx;rcases gW.mp hx with hx | hx
 .obtain⟨i,_,rfl⟩:=ig.mp hx;exact(w.ok i).1
 .obtain⟨g,_,hx⟩:=Ts.mp hx;rcases d_.mp hx with rfl | hx
  .exact dD ab
  .obtain⟨i,_,rfl⟩:=ig.mp hx;exact(w.ok i).1
noncomputable def HN(E:List O):V->V
 | .R n=>match E[n-33]? with
  | some (.L (.S a::.S b::_))=>.S (a++[32]++b)
  | _=>.N
 | _=>.N
theorem ad4{E:List O}{st:List Nat}{f g:Nat->aw}{cl:Nat->List V->H->Option (V×H)}{fr:bJ}(f1:fr[1]?=ae (ae (.R 32)))(f8:8<fr.length)(lp:gZ E f g ln st)(hs:∀i∈st,o8 (f i)/\o8 (g i))(qp:(ai af E)[af.cw]?=ae (.L (st.map (b_ ln))))(w:st.length<90000):
 aS ao cl (.J 8 (.F .A (.F .A (.I (.L 8) (.C (.I 0))) (.C (.S [32]))) (.I (.L 8) (.C (.I 1)))) (.I (.L 1) (.C (.S fT))) (.C (.B aB))) fr (ai af E)=ae (.R (E.length+33),ai af (E++[.L (st.map λi=>V.S (f i++[32]++g i))])):=by
 have l8:∀x:V,(fr.set 8 (ae x))[8]?=ae (ae x):=λx=>pY f8
 have fk:∀i∈st,HN E (b_ ln i)=.S (f i++[32]++g i):=by
  intro i hi;obtain⟨_,_,x,y,z,q⟩:=lp i hi;show(match E[ln i+33-33]? with | some (.L (.S a::.S b::_))=>V.S (a++[32]++b) | _=>.N)=_;rw[mD,q]
 have e1:st.map (λi=>V.S (f i++[32]++g i))=(((st.map (b_ ln)).filter λ_=>aB).map (HN E)):=by
  rw[Kd.mpr λ_ _=>rfl,pU];exact(j7 λi hi=>(fk i hi)).symm
 rw[e1]
 refine Ba (h1:=ai af E) (λ_=>aB) (HN E) (n:=af.cw) ?_ qp (λx hx=>⟨.B aB,aj,ab⟩) ?_ ?_
 .apply aH
  .exact ah f1
  .exact aj
  .exact dJ ab ab
 .intro x hx _;obtain⟨i,hi,rfl⟩:=ig.mp hx;obtain⟨_,_,x,y,z,q⟩:=lp i hi;obtain⟨h1,aD⟩:=hs i hi;obtain⟨j1,j2⟩:=OH (h:=ai af E) h1 aD;have lw:[V.S (f i),.S (g i),x,y,z].length<aK:=aN (n:=5) (m:=aK) rfl;rw[fk i hi];apply fv
  .apply fv
   .apply aH
    .exact ah (l8 _)
    .exact aj
    .exact Bn (i:=0) (bD q) lw ab
   .exact aj
   .exact j1
  .apply aH
   .exact ah (l8 _)
   .exact aj
   .exact Bn (i:=1) (bD q) lw ab
  .exact j2
 .rw[cB];exact fg w (aN rfl)
end
end
section
section
variable{sc p k n m t:Nat}{af:br}{R:List aY}{B L S:bw}{ln:Nat->Nat}{nm:aw}{s:Bool}
theorem FZ{h:H}{n:Nat}{a b c d:V}{a' b' c' d':PyData}(h1:cF h n a=ae a')(aD:cF h n b=ae b')(h3:cF h n c=ae c')(h4:cF h n d=ae d'):[a,b,c,d].mapM (cF h n)=ae [a',b',c',d']:=by
 rw[gg,gg,gg,gg,h1,aD,h3,h4];rfl
noncomputable def xe(S:bw):PyData:=.tuple [sp S.bH,.list (S.cf.map sp),.bool S.done,.bool S.cy]
theorem afL(w:bz sc p S):gX 64 (xe S):=by
 refine m7 (n:=63) λd hd=>?_;rcases d_.mp hd with rfl | hd
 .exact hY (lk w.bZ)
 rcases d_.mp hd with rfl | hd
 .refine rS (n:=62) λd hd=>?_;obtain⟨x,hx,rfl⟩:=ig.mp hd;exact hY (lk (w.ms x hx))
 have fb:∀b:Bool,gX 63 (.bool b):=λb=>⟨by unfold lN;rfl,by unfold nV;exact gJ _⟩
 rcases d_.mp hd with rfl | hd
 .exact fb _
 .rw[dx.mp hd];exact fb _
theorem ad5(I:dB sc n m af R S S ln)(w:bz sc p S){X:List O}{f2 f3 f4 f5 f6 f8:Option V}:∃Y fr',b3 ao (aA ao k) (fe (fe (fe (fe (fe (fe uu)))))) [ae (.R 7),ae (.R 32),f2,f3,f4,f5,f6,az,f8] (ai af (R.map (C S S ln)++X))=ae (.R (.B aB),fr',ai af (R.map (C S S ln)++X++Y)):=by
 have bi:=I.c.bi;have li:=I.c.li;have am:=(pF (L:=S) (ln:=ln) bi).app (X:=X) |>.app (X:=[.T [.S af.bH,.R af.am,.B af.done,.B af.cy]]) |>.app (X:=[.T [.S af.eU,.R af.lm,.B af.jd,.B af.g7]]) |>.get
 have lm:=(BH I.c).app (X:=X) |>.app (X:=[.T [.S af.bH,.R af.am,.B af.done,.B af.cy]]) |>.app (X:=[.T [.S af.eU,.R af.lm,.B af.jd,.B af.g7]]) |>.get
 have e:cD .E (ai af (R.map (C S S ln)++X++[.T [.S af.bH,.R af.am,.B af.done,.B af.cy]]++[.T [.S af.eU,.R af.lm,.B af.jd,.B af.g7]])) (.R ((R.map (C S S ln)++X).length+33)) (.R ((R.map (C S S ln)++X++[O.T [.S af.bH,.R af.am,.B af.done,.B af.cy]]).length+33))=ae true:=by
  refine Ff (d:=xe S) (bD (bl bS)) nofun ?_ ?_ (afL w)
  .rw[show xe S=.tuple [sp af.bH,.list (S.cf.map sp),.bool af.done,.bool af.cy] by unfold xe;rw[bi.bH,bi.done,bi.cy]];refine mi (bD (bl bS)) ?_;exact FZ (iW _) (iC am (mh _)) (wA _) (wA _)
  .rw[show xe S=.tuple [sp af.eU,.list (S.cf.map sp),.bool af.jd,.bool af.g7] by unfold xe;rw[li.bH,li.done,li.cy]];refine mi (bD bS) ?_;exact FZ (iW _) (iC lm (mh _)) (wA _) (wA _)
 refine⟨[.T [.S af.bH,.R af.am,.B af.done,.B af.cy]],[ae (.R 7),ae (.R 32),f2,f3,f4,f5,f6,ae (.R ((R.map (C S S ln)++X).length+33)),f8],?_⟩;apply aq
 .exact bM (dj (ar (aW (ah ab) ab ab) (ar (aW (ah ab) ab ab) (ar (aW (ah ab) ab ab) (ar (aW (ah ab) ab ab) aO)))) (aN ab))
 .apply ji;apply cQ;apply dG
  .apply aI
   .exact ah ab
   .exact dj (ar (aH (ah ab) aj (dJ ab ab)) (ar (aH (ah ab) aj (dJ ab ab)) (ar (aH (ah ab) aj (dJ ab ab)) (ar (aH (ah ab) aj (dJ ab ab)) aO)))) (aN ab)
   .exact e
  .exact el (h:=ai af (R.map (C S S ln)++X++[.T [.S af.bH,.R af.am,.B af.done,.B af.cy]]))
  .rfl
theorem aaf(I:dB sc n m af R S S ln)(w:bz sc p S):∃X,aA ao (k+2) 783 [.R 7,.R 32] (ai af (R.map (C S S ln)))=ae (.B aB,ai af (R.map (C S S ln)++X)):=by
 have bi:=I.c.bi;have li:=I.c.li;have b:=I.bd;have aU:=I.aU;obtain⟨ga,qg,wg,ug⟩:=li.bq
 obtain⟨bP,gt,eg⟩:∃bP gt,S.bq=bP::gt:=by
  cases h:S.bq with
  | nil=>exact absurd h w.dA
  | cons x r=>exact⟨x,r,ab⟩
 have gl:ga.length=gt.length:=by
  rw[eg,fH]at wg;lia
 obtain⟨gp,iU,jg,HI⟩:=Oj (R:=R) (c:=C S S ln) (f:=λg=>g.map (dT S.ag)) (G:=S.bq) (λj=>rfl) ga gt 1 gl (λj a hj=>by rw[xx];exact ug j a hj) (λj=>by rw[eg,xx];rfl);have eg0:af.bP=bP.map (dT S.ag):=by rw[li.bP,eg];rfl
 have b8:(oC S.ag bP gt).length<=400:=by
  have h1:=congrArg ud (O6 (l:=S.ag) (bP:=bP) (gt:=gt));rw[cB,cB]at h1;have aD:=I.b7.bW;rw[eg]at aD;lia
 have tot:(bP.map (dT S.ag)).length+(gp.flatMap λx=>V.S eS::x.2).length<=400:=by
  have h1:=congrArg ud (NR (l:=S.ag) (bP:=bP) (gt:=gt));rw[ba,cB (f:=V.S)]at h1;rw[jg];lia
 have hE1:∀(a:Nat)(o:O),(R.map (C S S ln))[a]?=ae o->(R.map (C S S ln)++[O.L (S.ay.map λi=>V.S (fo S.ag i))])[a]?=ae o:=λa o q=>bl q;have s1:=ad2 (k:=k+1) I w (fr:=[ae (.R 7),ae (.R 32),ae (.R 8),az,az,az,az,az,az]) rfl rfl (aN rfl);have s2:=ad3 (k:=k) I w hE1 (fr:=[ae (.R 7),ae (.R 32),ae (.R 8),ae (.R (R.length+33)),az,az,az,az,az]) rfl rfl (aN rfl);have l1:(R.map (C S S ln)++[O.L (S.ay.map λi=>V.S (fo S.ag i))]).length=R.length+1:=by rw[ba,cB];rfl
 rw[l1]at s2;have l2:(R.map (C S S ln)++[O.L (S.ay.map λi=>V.S (fo S.ag i))]++[O.L ((dM S.bq).map (fY S.ag))]).length=R.length+2:=by rw[ba,l1];rfl
 have s3:cH ao (aA ao (k+1)) (bj uu 3) [ae (.R 7),ae (.R 32),ae (.R 8),ae (.R (R.length+33)),ae (.R (R.length+1+33)),az,az,az,az] (ai af (R.map (C S S ln)++[.L (S.ay.map λi=>V.S (fo S.ag i))]++[.L ((dM S.bq).map (fY S.ag))]))=ae (.N,[ae (.R 7),ae (.R 32),ae (.R 8),ae (.R (R.length+33)),ae (.R (R.length+1+33)),ae (.R (R.length+2+33)),az,az,az],ai af (R.map (C S S ln)++[.L (S.ay.map λi=>V.S (fo S.ag i))]++[.L ((dM S.bq).map (fY S.ag))]++[.L (bP.map (dT S.ag))])):=by
  rw[<- l2,<-eg0];have a0:gc af.da 0=ae (.R 28):=bc (i:=0) b.da.g (by rw[qg];rfl);apply ix
  .apply bM;apply x7
   .exact aH (aH (ah ab) aj (dJ ab ab)) aj (bX ab a0)
   .exact bB ab
   .exact b.bP.g
  .exact ab
  .exact ab
 have l3:(R.map (C S S ln)++[O.L (S.ay.map λi=>V.S (fo S.ag i))]++[O.L ((dM S.bq).map (fY S.ag))]++[O.L (bP.map (dT S.ag))]).length=R.length+3:=by rw[ba,l2];rfl
 have gpE:∀x∈gp,(R.map (C S S ln)++[O.L (S.ay.map λi=>V.S (fo S.ag i))]++[O.L ((dM S.bq).map (fY S.ag))]++[O.L (bP.map (dT S.ag))]++[O.L (gp.map λx=>b4 x.1)])[x.1]?=ae (.L x.2):=λx hx=>bl (bl (bl (bl (HI x hx))))
 have gE:(R.map (C S S ln)++[O.L (S.ay.map λi=>V.S (fo S.ag i))]++[O.L ((dM S.bq).map (fY S.ag))]++[O.L (bP.map (dT S.ag))]++[O.L (gp.map λx=>b4 x.1)])[R.length+2]?=ae (.L (bP.map (dT S.ag))):=by
  refine bl ?_;rw[<- l2];exact bS
 have gN:(R.map (C S S ln)++[O.L (S.ay.map λi=>V.S (fo S.ag i))]++[O.L ((dM S.bq).map (fY S.ag))]++[O.L (bP.map (dT S.ag))]++[O.L (gp.map λx=>b4 x.1)])[R.length+3]?=ae (.L (gp.map λx=>b4 x.1)):=by
  rw[<- l3];exact bS
 obtain⟨X,a',f6',r4,nq⟩:=NS (af:=af) (cl:=aA ao (k+1)) (f0:=ae (.R 7)) (f1:=ae (.R 32)) (f2:=ae (.R 8)) (f3:=ae (.R (R.length+33))) (f4:=ae (.R (R.length+1+33))) (f7:=az) (f8:=az) gp _ (bP.map (dT S.ag)) (R.length+2) az gE gpE gN (fO (show _<=401 by lia) (aN rfl))
 have s4:cH ao (aA ao (k+1)) (bj uu 4) [ae (.R 7),ae (.R 32),ae (.R 8),ae (.R (R.length+33)),ae (.R (R.length+1+33)),ae (.R (R.length+2+33)),az,az,az] (ai af (R.map (C S S ln)++[.L (S.ay.map λi=>V.S (fo S.ag i))]++[.L ((dM S.bq).map (fY S.ag))]++[.L (bP.map (dT S.ag))]))=ae (.N,[ae (.R 7),ae (.R 32),ae (.R 8),ae (.R (R.length+33)),ae (.R (R.length+1+33)),ae (.R (a'+33)),f6',az,az],ai af (R.map (C S S ln)++[.L (S.ay.map λi=>V.S (fo S.ag i))]++[.L ((dM S.bq).map (fY S.ag))]++[.L (bP.map (dT S.ag))]++[.L (gp.map λx=>b4 x.1)]++X)):=by
  have c:k8 af.da (.I 1) .N=ae (gp.map λx=>b4 x.1):=by
   rw[show(1:Int)=((1:Nat):Int)from rfl,E0 b.da.g (by rw[qg,fH];lia),qg,iU];rfl
  rw[<- l3]at r4;apply q3
  .exact kd (aH (ah ab) aj (dJ ab ab)) aj aj (lF ab c)
  .exact bD bS
  .exact r4
 have hlen:S.ay.length<90000:=by have:=I.b7.ay;lia
 have gx:∀(a:Nat)(o:O),(R.map (C S S ln))[a]?=ae o->(R.map (C S S ln)++[O.L (S.ay.map λi=>V.S (fo S.ag i))]++[O.L ((dM S.bq).map (fY S.ag))]++[O.L (bP.map (dT S.ag))]++[O.L (gp.map λx=>b4 x.1)]++X)[a]?=ae o:=λa o q=>bl (bl (bl (bl (bl q))));have lp:=qN I.c w (s:=S.ay) λi hi=>hi
 have s5:=ad4 (af:=af) (E:=R.map (C S S ln)++[O.L (S.ay.map λi=>V.S (fo S.ag i))]++[O.L ((dM S.bq).map (fY S.ag))]++[O.L (bP.map (dT S.ag))]++[O.L (gp.map λx=>b4 x.1)]++X) (cl:=aA ao (k+1)) (fr:=[ae (.R 7),ae (.R 32),ae (.R 8),ae (.R (R.length+33)),ae (.R (R.length+1+33)),ae (.R (a'+33)),f6',az,az]) (f:=S.f) (g:=S.g) (ln:=ln) (st:=S.ay) ab (aN ab) (λi hi=>by
  obtain⟨aE,cP,x,y,z,q⟩:=lp i hi
  exact⟨aE,cP,x,y,z,gx _ _ q⟩) (λi hi=>R2 w hi) (by
  obtain⟨j,q,u⟩:=li.cw;rw[q];exact bD (gx _ _ (c2 u))) hlen
 have okh:∀x∈S.ay.map (fo S.ag),cM x:=by
  intro x hx;obtain⟨i,hi,rfl⟩:=ig.mp hx;obtain⟨_,_,hl⟩:=w.mem i hi;obtain⟨_,_,aE,cP⟩:=w.gz i hl;exact HB (HB aE (dD rfl)) cP
 have eheld:S.ay.map (λi=>V.S (fo S.ag i))=(S.ay.map (fo S.ag)).map V.S:=by rw[pU];rfl
 have qh:(R.map (C S S ln)++[O.L (S.ay.map λi=>V.S (fo S.ag i))]++[O.L ((dM S.bq).map (fY S.ag))]++[O.L (bP.map (dT S.ag))]++[O.L (gp.map λx=>b4 x.1)]++X)[R.length]?=ae (.L ((S.ay.map (fo S.ag)).map V.S)):=by
  refine bl (bl (bl (bl ?_)));rw[<- eheld,<-cB (f:=C S S ln)];exact bS
 have ql:(R.map (C S S ln)++[O.L (S.ay.map λi=>V.S (fo S.ag i))]++[O.L ((dM S.bq).map (fY S.ag))]++[O.L (bP.map (dT S.ag))]++[O.L (gp.map λx=>b4 x.1)]++X)[R.length+1]?=ae (.L ((oC S.ag bP gt).map V.S)):=by
  refine bl (bl (bl ?_));rw[<- l1,<-O6,eg];exact bS
 have qd:(R.map (C S S ln)++[O.L (S.ay.map λi=>V.S (fo S.ag i))]++[O.L ((dM S.bq).map (fY S.ag))]++[O.L (bP.map (dT S.ag))]++[O.L (gp.map λx=>b4 x.1)]++X)[a']?=ae (.L ((oC S.ag bP gt).map V.S)):=by
  rw[nq,jg,NR]
 obtain⟨Y,fr',iY⟩:=ad5 (k:=k+1) I w (X:=[O.L (S.ay.map λi=>V.S (fo S.ag i))]++[O.L ((dM S.bq).map (fY S.ag))]++[O.L (bP.map (dT S.ag))]++[O.L (gp.map λx=>b4 x.1)]++X) (f2:=ae (.R 8)) (f3:=ae (.R (R.length+33))) (f4:=ae (.R (R.length+1+33))) (f5:=ae (.R (a'+33))) (f6:=f6') (f8:=az);refine⟨[O.L (S.ay.map λi=>V.S (fo S.ag i))]++[O.L ((dM S.bq).map (fY S.ag))]++[O.L (bP.map (dT S.ag))]++[O.L (gp.map λx=>b4 x.1)]++X++Y,?_⟩;have eA:R.map (C S S ln)++([O.L (S.ay.map λi=>V.S (fo S.ag i))]++[O.L ((dM S.bq).map (fY S.ag))]++[O.L (bP.map (dT S.ag))]++[O.L (gp.map λx=>b4 x.1)]++X)=R.map (C S S ln)++[O.L (S.ay.map λi=>V.S (fo S.ag i))]++[O.L ((dM S.bq).map (fY S.ag))]++[O.L (bP.map (dT S.ag))]++[O.L (gp.map λx=>b4 x.1)]++X:=by simp only[cG]
 have eB:R.map (C S S ln)++([O.L (S.ay.map λi=>V.S (fo S.ag i))]++[O.L ((dM S.bq).map (fY S.ag))]++[O.L (bP.map (dT S.ag))]++[O.L (gp.map λx=>b4 x.1)]++X++Y)=R.map (C S S ln)++([O.L (S.ay.map λi=>V.S (fo S.ag i))]++[O.L ((dM S.bq).map (fY S.ag))]++[O.L (bP.map (dT S.ag))]++[O.L (gp.map λx=>b4 x.1)]++X)++Y:=by simp only[cG]
 rw[eB];rw[<- eA]at s4 s5 qh ql qd;apply cJ rfl rfl;apply aq
 .exact bM (aW (ah ab) ab ab)
 apply aq
 .exact bM s1
 apply aq
 .exact bM s2
 apply aq s3;apply aq s4;apply aq
 .apply aM
  .apply jy
   .apply dG
    .apply aI
     .exact ah ab
     .exact s5
     .refine yu (t:=aB) (x9 (l:=S.ay.map (fo S.ag)) (r:=S.ay.map (fo S.ag)) (bD (bl qh)) ?_ okh okh |>.trans (congrArg ae (decide_eq_true rfl)));rw[<- eheld];exact bD bS
    .exact el (h:=ai af (R.map (C S S ln)++([O.L (S.ay.map λi=>V.S (fo S.ag i))]++[O.L ((dM S.bq).map (fY S.ag))]++[O.L (bP.map (dT S.ag))]++[O.L (gp.map λx=>b4 x.1)]++X)))
    .rfl
   .refine bE ⟨fq,?_⟩;apply aI
    .exact ah ab
    .exact ah ab
    .exact yu (t:=aB) ((x9 (l:=oC S.ag bP gt) (r:=oC S.ag bP gt) (bD ql) (bD qd) (O7 w) (O7 w)).trans (congrArg ae (decide_eq_true ab)))
  .exact bE ⟨fq,aF⟩
 exact iY
end
end
section
theorem NV{P:gM}{cl:Nat->List V->H->Option (V×H)}{i n:Nat}{a c:ck}{fr:bJ}{h h1 aD:H}{xs vs:List V}(p:aS P cl c fr h=ae (.R n,h1))(g:h1[n]?=ae (.L xs))(q:l7 (λy h=>aS P cl a (fr.set i (ae y)) h) (λ_ h=>ae (aB,h)) (λh=>decide (h[n]?=ae (.L xs))) xs [] h1=ae (vs,aD)):
 aS P cl (.J i a c (.C (.B aB))) fr h=ae (.R aD.length,aD++[.L vs]):=
 c_ p (show(h1[n]?.bind λo=>o.kf.bind _)=_ from dF g (c_ (k:=λys h=>ae (gF h (.L ys))) q ab))
section
variable{sc p k n m t:Nat}{af:br}{R:List aY}{B L S:bw}{ln:Nat->Nat}{nm:aw}{s:Bool}
theorem ES{elt:V->H->Option (V×H)}{cond:V->H->Option (Bool×H)}{same:H->Bool}{D:List O}{n:Nat}{F:Nat->PyData}:(xs:List Nat)->(acc:List V)->(ds:List PyData)->(Z:List O)->(∀Z,same (ai af (D++Z))=aB)->(∀x h,cond x h=ae (aB,h))->(∀j∈xs,∀Z,∃v X,elt (aV j) (ai af (D++Z))=ae (v,ai af (D++(Z++X)))/\cF (ai af (D++(Z++X))) n v=ae (F j))->acc.length+xs.length<aK->acc.mapM (cF (ai af (D++Z)) n)=ae ds->
 ∃vs X,l7 elt cond same (xs.map aV) acc (ai af (D++Z))=ae (vs,ai af (D++(Z++X)))/\vs.mapM (cF (ai af (D++(Z++X))) n)=ae (ds++xs.map F)
 | [],acc,ds,Z,hs,_,_,_,ha=>by
  refine⟨acc,[],?_,?_⟩
  .rw[iJ];show(if same (ai af (D++Z))then ae (acc,ai af (D++Z))else az)=_;rw[hs];rfl
  .rw[iJ,D0,iJ];exact ha
 | j::xs,acc,ds,Z,hs,hc,he,w,ha=>by
  obtain⟨v,X,e,r⟩:=he j (fa ..) Z;rw[fH]at w
  have ext:∀{l:List V}{es:List PyData}{Z X:List O},l.mapM (cF (ai af (D++Z)) n)=ae es->l.mapM (cF (ai af (D++(Z++X))) n)=ae es:=by
   intro l es Z X h;refine rY l (λx _ d q=>?_) h;rw[<- cG];exact nr (h:=ai af (D++Z)) n x q
  have ha2:(acc++[v]).mapM (cF (ai af (D++(Z++X))) n)=ae (ds++[F j]):=by
   rw[Kk,ext ha,gg,r];rfl
  obtain⟨vs,X',e',r'⟩:=ES xs (acc++[v]) (ds++[F j]) (Z++X) hs hc (λi hi=>he i (eV _ hi)) (by rw[ba,dS];lia) ha2;refine⟨vs,X++X',?_,?_⟩
  .show(if same (ai af (D++Z))=aB then B (cond (aV j) (ai af (D++Z))) (λb h=>bif b then B (elt (aV j) h) λy h=>if acc.length<aK then l7 elt cond same (xs.map aV) (acc++[y]) h else az else l7 elt cond same (xs.map aV) acc h)else az)=_;refine eG (hs Z) (c_ (hc _ _) ?_);refine c_ (k:=λy h=>if acc.length<aK then l7 elt cond same (xs.map aV) (acc++[y]) h else az) e ?_;rw[if_pos (by lia),e',cG]
  .rw[<- cG Z,r',cG];rfl
theorem plain_text(c:cj sc af R S S ln)(b:aQ m af){j:Nat}(hj:j<S.ag.length)(kj:(nn S.ag j).aT=gQ)(Z:List O):aA ao (k+1) 778 [.R 8,.I j] (ai af (R.map (C S S ln)++Z))=ae (.S (nn S.ag j).dd,ai af (R.map (C S S ln)++Z)):=by
 have d4:af.bo[j]?=ae (.S gQ):=by rw[c.bi.bo,gT hj,kj]
 have cT:af.dH[j]?=ae (.S (nn S.ag j).dd):=by rw[c.bi.dH];exact gT hj
 exact cJ ab ab (b2 (aM (aI (aH (aW (ah ab) ab ab) (ah ab) (bX ab (bc (bb.g (aQ.bo b)) d4))) aj dk) (cN (b2 (cQ (aH (aW (ah ab) ab ab) (ah ab) (bX ab (bc (bb.g (aQ.dH b)) cT)))) b1))) b1)
theorem Rb(c:cj sc af R S S ln)(w:bz sc p S)(b:aQ m af)(lim:∀q,(nn S.ag q).ch.length<1000){h:Nat}(hh:∀j,(nn S.ag j).lw=aB->eY S.ag j<=h->∀Z,∃v X,aA ao (k+h+1) 778 [.R 8,.I j] (ai af (R.map (C S S ln)++Z))=ae (v,ai af (R.map (C S S ln)++(Z++X)))/\cF (ai af (R.map (C S S ln)++(Z++X))) (2*h+3) v=ae (iv S.ag h j))
 {i q:Nat} (hi:(nn S.ag i).lw=aB) (aZ:eY S.ag i<=h+1) (hq:i<=q) {cq:Nat} (rc:R[cq]?=ae (.C q)) {fr:bJ} (f0:fr[0]?=ae (ae (.R 8))) (f4:4<fr.length) {a:ck} (Z:List O) (ha:aS ao (aA ao (k+h+1)) a fr (ai af (R.map (C S S ln)++Z))=ae (.R (cq+33),ai af (R.map (C S S ln)++Z))):
 ∃vs X,aS ao (aA ao (k+h+1)) (.J 4 (.D (.C (.A 778)) (.C (.L 0) (.C (.L 4) .N))) a (.C (.B aB))) fr (ai af (R.map (C S S ln)++Z))=ae (.R ((R.map (C S S ln)++(Z++X)).length+33),ai af (R.map (C S S ln)++(Z++X)++[.L vs]))/\vs.mapM (cF (ai af (R.map (C S S ln)++(Z++X))) (2*h+3))=ae ((nn S.ag q).ch.map (k9 S.ag (iv S.ag h))):=by
 have l4:∀x:V,(fr.set 4 (ae x))[4]?=ae (ae x):=λx=>pY f4
 have l0:∀x:V,(fr.set 4 (ae x))[0]?=ae (ae (.R 8)):=λx=>by rw[rk (by decide)];exact f0
 have g:(R.map (C S S ln))[cq]?=ae (.L ((nn S.ag q).ch.map aV)):=c2 rc
 obtain⟨vs,X,e,r⟩:=ES (af:=af) (D:=R.map (C S S ln)) (n:=2*h+3) (F:=k9 S.ag (iv S.ag h)) (elt:=λy h'=>aS ao (aA ao (k+h+1)) (.D (.C (.A 778)) (.C (.L 0) (.C (.L 4) .N))) (fr.set 4 (ae y)) h') (cond:=λ_ h=>ae (aB,h)) (same:=λh=>decide (h[cq+33]?=ae (.L ((nn S.ag q).ch.map aV)))) (nn S.ag q).ch [] [] Z (λZ=>decide_eq_true (bD (bl g))) (λ_ _=>rfl) (λj hj Z=>by
  obtain⟨h1,aD,h3⟩:=w.ch q j hj;have args:∀E,iw ao (aA ao (k+h+1)) (.C (.L 0) (.C (.L 4) .N)) (fr.set 4 (ae (aV j))) (ai af E)=ae ([.R 8,.I j],ai af E):=λE=>ar (ah (l0 _)) (ar (ah (l4 _)) aO);by_cases hlj:(nn S.ag j).lw=aB
  .have:=Dn hi (show i<j by lia);obtain⟨v,X,e1,e2⟩:=hh j hlj (by lia) Z;refine⟨v,X,cu aj (args _) e1,?_⟩;unfold k9;rw[if_pos hlj];exact e2
  .have kt:=h3.resolve_left hlj;refine⟨.S (nn S.ag j).dd,[],?_,?_⟩
   .rw[iJ];exact cu aj (args _) (plain_text (k:=k+h) c b aD kt Z)
   .unfold k9;rw[if_neg hlj];exact iW _) (by rw[nT,AA];exact fg (lim q) (aN rfl)) rfl
 refine⟨vs,X,?_,r⟩
 exact NV ha (bD (bl g)) e
theorem Rc(c:cj sc af R S S ln)(w:bz sc p S)(b:aQ m af)(lim:∀q,(nn S.ag q).ch.length<1000):(h i:Nat)->(nn S.ag i).lw=aB->eY S.ag i<=h->(Z:List O)->∃v X,aA ao (k+h+1) 778 [.R 8,.I i] (ai af (R.map (C S S ln)++Z))=ae (v,ai af (R.map (C S S ln)++(Z++X)))/\cF (ai af (R.map (C S S ln)++(Z++X))) (2*h+3) v=ae (iv S.ag h i)
 | 0,i,hl,aZ,Z=>by have:=Dp hl;lia
 | h+1,i,hl,aZ,Z=>by
  have hh:=Rc c w b lim h;have bi:=c.bi;obtain⟨a7,hi0,_,_⟩:=w.gz i hl
  have il:i<S.ag.length:=by
   apply o1;intro aD;rw[lr (by lia)]at hl;cases hl
  have d4:af.bo[i]?=ae (.S fi):=by rw[bi.bo,gT il,a7]
  have cT:af.bY[i]?=ae (.S (nn S.ag i).sp):=by rw[bi.bY];exact gT il
  have fN:af.names[i]?=ae (.S (nn S.ag i).nm):=by rw[bi.names];exact gT il
  obtain⟨aa,nq,at4⟩:=bi.dI i hi0 il;obtain⟨cc,HO,rc⟩:=bi.child i hi0 il;have co:=bi.dU i
  have fin:∀(ins:V)(insD:PyData)(Z:List O),cF (ai af (R.map (C S S ln)++Z)) (2*h+4) ins=ae insD->∃v X fr',b3 ao (aA ao (k+h+1)) (fe (fe (fe AX))) [ae (.R 8),ae (.I i),ae ins,az,az] (ai af (R.map (C S S ln)++Z))=ae (.R v,fr',ai af (R.map (C S S ln)++(Z++X)))/\cF (ai af (R.map (C S S ln)++(Z++X))) (2*h+5) v=ae (.list [sp (nn S.ag i).sp,sp (nn S.ag i).nm,rJ (nn S.ag i).aL,.list ((nn S.ag i).ch.map (k9 S.ag (iv S.ag h))),insD]):=by
   intro ins insD Z hins;obtain⟨vs,X,e,r⟩:=Rb (k:=k) c w b lim hh hl aZ (cC i) rc (fr:=[ae (.R 8),ae (.I i),ae ins,az,az]) rfl (aN rfl) (a:=.I (.B (.L 0) 8) (.L 1)) Z (aH (aW (ah rfl) rfl rfl) (ah rfl) (bX rfl (bc (bb.g (aQ.dz b)) HO)));refine⟨.R ((R.map (C S S ln)++(Z++X)++[O.L vs]).length+33),X++[.L vs]++[.L [.S (nn S.ag i).sp,.S (nn S.ag i).nm,.R (aa+33),.R ((R.map (C S S ln)++(Z++X)).length+33),ins]],[ae (.R 8),ae (.I i),ae ins,ae (.R ((R.map (C S S ln)++(Z++X)).length+33)),az],?_,?_⟩
   .have eE:R.map (C S S ln)++(Z++(X++[O.L vs]++[O.L [.S (nn S.ag i).sp,.S (nn S.ag i).nm,.R (aa+33),.R ((R.map (C S S ln)++(Z++X)).length+33),ins]]))=R.map (C S S ln)++(Z++X)++[.L vs]++[.L [.S (nn S.ag i).sp,.S (nn S.ag i).nm,.R (aa+33),.R ((R.map (C S S ln)++(Z++X)).length+33),ins]]:=by simp only[cG]
    rw[eE];apply aq
    .exact bM e
    .exact b2 (cQ (eW (ar (aH (aW (ah ab) ab ab) (ah ab) (bX ab (bc (bb.g (aQ.bY b)) cT))) (ar (aH (aW (ah ab) ab ab) (ah ab) (bX ab (bc (bb.g (aQ.names b)) fN))) (ar (aH (aW (ah ab) ab ab) (ah ab) (bX ab (bc (bb.g (aQ.dI b)) nq))) (ar (ah ab) (ar (ah ab) aO))))) (aN ab))) b1
   .have eE:R.map (C S S ln)++(Z++(X++[O.L vs]++[O.L [.S (nn S.ag i).sp,.S (nn S.ag i).nm,.R (aa+33),.R ((R.map (C S S ln)++(Z++X)).length+33),ins]]))=R.map (C S S ln)++(Z++X)++[.L vs]++[.L [.S (nn S.ag i).sp,.S (nn S.ag i).nm,.R (aa+33),.R ((R.map (C S S ln)++(Z++X)).length+33),ins]]:=by simp only[cG]
    rw[eE];refine iC (bD bS) (yp (iW _) (iW _) ?_ ?_ ?_)
    .have h1:=Dm (af:=af) (B:=S) (L:=S) (ln:=ln) (n:=2*h+1) at4;have aD:=nr (X:=(Z++X)++[O.L vs]++[O.L [.S (nn S.ag i).sp,.S (nn S.ag i).nm,.R (aa+33),.R ((R.map (C S S ln)++(Z++X)).length+33),ins]]) _ _ h1
     rw[show ai af (R.map (C S S ln))++((Z++X)++[O.L vs]++[O.L [.S (nn S.ag i).sp,.S (nn S.ag i).nm,.R (aa+33),.R ((R.map (C S S ln)++(Z++X)).length+33),ins]])=ai af (R.map (C S S ln)++(Z++X)++[O.L vs]++[O.L [.S (nn S.ag i).sp,.S (nn S.ag i).nm,.R (aa+33),.R ((R.map (C S S ln)++(Z++X)).length+33),ins]]) by
      show ai af (R.map (C S S ln)++_)=_;simp only[cG]]at aD
     exact aD
    .refine iC (n:=2*h+3) (bD (bl bS)) ?_;refine rY vs (λx _ d q=>?_) r;exact nr (h:=ai af (R.map (C S S ln)++(Z++X)++[O.L vs])) _ _ (nr (h:=ai af (R.map (C S S ln)++(Z++X))) _ _ q)
    .have aD:=nr (h:=ai af (R.map (C S S ln)++Z)) (X:=X++[O.L vs]++[O.L [.S (nn S.ag i).sp,.S (nn S.ag i).nm,.R (aa+33),.R ((R.map (C S S ln)++(Z++X)).length+33),ins]]) _ _ hins
     rw[show ai af (R.map (C S S ln)++Z)++(X++[O.L vs]++[O.L [.S (nn S.ag i).sp,.S (nn S.ag i).nm,.R (aa+33),.R ((R.map (C S S ln)++(Z++X)).length+33),ins]])=ai af (R.map (C S S ln)++(Z++X)++[O.L vs]++[O.L [.S (nn S.ag i).sp,.S (nn S.ag i).nm,.R (aa+33),.R ((R.map (C S S ln)++(Z++X)).length+33),ins]]) by
      show ai af (R.map (C S S ln)++Z++_)=_;simp only[cG]]at aD
     exact aD
  have s0:cH ao (aA ao (k+h+1)) (bj AX 0) [ae (.R 8),ae (.I i),az,az,az] (ai af (R.map (C S S ln)++Z))=ae (.N,[ae (.R 8),ae (.I i),az,az,az],ai af (R.map (C S S ln)++Z)):=aM (aI (aH (aW (ah rfl) rfl rfl) (ah rfl) (bX rfl (bc (bb.g (aQ.bo b)) d4))) aj (bL (of_decide_eq_true (id (dy aB))))) (a_ aF);have s1:cH ao (aA ao (k+h+1)) (bj AX 1) [ae (.R 8),ae (.I i),az,az,az] (ai af (R.map (C S S ln)++Z))=ae (.N,[ae (.R 8),ae (.I i),ae .N,az,az],ai af (R.map (C S S ln)++Z)):=bM aj;unfold iv;cases hT:bp S.ag i with
  | false=>
   rw[hT,if_neg nP]at co;have ci:cD .I (ai af (R.map (C S S ln)++Z)) (.I i) (.R 16)=ae false:=Bv rfl (by rw[co];rfl);obtain⟨v,X,fr',e,r⟩:=fin .N .none Z zZ;refine⟨v,X,cJ rfl rfl (aq s0 (aq s1 (aq (fr1:=[ae (.R 8),ae (.I i),ae .N,az,az]) ?_ e))),r⟩;apply aM
   .exact aI (ah ab) (aW (ah ab) ab ab) ci
   .exact bE ⟨fq,aF⟩
  | true=>
   rw[hT,if_pos rfl]at co;have ci:cD .I (ai af (R.map (C S S ln)++Z)) (.I i) (.R 16)=ae true:=Bv rfl (by rw[co];rfl);obtain⟨t1,_⟩:=w.oW i hT;obtain⟨bf,wz,rc2⟩:=bi.child (i+1) (xy _) t1;have a6:gc af.dz ((i+1:Nat):Int)=ae (.R (bf+33)):=bc b.dz.g wz;obtain⟨vs,X,e,r⟩:=Rb (k:=k) c w b lim hh hl aZ (fA i) rc2 (fr:=[ae (.R 8),ae (.I i),ae .N,az,az]) rfl (aN rfl) (a:=.I (.B (.L 0) 8) (.I (.B (.L 0) 9) (.L 1))) Z (aH (aW (ah rfl) rfl rfl) (aH (aW (ah rfl) rfl rfl) (ah rfl) (Oe rfl co)) (bX rfl a6))
   obtain⟨v,X2,fr',e2,r2⟩:=fin (.R ((R.map (C S S ln)++(Z++X)).length+33)) (.list ((nn S.ag (i+1)).ch.map (k9 S.ag (iv S.ag h)))) (Z++X++[.L vs]) (by
    rw[<- cG];refine iC (n:=2*h+3) (bD bS) ?_;exact rY vs (λx _ d q=>nr (h:=ai af (R.map (C S S ln)++(Z++X))) _ _ q) r)
   have eE:R.map (C S S ln)++(Z++X++[O.L vs])=R.map (C S S ln)++(Z++X)++[.L vs]:=by simp only[cG]
   have eF:R.map (C S S ln)++(Z++X++[O.L vs]++X2)=R.map (C S S ln)++(Z++(X++[O.L vs]++X2)):=by simp only[cG]
   rw[eE,eF]at e2;rw[eF]at r2;refine⟨v,X++[O.L vs]++X2,cJ rfl rfl (aq s0 (aq s1 (aq (fr1:=[ae (.R 8),ae (.I i),ae (.R ((R.map (C S S ln)++(Z++X)).length+33)),az,az]) (h1:=ai af (R.map (C S S ln)++(Z++X)++[O.L vs])) ?_ e2))),r2⟩
   .apply aM
    .exact aI (ah ab) (aW (ah ab) ab ab) ci
    .refine bB ⟨tt,?_⟩;exact aq (bM e) aF
end
end
section
section
variable{sc p k n m t:Nat}{af:br}{R:List aY}{D:List O}{B L S:bw}{ln:Nat->Nat}{nm:aw}{s:Bool}
noncomputable def nI:aw:=Ul
noncomputable def pR:aw:=Um
noncomputable def x8:aw:=Un
noncomputable def nJ:List aw:=[aR,KH,fj,aR,jN,cY,[98],i7,rx,aR,xD,j8,iN,[112],ky,j9,gK,jO,xC,AK,AI,AH,AL,AJ,AF,AG]
noncomputable def m6:List aw:=[aR,KH,aR,fj,aR,jN,[98],xD,aR,i7,xC,[112]]
theorem afl:nH (nI++pR)=nJ:=by decide +kernel
theorem afn:(nI++pR).length<1000/\(nO ⟨(nI++pR).toArray⟩ ((nI++pR).length+1)).length<1000:=by decide +kernel
theorem Xu:nH x8=m6:=by decide +kernel
theorem Xv:x8.length<1000/\(nO ⟨x8.toArray⟩ (x8.length+1)).length<1000:=by decide +kernel
theorem afi:∀x∈nJ,x∈fx:=by decide +kernel
theorem Xt:∀x∈m6,x∈fx:=by decide +kernel
def T0(D:List O):List O:=D++[.L (nJ.map .S)]
def kU(D:List O):List O:=T0 D++[.L (m6.map .S)]
noncomputable def o_(D:List O):List O:=kU D++[.T [.S d6,.S [120]]]
noncomputable def n8(D:List O):List O:=o_ D++[.T [.S d6,.S [32]]]
noncomputable def mO(D:List O):List O:=n8 D++[.T [.S d6,.S [0]]]
noncomputable def kW(D:List O):List O:=mO D++[.T [.S mV,.S [99]]]
noncomputable def qP(D:List O):List V:=[b4 (kU D).length,b4 (o_ D).length,b4 (n8 D).length,b4 (mO D).length]
noncomputable def ka(D:List O):List O:=kW D++[.L (qP D)]
noncomputable def kF(D:List O):List O:=ka D++[.T [.S oa,.S aJ,.N,.N,.B aP]]
noncomputable def lS(D:List O):List O:=kF D++[.T [.S dY]]
noncomputable def te(D:List O):List V:=[b4 (ka D).length,b4 (kF D).length]
noncomputable def i5(D:List O):List O:=lS D++[.L (te D)]
noncomputable def ew(D:List O):List O:=i5 D++[.L (qP D++te D)]
noncomputable def oV(D:List O)(a b:Int):bJ:=[ae (.I a),ae (.I b),ae (b4 D.length),ae (b4 (T0 D).length),ae (b4 (i5 D).length),ae (.I (a % 44))]
theorem JK{F:dm}{fr':bJ}{h':H}{a b:Int}(q:b3 ao (aA ao k) (fe (fe (fe (fe (fe (fe pg)))))) (oV D a b) (ai af (ew D))=ae (F,fr',h')):b3 ao (aA ao k) pg [ae (.I a),ae (.I b),az,az,az,az] (ai af D)=ae (F,fr',h'):=by
 have s0:cH ao (aA ao k) (bj pg 0) [ae (.I a),ae (.I b),az,az,az,az] (ai af D)=ae (.N,[ae (.I a),ae (.I b),ae (.S nI),az,az,az],ai af D):=bM aj
 have cb:i6 .A (ai af D) (.S nI) (.S pR)=ae (.S (nI++pR),ai af D):=by
  show(if nI.length<aK/\pR.length<aK then ae (V.S (nI++pR),ai af D)else az)=_;rw[if_pos ⟨aN rfl,aN rfl⟩]
 have s1:cH ao (aA ao k) (bj pg 1) [ae (.I a),ae (.I b),ae (.S nI),az,az,az] (ai af D)=ae (.N,[ae (.I a),ae (.I b),ae (b4 D.length),az,az,az],ai af (T0 D)):=by
  apply bM;refine uC (h1:=ai af D) (t:=nI++pR) ?_ afn afl;apply fv
  .exact ah ab
  .exact aj
  .exact cb
 have s2:cH ao (aA ao k) (bj pg 2) [ae (.I a),ae (.I b),ae (b4 D.length),az,az,az] (ai af (T0 D))=ae (.N,[ae (.I a),ae (.I b),ae (b4 D.length),ae (b4 (T0 D).length),az,az],ai af (kU D)):=by
  apply bM;exact uC (t:=x8) aj Xv Xu
 have s3:cH ao (aA ao k) (bj pg 3) [ae (.I a),ae (.I b),ae (b4 D.length),ae (b4 (T0 D).length),az,az] (ai af (kU D))=ae (.N,[ae (.I a),ae (.I b),ae (b4 D.length),ae (b4 (T0 D).length),ae (b4 (kW D).length),az],ai af (ka D)):=by
  apply ix
  .exact bM (eW (ar (dj (ar aj (ar aj aO)) (aN ab)) (ar (dj (ar aj (ar aj aO)) (aN ab)) (ar (dj (ar aj (ar aj aO)) (aN ab)) (ar (dj (ar aj (ar aj aO)) (aN ab)) aO)))) (aN ab))
  .exact ab
  .exact ab
 have gA:(i5 D)[(kW D).length]?=ae (.L (qP D)):=by
  unfold i5 lS kF ka;exact bl (bl (bl bS))
 have dK:i6 .A (ai af (i5 D)) (b4 (kW D).length) (b4 (lS D).length)=_:=xQ (xs:=qP D) (ys:=te D) (bD gA) (bD (by unfold i5;exact bS)) (aN (n:=4) (m:=aK) ab) (aN (n:=2) (m:=aK) ab)
 have s4:cH ao (aA ao k) (bj pg 4) [ae (.I a),ae (.I b),ae (b4 D.length),ae (b4 (T0 D).length),ae (b4 (kW D).length),az] (ai af (ka D))=ae (.N,[ae (.I a),ae (.I b),ae (b4 D.length),ae (b4 (T0 D).length),ae (b4 (i5 D).length),az],ai af (ew D)):=by
  apply bM;apply fv
  .exact ah ab
  .exact eW (ar (dj (ar aj (ar aj (ar aj (ar aj (ar aj aO))))) (aN ab)) (ar (dj (ar aj aO) (aN ab)) aO)) (aN ab)
  .exact dK
 have s5:cH ao (aA ao k) (bj pg 5) [ae (.I a),ae (.I b),ae (b4 D.length),ae (b4 (T0 D).length),ae (b4 (i5 D).length),az] (ai af (ew D))=ae (.N,oV D a b,ai af (ew D)):=bM (fv (ah ab) aj ab);exact aq s0 (aq s1 (aq s2 (aq s3 (aq s4 (aq s5 q)))))
end
end
section
section
variable{sc p k n m t:Nat}{af:br}{R:List aY}{D:List O}{B L S:bw}{ln:Nat->Nat}{nm:aw}{s:Bool}
theorem oz{X:List O}{o:O}(e:R.length=D.length)(h:D.length<=t)(q:(D++X)[t]?=ae o):(R++X.map aY.I)[t]?=ae (.I o):=by
 rw[gI h]at q;rw[gI (e▸h),e,jo,q];rfl
theorem qB{h:H}{a b:Int}{t:Bool}(w:decide (a<b)=t):cD .L h (.I a) (.I b)=ae t:=congrArg ae w
theorem ht{X:List O}{o:O}(h:D <+: X):D <+: X++[o]:=h.trans (kv ..)
theorem acw:D <+: ew D:=by
 unfold ew i5 lS kF ka kW mO n8 o_ kU T0;exact ht (ht (ht (ht (ht (ht (ht (ht (ht (ht (ht (iI _)))))))))))
theorem zV{X:List O}(h:D <+: X):D.length<=X.length:=h.length_le
theorem JM{a b:Int}{v:V}{E:List O}{tk:Tk}(pe:D <+: E)(hv:v=.R (t+33))(r:aA ao (k+1) 679 [.I a,.I b] (ai af D)=ae (v,ai af E))(f:∀R:List aY,R.length=D.length->∀X,E=D++X->fK (R++X.map aY.I) t tk):∃X t,aA ao (k+1) 679 [.I a,.I b] (ai af D)=ae (.R (t+33),ai af (D++X))/\∀R:List aY,R.length=D.length->fK (R++X.map aY.I) t tk:=by
 obtain⟨X,rfl⟩:=pe;exact⟨X,t,hv▸r,λR hR=>f R hR X rfl⟩
theorem uD{P:gM}{cl:Nat->List V->H->Option (V×H)}{fr:bJ}{cs:hJ}{vs:List V}{E E':List O}(p:iw P cl cs fr (ai af E)=ae (vs,ai af E'))(w:vs.length<aK):aS P cl (.T cs) fr (ai af E)=ae (.R (E'.length+33),ai af (E'++[.T vs])):=dj p w
theorem afK(hp:p<13)(a:Int):∃X t tk,aA ao (k+1) 679 [.I a,.I p] (ai af D)=ae (.R (t+33),ai af (D++X))/\(∀R:List aY,R.length=D.length->fK (R++X.map aY.I) t tk)/\qq p tk:=by
 obtain⟨i,hi,ei⟩:∃i:Nat,i<44/\a % 44=(i:Int):=⟨(a % 44).toNat,by lia,by lia⟩
 have gS:(ew D)[D.length]?=ae (.L (nJ.map .S)):=by
  unfold ew i5 lS kF ka kW mO n8 o_ kU T0;exact bl (bl (bl (bl (bl (bl (bl (bl (bl (bl bS)))))))))
 have gE:(ew D)[(T0 D).length]?=ae (.L (m6.map .S)):=by
  unfold ew i5 lS kF ka kW mO n8 o_ kU;exact bl (bl (bl (bl (bl (bl (bl (bl (bl bS))))))))
 have gO:(ew D)[(i5 D).length]?=ae (.L (qP D++te D)):=by
  unfold ew;exact bS
 have pf:=acw (D:=D);by_cases h1:i<26
 .have hst:nJ[i]?=ae (nJ[i]'h1):=jn h1;have hnm:=afi _ (rq h1);have c1:cD .L (ai af (ew D)) (.I (i:Int)) (.I 26)=ae true:=qB (decide_eq_true (by lia));have a1:gc (nJ.map V.S) (i:Int)=ae (.S (nJ[i]'h1)):=bc (aN (n:=26) (m:=aK) rfl) (by rw[jo,hst];rfl);have cS:Ab (p:Int)=ae (cg p):=acD p (by lia);have st:aS ao (aA ao k) (.str (.L 1)) (oV D a p) (ai af (ew D))=ae (.S (cg p),ai af (ew D)):=Xl (ah rfl) cS
  have r:∃b:Bool,aA ao (k+1) 679 [.I a,.I p] (ai af D)=ae (.R ((ew D++[O.T [.S iM,.S (cg p)]]++[O.T [b4 (ew D).length]]).length+33),ai af (ew D++[.T [.S iM,.S (cg p)]]++[.T [b4 (ew D).length]]++[.T [.S bO,.S (nJ[i]'h1),b4 (ew D++[O.T [.S iM,.S (cg p)]]).length,.B b]])):=by
   have cm:∀E,aS ao (aA ao k) (.A .E (.F .M (.F .F (.L 0) (.C (.I 44))) (.C (.I 2))) (.C (.I 1))) (oV D a p) (ai af E)=ae (.B (decide (a / 44 % 2=1)),ai af E):=λE=>aI (fv (fv (ah rfl) aj rfl) aj rfl) aj rfl;refine⟨decide (a / 44 % 2=1),cJ rfl rfl (JK (fr':=oV D a p) ?_)⟩;unfold oV at st cm⊢;rw[ei]at st cm⊢;apply ji;apply aM
   .exact aI (ah ab) aj c1
   .refine bB ⟨tt,?_⟩;apply ji;apply cQ;apply uD
    .apply ar
     .exact aj
     apply ar
     .exact aH (ah ab) (ah ab) (bX (bD gS) a1)
     apply ar
     .apply uD
      .apply ar
       .apply uD
        .apply ar
         .exact aj
         apply ar
         .exact st
         exact aO
        .exact aN (n:=2) (m:=aK) ab
       exact aO
      .exact aN (n:=1) (m:=aK) ab
     apply ar
     .exact cm _
     exact aO
    .exact aN (n:=4) (m:=aK) ab
  obtain⟨b,r⟩:=r;have pe:D <+: ew D++[O.T [.S iM,.S (cg p)]]++[.T [b4 (ew D).length]]++[.T [.S bO,.S (nJ[i]'h1),b4 (ew D++[O.T [.S iM,.S (cg p)]]).length,.B b]]:=ht (ht (ht pf));obtain⟨X,t,r2,f⟩:=JM (tk:=.S (nJ[i]'h1) (cg p) b) pe rfl r (λR hR X hX=>⟨hnm,⟨Ra p,HK (by lia)⟩,(ew D++[O.T [.S iM,.S (cg p)]]).length,(ew D).length,oz hR (zV (ht (ht pf))) (by rw[<- hX];exact bS),oz hR (zV (ht pf)) (by rw[<- hX];exact bl bS),oz hR (zV pf) (by rw[<- hX];exact bl (bl bS))⟩);exact⟨X,t,_,r2,f,rfl⟩
 .have c1:cD .L (ai af (ew D)) (.I (i:Int)) (.I 26)=ae false:=qB (decide_eq_false (by lia));by_cases aD:i<38
  .have h3:i-26<12:=by lia
   have hen:m6[i-26]?=ae (m6[i-26]'h3):=jn h3;have hnm:=Xt _ (rq h3);have bf:cD .L (ai af (ew D)) (.I (i:Int)) (.I 38)=ae true:=qB (decide_eq_true (by lia))
   have a1:gc (m6.map V.S) ((i:Int)-26)=ae (.S (m6[i-26]'h3)):=by
    rw[show(i:Int)-26=((i-26:Nat):Int) by lia];exact bc (aN (n:=12) (m:=aK) rfl) (by rw[jo,hen];rfl)
   have r:aA ao (k+1) 679 [.I a,.I p] (ai af D)=ae (.R ((ew D++[O.T []]).length+33),ai af (ew D++[.T []]++[.T [.S dc,.S (m6[i-26]'h3),b4 (ew D).length,.B aP]])):=by
    refine cJ rfl rfl (JK (fr':=oV D a p) ?_);unfold oV;rw[ei];apply aq
    .apply aM
     .exact aI (ah ab) aj c1
     .exact bE ⟨fq,aF⟩
    apply ji;apply aM
    .exact aI (ah ab) aj bf
    .refine bB ⟨tt,?_⟩;apply ji;apply cQ;apply uD
     .apply ar
      .exact aj
      apply ar
      .apply aH
       .exact ah ab
       .exact fv (ah ab) aj ab
       .exact bX (bD gE) a1
      apply ar
      .apply uD
       .exact aO
       .exact aN (n:=0) (m:=aK) ab
      apply ar
      .exact aj
      exact aO
     .exact aN (n:=4) (m:=aK) ab
   have pe:D <+: ew D++[O.T []]++[.T [.S dc,.S (m6[i-26]'h3),b4 (ew D).length,.B aP]]:=ht (ht pf);obtain⟨X,t,r2,f⟩:=JM (tk:=.E (m6[i-26]'h3)) pe rfl r (λR hR X hX=>⟨hnm,_,oz hR (zV (ht pf)) (by rw[<- hX];exact bS)⟩);exact⟨X,t,_,r2,f,trivial⟩
  .have bf:cD .L (ai af (ew D)) (.I (i:Int)) (.I 38)=ae false:=qB (decide_eq_false (by lia))
   have run:∀v:V,(qP D++te D)[i-38]?=ae v->aA ao (k+1) 679 [.I a,.I p] (ai af D)=ae (v,ai af (ew D)):=by
    intro v hv
    have a1:gc (qP D++te D) ((i:Int)-38)=ae v:=by
     rw[show(i:Int)-38=((i-38:Nat):Int) by lia];exact bc (aN (n:=6) (m:=aK) rfl) hv
    refine cJ rfl rfl (JK (fr':=oV D a p) ?_);unfold oV;rw[ei];apply aq
    .apply aM
     .exact aI (ah ab) aj c1
     .exact bE ⟨fq,aF⟩
    apply aq
    .apply aM
     .exact aI (ah ab) aj bf
     .exact bE ⟨fq,aF⟩
    apply ji;apply cQ;apply aH
    .exact ah ab
    .exact fv (ah ab) aj ab
    .exact bX (bD gO) a1
   have fin:∀(t:Nat)(tk:Tk),(qP D++te D)[i-38]?=ae (.R (t+33))->D.length<=t->(∀R:List aY,R.length=D.length->∀X,ew D=D++X->fK (R++X.map aY.I) t tk)->qq p tk->∃X t tk,aA ao (k+1) 679 [.I a,.I p] (ai af D)=ae (.R (t+33),ai af (D++X))/\(∀R:List aY,R.length=D.length->fK (R++X.map aY.I) t tk)/\qq p tk:=by
    intro t tk hv _ f tp;obtain⟨X,t',r2,f2⟩:=JM (t:=t) pf rfl (run _ hv) f;exact⟨X,t',tk,r2,f2,tp⟩
   have l1:D.length<=(kU D).length:=by unfold kU T0;exact zV (ht (ht (iI _)))
   have l2:D.length<=(o_ D).length:=by unfold o_;rw[ba];lia
   have l3:D.length<=(n8 D).length:=by unfold n8;rw[ba];lia
   have l4:D.length<=(mO D).length:=by unfold mO;rw[ba];lia
   have l5:D.length<=(ka D).length:=by unfold ka kW;rw[ba,ba];lia
   have l6:D.length<=(kF D).length:=by unfold kF;rw[ba];lia
   have cs:i-38=0\/i-38=1\/i-38=2\/i-38=3\/i-38=4\/i-38=5:=by lia
   rcases cs with e | e | e | e | e | e
   .refine fin (kU D).length (.C [120]) (by rw[e];rfl) l1 (λR hR X hX=>⟨dD rfl,rfl,oz hR l1 ?_⟩) trivial;rw[<- hX];unfold ew i5 lS kF ka kW mO n8 o_;exact bl (bl (bl (bl (bl (bl (bl (bl bS)))))))
   .refine fin (o_ D).length (.C [32]) (by rw[e];rfl) l2 (λR hR X hX=>⟨dD rfl,rfl,oz hR l2 ?_⟩) trivial;rw[<- hX];unfold ew i5 lS kF ka kW mO n8;exact bl (bl (bl (bl (bl (bl (bl bS))))))
   .refine fin (n8 D).length (.C [0]) (by rw[e];rfl) l3 (λR hR X hX=>⟨dD rfl,rfl,oz hR l3 ?_⟩) trivial;rw[<- hX];unfold ew i5 lS kF ka kW mO;exact bl (bl (bl (bl (bl (bl bS)))))
   .refine fin (mO D).length (.N mV [99] []) (by rw[e];rfl) l4 (λR hR X hX=>⟨bB ⟨rfl,rfl⟩,dD rfl,oz hR l4 ?_⟩) trivial;rw[<- hX];unfold ew i5 lS kF ka kW;exact bl (bl (bl (bl (bl bS))))
   .refine fin (ka D).length (.N oa aJ [.N,.N,.B aP]) (by rw[e];rfl) l5 (λR hR X hX=>⟨bE ⟨rfl,rfl⟩,g8,oz hR l5 ?_⟩) trivial;rw[<- hX];unfold ew i5 lS kF;exact bl (bl (bl bS))
   .refine fin (kF D).length .A (by rw[e];rfl) l6 (λR hR X hX=>oz hR l6 ?_) trivial;rw[<- hX];unfold ew i5 lS;exact bl (bl bS)
end
end
section
section
variable{l:List V}
noncomputable def qG(w c:aw):bJ:=[ae (.R 0),az,az,az,az,az,az,az,ae (.S w),ae (.S c),az,az]
noncomputable def h0(l:List V):H:=[.L l,.T [.S (aJ++32::fm),.S []],.T [.S aJ,.S aR],.T [.S aJ,.S fj],.T [.R 1,.R 2,.R 3]]
noncomputable def mw(l:List V)(sh:Bool):br:={
 dig:=l
 bo:=[.S mW],bY:=[.S []],names:=[.S []],dI:=[.R 17],dH:=[.S []],b0:=[.I (-1)],dz:=[.R 18],dU:=[],d5:=[]
 ay:=[],bW:=[],bH:=Uh,am:=23,f9:=-1,cy:=aB,done:=aP,ctx:=-1,eH:=[],d1:=[],bP:=[],da:=[.R 28],ed:=[],cO:=[],cw:=27,eU:=ec,lm:=30,jd:=aP,g7:=aB,gq:=sh}
noncomputable def rT(w c:aw):bJ:=[ae (.R 0),ae (.R 5),ae (.S uw),ae (.R 7),ae (.R 32),az,az,az,ae (.S w),ae (.S c),az,az]
noncomputable def kP:aw:=aJ++32::fm
noncomputable def Fq:bJ:=[ae (.R 0),az,az,az,az,az,az,az,az,az,az,az]
noncomputable def BL:List Nat->bN->bN
 | [],r=>r
 | i::s,r=>.C (bj fh i) (BL s r)
noncomputable def qz:bN:=BL [1,2,3,4,5,6,7,8] .N
noncomputable def xN:bN:=BL [10,11,12,13,14] .N
theorem acG:b3 ao (aA ao 58) qz (qG kP []) (h0 l)=ae (.N,rT kP [],ai (mw l aP) []):=by kernel_rfl
theorem acH:b3 ao (aA ao 58) qz (qG aJ aR) (h0 l)=ae (.N,rT aJ aR,ai (mw l aB) []):=by kernel_rfl
theorem acI:b3 ao (aA ao 58) qz (qG aJ fj) (h0 l)=ae (.N,rT aJ fj,ai (mw l aP) []):=by kernel_rfl
end
end
section
theorem LA{k:Nat}{a b:V}{h:H}:aA ao (k+1) 560 [a,b] h=aA ao (k+1) 560 [a,b,.T,.S aJ] h:=rfl
section
variable{k m:Nat}{l:List V}{af:br}{D:List O}
theorem Z4(b:aQ m af)(pi:fJ af){n:Nat}(aU:0<n)(hl:n<af.b0.length)(q:af.b0[n]?=ae (.I (-1)))(qc:af.dz[0]?=ae (.R 18))(g:af.d5=[]):
 aA ao (k+2) 373 [.R 8,.I (0:Nat),.I n,.I (-1)] (ai af D)=ae (.N,ai {af with b0:=af.b0.set n (.I (0:Nat)),d5:=af.d5++[aV n]} D):=by
 obtain⟨dq,hll,c1⟩:=K6 (af:=af) (D:=D) (k:=k) b pi (fg aU hl) (aN rfl)
 have e:dq=[]:=by
  cases dq with
  | nil=>rfl
  | cons x r=>exact absurd (hll x (fa ..)) (Km _)
 subst e
 have bf:=Rq (af:=af) (D:=D) (k:=k) b q
 have c3:(n:Int)≠((0:Nat):Int):=by lia
 have c4:(-1:Int)≠n:=by lia
 have c5:cD .I (ai af (D++[O.L (([]:List Nat).map aV)])) (.I n) (.R (D.length+33))=ae false:=by
  apply Oz (l:=([]:List Int)) (bD bS) ab;exact decide_eq_false nofun
 have a0:gc af.dz ((0:Nat):Int)=ae (.R 18):=bc b.dz.g qc
 have qz:af.d5.length<aK:=b.d5.g
 exact cV ab ab (aq (aM (jy (aI (ah ab) (ah ab) (iO c3)) (ng (dG (aI (ah ab) (cu aj (ar (ah ab) (ar (ah ab) aO)) c1) c5) el ab))) (a_ aF)) (aq (aM (dp (aI (ah ab) aj lY) fS) (a_ aF)) (aq (aM (aI (ah ab) (ah ab) (iO c4)) (a_ aF)) (aq (bu (b5 (ah ab) ab ab ab (ar (ah ab) aO) bf)) (aq (bM (gk (aH (aW (ah ab) ab ab) (ah ab) (bX ab a0)) ab qz)) (aq (aM (aI (ah ab) aj lY) (a_ aF)) (aq (bu (NW (aH (aW (ah ab) ab ab) (ah ab) (bX ab a0)) ab (ah ab) (ah ab) ab ⟨ab,qz⟩)) (aq (iD (ah ab) (aW (ah ab) ab ab) (ah ab) (Js ab (bb.g (aQ.b0 b)) hl)) aF))))))))
theorem ZF(b:aQ (m+1) af)(pi:fJ af)(aL:af.b0.length=af.bo.length)(kp:0<af.bo.length)(hs:af.ay=[])(qc:af.dz[0]?=ae (.R 18))(g:af.d5=[]):
 aA ao (k+4) 560 [.R 7,.S aJ] (ai af D)=ae (.I (af.bo.length:Int),ai {hU af fi aJ aJ [] (D.length+1+33) (D.length+2+33)with b0:=af.b0++[.I (0:Nat)],d5:=af.d5++[aV af.bo.length],ay:=af.ay++[aV af.bo.length]} (D++[dh 0,.L [],.L []])):=by
 rw[LA]
 have c1:=zW (af:=af) (D:=D) (k:=k+1) b (bB ⟨hs,ab⟩)
 have bf:=N3 (af:=af) (D:=D++[dh 0]) (k:=k) (m:=m) b aJ aJ (bB ⟨ab,ab⟩) (bE (by decide))
 have c3:=FY bf
 rw[fw (D:=D++[dh 0]),fw,cG,cG]at c3
 have bQ:=b.add fi aJ aJ [] (D.length+1+33) (D.length+1+1+33)
 have c4:=Z4 (af:=hU af fi aJ aJ [] (D.length+1+33) (D.length+1+1+33)) (D:=D++[dh 0,.L [],.L []]) (k:=k+1) bQ pi.add kp (by show af.bo.length<(af.b0++[V.I (-1)]).length;rw[ba,dS];lia) (Ft aL) (yd qc) g
 have e1:(hU af fi aJ aJ [] (D.length+1+33) (D.length+1+1+33)).b0.set af.bo.length (.I (0:Nat))=af.b0++[.I (0:Nat)]:=JF aL
 rw[e1]at c4
 have kZ:bb m ((hU af fi aJ aJ [] (D.length+1+33) (D.length+1+1+33)).d5++[aV af.bo.length]):=(show bb (m+1) af.d5 from b.d5).a
 have c5:=Jy (af:={hU af fi aJ aJ [] (D.length+1+33) (D.length+1+1+33)with b0:=af.b0++[.I (0:Nat)],d5:=af.d5++[aV af.bo.length]}) (D:=D++[dh 0,.L [],.L []]) (k:=k+2) (m:=m) ⟨bQ.bo,bQ.bY,bQ.names,bQ.dI,bQ.dH,b.b0.a,bQ.dz,kZ,bQ.ay,bQ.bW,bQ.eH,bQ.d1,bQ.bP,bQ.da,bQ.ed,bQ.cO,bQ.dU⟩ (aV af.bo.length)
 exact cJ ab ab (aq (t7 (cu aj (ar (ah ab) aO) c1) (bD bS)) (aq (bM (cu aj (ar (ah ab) (ar (ah ab) (ar (ah ab) (ar (ah ab) aO)))) c3)) (aq (bu (b5 (aW (ah ab) ab ab) ab ab ab (ar (ah ab) (ar (ah ab) (ar (ah ab) aO))) c4)) (aq (bu (b5 (aW (ah ab) ab ab) ab ab ab (ar (ah ab) aO) c5)) (b2 (cQ (ah ab)) b1)))))
theorem aav{nm:aw}{at':V}{as:List V}(a:AT D at' as)(n:nm≠aR)(cP:cM nm)(qp:(ai af D)[af.cw]?=ae (.L [])):
 aA ao (k+2) 728 [.R 32,.S aJ,.S nm,at'] (ai af D)=ae (.N,ai {af with cw:=D.length+4+33} (D++[.L as,.L [],.L [.S aJ,.S nm,.R (D.length+33),.R (D.length+1+33),.N],.L [.R (D.length+2+33)],.L [.R (D.length+2+33)]])):=by
 have s1:=PH (af:=af) (k:=k+1) a (bE n) g8 cP
 rw[fw,fw,uK]at s1
 have d4:(ai af (D++[.L as,.L [],.L [.S aJ,.S nm,.R (D.length+33),.R (D.length+1+33),.N]]))[af.cw]?=ae (.L []):=bl (h:=ai af D) qp
 have cT:(ai af (D++[.L as,.L [],.L [.S aJ,.S nm,.R (D.length+33),.R (D.length+1+33),.N]]++[.L [.R (D.length+2+33)]]))[af.cw]?=ae (.L []):=bl (h:=ai af (D++[.L as,.L [],.L [.S aJ,.S nm,.R (D.length+33),.R (D.length+1+33),.N]])) d4
 have l3:(D++[O.L as,.L [],.L [.S aJ,.S nm,.R (D.length+33),.R (D.length+1+33),.N]]).length=D.length+3:=by rw[ba];rfl
 have l4:(D++[O.L as,.L [],.L [.S aJ,.S nm,.R (D.length+33),.R (D.length+1+33),.N]]++[O.L [.R (D.length+2+33)]]).length=D.length+4:=by rw[ba,l3];rfl
 have c4:i6 .A (ai af (D++[.L as,.L [],.L [.S aJ,.S nm,.R (D.length+33),.R (D.length+1+33),.N]]++[.L [.R (D.length+2+33)]])) (.R af.cw) (.R ((D++[O.L as,.L [],.L [.S aJ,.S nm,.R (D.length+33),.R (D.length+1+33),.N]]).length+33))=_:=xQ cT (bD bS) (aN (n:=0) (m:=aK) ab) (aN (n:=1) (m:=aK) ab)
 have r:b3 ao (aA ao (k+1)) (fe xO) [ae (.R 32),ae (.S aJ),ae (.S nm),ae at',ae (.R (D.length+2+33))] (ai af (D++[.L as,.L [],.L [.S aJ,.S nm,.R (D.length+33),.R (D.length+1+33),.N]]))=ae (.N,[ae (.R 32),ae (.S aJ),ae (.S nm),ae at',ae (.R (D.length+2+33))],ai {af with cw:=D.length+4+33} (D++[.L as,.L [],.L [.S aJ,.S nm,.R (D.length+33),.R (D.length+1+33),.N]]++[.L [.R (D.length+2+33)]]++[.L [.R (D.length+2+33)]])):=by
  rw[<- l4];exact aq (aM (aI (gk (aH (ah rfl) aj (dJ rfl rfl)) d4 (aN rfl)) aj rfl) (a_ aF)) (aq (iD (fv (aH (ah rfl) aj (dJ rfl rfl)) (eW (ar (ah rfl) aO) (aN rfl)) c4) (ah rfl) aj (lD rfl (aN rfl))) aF)
 have e:D++[O.L as,.L [],.L [.S aJ,.S nm,.R (D.length+33),.R (D.length+1+33),.N],.L [.R (D.length+2+33)],.L [.R (D.length+2+33)]]=D++[.L as,.L [],.L [.S aJ,.S nm,.R (D.length+33),.R (D.length+1+33),.N]]++[.L [.R (D.length+2+33)]]++[.L [.R (D.length+2+33)]]:=by simp only[cG,xp,p6]
 rw[e]
 exact cV ab ab (aq s1 r)
end
end
section
section
variable{k m:Nat}{l:List V}{af:br}{D:List O}
theorem V4(sh:Bool):aQ 1000 (mw l sh):=⟨aN ab,aN ab,aN ab,aN ab,aN ab,aN ab,aN ab,aN ab,aN ab,aN ab,aN ab,aN ab,aN ab,aN ab,aN ab,aN ab,aN ab⟩
theorem Q_(sh:Bool):fJ (mw l sh):=by
 intro i hi;have hi:i<1:=hi;have e:i=0:=by lia
 subst e;exact bB ab
noncomputable def kN(l:List V)(sh:Bool):br:={mw l sh with
 bo:=[.S mW,.S fi],bY:=[.S [],.S aJ],names:=[.S [],.S aJ],dI:=[.R 17,.R 35],dH:=[.S [],.S []],b0:=[.I (-1),.I 0],dz:=[.R 18,.R 36],d5:=[.I 1]
 ay:=[.I 1],cw:=42}
noncomputable def om(ws:List aw):List O:=[.L (ws.map .S),.T [.I 0,.I (-1)],.L [],.L [],.T [],.L [],.L [],.L [.S aJ,.S aJ,.R 38,.R 39,.N],.L [.R 40],.L [.R 40]]
noncomputable def jA(w c nm:aw):bJ:=[ae (.R 0),ae (.R 5),ae (.S uw),ae (.R 7),ae (.R 32),ae (.S nm),az,az,ae (.S w),ae (.S c),az,az]
noncomputable def Jx(l:List V)(sh:Bool):br:={mw l sh with
 bo:=[.S mW,.S fi],bY:=[.S [],.S aJ],names:=[.S [],.S aJ],dI:=[.R 17,.R 35],dH:=[.S [],.S []],b0:=[.I (-1),.I 0],dz:=[.R 18,.R 36],d5:=[.I 1]
 ay:=[.I 1]}
noncomputable def E4(ws:List aw):List O:=[.L (ws.map .S),.T [.I 0,.I (-1)],.L [],.L []]
theorem Sg(w c:aw)(sh:Bool)(ws:List aw):b3 ao (aA ao 58) (dr (bj fh 9)) (jA w c aJ) (ai (mw l sh) [.L (ws.map .S)])=ae (.N,jA w c aJ,ai (kN l sh) (om ws)):=by
 have r1:=ZF (k:=54) (af:=mw l sh) (D:=[.L (ws.map .S)]) (m:=999) (V4 sh) (Q_ sh) ab (aN ab) ab ab ab;have r2:=aav (k:=56) (af:=Jx l sh) (D:=E4 ws++[.T []]) (nm:=aJ) (at':=.R 37) (as:=[]) (bE ⟨4,ab,ab,aN ab⟩) (by decide) g8 ab;have s1:cH ao (aA ao 58) (bj (dr (bj fh 9)) 0) (jA w c aJ) (ai (mw l sh) [.L (ws.map .S)])=ae (.N,jA w c aJ,ai (Jx l sh) (E4 ws)):=ix (bu (cu aj (ar (ah ab) (ar (ah ab) aO)) r1)) ab ab;have s2:cH ao (aA ao 58) (bj (dr (bj fh 9)) 1) (jA w c aJ) (ai (Jx l sh) (E4 ws))=ae (.N,jA w c aJ,ai (kN l sh) (om ws)):=ix (bu (cu aj (ar (ah ab) (ar aj (ar (ah ab) (ar (dj aO (aN ab)) aO)))) r2)) ab ab;exact aq s1 (aq s2 aF)
noncomputable def pT:List aw:=[aJ,fm]
theorem V3(sh:Bool):aQ 1000 (kN l sh):=⟨aN ab,aN ab,aN ab,aN ab,aN ab,aN ab,aN ab,aN ab,aN ab,aN ab,aN ab,aN ab,aN ab,aN ab,aN ab,aN ab,aN ab⟩
theorem Dc(sh:Bool):fJ (kN l sh):=(Q_ (l:=l) sh).pE (q:=0) (aN ab) ab ab
noncomputable def w9(l:List V):br:={kN l aP with
 bo:=[.S mW,.S fi,.S fi],bY:=[.S [],.S aJ,.S aJ],names:=[.S [],.S aJ,.S fm]
 dI:=[.R 17,.R 35,.R 44],dH:=[.S [],.S [],.S []],b0:=[.I (-1),.I 0,.I 1],dz:=[.R 18,.R 36,.R 45]
 ay:=[.I 1,.I 2],cw:=51}
noncomputable def Jw(l:List V):br:={w9 l with cw:=42}
noncomputable def E3:List O:=[.L (pT.map .S),.T [.I 0,.I (-1)],.L [],.L [.I 2],.T [],.L [],.L [],.L [.S aJ,.S aJ,.R 38,.R 39,.N],.L [.R 40],.L [.R 40],.T [.I 1,.I (-1)],.L [],.L []]
noncomputable def uB:List O:=[.L (pT.map .S),.T [.I 0,.I (-1)],.L [],.L [.I 2],.T [],.L [],.L [.R 49],.L [.S aJ,.S aJ,.R 38,.R 39,.N],.L [.R 40],.L [.R 40],.T [.I 1,.I (-1)],.L [],.L [],.T [],.L [],.L [],.L [.S aJ,.S fm,.R 47,.R 48,.N],.L [.R 49],.L [.R 40,.R 49]]
theorem afR(w c:aw):b3 ao (aA ao 58) (dr (bj fh 9)) (jA w c fm) (ai (kN l aP) (om pT))=ae (.N,jA w c fm,ai (w9 l) uB):=by
 have r1:=Oi (k:=54) (af:=kN l aP) (D:=om pT) (m:=999) (V3 aP) (Dc aP) rfl aJ fm (bB ⟨rfl,rfl⟩) (bE (by decide)) (p:=1) (c:=3) (xs:=[]) (bE ⟨1,rfl,(by show(1:Int)≠0;decide),bE ⟨rfl,rfl⟩⟩) (aN rfl) (aN rfl) rfl rfl (aN rfl);rw[<- LA]at r1;have r2:=OX (k:=56) (af:=Jw l) (D:=E3++[.T []]) (sp:=aJ) (nm:=fm) (at':=.R 46) (as:=[]) (ps:=[.R 40]) (xs:=[]) (q:=7) (a7:=6) (sp0:=aJ) (nm0:=aJ) (bE ⟨13,rfl,rfl,aN rfl⟩) (bE (by decide)) g8 (dD rfl) rfl (aN rfl) rfl ⟨.R 38,0,bB rfl⟩ rfl (aN rfl) (by show(42:Nat)≠39;decide);have s1:cH ao (aA ao 58) (bj (dr (bj fh 9)) 0) (jA w c fm) (ai (kN l aP) (om pT))=ae (.N,jA w c fm,ai (Jw l) E3):=ix (bu (cu aj (ar (ah rfl) (ar (ah rfl) aO)) r1)) rfl rfl;have s2:cH ao (aA ao 58) (bj (dr (bj fh 9)) 1) (jA w c fm) (ai (Jw l) E3)=ae (.N,jA w c fm,ai (w9 l) uB):=ix (bu (cu aj (ar (ah rfl) (ar aj (ar (ah rfl) (ar (dj aO (aN rfl)) aO)))) r2)) rfl rfl;exact aq s1 (aq s2 aF)
theorem af7:nH kP=pT:=by decide +kernel
theorem af8:kP.length<1000/\(nO ⟨kP.toArray⟩ (kP.length+1)).length<1000:=by decide +kernel
theorem af9:nH aJ=[aJ]:=by decide +kernel
theorem af_:aJ.length<1000/\(nO ⟨aJ.toArray⟩ (aJ.length+1)).length<1000:=by decide +kernel
theorem aff(c:aw):cH ao (aA ao 58) (bj fh 9) (rT kP c) (ai (mw l aP) [])=ae (.N,jA kP c fm,ai (w9 l) uB):=by
 apply q3
 .exact uC (ah ab) af8 af7
 .exact bD (D:=[.L (pT.map .S)]) (j:=0) ab
 .apply jz
  .rfl
  .exact Sg kP c aP pT
  .apply jz
   .rfl
   .exact afR kP c
   .exact ou ab
theorem RY(c:aw)(sh:Bool):cH ao (aA ao 58) (bj fh 9) (rT aJ c) (ai (mw l sh) [])=ae (.N,jA aJ c aJ,ai (kN l sh) (om [aJ])):=by
 apply q3
 .exact uC (ah ab) af_ af9
 .exact bD (D:=[.L ([aJ].map .S)]) (j:=0) ab
 .apply jz
  .rfl
  .exact Sg aJ c sh [aJ]
  .exact ou ab
end
end
section
section
variable{k m:Nat}{l:List V}{af:br}{D:List O}
noncomputable def Bk(w c nm:aw):bJ:=[ae (.R 0),ae (.R 5),ae (.S uw),ae (.R 7),ae (.R 32),ae (.S nm),ae (.R 40),az,ae (.S w),ae (.S c),az,az]
noncomputable def Dw(l:List V):br:={w9 l with bH:=ec,f9:=1}
noncomputable def Dy(l:List V):br:={kN l aP with
 bo:=[.S mW,.S fi,.S fi],bY:=[.S [],.S aJ,.S aJ],names:=[.S [],.S aJ,.S fj]
 dI:=[.R 17,.R 35,.R 43],dH:=[.S [],.S [],.S []],b0:=[.I (-1),.I 0,.I (-1)],dz:=[.R 18,.R 36,.R 44],ctx:=2,bH:=ec,f9:=1}
noncomputable def NB:List O:=om [aJ]++[.L [],.L []]
noncomputable def Dx(l:List V):br:={kN l aB with
 bo:=[.S mW,.S fi,.S fi,.S oe],bY:=[.S [],.S aJ,.S aJ,.S []],names:=[.S [],.S aJ,.S aR,.S []]
 dI:=[.R 17,.R 35,.R 43,.R 45],dH:=[.S [],.S [],.S [],.S []],b0:=[.I (-1),.I 0,.I (-1),.I (-1)],dz:=[.R 18,.R 36,.R 44,.R 46],dU:=[(2,.I 3)]
 ctx:=2,bH:=cX,f9:=1,am:=47,lm:=48,eU:=cX}
noncomputable def WL:List O:=om [aJ]++[.L [],.L [],.L [],.L []]
noncomputable def NC:List O:=WL++[.L [.S cX],.L [.S cX]]
theorem Xq:b3 ao (aA ao 58) xN (jA kP [] fm) (ai (w9 l) uB)=ae (.N,Bk kP [] fm,ai (Dw l) uB):=by kernel_rfl
theorem Xr:b3 ao (aA ao 58) xN (jA aJ aR aJ) (ai (kN l aB) (om [aJ]))=ae (.N,Bk aJ aR aJ,ai (Dx l) NC):=by kernel_rfl
theorem Xs:b3 ao (aA ao 58) xN (jA aJ fj aJ) (ai (kN l aP) (om [aJ]))=ae (.N,Bk aJ fj aJ,ai (Dy l) NB):=by kernel_rfl
end
end
section
section
variable{l:List V}
noncomputable def E8:bk:=⟨mW,[],[],[],[],aP,[]⟩
noncomputable def rP(nm:aw)(lw:Bool)(ch:List Nat):bk:=⟨fi,aJ,nm,[],[],lw,ch⟩
noncomputable def dO(l:List V):bw:={fc:=l,ag:=[E8,rP aJ aB [2],rP fm aB []],ay:=[1,2],bq:=[[]],cf:=[],bH:=ec,cy:=aB,done:=aP,cO:=[]}
noncomputable def mL(l:List V):bw:={fc:=l,ag:=[E8,rP aJ aB [],rP aR aP [],eX],ay:=[1],bq:=[[]],cf:=[cX],bH:=cX,cy:=aB,done:=aP,cO:=[]}
noncomputable def n7(l:List V):bw:={fc:=l,ag:=[E8,rP aJ aB [],rP fj aP []],ay:=[1],bq:=[[]],cf:=[],bH:=ec,cy:=aB,done:=aP,cO:=[]}
noncomputable def oD(i:Nat):Nat:=if i=1 then 7 else 16
noncomputable def En(ws:List aw):List aY:=[]++[.I (.L (ws.map .S))]++[.I (.T [.I 0,.I (-1)])]++[.I (.L [])]++[.C 1]++[.I (.T [])]++[.I (.L [])]++[.L 1]++[.I (.L [.S aJ,.S aJ,.R 38,.R 39,.N])]++[.I (.L [.R 40])]++[.I (.L [.R 40])]
noncomputable def AQ:List aY:=En pT++[.I (.T [.I 1,.I (-1)])]++[.I (.L [])]++[.C 2]++[.I (.T [])]++[.I (.L [])]++[.L 2]++[.I (.L [.S aJ,.S fm,.R 47,.R 48,.N])]++[.I (.L [.R 49])]++[.I (.L [.R 40,.R 49])]
noncomputable def fD:List aY:=En [aJ]++[.I (.L [])]++[.C 2]
noncomputable def g4:List aY:=fD++[.I (.L [])]++[.C 3]++[.B]++[.A]
theorem Zw{sc:Nat}:Fr sc [] 1 1 1:=⟨(λa b r _ h=>by simp at h),(λa i h=>by simp at h),(λa i h=>by simp at h),(λa i h=>by simp at h),(λa h=>by simp at h),(λa h=>by simp at h)⟩
theorem Od{ws:List aw}{sc:Nat}:Fr sc (En ws) 2 2 1:=(((((((((Zw.eT).eT).eT).q4).eT).eT).z9).eT).eT).eT
theorem Zt:Fr 0 AQ 3 3 1:=((((((((Od.eT).eT).q4).eT).eT).z9).eT).eT).eT
theorem Oc{sc:Nat}:Fr sc fD 3 2 1:=(Od.eT).q4
theorem Zv{R:List aY}{nB nL gL:Nat}(h:Fr 0 R nB nL gL):Fr 1 (R++[.B]++[.A]) nB nL gL:=by
 have g:∀(a:Nat)(r:aY),(R++[.B]++[.A])[a]?=ae r->R[a]?=ae r\/(a=R.length/\r=.B)\/(a=R.length+1/\r=.A):=by
  intro a r q;rcases fp q with q | ⟨e,q⟩
  .rcases fp q with q | ⟨e,q⟩
   .exact bB q
   .exact bE (bB ⟨e,q⟩)
  .exact bE (bE ⟨by rw[e,ba];rfl,q⟩)
 have nb:∀a:Nat,R[a]?≠ae .B:=λa q=>absurd (h.bm a q) (by decide);have nm:∀a:Nat,R[a]?≠ae .A:=λa q=>absurd (h.lm a q) (by decide);refine⟨?_,?_,?_,?_,λ_ _=>rfl,λ_ _=>rfl⟩
 .intro a b r m qa qb;rcases g a r qa with qa | ⟨ea,qa⟩ | ⟨ea,qa⟩
  .rcases g b r qb with qb | ⟨eb,qb⟩ | ⟨eb,qb⟩
   .exact h.gd a b r m qa qb
   .exact absurd (qb▸qa) (nb a)
   .exact absurd (qb▸qa) (nm a)
  .rcases g b r qb with qb | ⟨eb,qb⟩ | ⟨eb,qb⟩
   .exact absurd (qa▸qb) (nb b)
   .lia
   .rw[qa]at qb;cases qb
  .rcases g b r qb with qb | ⟨eb,qb⟩ | ⟨eb,qb⟩
   .exact absurd (qa▸qb) (nm b)
   .rw[qa]at qb;cases qb
   .lia
 .intro a i q;rcases g a _ q with q | ⟨_,q⟩ | ⟨_,q⟩
  .exact h.ch a i q
  .cases q
  .cases q
 .intro a i q;rcases g a _ q with q | ⟨_,q⟩ | ⟨_,q⟩
  .exact h.je a i q
  .cases q
  .cases q
 .intro a i q;rcases g a _ q with q | ⟨_,q⟩ | ⟨_,q⟩
  .exact h.dA a i q
  .cases q
  .cases q
theorem Zu:Fr 1 g4 4 4 1:=Zv ((Oc.eT).q4.mono (show 2<=4 by decide))
theorem ZT:uB=AQ.map (C (dO l) (dO l) oD):=by kernel_rfl
theorem ZU:NC=g4.map (C (mL l) (mL l) oD):=by kernel_rfl
theorem ZV:NB=fD.map (C (n7 l) (n7 l) oD):=by kernel_rfl
theorem Pf{i:Nat}(h:(nn (dO l).ag i).lw=aB):i=1\/i=2:=by
 rcases i with _ | _ | _ | i
 .cases h
 .exact bB ab
 .exact bE ab
 .cases h
theorem Pg{i:Nat}(h:(nn (mL l).ag i).lw=aB):i=1:=by
 rcases i with _ | _ | _ | _ | i
 .cases h
 .rfl
 .cases h
 .cases h
 .cases h
theorem Ph{i:Nat}(h:(nn (n7 l).ag i).lw=aB):i=1:=by
 rcases i with _ | _ | _ | i
 .cases h
 .rfl
 .cases h
 .cases h
theorem F3{R:List aY}{ag:List bk}(h:nn ag 1=rP aJ aB (nn ag 1).ch)(d4:R[5]?=ae (.I (.L [])))(cT:R[6]?=ae (.L 1))(fN:R[7]?=ae (.I (.L [.S aJ,.S aJ,.R 38,.R 39,.N]))):mJ R oD ag 1:=by
 refine⟨5,6,bB ⟨by rw[h];rfl,d4⟩,cT,bB ⟨?_,?_⟩⟩
 .unfold bp;rw[h];rfl
 .rw[h];exact fN
theorem acy:fJ (Dw l):=(Dc (l:=l) aP).pE (q:=1) (aN ab) ab ab
theorem acz:fJ (Dx l):=((Dc (l:=l) aB).C8 (aG:={kN l aB with b0:=[.I (-1),.I 0,.I (-1)]}) rfl).C8 rfl
theorem acA:fJ (Dy l):=(Dc (l:=l) aP).C8 ab
theorem core0:cj 0 (Dw l) AQ (dO l) (dO l) oD:=by
 refine⟨⟨rfl,rfl,rfl,rfl,rfl,acy,rfl,?_,rfl,?_,?_,aN rfl |> nU,rfl,rfl,rfl,rfl,rfl,bB ⟨by decide,rfl,rfl⟩,.N⟩,⟨⟨18,rfl,rfl⟩,?_,rfl,⟨[],rfl,rfl,(λj a h=>by simp at h)⟩,bB ⟨by decide,rfl,rfl⟩,rfl,rfl,rfl,.N⟩,Zt,⟨rfl,rfl,rfl,rfl,λ_=>rfl,λ_=>rfl,rfl,rfl⟩,nofun,nofun⟩
 .intro i h0 h1;have h1:i<3:=h1;rcases(by lia:i=1\/i=2)with rfl | rfl
  .exact⟨2,ab,bB ⟨ab,ab⟩⟩
  .exact⟨11,ab,bB ⟨ab,ab⟩⟩
 .intro i h0 h1;have h1:i<3:=h1;rcases(by lia:i=1\/i=2)with rfl | rfl
  .exact⟨3,ab,ab⟩
  .exact⟨12,ab,ab⟩
 .intro i
  have:bp (dO l).ag i=false:=by
   rcases i with _ | _ | _ | i<;>rfl
  rw[this];rfl
 .intro i hi;rcases Pf hi with rfl | rfl
  .exact F3 ab ab ab ab
  .exact⟨14,15,bB ⟨ab,ab⟩,ab,bB ⟨ab,ab⟩⟩
theorem Ww:cj 1 (Dx l) g4 (mL l) (mL l) oD:=by
 refine⟨⟨rfl,rfl,rfl,rfl,rfl,acz,rfl,?_,rfl,?_,?_,aN rfl |> nU,rfl,rfl,rfl,rfl,rfl,bE ⟨rfl,14,rfl,rfl⟩,.N⟩,⟨⟨9,rfl,rfl⟩,?_,rfl,⟨[],rfl,rfl,(λj a h=>by simp at h)⟩,bE ⟨rfl,15,rfl,rfl⟩,rfl,rfl,rfl,.N⟩,Zu,⟨rfl,rfl,rfl,rfl,λ_=>rfl,λ_=>rfl,rfl,rfl⟩,nofun,nofun⟩
 .intro i h0 h1;have h1:i<4:=h1;rcases(by lia:i=1\/i=2\/i=3)with rfl | rfl | rfl
  .exact⟨2,ab,bB ⟨ab,ab⟩⟩
  .exact⟨10,ab,bB ⟨ab,ab⟩⟩
  .exact⟨12,ab,bB ⟨ab,ab⟩⟩
 .intro i h0 h1;have h1:i<4:=h1;rcases(by lia:i=1\/i=2\/i=3)with rfl | rfl | rfl
  .exact⟨3,ab,ab⟩
  .exact⟨11,ab,ab⟩
  .exact⟨13,ab,ab⟩
 .intro i;rcases i with _ | _ | _ | i
  .rfl
  .rfl
  .rfl
  .have:bp (mL l).ag (i+3)=false:=by cases i<;>rfl
   rw[this];show q9 (((i+3:Nat):Int)) [((2:Int),V.I 3)]=az;rw[gu,show((((i+3:Nat):Int))==2)=aP from beq_eq_false_iff_ne.mpr (by lia)];rfl
 .intro i hi;rw[Pg hi];exact F3 rfl rfl rfl rfl
theorem Wx:cj 2 (Dy l) fD (n7 l) (n7 l) oD:=by
 refine⟨⟨rfl,rfl,rfl,rfl,rfl,acA,rfl,?_,rfl,?_,?_,aN rfl |> nU,rfl,rfl,rfl,rfl,rfl,bB ⟨by decide,rfl,rfl⟩,.N⟩,⟨⟨9,rfl,rfl⟩,?_,rfl,⟨[],rfl,rfl,(λj a h=>by simp at h)⟩,bB ⟨by decide,rfl,rfl⟩,rfl,rfl,rfl,.N⟩,Oc.mono (show 2<=3 by decide),⟨rfl,rfl,rfl,rfl,λ_=>rfl,λ_=>rfl,rfl,rfl⟩,nofun,nofun⟩
 .intro i h0 h1;have h1:i<3:=h1;rcases(by lia:i=1\/i=2)with rfl | rfl
  .exact⟨2,ab,bB ⟨ab,ab⟩⟩
  .exact⟨10,ab,bB ⟨ab,ab⟩⟩
 .intro i h0 h1;have h1:i<3:=h1;rcases(by lia:i=1\/i=2)with rfl | rfl
  .exact⟨3,ab,ab⟩
  .exact⟨11,ab,ab⟩
 .intro i
  have:bp (n7 l).ag i=false:=by
   rcases i with _ | _ | _ | i<;>rfl
  rw[this];rfl
 .intro i hi;rw[Ph hi];exact F3 rfl rfl rfl rfl
end
end
section
section
variable{l:List V}{sc p n m t:Nat}{B:bw}
theorem wq:cM ([]:aw):=dD ab
theorem ab4:cM fm:=dD ab
theorem aga:bz 0 0 (dO l):=by
 have out:∀i,3<=i->nn (dO l).ag i=F2:=λi hi=>lr hi;refine⟨bE ⟨ab,[],ab,nofun⟩,⟨ab,ab⟩,λ_=>⟨ab,ab⟩,λh=>absurd ab h,aN ab,?_,?_,?_,?_,?_,?_,?_,o5 _ _,?_,ab,ab,(by decide:ec∈ho),nofun,λh=>absurd (show ec=cX from h) (by decide),iF ab,ab,ab⟩
 .intro i hi;rcases d_.mp hi with rfl | hi
  .exact⟨aN ab,aN ab,ab⟩
  .rw[dx.mp hi];exact⟨aN rfl,aN rfl,rfl⟩
 .intro i hi;rcases Pf hi with rfl | rfl
  .exact⟨ab,aN ab,g8,g8⟩
  .exact⟨ab,aN ab,g8,ab4⟩
 .intro i hi;have:bp (dO l).ag i=false:=by rcases i with _ | _ | _ | i<;>rfl
  rw[this]at hi;cases hi
 .intro q j hj;rcases q with _ | _ | _ | q
  .cases hj
  .rw[show j=2 from dx.mp hj];exact⟨aN rfl,aN rfl,bB rfl⟩
  .cases hj
  .cases hj
 .intro q q' j hj hj';rcases q with _ | _ | _ | q
  .cases hj
  .rcases q' with _ | _ | _ | q'
   .cases hj'
   .rfl
   .cases hj'
   .cases hj'
  .cases hj
  .cases hj
 .intro q;rcases q with _ | _ | _ | q
  .exact xn
  .exact SO ..
  .exact xn
  .exact xn
 .intro i;rcases i with _ | _ | _ | i<;>exact⟨wq,wq⟩
 .intro g hg i hi;rw[dx.mp hg]at hi;cases hi
theorem agb:bz 1 0 (mL l):=by
 refine⟨bE ⟨ab,[],ab,nofun⟩,⟨ab,ab⟩,λh=>absurd h (by decide),λ_=>⟨ab,ab⟩,aN ab,?_,?_,?_,?_,?_,?_,?_,o5 _ _,?_,ab,ab,(by decide:cX∈ho),?_,λ_=>o5 _ _,iF ab,ab,ab⟩
 .intro i hi;rw[dx.mp hi];exact⟨aN rfl,aN rfl,rfl⟩
 .intro i hi;rw[Pg hi];exact⟨rfl,aN rfl,g8,g8⟩
 .intro i hi;rcases i with _ | _ | _ | _ | i
  .cases hi
  .cases hi
  .exact⟨aN ab,ab⟩
  .cases hi
  .cases hi
 .intro q j hj;rcases q with _ | _ | _ | _ | q<;>cases hj
 .intro q q' j hj hj';rcases q with _ | _ | _ | _ | q<;>cases hj
 .intro q;rcases q with _ | _ | _ | _ | q<;>exact xn
 .intro i;rcases i with _ | _ | _ | _ | i<;>exact⟨wq,wq⟩
 .intro g hg i hi;rw[dx.mp hg]at hi;cases hi
 .intro x hx;rw[dx.mp hx];decide
theorem agc:bz 2 0 (n7 l):=by
 refine⟨bE ⟨ab,[],ab,nofun⟩,⟨ab,ab⟩,λh=>absurd h (by decide),λ_=>⟨ab,ab⟩,aN ab,?_,?_,?_,?_,?_,?_,?_,o5 _ _,?_,ab,ab,(by decide:ec∈ho),nofun,λh=>absurd (show ec=cX from h) (by decide),iF ab,ab,ab⟩
 .intro i hi;rw[dx.mp hi];exact⟨aN rfl,aN rfl,rfl⟩
 .intro i hi;rw[Ph hi];exact⟨rfl,aN rfl,g8,g8⟩
 .intro i hi;have:bp (n7 l).ag i=false:=by rcases i with _ | _ | _ | i<;>rfl
  rw[this]at hi;cases hi
 .intro q j hj;rcases q with _ | _ | _ | q<;>cases hj
 .intro q q' j hj hj';rcases q with _ | _ | _ | q<;>cases hj
 .intro q;rcases q with _ | _ | _ | q<;>exact xn
 .intro i;rcases i with _ | _ | _ | i<;>exact⟨wq,wq⟩
 .intro g hg i hi;rw[dx.mp hg]at hi;cases hi
theorem aay:cW 10 0 (dO l):=by
 refine⟨iF ab,iF ab,iF ab,iF ab,iF ab,?_,?_,cC _⟩
 .intro i;rcases i with _ | _ | _ | i<;>exact gJ _
 .intro i;rcases i with _ | _ | _ | i<;>exact iF rfl
theorem aaz:cW 10 0 (mL l):=by
 refine⟨iF ab,iF ab,iF ab,iF ab,iF ab,?_,?_,cC _⟩
 .intro i;rcases i with _ | _ | _ | _ | i<;>exact gJ _
 .intro i;rcases i with _ | _ | _ | _ | i<;>exact gJ _
theorem aaA:cW 10 0 (n7 l):=by
 refine⟨iF ab,iF ab,iF ab,iF ab,iF ab,?_,?_,cC _⟩
 .intro i;rcases i with _ | _ | _ | i<;>exact gJ _
 .intro i;rcases i with _ | _ | _ | i<;>exact gJ _
theorem N4:(c:Nat)->(B:bw)->(jX sc c B).fc=B.fc
 | 0,_=>rfl
 | c+1,B=>(N4 c _).trans ab
theorem RZ{nm aL:aw}:(kG B nm aL).fc=B.fc:=by
 unfold kG;split
 .rfl
 .split
  .rfl
  .split<;>rfl
theorem Lq{nm aL:aw}:(hM B nm aL t).fc=B.fc:=by
 unfold hM;split
 .rfl
 .split
  .split
   .unfold pb;split<;>rfl
   .exact RZ.trans ab
  .exact RZ
theorem afp{tk:Tk}:(kY sc B t tk).fc=B.fc:=by
 cases tk with
 | C aX=>
  show(ju B aX).fc=_;unfold ju;cases(nn B.ag B.hm).ch.getLast? with
  | none=>rfl
  | some j=>dsimp only;split<;>rfl
 | N aT x l=>rfl
 | A=>exact(N4 _ B:_)
 | E nm=>
  show(lT sc B nm).fc=_;unfold lT;split
  .unfold mP;split
   .split<;>rfl
   .rfl
  .split
   .rfl
   .split
    .rfl
    .split<;>rfl
 | S nm aL s=>
  show(qr s (hM B nm aL t)).fc=_;unfold qr;split
  .exact Lq
  .exact Lq
end
end
section
section
variable{l:List V}{sc p n m t:Nat}{af:br}{R:List aY}{S:bw}{ln:Nat->Nat}{w c nm:aw}
noncomputable def fV(w c nm:aw)(p:Option V)(tok:Option V):bJ:=[ae (.R 0),ae (.R 5),ae (.S uw),ae (.R 7),ae (.R 32),ae (.S nm),ae (.R 40),p,ae (.S w),ae (.S c),tok,az]
structure hK(sc p:Nat)(l:List V)(af:br)(R:List aY)(S:bw)(ln:Nat->Nat):Prop where
 c:cj sc af R S S ln
 w:bz sc p S
 lim:cW (10+4*p) (100*p) S
 fc:S.fc=l
 Di:R[5]?=ae (.I (.L []))
 Dj:R[6]?=ae (.L 1)
 Dk:R[7]?=ae (.I (.L [.S aJ,.S aJ,.R 38,.R 39,.N]))
theorem hK.inv(s:hK sc p l af R S ln)(hp:p<=14):dB sc (10+4*p) (100*p) af R S S ln:=⟨s.c,s.lim,s.lim,by lia,by lia⟩
noncomputable def AS:bN->bN->bN
 | .N,b=>b
 | .C s t,b=>.C s (AS t b)
theorem rI{P:gM}{cl:Nat->List V->H->Option (V×H)}{b:bN}{fr1:bJ}{h1:H}{F:dm}{fr':bJ}{h':H}(q:b3 P cl b fr1 h1=ae (F,fr',h')):(a:bN)->(fr:bJ)->(h:H)->b3 P cl a fr h=ae (.N,fr1,h1)->b3 P cl (AS a b) fr h=ae (F,fr',h')
 | .N,fr,h,p=>by
  injection p with p
  injection p with _ p
  injection p with iU jg
  subst iU;subst jg;exact q
 | .C s t,fr,h,p=>by
  cases e:cH P cl s fr h with
  | none=>
   have:b3 P cl (.C s t) fr h=none:=by
    show(cH P cl s fr h).bind _=_;rw[e];rfl
   rw[this]at p;cases p
  | some v=>
   obtain⟨f,fr2,aD⟩:=v;cases f with
   | N=>
    have jg:b3 P cl t fr2 aD=ae (.N,fr1,h1):=by
     have:b3 P cl (.C s t) fr h=b3 P cl t fr2 aD:=by
      show(cH P cl s fr h).bind _=_;rw[e];rfl
     rw[<- this];exact p
    exact aq e (rI q t fr2 aD jg)
   | B=>rw[xa e]at p;cases p
   | R v=>rw[ji e]at p;cases p
theorem afY(s:hK sc p l af R S ln)(hp:p<14)(hl:l.length=14)(hi:∀v∈l,∃a,v=.I a){tok:Option V}:
 ∃(X:List O)(t:Nat)(tk:Tk),b3 ao (aA ao 58) (.C (bj (dr (bj fh 15)) 0) (.C (bj (dr (bj fh 15)) 1) .N)) (fV w c nm (ae (.I p)) tok) (ai af (R.map (C S S ln)))=ae (.N,fV w c nm (ae (.I p)) (ae (.R (t+33))),ai af ((R++X.map aY.I).map (C S S ln)))/\fK (R++X.map aY.I) t tk/\qq p tk:=by
 have Rl:(R.map (C S S ln)).length=R.length:=cB ..
 have s0:cH ao (aA ao 58) (bj (dr (bj fh 15)) 0) (fV w c nm (ae (.I p)) tok) (ai af (R.map (C S S ln)))=ae (.N,fV w c nm (ae (.I p)) (ae (.R (R.length+33))),ai af (R.map (C S S ln)++[.T [.S dY]])):=by
  rw[<- Rl];exact bM (uD (ar aj aO) (aN (n:=1) (m:=aK) rfl))
 by_cases h:p<13
 .have c1:cD .L (ai af (R.map (C S S ln)++[.T [.S dY]])) (.I p) (.I 13)=ae true:=qB (decide_eq_true (by lia));have hd:af.dig=l:=s.c.bR.fc.trans s.fc;obtain⟨a,ha⟩:=hi _ (rq (show p+1<l.length by lia))
  have a1:gc af.dig ((p:Int)+1)=ae (.I a):=by
   rw[show(p:Int)+1=((p+1:Nat):Int)from rfl,hd];refine bc (by rw[hl];exact aN rfl) ?_;rw[jn (show p+1<l.length by lia),ha]
  obtain⟨X,t,tk,r,f,tp⟩:=afK (k:=57) (af:=af) (D:=R.map (C S S ln)++[.T [.S dY]]) h a;refine⟨[.T [.S dY]]++X,t,tk,?_,?_,tp⟩
  .refine aq s0 (aq (fr1:=fV w c nm (ae (.I p)) (ae (.R (t+33)))) (h1:=ai af ((R++([O.T [.S dY]]++X).map aY.I).map (C S S ln))) ?_ aF);refine aM (aI (ah rfl) aj c1) (bB ⟨rfl,?_⟩);refine aq (fr1:=fV w c nm (ae (.I p)) (ae (.R (t+33)))) (h1:=ai af ((R++([O.T [.S dY]]++X).map aY.I).map (C S S ln))) ?_ aF;refine ix (bM (cu aj (ar (aH (ah rfl) (fv (r:=.I ((p:Int)+1)) (ah rfl) aj rfl) (bX (n:=0) rfl a1)) (ar (ah rfl) aO)) r)) rfl ?_;rw[<- oy,cG]
  .have:=f (R++[aY.I (.T [.S dY])]) (by rw[ba,ba,Rl];rfl);rw[cK,<-cG];exact this
 .have c1:cD .L (ai af (R.map (C S S ln)++[.T [.S dY]])) (.I p) (.I 13)=ae false:=qB (decide_eq_false (by lia));refine⟨[.T [.S dY]],R.length,.A,?_,?_,trivial⟩
  .refine aq s0 ?_;rw[oy];rw[oy]at c1;exact aq (aM (aI (ah rfl) aj c1) (bE ⟨rfl,aF⟩)) aF
  .exact hB
theorem afq(s:hK sc p l af R S ln)(hp:p<14){t:Nat}{tk:Tk}(h:fK R t tk)(tp:qq p tk){aL:Option V}(hd:S.done=aP):
 ∃aG R' S' ln',b3 ao (aA ao 58) (.C (bj (dr (bj fh 15)) 2) (.C (bj (dr (bj fh 15)) 3) .N)) (fV w c nm aL (ae (.R (t+33)))) (ai af (R.map (C S S ln)))=ae (.N,fV w c nm aL (ae (.R (t+33))),ai aG (R'.map (C S' S' ln')))/\hK sc (p+1) l aG R' S' ln':=by
 have I:=s.inv (by lia)
 obtain⟨jK,g4,r1,c1,pf⟩:=Zb (k:=27) I s.w hd hp (by lia) h tp
 obtain⟨w',l'⟩:=afr (t:=t) s.w hd s.lim hp h tp
 have I1:dB sc (10+4*p+4) (100*p+(10+4*p)+3) jK g4 (kY sc S t tk) S ln:=⟨c1,l',s.lim.mono (by lia) (by lia),by lia,by lia⟩
 obtain⟨Al,fD,ln2,r2,bf,ex⟩:=Xe (k:=49) I1 s.w hd hp (by lia) (h.ex pf.ex _) tp
 refine⟨Al,fD,kY sc S t tk,ln2,?_,⟨bf,w',l'.mono (by lia) (by lia),afp.trans s.fc,ex _ (.I _) nofun (pf _ _ s.Di),ex _ (.L 1) nofun (pf _ _ s.Dj),ex _ (.I _) nofun (pf _ _ s.Dk)⟩⟩
 have ld:jK.jd=false:=by rw[c1.li.done];exact hd
 apply aq
 .exact bu (b5 (h1:=ai af (R.map (C S S ln))) (n:=7) (ah ab) ab ab ab (ar (ah ab) aO) r1)
 have s3:cH ao (aA ao 58) (bj (dr (bj fh 15)) 3) (fV w c nm aL (ae (.R (t+33)))) (ai jK (g4.map (C (kY sc S t tk) S ln)))=ae (.N,fV w c nm aL (ae (.R (t+33))),ai Al (fD.map (C (kY sc S t tk) (kY sc S t tk) ln2))):=by
  refine aM (h1:=ai jK (g4.map (C (kY sc S t tk) S ln))) (iQ (t:=jK.jd) (aH (ah ab) aj (dJ (n:=32) ab ab)) ab) (bB ⟨?_,?_⟩)
  .rw[ld];rfl
  .exact aq (bu (cu aj (ar (ah ab) (ar (ah ab) aO)) r2)) aF
 exact aq s3 aF
theorem afo(s:hK sc p l af R S ln)(hp:p<14){t:Nat}{aL:Option V}(hd:S.done=aB):
 b3 ao (aA ao 58) (.C (bj (dr (bj fh 15)) 2) (.C (bj (dr (bj fh 15)) 3) .N)) (fV w c nm aL (ae (.R (t+33)))) (ai af (R.map (C S S ln)))=ae (.N,fV w c nm aL (ae (.R (t+33))),ai af (R.map (C S S ln)))/\hK sc (p+1) l af R S ln:=by
 refine⟨?_,⟨s.c,s.w.mono (fA _),s.lim.mono (by lia) (by lia),s.fc,s.Di,s.Dj,s.Dk⟩⟩
 have uA:af.done=true:=by rw[s.c.bi.done];exact hd
 have ld:af.jd=true:=by rw[s.c.li.done];exact hd
 apply aq
 .exact bu (b5 (h1:=ai af (R.map (C S S ln))) (n:=7) (ah ab) ab ab ab (ar (ah ab) aO) (Za (k:=57) uA))
 have s3:cH ao (aA ao 58) (bj (dr (bj fh 15)) 3) (fV w c nm aL (ae (.R (t+33)))) (ai af (R.map (C S S ln)))=ae (.N,fV w c nm aL (ae (.R (t+33))),ai af (R.map (C S S ln))):=by
  refine aM (h1:=ai af (R.map (C S S ln))) (iQ (t:=af.jd) (aH (ah rfl) aj (dJ (n:=32) rfl rfl)) rfl) (bE ⟨?_,aF⟩);rw[ld];rfl
 exact aq s3 aF
theorem afS(s:hK sc p l af R S ln)(hp:p<14)(hl:l.length=14)(hi:∀v∈l,∃a,v=.I a){tok:Option V}:
 ∃aG R' S' ln' tok',b3 ao (aA ao 58) (dr (bj fh 15)) (fV w c nm (ae (.I p)) tok) (ai af (R.map (C S S ln)))=ae (.N,fV w c nm (ae (.I p)) tok',ai aG (R'.map (C S' S' ln')))/\hK sc (p+1) l aG R' S' ln':=by
 obtain⟨X,t,tk,r0,f,tp⟩:=afY (w:=w) (c:=c) (nm:=nm) s hp hl hi (tok:=tok)
 have pf:bh R (R++X.map aY.I):=bh.app
 have s0:hK sc p l af (R++X.map aY.I) S ln:=⟨oj s.c,s.w,s.lim,s.fc,pf _ _ s.Di,pf _ _ s.Dj,pf _ _ s.Dk⟩
 have last:∀{aG:br}{R':List aY}{S':bw}{ln':Nat->Nat},hK sc (p+1) l aG R' S' ln'->b3 ao (aA ao 58) (.C (bj (dr (bj fh 15)) 4) .N) (fV w c nm (ae (.I p)) (ae (.R (t+33)))) (ai aG (R'.map (C S' S' ln')))=ae (.N,fV w c nm (ae (.I p)) (ae (.R (t+33))),ai aG (R'.map (C S' S' ln'))):=by
  intro aG R' S' ln' s';obtain⟨Y,rs⟩:=aaf (k:=56) (s'.inv (by lia)) s'.w;refine aq (aM (h1:=ai aG (R'.map (C S' S' ln'))) (iQ (t:=aB) (x:=.B aB) (dG (cu aj (ar (ah rfl) (ar (ah rfl) aO)) rs) (el (h:=ai aG (R'.map (C S' S' ln')))) rfl) rfl) (bE ⟨rfl,aF⟩)) aF
 cases hd:S.done with
 | false=>
  obtain⟨aG,R',S',ln',r1,s1⟩:=afq (w:=w) (c:=c) (nm:=nm) s0 hp f tp (aL:=ae (.I p)) hd
  exact⟨aG,R',S',ln',_,rI (rI (last s1) _ _ _ r1) _ _ _ r0,s1⟩
 | true=>
  obtain⟨r1,s1⟩:=afo (w:=w) (c:=c) (nm:=nm) s0 hp (t:=t) (aL:=ae (.I p)) hd
  exact⟨af,_,S,ln,_,rI (rI (last s1) _ _ _ r1) _ _ _ r0,s1⟩
end
end
section
section
variable{l:List V}{sc p n m t:Nat}{af:br}{R:List aY}{S B L:bw}{ln:Nat->Nat}{w c nm:aw}
theorem Pe(hl:l.length=14)(hi:∀v∈l,∃a,v=.I a):(j p:Nat)->(af:br)->(R:List aY)->(S:bw)->(ln:Nat->Nat)->(aL tok:Option V)->p+j=14->hK sc p l af R S ln->
 ∃aG R' S' ln' pl' tok',gY ao (aA ao 58) 7 (dr (bj fh 15)) (λ_=>aB) ((D4 p j).map λi=>V.I (pW i)) (fV w c nm aL tok) (ai af (R.map (C S S ln)))=ae (.N,fV w c nm pl' tok',ai aG (R'.map (C S' S' ln')))/\hK sc 14 l aG R' S' ln'
 | 0,p,af,R,S,ln,aL,tok,e,s=>by
  have:p=14:=by lia
  subst this;exact⟨af,R,S,ln,aL,tok,ou ab,s⟩
 | j+1,p,af,R,S,ln,aL,tok,e,s=>by
  obtain⟨jK,g4,mL,ln1,tok1,r1,s1⟩:=afS (w:=w) (c:=c) (nm:=nm) s (by lia) hl hi (tok:=tok);obtain⟨aG,R',S',ln',pl',tok',r2,s2⟩:=Pe hl hi j (p+1) jK g4 mL ln1 (ae (.I p)) tok1 (by lia) s1;refine⟨aG,R',S',ln',pl',tok',?_,s2⟩;rw[Tt,fI];exact jz (fr1:=fV w c nm (ae (.I p)) tok1) rfl r1 r2
theorem acU(s:hK sc p l af R S ln)(h:Nat)(aZ:eY S.ag 1<=h+1)(Z:List O):cF (ai af (R.map (C S S ln)++Z)) (2*h+5) (.R 40)=ae (iv S.ag (h+1) 1):=by
 have e1:=s.w.ey;have hl:=s.w.gb.1
 have t1:bp S.ag 1=false:=by
  unfold bp;rw[e1.1,e1.2];rfl
 have q:cF (ai af (R.map (C S S ln))) (2*h+4+1) (.R 40)=ae (iv S.ag (h+1) 1):=by
  unfold iv;rw[t1,e1.1,e1.2,s.w.gb.2];refine iC (bD (j:=7) (c2 s.Dk)) (yp (iW _) (iW _) (Dm (a:=5) (n:=2*h+1) (bB ⟨rfl,s.Di⟩)) ?_ zZ);refine iC (bD (j:=6) (c2 s.Dj)) (HQ _ λj hj=>?_);have hj2:=(s.w.ch 1 j hj).1;unfold ej k9;split
  .next hlj=>
   have:=Dn hl (show 1<j by lia);exact HP s.c s.w h j hlj (by lia)
  .exact iW _
 exact nr (h:=ai af (R.map (C S S ln))) _ _ q
theorem acW{c:aY->O}(hc:∀o,c (.I o)=o):(tk:Tk)->fK R t tk->(∀nm,tk≠.E nm)->∃d,cF (ai af (R.map c)) 8 (.R (t+33))=ae d/\gX 6 d
 | .S nm aL s,⟨aU,⟨_,c9⟩,a,d,d4,cT,fN⟩,_=>by
  have g:∀{i:Nat}{o:O},R[i]?=ae (.I o)->(ai af (R.map c))[i+33]?=ae o:=λh=>bD (by rw[c2 h,hc]);have fb:∀b:Bool,gX 5 (.bool b):=λb=>⟨by unfold lN;rfl,by unfold nV;exact gJ _⟩
  refine⟨.tuple [sp bO,sp nm,.tuple [.tuple [sp iM,sp aL]],.bool s],mi (g d4) (FZ (iW _) (iW _) (mi (g cT) ?_) (wA _)),?_⟩
  .rw[gg,mi (g fN) (mh [iM,aL])];rfl
  .refine m7 (n:=5) λx hx=>?_;rcases d_.mp hx with rfl | hx
   .exact hY (dD ab)
   rcases d_.mp hx with rfl | hx
   .exact hY (pH aU)
   rcases d_.mp hx with rfl | hx
   .refine m7 (n:=4) λx hx=>?_;rw[dx.mp hx];refine m7 (n:=3) λx hx=>?_;rcases d_.mp hx with rfl | hx
    .exact hY (dD ab)
    .rw[dx.mp hx];exact hY c9
   .rw[dx.mp hx];exact fb _
 | .E nm,_,h=>absurd ab (h nm)
 | .C aX,⟨o,_,q⟩,_=>by
  refine⟨.tuple [sp d6,sp aX],mi (bD (by rw[c2 q,hc];rfl)) (mh [d6,aX]),m7 (n:=5) λx hx=>?_⟩;rcases d_.mp hx with rfl | hx
  .exact hY (dD ab)
  .rw[dx.mp hx];exact hY o
 | .N aT x l,⟨a7,o,q⟩,_=>by
  have fb:∀b:Bool,gX 5 (.bool b):=λb=>⟨by unfold lN;rfl,by unfold nV;exact gJ _⟩
  rcases a7 with⟨rfl,rfl⟩ | ⟨rfl,rfl⟩
  .refine⟨.tuple [sp mV,sp x],mi (bD (by rw[c2 q,hc];rfl)) (mh [mV,x]),m7 (n:=5) λy hy=>?_⟩;rcases d_.mp hy with rfl | hy
   .exact hY (dD ab)
   .rw[dx.mp hy];exact hY o
  .refine⟨.tuple [sp oa,sp x,.none,.none,.bool aP],mi (bD (by rw[c2 q,hc])) (yp (iW _) (iW _) zZ zZ (wA _)),m7 (n:=5) λy hy=>?_⟩;rcases d_.mp hy with rfl | hy
   .exact hY (dD ab)
   rcases d_.mp hy with rfl | hy
   .exact hY o
   rcases d_.mp hy with rfl | hy
   .exact Fn
   rcases d_.mp hy with rfl | hy
   .exact Fn
   .rw[dx.mp hy];exact fb _
 | .A,q,_=>by
  refine⟨.tuple [sp dY],mi (bD (by rw[c2 q,hc];rfl)) (mh [dY]),m7 (n:=5) λx hx=>?_⟩;rw[dx.mp hx];exact hY (dD rfl)
noncomputable def BM(h:H)(n:iq):Option PyData:=match gU n with
 | .T xs=>(xs.mapM (cF h 8)).map .tuple
 | _=>az
theorem abo{c:aY->O}(hc:∀o,c (.I o)=o):(x:iq)->ir R x->∃d,BM (ai af (R.map c)) x=ae d/\gX 7 d
 | .W a m,⟨aE,cP⟩=>by
  refine⟨.tuple [sp a,sp m],?_,m7 (n:=6) λx hx=>?_⟩
  .show(([a,m].map V.S).mapM (cF (ai af (R.map c)) 8)).map _=_;rw[mh [a,m]];rfl
  .rcases d_.mp hx with rfl | hx
   .exact hY aE
   .rw[dx.mp hx];exact hY cP
 | .T m a,⟨o,tk,h,ne⟩=>by
  obtain⟨d,q,f⟩:=acW (af:=af) hc tk h ne;refine⟨.tuple [sp m,d],?_,m7 (n:=6) λx hx=>?_⟩
  .show([V.S m,.R (a+33)].mapM (cF (ai af (R.map c)) 8)).map _=_;rw[gg,gg,iW,q];rfl
  .rcases d_.mp hx with rfl | hx
   .exact hY o
   .rw[dx.mp hx];exact f
theorem N8{c:aY->O}(hc:∀o,c (.I o)=o){vs:List V}{ns:List iq}(h:mH R vs ns):vs.mapM (cF (ai af (R.map c)) 9)=ns.mapM (BM (ai af (R.map c))):=by
 induction h with
 | N=>rfl
 | @S vs ns a n _ q ih=>
  rw[Kk,Kk,ih,gg,gg]
  have e:cF (ai af (R.map c)) 9 (.R (a+33))=BM (ai af (R.map c)) n:=by
   have g:(ai af (R.map c))[a+33]?=ae (gU n):=bD (by rw[c2 q,hc]);rw[qS,g];cases n<;>rfl
  rw[e];rfl
theorem PM{c:aY->O}(hc:∀o,c (.I o)=o):(ns:List iq)->(∀x∈ns,ir R x)->∃ds,ns.mapM (BM (ai af (R.map c)))=ae ds/\∀d∈ds,gX 7 d
 | [],_=>⟨[],ab,nofun⟩
 | x::ns,h=>by
  obtain⟨d,q,f⟩:=abo (af:=af) hc x (h x (fa ..));obtain⟨ds,cT,f2⟩:=PM hc ns λy hy=>h y (eV _ hy);refine⟨d::ds,by rw[gg,q,cT];rfl,λy hy=>?_⟩;rcases d_.mp hy with rfl | hy
  .exact f
  .exact f2 y hy
theorem XH(s:hK sc p l af R S ln):cD .E (ai af (R.map (C S S ln))) (.R 25) (.R 31)=ae true:=by
 obtain⟨ds,q,f⟩:=PM (af:=af) (c:=C S S ln) (λ_=>rfl) S.cO s.c.nb;have d4:cF (ai af (R.map (C S S ln))) 10 (.R 25)=ae (.list ds):=iC (xs:=af.d1) rfl ((N8 (λ_=>rfl) s.c.bi.d1).trans q);have cT:cF (ai af (R.map (C S S ln))) 10 (.R 31)=ae (.list ds):=iC (xs:=af.cO) rfl ((N8 (λ_=>rfl) s.c.li.cO).trans q);exact Ff (o:=.L af.d1) rfl nofun (wB _ 60 _ (by decide) d4) (wB _ 60 _ (by decide) cT) ((rS f).mono (by decide))
theorem aci{D:List O}:cD .E (ai af (D++[.S []])) (.R 24) (.R (D.length+33))=ae true:=by
 show((ai af (D++[.S []]))[24]?.bind λo=>(ai af (D++[.S []]))[D.length+33]?.bind λp=>bif o.fk p then ae aB else _)=_;exact dF (show(ai af (D++[O.S []]))[24]?=ae (.I [])from ab) (dF (bD bS) ab)
end
end
section
section
variable{l:List V}{sc p n m t:Nat}{af:br}{R:List aY}{S B L:bw}{ln:Nat->Nat}{w c nm:aw}
theorem Xx(s:hK sc 14 l af R S ln){aL tok:Option V}:cH ao (aA ao 58) (bj fh 16) (fV w c nm aL tok) (ai af (R.map (C S S ln)))=ae (.N,fV w c nm aL tok,ai af (R.map (C S S ln))):=by
 have I:=s.inv (cC _);have b:=I.bd;have hl:=s.w.gb.1;have aZ:eY S.ag 1<=16:=HS s.w;have lim:∀q,(nn S.ag q).ch.length<1000:=λq=>fO (s.lim.ch q) (by decide);have e18:af.d5=[aV 1]:=s.c.bR.d5
 obtain⟨vs,X,e,r⟩:=ES (af:=af) (D:=R.map (C S S ln)) (n:=35) (F:=iv S.ag 16) (elt:=λ(y:V) (h':H)=>aS ao (aA ao 58) (.D (.C (.A 778)) (.C (.B (.L 3) 0) (.C (.L 11) .N))) ((fV w c nm aL tok).set 11 (ae y)) h') (cond:=λ_ h=>ae (aB,h)) (same:=λh:H=>decide (h[18]?=ae (O.L [aV 1]))) [1] [] [] [] (λZ=>decide_eq_true (by show ae (O.L af.d5)=_;rw[e18])) (λ_ _=>rfl) (λj hj Z=>by
  have hj:j=1:=dx.mp hj;subst hj;obtain⟨v,X,e1,e2⟩:=Rc (k:=41) s.c s.w b lim 16 1 hl aZ Z;exact⟨v,X,cu aj (ar (aW (n:=7) (ah rfl) rfl rfl) (ar (ah rfl) aO)) e1,e2⟩) (aN (n:=1) (m:=aK) rfl) rfl
 rw[iJ]at e;rw[p6]at e r
 have fk:aS ao (aA ao 58) (.J 11 (.D (.C (.A 778)) (.C (.B (.L 3) 0) (.C (.L 11) .N))) (.I (.B (.B (.L 3) 0) 8) (.C (.I 0))) (.C (.B aB))) (fV w c nm aL tok) (ai af (R.map (C S S ln)))=ae (.R ((R.map (C S S ln)++X).length+33),ai af (R.map (C S S ln)++X++[.L vs])):=by
  refine NV (n:=18) (h1:=ai af (R.map (C S S ln))) (aD:=ai af (R.map (C S S ln)++X)) (xs:=[aV 1]) (aH (aW (n:=8) (aW (n:=7) (ah rfl) rfl rfl) rfl rfl) aj (bX (n:=15) rfl (bc (i:=0) b.dz.g s.c.bR.mY))) ?_ e;show ae (O.L af.d5)=_;rw[e18]
 have cq:cD .N (ai af (R.map (C S S ln)++X++[.L vs]++[.L [.R 40]])) (.R ((R.map (C S S ln)++X).length+33)) (.R ((R.map (C S S ln)++X++[O.L vs]).length+33))=ae false:=by
  refine yu (t:=aB) (Ff (o:=.L vs) (d:=.list [iv S.ag 16 1]) (bD (bl bS)) nofun ?_ ?_ ?_)
  .refine wB 36 60 _ (by decide) (iC (bD (bl bS)) ?_);refine rY vs (λx _ d q=>?_) r;exact nr (h:=ai af (R.map (C S S ln)++X++[.L vs])) _ _ (nr (h:=ai af (R.map (C S S ln)++X)) _ _ q)
  .refine wB 36 60 _ (by decide) (iC (bD bS) ?_);have q:=acU s 15 aZ (X++[.L vs]++[.L [.R 40]]);have ea:R.map (C S S ln)++(X++[O.L vs]++[O.L [.R 40]])=R.map (C S S ln)++X++[.L vs]++[.L [.R 40]]:=by simp only[cG]
   rw[ea]at q;rw[gg,q];rfl
  .refine(rS (n:=33) λd hd=>?_).mono (by decide);rw[dx.mp hd];exact Fm s.w 16 1 hl aZ
 refine aM (x:=.B aP) (h1:=ai af (R.map (C S S ln))) (dG (h1:=ai af (R.map (C S S ln)++X++[.L vs]++[.L [.R 40]])) (aI fk (eW (h1:=ai af (R.map (C S S ln)++X++[.L vs])) (ar (ah ab) aO) (aN (n:=1) (m:=aK) ab)) cq) ?_ ab) (bE ⟨ab,aF⟩)
 have ea:ai af (R.map (C S S ln)++X++[.L vs]++[.L [.R 40]])=ai af (R.map (C S S ln))++(X++[.L vs]++[.L [.R 40]]):=by
  show _=ai af (R.map (C S S ln)++_);simp only[cG]
 rw[ea];exact el
theorem Xw(s:hK sc 14 l af R S ln){aL tok:Option V}:b3 ao (aA ao 58) (.C (bj fh 17) .N) (fV w c nm aL tok) (ai af (R.map (C S S ln)))=ae (.R (.B aB),fV w c nm aL tok,ai af (R.map (C S S ln))):=by
 refine ji (cQ (dp (x:=.B aB) (h1:=ai af (R.map (C S S ln))) (aI (aW (n:=7) (ah ab) ab ab) (aH (ah ab) aj (dJ (n:=32) ab ab)) (XH s)) (bB ⟨ab,?_⟩)));exact dG (h1:=ai af (R.map (C S S ln)++[.S []])) (aI (aW (n:=7) (ah ab) ab ab) (Bb (h1:=ai af (R.map (C S S ln))) aO ab) aci) (el (h:=ai af (R.map (C S S ln)))) ab
theorem Jp(s:hK sc 0 l af R S ln)(hl:l.length=14)(hi:∀v∈l,∃a,v=.I a):∃aG D' fr',aG.dig=l/\b3 ao (aA ao 58) (.C (bj fh 15) (.C (bj fh 16) (.C (bj fh 17) .N))) (Bk w c nm) (ai af (R.map (C S S ln)))=ae (.R (.B aB),fr',ai aG D'):=by
 obtain⟨aG,R',S',ln',pl',tok',r,s'⟩:=Pe (w:=w) (c:=c) (nm:=nm) hl hi 14 0 af R S ln az az rfl s;refine⟨aG,_,_,s'.c.bR.fc.trans s'.fc,aq (fr1:=fV w c nm pl' tok') (h1:=ai aG (R'.map (C S' S' ln'))) ?_ (aq (Xx s') (Xw s'))⟩;refine Jm (k:=14) aj (by decide) ?_;have e:fZ 14=(D4 0 14).map λi=>V.I (pW i):=rfl;rw[e];exact r
end
end
section
section
variable{l:List V}
theorem afe:aS ao (aA ao 58) (.T (.C (.T (.C (.C (.S (aJ++32::fm))) (.C (.C (.S [])) .N))) (.C (.T (.C (.C (.S aJ)) (.C (.C (.S aR)) .N))) (.C (.T (.C (.C (.S aJ)) (.C (.C (.S fj)) .N))) .N)))) Fq [.L l]=ae (.R 4,h0 l):=by kernel_rfl
theorem JB{a:Int}{k:Nat}{w c:aw}{r:Nat}(ha:l[0]?=ae (.I a))(hl:l.length=14)(a7:a % 3=k)(q:gc [V.R 1,.R 2,.R 3] (k:Int)=ae (.R r))(cT:(h0 l)[r]?=ae (.T [.S w,.S c])):cH ao (aA ao 58) (bj fh 0) Fq [.L l]=ae (.N,qG w c,h0 l):=by
 have a1:gc l 0=ae (.I a):=bc (i:=0) (by rw[hl];exact aN rfl) ha;have ey:i6 .M (h0 l) (.I a) (.I 3)=ae (.I k,h0 l):=by rw[<- a7];rfl
 exact t7 (h1:=h0 l) (aH afe (fv (aH (ah ab) aj (bX (n:=0) ab a1)) aj ey) (a8 (n:=4) ab q)) cT
theorem aeV:hK 0 0 l (Dw l) AQ (dO l) oD:=⟨core0,aga,aay,ab,ab,ab,ab⟩
theorem aeW:hK 1 0 l (Dx l) g4 (mL l) oD:=⟨Ww,agb,aaz,ab,ab,ab,ab⟩
theorem aeX:hK 2 0 l (Dy l) fD (n7 l) oD:=⟨Wx,agc,aaA,ab,ab,ab,ab⟩
noncomputable def Lm:bN:=BL [15,16,17] .N
theorem afH:fe fh=AS qz (.C (bj fh 9) (AS xN Lm)):=by kernel_rfl
theorem JD{w c:aw}{f1 f2 F fr' h1 aD h'}(p:b3 ao (aA ao 58) qz (qG w c) (h0 l)=ae (.N,rT w c,h1))(q:cH ao (aA ao 58) (bj fh 9) (rT w c) h1=ae (.N,f1,aD)){h3:H}(e:b3 ao (aA ao 58) xN f1 aD=ae (.N,f2,h3))(r:b3 ao (aA ao 58) Lm f2 h3=ae (F,fr',h')):b3 ao (aA ao 58) (fe fh) (qG w c) (h0 l)=ae (F,fr',h'):=by
 rw[afH];exact rI (aq q (rI r _ _ _ e)) _ _ _ p
theorem ad8(hl:l.length=14)(hi:∀v∈l,∃a,v=.I a):∃h',aA ao 59 788 [.R 0] [.L l]=ae (.B aB,h')/\h'[0]?=ae (.L l):=by
 obtain⟨a,ha⟩:=hi _ (rq (show 0<l.length by lia));have ha:l[0]?=ae (.I a):=by rw[jn (show 0<l.length by lia),ha]
 have fin:∀{w c:aw}{fr':bJ}{aG:br}{D':List O},aG.dig=l->cH ao (aA ao 58) (bj fh 0) Fq [.L l]=ae (.N,qG w c,h0 l)->b3 ao (aA ao 58) (fe fh) (qG w c) (h0 l)=ae (.R (.B aB),fr',ai aG D')->∃h',aA ao 59 788 [.R 0] [.L l]=ae (.B aB,h')/\h'[0]?=ae (.L l):=by
  intro w c fr' aG D' hd p q;refine⟨ai aG D',cJ rfl rfl (aq p q),?_⟩;show ae (O.L aG.dig)=_;rw[hd]
 have cs:a % 3=(0:Nat)\/a % 3=(1:Nat)\/a % 3=(2:Nat):=by lia
 rcases cs with e | e | e
 .obtain⟨aG,D',fr',hd,r⟩:=Jp (w:=kP) (c:=[]) (nm:=fm) (aeV (l:=l)) hl hi;rw[<- ZT]at r;refine fin (w:=kP) (c:=[]) (fr':=fr') (D':=D') hd (JB ha hl e (r:=1) rfl rfl) ?_;exact JD acG (aff []) Xq r
 .obtain⟨aG,D',fr',hd,r⟩:=Jp (w:=aJ) (c:=aR) (nm:=aJ) (aeW (l:=l)) hl hi;rw[<- ZU]at r;refine fin (w:=aJ) (c:=aR) (fr':=fr') (D':=D') hd (JB ha hl e (r:=2) rfl rfl) ?_;exact JD acH (RY aR aB) Xr r
 .obtain⟨aG,D',fr',hd,r⟩:=Jp (w:=aJ) (c:=fj) (nm:=aJ) (aeX (l:=l)) hl hi;rw[<- ZV]at r;refine fin (w:=aJ) (c:=fj) (fr':=fr') (D':=D') hd (JB ha hl e (r:=3) rfl rfl) ?_;exact JD acI (RY fj aP) Xs r
end
end
section
section
variable{l:List V}{xs:List Int}
theorem NZ{P:gM}{cl:Nat->List V->H->Option (V×H)}{fr:bJ}{h h1:H}{a:ck}{xs:List Int}(p:aS P cl a fr h=ae (.C xs,h1))(w:xs.length<aK):aS P cl (.K a) fr h=ae (.I xs.length,h1):=by
 show((aS P cl a fr h).bind _)=_;rw[p];show(if xs.length<aK then ae (V.I xs.length,h1)else az)=_;rw[if_pos w]
noncomputable def mT:Nat->List Int
 | 0=>[0,0,18,38,4,2,0,41,36,6,1,26,38,28]
 | 1=>[1,17,26,3,5,28,0,9,8,38,27,42,40,43]
 | _=>[2,6,0,7,6,35,5,12,13,38,26,5,44,2]
noncomputable def d9:H:=[.T ((mT 0).map .I),.T ((mT 1).map .I),.T ((mT 2).map .I),.T [.R 0,.R 1,.R 2]]
theorem V2:aA ao 59 672 [] []=ae (.R 3,d9):=by kernel_rfl
noncomputable def ke(xs:List Int)(i n:Nat)(k p:Option V):bJ:=[ae (.C xs),ae (.R 3),ae (.I i),ae (.R n),k,p]
theorem Lw(i:Nat)(h:i<3):(mT i).length=14:=by
 rcases(by lia:i=0\/i=1\/i=2)with rfl | rfl | rfl<;>rfl
theorem ZH{A:List O}(i:Nat)(h:i<3):(d9++A)[i]?=ae (.T ((mT i).map .I)):=by
 rcases(by lia:i=0\/i=1\/i=2)with rfl | rfl | rfl<;>rfl
theorem ZI(i:Nat)(h:i<3):gc [V.R 0,.R 1,.R 2] (i:Int)=ae (.R i):=by
 rcases(by lia:i=0\/i=1\/i=2)with rfl | rfl | rfl<;>rfl
theorem W0{cl:Nat->List V->H->Option (V×H)}{i n k:Nat}{A:List O}{acc:List V}{p:Option V}(hx:xs.length<=63)(hi:i<3)(a7:k<14)(aU:n=(d9++A).length)(w:acc.length<aK):∃d p',b3 ao cl (dr (bj (dr (bj qA 1)) 1)) (ke xs i n (ae (.I k)) p) (d9++A++[.L acc])=ae (.N,ke xs i n (ae (.I k)) p',d9++A++[.L (acc++[.I d])]):=by
 subst aU;obtain⟨b,hb⟩:∃b,(mT i)[k]?=ae b:=⟨_,jn (by rw[Lw i hi];exact a7)⟩;have gB:(d9++A++[O.L acc])[i]?=ae (.T ((mT i).map .I)):=by rw[cG];exact ZH i hi
 have g3:(d9++A++[O.L acc])[3]?=ae (.T [.R 0,.R 1,.R 2]):=rfl;have gn:(d9++A++[O.L acc])[(d9++A).length]?=ae (.L acc):=bS;have a1:gc ((mT i).map V.I) (k:Int)=ae (.I b):=bc (by rw[cB,Lw i hi];exact aN rfl) (by rw[jo,hb];rfl);have sb:xs.length<aK:=fO hx (aN rfl)
 have jC:i6 .B (d9++A++[O.L acc]) (.I 14) (.I i)=ae (.I (14*(i:Int)),d9++A++[O.L acc]):=by
  show ok _ ((if (14:Int).natAbs<1000/\((i:Nat):Int).natAbs<1000 then ae (14*(i:Int))else az).map V.I)=_;rw[if_pos ⟨by decide,by lia⟩];rfl
 have s0:cH ao cl (bj (dr (bj (dr (bj qA 1)) 1)) 0) (ke xs i (d9++A).length (ae (.I k)) p) (d9++A++[.L acc])=ae (.N,ke xs i (d9++A).length (ae (.I k)) (ae (.I (14*(i:Int)+k))),d9++A++[.L acc]):=bM (fv (fv aj (ah ab) jC) (ah ab) ab)
 have ev:∃x:Int,aS ao cl (.R (.A .L (.L 5) (.K (.L 0))) (.I (.L 0) (.L 5)) (.C (.I 0))) (ke xs i (d9++A).length (ae (.I k)) (ae (.I (14*(i:Int)+k)))) (d9++A++[.L acc])=ae (.I x,d9++A++[.L acc]):=by
  by_cases h:14*i+k<xs.length
  .refine⟨xs[14*i+k],NY (x:=.B aB) (h1:=d9++A++[.L acc]) (aI (ah rfl) (NZ (ah rfl) sb) (qB (decide_eq_true (by lia)))) rfl (aH (ah rfl) (ah rfl) ?_)⟩;show(if 0<=14*(i:Int)+k/\xs.length<aK then(xs[(14*(i:Int)+k).toNat]?).map V.I else az)=_;rw[if_pos ⟨by lia,sb⟩,show(14*(i:Int)+k).toNat=14*i+k by lia,jn h];rfl
  .exact⟨0,NX (x:=.B aP) (h1:=d9++A++[.L acc]) (aI (ah ab) (NZ (ah ab) sb) (qB (decide_eq_false (by lia)))) ab aj⟩
 obtain⟨x,ev⟩:=ev;refine⟨b+x,ae (.I (14*(i:Int)+k)),aq s0 (aq ?_ aF)⟩;have ap:=dW (P:=ao) (cl:=cl) (fr:=ke xs i (d9++A).length (ae (.I k)) (ae (.I (14*(i:Int)+k)))) (h:=d9++A++[.L acc]) (a:=.L 3) (b:=.F .A (.I (.I (.L 1) (.L 2)) (.L 4)) (.R (.A .L (.L 5) (.K (.L 0))) (.I (.L 0) (.L 5)) (.C (.I 0)))) (y:=.I (b+x)) (aD:=d9++A++[.L acc]) (ah rfl) gn (fv (aH (aH (ah rfl) (ah rfl) (a8 g3 (ZI i hi))) (ah rfl) (a8 gB a1)) ev rfl) gn w;rw[Jt]at ap;exact bu ap
theorem NN{cl:Nat->List V->H->Option (V×H)}{i n:Nat}{A:List O}(hx:xs.length<=63)(hi:i<3)(aU:n=(d9++A).length):(j k:Nat)->(acc:List V)->(kk p:Option V)->k+j=14->acc.length=k->(∀v∈acc,∃a,v=.I a)->
 ∃acc' kk' p',gY ao cl 4 (dr (bj (dr (bj qA 1)) 1)) (λ_=>aB) ((D4 k j).map λi=>V.I (pW i)) (ke xs i n kk p) (d9++A++[.L acc])=ae (.N,ke xs i n kk' p',d9++A++[.L acc'])/\acc'.length=14/\∀v∈acc',∃a,v=.I a
 | 0,k,acc,kk,p,e,hl,ha=>⟨acc,kk,p,ou ab,by lia,ha⟩
 | j+1,k,acc,kk,p,e,hl,ha=>by
  obtain⟨d,iU,r1⟩:=W0 (cl:=cl) (n:=n) (p:=p) (acc:=acc) hx hi (show k<14 by lia) aU (fO (show acc.length<=14 by lia) (aN rfl))
  obtain⟨acc',kk',p',r2,h1,aD⟩:=NN (cl:=cl) hx hi aU j (k+1) (acc++[.I d]) (ae (.I k)) iU (by lia) (by rw[ba,hl];rfl) (λv hv=>by
   rcases gW.mp hv with hv | hv
   .exact ha v hv
   .exact⟨d,dx.mp hv⟩)
  refine⟨acc',kk',p',?_,h1,aD⟩;rw[Tt,fI];exact jz rfl r1 r2
theorem FO{i:Nat}{A:List O}{d k p:Option V}(hx:xs.length<=63)(hi:i<3):∃n k' p' acc,b3 ao (aA ao 59) (dr (bj qA 1)) [ae (.C xs),ae (.R 3),ae (.I i),d,k,p] (d9++A)=ae (.N,ke xs i n k' p',d9++(A++[.L acc])):=by
 obtain⟨acc,k',p',r,h1,aD⟩:=NN (xs:=xs) (cl:=aA ao 59) (A:=A) hx hi rfl 14 0 [] k p rfl rfl nofun;obtain⟨h',rs,cF⟩:=ad8 h1 aD;refine⟨(d9++A).length,k',p',acc,?_⟩;have s0:cH ao (aA ao 59) (bj (dr (bj qA 1)) 0) [ae (.C xs),ae (.R 3),ae (.I i),d,k,p] (d9++A)=ae (.N,ke xs i (d9++A).length k p,d9++A++[.L []]):=bM (eW aO (aN (n:=0) (m:=aK) rfl));have e:fZ 14=(D4 0 14).map λi=>V.I (pW i):=rfl;have s1:cH ao (aA ao 59) (bj (dr (bj qA 1)) 1) (ke xs i (d9++A).length k p) (d9++A++[.L []])=ae (.N,ke xs i (d9++A).length k' p',d9++A++[.L acc]):=Jm (k:=14) aj (by decide) (by rw[e];exact r)
 have ei:aS ao (aA ao 59) (.iso 788 (.L 3)) (ke xs i (d9++A).length k' p') (d9++A++[.L acc])=ae (.B aB,d9++A++[.L acc]):=by
  refine c_ (ah (v:=.R (d9++A).length) rfl) ?_;show((lst (d9++A++[.L acc]) (d9++A).length).bind λxs=>_)=_;exact dF (qO bS) (eG (kx.mpr λv hv=>by obtain⟨a,rfl⟩:=aD v hv;rfl) (c_ rs (eG ⟨cF,rfl⟩ rfl)))
 rw[<- cG];exact aq s0 (aq s1 (aq (RF (iQ ei rfl) rfl aF) aF))
theorem ah9(xs:List Int)(hx:xs.length<=63):∃hp',aA ao 60 795 [.C xs] []=ae (.B aB,hp'):=by
 obtain⟨n0,k0,p0,a0,r0⟩:=FO (i:=0) (A:=[]) (d:=az) (k:=az) (p:=az) hx (by decide);obtain⟨gb,k1,iU,a1,r1⟩:=FO (i:=1) (A:=[]++[.L a0]) (d:=ae (.R n0)) (k:=k0) (p:=p0) hx (by decide);obtain⟨n2,k2,jg,a2,r2⟩:=FO (i:=2) (A:=[]++[.L a0]++[.L a1]) (d:=ae (.R gb)) (k:=k1) (p:=iU) hx (by decide);rw[iJ]at r0;have L:gY ao (aA ao 59) 2 (dr (bj qA 1)) (λ_=>aB) (fZ 3) [ae (.C xs),ae (.R 3),az,az,az,az] d9=ae (.N,ke xs 2 n2 k2 jg,d9++([]++[.L a0]++[.L a1]++[.L a2])):=jz rfl r0 (jz rfl r1 (jz rfl r2 (ou rfl)));exact⟨d9++([]++[.L a0]++[.L a1]++[.L a2]),cJ (fr':=ke xs 2 n2 k2 jg) rfl rfl (aq (bM (cu aj aO V2)) (aq (Jm (k:=3) aj (by decide) L) (ji (cQ aj))))⟩
end
end
end Mine.P
end
theorem PySem.Challenge.cw_nt0615_01_holds : PySem.Challenge.rw_nt0615_01.Holds :=
 Mine.link Mine.P.ah9
