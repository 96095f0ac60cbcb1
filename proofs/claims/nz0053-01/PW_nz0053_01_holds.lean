import PyProof.Rows.All
import Wide.All
import OpenK.AllK
import Wide.FinOn
import KE.KSortTup
import PyProof.EvalArms
import PyProof.DictDisplay
import PyProof.WalksMore
import PyProof.StrWalks
import PyProof.ExcInit
import PyProof.ExcClass3
import PyProof.ExcArgs
import KE.KRevSl
import KE.KIsAll
import KE.KDictList
import PyProof.Rows.SumAny
import PyProof.Conv_int_bool
import PyProof.Rows.RuleN_abs
import PyProof.IsiPairs
import KE.KTryMore
import KE.KDictOf
import PySem.Challenge.RW_nz0053_01
set_option maxHeartbeats 2000000
set_option maxRecDepth 100000
set_option linter.all false
set_option Elab.async false
set_option genSizeOf false
set_option genInjectivity false
set_option genCtorIdx false
set_option compiler.extract_closed false
set_option bootstrap.genMatcherCode false
namespace Mine
@[elab_as_elim]theorem rwg{zi:Sort u}{a b:zi}{M:zi->Prop}(h:a=b)(x:M b):M a:=h▸x
@[elab_as_elim]theorem Iv{zi:Sort u}{a b:zi}{M:zi->Prop}(h:b=a)(x:M b):M a:=h▸x
end Mine
set_option hygiene false in
local macro_rules
  | `(tactic| rewrite [$t:term]) => `(tactic| first | refine Mine.rwg $t ?_ | refine Mine.rwg ($t ..) ?_ | fail)
local macro_rules
  | `(tactic| show $t) => `(tactic| refine (?_ : $t))
set_option hygiene false in
local macro_rules
  | `(tactic| cases $h:ident) => `(tactic| first
    | subst $h:ident
    | (revert $h:ident; refine fun (a : ?a = ?a) => ?_; clear a)
    | exact absurd $h:ident (by decide)
    | (injection $h:ident; done)
    | (injection $h:ident with a b; cases a; cases b)
    | (injection $h:ident with a; cases a)
    | cases ($h))
set_option tactic.hygienic false
namespace Mine
open Bool renaming false->Ig,true->Ib,false_eq_true->I0,or_eq_true->Hw,not_eq_true'->Hp,false_ne_true->Hi,and_eq_true->Hg,or_eq_false_iff->Hd,noConfusion->Gw,false_or->Fw,and_eq_true_iff->Fu,or_true->Fi,and_false->Fc,true_and->F9,not_true->EM,eq_iff_iff->Dx,not_false->Dm
open Option renaming some->Ie,map_eq_some_iff->IG,eq_none_iff_forall_ne_some->I5,filter_some->HW,isSome_iff_exists->HJ,isNone_iff_eq_none->H9,bind_some->GZ,bind_eq_some_iff->GC,filter_eq_some_iff->FO
open PySem renaming wpAny_bind->Ic,Value->IX,wpAny_pure->IW,Shared->IS,wpAny_holding->IL,wpAny_mono->II,wpAny_standAt->I7,Addr->I4,Around->Hv,Heap->Hu,DictEntry->Hn,wpAny_newObj_type->H',wpAny_getItem_list_slice->GL,wpAny_field->GG,wpAny_loadPart_at->G6,wpAny_rule->G2,wpAny_call_entry->G0,codeAny_call_builtin->Ft,wpAny_setField->Fe,wpAny_call->FZ,wpAny_loadPart->FY,Fin->Ez,wpAny_notOrdered_dict->Ej,wpAny_letTemporaryGo->Ef,wpAt_of_wpAny->EV,wpAny_isSubtype_exc->EU,assign_Name->EE,codeAny_mono->ED,wpAny_typeOf->EC,wpAny_alloc->E0,wpAt_bind->Dw,call->Dr,Tok->Dj
open List renaming forall_mem_cons->Ia,mem_singleton->I_,length_append->IZ,length_map->IY,mem_cons->IU,mem_cons_self->IQ,getElem?_map->IM,getElem?_eq_some_iff->IF,mem_of_getElem?->I9,mem_cons_of_mem->I6,append_assoc->I3,all_eq_true->I2,contains_cons->I1,map_cons->Hy,length_singleton->Ht,filter_cons->Hl,nodup_cons->Hk,getElem?_append_right->Hj,append_nil->Hf,getElem?_eq_getElem->Hc,mem_reverse->H_,getD_eq_getElem?_getD->HZ,getElem?_set_self->HX,length_cons->HV,mem_map->HT,length_set->HS,mem_append->HQ,length_reverse->HN,range->HM,contains_iff_mem->HK,map_append->HH,size_toArray->HD,mem_range->HC,getElem?_append_left->HA,lookup_cons->H6,getElem?_set_ne->H2,length_nil->Gy,mem_append_right->Gu,nodup_nil->Gn,length_eq_zero_iff->Gl,map_map->Gh,length_filter_le->Gd,length_range->Gb,mem_append_left->G_,map_nil->GW,casesOn->GV,map_congr_left->GS,nil_append->GK,length_mapIdx->GI,length->GH,reverse_cons->G8,getElem?_eq_none->G3,map_reverse->G1,length_drop->G',length_take->Fy,getElem?_mapIdx->Fv,forIn_cons->Fq,mem_filter->Fo,findIdx?_cons->Ff,filterMap->Fb,forIn_nil->F_,flatMap_cons->FG,not_mem_nil->F6,isEmpty_iff->F0,getElem?_reverse->Ep,dropLast_eq_take->Ek,zipWith_nil_left->Ei,getElem?_range->ES,map_drop->EL,map_take->EK,any_eq_false->EF,set_set->EB,findIdx?_map->E9,map_inj_left->E7,any_eq_true->E3,mem_flatMap->E2,drop_length->E1,head?_drop->Dv,filter_nil->Du,replicate->Ds,take_zero->Dn,drop_drop->Dl
open Nat renaming le_refl->IV,beq->IP,eq_of_beq_eq_true->IJ,le_of_ble_eq_true->ID,le_trans->I8,ble_eq_true_of_le->Hz,succ_le_succ->Hs,blt->Hq,le_of_not_lt->He,ne_of_lt->Ha,lt_of_lt_of_le->HY,lt_of_not_le->HO,zero_le->HL,le_add_right->HE,mod_lt->HB,lt_succ_self->H7,ble->H5,sub_self->H4,lt_trans->H3,le_succ_of_le->Gs,beq_refl->G9,ne_of_gt->Fj,not_lt->Fg,lt_of_le_of_lt->FV,add_sub_cancel->FU,lt_succ_of_lt->FN,le_succ->FJ,le_of_succ_le->FH,add_sub_cancel_left->Ew,le_of_lt->Et,mul_le_mul_right->EZ,add_le_add->EY,succ_ne_self->E4,le_antisymm->Dz
open Array renaming length_toList->IE,getElem?_toList->I',mem_toList_iff->Hm,size_setIfInBounds->GR,toArray_toList->Fs,getElem?_size->Fn,toList_append->Fm,getElem?_eq_some_iff->Fd,getElem?_eq_getElem->FQ,toList_push->FI,mk->F7,find?_toList->EI,toList_inj->E6
open PySem.Heap renaming get?_push_size->IC,get?_push_of_some->IB,get?_update_self->Ho,SameBut->HU,lt_size->HP,get?_update_other->Gi,size_push->G7,get?_none_of_le->Ec,get?_push_ne->E8,MadeExcOf->Dq
open PySem.Heap.SameBut renaming update->Hx
open PySem.Str renaming ofString->Hr
open PySem.Challenge renaming rw_nz0053_01->Hh
open Prod.mk renaming inj->Hb
open PySem.Obj renaming mapFields->HR,mapSeq->Gp,data_mapFields->Gj,isFreed_of_fields->Gf,putNameByArray->GJ,putName_eq->GA
open Nat.succ renaming inj->HI
open PySem.Value renaming type->HG,none->HF,ref->Gg,int->GX,isStrOf_shape->GU,builtin->FF
open PySem.F renaming slot_list_getitem->H8,plainAttrs_dict->Gz,excBase_ValueError->Gv,plainAttrs_list->Gm,slot_list_getattribute->Gk,slot_dict_get->Ge,slot_dict_itemiterator_iter->GP,args_tuple_add_2->GO,entry_tuple_add->GD,slot_tuple_add->G5,slot_dict_setitem->FP,slot_list_append->FE,slot_list_extend->FC,slot_dict_update->FA,slot_str_getitem->F8,slot_dict_items->F5,slot_list_index->F4,entry_dict_get->Eu,slot_list_pop->Eo,type_dict_get->En,slot_dict_pop->Em,slot_int_rmul->El,slot_tuple_lt->Eh,store_object->Eb
open Ne renaming symm->H0
open PySem.Builtin.Str renaming strSliceIndices->Gx
open PySem.W.Looks renaming of_pure->Gq,ld->EA
open Int renaming toNat_natCast->Ga,natAbs_natCast->FT,eq_ofNat_of_zero_le->F',le_trans->Er,natCast_nonneg->EH
open PySem.W renaming kas_sort->GY,ownOf->EO
open PySem.NameKind renaming free->GQ,cell->EP
open PySem.Builtin.List renaming listTooLong->GN
open PySem.Builtin.Range renaming rangeSize->GF,small->EW
open PyProof.Rows renaming wpAny_operate'->GB,pow_int->Ea,lt_int->ET
open PySem.Builtin.Tuple renaming tupleCompareSizes->G4
open PySem.PyData renaming eqv->Fz,keyHash->Eg,eqvAll->ER,eqvAll->EN
open ForInStep renaming yield->Fp
open PySem.W.Fast renaming tw4187177175401517315->Fh
open PySem.SeqAt renaming shaped->FW
open PySem.Calls renaming spliced_nil->FK
open PySem.Builtin.Dict renaming updateFrom->Ey
open PySem.Keeper renaming machine->Ee,frame->EG
open PySem.Around renaming frames_deeper->Ed,under_plainId->E_
open PySem.EntryCells renaming newEntry->EX
open PySem.Code renaming quiet_builtin->EJ
open PySem.DictEntry renaming refKey->E5,key->Dk
open PySem.Builtin.BaseException renaming bexcPut->E'
open List.cons renaming injEq->Dy
open Array.mk renaming inj->Di
open PySem.SeqRoads2.EqGives renaming str->Dh
theorem yZ{zi:Type u}{x:Option zi}{a b:zi}(h:x=Ie a)(k:x=Ie b):a=b:=Option.some.inj (h.symm.trans k)
structure C3(A B zP:Prop):Prop where
 a:A
 b:B
 c:zP
structure C4(A B zP D:Prop):Prop where
 a:A
 b:B
 c:zP
 d:D
structure C5(A B zP D E:Prop):Prop where
 a:A
 b:B
 c:zP
 d:D
 e:E
structure C6(A B zP D E F:Prop):Prop where
 a:A
 b:B
 c:zP
 d:D
 e:E
 f:F
structure C7(A B zP D E F G:Prop):Prop where
 a:A
 b:B
 c:zP
 d:D
 e:E
 f:F
 g:G
structure C8(A B zP D E F G H:Prop):Prop where
 a:A
 b:B
 c:zP
 d:D
 e:E
 f:F
 g:G
 h:H
structure UD(A B zP D E F G H I v5 K L:Prop):Prop where
 a:A
 b:B
 c:zP
 d:D
 e:E
 f:F
 g:G
 h:H
 i:I
 j:v5
 k:K
 l:L
inductive X2{zi xD:Type}(P:zi->xD->Prop):Prop|mk(a:zi)(b:xD):P a b->X2 P
inductive X3{zi xD yI:Type}(P:zi->xD->yI->Prop):Prop|mk(a:zi)(b:xD)(c:yI):P a b c->X3 P
inductive X4{zi xD yI qM:Type}(P:zi->xD->yI->qM->Prop):Prop|mk(a:zi)(b:xD)(c:yI)(d:qM):P a b c d->X4 P
inductive X5{zi xD yI qM UJ:Type}(P:zi->xD->yI->qM->UJ->Prop):Prop|mk(a:zi)(b:xD)(c:yI)(d:qM)(e:UJ):P a b c d e->X5 P
open PySem PySem.W PySem.Calls PyProof.Rows
noncomputable section
noncomputable def kS(ok:Thread->Bool)(VN:SharedT->Thread->Option (SharedT×Thread)):Nat->SharedT->Thread->Option SharedT|0,zo,zY=>none|n+1,s,t=>match through t with|Ib=>Ie s|Ig=>match ok t with|Ig=>none|Ib=>match VN s t with|Ie r=>kS ok VN n r.1 r.2|none=>none
theorem Vo{tb:String->Option Builtin}{p:Program}{w:World}{dE:Nat}{ann:Option IX}:∀{n:Nat}{s s':SharedT}{t:Thread},kS (stepOk dE ann) (stepT (denote tb) p w) n s t=Ie s'->topRun tb p w dE ann n s.abs t=Ie s'.abs|0,zo,zY,zF,h=>by cases h|n+1,s,s',t,h=>by unfold kS at h;unfold topRun;cases he:through t with|true=>rw[he]at h;cases h;rfl|false=>rw[he]at h;cases hk:stepOk dE ann t with|false=>rw[hk]at h;cases h|true=>rw[hk]at h;cases hs:stepT (denote tb) p w s t with|none=>rw[hs]at h;cases h|some r=>rw[hs]at h;rw[stepT_spec hs];exact Vo h
noncomputable def Xe:BT->Nat->List Obj->BT|t,zo,[]=>t|t,n,o::r=>Xe (t.ins n o) (n+1) r
noncomputable def jy(P:Params):BT:=Xe .nil 0 (boot_heap P).objs.toList
theorem SU(P:Params):absHeap (jy P) 11 (boot_heap P).life=boot_heap P:=by kernel_rfl
theorem SW(P:Params):C3 ((boot_heap P).objs.size=11) ((boot_heap P).nsMap mainGlobals "__annotations__"=Ie (.ref 6)) ((boot_heap P).isNs mainGlobals=Ib):=⟨by kernel_rfl,by kernel_rfl,by kernel_rfl⟩
noncomputable def gz(p:Program)(P:Params)(s:IS):Bool:=staticsOk (importedModules p.main.body) (boot_heap P) s.heap&&namesBound p s.heap&&gensDone s&&laidKept (boot_heap P) s.heap
theorem NB{p q:Program}{loose:List Str}{Xt:IS->Bool}{zi:Type}{Yf:IS->zi}{Ya:World->zi}{N:Nat}{g0:Bool}{row:String}(e:opening p=plainProg p.main.scope.names)(hN:H5 600 N=Ib)(f:∀s,fenceModules? p s=Ie s)(h:∀(w:World)(b:Bool)(os:OsState),(kS (stepOk 11 (Ie (.ref 6))) (stepT (denote treeTable) p (w.withFollow row b)) N ⟨jy w.params,11,(boot_heap w.params).life,F7 [],boot_drawn,boot_toks,os⟩ (topStub p)).map (λs=>(gz p w.params s.abs,openSeen q loose (importedModules p.main.body) Xt g0 s.abs,Yf s.abs))=Ie (Ib,openGood q loose,Ya (w.withFollow row b))):LeftO p q loose Xt Yf Ya N g0:=λw=>by
 obtain⟨yN,h0,h1⟩:=IG.mp (boot_open (N:=N) e hN f w);obtain⟨hp,g,d,k,os⟩:=yN;cases h1;unfold openEnds;rw[h0];have hw:=World.withFollow_self w row;have h2:=h w (w.params.followText row) os;rw[hw]at h2;obtain⟨zd,h3,h4⟩:=IG.mp h2;have h5:=Vo h3;obtain⟨b1,b2,b3⟩:=SW w.params;have h6:(SharedT.mk (jy w.params) 11 (boot_heap w.params).life (F7 []) boot_drawn boot_toks os).abs=⟨boot_heap w.params,F7 [],boot_drawn,boot_toks,os⟩:=by unfold SharedT.abs;rw[SU]
 rw[h6]at h5;show(topFrom treeTable p w N ⟨boot_heap w.params,F7 [],boot_drawn,boot_toks,os⟩).map _=_;unfold topFrom;rw[show(((boot_heap w.params).isNs mainGlobals)&&(F7 ([]:List GenState)).size==0)=Ib by rw[b3];rfl];show((topRun treeTable p w (boot_heap w.params).objs.size ((boot_heap w.params).nsMap mainGlobals "__annotations__") N ⟨boot_heap w.params,F7 [],boot_drawn,boot_toks,os⟩ (topStub p)).bind _).map _=_;rewrite[b1];rewrite[b2];rw[h5];show(match gz p w.params zd.abs with|Ib=>Ie zd.abs|Ig=>none).map _=_;injection h4 with h7 h8;rw[h7];exact congrArg Ie h8
end
open PySem PySem.W PySem.Calls PyProof.Rows
noncomputable abbrev pw:Program:=PySem.Challenge.pw_nz0053_01
noncomputable def s1(i:Nat):Stmt:=pw.main.body.getD i (.Pass default)
noncomputable def s2(i j:Nat):Stmt:=match s1 i with|.ClassDef zo zY zF b yX xe vM uR u7 rx kI=>b.getD j (.Pass default)|s=>s
noncomputable def rI:Stmt->List Stmt|.FunctionDef zo zY b zF yX xe vM uR u7 rx=>b|_=>[]
noncomputable def Vm:Stmt->Arguments|.FunctionDef zo a zY zF yX xe vM uR u7 rx=>a|_=>default
noncomputable def qT:Stmt->Scope|.FunctionDef zo zY zF yX xe vM sc uR u7 rx=>sc|_=>default
noncomputable def Kq:Stmt->Str|.FunctionDef n zo zY zF yX xe vM uR u7 rx=>n|_=>default
noncomputable def kv(s:String)(t:Nat):IX:=.str (Hr s) t
noncomputable def ke(P:Params)(s:String)(t:Nat)(v:IX):Hn:=⟨Eg P (Hr s),kv s t,v⟩
noncomputable def kd(c:IX)(l:List Hn)(ep:Nat):Obj:=⟨c,none,.dict l.toArray ep,#[]⟩
noncomputable def kt(l:List IX)(ep:Nat):Obj:=⟨.type "tuple",none,.seq l.toArray ep,#[]⟩
noncomputable def uF(st:Stmt)(q:String)(dv mv cd:IX):FuncData:={name:=Kq st,qualname:=Hr q,params:=Vm st,body:=.stmts (rI st),scope:=qT st,globals:=3,closure:=[],defaults:=dv,kwdefaults:=.none,pyModule:=mv,code:=cd}
noncomputable def kf(st:Stmt)(q:String)(dv mv cd:IX):Obj:=⟨.type "function",none,.func (uF st q dv mv cd),#[]⟩
noncomputable def kl(n:String)(bases mro:List IX)(ns:I4)(subs:List IX)(sl:List (Option IX)):Obj:=⟨.type "type",none,.cls {name:=Hr n,bases:=bases,mro:=mro,ns:=ns,qualname:=Hr n,subclasses:=subs},sl.toArray⟩
noncomputable def gZ:List (String×Nat×IX):=[("BasicObject",1151,.none),("Object",1153,(kv "BasicObject" 1154)),("Module",1156,(kv "Object" 1157)),("Class",1159,(kv "Module" 1160)),("Kernel",1162,.none),("Comparable",1164,.none),("Enumerable",1166,.none),("NilClass",1168,(kv "Object" 1169)),("TrueClass",1171,(kv "Object" 1172)),("FalseClass",1174,(kv "Object" 1175)),("Numeric",1177,(kv "Object" 1178)),("Integer",1180,(kv "Numeric" 1181)),("String",1183,(kv "Object" 1184)),("Symbol",1186,(kv "Object" 1187)),("Array",1189,(kv "Object" 1190)),("Hash",1192,(kv "Object" 1193)),("Range",1195,(kv "Object" 1196)),("Proc",1198,(kv "Object" 1199)),("Fiber",1201,(kv "Object" 1202)),("Exception",1204,(kv "Object" 1205)),("ScriptError",1207,(kv "Exception" 1208)),("NotImplementedError",1210,(kv "ScriptError" 1211)),("SystemStackError",1213,(kv "Exception" 1214)),("StandardError",1216,(kv "Exception" 1217)),("ArgumentError",1219,(kv "StandardError" 1220)),("UncaughtThrowError",1222,(kv "ArgumentError" 1223)),("FiberError",1225,(kv "StandardError" 1226)),("IndexError",1228,(kv "StandardError" 1229)),("KeyError",1231,(kv "IndexError" 1232)),("StopIteration",1234,(kv "IndexError" 1235)),("LocalJumpError",1237,(kv "StandardError" 1238)),("NameError",1240,(kv "StandardError" 1241)),("NoMethodError",1243,(kv "NameError" 1244)),("NoMatchingPatternError",1246,(kv "StandardError" 1247)),("NoMatchingPatternKeyError",1249,(kv "NoMatchingPatternError" 1250)),("RangeError",1251,(kv "StandardError" 1252)),("RuntimeError",1253,(kv "StandardError" 1254)),("FrozenError",1255,(kv "RuntimeError" 1256)),("TypeError",1257,(kv "StandardError" 1258)),("ZeroDivisionError",1259,(kv "StandardError" 1260))]
noncomputable def dP:List (String×Nat×IX):=[("Object",1268,(.ref 637)),("Numeric",1270,(.ref 638)),("String",1272,(.ref 639)),("Symbol",1274,(.ref 640)),("Array",1276,(.ref 641)),("Hash",1278,(.ref 642)),("Range",1280,(.ref 643))]
noncomputable def rT(P:Params)(l:List (String×Nat×IX)):List Hn:=l.map λe=>ke P e.1 e.2.1 e.2.2
noncomputable def KL(P:Params):Frag:=[(2,kd .none [] 0),(3,kd (.type "dict") [ke P "__name__" 165 (kv "law_nz0053_01" 1646),ke P "__doc__" 166 .none,ke P "__package__" 167 .none,ke P "__loader__" 168 (.builtin "__main__.__loader__#opaque"),ke P "__spec__" 169 .none,ke P "__annotations__" 170 (.ref 6),ke P "__builtins__" 171 (.ref 4),ke P "__file__" 173 (kv "/claim/cut.py" 172),ke P "__cached__" 174 .none,ke P "_wall" 193 (.ref 21),ke P "SIMPLE_ESCAPES" 229 (.ref 22),ke P "OPERATORS" 257 (.ref 23),ke P "DEEPEST_KEY" 259 (.int 12 258),ke P "Thing" 294 (.ref 40),ke P "Text" 322 (.ref 62),ke P "ListThing" 349 (.ref 82),ke P "TableThing" 401 (.ref 120),ke P "RangeThing" 432 (.ref 140),ke P "ProcThing" 475 (.ref 161),ke P "ErrorThing" 503 (.ref 181),ke P "FiberThing" 533 (.ref 201),ke P "ModuleThing" 580 (.ref 228),ke P "Entry" 633 (.ref 256),ke P "sort_of" 640 (.ref 267),ke P "same" 649 (.ref 274),ke P "code_of" 655 (.ref 280),ke P "is_word" 663 (.ref 287),ke P "is_label" 670 (.ref 294),ke P "is_plain_symbol" 677 (.ref 301),ke P "full_name" 684 (.ref 308),ke P "show_letter" 694 (.ref 315),ke P "show_text" 700 (.ref 320),ke P "show_symbol" 707 (.ref 327),ke P "show_pair" 716 (.ref 334),ke P "show_range" 726 (.ref 341),ke P "show_thing" 732 (.ref 346),ke P "show_error" 743 (.ref 353),ke P "show" 753 (.ref 361),ke P "has_thing" 764 (.ref 368),ke P "own_line" 773 (.ref 375),ke P "ahead_count" 779 (.ref 380),ke P "made_line" 785 (.ref 385),ke P "line_of" 793 (.ref 392),ke P "PRIVATE_NAMES" 798 (.ref 393),ke P "PRIVATE_KERNEL" 812 (.ref 394),ke P "GivenEntry" 828 (.ref 404),ke P "sight_of" 836 (.ref 413),ke P "given_entry" 853 (.ref 420),ke P "given_names" 859 (.ref 425),ke P "entry_at" 869 (.ref 432),ke P "first_entry" 880 (.ref 439),ke P "find" 889 (.ref 446),ke P "find_behind" 902 (.ref 453),ke P "raise_version" 909 (.ref 460),ke P "need_unfrozen" 917 (.ref 467),ke P "own_module" 926 (.ref 474),ke P "define" 935 (.ref 481),ke P "place_entry" 945 (.ref 488),ke P "kind_word" 952 (.ref 495),ke P "need_entry" 962 (.ref 502),ke P "undefine" 971 (.ref 509),ke P "remove" 981 (.ref 516),ke P "copied" 989 (.ref 523),ke P "alias" 1000 (.ref 530),ke P "set_sight" 1012 (.ref 537),ke P "need_mixin" 1022 (.ref 544),ke P "include" 1031 (.ref 551),ke P "prepend" 1040 (.ref 558),ke P "extend" 1049 (.ref 565),ke P "is_a" 1058 (.ref 572),ke P "own_names" 1064 (.ref 577),ke P "names_of" 1078 (.ref 584),ke P "respond" 1089 (.ref 591),ke P "GemError" 1119 (.ref 609),ke P "Raised" 1144 (.ref 629),ke P "MODULES" 1150 (.ref 632),ke P "BUILTINS" 1267 (.ref 633),ke P "MIXED" 1289 (.ref 636),ke P "UNMADE" 1296 (.ref 644),ke P "World" 1645 (.ref 899),ke P "_law_model" 1653 (.ref 908),ke P "_law_paths" 1668 (.ref 915),ke P "_law_line" 1674 (.ref 920),ke P "_law_found" 1685 (.ref 927),ke P "_law_mixed" 1691 (.ref 932),ke P "_law_deed" 1708 (.ref 939),ke P "_law_done" 1726 (.ref 946),ke P "_law_plain" 1733 (.ref 953),ke P "_law_shown" 1741 (.ref 960),ke P "_law_row" 1752 (.ref 967),ke P "_law_asked_right" 1758 (.ref 972),ke P "_law_names" 1764 (.ref 977),ke P "_law_kinds_right" 1775 (.ref 984),ke P "_law_begun" 1781 (.ref 989),ke P "law" 1787 (.ref 994)] 95),(40,kl "Thing" [(.type "object")] [(.ref 40),(.type "object")] 39 [(.ref 62),(.ref 82),(.ref 120),(.ref 140),(.ref 161),(.ref 181),(.ref 201),(.ref 228)] [none,none,Ie (kv "Thing" 260),Ie (kv "Thing" 268),Ie (.builtin "object.__new__"),Ie (.bool Ib)]),(62,kl "Text" [(.ref 40)] [(.ref 62),(.ref 40),(.type "object")] 61 [] [Ie (.ref 45),none,Ie (kv "Text" 295),Ie (kv "Text" 303),Ie (.builtin "object.__new__"),Ie (.bool Ib)]),(82,kl "ListThing" [(.ref 40)] [(.ref 82),(.ref 40),(.type "object")] 81 [] [Ie (.ref 65),none,Ie (kv "ListThing" 323),Ie (kv "ListThing" 331),Ie (.builtin "object.__new__"),Ie (.bool Ib)]),(120,kl "TableThing" [(.ref 40)] [(.ref 120),(.ref 40),(.type "object")] 119 [] [Ie (.ref 85),none,Ie (kv "TableThing" 350),Ie (kv "TableThing" 358),Ie (.builtin "object.__new__"),Ie (.bool Ib)]),(140,kl "RangeThing" [(.ref 40)] [(.ref 140),(.ref 40),(.type "object")] 139 [] [Ie (.ref 123),none,Ie (kv "RangeThing" 402),Ie (kv "RangeThing" 410),Ie (.builtin "object.__new__"),Ie (.bool Ib)]),(161,kl "ProcThing" [(.ref 40)] [(.ref 161),(.ref 40),(.type "object")] 160 [] [Ie (.ref 143),none,Ie (kv "ProcThing" 433),Ie (kv "ProcThing" 441),Ie (.builtin "object.__new__"),Ie (.bool Ib)]),(181,kl "ErrorThing" [(.ref 40)] [(.ref 181),(.ref 40),(.type "object")] 180 [] [Ie (.ref 164),none,Ie (kv "ErrorThing" 476),Ie (kv "ErrorThing" 484),Ie (.builtin "object.__new__"),Ie (.bool Ib)]),(201,kl "FiberThing" [(.ref 40)] [(.ref 201),(.ref 40),(.type "object")] 200 [] [Ie (.ref 184),none,Ie (kv "FiberThing" 504),Ie (kv "FiberThing" 512),Ie (.builtin "object.__new__"),Ie (.bool Ib)]),(228,kl "ModuleThing" [(.ref 40)] [(.ref 228),(.ref 40),(.type "object")] 227 [] [Ie (.ref 204),none,Ie (kv "ModuleThing" 534),Ie (kv "ModuleThing" 542),Ie (.builtin "object.__new__"),Ie (.bool Ib)]),(256,kl "Entry" [(.type "object")] [(.ref 256),(.type "object")] 255 [(.ref 404)] [none,none,Ie (kv "Entry" 581),Ie (kv "Entry" 589),Ie (.builtin "object.__new__"),Ie (.bool Ib)]),(404,kl "GivenEntry" [(.ref 256)] [(.ref 404),(.ref 256),(.type "object")] 403 [] [Ie (.ref 395),none,Ie (kv "GivenEntry" 813),Ie (kv "GivenEntry" 821),Ie (.builtin "object.__new__"),Ie (.bool Ib)]),(609,kl "GemError" [(.type "ValueError")] [(.ref 609),(.type "ValueError"),(.type "Exception"),(.type "BaseException"),(.type "object")] 608 [(.ref 629)] [Ie (.ref 592),none,Ie (kv "GemError" 1092),Ie (kv "GemError" 1100),Ie (.builtin "ValueError.__new__"),Ie (.bool Ib)]),(629,kl "Raised" [(.ref 609)] [(.ref 629),(.ref 609),(.type "ValueError"),(.type "Exception"),(.type "BaseException"),(.type "object")] 628 [] [Ie (.ref 613),none,Ie (kv "Raised" 1120),Ie (kv "Raised" 1128),Ie (.builtin "ValueError.__new__"),Ie (.bool Ib)]),(899,kl "World" [(.type "object")] [(.ref 899),(.type "object")] 898 [] [none,none,Ie (kv "World" 1297),Ie (kv "World" 1305),Ie (.builtin "object.__new__"),Ie (.bool Ib)]),(39,kd (.type "dict") [ke P "__module__" 267 (kv "gemrows.things" 194),ke P "__firstlineno__" 271 (.int 8 270),ke P "__init__" 280 (.ref 37),ke P "__static_attributes__" 287 (.ref 38),ke P "__dict__" 289 (.ref 41),ke P "__weakref__" 291 (.ref 42),ke P "__doc__" 292 .none] 4),(61,kd (.type "dict") [ke P "__module__" 302 (kv "gemrows.things" 194),ke P "__firstlineno__" 306 (.int 17 305),ke P "__init__" 317 (.ref 59),ke P "__static_attributes__" 319 (.ref 60),ke P "__doc__" 320 .none] 2),(81,kd (.type "dict") [ke P "__module__" 330 (kv "gemrows.things" 194),ke P "__firstlineno__" 334 (.int 22 333),ke P "__init__" 344 (.ref 79),ke P "__static_attributes__" 346 (.ref 80),ke P "__doc__" 347 .none] 2),(119,kd (.type "dict") [ke P "__module__" 357 (kv "gemrows.things" 194),ke P "__firstlineno__" 361 (.int 27 360),ke P "__init__" 370 (.ref 98),ke P "put" 381 (.ref 105),ke P "row" 389 (.ref 112),ke P "pairs" 395 (.ref 117),ke P "__static_attributes__" 398 (.ref 118),ke P "__doc__" 399 .none] 2),(139,kd (.type "dict") [ke P "__module__" 409 (kv "gemrows.things" 194),ke P "__firstlineno__" 413 (.int 47 412),ke P "__init__" 425 (.ref 137),ke P "__static_attributes__" 429 (.ref 138),ke P "__doc__" 430 .none] 2),(160,kd (.type "dict") [ke P "__module__" 440 (kv "gemrows.things" 194),ke P "__firstlineno__" 444 (.int 54 443),ke P "__init__" 462 (.ref 158),ke P "__static_attributes__" 472 (.ref 159),ke P "__doc__" 473 .none] 2),(180,kd (.type "dict") [ke P "__module__" 483 (kv "gemrows.things" 194),ke P "__firstlineno__" 487 (.int 67 486),ke P "__init__" 497 (.ref 178),ke P "__static_attributes__" 500 (.ref 179),ke P "__doc__" 501 .none] 2),(200,kd (.type "dict") [ke P "__module__" 511 (kv "gemrows.things" 194),ke P "__firstlineno__" 515 (.int 73 514),ke P "__init__" 525 (.ref 198),ke P "__static_attributes__" 530 (.ref 199),ke P "__doc__" 531 .none] 2),(227,kd (.type "dict") [ke P "__module__" 541 (kv "gemrows.things" 194),ke P "__firstlineno__" 545 (.int 81 544),ke P "__init__" 558 (.ref 218),ke P "is_own" 565 (.ref 225),ke P "__static_attributes__" 577 (.ref 226),ke P "__doc__" 578 .none] 2),(255,kd (.type "dict") [ke P "__module__" 588 (kv "gemrows.things" 194),ke P "__firstlineno__" 592 (.int 99 591),ke P "__init__" 606 (.ref 245),ke P "moved" 617 (.ref 253),ke P "__static_attributes__" 626 (.ref 254),ke P "__dict__" 628 (.ref 257),ke P "__weakref__" 630 (.ref 258),ke P "__doc__" 631 .none] 4),(403,kd (.type "dict") [ke P "__module__" 820 (kv "gemrows.lines" 754),ke P "__firstlineno__" 824 (.int 255 823),ke P "__static_attributes__" 825 (.ref 402),ke P "__doc__" 826 .none] 2),(608,kd (.type "dict") [ke P "__module__" 1099 (kv "gemrows.errors" 1090),ke P "__firstlineno__" 1103 (.int 399 1102),ke P "__init__" 1112 (.ref 606),ke P "__static_attributes__" 1114 (.ref 607),ke P "__weakref__" 1116 (.ref 610),ke P "__doc__" 1117 .none] 3),(628,kd (.type "dict") [ke P "__module__" 1127 (kv "gemrows.errors" 1090),ke P "__firstlineno__" 1131 (.int 404 1130),ke P "__init__" 1139 (.ref 626),ke P "__static_attributes__" 1141 (.ref 627),ke P "__doc__" 1142 .none] 2),(898,kd (.type "dict") [ke P "__module__" 1304 (kv "gemrows.world" 1145),ke P "__firstlineno__" 1308 (.int 414 1307),ke P "__init__" 1321 (.ref 659),ke P "tick" 1328 (.ref 666),ke P "write" 1336 (.ref 673),ke P "number" 1343 (.ref 680),ke P "next_ident" 1350 (.ref 687),ke P "ident" 1359 (.ref 694),ke P "builtin" 1368 (.ref 701),ke P "make_builtin" 1374 (.ref 706),ke P "give_own" 1382 (.ref 713),ke P "new_module" 1397 (.ref 721),ke P "class_of" 1405 (.ref 728),ke P "own_of" 1413 (.ref 735),ke P "own_behind" 1422 (.ref 742),ke P "root_of" 1430 (.ref 749),ke P "real_class" 1438 (.ref 756),ke P "text" 1446 (.ref 763),ke P "list_of" 1454 (.ref 770),ke P "table_of" 1462 (.ref 777),ke P "key_of" 1470 (.ref 784),ke P "range_of" 1480 (.ref 791),ke P "proc" 1497 (.ref 798),ke P "thing" 1507 (.ref 805),ke P "is_error_class" 1515 (.ref 812),ke P "spread" 1523 (.ref 819),ke P "error" 1532 (.ref 826),ke P "fail" 1541 (.ref 833),ke P "need_thawed" 1549 (.ref 840),ke P "set_field" 1559 (.ref 847),ke P "describe" 1567 (.ref 854),ke P "own_constant" 1576 (.ref 861),ke P "find_constant" 1585 (.ref 868),ke P "constant" 1594 (.ref 875),ke P "find_in" 1603 (.ref 882),ke P "constant_in" 1612 (.ref 889),ke P "set_constant" 1622 (.ref 896),ke P "__static_attributes__" 1638 (.ref 897),ke P "__dict__" 1640 (.ref 900),ke P "__weakref__" 1642 (.ref 901),ke P "__doc__" 1643 .none] 4),(37,kf (s2 5 0) "Thing.__init__" .none (kv "gemrows.things" 194) (.ref 36)),(59,kf (s2 6 0) "Text.__init__" (.ref 52) (kv "gemrows.things" 194) (.ref 58)),(79,kf (s2 7 0) "ListThing.__init__" (.ref 72) (kv "gemrows.things" 194) (.ref 78)),(98,kf (s2 8 0) "TableThing.__init__" .none (kv "gemrows.things" 194) (.ref 97)),(117,kf (s2 8 3) "TableThing.pairs" .none (kv "gemrows.things" 194) (.ref 116)),(137,kf (s2 9 0) "RangeThing.__init__" (.ref 130) (kv "gemrows.things" 194) (.ref 136)),(158,kf (s2 10 0) "ProcThing.__init__" (.ref 151) (kv "gemrows.things" 194) (.ref 157)),(178,kf (s2 11 0) "ErrorThing.__init__" (.ref 171) (kv "gemrows.things" 194) (.ref 177)),(198,kf (s2 12 0) "FiberThing.__init__" (.ref 191) (kv "gemrows.things" 194) (.ref 197)),(218,kf (s2 13 0) "ModuleThing.__init__" (.ref 211) (kv "gemrows.things" 194) (.ref 217)),(225,kf (s2 13 1) "ModuleThing.is_own" .none (kv "gemrows.things" 194) (.ref 224)),(245,kf (s2 14 0) "Entry.__init__" (.ref 238) (kv "gemrows.things" 194) (.ref 244)),(253,kf (s2 14 1) "Entry.moved" (.ref 246) (kv "gemrows.things" 194) (.ref 252)),(267,kf (s1 15) "sort_of" .none (kv "gemrows.things" 194) (.ref 266)),(274,kf (s1 16) "same" .none (kv "gemrows.things" 194) (.ref 273)),(308,kf (s1 21) "full_name" .none (kv "gemrows.things" 194) (.ref 307)),(346,kf (s1 27) "show_thing" .none (kv "gemrows.things" 194) (.ref 345)),(361,kf (s1 29) "show" (.ref 354) (kv "gemrows.things" 194) (.ref 360)),(368,kf (s1 31) "has_thing" .none (kv "gemrows.lines" 754) (.ref 367)),(375,kf (s1 32) "own_line" .none (kv "gemrows.lines" 754) (.ref 374)),(380,kf (s1 33) "ahead_count" .none (kv "gemrows.lines" 754) (.ref 379)),(385,kf (s1 34) "made_line" .none (kv "gemrows.lines" 754) (.ref 384)),(392,kf (s1 35) "line_of" .none (kv "gemrows.lines" 754) (.ref 391)),(420,kf (s1 40) "given_entry" .none (kv "gemrows.lines" 754) (.ref 419)),(432,kf (s1 42) "entry_at" .none (kv "gemrows.lines" 754) (.ref 431)),(439,kf (s1 43) "first_entry" .none (kv "gemrows.lines" 754) (.ref 438)),(446,kf (s1 44) "find" .none (kv "gemrows.lines" 754) (.ref 445)),(453,kf (s1 45) "find_behind" .none (kv "gemrows.lines" 754) (.ref 452)),(460,kf (s1 46) "raise_version" .none (kv "gemrows.lines" 754) (.ref 459)),(467,kf (s1 47) "need_unfrozen" .none (kv "gemrows.lines" 754) (.ref 466)),(474,kf (s1 48) "own_module" .none (kv "gemrows.lines" 754) (.ref 473)),(481,kf (s1 49) "define" .none (kv "gemrows.lines" 754) (.ref 480)),(488,kf (s1 50) "place_entry" .none (kv "gemrows.lines" 754) (.ref 487)),(495,kf (s1 51) "kind_word" .none (kv "gemrows.lines" 754) (.ref 494)),(502,kf (s1 52) "need_entry" .none (kv "gemrows.lines" 754) (.ref 501)),(509,kf (s1 53) "undefine" .none (kv "gemrows.lines" 754) (.ref 508)),(516,kf (s1 54) "remove" .none (kv "gemrows.lines" 754) (.ref 515)),(523,kf (s1 55) "copied" .none (kv "gemrows.lines" 754) (.ref 522)),(530,kf (s1 56) "alias" .none (kv "gemrows.lines" 754) (.ref 529)),(537,kf (s1 57) "set_sight" .none (kv "gemrows.lines" 754) (.ref 536)),(544,kf (s1 58) "need_mixin" .none (kv "gemrows.lines" 754) (.ref 543)),(551,kf (s1 59) "include" .none (kv "gemrows.lines" 754) (.ref 550)),(558,kf (s1 60) "prepend" .none (kv "gemrows.lines" 754) (.ref 557)),(565,kf (s1 61) "extend" .none (kv "gemrows.lines" 754) (.ref 564)),(572,kf (s1 62) "is_a" .none (kv "gemrows.lines" 754) (.ref 571)),(577,kf (s1 63) "own_names" .none (kv "gemrows.lines" 754) (.ref 576)),(584,kf (s1 64) "names_of" .none (kv "gemrows.lines" 754) (.ref 583)),(591,kf (s1 65) "respond" .none (kv "gemrows.lines" 754) (.ref 590)),(606,kf (s2 67 0) "GemError.__init__" (.ref 599) (kv "gemrows.errors" 1090) (.ref 605)),(626,kf (s2 68 0) "Raised.__init__" .none (kv "gemrows.errors" 1090) (.ref 625)),(659,kf (s2 74 0) "World.__init__" (.ref 652) (kv "gemrows.world" 1145) (.ref 658)),(680,kf (s2 74 3) "World.number" .none (kv "gemrows.world" 1145) (.ref 679)),(694,kf (s2 74 5) "World.ident" .none (kv "gemrows.world" 1145) (.ref 693)),(701,kf (s2 74 6) "World.builtin" .none (kv "gemrows.world" 1145) (.ref 700)),(706,kf (s2 74 7) "World.make_builtin" .none (kv "gemrows.world" 1145) (.ref 705)),(713,kf (s2 74 8) "World.give_own" .none (kv "gemrows.world" 1145) (.ref 712)),(721,kf (s2 74 9) "World.new_module" (.ref 714) (kv "gemrows.world" 1145) (.ref 720)),(728,kf (s2 74 10) "World.class_of" .none (kv "gemrows.world" 1145) (.ref 727)),(735,kf (s2 74 11) "World.own_of" .none (kv "gemrows.world" 1145) (.ref 734)),(742,kf (s2 74 12) "World.own_behind" .none (kv "gemrows.world" 1145) (.ref 741)),(749,kf (s2 74 13) "World.root_of" .none (kv "gemrows.world" 1145) (.ref 748)),(763,kf (s2 74 15) "World.text" .none (kv "gemrows.world" 1145) (.ref 762)),(805,kf (s2 74 21) "World.thing" .none (kv "gemrows.world" 1145) (.ref 804)),(812,kf (s2 74 22) "World.is_error_class" .none (kv "gemrows.world" 1145) (.ref 811)),(826,kf (s2 74 24) "World.error" .none (kv "gemrows.world" 1145) (.ref 825)),(833,kf (s2 74 25) "World.fail" .none (kv "gemrows.world" 1145) (.ref 832)),(908,kf (s1 76) "_law_model" .none (kv "law_nz0053_01" 1646) (.ref 907)),(915,kf (s1 77) "_law_paths" .none (kv "law_nz0053_01" 1646) (.ref 914)),(920,kf (s1 78) "_law_line" .none (kv "law_nz0053_01" 1646) (.ref 919)),(927,kf (s1 79) "_law_found" .none (kv "law_nz0053_01" 1646) (.ref 926)),(932,kf (s1 80) "_law_mixed" .none (kv "law_nz0053_01" 1646) (.ref 931)),(939,kf (s1 81) "_law_deed" .none (kv "law_nz0053_01" 1646) (.ref 938)),(946,kf (s1 82) "_law_done" .none (kv "law_nz0053_01" 1646) (.ref 945)),(953,kf (s1 83) "_law_plain" .none (kv "law_nz0053_01" 1646) (.ref 952)),(960,kf (s1 84) "_law_shown" .none (kv "law_nz0053_01" 1646) (.ref 959)),(967,kf (s1 85) "_law_row" .none (kv "law_nz0053_01" 1646) (.ref 966)),(972,kf (s1 86) "_law_asked_right" .none (kv "law_nz0053_01" 1646) (.ref 971)),(977,kf (s1 87) "_law_names" .none (kv "law_nz0053_01" 1646) (.ref 976)),(984,kf (s1 88) "_law_kinds_right" .none (kv "law_nz0053_01" 1646) (.ref 983)),(989,kf (s1 89) "_law_begun" .none (kv "law_nz0053_01" 1646) (.ref 988)),(994,kf (s1 90) "law" .none (kv "law_nz0053_01" 1646) (.ref 993)),(52,kt [(kv "" 307)] 0),(72,kt [.none] 0),(130,kt [.none,.none,(.bool Ig)] 0),(151,kt [.none,.none,.none,.none,(.ref 150),.none,.none,(.bool Ig),.none] 0),(171,kt [.none] 0),(191,kt [.none] 0),(211,kt [.none,(.bool Ig),.none,.none] 0),(238,kt [.none,.none,(kv "public" 593)] 0),(246,kt [.none] 0),(354,kt [(.int 6 744)] 0),(599,kt [(kv "" 1104)] 0),(652,kt [.none,.none,(.int 20000 1309)] 0),(714,kt [.none,.none,.none] 0),(632,kt [(kv "Kernel" 1147),(kv "Comparable" 1148),(kv "Enumerable" 1149)] 0),(633,kd (.type "dict") (rT P gZ) 40),(636,kd (.type "dict") (rT P dP) 7),(637,kt [(kv "Kernel" 1269)] 0),(638,kt [(kv "Comparable" 1271)] 0),(639,kt [(kv "Comparable" 1273)] 0),(640,kt [(kv "Comparable" 1275)] 0),(641,kt [(kv "Enumerable" 1277)] 0),(642,kt [(kv "Enumerable" 1279)] 0),(643,kt [(kv "Enumerable" 1281)] 0),(644,kt [(kv "NilClass" 1290),(kv "TrueClass" 1291),(kv "FalseClass" 1292),(kv "Integer" 1293),(kv "Numeric" 1294),(kv "Symbol" 1295)] 0)]
noncomputable def KA:List Nat:=[2,3,40,62,82,120,140,161,181,201,228,256,404,609,629,899,39,61,81,119,139,160,180,200,227,255,403,608,628,898,37,59,79,98,117,137,158,178,198,218,225,245,253,267,274,308,346,361,368,375,380,385,392,420,432,439,446,453,460,467,474,481,488,495,502,509,516,523,530,537,544,551,558,565,572,577,584,591,606,626,659,680,694,701,706,713,721,728,735,742,749,763,805,812,826,833,908,915,920,927,932,939,946,953,960,967,972,977,984,989,994,52,72,130,151,171,191,211,238,246,354,599,652,714,632,633,636,637,638,639,640,641,642,643,644]
noncomputable def oV:List (Nat×String):=[(36,"Thing.__init__"),(58,"Text.__init__"),(177,"ErrorThing.__init__"),(217,"ModuleThing.__init__"),(224,"ModuleThing.is_own"),(244,"Entry.__init__"),(252,"Entry.moved"),(266,"sort_of"),(273,"same"),(307,"full_name"),(345,"show_thing"),(360,"show"),(367,"has_thing"),(374,"own_line"),(379,"ahead_count"),(384,"made_line"),(391,"line_of"),(419,"given_entry"),(431,"entry_at"),(438,"first_entry"),(445,"find"),(452,"find_behind"),(459,"raise_version"),(466,"need_unfrozen"),(473,"own_module"),(480,"define"),(487,"place_entry"),(494,"kind_word"),(501,"need_entry"),(508,"undefine"),(515,"remove"),(522,"copied"),(529,"alias"),(536,"set_sight"),(543,"need_mixin"),(550,"include"),(557,"prepend"),(564,"extend"),(571,"is_a"),(576,"own_names"),(583,"names_of"),(590,"respond"),(605,"GemError.__init__"),(625,"Raised.__init__"),(658,"World.__init__"),(679,"World.number"),(700,"World.builtin"),(705,"World.make_builtin"),(712,"World.give_own"),(720,"World.new_module"),(727,"World.class_of"),(734,"World.own_of"),(741,"World.own_behind"),(748,"World.root_of"),(762,"World.text"),(804,"World.thing"),(811,"World.is_error_class"),(825,"World.error"),(832,"World.fail"),(907,"_law_model"),(914,"_law_paths"),(919,"_law_line"),(926,"_law_found"),(931,"_law_mixed"),(938,"_law_deed"),(945,"_law_done"),(952,"_law_plain"),(959,"_law_shown"),(966,"_law_row"),(971,"_law_asked_right"),(976,"_law_names"),(983,"_law_kinds_right"),(988,"_law_begun"),(993,"law")]
noncomputable def tO(h:Hu)(a:Nat):Option Str:=match h.get? a with|Ie ⟨zo,zY,Data.fields vs,zF⟩=>(match(vs[1]?:Option IX)with|Ie (.str q _)=>Ie q|_=>none)|_=>none
noncomputable abbrev mV(s:IS):List (Option Obj)×(List (Option Str)×Bool):=(KA.map s.heap.get?,oV.map (λp=>tO s.heap p.1),(s.heap.get? sysModules).isSome)
noncomputable abbrev mW(w:World):List (Option Obj)×(List (Option Str)×Bool):=((KL w.params).map (λp=>Ie p.2),oV.map (λp=>Ie (Hr p.2)),Ib)
noncomputable def q0:Program:={pw with main:={pw.main with body:=[s1 90]}}
noncomputable def pR:List Str:=["_wall","SIMPLE_ESCAPES","OPERATORS","DEEPEST_KEY","Thing","Text","ListThing","TableThing","RangeThing","ProcThing","ErrorThing","FiberThing","ModuleThing","Entry","sort_of","same","code_of","is_word","is_label","is_plain_symbol","full_name","show_letter","show_text","show_symbol","show_pair","show_range","show_thing","show_error","show","has_thing","own_line","ahead_count","made_line","line_of","PRIVATE_NAMES","PRIVATE_KERNEL","GivenEntry","sight_of","given_entry","given_names","entry_at","first_entry","find","find_behind","raise_version","need_unfrozen","own_module","define","place_entry","kind_word","need_entry","undefine","remove","copied","alias","set_sight","need_mixin","include","prepend","extend","is_a","own_names","names_of","respond","GemError","Raised","MODULES","BUILTINS","MIXED","UNMADE","World","_law_model","_law_paths","_law_line","_law_found","_law_mixed","_law_deed","_law_done","_law_plain","_law_shown","_law_row","_law_asked_right","_law_names","_law_kinds_right","_law_begun"].map Hr
noncomputable def Xs:List Nat:=[17,18,114,24,106,104,47,62,59,161,0,21,11,42,19,174,80,94,41,34,61,35,89,63,14,115,111,158,197,163,202,88,30,99,49,107,98,110,191,164,57,100,55,72,38,69,134,105,71,36,120,162,128,179,184,76,183,170,156,124,157,147,182,176,169,185,136,141,138]
open PySem PySem.W PySem.Calls PyProof.Rows
noncomputable abbrev Vv(w:World)(b:Bool)(os:OsState):Option SharedT:=kS (Fast.tw6613529449190102663 11 (Ie (.ref 6))) (Fast.tw10156331382660048174 (Fast.tw11892475500146522536 Fast.tw14364793385576792824) pw (w.withFollow "special-get-raises" b)) 15790 ⟨jy w.params,11,(boot_heap w.params).life,F7 [],boot_drawn,boot_toks,os⟩ (topStub pw)
theorem Kz(w:World)(os:OsState):(Vv w Ig os).map (λs=>(gz pw w.params s.abs,Fh q0 pR (importedModules pw.main.body) (λzz=>Ib) Ib s.abs,mV s.abs))=Ie (Ib,openGood q0 pR,mW (w.withFollow "special-get-raises" Ig)):=by kernel_rfl
theorem Kx(w:World)(os:OsState):(Vv w Ib os).map (λs=>(gz pw w.params s.abs,Fh q0 pR (importedModules pw.main.body) (λzz=>Ib) Ib s.abs,mV s.abs))=Ie (Ib,openGood q0 pR,mW (w.withFollow "special-get-raises" Ib)):=by kernel_rfl
theorem M5:opening pw=plainProg pw.main.scope.names:=by kernel_rfl
theorem M7:∀s,fenceModules? pw s=Ie s:=λs=>by kernel_rfl
theorem M6:(chainsOk q0&&opensWell pw&&(frees Hh.row.toRowW&&Hh.row.toRowW.within.isEmpty))=Ib:=by kernel_rfl
theorem M4:Hh.wellSaid=Ib:=by rw[Fast.te9446332074065402090];kernel_rfl
theorem left:LeftO pw q0 pR (λzz=>Ib) mV mW 15790 Ib:=NB (row:="special-get-raises") M5 rfl M7 λw b os=>by
 rewrite[Fast.te6613529449190102663];rewrite[Fast.te10156331382660048174];rewrite[Fast.te11892475500146522536];rewrite[Fast.te14364793385576792824];rw[Fast.te4187177175401517315];cases b;.exact Kz w os
 .exact Kx w os
open PySem PySem.W PySem.Calls PyProof.Rows
set_option genCtorIdx true in inductive Bi where|len|sum|isinstance|abs|sorted|nY|df|dU|de|zE|fw|m4|c9
set_option genCtorIdx true in inductive Ty where|bool|int|str|list|dict|cA|range|enum
set_option genInjectivity true in inductive V where|none|bool(b:Bool)|int(i:Int)|str(s:List Nat)|tup(vs:List V)|ref(n:Nat)|fn(a:Nat)|cl(a:Nat)|bi(b:Bi)|ty(t:Ty)
set_option genInjectivity true in inductive O where|list(xs:List V)|dict(es:List (List Nat×V))|uy(es:List (List Nat×V))|qC(xs:List V)|inst(c:Nat)(fs:List (Nat×V))|exc(c:Nat)(t:Bool)(fs:List (Nat×V))
noncomputable def V.ctorIdx(x:V):Nat:=@V.casesOn (λ_=>Nat) x 0 (λzz=>1) (λzz=>2) (λzz=>3) (λzz=>4) (λzz=>5) (λzz=>6) (λzz=>7) (λzz=>8) (λzz=>9)
noncomputable def O.ctorIdx(x:O):Nat:=@O.casesOn (λ_=>Nat) x (λzz=>0) (λzz=>1) (λzz=>2) (λzz=>3) (λzz zz=>4) (λzz zz zz=>5)
noncomputable abbrev St:=List O
noncomputable abbrev Loc:=List (Nat×V)
inductive R(zi:Type)where|ok(a:zi)(J:St)|exc(e:V)(J:St)
inductive Fl where|next|ret(v:V)
inductive SR where|ok(f:Fl)(L:Loc)(J:St)|exc(e:V)(L:Loc)(J:St)
noncomputable def lk(x:Nat):Loc->Option V|[]=>none|(y,v)::r=>match IP x y with|Ib=>Ie v|Ig=>lk x r
noncomputable def st(x:Nat)(v:V):Loc->Loc|[]=>[(x,v)]|(y,w)::r=>match IP x y with|Ib=>(x,v)::r|Ig=>(y,w)::st x v r
noncomputable def rm(x:Nat):Loc->Loc|[]=>[]|(y,w)::r=>match IP x y with|Ib=>rm x r|Ig=>(y,w)::rm x r
set_option genCtorIdx true in inductive qK where|add|sub|mul|floordiv|mod|pow
set_option genCtorIdx true in inductive rt where|eq|ne|lt|is|yO|yM|y5
set_option genCtorIdx true in inductive IK where|plain|range|enum|items
inductive M where|qf|none|bool(b:Bool)|int(i:Int)|str(s:List Nat)|neg(i:Nat)|loc(x:Nat)|zu(x:Nat)|nil|cons(e es:M)|kv(k v r:M)|tup(es:M)|lst(es:M)|wY(kvs:M)|attr(e:M)(x:Nat)|sub(e i:M)|qQ(e i:M)|pD(e i:M)|pC(e:M)|wQ(e:M)|call(f args:M)|zl(o:M)(x:Nat)(args:M)|bin(op:qK)(a b:M)|not(e:M)|cmp(op:rt)(a b:M)|and(es:M)|or(es:M)|ite(c a b:M)|comp(elt:M)(xs:List Nat)(k:IK)(it:M)(y_:M)
noncomputable def M.ctorIdx(x:M):Nat:=@M.casesOn (λ_=>Nat) x 0 1 (λzz=>2) (λzz=>3) (λzz=>4) (λzz=>5) (λzz=>6) (λzz=>7) 8 (λzz zz=>9) (λzz zz zz=>10) (λzz=>11) (λzz=>12) (λzz=>13) (λzz zz=>14) (λzz zz=>15) (λzz zz=>16) (λzz zz=>17) (λzz=>18) (λzz=>19) (λzz zz=>20) (λzz zz zz=>21) (λzz zz zz=>22) (λzz=>23) (λzz zz zz=>24) (λzz=>25) (λzz=>26) (λzz zz zz=>27) (λzz zz zz zz zz=>28)
inductive S where|qf|nil|cons(s r:S)|expr(e:M)|ret(e:M)|asg(x:Nat)(e:M)|y8(xs:List Nat)(e:M)|z9(o:M)(x:Nat)(e:M)|y3(o i:M)(e:M)|mT(o i o' i':M)(e:M)|qF(o:M)(x:Nat)(e:M)|cond(c:M)(a b:S)|while(c:M)(b:S)|for(xs:List Nat)(k:IK)(it:M)(b:S)|raise(e:M)|try(b:S)(x:Nat)(h:M)
structure FD where
 params:List Nat
 dflt:List V
 body:S
noncomputable def u1:Nat:=1000000
noncomputable def short{zi:Type}(l:List zi):Bool:=H5 l.length u1
noncomputable def small(i:Int):Bool:=H5 i.natAbs (2^60)
noncomputable def zR:List Nat->List Nat->Bool|[],[]=>Ib|a::r,b::t=>IP a b&&zR r t|zo,zY=>Ig
noncomputable def zE(k:List Nat):List (List Nat×V)->Option V|[]=>none|(a,v)::r=>match zR k a with|Ib=>Ie v|Ig=>zE k r
noncomputable def dput(k:List Nat)(v:V):List (List Nat×V)->List (List Nat×V)|[]=>[(k,v)]|(a,w)::r=>match zR k a with|Ib=>(a,v)::r|Ig=>(a,w)::dput k v r
noncomputable def sd(k:List Nat):List (List Nat×V)->List (List Nat×V)|[]=>[]|(a,w)::r=>match zR k a with|Ib=>r|Ig=>(a,w)::sd k r
noncomputable abbrev tw(ps es:List (List Nat×V)):List (List Nat×V):=ps.foldl (λd p=>dput p.1 p.2 d) es
noncomputable def stores:List Nat->List V->Loc->Option Loc|[],[],L=>Ie L|x::xs,v::vs,L=>stores xs vs (st x v L)|zo,zY,zF=>none
noncomputable def vK(xs:List Nat)(v:V)(L:Loc):Option Loc:=match xs,v with|[x],v=>Ie (st x v L)|xs,.tup vs=>stores xs vs L|zo,zY=>none
noncomputable def ug(params:List Nat)(dflt args:List V):Option Loc:=if args.length<=params.length/\params.length<=args.length+dflt.length then Ie (params.zip (args++dflt.drop (dflt.length-(params.length-args.length))))else none
noncomputable def dig:Nat->Nat->List Nat|0,zo=>[]|f+1,n=>match IP n 0 with|Ib=>[]|Ig=>n%256::dig f (n/256)
noncomputable def cC:List Nat->Nat|[]=>0|d::r=>d+256*cC r
theorem cB:∀(f n:Nat),n<256^f->cC (dig f n)=n|0,n,h=>by simp at h;subst h;rfl|f+1,n,h=>by unfold dig;cases q:IP n 0 with|true=>exact(IJ q).symm|false=>show n%256+256*cC (dig f (n/256))=n;rw[cB f (n/256) (by rw[Nat.div_lt_iff_lt_mul (by decide)];rw[Nat.pow_succ]at h;exact h)];exact Nat.mod_add_div n 256
noncomputable def rP:List Nat:=[0x656d616e,0x646c726f77,0x656c75646f6d,0x666c6573,0x646e756f66,0x656e6f,0x65756c6176,0x6c65646f6d,0x676e69796173,0x6e776f6e6b,0x7473657567,0x746e65726170,0x6b,0x746968,0x7468676973,0x6e,0x796177,0x7265626d756e,0x72656e776f,0x73646f6874656d,0x7972746e65,0x7373616c635f7369,0x646e69686562,0x65636e6174736e697369,0x6e776f,0x736b72616d,0x65726f6d,0x6e6978696d,0x64656564,0x73656d616e,0x646e65707061,0x6e656c,0x68746170,0x656e696c,0x65766974616e,0x74726f73,0x676e696874,0x6c6c616d73,0x6e69746c697562,0x65726568,0x64656b7361,0x6465686361747461,0x726574756f,0x676e6968745f736168,0x676e696854656c75646f4d,0x746e69,0x776f72,0x5f5f74696e695f5f,0x64656b73615f64726f77,0x746567,0x676e6974696177,0x65646973,0x302e,0x6563616c70,0x656e696c5f77616c5f,0x656c75646f6d5f77656e,0x657564,0x6c696166,0x7473726966,0x6567617373656d,0x656d616e5f6c6c7566,0x7470656b,0x74786574,0x79646f62,0x676e696854,0x6e69616863,0x726568746f,0x74615f7972746e65,0x656c75646f6d5f6e776f,0x706f70,0x727473,0x6e6f73616572,0x6e776f5f7369,0x646e756f665f77616c5f,0x6e6f69737265765f6573696172,0x74686769725f64656b73615f77616c5f,0x6564616d,0x746f6c73,0x746f6f72,0x6465646e65,0x646578696d,0x666f5f656e696c,0x656e696c5f6e776f,0x7972746e655f6465656e,0x646e6966,0x656d6173,0x70656564,0x746e756f63,0x646e65747865,0x736d61726170,0x666f5f73656d616e,0x676e6968747972657665,0x73656d616e5f77616c5f,0x6e657a6f72666e755f6465656e,0x6461656861,0x7972746e45,0x73646e617473,0x747069726373,0x6564756c657270,0x6e6f6973726576,0x666f5f7373616c63,0x646565645f77616c5f,0x656e6f645f77616c5f,0x74686769725f73646e696b5f77616c5f,0x746e656469,0x666f5f6e776f,0x6e657a6f7266,0x7365766974616e,0x7972746e456e65766947,0x110000,0x64616572,0x65646f63,0x6c6f6f62,0x6472616568,0x73646c656966,0x676e697473656e,0x73687461705f77616c5f,0x7972746e655f7473726966,0x736261,0x65646f6e,0x74736f6d,0x74786554,0x6564756c636e69,0x73746e65726170,0x79646165725f7369,0x676e696854726f727245,0x6e69616c705f77616c5f,0x6e6978696d5f6465656e,0x7265626d756e5f7473616c,0x7972746e655f6e65766967,0x615f7369,0x646c6f74,0x6d657469,0x444558494d,0x6465766f6d,0x72656e6e69,0x726f727265,0x7361696c61,0x7865646e69,0x646573696152,0x656e69666564,0x657461647075,0x65766f6d6572,0x646e6570657270,0x646e6f70736572,0x666f5f74726f73,0x656e696665646e75,0x6e776f5f65766967,0x64726f775f646e696b,0x676e696854636f7250,0x676e6968547473694c,0x74686769735f746573,0x676e69685465676e6152,0x676e696854656c626154,0x6e776f68735f77616c5f,0x7972746e655f6563616c70,0x74756f,0x6e69616d,0x6e696f6a,0x74636964,0x776f6873,0x6573756163,0x6e656b6174,0x7372696170,0x7374726170,0x646569706f63,0x656372756f73,0x73676e696874,0x53454c55444f4d,0x666f5f746f6f72,0x736c61626f6c67,0x534e49544c495542,0x776f725f77616c5f,0x656e696c5f6564616d,0x73746e6174736e6f63,0x646578696d5f77616c5f,0x646e696865625f6e776f,0x6c65646f6d5f77616c5f,0x6e756765625f77616c5f,0x746e6564695f7473616c,0x646e696865625f646e6966,0x746e756f635f6461656861,0x6e69746c6975625f656b616d,0x6e6f69737265765f74736e6f63,0x73746e6564695f6c6f626d7973,0x7373616c635f726f7272655f7369,0x65,0x646c6f,0x6d7573,0x77656e,0x79656b,0x646e696b,0x65657274,0x74736572,0x7473696c,0x646c726f57,0x65676e6172,0x736d657469,0x4544414d4e55,0x646574726f73,0x666f5f7468676973,0x726f7272456d6547,0x6164626d616c5f7369,0x65746172656d756e65,0x73656d616e5f6e776f,0x676e6968547265626946,0x676e6968745f776f6873,0x726f72724565756c6156,0x747570,0x77616c,0x636f7270,0x6b636974,0x6574697277,0x646165727073,0x666f5f79656b,0x666f5f7473696c,0x6e695f646e6966,0x6562697263736564,0x666f5f65676e6172,0x666f5f656c626174,0x746e6174736e6f63,0x646c6569665f746573,0x6e6f74656c676e6973,0x726961705f776f6873,0x747865745f776f6873,0x726f7272655f776f6873,0x7373616c635f6c616572,0x746e6564695f7478656e,0x6465776168745f6465656e,0x6c6f626d79735f776f6873,0x6e695f746e6174736e6f63,0x73656d616e5f6e65766967,0x746e6174736e6f635f6e776f,0x746e6174736e6f635f746573,0x746e6174736e6f635f646e6966]
noncomputable def dJ(x:Nat):Nat:=rP.getD x (2^200+x)
theorem MN:∀a∈rP,a<2^200:=by decide+kernel
theorem We{a x y:Nat}(h:2^200+x=a)(k:rP[y]?=Ie a):False:=Fg.mpr (h▸HE _ _) (MN a (I9 k))
theorem MO{x y:Nat}(h:dJ x=dJ y):x=y:=by
 have h:(rP[x]?).getD (2^200+x)=(rP[y]?).getD (2^200+y):=h;cases hx:rP[x]? with
 |none=>cases hy:rP[y]? with|none=>rw[hx,hy]at h;exact Nat.add_left_cancel h|some b=>rw[hx,hy]at h;exact(We h hy).elim
 |some a=>cases hy:rP[y]? with|none=>rw[hx,hy]at h;exact(We h.symm hx).elim|some b=>rw[hx,hy]at h;exact(List.getElem?_inj (IF.mp hx).1 (by decide+kernel:rP.Nodup)).mp (hx.trans ((congrArg Ie h).trans hy.symm))
noncomputable def dM(x:Nat):Str:=⟨(dig (x.log2/8+1) x).toArray⟩
theorem MS{x y:Nat}(h:dM x=dM y):x=y:=by
 obtain lt:∀x:Nat,x<256^(x.log2/8+1):=λx=>by rw[show(256:Nat)=2^8 by decide,<-Nat.pow_mul];exact HY (Nat.lt_log2_self (n:=x)) (Nat.pow_le_pow_right (by decide) (by lia))
 rewrite[<-cB _ x (lt x)];rewrite[<-cB _ y (lt y)];rw[Di (congrArg Str.cps h)]
noncomputable def nm(x:Nat):Str:=dM (dJ x)
theorem dK{x y:Nat}(h:nm x=nm y):x=y:=MO (MS h)
theorem iV{x y:Nat}(h:x≠y):nm x≠nm y:=λq=>h (dK q)
noncomputable def tx(s:List Nat):Str:=⟨s.toArray⟩
theorem mz{s t:List Nat}(h:tx s=tx t):s=t:=Di (congrArg Str.cps h)
noncomputable def Bi.id:Bi->String|.len=>"len"|.sum=>"sum"|.isinstance=>"isinstance"|.abs=>"abs"|.sorted=>"sorted"|.nY=>"list.append"|.df=>"list.extend"|.dU=>"list.pop"|.de=>"list.index"|.zE=>"dict.get"|.fw=>"dict.pop"|.m4=>"dict.update"|.c9=>"ValueError.__init__"
noncomputable def Ty.id:Ty->String|.bool=>"bool"|.int=>"int"|.str=>"str"|.list=>"list"|.dict=>"dict"|.cA=>"ValueError"|.range=>"range"|.enum=>"enumerate"
structure Dc where
 p:Pos
 k:Nat
 sc:Scope
 e:Expr
 s:Stmt
noncomputable abbrev Pi:=List Nat->Dc
noncomputable def sh(zw:Pi)(i:Nat):Pi:=λl=>zw (i::l)
noncomputable def ax:qK->Operator|.add=>.Add|.sub=>.Sub|.mul=>.Mult|.floordiv=>.FloorDiv|.mod=>.Mod|.pow=>.Pow
noncomputable def jq:rt->CmpOp|.eq=>.Eq|.ne=>.NotEq|.lt=>.Lt|.is=>.Is|.yO=>.IsNot|.yM=>.In|.y5=>.NotIn
noncomputable def vz(zw:Pi):List Nat->List Expr|[]=>[]|x::r=>.Name (nm x) (zw [0]).p::vz (sh zw 1) r
noncomputable def toT(zw:Pi)(xs:List Nat):Expr:=match xs with|[x]=>.Name (nm x) (zw []).p|xs=>.Tuple (vz (sh zw 0) xs) (zw []).k (zw []).p
noncomputable def pA(zw:Pi)(k:IK)(e:Expr):Expr:=match k with|.plain=>e|.range=>.Call (.Name "range" (zw [2]).p) [e] [] (zw []).p|.enum=>.Call (.Name "enumerate" (zw [2]).p) [e] [] (zw []).p|.items=>.Call (.Attribute e "items" (zw [2]).p) [] [] (zw []).p
noncomputable def s9(zw:Pi)(k:IK):Pi:=match k with|.plain=>zw|.items=>sh zw 0|_=>sh (sh zw 1) 0
mutual
noncomputable def zW:M->Pi->Expr|.none,zw=>.Constant .none (zw []).k (zw []).p|.bool b,zw=>.Constant (.bool b) (zw []).k (zw []).p|.int i,zw=>.Constant (.int i) (zw []).k (zw []).p|.str s,zw=>.Constant (.str (tx s)) (zw []).k (zw []).p|.neg i,zw=>.UnaryOp .USub (.Constant (.int i) (zw [0]).k (zw [0]).p) (zw []).p|.loc x,zw=>.Name (nm x) (zw []).p|.zu x,zw=>.Name (nm x) (zw []).p|.tup es,zw=>.Tuple (xQ es (sh zw 0)) (zw []).k (zw []).p|.lst es,zw=>.List (xQ es (sh zw 0)) (zw []).p|.wY kvs,zw=>.Dict (n8 kvs (sh zw 0)) (hF kvs (sh zw 0)) (zw []).p|.attr e x,zw=>.Attribute (zW e (sh zw 0)) (nm x) (zw []).p|.sub e i,zw=>.Subscript (zW e (sh zw 0)) (zW i (sh zw 1)) (zw []).p|.qQ e i,zw=>.Subscript (zW e (sh zw 0)) (.Slice (Ie (zW i (sh zw 2))) none none (zw [1]).p) (zw []).p|.pD e i,zw=>.Subscript (zW e (sh zw 0)) (.Slice none (Ie (zW i (sh zw 2))) none (zw [1]).p) (zw []).p|.pC e,zw=>.Subscript (zW e (sh zw 0)) (.Slice none none (Ie (.UnaryOp .USub (.Constant (.int 1) (zw [2,0]).k (zw [2,0]).p) (zw [2]).p)) (zw [1]).p) (zw []).p|.wQ e,zw=>.Subscript (zW e (sh zw 0)) (.Slice (Ie (.Constant (.int 1) (zw [2]).k (zw [2]).p)) (Ie (.UnaryOp .USub (.Constant (.int 1) (zw [3,0]).k (zw [3,0]).p) (zw [3]).p)) none (zw [1]).p) (zw []).p|.call f args,zw=>.Call (zW f (sh zw 0)) (xQ args (sh zw 1)) [] (zw []).p|.zl o x args,zw=>.Call (.Attribute (zW o (sh zw 0)) (nm x) (zw [2]).p) (xQ args (sh zw 1)) [] (zw []).p|.bin op a b,zw=>.BinOp (zW a (sh zw 0)) (ax op) (zW b (sh zw 1)) (zw []).p|.not e,zw=>.UnaryOp .Not (zW e (sh zw 0)) (zw []).p|.cmp op a b,zw=>.Compare (zW a (sh zw 0)) [jq op] [zW b (sh zw 1)] (zw []).p|.and es,zw=>.BoolOp .And (xQ es (sh zw 0)) (zw []).p|.or es,zw=>.BoolOp .Or (xQ es (sh zw 0)) (zw []).p|.ite c a b,zw=>.IfExp (zW c (sh zw 0)) (zW a (sh zw 1)) (zW b (sh zw 2)) (zw []).p|.comp elt xs k it y_,zw=>.ListComp (zW elt (sh zw 0)) [⟨toT (sh zw 1) xs,pA (sh zw 2) k (zW it (s9 (sh zw 2) k)),xQ y_ (sh zw 3),0⟩] (zw []).sc (zw []).p|.qf,zw|.nil,zw|.cons zo zY,zw|.kv zF yX xe,zw=>(zw []).e
noncomputable def xQ:M->Pi->List Expr|.cons e es,zw=>zW e (sh zw 0)::xQ es (sh zw 1)|.tup es,zw=>xQ es zw|zo,zY=>[]
noncomputable def n8:M->Pi->List (Option Expr)|.kv k zo r,zw=>Ie (zW k (sh zw 0))::n8 r (sh zw 2)|zo,zY=>[]
noncomputable def hF:M->Pi->List Expr|.kv zo v r,zw=>zW v (sh zw 1)::hF r (sh zw 2)|zo,zY=>[]
end
mutual
noncomputable def toS:S->Pi->Stmt|.expr e,zw=>.Expr (zW e (sh zw 0)) (zw []).p|.ret e,zw=>.Return (Ie (zW e (sh zw 0))) (zw []).p|.asg x e,zw=>.Assign [.Name (nm x) (zw [0]).p] (zW e (sh zw 1)) (zw []).p|.y8 xs e,zw=>.Assign [.Tuple (vz (sh (sh zw 0) 0) xs) (zw [0]).k (zw [0]).p] (zW e (sh zw 1)) (zw []).p|.z9 o x e,zw=>.Assign [.Attribute (zW o (sh (sh zw 0) 0)) (nm x) (zw [0]).p] (zW e (sh zw 1)) (zw []).p|.y3 o i e,zw=>.Assign [.Subscript (zW o (sh (sh zw 0) 0)) (zW i (sh (sh zw 0) 1)) (zw [0]).p] (zW e (sh zw 1)) (zw []).p|.mT o i o' i' e,zw=>.Assign [.Tuple [.Subscript (zW o (sh (sh (sh (sh zw 0) 0) 0) 0)) (zW i (sh (sh (sh (sh zw 0) 0) 0) 1)) (zw [0,0,0]).p,.Subscript (zW o' (sh (sh (sh (sh (sh zw 0) 0) 1) 0) 0)) (zW i' (sh (sh (sh (sh (sh zw 0) 0) 1) 0) 1)) (zw [0,0,1,0]).p] (zw [0]).k (zw [0]).p] (zW e (sh zw 1)) (zw []).p|.qF o x e,zw=>.AugAssign (.Attribute (zW o (sh (sh zw 0) 0)) (nm x) (zw [0]).p) .Add (zW e (sh zw 1)) (zw []).p|.cond c a b,zw=>.If (zW c (sh zw 0)) (uA a (sh zw 1)) (uA b (sh zw 2)) (zw []).p|.while c b,zw=>.While (zW c (sh zw 0)) (uA b (sh zw 1)) [] (zw []).p|.for xs k it b,zw=>.For (toT (sh zw 0) xs) (pA (sh zw 1) k (zW it (s9 (sh zw 1) k))) (uA b (sh zw 2)) [] (zw []).p|.raise e,zw=>.Raise (Ie (zW e (sh zw 0))) none (zw []).p|.try b x h,zw=>.Try (uA b (sh zw 0)) [.ExceptHandler (Ie (.Name "Raised" (zw [1]).p)) (Ie (nm x)) [.Return (Ie (zW h (sh (sh (sh zw 2) 0) 0))) (zw [2,0]).p] (zw [3]).p] [] [] (zw []).p|.qf,zw|.nil,zw|.cons zo zY,zw=>(zw []).s
noncomputable def uA:S->Pi->List Stmt|.cons s r,zw=>toS s (sh zw 0)::uA r (sh zw 1)|zo,zY=>[]
end
inductive Nd where|e(x:Expr)|es(l:List Expr)|kvs(ks:List (Option Expr))(vs:List Expr)|s(x:Stmt)|ss(l:List Stmt)|hp(p:Pos)|no
noncomputable def NU(x:Expr):List Nd:=match x with|.BoolOp zo l zY|.List l zF|.Tuple l yX xe=>[.es l]|.BinOp a zo b zY=>[.e a,.e b]|.UnaryOp zo a zY=>[.e a]|.IfExp c a b zo=>[.e c,.e a,.e b]|.Dict ks vs zo=>[.kvs ks vs]|.ListComp a [⟨t,it,ifs,zo⟩] zY zF=>[.e a,.e t,.e it,.es ifs]|.Compare a zo (b::zY) zF=>[.e a,.e b]|.Call (.Attribute o x p) l zo zY=>[.e o,.es l,.e (.Attribute o x p)]|.Call f l zo zY=>[.e f,.es l,.e f]|.Attribute a zo zY=>[.e a]|.Subscript a (.Slice lo hi st p) zo=>.e a::.hp p::((lo.toList++hi.toList++st.toList).map .e)|.Subscript a b zo=>[.e a,.e b]|_=>[]
noncomputable def NT(x:Stmt):List Nd:=match x with|.Expr v zo|.Return (Ie v) zY|.Raise (Ie v) zF yX=>[.e v]|.Assign [t] v zo|.AugAssign t zY v zF=>[.e t,.e v]|.If c a b zo=>[.e c,.ss a,.ss b]|.While c a zo zY=>[.e c,.ss a]|.For t it a zo zY=>[.e t,.e it,.ss a]|.Try a [.ExceptHandler (Ie ty) zo h p] zY zF yX=>[.ss a,.e ty,.ss h,.hp p]|_=>[]
noncomputable def Nd.kids:Nd->List Nd|.e x=>NU x|.s x=>NT x|.es (a::r)=>[.e a,.es r]|.ss (a::r)=>[.s a,.ss r]|.kvs (Ie k::ks) (v::vs)=>[.e k,.e v,.kvs ks vs]|_=>[]
noncomputable def Nd.go:Nd->List Nat->Nd|d,[]=>d|d,i::l=>(d.kids.getD i .no).go l
noncomputable def pJ:Pos:=⟨0,0,0,0⟩
noncomputable def Nd.dc(d:Nd):Dc:=match d with|.e x=>{p:=x.pos,k:=match x with|.Constant _ k _|.Tuple _ k _=>k|_=>0,sc:=match x with|.ListComp _ _ sc _=>sc|_=>default,e:=x,s:=.Pass pJ}|.s x=>{p:=x.pos,k:=0,sc:=default,e:=.Name "" pJ,s:=x}|.hp p=>{p:=p,k:=0,sc:=default,e:=.Name "" pJ,s:=.Pass pJ}|_=>{p:=pJ,k:=0,sc:=default,e:=.Name "" pJ,s:=.Pass pJ}
noncomputable def nJ(b:List Stmt):Pi:=λl=>(Nd.go (.ss b) l).dc
open PySem
noncomputable def Tz:S:=(.cons (.z9 (.loc 3) 17 (.loc 17)) (.cons (.z9 (.loc 3) 18 (.loc 18)) (.cons (.z9 (.loc 3) 114 (.wY .nil)) (.cons (.z9 (.loc 3) 24 .none) (.cons (.z9 (.loc 3) 106 (.bool Ig)) (.cons (.z9 (.loc 3) 104 .none) .nil))))))
noncomputable def aV:FD:=⟨[3,17,18],[],Tz⟩
noncomputable def U':S:=(.cons (.expr (.zl (.zu 64) 47 (.cons (.loc 3) (.cons (.loc 17) (.cons (.loc 18) .nil))))) (.cons (.z9 (.loc 3) 62 (.loc 62)) .nil))
noncomputable def mD:FD:=⟨[3,17,18,62],[.str []],U'⟩
noncomputable def U3:S:=(.cons (.expr (.zl (.zu 64) 47 (.cons (.loc 3) (.cons (.loc 17) (.cons (.loc 18) .nil))))) (.cons (.z9 (.loc 3) 59 (.loc 59)) (.cons (.z9 (.loc 3) 161 .none) .nil)))
noncomputable def mG:FD:=⟨[3,17,18,59],[.none],U3⟩
noncomputable def bB:S:=(.cons (.expr (.zl (.zu 64) 47 (.cons (.loc 3) (.cons (.loc 17) (.cons (.loc 18) .nil))))) (.cons (.z9 (.loc 3) 0 (.loc 0)) (.cons (.z9 (.loc 3) 21 (.loc 21)) (.cons (.z9 (.loc 3) 11 (.loc 11)) (.cons (.z9 (.loc 3) 42 (.loc 42)) (.cons (.z9 (.loc 3) 19 (.wY .nil)) (.cons (.z9 (.loc 3) 174 (.wY .nil)) (.cons (.z9 (.loc 3) 80 (.lst .nil)) (.cons (.z9 (.loc 3) 94 (.lst .nil)) (.cons (.z9 (.loc 3) 41 .none) (.cons (.z9 (.loc 3) 34 .none) (.cons (.z9 (.loc 3) 61 .none) .nil))))))))))))
noncomputable def mE:FD:=⟨[3,17,18,0,21,11,42],[.none,.bool Ig,.none,.none],bB⟩
noncomputable def U1:S:=(.cons (.ret (.cmp .yO (.attr (.loc 3) 41) .none)) .nil)
noncomputable def aW:FD:=⟨[3],[],U1⟩
noncomputable def U5:S:=(.cons (.z9 (.loc 3) 0 (.loc 0)) (.cons (.z9 (.loc 3) 18 (.loc 18)) (.cons (.z9 (.loc 3) 35 (.loc 35)) (.cons (.z9 (.loc 3) 89 (.loc 89)) (.cons (.z9 (.loc 3) 63 (.loc 63)) (.cons (.z9 (.loc 3) 14 (.loc 14)) (.cons (.z9 (.loc 3) 115 (.tup .nil)) (.cons (.z9 (.loc 3) 111 .none) .nil))))))))
noncomputable def mI:FD:=⟨[3,0,18,35,89,63,14],[.none,.none,.str [112,117,98,108,105,99]],U5⟩
noncomputable def U4:S:=(.cons (.asg 4 (.call (.zu 95) (.cons (.loc 0) (.cons (.loc 18) (.cons (.attr (.loc 3) 35) (.cons (.attr (.loc 3) 89) (.cons (.attr (.loc 3) 63) (.cons (.ite (.cmp .is (.loc 14) .none) (.attr (.loc 3) 14) (.loc 14)) .nil)))))))) (.cons (.z9 (.loc 4) 115 (.attr (.loc 3) 115)) (.cons (.z9 (.loc 4) 111 (.attr (.loc 3) 111)) (.cons (.ret (.loc 4)) .nil))))
noncomputable def mH:FD:=⟨[3,0,18,14],[.none],U4⟩
noncomputable def Sj:S:=(.cons (.cond (.cmp .is (.loc 6) .none) (.cons (.ret (.str [110,105,108])) .nil) .nil) (.cons (.cond (.call (.zu 23) (.cons (.loc 6) (.cons (.zu 112) .nil))) (.cons (.ret (.str [98,111,111,108])) .nil) .nil) (.cons (.cond (.call (.zu 23) (.cons (.loc 6) (.cons (.zu 45) .nil))) (.cons (.ret (.str [105,110,116])) .nil) .nil) (.cons (.ret (.ite (.call (.zu 23) (.cons (.loc 6) (.cons (.zu 70) .nil))) (.str [115,121,109]) (.str [116,104,105,110,103]))) .nil))))
noncomputable def ZN:FD:=⟨[6],[],Sj⟩
noncomputable def Sn:S:=(.cons (.asg 35 (.call (.zu 145) (.cons (.loc 5) .nil))) (.cons (.cond (.cmp .ne (.loc 35) (.call (.zu 145) (.cons (.loc 66) .nil))) (.cons (.ret (.bool Ig)) .nil) .nil) (.cons (.ret (.ite (.cmp .eq (.loc 35) (.str [116,104,105,110,103])) (.cmp .eq (.attr (.loc 5) 17) (.attr (.loc 66) 17)) (.cmp .eq (.loc 5) (.loc 66)))) .nil)))
noncomputable def ZQ:FD:=⟨[5,66],[],Sn⟩
noncomputable def TV:S:=(.cons (.cond (.cmp .yO (.attr (.loc 2) 41) .none) (.cons (.ret (.bin .add (.bin .add (.str [35,60,67,108,97,115,115,58]) (.call (.zu 160) (.cons (.attr (.loc 2) 41) .nil))) (.str [62]))) .nil) .nil) (.cons (.cond (.cmp .is (.attr (.loc 2) 0) .none) (.cons (.ret (.ite (.attr (.loc 2) 21) (.str [35,60,67,108,97,115,115,62]) (.str [35,60,77,111,100,117,108,101,62]))) .nil) .nil) (.cons (.cond (.cmp .is (.attr (.loc 2) 42) .none) (.cons (.ret (.attr (.loc 2) 0)) .nil) .nil) (.cons (.ret (.bin .add (.bin .add (.call (.zu 60) (.cons (.attr (.loc 2) 42) .nil)) (.str [58,58])) (.attr (.loc 2) 0))) .nil))))
noncomputable def Zy:FD:=⟨[2],[],TV⟩
noncomputable def Sk:S:=(.cons (.cond (.call (.zu 23) (.cons (.loc 6) (.cons (.zu 121) .nil))) (.cons (.ret (.call (.zu 224) (.cons (.attr (.loc 6) 62) .nil))) .nil) .nil) (.cons (.cond (.call (.zu 23) (.cons (.loc 6) (.cons (.zu 150) .nil))) (.cons .qf (.cons (.ret (.bin .add (.bin .add (.str [91]) (.zl (.str [44,32]) 158 (.cons (.comp (.call (.zu 160) (.cons (.loc 132) (.cons (.bin .sub (.loc 86) (.int 1)) .nil))) [132] .plain (.attr (.loc 6) 197) .nil) .nil))) (.str [93]))) .nil)) .nil) (.cons (.cond (.call (.zu 23) (.cons (.loc 6) (.cons (.zu 153) .nil))) (.cons .qf (.cons (.ret (.bin .add (.bin .add (.str [123]) (.zl (.str [44,32]) 158 (.cons (.comp (.call (.zu 223) (.cons (.loc 190) (.cons (.loc 132) (.cons (.bin .sub (.loc 86) (.int 1)) .nil)))) [190,132] .plain (.zl (.loc 6) 163 .nil) .nil) .nil))) (.str [125]))) .nil)) .nil) (.cons (.cond (.call (.zu 23) (.cons (.loc 6) (.cons (.zu 152) .nil))) (.cons .qf .nil) .nil) (.cons (.cond (.call (.zu 23) (.cons (.loc 6) (.cons (.zu 44) .nil))) (.cons (.ret (.call (.zu 60) (.cons (.loc 6) .nil))) .nil) .nil) (.cons (.asg 0 (.call (.zu 60) (.cons (.attr (.loc 6) 18) .nil))) (.cons (.cond (.call (.zu 23) (.cons (.loc 6) (.cons (.zu 125) .nil))) (.cons (.ret (.call (.zu 225) (.cons (.loc 6) (.cons (.loc 0) (.cons (.loc 86) .nil))))) .nil) .nil) (.cons (.cond (.call (.zu 23) (.cons (.loc 6) (.cons (.zu 149) .nil))) (.cons (.ret (.ite (.attr (.loc 6) 202) (.str [35,60,80,114,111,99,32,40,108,97,109,98,100,97,41,62]) (.str [35,60,80,114,111,99,62]))) .nil) .nil) (.cons (.ret (.bin .add (.bin .add (.str [35,60]) (.loc 0)) (.str [62]))) .nil)))))))))
noncomputable def ZO:FD:=⟨[6,86],[],Sk⟩
noncomputable def Sl:S:=(.cons (.asg 35 (.call (.zu 145) (.cons (.loc 6) .nil))) (.cons (.cond (.cmp .eq (.loc 35) (.str [116,104,105,110,103])) (.cons (.ret (.call (.zu 206) (.cons (.loc 6) (.cons (.loc 86) .nil)))) .nil) .nil) (.cons (.cond (.cmp .eq (.loc 35) (.str [115,121,109])) (.cons (.ret (.call (.zu 229) (.cons (.loc 6) .nil))) .nil) .nil) (.cons (.cond (.cmp .eq (.loc 35) (.str [110,105,108])) (.cons (.ret (.str [110,105,108])) .nil) .nil) (.cons (.cond (.cmp .eq (.loc 35) (.str [98,111,111,108])) (.cons (.ret (.ite (.loc 6) (.str [116,114,117,101]) (.str [102,97,108,115,101]))) .nil) .nil) (.cons (.ret (.call (.zu 70) (.cons (.loc 6) .nil))) .nil))))))
noncomputable def mA:FD:=⟨[6,86],[.int 6],Sl⟩
noncomputable def TS:S:=(.cons (.for [36] .plain (.loc 167) (.cons (.cond (.call (.zu 85) (.cons (.loc 36) (.cons (.loc 5) .nil))) (.cons (.ret (.bool Ib)) .nil) .nil) .nil)) (.cons (.ret (.bool Ig)) .nil))
noncomputable def Zw:FD:=⟨[167,5],[],TS⟩
noncomputable def Sz:S:=(.cons (.asg 4 (.lst .nil)) (.cons (.for [5] .plain (.pC (.attr (.loc 2) 94)) (.cons (.expr (.zl (.loc 4) 88 (.cons (.call (.zu 82) (.cons (.loc 5) .nil)) .nil))) .nil)) (.cons (.expr (.zl (.loc 4) 30 (.cons (.loc 2) .nil))) (.cons (.for [5] .plain (.pC (.attr (.loc 2) 80)) (.cons (.expr (.zl (.loc 4) 88 (.cons (.call (.zu 82) (.cons (.loc 5) .nil)) .nil))) .nil)) (.cons (.ret (.loc 4)) .nil)))))
noncomputable def ZY:FD:=⟨[2],[],Sz⟩
noncomputable def Tf:S:=(.cons (.ret (.call (.zu 188) (.cons (.comp (.call (.zu 31) (.cons (.call (.zu 82) (.cons (.loc 5) .nil)) .nil)) [5] .plain (.attr (.loc 2) 94) .nil) .nil))) .nil)
noncomputable def aG:FD:=⟨[2],[],Tf⟩
noncomputable def T5:S:=(.cons (.asg 22 (.ite (.cmp .is (.attr (.loc 2) 11) .none) (.lst .nil) (.call (.zu 81) (.cons (.loc 1) (.cons (.attr (.loc 2) 11) .nil))))) (.cons (.y8 [4,87] (.tup (.cons (.lst .nil) (.cons (.call (.zu 181) (.cons (.loc 2) .nil)) .nil)))) (.cons (.for [53,5] .enum (.call (.zu 82) (.cons (.loc 2) .nil)) (.cons (.cond (.and (.cons (.not (.call (.zu 43) (.cons (.loc 4) (.cons (.loc 5) .nil)))) (.cons (.or (.cons (.cmp .lt (.loc 53) (.loc 87)) (.cons (.not (.call (.zu 43) (.cons (.loc 22) (.cons (.loc 5) .nil)))) .nil))) .nil))) (.cons (.expr (.zl (.loc 4) 30 (.cons (.loc 5) .nil))) .nil) .nil) .nil)) (.cons (.ret (.bin .add (.loc 4) (.comp (.loc 5) [5] .plain (.loc 22) (.cons (.not (.call (.zu 43) (.cons (.loc 4) (.cons (.loc 5) .nil)))) .nil)))) .nil))))
noncomputable def Zc:FD:=⟨[1,2],[],T5⟩
noncomputable def T6:S:=(.cons (.cond (.or (.cons (.cmp .is (.attr (.loc 2) 61) .none) (.cons (.cmp .ne (.sub (.attr (.loc 2) 61) (.int 0)) (.attr (.loc 1) 99)) .nil))) (.cons (.z9 (.loc 2) 61 (.tup (.cons (.attr (.loc 1) 99) (.cons (.call (.zu 173) (.cons (.loc 1) (.cons (.loc 2) .nil))) .nil)))) .nil) .nil) (.cons (.ret (.sub (.attr (.loc 2) 61) (.int 1))) .nil))
noncomputable def Zd:FD:=⟨[1,2],[],T6⟩
noncomputable def TU:S:=(.cons (.asg 63 (.zl (.zl (.attr (.loc 1) 107) 49 (.cons (.attr (.loc 2) 34) (.cons (.wY .nil) .nil))) 49 (.cons (.loc 0) .nil))) (.cons (.cond (.cmp .yO (.loc 63) .none) (.cons (.asg 35 (.ite (.call (.zu 23) (.cons (.loc 63) (.cons (.zu 70) .nil))) (.str [99,111,110,116,114,111,108]) (.str [110,97,116,105,118,101]))) (.cons (.ret (.call (.zu 108) (.cons (.loc 0) (.cons (.loc 2) (.cons (.loc 35) (.cons .none (.cons (.loc 63) (.cons (.call (.zu 200) (.cons (.loc 2) (.cons (.loc 0) .nil))) .nil)))))))) .nil)) .nil) (.cons (.asg 166 (.zl (.zl (.attr (.loc 1) 98) 49 (.cons (.attr (.loc 2) 34) (.cons (.wY .nil) .nil))) 49 (.cons (.loc 0) .nil))) (.cons (.cond (.cmp .is (.loc 166) .none) (.cons (.ret .none) .nil) .nil) (.cons (.asg 119 (.zl (.loc 1) 110 (.cons (.loc 166) .nil))) (.cons (.while (.cmp .eq (.attr (.loc 119) 191) (.str [115,101,113])) (.cons (.asg 119 (.sub (.sub (.attr (.loc 119) 164) (.int 0)) (.int 0))) .nil)) (.cons (.y8 [222,131,89,192] (.attr (.loc 119) 164)) (.cons (.ret (.call (.zu 108) (.cons (.loc 131) (.cons (.loc 2) (.cons (.str [116,114,101,101]) (.cons (.loc 89) (.cons (.loc 192) (.cons (.call (.zu 200) (.cons (.loc 2) (.cons (.loc 0) .nil))) .nil)))))))) .nil))))))))
noncomputable def Zx:FD:=⟨[1,2,0],[],TU⟩
noncomputable def Ta:S:=(.cons (.asg 4 (.zl (.attr (.loc 2) 19) 49 (.cons (.loc 0) .nil))) (.cons (.cond (.and (.cons (.cmp .is (.loc 4) .none) (.cons (.cmp .yO (.attr (.loc 2) 34) .none) .nil))) (.cons (.asg 4 (.call (.zu 129) (.cons (.loc 1) (.cons (.loc 2) (.cons (.loc 0) .nil))))) (.cons (.cond (.cmp .yO (.loc 4) .none) (.cons (.y3 (.attr (.loc 2) 19) (.loc 0) (.loc 4)) .nil) .nil) .nil)) .nil) (.cons (.ret (.ite (.or (.cons (.cmp .is (.loc 4) .none) (.cons (.cmp .eq (.attr (.loc 4) 35) (.str [103,111,110,101])) .nil))) .none (.loc 4))) .nil)))
noncomputable def aC:FD:=⟨[1,2,0],[],Ta⟩
noncomputable def TX:S:=(.cons (.for [2] .plain (.loc 33) (.cons (.asg 4 (.call (.zu 67) (.cons (.loc 1) (.cons (.loc 2) (.cons (.loc 0) .nil))))) (.cons (.cond (.cmp .yO (.loc 4) .none) (.cons (.ret (.ite (.cmp .eq (.attr (.loc 4) 35) (.str [110,111,110,101])) .none (.loc 4))) .nil) .nil) .nil))) (.cons (.ret .none) .nil))
noncomputable def Zz:FD:=⟨[1,33,0],[],TX⟩
noncomputable def TZ:S:=(.cons (.ret (.call (.zu 117) (.cons (.loc 1) (.cons (.call (.zu 81) (.cons (.loc 1) (.cons (.loc 2) .nil))) (.cons (.loc 0) .nil))))) .nil)
noncomputable def aA:FD:=⟨[1,2,0],[],TZ⟩
noncomputable def TY:S:=(.cons (.asg 33 (.call (.zu 81) (.cons (.loc 1) (.cons (.loc 2) .nil)))) (.cons (.for [53,5] .enum (.loc 33) (.cons (.cond (.call (.zu 85) (.cons (.loc 5) (.cons (.loc 18) .nil))) (.cons (.ret (.call (.zu 117) (.cons (.loc 1) (.cons (.qQ (.loc 33) (.bin .add (.loc 53) (.int 1))) (.cons (.loc 0) .nil))))) .nil) .nil) .nil)) (.cons (.ret .none) .nil)))
noncomputable def a9:FD:=⟨[1,2,18,0],[],TY⟩
noncomputable def Sq:S:=(.cons (.qF (.loc 1) 99 (.int 1)) .nil)
noncomputable def ZT:FD:=⟨[1],[],Sq⟩
noncomputable def T1:S:=(.cons (.cond (.attr (.loc 2) 106) (.cons (.expr (.zl (.loc 1) 57 (.cons (.str [70,114,111,122,101,110,69,114,114,111,114]) (.cons (.bin .add (.bin .add (.bin .add (.str [99,97,110,39,116,32,109,111,100,105,102,121,32,102,114,111,122,101,110,32]) (.call (.zu 148) (.cons (.loc 2) .nil))) (.str [58,32])) (.call (.zu 60) (.cons (.loc 2) .nil))) .nil)))) .nil) .nil) .nil)
noncomputable def ZZ:FD:=⟨[1,2],[],T1⟩
noncomputable def Sy:S:=(.cons (.cond (.or (.cons (.cmp .is (.loc 6) .none) (.cons (.call (.zu 23) (.cons (.loc 6) (.cons (.zu 112) .nil))) .nil))) (.cons (.ret (.zl (.loc 1) 100 (.cons (.loc 6) .nil))) .nil) .nil) (.cons (.cond (.not (.call (.zu 23) (.cons (.loc 6) (.cons (.zu 64) .nil)))) (.cons (.expr (.zl (.loc 1) 57 (.cons (.str [84,121,112,101,69,114,114,111,114]) (.cons (.str [99,97,110,39,116,32,100,101,102,105,110,101,32,115,105,110,103,108,101,116,111,110]) .nil)))) .nil) .nil) (.cons (.cond (.cmp .yO (.attr (.loc 6) 24) .none) (.cons (.ret (.attr (.loc 6) 24)) .nil) .nil) (.cons (.asg 11 (.zl (.loc 1) 100 (.cons (.loc 6) .nil))) (.cons (.cond (.and (.cons (.call (.zu 23) (.cons (.loc 6) (.cons (.zu 44) .nil))) (.cons (.attr (.loc 6) 21) (.cons (.cmp .yO (.attr (.loc 6) 11) .none) .nil)))) (.cons (.asg 11 (.call (.zu 68) (.cons (.loc 1) (.cons (.attr (.loc 6) 11) .nil)))) .nil) .nil) (.cons (.z9 (.loc 6) 24 (.zl (.loc 1) 55 (.cons .none (.cons (.bool Ib) (.cons (.loc 11) (.cons .none (.cons (.loc 6) .nil))))))) (.cons (.cond (.and (.cons (.call (.zu 23) (.cons (.loc 6) (.cons (.zu 44) .nil))) (.cons (.cmp .yO (.attr (.loc 6) 34) .none) (.cons (.not (.zl (.loc 6) 72 .nil)) .nil)))) (.cons (.z9 (.attr (.loc 6) 24) 34 (.bin .add (.attr (.loc 6) 34) (.str [46]))) .nil) .nil) (.cons (.expr (.call (.zu 74) (.cons (.loc 1) .nil))) (.cons (.ret (.attr (.loc 6) 24)) .nil)))))))))
noncomputable def ZX:FD:=⟨[1,6],[],Sy⟩
noncomputable def Tc:S:=(.cons (.expr (.call (.zu 93) (.cons (.loc 1) (.cons (.loc 2) .nil)))) (.cons (.y3 (.attr (.loc 2) 19) (.attr (.loc 20) 0) (.loc 20)) (.cons (.expr (.call (.zu 74) (.cons (.loc 1) .nil))) .nil)))
noncomputable def aD:FD:=⟨[1,2,20],[],Tc⟩
noncomputable def Sv:S:=(.cons (.expr (.call (.zu 93) (.cons (.loc 1) (.cons (.loc 2) .nil)))) (.cons (.y3 (.attr (.loc 2) 19) (.loc 0) (.loc 20)) (.cons (.expr (.call (.zu 74) (.cons (.loc 1) .nil))) .nil)))
noncomputable def ZV:FD:=⟨[1,2,0,20],[],Sv⟩
noncomputable def TP:S:=(.cons (.ret (.ite (.attr (.loc 2) 21) (.str [99,108,97,115,115]) (.str [109,111,100,117,108,101]))) .nil)
noncomputable def Zt:FD:=⟨[2],[],TP⟩
noncomputable def T3:S:=(.cons (.asg 4 (.call (.zu 84) (.cons (.loc 1) (.cons (.loc 2) (.cons (.loc 0) .nil))))) (.cons (.cond (.and (.cons (.cmp .is (.loc 4) .none) (.cons (.not (.attr (.loc 2) 21)) .nil))) (.cons (.asg 4 (.call (.zu 84) (.cons (.loc 1) (.cons (.zl (.loc 1) 38 (.cons (.str [79,98,106,101,99,116]) .nil)) (.cons (.loc 0) .nil))))) .nil) .nil) (.cons (.cond (.cmp .is (.loc 4) .none) (.cons (.expr (.zl (.loc 1) 57 (.cons (.str [78,97,109,101,69,114,114,111,114]) (.cons (.bin .add (.bin .add (.bin .add (.bin .add (.bin .add (.bin .add (.str [117,110,100,101,102,105,110,101,100,32,109,101,116,104,111,100,32,39]) (.loc 0)) (.str [39,32,102,111,114,32])) (.call (.zu 148) (.cons (.loc 2) .nil))) (.str [32,39])) (.call (.zu 60) (.cons (.loc 2) .nil))) (.str [39])) .nil)))) .nil) .nil) (.cons (.ret (.loc 4)) .nil))))
noncomputable def Za:FD:=⟨[1,2,0],[],T3⟩
noncomputable def Si:S:=(.cons (.expr (.call (.zu 83) (.cons (.loc 1) (.cons (.loc 2) (.cons (.loc 0) .nil))))) (.cons (.expr (.call (.zu 155) (.cons (.loc 1) (.cons (.loc 2) (.cons (.loc 0) (.cons (.call (.zu 95) (.cons (.loc 0) (.cons (.loc 2) (.cons (.str [110,111,110,101]) (.cons .none (.cons .none (.cons (.str [112,117,98,108,105,99]) .nil))))))) .nil)))))) .nil))
noncomputable def ZM:FD:=⟨[1,2,0],[],Si⟩
noncomputable def Sp:S:=(.cons (.asg 4 (.call (.zu 67) (.cons (.loc 1) (.cons (.loc 2) (.cons (.loc 0) .nil))))) (.cons (.cond (.or (.cons (.cmp .is (.loc 4) .none) (.cons (.cmp .eq (.attr (.loc 4) 35) (.str [110,111,110,101])) .nil))) (.cons (.expr (.zl (.loc 1) 57 (.cons (.str [78,97,109,101,69,114,114,111,114]) (.cons (.bin .add (.bin .add (.bin .add (.str [109,101,116,104,111,100,32,39]) (.loc 0)) (.str [39,32,110,111,116,32,100,101,102,105,110,101,100,32,105,110,32])) (.call (.zu 60) (.cons (.loc 2) .nil))) .nil)))) .nil) .nil) (.cons (.expr (.call (.zu 93) (.cons (.loc 1) (.cons (.loc 2) .nil)))) (.cons (.cond (.or (.cons (.cmp .is (.attr (.loc 2) 34) .none) (.cons (.cmp .is (.call (.zu 129) (.cons (.loc 1) (.cons (.loc 2) (.cons (.loc 0) .nil)))) .none) .nil))) (.cons (.expr (.zl (.attr (.loc 2) 19) 69 (.cons (.loc 0) .nil))) .nil) (.cons (.y3 (.attr (.loc 2) 19) (.loc 0) (.call (.zu 95) (.cons (.loc 0) (.cons (.loc 2) (.cons (.str [103,111,110,101]) (.cons .none (.cons .none (.cons (.str [112,117,98,108,105,99]) .nil)))))))) .nil)) (.cons (.expr (.call (.zu 74) (.cons (.loc 1) .nil))) .nil)))))
noncomputable def ZS:FD:=⟨[1,2,0],[],Sp⟩
noncomputable def Td:S:=(.cons (.ret (.zl (.loc 20) 134 (.cons (.attr (.loc 20) 0) (.cons (.attr (.loc 20) 18) (.cons (.loc 14) .nil))))) .nil)
noncomputable def aE:FD:=⟨[20,14],[],Td⟩
noncomputable def Te:S:=(.cons (.asg 4 (.call (.zu 83) (.cons (.loc 1) (.cons (.loc 2) (.cons (.loc 187) .nil))))) (.cons (.expr (.call (.zu 155) (.cons (.loc 1) (.cons (.loc 2) (.cons (.loc 189) (.cons (.call (.zu 165) (.cons (.loc 4) (.cons (.attr (.loc 4) 14) .nil))) .nil)))))) .nil))
noncomputable def aF:FD:=⟨[1,2,189,187],[],Te⟩
noncomputable def Sm:S:=(.cons (.for [0] .plain (.loc 29) (.cons (.asg 4 (.call (.zu 83) (.cons (.loc 1) (.cons (.loc 2) (.cons (.loc 0) .nil))))) (.cons (.cond (.or (.cons (.cmp .ne (.attr (.loc 4) 14) (.loc 14)) (.cons (.cmp .is (.call (.zu 67) (.cons (.loc 1) (.cons (.loc 2) (.cons (.loc 0) .nil)))) .none) .nil))) (.cons (.expr (.call (.zu 155) (.cons (.loc 1) (.cons (.loc 2) (.cons (.loc 0) (.cons (.call (.zu 165) (.cons (.loc 4) (.cons (.loc 14) .nil))) .nil)))))) .nil) .nil) .nil))) .nil)
noncomputable def ZP:FD:=⟨[1,2,29,14],[],Sm⟩
noncomputable def T2:S:=(.cons (.cond (.or (.cons (.not (.call (.zu 23) (.cons (.loc 27) (.cons (.zu 44) .nil)))) (.cons (.attr (.loc 27) 21) .nil))) (.cons (.asg 131 (.call (.zu 60) (.cons (.zl (.loc 1) 100 (.cons (.loc 27) .nil)) .nil))) (.cons (.expr (.zl (.loc 1) 57 (.cons (.str [84,121,112,101,69,114,114,111,114]) (.cons (.bin .add (.bin .add (.str [119,114,111,110,103,32,97,114,103,117,109,101,110,116,32,116,121,112,101,32]) (.loc 131)) (.str [32,40,101,120,112,101,99,116,101,100,32,77,111,100,117,108,101,41])) .nil)))) .nil)) .nil) (.cons (.cond (.call (.zu 43) (.cons (.call (.zu 82) (.cons (.loc 27) .nil)) (.cons (.loc 2) .nil))) (.cons (.expr (.zl (.loc 1) 57 (.cons (.str [65,114,103,117,109,101,110,116,69,114,114,111,114]) (.cons (.str [99,121,99,108,105,99,32,105,110,99,108,117,100,101,32,100,101,116,101,99,116,101,100]) .nil)))) .nil) .nil) .nil))
noncomputable def Z_:FD:=⟨[1,2,27],[],T2⟩
noncomputable def TR:S:=(.cons (.expr (.call (.zu 127) (.cons (.loc 1) (.cons (.loc 2) (.cons (.loc 27) .nil))))) (.cons (.expr (.call (.zu 93) (.cons (.loc 1) (.cons (.loc 2) .nil)))) (.cons (.cond (.not (.call (.zu 43) (.cons (.attr (.loc 2) 80) (.cons (.loc 27) .nil)))) (.cons (.expr (.zl (.attr (.loc 2) 80) 30 (.cons (.loc 27) .nil))) (.cons (.expr (.call (.zu 74) (.cons (.loc 1) .nil))) .nil)) .nil) .nil)))
noncomputable def Zv:FD:=⟨[1,2,27],[],TR⟩
noncomputable def Sr:S:=(.cons (.expr (.call (.zu 127) (.cons (.loc 1) (.cons (.loc 2) (.cons (.loc 27) .nil))))) (.cons (.expr (.call (.zu 93) (.cons (.loc 1) (.cons (.loc 2) .nil)))) (.cons (.cond (.not (.call (.zu 43) (.cons (.attr (.loc 2) 94) (.cons (.loc 27) .nil)))) (.cons (.expr (.zl (.attr (.loc 2) 94) 30 (.cons (.loc 27) .nil))) (.cons (.expr (.call (.zu 74) (.cons (.loc 1) .nil))) .nil)) .nil) .nil)))
noncomputable def ZU:FD:=⟨[1,2,27],[],Sr⟩
noncomputable def T_:S:=(.cons (.expr (.call (.zu 122) (.cons (.loc 1) (.cons (.call (.zu 68) (.cons (.loc 1) (.cons (.loc 6) .nil))) (.cons (.loc 27) .nil))))) .nil)
noncomputable def aB:FD:=⟨[1,6,27],[],T_⟩
noncomputable def TQ:S:=(.cons (.ret (.call (.zu 43) (.cons (.call (.zu 81) (.cons (.loc 1) (.cons (.zl (.loc 1) 105 (.cons (.loc 6) .nil)) .nil))) (.cons (.loc 2) .nil)))) .nil)
noncomputable def Zu:FD:=⟨[1,6,2],[],TQ⟩
noncomputable def Sw:S:=(.cons (.asg 4 (.comp (.loc 0) [0,20] .items (.attr (.loc 2) 19) (.cons (.not (.call (.zu 23) (.cons (.loc 20) (.cons (.zu 108) .nil)))) .nil))) (.cons (.cond (.cmp .yO (.attr (.loc 2) 34) .none) (.cons (.expr (.zl (.loc 4) 88 (.cons (.comp (.loc 0) [0] .plain (.call (.zu 231) (.cons (.loc 1) (.cons (.loc 2) .nil))) (.cons (.cmp .y5 (.loc 0) (.loc 4)) .nil)) .nil))) .nil) .nil) (.cons (.ret (.loc 4)) .nil)))
noncomputable def ZW:FD:=⟨[1,2],[],Sw⟩
noncomputable def T4:S:=(.cons (.y8 [4,79] (.tup (.cons (.lst .nil) (.cons (.lst .nil) .nil)))) (.cons (.for [5] .plain (.ite (.loc 86) (.call (.zu 81) (.cons (.loc 1) (.cons (.loc 2) .nil))) (.lst (.cons (.loc 2) .nil))) (.cons (.for [0] .plain (.call (.zu 204) (.cons (.loc 1) (.cons (.loc 5) .nil))) (.cons (.asg 20 (.call (.zu 67) (.cons (.loc 1) (.cons (.loc 5) (.cons (.loc 0) .nil))))) (.cons (.cond (.and (.cons (.cmp .yO (.loc 20) .none) (.cons (.cmp .y5 (.loc 0) (.loc 79)) .nil))) (.cons (.expr (.zl (.loc 79) 30 (.cons (.loc 0) .nil))) (.cons (.cond (.and (.cons (.cmp .ne (.attr (.loc 20) 35) (.str [110,111,110,101])) (.cons (.cmp .ne (.attr (.loc 20) 14) (.str [112,114,105,118,97,116,101])) .nil))) (.cons (.expr (.zl (.loc 4) 30 (.cons (.loc 0) .nil))) .nil) .nil) .nil)) .nil) .nil))) .nil)) (.cons (.ret (.loc 4)) .nil)))
noncomputable def Zb:FD:=⟨[1,2,86],[],T4⟩
noncomputable def So:S:=(.cons (.asg 4 (.call (.zu 84) (.cons (.loc 1) (.cons (.zl (.loc 1) 105 (.cons (.loc 6) .nil)) (.cons (.loc 0) .nil))))) (.cons (.ret (.and (.cons (.cmp .yO (.loc 4) .none) (.cons (.or (.cons (.loc 91) (.cons (.cmp .eq (.attr (.loc 4) 14) (.str [112,117,98,108,105,99])) .nil))) .nil)))) .nil))
noncomputable def ZR:FD:=⟨[1,6,0,91],[],So⟩
noncomputable def U2:S:=(.cons (.expr (.zl (.zu 207) 47 (.cons (.loc 3) (.cons (.loc 71) .nil)))) (.cons (.z9 (.loc 3) 71 (.loc 71)) .nil))
noncomputable def mF:FD:=⟨[3,71],[.str []],U2⟩
noncomputable def U0:S:=(.cons (.expr (.zl (.zu 201) 47 (.cons (.loc 3) (.cons (.str [97,32,82,117,98,121,32,101,114,114,111,114]) .nil)))) (.cons (.z9 (.loc 3) 36 (.loc 36)) .nil))
noncomputable def gF:FD:=⟨[3,36],[],U0⟩
noncomputable def Ts:S:=(.cons (.z9 (.loc 3) 107 (.loc 107)) (.cons (.z9 (.loc 3) 98 (.ite (.cmp .is (.loc 98) .none) (.wY .nil) (.loc 98))) (.cons (.z9 (.loc 3) 110 (.loc 110)) (.cons (.z9 (.loc 3) 120 (.loc 120)) (.cons (.z9 (.loc 3) 162 (.int 0)) (.cons (.z9 (.loc 3) 128 (.int 0)) (.cons (.z9 (.loc 3) 179 (.int 8)) (.cons (.z9 (.loc 3) 184 (.wY .nil)) (.cons (.z9 (.loc 3) 76 (.wY .nil)) (.cons (.z9 (.loc 3) 99 (.int 0)) (.cons (.z9 (.loc 3) 183 (.int 0)) (.cons (.z9 (.loc 3) 170 (.wY .nil)) (.cons (.z9 (.loc 3) 156 (.lst .nil)) (.cons (.z9 (.loc 3) 124 (.bool Ig)) (.cons (.z9 (.loc 3) 157 (.call (.zu 64) (.cons (.zl (.loc 3) 17 .nil) (.cons (.zl (.loc 3) 38 (.cons (.str [79,98,106,101,99,116]) .nil)) .nil)))) (.cons (.z9 (.loc 3) 124 (.bool Ib)) (.cons (.for [0] .plain (.call (.zu 194) (.cons (.attr (.loc 3) 76) .nil)) (.cons (.expr (.zl (.loc 3) 147 (.cons (.loc 0) .nil))) .nil)) .nil)))))))))))))))))
noncomputable def mC:FD:=⟨[3,107,98,110,120],[.none,.none,.int 20000],Ts⟩
noncomputable def To:S:=(.cons (.qF (.loc 3) 128 (.int 1)) (.cons (.ret (.attr (.loc 3) 128)) .nil))
noncomputable def aN:FD:=⟨[3],[],To⟩
noncomputable def Tx:S:=(.cons (.asg 4 (.zl (.attr (.loc 3) 76) 49 (.cons (.loc 0) .nil))) (.cons (.ret (.ite (.cmp .is (.loc 4) .none) (.zl (.loc 3) 182 (.cons (.loc 0) .nil)) (.loc 4))) .nil))
noncomputable def aU:FD:=⟨[3,0],[],Tx⟩
noncomputable def Tq:S:=(.cons (.asg 21 (.cmp .y5 (.loc 0) (.zu 168))) (.cons (.asg 4 (.call (.zu 44) (.cons (.zl (.loc 3) 17 .nil) (.cons .none (.cons (.loc 0) (.cons (.loc 21) .nil)))))) (.cons (.y3 (.attr (.loc 3) 76) (.loc 0) (.loc 4)) (.cons (.z9 (.loc 4) 34 (.loc 0)) (.cons (.asg 11 (.sub (.zu 171) (.loc 0))) (.cons (.z9 (.loc 4) 11 (.ite (.cmp .is (.loc 11) .none) .none (.zl (.loc 3) 38 (.cons (.loc 11) .nil)))) (.cons (.z9 (.loc 4) 18 (.zl (.loc 3) 38 (.cons (.ite (.loc 21) (.str [67,108,97,115,115]) (.str [77,111,100,117,108,101])) .nil))) (.cons (.z9 (.loc 4) 80 (.comp (.zl (.loc 3) 38 (.cons (.loc 66) .nil)) [66] .plain (.zl (.zu 133) 49 (.cons (.loc 0) (.cons (.tup .nil) .nil))) .nil)) (.cons (.cond (.attr (.loc 3) 124) (.cons (.expr (.zl (.loc 3) 147 (.cons (.loc 0) .nil))) .nil) .nil) (.cons (.ret (.loc 4)) .nil))))))))))
noncomputable def aO:FD:=⟨[3,0],[],Tq⟩
noncomputable def Tt:S:=(.cons (.cond (.or (.cons (.cmp .yM (.bin .add (.loc 0) (.str [46])) (.attr (.loc 3) 107)) (.cons (.cmp .yM (.bin .add (.loc 0) (.str [46])) (.attr (.loc 3) 98)) .nil))) (.cons (.expr (.call (.zu 68) (.cons (.loc 3) (.cons (.sub (.attr (.loc 3) 76) (.loc 0)) .nil)))) .nil) .nil) .nil)
noncomputable def aQ:FD:=⟨[3,0],[],Tt⟩
noncomputable def Tp:S:=(.cons (.asg 18 (.zl (.loc 3) 38 (.cons (.ite (.loc 21) (.str [67,108,97,115,115]) (.str [77,111,100,117,108,101])) .nil))) (.cons (.cond (.and (.cons (.loc 21) (.cons (.cmp .is (.loc 11) .none) .nil))) (.cons (.asg 11 (.zl (.loc 3) 38 (.cons (.str [79,98,106,101,99,116]) .nil))) .nil) .nil) (.cons (.asg 96 (.ite (.or (.cons (.cmp .is (.loc 42) .none) (.cons (.call (.zu 85) (.cons (.loc 42) (.cons (.zl (.loc 3) 38 (.cons (.str [79,98,106,101,99,116]) .nil)) .nil))) .nil))) .none (.loc 42))) (.cons (.asg 4 (.call (.zu 44) (.cons (.zl (.loc 3) 17 .nil) (.cons (.loc 18) (.cons (.loc 0) (.cons (.loc 21) (.cons (.loc 11) (.cons (.loc 96) .nil)))))))) (.cons (.z9 (.loc 4) 41 (.loc 41)) (.cons (.ret (.loc 4)) .nil))))))
noncomputable def mB:FD:=⟨[3,0,21,11,42,41],[.none,.none,.none],Tp⟩
noncomputable def Tw:S:=(.cons (.cond (.cmp .is (.loc 6) .none) (.cons (.ret (.zl (.loc 3) 38 (.cons (.str [78,105,108,67,108,97,115,115]) .nil))) .nil) .nil) (.cons (.cond (.call (.zu 23) (.cons (.loc 6) (.cons (.zu 112) .nil))) (.cons (.ret (.zl (.loc 3) 38 (.cons (.ite (.loc 6) (.str [84,114,117,101,67,108,97,115,115]) (.str [70,97,108,115,101,67,108,97,115,115])) .nil))) .nil) .nil) (.cons (.cond (.call (.zu 23) (.cons (.loc 6) (.cons (.zu 45) .nil))) (.cons (.ret (.zl (.loc 3) 38 (.cons (.str [73,110,116,101,103,101,114]) .nil))) .nil) .nil) (.cons (.ret (.ite (.call (.zu 23) (.cons (.loc 6) (.cons (.zu 70) .nil))) (.zl (.loc 3) 38 (.cons (.str [83,121,109,98,111,108]) .nil)) (.attr (.loc 6) 18))) .nil))))
noncomputable def aT:FD:=⟨[3,6],[],Tw⟩
noncomputable def Tj:S:=(.cons (.cond (.not (.call (.zu 23) (.cons (.loc 6) (.cons (.zu 64) .nil)))) (.cons (.ret (.zl (.loc 3) 100 (.cons (.loc 6) .nil))) .nil) .nil) (.cons (.cond (.cmp .yO (.attr (.loc 6) 24) .none) (.cons (.ret (.attr (.loc 6) 24)) .nil) .nil) (.cons (.ret (.ite (.call (.zu 23) (.cons (.loc 6) (.cons (.zu 44) .nil))) (.zl (.loc 3) 176 (.cons (.loc 6) .nil)) (.attr (.loc 6) 18))) .nil)))
noncomputable def aK:FD:=⟨[3,6],[],Tj⟩
noncomputable def Tn:S:=(.cons (.asg 22 (.ite (.and (.cons (.attr (.loc 2) 21) (.cons (.not (.zl (.loc 2) 72 .nil)) .nil))) (.attr (.loc 2) 11) .none)) (.cons (.while (.cmp .yO (.loc 22) .none) (.cons (.cond (.cmp .yO (.attr (.loc 22) 24) .none) (.cons (.ret (.attr (.loc 22) 24)) .nil) .nil) (.cons (.asg 22 (.attr (.loc 22) 11)) .nil))) (.cons (.ret (.attr (.loc 2) 18)) .nil)))
noncomputable def aM:FD:=⟨[3,2],[],Tn⟩
noncomputable def Ti:S:=(.cons (.while (.or (.cons (.cmp .is (.attr (.loc 2) 34) .none) (.cons (.zl (.loc 2) 72 .nil) .nil))) (.cons (.asg 2 (.attr (.loc 2) 11)) .nil)) (.cons (.ret (.attr (.loc 2) 34)) .nil))
noncomputable def aJ:FD:=⟨[3,2],[],Ti⟩
noncomputable def Th:S:=(.cons (.ret (.call (.zu 121) (.cons (.zl (.loc 3) 17 .nil) (.cons (.zl (.loc 3) 38 (.cons (.str [83,116,114,105,110,103]) .nil)) (.cons (.loc 62) .nil))))) .nil)
noncomputable def aI:FD:=⟨[3,62],[],Th⟩
noncomputable def Tg:S:=(.cons (.cond (.zl (.loc 2) 72 .nil) (.cons (.expr (.zl (.loc 3) 57 (.cons (.str [84,121,112,101,69,114,114,111,114]) (.cons (.str [99,97,110,39,116,32,99,114,101,97,116,101,32,105,110,115,116,97,110,99,101,32,111,102,32,115,105,110,103,108,101,116,111,110,32,99,108,97,115,115]) .nil)))) .nil) .nil) (.cons (.y8 [78,17] (.tup (.cons (.zl (.loc 3) 169 (.cons (.loc 2) .nil)) (.cons (.zl (.loc 3) 17 .nil) .nil)))) (.cons (.cond (.cmp .yM (.loc 78) (.zu 198)) (.cons (.expr (.zl (.loc 3) 57 (.cons (.str [78,111,77,101,116,104,111,100,69,114,114,111,114]) (.cons (.bin .add (.str [117,110,100,101,102,105,110,101,100,32,109,101,116,104,111,100,32,39,110,101,119,39,32,102,111,114,32,99,108,97,115,115,32]) (.call (.zu 60) (.cons (.loc 2) .nil))) .nil)))) .nil) .nil) (.cons (.cond (.cmp .eq (.loc 78) (.str [83,116,114,105,110,103])) (.cons (.ret (.call (.zu 121) (.cons (.loc 17) (.cons (.loc 2) (.cons (.str []) .nil))))) .nil) .nil) (.cons (.cond (.cmp .eq (.loc 78) (.str [65,114,114,97,121])) (.cons (.ret (.call (.zu 150) (.cons (.loc 17) (.cons (.loc 2) (.cons (.lst .nil) .nil))))) .nil) .nil) (.cons (.cond (.cmp .eq (.loc 78) (.str [72,97,115,104])) (.cons (.ret (.call (.zu 153) (.cons (.loc 17) (.cons (.loc 2) .nil)))) .nil) .nil) (.cons (.cond (.cmp .eq (.loc 78) (.str [82,97,110,103,101])) (.cons (.ret (.call (.zu 152) (.cons (.loc 17) (.cons (.loc 2) .nil)))) .nil) .nil) (.cons (.cond (.cmp .eq (.loc 78) (.str [70,105,98,101,114])) (.cons (.ret (.call (.zu 205) (.cons (.loc 17) (.cons (.loc 2) .nil)))) .nil) .nil) (.cons (.cond (.cmp .eq (.loc 78) (.str [80,114,111,99])) (.cons (.ret (.call (.zu 149) (.cons (.loc 17) (.cons (.loc 2) .nil)))) .nil) .nil) (.cons (.cond (.cmp .eq (.loc 78) (.str [67,108,97,115,115])) (.cons (.ret (.call (.zu 44) (.cons (.loc 17) (.cons (.loc 2) (.cons .none (.cons (.bool Ib) (.cons (.zl (.loc 3) 38 (.cons (.str [79,98,106,101,99,116]) .nil)) .nil))))))) .nil) .nil) (.cons (.cond (.cmp .eq (.loc 78) (.str [77,111,100,117,108,101])) (.cons (.ret (.call (.zu 44) (.cons (.loc 17) (.cons (.loc 2) (.cons .none (.cons (.bool Ig) .nil)))))) .nil) .nil) (.cons (.cond (.zl (.loc 3) 185 (.cons (.loc 2) .nil)) (.cons (.ret (.call (.zu 125) (.cons (.loc 17) (.cons (.loc 2) .nil)))) .nil) .nil) (.cons (.ret (.call (.zu 64) (.cons (.loc 17) (.cons (.loc 2) .nil)))) .nil)))))))))))))
noncomputable def aH:FD:=⟨[3,2],[],Tg⟩
noncomputable def Tr:S:=(.cons (.while (.cmp .yO (.loc 2) .none) (.cons (.cond (.cmp .eq (.attr (.loc 2) 34) (.str [69,120,99,101,112,116,105,111,110])) (.cons (.ret (.bool Ib)) .nil) .nil) (.cons (.asg 2 (.attr (.loc 2) 11)) .nil))) (.cons (.ret (.bool Ig)) .nil))
noncomputable def aP:FD:=⟨[3,2],[],Tr⟩
noncomputable def Tv:S:=(.cons (.ret (.call (.zu 125) (.cons (.zl (.loc 3) 17 .nil) (.cons (.zl (.loc 3) 38 (.cons (.loc 0) .nil)) (.cons (.zl (.loc 3) 62 (.cons (.loc 59) .nil)) .nil))))) .nil)
noncomputable def aS:FD:=⟨[3,0,59],[],Tv⟩
noncomputable def Tu:S:=(.cons (.raise (.call (.zu 139) (.cons (.zl (.loc 3) 136 (.cons (.loc 0) (.cons (.loc 59) .nil))) .nil))) .nil)
noncomputable def aR:FD:=⟨[3,0,59],[],Tu⟩
noncomputable def TC:S:=(.cons (.asg 123 (.wY (.kv (.str [66,97,115,105,99,79,98,106,101,99,116]) .none (.kv (.str [75,101,114,110,101,108]) .none (.kv (.str [79,98,106,101,99,116]) (.str [66,97,115,105,99,79,98,106,101,99,116]) (.kv (.str [77,111,100,117,108,101]) (.str [79,98,106,101,99,116]) (.kv (.str [67,108,97,115,115]) (.str [77,111,100,117,108,101]) .nil))))))) (.cons (.expr (.zl (.loc 123) 141 (.cons (.wY (.kv (.str [65]) (.str [79,98,106,101,99,116]) (.kv (.str [66]) (.str [65]) (.kv (.str [67]) (.str [65]) (.kv (.str [77]) .none (.kv (.str [78]) .none (.kv (.str [60,97,62]) (.str [65]) (.kv (.str [60,99,62]) (.str [66]) (.kv (.str [60,77,62]) (.str [77,111,100,117,108,101]) .nil))))))))) .nil))) (.cons (.expr (.zl (.loc 123) 141 (.cons (.wY (.kv (.str [60,66,97,115,105,99,79,98,106,101,99,116,62]) (.str [67,108,97,115,115]) (.kv (.str [60,79,98,106,101,99,116,62]) (.str [60,66,97,115,105,99,79,98,106,101,99,116,62]) (.kv (.str [60,65,62]) (.str [60,79,98,106,101,99,116,62]) (.kv (.str [60,66,62]) (.str [60,65,62]) (.kv (.str [60,67,62]) (.str [60,65,62]) .nil)))))) .nil))) (.cons (.asg 4 (.call (.zu 159) (.cons (.comp (.tup (.cons (.loc 0) (.cons (.lst (.cons (.sub (.loc 123) (.loc 0)) (.cons (.lst .nil) (.cons (.lst .nil) (.cons (.wY .nil) .nil))))) .nil))) [0] .plain (.loc 123) .nil) .nil))) (.cons (.expr (.zl (.sub (.sub (.loc 4) (.str [79,98,106,101,99,116])) (.int 2)) 30 (.cons (.str [75,101,114,110,101,108]) .nil))) (.cons (.ret (.loc 4)) .nil))))))
noncomputable def Zj:FD:=⟨[],[],TC⟩
noncomputable def TA:S:=(.cons (.y8 [4,50] (.tup (.cons (.lst .nil) (.cons (.lst (.cons (.tup (.cons (.tup .nil) (.cons (.loc 0) .nil))) .nil)) .nil)))) (.cons (.while (.cmp .ne (.loc 50) (.lst .nil)) (.cons (.y8 [32,5] (.zl (.loc 50) 69 .nil)) (.cons (.expr (.zl (.loc 4) 30 (.cons (.tup (.cons (.bin .add (.loc 32) (.tup (.cons (.int 1) .nil))) (.cons (.loc 5) .nil))) .nil))) (.cons (.for [51] .plain (.tup (.cons (.int 0) (.cons (.int 2) .nil))) (.cons (.asg 46 (.sub (.sub (.loc 7) (.loc 5)) (.bin .add (.int 1) (.bin .floordiv (.loc 51) (.int 2))))) (.cons (.for [12] .range (.call (.zu 31) (.cons (.loc 46) .nil)) (.cons (.expr (.zl (.loc 50) 30 (.cons (.tup (.cons (.bin .add (.loc 32) (.tup (.cons (.loc 51) (.cons (.bin .sub (.bin .sub (.call (.zu 31) (.cons (.loc 46) .nil)) (.int 1)) (.loc 12)) .nil)))) (.cons (.sub (.loc 46) (.loc 12)) .nil))) .nil))) .nil)) .nil))) .nil)))) (.cons (.ret (.call (.zu 199) (.cons (.loc 4) .nil))) .nil)))
noncomputable def Zh:FD:=⟨[7,0],[],TA⟩
noncomputable def TG:S:=(.cons (.asg 65 (.lst (.cons (.loc 0) .nil))) (.cons (.while (.cmp .yO (.sub (.sub (.loc 7) (.sub (.loc 65) (.neg 1))) (.int 0)) .none) (.cons (.expr (.zl (.loc 65) 30 (.cons (.sub (.sub (.loc 7) (.sub (.loc 65) (.neg 1))) (.int 0)) .nil))) .nil)) (.cons (.asg 22 (.lst .nil)) (.cons (.for [5] .plain (.pC (.loc 65)) (.cons (.asg 39 (.lst .nil)) (.cons (.for [32,10] .plain (.call (.zu 116) (.cons (.loc 7) (.cons (.loc 5) .nil))) (.cons (.cond (.and (.cons (.cmp .y5 (.loc 10) (.loc 39)) (.cons (.or (.cons (.cmp .eq (.sub (.loc 32) (.int 0)) (.int 0)) (.cons (.cmp .y5 (.loc 10) (.loc 22)) .nil))) .nil))) (.cons (.expr (.zl (.loc 39) 30 (.cons (.loc 10) .nil))) .nil) .nil) .nil)) (.cons (.asg 22 (.bin .add (.loc 39) (.comp (.loc 10) [10] .plain (.loc 22) (.cons (.cmp .y5 (.loc 10) (.loc 39)) .nil)))) .nil)))) (.cons (.ret (.loc 22)) .nil)))))
noncomputable def Zl:FD:=⟨[7,0],[],TG⟩
noncomputable def TJ:S:=(.cons (.for [5] .plain (.loc 33) (.cons (.asg 13 (.zl (.sub (.sub (.loc 7) (.loc 5)) (.int 3)) 49 (.cons (.loc 8) .nil))) (.cons (.cond (.cmp .yO (.loc 13) .none) (.cons (.ret (.ite (.cmp .is (.sub (.loc 13) (.int 0)) .none) .none (.loc 13))) .nil) .nil) .nil))) (.cons (.ret .none) .nil))
noncomputable def Zn:FD:=⟨[7,33,8],[],TJ⟩
noncomputable def TF:S:=(.cons (.cond (.cmp .eq (.loc 10) (.str [65])) (.cons (.ret (.str [84,121,112,101,69,114,114,111,114])) .nil) .nil) (.cons (.cond (.cmp .yM (.loc 0) (.comp (.loc 5) [32,5] .plain (.call (.zu 116) (.cons (.loc 7) (.cons (.loc 10) .nil))) .nil)) (.cons (.ret (.str [65,114,103,117,109,101,110,116,69,114,114,111,114])) .nil) .nil) (.cons (.cond (.cmp .y5 (.loc 10) (.sub (.sub (.loc 7) (.loc 0)) (.loc 77))) (.cons (.expr (.zl (.sub (.sub (.loc 7) (.loc 0)) (.loc 77)) 30 (.cons (.loc 10) .nil))) .nil) .nil) (.cons (.ret (.str [])) .nil))))
noncomputable def Zk:FD:=⟨[7,0,10,77],[],TF⟩
noncomputable def TL:S:=(.cons (.y8 [16,0,10,8,26,14,17] (.loc 28)) (.cons (.asg 19 (.sub (.sub (.loc 7) (.loc 0)) (.int 3))) (.cons (.cond (.cmp .lt (.loc 16) (.int 3)) (.cons (.y3 (.loc 19) (.loc 8) (.tup (.cons (.bin .add (.str [64]) (.call (.zu 70) (.cons (.loc 17) .nil))) (.cons (.loc 0) (.cons (.loc 14) (.cons (.loc 8) .nil)))))) (.cons (.ret (.str [])) .nil)) .nil) (.cons (.cond (.cmp .lt (.loc 16) (.int 6)) (.cons (.ret (.call (.zu 175) (.cons (.loc 7) (.cons (.loc 0) (.cons (.loc 10) (.cons (.ite (.cmp .eq (.loc 16) (.int 4)) (.int 1) (.int 2)) .nil)))))) .nil) .nil) (.cons (.asg 13 (.ite (.cmp .eq (.loc 16) (.int 6)) (.zl (.loc 19) 49 (.cons (.loc 8) .nil)) (.call (.zu 73) (.cons (.loc 7) (.cons (.call (.zu 54) (.cons (.loc 7) (.cons (.loc 0) .nil))) (.cons (.loc 8) .nil)))))) (.cons (.cond (.or (.cons (.cmp .is (.loc 13) .none) (.cons (.cmp .is (.sub (.loc 13) (.int 0)) .none) .nil))) (.cons (.cond (.or (.cons (.cmp .eq (.loc 16) (.int 6)) (.cons (.cmp .y5 (.loc 0) (.tup (.cons (.str [77]) (.cons (.str [78]) .nil)))) .nil))) (.cons (.ret (.str [78,97,109,101,69,114,114,111,114])) .nil) .nil) (.cons (.asg 13 (.call (.zu 73) (.cons (.loc 7) (.cons (.call (.zu 54) (.cons (.loc 7) (.cons (.str [79,98,106,101,99,116]) .nil))) (.cons (.loc 8) .nil))))) (.cons (.cond (.cmp .is (.loc 13) .none) (.cons (.ret (.str [78,97,109,101,69,114,114,111,114])) .nil) .nil) .nil))) .nil) (.cons (.cond (.cmp .eq (.loc 16) (.int 6)) (.cons (.expr (.zl (.loc 19) 69 (.cons (.loc 8) .nil))) .nil) (.cons (.cond (.cmp .eq (.loc 16) (.int 7)) (.cons (.y3 (.loc 19) (.loc 8) (.tup (.cons .none (.cons (.loc 0) (.cons (.str [112,117,98,108,105,99]) (.cons (.loc 8) .nil)))))) .nil) (.cons (.cond (.cmp .eq (.loc 16) (.int 8)) (.cons (.y3 (.loc 19) (.loc 26) (.loc 13)) .nil) (.cons (.cond (.or (.cons (.cmp .ne (.sub (.loc 13) (.int 2)) (.loc 14)) (.cons (.cmp .y5 (.loc 8) (.loc 19)) .nil))) (.cons (.y3 (.loc 19) (.loc 8) (.tup (.cons (.sub (.loc 13) (.int 0)) (.cons (.sub (.loc 13) (.int 1)) (.cons (.loc 14) (.cons (.sub (.loc 13) (.int 3)) .nil)))))) .nil) .nil) .nil)) .nil)) .nil)) (.cons (.ret (.str [])) .nil))))))))
noncomputable def Zp:FD:=⟨[7,28],[],TL⟩
noncomputable def TK:S:=(.cons (.y8 [16,0,10,8,26,14,17] (.loc 28)) (.cons (.try (.cons (.cond (.and (.cons (.cmp .eq (.loc 16) (.int 5)) (.cons (.cmp .eq (.sub (.loc 0) (.int 0)) (.str [60])) .nil))) (.cons (.expr (.call (.zu 88) (.cons (.loc 1) (.cons (.sub (.loc 9) (.wQ (.loc 0))) (.cons (.sub (.loc 9) (.loc 10)) .nil))))) (.cons (.ret (.str [])) .nil)) .nil) (.cons (.asg 2 (.ite (.cmp .eq (.sub (.loc 0) (.int 0)) (.str [60])) (.call (.zu 68) (.cons (.loc 1) (.cons (.sub (.loc 9) (.wQ (.loc 0))) .nil))) (.sub (.loc 9) (.loc 0)))) (.cons (.cond (.cmp .lt (.loc 16) (.int 3)) (.cons (.expr (.call (.zu 140) (.cons (.loc 1) (.cons (.loc 2) (.cons (.call (.zu 95) (.cons (.loc 8) (.cons (.loc 2) (.cons (.str [114,101,97,100,101,114]) (.cons .none (.cons (.bin .add (.str [64]) (.call (.zu 70) (.cons (.loc 17) .nil))) (.cons (.loc 14) .nil))))))) .nil))))) .nil) (.cons (.cond (.cmp .eq (.loc 16) (.int 4)) (.cons (.expr (.call (.zu 143) (.cons (.loc 1) (.cons (.loc 2) (.cons (.sub (.loc 9) (.loc 10)) .nil))))) .nil) (.cons (.cond (.cmp .lt (.loc 16) (.int 6)) (.cons (.expr (.call (.zu 122) (.cons (.loc 1) (.cons (.loc 2) (.cons (.sub (.loc 9) (.loc 10)) .nil))))) .nil) (.cons (.cond (.cmp .eq (.loc 16) (.int 6)) (.cons (.expr (.call (.zu 142) (.cons (.loc 1) (.cons (.loc 2) (.cons (.loc 8) .nil))))) .nil) (.cons (.cond (.cmp .eq (.loc 16) (.int 7)) (.cons (.expr (.call (.zu 146) (.cons (.loc 1) (.cons (.loc 2) (.cons (.loc 8) .nil))))) .nil) (.cons (.cond (.cmp .eq (.loc 16) (.int 8)) (.cons (.expr (.call (.zu 137) (.cons (.loc 1) (.cons (.loc 2) (.cons (.loc 26) (.cons (.loc 8) .nil)))))) .nil) (.cons (.expr (.call (.zu 151) (.cons (.loc 1) (.cons (.loc 2) (.cons (.lst (.cons (.loc 8) .nil)) (.cons (.loc 14) .nil)))))) .nil)) .nil)) .nil)) .nil)) .nil)) .nil)) .nil))) 186 (.call (.zu 60) (.cons (.attr (.attr (.loc 186) 36) 18) .nil))) (.cons (.ret (.str [])) .nil)))
noncomputable def Zo:FD:=⟨[1,9,28],[],TK⟩
noncomputable def T9:S:=(.cons (.ret (.ite (.cmp .is (.loc 20) .none) .none (.tup (.cons (.attr (.loc 20) 63) (.cons (.call (.zu 60) (.cons (.attr (.loc 20) 18) .nil)) (.cons (.attr (.loc 20) 14) (.cons (.attr (.loc 20) 0) .nil))))))) .nil)
noncomputable def Zg:FD:=⟨[20],[],T9⟩
noncomputable def T7:S:=(.cons (.cond (.cmp .is (.loc 13) .none) (.cons (.ret .none) .nil) .nil) (.cons (.asg 135 (.zl (.wY (.kv (.str [60,97,62]) (.str [35,60,65,62]) (.kv (.str [60,99,62]) (.str [35,60,66,62]) .nil))) 49 (.cons (.sub (.loc 13) (.int 1)) (.cons (.wQ (.sub (.loc 13) (.int 1))) .nil)))) (.cons (.ret (.tup (.cons (.sub (.loc 13) (.int 0)) (.cons (.ite (.cmp .eq (.sub (.sub (.loc 13) (.int 1)) (.int 0)) (.str [60])) (.bin .add (.bin .add (.str [35,60,67,108,97,115,115,58]) (.loc 135)) (.str [62])) (.sub (.loc 13) (.int 1))) (.cons (.sub (.loc 13) (.int 2)) (.cons (.sub (.loc 13) (.int 3)) .nil)))))) .nil)))
noncomputable def Ze:FD:=⟨[13],[],T7⟩
noncomputable def T8:S:=(.cons (.asg 58 (.call (.zu 73) (.cons (.loc 7) (.cons (.loc 33) (.cons (.loc 8) .nil))))) (.cons (.cond (.cmp .is (.loc 58) .none) (.cons (.ret (.lst (.cons .none .nil))) .nil) .nil) (.cons (.asg 193 (.ite (.cmp .yM (.sub (.loc 58) (.int 1)) (.loc 33)) (.qQ (.loc 33) (.bin .add (.zl (.loc 33) 138 (.cons (.sub (.loc 58) (.int 1)) .nil)) (.int 1))) (.lst .nil))) (.cons (.ret (.lst (.cons (.loc 58) (.cons (.call (.zu 73) (.cons (.loc 7) (.cons (.loc 193) (.cons (.sub (.loc 58) (.int 3)) .nil)))) .nil)))) .nil))))
noncomputable def Zf:FD:=⟨[7,33,8],[],T8⟩
noncomputable def TN:S:=(.cons (.y8 [2,33] (.tup (.cons (.zl (.loc 1) 105 (.cons (.loc 36) .nil)) (.cons (.call (.zu 54) (.cons (.loc 7) (.cons (.loc 0) .nil))) .nil)))) (.cons (.y8 [56,20] (.tup (.cons (.call (.zu 172) (.cons (.loc 7) (.cons (.loc 33) (.cons (.loc 8) .nil)))) (.cons (.call (.zu 84) (.cons (.loc 1) (.cons (.loc 2) (.cons (.loc 8) .nil)))) .nil)))) (.cons (.asg 4 (.lst (.cons (.call (.zu 126) (.cons (.loc 20) .nil)) .nil))) (.cons (.cond (.cmp .yO (.loc 20) .none) (.cons (.expr (.zl (.loc 4) 30 (.cons (.call (.zu 126) (.cons (.call (.zu 180) (.cons (.loc 1) (.cons (.loc 2) (.cons (.attr (.loc 20) 18) (.cons (.attr (.loc 20) 0) .nil))))) .nil)) .nil))) .nil) .nil) (.cons (.cond (.cmp .ne (.loc 4) (.comp (.call (.zu 154) (.cons (.loc 13) .nil)) [13] .plain (.loc 56) .nil)) (.cons (.ret (.bool Ig)) .nil) .nil) (.cons (.asg 113 (.comp (.call (.zu 144) (.cons (.loc 1) (.cons (.loc 36) (.cons (.loc 8) (.cons (.loc 91) .nil))))) [91] .plain (.tup (.cons (.bool Ib) (.cons (.bool Ig) .nil))) .nil)) (.cons (.ret (.cmp .eq (.loc 113) (.lst (.cons (.cmp .yO (.sub (.loc 56) (.int 0)) .none) (.cons (.and (.cons (.cmp .yO (.sub (.loc 56) (.int 0)) .none) (.cons (.cmp .eq (.sub (.sub (.loc 56) (.int 0)) (.int 2)) (.str [112,117,98,108,105,99])) .nil))) .nil))))) .nil)))))))
noncomputable def Zr:FD:=⟨[1,36,7,0,8],[],TN⟩
noncomputable def TB:S:=(.cons (.ret (.comp (.loc 8) [8] .plain (.loc 19) (.cons (.and (.cons (.cmp .yO (.sub (.sub (.loc 19) (.loc 8)) (.int 0)) .none) (.cons (.cmp .ne (.sub (.sub (.loc 19) (.loc 8)) (.int 2)) (.str [112,114,105,118,97,116,101])) .nil))) .nil))) .nil)
noncomputable def Zi:FD:=⟨[19],[],TB⟩
noncomputable def TH:S:=(.cons (.for [5] .plain (.lst (.cons (.str [65]) (.cons (.str [66]) (.cons (.str [77]) (.cons (.str [78]) (.cons (.str [67,108,97,115,115]) (.cons (.str [79,98,106,101,99,116]) (.cons (.str [75,101,114,110,101,108]) .nil)))))))) (.cons (.cond (.cmp .ne (.call (.zu 130) (.cons (.loc 1) (.cons (.sub (.loc 9) (.wQ (.loc 0))) (.cons (.sub (.loc 9) (.loc 5)) .nil)))) (.cmp .yM (.loc 5) (.call (.zu 54) (.cons (.loc 7) (.cons (.loc 0) .nil))))) (.cons (.ret (.bool Ig)) .nil) .nil) .nil)) (.cons (.ret (.bool Ib)) .nil))
noncomputable def Zm:FD:=⟨[1,9,7,0],[],TH⟩
noncomputable def TM:S:=(.cons (.asg 1 (.call (.zu 195) (.cons (.wY .nil) (.cons (.wY .nil) (.cons .none (.cons (.bin .pow (.int 10) (.int 6)) .nil)))))) (.cons (.asg 9 (.call (.zu 159) (.cons (.comp (.tup (.cons (.loc 0) (.cons (.zl (.loc 1) 38 (.cons (.loc 0) .nil)) .nil))) [0] .plain (.lst (.cons (.str [79,98,106,101,99,116]) (.cons (.str [67,108,97,115,115]) (.cons (.str [75,101,114,110,101,108]) .nil)))) .nil) .nil))) (.cons (.for [0,11] .plain (.lst (.cons (.tup (.cons (.str [65]) (.cons (.str [79,98,106,101,99,116]) .nil))) (.cons (.tup (.cons (.str [66]) (.cons (.str [65]) .nil))) .nil))) (.cons (.y3 (.loc 9) (.loc 0) (.zl (.loc 1) 55 (.cons (.loc 0) (.cons (.bool Ib) (.cons (.sub (.loc 9) (.loc 11)) .nil))))) .nil)) (.cons (.for [0] .plain (.lst (.cons (.str [77]) (.cons (.str [78]) .nil))) (.cons (.y3 (.loc 9) (.loc 0) (.zl (.loc 1) 55 (.cons (.loc 0) (.cons (.bool Ig) .nil)))) .nil)) (.cons (.mT (.loc 9) (.str [97]) (.loc 9) (.str [99]) (.tup (.cons (.zl (.loc 1) 36 (.cons (.sub (.loc 9) (.str [65])) .nil)) (.cons (.zl (.loc 1) 36 (.cons (.sub (.loc 9) (.str [66])) .nil)) .nil)))) (.cons (.ret (.tup (.cons (.loc 1) (.cons (.loc 9) .nil)))) .nil))))))
noncomputable def Zq:FD:=⟨[],[],TM⟩
noncomputable def TO:S:=(.cons (.asg 25 (.bin .add (.comp (.bin .mod (.call (.zu 118) (.cons (.loc 15) .nil)) (.bin .pow (.int 10) (.int 7))) [15] .plain (.pD (.loc 97) (.int 7)) .nil) (.bin .mul (.lst (.cons (.int 2) .nil)) (.call (.zu 45) (.cons (.cmp .eq (.loc 97) (.lst .nil)) .nil))))) (.cons (.y8 [7,37] (.tup (.cons (.call (.zu 177) .nil) (.cons (.cmp .lt (.call (.zu 31) (.cons (.loc 25) .nil)) (.int 2)) .nil)))) (.cons (.y8 [1,9] (.call (.zu 178) .nil)) (.cons (.for [12] .range (.call (.zu 31) (.cons (.loc 25) .nil)) (.cons (.cond (.cmp .eq (.loc 12) (.bin .floordiv (.call (.zu 31) (.cons (.loc 25) .nil)) (.int 2))) (.cons (.y3 (.loc 9) (.str [67]) (.zl (.loc 1) 55 (.cons (.str [67]) (.cons (.bool Ib) (.cons (.sub (.loc 9) (.str [65])) .nil))))) .nil) .nil) (.cons (.asg 15 (.bin .floordiv (.sub (.loc 25) (.loc 12)) (.int 10))) (.cons (.asg 29 (.bin .add (.lst (.cons (.str [60,65,62]) (.cons (.str [60,97,62]) (.cons (.str [60,66,62]) (.cons (.str [60,77,62]) (.cons (.str [65]) (.cons (.str [66]) (.cons (.str [60,99,62]) (.cons (.str [77]) .nil))))))))) (.bin .mul (.lst (.cons (.str [60,67,62]) (.cons (.str [67]) .nil))) (.call (.zu 45) (.cons (.cmp .yM (.str [67]) (.loc 9)) .nil))))) (.cons (.y8 [0,10] (.tup (.cons (.sub (.loc 29) (.bin .mod (.loc 15) (.call (.zu 31) (.cons (.loc 29) .nil)))) (.cons (.sub (.lst (.cons (.str [77]) (.cons (.str [78]) (.cons (.str [78]) (.cons (.str [65]) .nil))))) (.bin .mod (.bin .floordiv (.loc 15) (.int 10)) (.int 4))) .nil)))) (.cons (.y8 [8,26,14] (.tup (.cons (.sub (.str [97,98,99]) (.bin .mod (.bin .floordiv (.loc 15) (.int 40)) (.int 3))) (.cons (.sub (.str [97,98,99]) (.bin .mod (.bin .floordiv (.loc 15) (.int 120)) (.int 3))) (.cons (.sub (.lst (.cons (.str [112,117,98,108,105,99]) (.cons (.str [112,114,105,118,97,116,101]) (.cons (.str [112,114,111,116,101,99,116,101,100]) .nil)))) (.bin .mod (.bin .floordiv (.loc 15) (.int 360)) (.int 3))) .nil))))) (.cons (.asg 28 (.tup (.cons (.bin .mod (.sub (.loc 25) (.loc 12)) (.int 10)) (.cons (.loc 0) (.cons (.loc 10) (.cons (.loc 8) (.cons (.loc 26) (.cons (.loc 14) (.cons (.loc 12) .nil))))))))) (.cons (.cond (.cmp .ne (.call (.zu 102) (.cons (.loc 1) (.cons (.loc 9) (.cons (.loc 28) .nil)))) (.call (.zu 101) (.cons (.loc 7) (.cons (.loc 28) .nil)))) (.cons (.ret (.bool Ig)) .nil) .nil) (.cons (.asg 40 (.ite (.loc 37) (.lst (.cons (.str [60,66,62]) (.cons (.str [60,99,62]) .nil))) (.bin .add (.lst (.cons (.str [60,66,62]) (.cons (.str [60,99,62]) (.cons (.sub (.lst (.cons (.str [60,97,62]) (.cons (.str [60,77,62]) (.cons (.str [60,65,62]) .nil)))) (.bin .mod (.loc 12) (.int 3))) .nil)))) (.bin .mul (.lst (.cons (.str [60,67,62]) .nil)) (.call (.zu 45) (.cons (.cmp .yM (.str [67]) (.loc 9)) .nil)))))) (.cons (.for [5] .plain (.loc 40) (.cons (.for [48] .plain (.ite (.loc 37) (.str [97]) (.str [97,98,99])) (.cons (.cond (.not (.call (.zu 75) (.cons (.loc 1) (.cons (.sub (.loc 9) (.wQ (.loc 5))) (.cons (.loc 7) (.cons (.loc 5) (.cons (.loc 48) .nil))))))) (.cons (.ret (.bool Ig)) .nil) .nil) .nil)) .nil)) (.cons (.cond (.and (.cons (.not (.loc 37)) (.cons (.not (.call (.zu 103) (.cons (.loc 1) (.cons (.loc 9) (.cons (.loc 7) (.cons (.sub (.loc 40) (.bin .mod (.loc 12) (.int 3))) .nil)))))) .nil))) (.cons (.ret (.bool Ig)) .nil) .nil) .nil))))))))))) (.cons (.for [0] .plain (.lst (.cons (.str [65]) (.cons (.str [66]) (.cons (.str [77]) .nil)))) (.cons (.cond (.cmp .ne (.call (.zu 90) (.cons (.loc 1) (.cons (.sub (.loc 9) (.loc 0)) (.cons (.bool Ig) .nil)))) (.call (.zu 92) (.cons (.sub (.sub (.loc 7) (.loc 0)) (.int 3)) .nil))) (.cons (.ret (.bool Ig)) .nil) .nil) .nil)) (.cons (.ret (.cmp .eq (.call (.zu 90) (.cons (.loc 1) (.cons (.call (.zu 68) (.cons (.loc 1) (.cons (.sub (.loc 9) (.str [65])) .nil))) (.cons (.bool Ig) .nil)))) (.call (.zu 92) (.cons (.sub (.sub (.loc 7) (.str [60,65,62])) (.int 3)) .nil)))) .nil))))))
noncomputable def Zs:FD:=⟨[97],[],TO⟩
noncomputable def vT:List (Nat×V):=[(75,.fn 972),(178,.fn 989),(101,.fn 939),(102,.fn 946),(73,.fn 927),(103,.fn 984),(54,.fn 920),(175,.fn 932),(177,.fn 908),(92,.fn 977),(116,.fn 915),(126,.fn 953),(172,.fn 967),(154,.fn 960),(181,.fn 380),(137,.fn 530),(165,.fn 523),(140,.fn 481),(67,.fn 432),(88,.fn 565),(84,.fn 446),(180,.fn 453),(117,.fn 439),(60,.fn 308),(129,.fn 420),(43,.fn 368),(122,.fn 551),(130,.fn 572),(148,.fn 495),(209,.fn 994),(81,.fn 392),(173,.fn 385),(90,.fn 584),(83,.fn 502),(127,.fn 544),(93,.fn 467),(82,.fn 375),(68,.fn 474),(204,.fn 577),(155,.fn 488),(143,.fn 558),(74,.fn 460),(142,.fn 516),(144,.fn 591),(85,.fn 274),(151,.fn 537),(160,.fn 361),(206,.fn 346),(145,.fn 267),(146,.fn 509),(64,.cl 40),(121,.cl 62),(150,.cl 82),(153,.cl 120),(152,.cl 140),(149,.cl 161),(125,.cl 181),(205,.cl 201),(44,.cl 228),(95,.cl 256),(108,.cl 404),(201,.cl 609),(139,.cl 629),(195,.cl 899),(31,.bi .len),(188,.bi .sum),(23,.bi .isinstance),(118,.bi .abs),(199,.bi .sorted),(112,.ty .bool),(45,.ty .int),(70,.ty .str),(194,.ty .list),(159,.ty .dict),(207,.ty .cA),(196,.ty .range),(203,.ty .enum),(168,.tup [.str [75,101,114,110,101,108],.str [67,111,109,112,97,114,97,98,108,101],.str [69,110,117,109,101,114,97,98,108,101]]),(198,.tup [.str [78,105,108,67,108,97,115,115],.str [84,114,117,101,67,108,97,115,115],.str [70,97,108,115,101,67,108,97,115,115],.str [73,110,116,101,103,101,114],.str [78,117,109,101,114,105,99],.str [83,121,109,98,111,108]]),(171,.ref 0),(133,.ref 1)]
noncomputable def fns:List (Nat×FD):=[(37,aV),(59,mD),(178,mG),(218,mE),(225,aW),(245,mI),(253,mH),(267,ZN),(274,ZQ),(308,Zy),(346,ZO),(361,mA),(368,Zw),(375,ZY),(380,aG),(385,Zc),(392,Zd),(420,Zx),(432,aC),(439,Zz),(446,aA),(453,a9),(460,ZT),(467,ZZ),(474,ZX),(481,aD),(488,ZV),(495,Zt),(502,Za),(509,ZM),(516,ZS),(523,aE),(530,aF),(537,ZP),(544,Z_),(551,Zv),(558,ZU),(565,aB),(572,Zu),(577,ZW),(584,Zb),(591,ZR),(606,mF),(626,gF),(659,mC),(680,aN),(701,aU),(706,aO),(713,aQ),(721,mB),(728,aT),(735,aK),(742,aM),(749,aJ),(763,aI),(805,aH),(812,aP),(826,aS),(833,aR),(908,Zj),(915,Zh),(920,Zl),(927,Zn),(932,Zk),(939,Zp),(946,Zo),(953,Zg),(960,Ze),(967,Zf),(972,Zr),(977,Zi),(984,Zm),(989,Zq),(994,Zs)]
noncomputable def xV:List (Nat×(Nat×Bool)):=[(40,(37,Ig)),(62,(59,Ig)),(82,(79,Ig)),(120,(98,Ig)),(140,(137,Ig)),(161,(158,Ig)),(181,(178,Ig)),(201,(198,Ig)),(228,(218,Ig)),(256,(245,Ig)),(404,(245,Ig)),(609,(606,Ib)),(629,(626,Ib)),(899,(659,Ig))]
noncomputable def meths:List (Nat×List (Nat×Nat)):=[(40,[(47,37)]),(62,[(47,59)]),(82,[(47,79)]),(120,[(47,98),(208,105),(46,112),(163,117)]),(140,[(47,137)]),(161,[(47,158)]),(181,[(47,178)]),(201,[(47,198)]),(228,[(47,218),(72,225)]),(256,[(47,245),(134,253)]),(404,[(47,245),(134,253)]),(609,[(47,606)]),(629,[(47,626)]),(899,[(47,659),(211,666),(212,673),(17,680),(227,687),(104,694),(38,701),(182,706),(147,713),(55,721),(100,728),(105,735),(176,742),(169,749),(226,756),(62,763),(215,770),(219,777),(214,784),(218,791),(210,798),(36,805),(185,812),(213,819),(136,826),(57,833),(228,840),(221,847),(217,854),(232,861),(234,868),(220,875),(216,882),(230,889),(233,896)])]
noncomputable def kO:List (Nat×List Nat):=[(40,[40]),(62,[62,40]),(82,[82,40]),(120,[120,40]),(140,[140,40]),(161,[161,40]),(181,[181,40]),(201,[201,40]),(228,[228,40]),(256,[256]),(404,[404,256]),(609,[609]),(629,[629,609]),(899,[899])]
noncomputable def uD{zi:Type}(x:Nat):List (Nat×zi)->Option zi|[]=>none|(y,v)::r=>match IP x y with|Ib=>Ie v|Ig=>uD x r
structure Prog where
 glob:Nat->Option V
 fn:Nat->Option FD
 cls:Nat->Option (Nat×Bool)
 zl:Nat->Nat->Option Nat
 sub:Nat->Nat->Bool
 sj:Nat
noncomputable def prog : Prog where
  glob x := uD x vT
  fn a := uD a fns
  cls a := uD a xV
  zl c x := (uD c meths).bind fun l => uD x l
  sub c d := match uD c kO with | Ie l => l.any (IP d) | none => Ig
  sj := 629
noncomputable def oW:List (List Nat×V):=[([66,97,115,105,99,79,98,106,101,99,116],.none),([79,98,106,101,99,116],.str [66,97,115,105,99,79,98,106,101,99,116]),([77,111,100,117,108,101],.str [79,98,106,101,99,116]),([67,108,97,115,115],.str [77,111,100,117,108,101]),([75,101,114,110,101,108],.none),([67,111,109,112,97,114,97,98,108,101],.none),([69,110,117,109,101,114,97,98,108,101],.none),([78,105,108,67,108,97,115,115],.str [79,98,106,101,99,116]),([84,114,117,101,67,108,97,115,115],.str [79,98,106,101,99,116]),([70,97,108,115,101,67,108,97,115,115],.str [79,98,106,101,99,116]),([78,117,109,101,114,105,99],.str [79,98,106,101,99,116]),([73,110,116,101,103,101,114],.str [78,117,109,101,114,105,99]),([83,116,114,105,110,103],.str [79,98,106,101,99,116]),([83,121,109,98,111,108],.str [79,98,106,101,99,116]),([65,114,114,97,121],.str [79,98,106,101,99,116]),([72,97,115,104],.str [79,98,106,101,99,116]),([82,97,110,103,101],.str [79,98,106,101,99,116]),([80,114,111,99],.str [79,98,106,101,99,116]),([70,105,98,101,114],.str [79,98,106,101,99,116]),([69,120,99,101,112,116,105,111,110],.str [79,98,106,101,99,116]),([83,99,114,105,112,116,69,114,114,111,114],.str [69,120,99,101,112,116,105,111,110]),([78,111,116,73,109,112,108,101,109,101,110,116,101,100,69,114,114,111,114],.str [83,99,114,105,112,116,69,114,114,111,114]),([83,121,115,116,101,109,83,116,97,99,107,69,114,114,111,114],.str [69,120,99,101,112,116,105,111,110]),([83,116,97,110,100,97,114,100,69,114,114,111,114],.str [69,120,99,101,112,116,105,111,110]),([65,114,103,117,109,101,110,116,69,114,114,111,114],.str [83,116,97,110,100,97,114,100,69,114,114,111,114]),([85,110,99,97,117,103,104,116,84,104,114,111,119,69,114,114,111,114],.str [65,114,103,117,109,101,110,116,69,114,114,111,114]),([70,105,98,101,114,69,114,114,111,114],.str [83,116,97,110,100,97,114,100,69,114,114,111,114]),([73,110,100,101,120,69,114,114,111,114],.str [83,116,97,110,100,97,114,100,69,114,114,111,114]),([75,101,121,69,114,114,111,114],.str [73,110,100,101,120,69,114,114,111,114]),([83,116,111,112,73,116,101,114,97,116,105,111,110],.str [73,110,100,101,120,69,114,114,111,114]),([76,111,99,97,108,74,117,109,112,69,114,114,111,114],.str [83,116,97,110,100,97,114,100,69,114,114,111,114]),([78,97,109,101,69,114,114,111,114],.str [83,116,97,110,100,97,114,100,69,114,114,111,114]),([78,111,77,101,116,104,111,100,69,114,114,111,114],.str [78,97,109,101,69,114,114,111,114]),([78,111,77,97,116,99,104,105,110,103,80,97,116,116,101,114,110,69,114,114,111,114],.str [83,116,97,110,100,97,114,100,69,114,114,111,114]),([78,111,77,97,116,99,104,105,110,103,80,97,116,116,101,114,110,75,101,121,69,114,114,111,114],.str [78,111,77,97,116,99,104,105,110,103,80,97,116,116,101,114,110,69,114,114,111,114]),([82,97,110,103,101,69,114,114,111,114],.str [83,116,97,110,100,97,114,100,69,114,114,111,114]),([82,117,110,116,105,109,101,69,114,114,111,114],.str [83,116,97,110,100,97,114,100,69,114,114,111,114]),([70,114,111,122,101,110,69,114,114,111,114],.str [82,117,110,116,105,109,101,69,114,114,111,114]),([84,121,112,101,69,114,114,111,114],.str [83,116,97,110,100,97,114,100,69,114,114,111,114]),([90,101,114,111,68,105,118,105,115,105,111,110,69,114,114,111,114],.str [83,116,97,110,100,97,114,100,69,114,114,111,114])]
noncomputable def nR:List (List Nat×V):=[([79,98,106,101,99,116],.tup [.str [75,101,114,110,101,108]]),([78,117,109,101,114,105,99],.tup [.str [67,111,109,112,97,114,97,98,108,101]]),([83,116,114,105,110,103],.tup [.str [67,111,109,112,97,114,97,98,108,101]]),([83,121,109,98,111,108],.tup [.str [67,111,109,112,97,114,97,98,108,101]]),([65,114,114,97,121],.tup [.str [69,110,117,109,101,114,97,98,108,101]]),([72,97,115,104],.tup [.str [69,110,117,109,101,114,97,98,108,101]]),([82,97,110,103,101],.tup [.str [69,110,117,109,101,114,97,98,108,101]])]
open PySem PySem.W PySem.Calls PyProof.Rows
noncomputable abbrev FM:=Nat->Option I4
noncomputable abbrev OW:=I4->Option Nat
mutual
noncomputable def VR(f:FM)(C:OW)(h:Hu):V->IX->Prop|.none,w=>w=.none|.bool b,w=>w=.bool b|.int i,w=>∃t,w=.int i t|.str s,w=>∃t,w=.str (tx s) t|.tup vs,w=>X4 λa items ep sl=>C4 (w=.ref a) (h.get? a=Ie ⟨.type "tuple",none,.seq items ep,sl⟩) (C a=none) (zS f C h vs items.toList)|.ref n,w=>∃a,f n=Ie a/\w=.ref a|.fn a,w=>w=.ref a|.cl a,w=>w=.ref a|.bi b,w=>w=.builtin b.id|.ty t,w=>w=.type t.id
noncomputable def zS(f:FM)(C:OW)(h:Hu):List V->List IX->Prop|[],ws=>ws=[]|v::vs,ws=>X2 λw r=>C3 (ws=w::r) (VR f C h v w) (zS f C h vs r)
end
noncomputable def DR(P:Params)(f:FM)(C:OW)(h:Hu):List (List Nat×V)->List Hn->Prop|[],ws=>ws=[]|(k,v)::es,ws=>X3 λt w r=>C3 (ws=⟨Eg P (tx k),.str (tx k) t,w⟩::r) (VR f C h v w) (DR P f C h es r)
noncomputable def FR(f:FM)(C:OW)(h:Hu)(fs:List (Nat×V))(m:Str->Option IX):Prop:=∀x,(lk x fs=none->m (nm x)=none)/\∀v,lk x fs=Ie v->∃w,m (nm x)=Ie w/\VR f C h v w
noncomputable def qy(h:Hu)(a:I4)(n:Nat)(m:Str->Option IX):Prop:=X3 λo es ep=>C5 (h.get? a=Ie o) (o.data=.dict es ep) (StrKeys es) (∀name,nsFind es name=m name) (es.size<=n)
noncomputable def qJ(f:FM)(C:OW)(h:Hu)(n:Nat)(a:I4)(fs:List (Nat×V)):Option I4->Prop|none=>fs=[]|Ie dx=>C3 (C dx=Ie n) (dx≠a) (∃m,qy h dx fs.length m/\FR f C h fs m)
noncomputable def b_(B:Hu)(c:Nat):Prop:=X2 λo cd=>C5 (B.get? c=Ie o) (o.data=.cls cd) (cd.mro.contains (.type "ValueError")=Ib) (cd.mro.contains (.type "BaseException")=Ib) (o.cls=.type "type")
noncomputable def nE(T:String)(items:Array IX)(ep:Nat):Obj:=⟨.type T,none,.seq items ep,#[]⟩
noncomputable def xo(ents:Array Hn)(ep:Nat):Obj:=⟨.type "dict",none,.dict ents ep,#[]⟩
theorem jh{a b:Array Hn}{c d:Nat}(h:Ie (xo a c)=Ie (xo b d)):a=b/\c=d:=by injection h with h;injection h with h1 h2 h3 h4;injection h3 with h5 h6;exact⟨h5,h6⟩
noncomputable def isTup(o:Option Obj):Prop:=X3 λitems ep sl=>o=Ie ⟨.type "tuple",none,.seq items ep,sl⟩
noncomputable def tS(P:Params)(B:Hu)(f:FM)(C:OW)(h:Hu)(n:Nat):O→I4→Prop|.list xs,a=>C a=Ie n∧X2 fun items ep=>h.get? a=Ie ⟨.type "list",none,.seq items ep,#[]⟩∧zS f C h xs items.toList|.qC xs,a=>X3 fun items ep sl=>B.get? a=Ie ⟨.type "list",none,.seq items ep,sl⟩∧zS f C h xs items.toList|.dict es,a=>C a=Ie n∧X2 fun ents ep=>C3 (h.get? a=Ie (xo ents ep)) (DR P f C h es ents.toList) ((es.map (·.1)).Nodup)|.uy es,a=>X2 fun ents ep=>C3 (B.get? a=Ie (xo ents ep)) (DR P f C h es ents.toList) (a≠sysModules)|.inst c fs,a=>C a=Ie n∧X2 fun dx m=>C5 (C dx=Ie n) (dx≠a) (h.get? a=Ie ⟨.ref c,Ie dx,.plain,#[]⟩) (qy h dx fs.length m) (FR f C h fs m)|.exc c t fs,a=>C a=Ie n∧X2 fun wJ vs=>C3 (h.get? a=Ie ⟨.ref c,wJ,.fields vs,#[]⟩) (C3 (6≤vs.size) (t=Ig→vs[1]?=Ie .none) (b_ B c)) (qJ f C h n a fs wJ)
structure Rel(P:Params)(B:Hu)(z:FM)(f:FM)(C:OW)(J:St)(h:Hu):Prop where
 base:∀b o,B.get? b=some o->h.get? b=some o
 fresh:∀b n,C b=some n->B.get? b=none
 alive:∀b n,C b=some n->∃o,h.get? b=some o
 qq:∀n a,f n=some a->n<J.length
 fix:∀n a,z n=some a->f n=some a
 objs:∀n o,J[n]?=some o->∃a,f n=some a/\tS P B f C h n o a
structure Ext(fr:List I4)(f:FM)(C:OW)(h:Hu)(f':FM)(zm:OW)(h':Hu):Prop where
 w9:∀n a,f n=some a->f' n=some a
 xH:∀b n,C b=some n->zm b=some n
 nL:∀b n,zm b=some n->C b=some n\/h.get? b=none
 live:∀b o,h.get? b=some o->∃o',h'.get? b=some o'
 keep:∀b o,h.get? b=some o->C b=none->b∉fr->o.cls≠.type "traceback"->h'.get? b=some o\/(o.cls=.type "frame"/\∃sl,h'.get? b=some {o with slots:=sl})
 tup:∀b,isTup (h.get? b)->C b=none->h'.get? b=h.get? b
noncomputable def grows(h h':Hu):Prop:=∀b o,h.get? b=Ie o->h'.get? b=Ie o
section
variable{fr:List I4}{z f f' z8 yc:FM}{C zm zA yg:OW}{h h' wG xI:Hu}{P:Params}{B:Hu}{J zy:St}
theorem grows.refl:grows h h:=λzz zz e=>e
theorem Ext.grow(g:grows h h'):Ext fr f C h f C h':=⟨λzz zz e=>e,λzz zz e=>e,λzz zz e=>.inl e,λb o e=>⟨o,g b o e⟩,λb o e zz zz zz=>.inl (g b o e),λb⟨zo,zY,zF,e⟩yX=>(g b _ e).trans e.symm⟩
theorem Ext.refl:Ext fr f C h f C h:=.grow grows.refl
theorem Ext.own(x:Ext fr f C h f' zm h'){b:I4}{o:Obj}(e:h.get? b=Ie o)(n:C b=none):zm b=none:=I5.mpr λk q=>(x.nL b k q).elim (λz=>nomatch n.symm.trans z) λz=>nomatch e.symm.trans z
theorem Ext.trans(x:Ext fr f C h z8 zA wG)(y:Ext fr z8 zA wG yc yg xI):Ext fr f C h yc yg xI:=by
 refine⟨λn a e=>y.w9 n a (x.w9 n a e),λb n e=>y.xH b n (x.xH b n e),λb n e=>?_,λb o e=>let⟨o',e'⟩:=x.live b o e;y.live b o' e',λb o e n lW ht=>?_,λb e n=>?_⟩;.refine(y.nL b n e).elim (x.nL b n) λz=>.inr (I5.mpr λo q=>?_);obtain⟨o',q'⟩:=x.live b o q;exact nomatch z.symm.trans q'
 .have hb:=x.own e n;rcases x.keep b o e n lW ht with z|⟨hc,sl,z⟩;.exact y.keep b o z hb lW ht
  .refine .inr ⟨hc,?_⟩;rcases y.keep b _ z hb lW ht with z'|⟨_,sq,z'⟩;.exact⟨sl,z'⟩
   .exact⟨sq,z'⟩
 .have t:=x.tup b e n;obtain⟨i,ep,sl,q⟩:=id e;exact(y.tup b (t▸e) (x.own q n)).trans t
theorem Ext.mono{qo:List I4}(x:Ext fr f C h f' zm h')(hs:∀b∈fr,b∈qo):Ext qo f C h f' zm h':=⟨x.w9,x.xH,x.nL,x.live,λb o e n lW ht=>x.keep b o e n (λq=>lW (hs b q)) ht,x.tup⟩
structure vi(f:FM)(C:OW)(h:Hu)(f':FM)(zm:OW)(h':Hu):Prop where
 w9:∀n a,f n=some a->f' n=some a
 tup:∀b,isTup (h.get? b)->C b=none->h'.get? b=h.get? b/\zm b=none
theorem Ext.v(x:Ext fr f C h f' zm h'):vi f C h f' zm h':=⟨x.w9,λb e n=>⟨x.tup b e n,let⟨_,_,_,q⟩:=e;x.own q n⟩⟩
mutual
theorem VR.yi(x:vi f C h f' zm h'):∀(v:V){w:IX},VR f C h v w->VR f' zm h' v w|.none,zo,e|.bool zY,zF,e|.int yX,xe,e|.str vM,uR,e|.fn u7,rx,e|.cl kI,gu,e|.bi gq,br,e|.ty bq,bp,e=>e|.tup vs,zo,⟨a,i,ep,sl,e1,e2,e3,e4⟩=>⟨a,i,ep,sl,e1,(x.tup a ⟨i,ep,sl,e2⟩ e3).1.trans e2,(x.tup a ⟨i,ep,sl,e2⟩ e3).2,zS.yi x vs e4⟩|.ref n,zo,⟨a,e1,e2⟩=>⟨a,x.w9 n a e1,e2⟩
theorem zS.yi(x:vi f C h f' zm h'):∀(vs:List V){ws:List IX},zS f C h vs ws->zS f' zm h' vs ws|[],zo,e=>e|v::vs,zo,⟨w,r,e,e1,e2⟩=>⟨w,r,e,VR.yi x v e1,zS.yi x vs e2⟩
end
theorem DR.yi(x:vi f C h f' zm h'):∀(es:List (List Nat×V)){ws:List Hn},DR P f C h es ws->DR P f' zm h' es ws|[],zo,e=>e|(zo,v)::es,zY,⟨t,w,r,e,e1,e2⟩=>⟨t,w,r,e,VR.yi x v e1,DR.yi x es e2⟩
theorem FR.yi(x:vi f C h f' zm h'){fs:List (Nat×V)}{m:Str->Option IX}(e:FR f C h fs m):FR f' zm h' fs m:=λy=>⟨(e y).1,λv q=>let⟨w,a,b⟩:=(e y).2 v q;⟨w,a,VR.yi x v b⟩⟩
theorem VR.ext(x:Ext fr f C h f' zm h')(v:V){w:IX}(e:VR f C h v w):VR f' zm h' v w:=VR.yi x.v v e
theorem zS.ext(x:Ext fr f C h f' zm h')(vs:List V){ws:List IX}(e:zS f C h vs ws):zS f' zm h' vs ws:=zS.yi x.v vs e
theorem zS.length:∀{vs:List V}{ws:List IX},zS f C h vs ws->ws.length=vs.length|[],zo,e=>by cases e;rfl|zo::zY,zF,⟨yX,xe,e,vM,r⟩=>by subst e;exact congrArg (.+1) (zS.length r)
theorem zS.get:∀{vs:List V}{ws:List IX}(_:zS f C h vs ws){i:Nat}{v:V},vs[i]?=Ie v->∃w,ws[i]?=Ie w/\VR f C h v w|v::vs,zo,⟨w,r,e,a,b⟩,0,v',hi=>by subst e;cases hi;exact⟨w,rfl,a⟩|v::vs,zo,⟨w,r,e,a,b⟩,i+1,v',hi=>by subst e;exact zS.get b hi
theorem zS.append:∀{vs V5:List V}{ws Uo:List IX},zS f C h vs ws->zS f C h V5 Uo->zS f C h (vs++V5) (ws++Uo)|[],zo,zY,zF,e,e'=>by cases e;exact e'|zo::zY,zF,yX,xe,⟨w,r,e,a,b⟩,e'=>by subst e;exact⟨w,_,rfl,a,zS.append b e'⟩
theorem zS.single{v:V}{w:IX}(e:VR f C h v w):zS f C h [v] [w]:=⟨w,[],rfl,e,rfl⟩
theorem qJ.to(x:vi f C h f' zm h')(xH:∀b n,C b=Ie n->zm b=Ie n){n:Nat}{a:I4}{fs:List (Nat×V)}(k:∀b o,h.get? b=Ie o->C b=Ie n->h'.get? b=Ie o):∀{d:Option I4},qJ f C h n a fs d->qJ f' zm h' n a fs d|none,e=>e|Ie zo,⟨w,ne,m,⟨o,es,ep,z,r,r',k_,cu⟩,t⟩=>⟨xH _ _ w,ne,m,⟨o,es,ep,k _ _ z w,r,r',k_,cu⟩,FR.yi x t⟩
theorem tS.to(x:vi f C h f' zm h')(xH:∀b n,C b=Ie n->zm b=Ie n){n:Nat}{a:I4}(k:∀b o,h.get? b=Ie o->C b=Ie n->h'.get? b=Ie o):∀{o:O},tS P B f C h n o a->tS P B f' zm h' n o a|.list xs,⟨w,i,ep,g,r⟩=>⟨xH _ _ w,i,ep,k _ _ g w,zS.yi x _ r⟩|.qC xs,⟨i,ep,sl,g,r⟩=>⟨i,ep,sl,g,zS.yi x _ r⟩|.dict es,⟨w,i,ep,g,r,r'⟩=>⟨xH _ _ w,i,ep,k _ _ g w,DR.yi x _ r,r'⟩|.uy es,⟨i,ep,g,r,r'⟩=>⟨i,ep,g,DR.yi x _ r,r'⟩|.inst c fs,⟨w,dx,m,w',ne,g,⟨o,es,ep,z,r,r',k_,cu⟩,t⟩=>⟨xH _ _ w,dx,m,xH _ _ w',ne,k _ _ g w,⟨o,es,ep,k _ _ z w',r,r',k_,cu⟩,FR.yi x t⟩|.exc c fl fs,⟨w,wJ,vs,g,s,q⟩=>⟨xH _ _ w,wJ,vs,k _ _ g w,s,qJ.to x xH k q⟩
theorem Rel.to(r:Rel P B z f C J h)(x:vi f C h f' zm h')(xH:∀b n,C b=Ie n->zm b=Ie n)(bs:∀b o,B.get? b=Ie o->h'.get? b=Ie o)(fresh:∀b n,zm b=Ie n->B.get? b=none)(alive:∀b n,zm b=Ie n->∃o,h'.get? b=Ie o)(qq:∀n a,f' n=Ie a->n<zy.length)(objs:∀n o,zy[n]?=Ie o->(J[n]?=Ie o/\∀c p,h.get? c=Ie p->C c=Ie n->h'.get? c=Ie p)\/∃a,f' n=Ie a/\tS P B f' zm h' n o a):Rel P B z f' zm zy h':=⟨bs,fresh,alive,qq,λn a e=>x.w9 n a (r.fix n a e),λn o e=>(objs n o e).elim (λ⟨q,k⟩=>let⟨a,fa,g⟩:=r.objs n o q;⟨a,x.w9 n a fa,tS.to x xH k g⟩) id⟩
theorem Rel.rH(r:Rel P B z f C J h)(x:vi f C h f C h')(bs:∀b o,B.get? b=Ie o->h'.get? b=Ie o)(k:∀n b o,h.get? b=Ie o->C b=Ie n->h'.get? b=Ie o):Rel P B z f C J h':=r.to x (λzz zz e=>e) bs r.fresh (λb n e=>let⟨o,q⟩:=r.alive b n e;⟨o,k n b o q e⟩) r.qq λn zz e=>.inl ⟨e,k n⟩
theorem Rel.grow(r:Rel P B z f C J h)(g:grows h h'):Rel P B z f C J h':=r.rH (Ext.grow (fr:=[]) g).v (λb o e=>g b o (r.base b o e)) λzz b o e zz=>g b o e
noncomputable def su(f:FM)(n:Nat)(a:I4):FM:=λm=>if m=n then Ie a else f m
noncomputable def ows(C:OW)(l:List I4)(n:Nat):OW:=λb=>if b∈l then Ie n else C b
theorem sr{n:Nat}{a:I4}:su f n a n=Ie a:=if_pos rfl
theorem tA{l:List I4}{n:Nat}{a:I4}(h:a∈l):ows C l n a=Ie n:=if_pos h
theorem t9{l:List I4}{n:Nat}{a:I4}(h:a∉l):ows C l n a=C a:=if_neg h
theorem tl{h:Hu}{a:I4}(ha:h.objs.size<=a):h.get? a=none:=I5.mpr λzz q=>absurd (HP q) (Fg.mpr ha)
theorem xr{zi:Type}{J:List zi}{n:Nat}{o:zi}(h:J[n]?=Ie o):n<J.length:=(IF.mp h).1
theorem Rel.YJ(r:Rel P B z f C J h)(g:grows h h'){l:List I4}{m:Nat}(hl:∀c∈l,C4 (C c=none) (B.get? c=none) (∃o,h'.get? c=Ie o) (¬isTup (h.get? c))):Rel P B z f (ows C l m) J h'/\vi f C h f (ows C l m) h':=by
 obtain out:∀{c n},C c=Ie n->c∉l:=λw q=>nomatch(hl _ q).1.symm.trans w;obtain x:vi f C h f (ows C l m) h':=⟨λzz zz e=>e,λb e n=>⟨let⟨_,_,_,q⟩:=e;(g b _ q).trans q.symm,(t9 λq=>(hl b q).4 e).trans n⟩⟩;refine⟨r.to x (λb n w=>(t9 (out w)).trans w) (λb o e=>g b o (r.base b o e)) (λb n w=>?_) (λb n w=>?_) r.qq λn o e=>.inl ⟨e,λc p e zz=>g c p e⟩,x⟩
 .by_cases q:b∈l;.exact(hl b q).2
  .exact r.fresh b n ((t9 q).symm.trans w)
 .by_cases q:b∈l;.exact(hl b q).3
  .obtain⟨o,e⟩:=r.alive b n ((t9 q).symm.trans w);exact⟨o,g b o e⟩
theorem i9(r:Rel P B z f C J h){a:I4}:∀n b,f n=Ie b->su f J.length a n=Ie b:=λn b e=>(if_neg (Ha (r.qq n b e))).trans e
theorem Rel.add(r:Rel P B z f C J h){a:I4}{o:O}(e:tS P B (su f J.length a) C h J.length o a):Rel P B z (su f J.length a) C (J++[o]) h:=by
 refine r.to ⟨i9 r,λzz zz n=>⟨rfl,n⟩⟩ (λzz zz w=>w) r.base r.fresh r.alive (λn b w=>?_) λn o' w=>?_
 .rw[IZ];by_cases q:n=J.length;.rw[q];exact H7 _
  .exact FN (r.qq n b ((if_neg q).symm.trans w))
 .rcases Nat.lt_or_ge n J.length with q|q;.exact .inl ⟨(HA q).symm.trans w,λzz zz e zz=>e⟩
  .obtain hn:=xr w;rw[IZ]at hn;obtain this:n=J.length:=Dz (Nat.le_of_lt_succ hn) q;subst this;rw[Hj q,H4]at w;cases w;exact .inr ⟨a,sr,e⟩
theorem Ext.new(r:Rel P B z f C J h)(g:grows h h'){a:I4}{l:List I4}(hl:∀c∈l,h.get? c=none):Ext fr f C h (su f J.length a) (ows C l J.length) h':=by
 obtain out:∀{c o},h.get? c=Ie o->c∉l:=λe q=>nomatch(hl _ q).symm.trans e;refine⟨i9 r,λb n w=>?_,λb n w=>?_,λb o e=>⟨o,g b o e⟩,λb o e zz zz zz=>.inl (g b o e),λb⟨zo,zY,zF,e⟩yX=>(g b _ e).trans e.symm⟩;.obtain⟨o,e⟩:=r.alive b n w;exact(t9 (out e)).trans w
 .by_cases q:b∈l;.exact .inr (hl b q)
  .exact .inl ((t9 q).symm.trans w)
theorem Rel.push(r:Rel P B z f C J h)(g:grows h h'){a:I4}{l:List I4}{o:O}(hl:∀c∈l,h.get? c=none/\∃o,h'.get? c=Ie o)(e:tS P B (su f J.length a) (ows C l J.length) h' J.length o a):Rel P B z (su f J.length a) (ows C l J.length) (J++[o]) h':=(r.YJ g λc hc=>⟨I5.mpr λn w=>(let⟨_,q⟩:=r.alive c n w;(nomatch(hl c hc).1.symm.trans q)),I5.mpr λo q=>(nomatch(hl c hc).1.symm.trans (r.base c o q)),(hl c hc).2,λ⟨zo,zY,zF,q⟩=>nomatch(hl c hc).1.symm.trans q⟩).1.add e
theorem Ext.write{a:I4}{n:Nat}(hs:HU a h h')(w:C a=Ie n)(al:∃o,h'.get? a=Ie o):Ext fr f C h f C h':=by
 have ne:∀{c},C c=none->c≠a:=λq z=>by rw[z,w]at q;cases q
 refine⟨λzz zz e=>e,λzz zz e=>e,λzz zz e=>.inl e,λb o e=>?_,λb o e q zz zz=>.inl ((hs.2 b (ne q)).trans e),λb e q=>hs.2 b (ne q)⟩;by_cases q:b=a;.rw[q];exact al
 .exact⟨o,(hs.2 b q).trans e⟩
theorem Rel.write(r:Rel P B z f C J h){a b:I4}{n:Nat}{o:O}(hs:HU a h h')(w:C a=Ie n)(al:∃o,h'.get? a=Ie o)(fb:f n=Ie b)(e:tS P B f C h' n o b):Rel P B z f C (J.set n o) h':=by
 obtain x:Ext [] f C h f C h':=Ext.write hs w al;refine r.to x.v (λzz zz w=>w) (λc oc ec=>(hs.2 c λz=>?_).trans (r.base c oc ec)) r.fresh (λc m ec=>?_) (λm c ec=>by rw[HS];exact r.qq m c ec) λm om em=>?_;.obtain this:=r.fresh a n w;rw[<-z,ec]at this;cases this
 .obtain⟨o',e'⟩:=r.alive c m ec;exact x.live c o' e'
 .by_cases q:m=n;.subst q;rw[HX (r.qq m b fb)]at em;cases em;exact .inr ⟨b,fb,e⟩
  .rw[H2 (H0 q)]at em;exact .inl ⟨em,λc p ec wc=>(hs.2 c λz=>q (by rw[z,w]at wc;cases wc;rfl)).trans ec⟩
end
open PySem PySem.W PySem.Calls PyProof.Rows
structure Bc where
 prog:Program
 w:World
 B:Heap
 z:FM
 K:Frag
 X:List Nat
noncomputable abbrev Rl(b:Bc):=Rel b.w.params b.B b.z
noncomputable def vR(sc:Scope)(y:Str):Option NameKind:=sc.names.lookup y
noncomputable def WV(sc:Scope)(y:Str):Bool:=(vR sc y==Ie .local||(vR sc y==Ie .cell||vR sc y==Ie .free))&&(!(y==("__debug__":Str))&&!(y==("__classdict__":Str)))
noncomputable def nM(sc:Scope)(y:Str):Bool:=vR sc y==Ie .globalImplicit&&!(y==("__debug__":Str))
noncomputable def pY(sc:Scope)(y:Str):Bool:=vR sc y==Ie .local
noncomputable def vb(sc:Scope)(y:Str):Bool:=pY sc y||vR sc y==Ie .cell
noncomputable def w6(m:M):Bool:=!(m.ctorIdx==0||(8<=m.ctorIdx&&m.ctorIdx<=10))
noncomputable def q_(m:M):Bool:=w6 m&&m.ctorIdx !=M.ctorIdx (.comp .nil [] .plain .nil .nil)
noncomputable def iO(m:M):Bool:=w6 m&&m.ctorIdx !=M.ctorIdx (.call .nil .nil)
noncomputable def Xb(m:M):Bool:=m.ctorIdx==6||m.ctorIdx==7
noncomputable def af(out sc:Scope):Scope:={sc with names:=sc.names.map λ(n,k)=>if(k==.free&&out.kind==.function&&out.names.lookup n==Ie .cell)then(n,.cell)else(n,k)}
noncomputable def isFree(out:Scope)(p:Str×NameKind):Bool:=(p.2==.free&&vR out p.1==Ie .cell)||(p.2==.local||p.2==.globalImplicit)
noncomputable def WU(sc:Scope)(xs:List Nat)(p:Str×NameKind):Bool:=p.2 !=.local||(pY sc p.1&&(p.1==(".0":Str)||xs.any λx=>p.1==nm x))
noncomputable def dB(out sc:Scope)(xs:List Nat):Bool:=sc.names.all (WU sc xs)&&sc.kind==.function&&out.kind==.function&&!sc.isGenerator&&!sc.isCoroutine&&sc.names.all (isFree out)
noncomputable def rO(sc:Scope)(k:IK)(xs:List Nat):Bool:=xs.all (λx=>vb sc (nm x))&&(H5 2 xs.length||(xs.length==1&&H5 k.ctorIdx 1))
noncomputable def dA(sc:Scope)(k:IK)(it:M)(zw:Pi):Bool:=w6 it&&(match k with|.plain=>Ib|.range=>nM sc "range"|.enum=>nM sc "enumerate"|.items=>iO it&&IP (zw [2]).p.endLine (zw []).p.line)
section
variable(X:List Nat)
noncomputable def yu:M->Pi->Scope->Bool|.loc x,zo,sc=>WV sc (nm x)|.zu x,zo,sc=>nM sc (nm x)|.cons e es,zw,sc=>w6 e&&(yu e (sh zw 0) sc&&yu es (sh zw 1) sc)|.kv k v r,zw,sc=>yu k (sh zw 0) sc&&(yu v (sh zw 1) sc&&yu r (sh zw 2) sc)|.tup es,zw,sc|.lst es,zw,sc|.and es,zw,sc|.or es,zw,sc=>yu es (sh zw 0) sc|.wY kvs,zw,sc=>H5 (n8 kvs (sh zw 0)).length 15&&yu kvs (sh zw 0) sc|.attr e x,zw,sc=>X.contains x&&(iO e&&yu e (sh zw 0) sc)|.sub e i,zw,sc=>w6 i&&(yu e (sh zw 0) sc&&yu i (sh zw 1) sc)|.qQ e i,zw,sc|.pD e i,zw,sc=>yu e (sh zw 0) sc&&yu i (sh zw 2) sc|.pC e,zw,sc|.wQ e,zw,sc|.not e,zw,sc=>yu e (sh zw 0) sc|.call f args,zw,sc=>Xb f&&(yu f (sh zw 0) sc&&yu args (sh zw 1) sc)|.zl o x args,zw,sc=>(X.contains x&&iO o&&IP (zw [2]).p.endLine (zw []).p.line&&H5 (xQ args (sh zw 1)).length 20)&&(yu o (sh zw 0) sc&&yu args (sh zw 1) sc)|.bin zo a b,zw,sc=>yu a (sh zw 0) sc&&yu b (sh zw 1) sc|.cmp zo a b,zw,sc=>w6 b&&(yu a (sh zw 0) sc&&yu b (sh zw 1) sc)|.ite c a b,zw,sc=>yu c (sh zw 0) sc&&(yu a (sh zw 1) sc&&yu b (sh zw 2) sc)|.comp elt xs k it y_,zw,sc=>(dB sc (zw []).sc xs&&(rO (zw []).sc k xs&&dA sc k it (sh zw 2)))&&(yu it (s9 (sh zw 2) k) sc&&(yu elt (sh zw 0) (af sc (zw []).sc)&&yu y_ (sh zw 3) (af sc (zw []).sc)))|zo,zY,zF=>Ib
noncomputable def d9(m:M)(zw:Pi):Bool:=m.ctorIdx !=M.ctorIdx (.tup .nil)||!(xQ m (sh zw 0)).all (constantsAlone 8)
noncomputable def tX:S->Pi->Scope->Bool|.cons s r,zw,sc=>tX s (sh zw 0) sc&&tX r (sh zw 1) sc|.expr e,zw,sc=>q_ e&&yu X e (sh zw 0) sc|.ret e,zw,sc|.raise e,zw,sc=>yu X e (sh zw 0) sc|.asg x e,zw,sc=>vb sc (nm x)&&(w6 e&&yu X e (sh zw 1) sc)|.y8 xs e,zw,sc=>(xs.all (λx=>vb sc (nm x))&&H5 2 xs.length&&q_ e&&d9 e (sh zw 1))&&yu X e (sh zw 1) sc|.z9 o x e,zw,sc=>(X.contains x&&w6 e)&&(yu X o (sh (sh zw 0) 0) sc&&yu X e (sh zw 1) sc)|.y3 o i e,zw,sc=>(w6 i&&q_ e)&&(yu X o (sh (sh zw 0) 0) sc&&(yu X i (sh (sh zw 0) 1) sc&&yu X e (sh zw 1) sc))|.mT o i o' i' e,zw,sc=>(w6 i&&w6 i'&&q_ e&&d9 e (sh zw 1))&&(yu X o (sh (sh (sh (sh zw 0) 0) 0) 0) sc&&(yu X i (sh (sh (sh (sh zw 0) 0) 0) 1) sc&&(yu X o' (sh (sh (sh (sh (sh zw 0) 0) 1) 0) 0) sc&&(yu X i' (sh (sh (sh (sh (sh zw 0) 0) 1) 0) 1) sc&&yu X e (sh zw 1) sc))))|.qF o x e,zw,sc=>X.contains x&&(yu X o (sh (sh zw 0) 0) sc&&yu X e (sh zw 1) sc)|.cond c a b,zw,sc=>yu X c (sh zw 0) sc&&(tX a (sh zw 1) sc&&tX b (sh zw 2) sc)|.while c b,zw,sc=>yu X c (sh zw 0) sc&&tX b (sh zw 1) sc|.for xs k it b,zw,sc=>(rO sc k xs&&dA sc k it (sh zw 1))&&(yu X it (s9 (sh zw 1) k) sc&&tX b (sh zw 2) sc)|.try b x h,zw,sc=>(nM sc "Raised"&&pY sc (nm x))&&(tX b (sh zw 0) sc&&yu X h (sh (sh (sh zw 2) 0) 0) sc)|zo,zY,zF=>Ib
end
theorem zh{a b:Bool}(h:(a&&b)=Ib):a=Ib/\b=Ib:=(Hg a b).mp h
noncomputable def mX(b:Bc)(v:V)(w:IX):Prop:=∀f C h,(∀n a,b.z n=Ie a->f n=Ie a)->(∀c o,b.B.get? c=Ie o->C c=none/\h.get? c=Ie o)->VR f C h v w
structure gj(b:Bc):Prop where
 at_:X2 λmg mb=>C3 (b.B.Ns mainGlobals mg) (b.B.Ns builtinsNs mb) (∀x v,prog.glob x=some v->∃w,(mg (nm x)=some w\/(mg (nm x)=none/\mb (nm x)=some w))/\mX b v w)
structure zI(b:Bc)(a:I4)(fd:FD):Prop where
 at_:X3 λ(o:Obj)(d:FuncData)(body:List Stmt)=>UD (b.B.get? a=some o) (o.data=.func d) (d.body=.stmts body) (d.closure=[]) (d.globals=mainGlobals) (d.builtins=builtinsNs) (b.B.CodeRec d.code d.qualname) (d.scope.kind=.function) (d.scope.isCoroutine=false) (d.scope.isGenerator=false) (body=uA fd.body (nJ body)) (C3 (tX b.X fd.body (nJ body) d.scope=true) (fd.params.all (λx=>vb d.scope (nm x))=true) (∃dv:List Value,(∀f C h,(∀n a,b.z n=some a->f n=some a)->(∀c o,b.B.get? c=some o->C c=none/\h.get? c=some o)->zS f C h fd.dflt dv)/\∀(vals:List Value)(s:Shared),(∀c o,b.B.get? c=some o->s.heap.get? c=some o)->vals.length<=fd.params.length->fd.params.length<=vals.length+fd.dflt.length->BindsTo s d ⟨vals,[]⟩ ((fd.params.map nm).zip (vals++dv.drop (fd.dflt.length-(fd.params.length-vals.length))))))
noncomputable def ClsRec(b:Bc)(c f:Nat):Prop:=∀h:Hu,(∀x o,b.B.get? x=Ie o->h.get? x=Ie o)->C3 (Makes (model b.prog b.w) h c) (Looks (model b.prog b.w) h (typeLookup (.ref c) "__init__") (Ie (.ref f))) (∀self,Looks (model b.prog b.w) h (bindSpecial (.ref f) self) (.ref f,[self]))
noncomputable def mZ(u4 bm:List IX):Prop:=∀(X:String)(b:Bool),u4.contains (.type X)=b->bm.contains (.type X)=b
noncomputable def kG(b:Bc)(c fi:Nat):Prop:=∃(nm q:Str)(N:I4)(bs bm u4:List IX)(oH:Bool)(sn:List Str)(sub:List IX)(ab:Bool)(col:Option Bool)(dd:Option I4)(k0 k1 k2 k3 k5:Option IX)(T newId nk:String)(mN:Str->Option IX)(fo:Obj),C8 (ExcBaseFacts T newId nk u4) (mZ u4 bm) (b.B.get? c=Ie (excClassObj nm q c N bs bm oH sn sub ab col dd k0 k1 k2 k3 k5 newId)) (b.B.Ns N mN) (mN "__init__"=Ie (.ref fi)) (b.B.get? fi=Ie fo) (fo.cls=.type "function") (bm.contains (.type "ValueError")=Ib)
noncomputable def adr:IX->Nat|.ref a=>a|_=>0
noncomputable def kc:List IX->Bool|[]=>Ig|v::r=>(v::r)==[.type "object"]||((v::r)==[.type "ValueError",.type "Exception",.type "BaseException",.type "object"]||(v==.ref (adr v)&&kc r))
noncomputable def uY(c:Nat):Prop:=(prog.cls c).isSome=Ib
noncomputable def qW(c:Nat):Prop:=∃i,prog.cls c=Ie (i,Ig)
structure Facts(b:Bc):Prop where
 yM:b.K.In b.B
 ga:∀c,uY c->findIn b.K (.ref c) "__getattribute__"=some (some (.builtin "object.__getattribute__"))\/(findIn b.K (.ref c) "__getattribute__"=some (some (.builtin "BaseException.__getattribute__"))/\mroIn b.K c (.type "BaseException")=some true)
 gx:∀c,uY c->findIn b.K (.ref c) "__getattr__"=some none
 sa:∀c,uY c->findIn b.K (.ref c) "__setattr__"=some (some (.builtin "object.__setattr__"))
 cd:∀c,uY c->∃cd,C4 (clsIn b.K c=some cd) (cd.hasDict=true) (kc cd.mro=true) (cd.mro.isEmpty=false)
 dI:∀c x,uY c->b.X.contains x=true->prog.zl c x=none->findIn b.K (.ref c) (nm x)=some none
 zl:∀c x f,prog.zl c x=some f->b.X.contains x=true->C3 (uY c) (findIn b.K (.ref c) (nm x)=some (some (.ref f))) (typeIn b.K (.ref f)=some (.type "function"))
 reads:∀c x f,prog.zl c x=some f->b.X.contains x=true->C3 (readsIn b.K c (.type "type")=true) (findCls b.K (.ref c) (.type "type") (nm x)=some (.val (.ref f))) (specialIn b.K (.ref c) "__getattribute__"=some (some (.builtin "type.__getattribute__")))
 yes:∀D zP,qW D->uY zP->prog.sub D zP=true->isIn b.K (.ref D) zP=true
 no:∀D zP,qW D->uY zP->prog.sub D zP=false->kin_not b.K D zP=true
 d7:∀D,qW D->C4 (plainGet b.K D "__class__"=true) (hasDictIn b.K D=true) (findIn b.K (.ref D) "__class__"=some (some (.builtin "object.__class__"))) (mroIn b.K D (.type "object")=some true)
 gs:specialIn b.K (.builtin "object.__class__") "__get__"=some (some (.builtin "getset_descriptor.__get__"))/\takesIn b.K (.builtin "object.__class__")=some true
 pl:∀zP,uY zP->C4 (isNotIn b.K "int" zP=true) (isNotIn b.K "str" zP=true) (isNotIn b.K "bool" zP=true) (isNotIn b.K "NoneType" zP=true)
 nt:∀D,qW D->C3 (kin_notT b.K D "int"=true) (kin_notT b.K D "str"=true) (kin_notT b.K D "bool"=true)
 Yh:∀c,prog.sub c prog.sj=true->exmOne b.K (.ref c) (.ref prog.sj)=some true
 glob:gj b
 sys:b.B.get? sysModules≠none
 XJ:∀a,(prog.fn a).isSome=true->keepIn b.K (.ref a)=true
 XM:∀a,uY a->keepIn b.K (.ref a)=true
 fns:∀a fd,prog.fn a=some fd->C3 (zI b a fd) fd.params.Nodup (fd.params.length<=1000)
 cls:∀c fi,prog.cls c=some (fi,false)->ClsRec b c fi
 exc:∀c fi,prog.cls c=some (fi,true)->kG b c fi
 range:∃x,nm x=("range":Str)/\prog.glob x=some (.ty .range)
 enum:∃x,nm x=("enumerate":Str)/\prog.glob x=some (.ty .enum)
 sj:∃x,nm x=("Raised":Str)/\prog.glob x=some (.cl prog.sj)
structure Fr where
 b:Bc
 q:Bool
 s:Bool
 d:Nat
structure Done(F:Fr)(fr:List I4)(f:FM)(C:OW)(s:IS)(zy:St)(f':FM)(zm:OW)(s':IS):Prop where
 ext:Ext fr f C s.heap f' zm s'.heap
 rel:Rl F.b f' zm zy s'.heap
 gens:s'.gens=s.gens
 os:s'.os=s.os
 uI:F.s=true->∀c n o,C c=some n->s.heap.get? c=some o->s'.heap.get? c=some o
noncomputable def bV(b:Bc)(C:OW)(h:Hu)(e:I4)(vs:Array IX):Prop:=X4 λT oT ts x=>C8 (vs[1]?=Ie (.ref T)) (T≠e) (h.get? T=Ie oT) (oT.cls=.type "traceback") (oT.data=.fields ts) (ts[3]?=Ie x) (b.B.get? T=none) (C T=none)
noncomputable def ot(b:Bc)(C:OW)(h:Hu)(e:I4):Prop:=X2 λoe vs=>C4 (h.get? e=Ie oe) (oe.data=.fields vs) (6<=vs.size) (vs[1]?=Ie .none\/bV b C h e vs)
noncomputable def qI(F:Fr){yI:Type}(rv:FM->OW->Hu->yI->Prop)(f:FM)(C:OW)(s:IS)(zy:St)(c:yI)(s':IS):Prop:=X2 λf' zm=>Done F [] f C s zy f' zm s'/\rv f' zm s'.heap c
noncomputable def m_(F:Fr)(f:FM)(C:OW)(s:IS)(e:V)(zy:St)(x:IX)(s':IS):Prop:=X4 λn a c fs=>C4 (e=.ref n) (x=.ref a) (zy[n]?=Ie (.exc c Ib fs)) (qI F (λf' zm h'(zz:Unit)=>f' n=Ie a/\ot F.b zm h' a) f C s zy () s')
noncomputable def PO(F:Fr){zi yI:Type}(rv:FM->OW->Hu->zi->yI->Prop)(f:FM)(C:OW)(s:IS):R zi->yI->IS->Prop|.ok v zy,c,s'=>qI F (rv . . . v) f C s zy c s'|.exc zo zY,zF,yX=>False
noncomputable def PX(F:Fr){zi:Type}(f:FM)(C:OW)(s:IS):R zi->IX->IS->Prop|.ok zo zY,zF,yX=>False|.exc e zy,x,s'=>m_ F f C s e zy x s'
noncomputable def W(F:Fr)(A:Hv){zi yI:Type}(t:Sem yI)(rv:FM->OW->Hu->zi->yI->Prop)(f:FM)(C:OW)(s:IS)(out:R zi):Prop:=wpAny (model F.b.prog F.b.w) A t (PO F rv f C s out) (PX F f C s out) s
noncomputable def sY(env:Env):String:=if env.func.isSome then "frame"else "dict"
noncomputable def qz(h:Hu)(a:I4)(c:IX)(m:Str->Option IX):Prop:=X3 λo es ep=>C5 (h.get? a=Ie o) (o.cls=c) (o.data=.dict es ep) (StrKeys es) (∀name,nsFind es name=m name)
theorem qz.ns{h:Hu}{a:I4}{c:IX}{m:Str->Option IX}(x:qz h a c m):h.Ns a m:=let⟨o,es,ep,e,_,d,k,f⟩:=x;⟨o,es,ep,e,d,k,f⟩
structure yf(f:FM)(C:OW)(h:Hu)(env:Env)(L:Loc):Prop where
 kind:env.scope.kind=.function
 glob:env.globals=mainGlobals
 blt:env.builtins=builtinsNs
 own:C env.locals=none
 has:∀n,env.kindOf n=some .cell->∃c,env.cells.lookup n=some c
 loc:∃m,qz h env.locals (.type (sY env)) m/\∀x v,lk x L=some v->env.kindOf (nm x)=some .local->∃w,m (nm x)=some w/\VR f C h v w
 cells:∀n c,(n,c)∈env.cells->C c=none/\∃u,h.get? c=some ⟨.type "cell",none,.cell u,#[]⟩
 cell:∀x v,lk x L=some v->(env.kindOf (nm x)=some .cell\/env.kindOf (nm x)=some .free)->X2 λc w=>C3 (env.cells.lookup (nm x)=some c) (h.get? c=some ⟨.type "cell",none,.cell (some w),#[]⟩) (VR f C h v w)
structure xP(F:Fr)(A:Hv)(C:OW)(h:Hu):Prop where
 depth:A.depth+3*F.d+20<=recursionLimit
 units:A.units+10*F.d+200<=cLine
 nO:F.b.B.NoLimit
 ok:Facts F.b
 hand:F.q=false->A.handled=none
 frames:∃l,C3 (A.frames=some l) (h.FunFrames F.b.B l) (∀env∈l,∀L,env.frame=some L->C L=none/\∃o,h.get? L=some o/\o.cls=.type "frame")
structure Cx(F:Fr)(L:Loc)(J:St)(env:Env)(A:Hv)(f:FM)(C:OW)(s:IS):Prop where
 rel:Rl F.b f C J s.heap
 en:yf f C s.heap env L
 ak:xP F A C s.heap
section
variable{F:Fr}{fr:List I4}{f f' z8:FM}{C zm zA:OW}{h h':Hu}{s s' zd:IS}{J zy zt:St}{A:Hv}{env:Env}{L:Loc}
theorem Done.grow(r:Rl F.b f C J s.heap)(g:grows s.heap s'.heap)(hg:s'.gens=s.gens)(ho:s'.os=s.os):Done F fr f C s J f C s':=⟨Ext.grow g,r.grow g,hg,ho,λzz c zz o zz e=>g c o e⟩
theorem Done.toks(r:Rl F.b f C J s.heap){t:Nat}:Done F fr f C s J f C {s with toks:=t}:=Done.grow r grows.refl rfl rfl
theorem Done.refl(r:Rl F.b f C J s.heap):Done F fr f C s J f C s:=Done.grow r grows.refl rfl rfl
theorem Done.trans(x:Done F fr f C s zt z8 zA zd)(y:Done F fr z8 zA zd zy f' zm s'):Done F fr f C s zy f' zm s':=⟨x.ext.trans y.ext,y.rel,y.gens.trans x.gens,y.os.trans x.os,λq c n o w e=>y.uI q c n o (x.ext.xH c n w) (x.uI q c n o w e)⟩
theorem Done.mono{qo:List I4}(d:Done F fr f C s zy f' zm s')(hs:∀b∈fr,b∈qo):Done F qo f C s zy f' zm s':=⟨d.ext.mono hs,d.rel,d.gens,d.os,d.uI⟩
theorem Done.wide{qo:List I4}(d:Done F [] f C s zy f' zm s'):Done F qo f C s zy f' zm s':=d.mono λzz h=>nomatch h
theorem qI.from{yI:Type}{rv:FM->OW->Hu->yI->Prop}{c:yI}(d:Done F [] f C s zt z8 zA zd)(p:qI F rv z8 zA zd zy c s'):qI F rv f C s zy c s':=let⟨f',zm,d',r⟩:=p;⟨f',zm,d.trans d',r⟩
theorem m_.from{e:V}{x:IX}(d:Done F [] f C s zt z8 zA zd)(p:m_ F z8 zA zd e zy x s'):m_ F f C s e zy x s':=let⟨n,a,c,fs,e1,e2,e3,p⟩:=p;⟨n,a,c,fs,e1,e2,e3,qI.from d p⟩
theorem PO.from{zi yI:Type}{rv:FM->OW->Hu->zi->yI->Prop}{out:R zi}{c:yI}(d:Done F [] f C s zt z8 zA zd)(p:PO F rv z8 zA zd out c s'):PO F rv f C s out c s':=by cases out with|ok v=>exact qI.from (rv:=(rv . . . v)) d p|exc=>exact p
theorem PX.from{zi:Type}{out:R zi}{x:IX}(d:Done F [] f C s zt z8 zA zd)(p:PX F z8 zA zd out x s'):PX F f C s out x s':=by cases out with|ok=>exact p|exc=>exact m_.from d p
theorem W.from{zi yI:Type}{t:Sem yI}{rv:FM->OW->Hu->zi->yI->Prop}{out:R zi}(d:Done F [] f C s zt z8 zA zd)(p:W F A t rv z8 zA zd out):wpAny (model F.b.prog F.b.w) A t (PO F rv f C s out) (PX F f C s out) zd:=II p (λzz zz=>PO.from d) λzz zz=>PX.from d
theorem seq{zi xD yI qM:Type}{m:Sem yI}{k:yI->Sem qM}{out:R xD}{v:zi}{rv:FM->OW->Hu->zi->yI->Prop}{rw:FM->OW->Hu->xD->qM->Prop}(h1:W F A m rv f C s (.ok v zt))(h2:∀c f' zm s',Done F [] f C s zt f' zm s'->rv f' zm s'.heap v c->W F A (k c) rw f' zm s' out):W F A (m>>=k) rw f C s out:=Ic (II h1 (λc zd⟨f',zm,d,r⟩=>(h2 c f' zm zd d r).from d) λzz zz x=>x.elim)
theorem w5{zi yI:Type}{rv:FM->OW->Hu->zi->yI->Prop}{v:zi}{c:yI}(r:Rl F.b f C J s.heap)(h:rv f C s.heap v c):PO F rv f C s (.ok v J) c s:=⟨f,C,Done.refl r,h⟩
theorem xj{zi yI:Type}{rv:FM->OW->Hu->zi->yI->Prop}{v:zi}{c:yI}{t:Nat}(r:Rl F.b f C J s.heap)(h:rv f C s.heap v c):PO F rv f C s (.ok v J) c {s with toks:=t}:=⟨f,C,Done.toks r,h⟩
theorem W.pure{zi yI:Type}{rv:FM->OW->Hu->zi->yI->Prop}{v:zi}{c:yI}(r:Rl F.b f C J s.heap)(h:rv f C s.heap v c):W F A (Pure.pure c) rv f C s (.ok v J):=IW (w5 r h)
theorem qz.moves{a:I4}{c:IX}{m:Str->Option IX}(n:qz h a c m)(k:∀o,h.get? a=Ie o->o.cls=c->∃sl,h'.get? a=Ie {o with slots:=sl}):qz h' a c m:=by obtain⟨o,es,ep,e1,e2,e3,e4,e5⟩:=n;obtain⟨sl,e⟩:=k o e1 e2;exact⟨_,es,ep,e,e2,e3,e4,e5⟩
theorem aw{c:I4}{u:Option IX}(x:Ext [] f C h f' zm h')(e:h.get? c=Ie ⟨.type "cell",none,.cell u,#[]⟩)(n:C c=none):h'.get? c=Ie ⟨.type "cell",none,.cell u,#[]⟩:=by
 rcases x.keep _ _ e n (by simp) (λq=>absurd (show HG "cell"=.type "traceback"from q) (by decide))with z|⟨q,_⟩;.exact z
 .exact absurd (show HG "cell"=.type "frame"from q) (by decide)
theorem yf.ext(x:Ext [] f C h f' zm h')(e:yf f C h env L):yf f' zm h' env L:=by
 obtain⟨m,n,e6⟩:=e.loc;obtain⟨o,_,_,e1,_⟩:=id n;refine⟨e.kind,e.glob,e.blt,x.own e1 e.own,e.has,⟨m,n.moves λo g c=>?_,λy v hv hk=>?_⟩,λn c hc=>?_,λy v hv hk=>?_⟩
 .rcases x.keep _ _ g e.own (by simp) (by rw[c];unfold sY;split<;>decide)with z|⟨_,sl,z⟩;.exact⟨o.slots,z⟩
  .exact⟨sl,z⟩
 .obtain⟨w,a,b⟩:=e6 y v hv hk;exact⟨w,a,VR.ext x v b⟩
 .obtain⟨a1,u,a2⟩:=e.cells n c hc;exact⟨x.own a2 a1,u,aw x a2 a1⟩
 .obtain⟨c,w,a1,a2,a4⟩:=e.cell y v hv hk;exact⟨c,w,a1,aw x a2 (e.cells _ c (mem_of_lookup a1)).1,VR.ext x v a4⟩
theorem YQ{B:Hu}(k:∀L o,C L=none->h.get? L=Ie o->o.cls=.type "frame"->(∀vs,o.data≠.fields vs)->∃o',h'.get? L=Ie o'/\∀vs,o'.data≠.fields vs):∀{l:List Env},h.FunFrames B l->(∀env∈l,∀L,env.frame=Ie L->C L=none/\∃o,h.get? L=Ie o/\o.cls=.type "frame")->h'.FunFrames B l|[],zo,zY=>trivial|env::l,⟨hk,⟨L,o,hf,hn,ho,hd⟩,hr⟩,hl=>by refine⟨hk,?_,YQ k hr λe he=>hl e (.tail _ he)⟩;obtain⟨w,o',vd,hc⟩:=hl env (.head _) L hf;replace vd:=yZ ho vd;cases vd;obtain⟨o',a,c⟩:=k L o w ho hc hd;exact⟨L,o',hf,hn,a,c⟩
theorem xP.to(k:∀L o,C L=none->h.get? L=Ie o->o.cls=.type "frame"->zm L=none/\∃o',C3 (h'.get? L=Ie o') (o'.cls=.type "frame") ((∀vs,o.data≠.fields vs)->∀vs,o'.data≠.fields vs))(a:xP F A C h):xP F A zm h':=by
 obtain⟨l,a1,a2,a3⟩:=a.frames;refine⟨a.depth,a.units,a.nO,a.ok,a.hand,l,a1,YQ (λL o w e c d=>?_) a2 a3,λenv he L hL=>?_⟩;.obtain⟨_,o',e',_,d'⟩:=k L o w e c;exact⟨o',e',d' d⟩
 .obtain⟨w,o,e,c⟩:=a3 env he L hL;obtain⟨w',o',e',c',_⟩:=k L o w e c;exact⟨w',o',e',c'⟩
theorem xP.ext(x:Ext [] f C h f' zm h')(a:xP F A C h):xP F A zm h':=a.to λL o w e c=>by
 refine⟨x.own e w,?_⟩;rcases x.keep L o e w (by simp) (by rw[c];decide)with z|⟨q,sl,z⟩;.exact⟨o,z,c,id⟩
 .exact⟨_,z,q,id⟩
theorem Cx.next(c:Cx F L J env A f C s)(d:Done F [] f C s zy f' zm s'):Cx F L zy env A f' zm s':=⟨d.rel,c.en.ext d.ext,c.ak.ext d.ext⟩
end
noncomputable abbrev rV:FM->OW->Hu->V->IX->Prop:=VR
noncomputable abbrev Lv:FM->OW->Hu->List V->List IX->Prop:=zS
noncomputable abbrev rB:FM->OW->Hu->Bool->Bool->Prop:=λzz zz zz b c=>b=c
section
variable{F:Fr}{f:FM}{C:OW}{s:IS}{J:St}{A:Hv}{env:Env}{L:Loc}{M:Model}{E:IX->IS->Prop}{Q:IX->IS->Prop}
theorem Rl.b7{b:Bc}(r:Rl b f C J s.heap):∀c o,b.B.get? c=Ie o->C c=none/\s.heap.get? c=Ie o:=λc o e=>⟨I5.mpr λn q=>(nomatch(r.fresh c n q).symm.trans e),r.base c o e⟩
theorem mX.vr{b:Bc}{v:V}{w:IX}(h:mX b v w)(r:Rl b f C J s.heap):VR f C s.heap v w:=h f C s.heap r.fix r.b7
theorem RU{x:Nat}{pos:Pos}{v:V}(e:yf f C s.heap env L)(pe:WV env.scope (nm x)=Ib)(hv:lk x L=Ie v)(hQ:∀w,VR f C s.heap v w->Q w s):wpAny M A (eval (.Name (nm x) pos) env) Q E s:=by
 obtain⟨h1,h2⟩:=zh pe;obtain⟨h2,h3⟩:=zh h2;rw[Hp]at h2 h3;refine wpAny_Name ?_ h2;rcases(Hw _ _).mp h1 with hk|h1;.obtain⟨m,n,e6⟩:=e.loc;obtain⟨w,a,c⟩:=e6 x v hv (eq_of_beq hk);exact wpAny_loadName_local e.kind (eq_of_beq hk) n.ns a (hQ w c)
 rcases(Hw _ _).mp h1 with hk|hk;.obtain⟨c,w,a1,a2,a4⟩:=e.cell x v hv (.inl (eq_of_beq hk));exact wpAny_loadName_cell e.kind (eq_of_beq hk) a1 ⟨_,a2,rfl⟩ (hQ w a4)
 .obtain⟨c,w,a1,a2,a4⟩:=e.cell x v hv (.inr (eq_of_beq hk));exact wpAny_loadName_free e.kind (eq_of_beq hk) a1 ⟨_,a2,rfl⟩ (hQ w a4) h3
theorem fZ{x:Nat}{y:Str}{pos:Pos}{v:V}(G:gj F.b)(r:Rl F.b f C J s.heap)(e:yf f C s.heap env L)(hy:nm x=y)(pe:nM env.scope y=Ib)(hv:prog.glob x=Ie v)(hQ:∀w,VR f C s.heap v w->Q w s):wpAny M A (eval (.Name y pos) env) Q E s:=by
 subst hy;obtain⟨h1,h2⟩:=zh pe;rw[Hp]at h2;obtain⟨mg,mb,g1,g2,g3⟩:=G.at_;obtain⟨w,hw,hr⟩:=g3 x v hv;have fin:=hQ w (hr.vr r);have tq:s.heap.Ns env.globals mg:=by rw[e.glob];exact g1.keeps r.base
 have fM:s.heap.Ns env.builtins mb:=by rw[e.blt];exact g2.keeps r.base
 refine Name_function_global e.kind (eq_of_beq h1) ?_ h2;rcases hw with q|⟨q,q'⟩;.exact loadGlobal_global tq q fin
 .exact loadGlobal_builtin tq q fM q' fin
end
open PySem PySem.W PySem.Calls PyProof.Rows
theorem dT{m:M}(h:iO m=Ib){zw:Pi}{a:Str}{env:Env}{whole:Sem IX}:attributeBase (zW m zw) a env whole=whole:=by cases m<;>first|rfl|cases h
theorem dS{m:M}(h:w6 m=Ib){zw:Pi}{r:List Expr}{env:Env}:starEach (zW m zw::r) env=(Ig,eval (zW m zw) env)::starEach r env:=by cases m<;>first|rfl|cases h
theorem Mm{m:M}(h:w6 m=Ib){zw:Pi}{op:CmpOp}:behindInMarks op (zW m zw)=Ig:=by cases m<;>first|rfl|cases h
noncomputable def Xa(m:M):Bool:=w6 m&&(m.ctorIdx !=M.ctorIdx (.not .nil)&&(m.ctorIdx !=M.ctorIdx (.cmp .eq .nil .nil)&&(m.ctorIdx !=M.ctorIdx (.and .nil)&&(m.ctorIdx !=M.ctorIdx (.or .nil)&&m.ctorIdx !=M.ctorIdx (.ite .nil .nil .nil)))))
theorem Mi{m:M}(h:Xa m=Ib){zw:Pi}{env:Env}{t:Sem IX}:isTrue (zW m zw) env t=(do let v<-t;standAt (zW m zw).pos;holding [v] (truthy v)):=by cases m<;>first|rfl|cases h
section
variable(F:Fr)(L:Loc)
structure E(m:M)(J:St)(out:R V):Prop where
 go:∀{zw:Pi}{env:Env}{A:Around}{f:FM}{C:OW}{s:Shared},yu F.b.X m zw env.scope=true->Cx F L J env A f C s->W F A (eval (zW m zw) env) rV f C s out/\∀t zy,out=.ok (.bool t) zy->W F A (isTrue (zW m zw) env (eval (zW m zw) env)) rB f C s (.ok t zy)
structure Es(m:M)(J:St)(vs:List V)(zy:St):Prop where
 go:∀{zw:Pi}{env:Env}{A:Around}{f:FM}{C:OW}{s:Shared}{pos:Pos},yu F.b.X m zw env.scope=true→Cx F L J env A f C s→W F A (spliced (backTo pos (starEach (xQ m zw) env))) Lv f C s (.ok vs zy)
 ns:∀{zw:Pi}{env:Env}{pos:Pos},yu F.b.X m zw env.scope=true→(backTo pos (starEach (xQ m zw) env)).any (·.1)=false
structure bX(t:IX->IX->Sem IX)(x y:V)(J:St)(out:R V):Prop where
 go:∀{A:Around}{f:FM}{C:OW}{s:Shared}{xv yv:Value},Rl F.b f C J s.heap->xP F A C s.heap->VR f C s.heap x xv->VR f C s.heap y yv->W F A (t xv yv) rV f C s out
noncomputable abbrev ui(op:qK)(x y:V)(J:St)(out:R V):Prop:=bX F (binaryOp (ax op)) x y J out
noncomputable abbrev x_(op:rt)(x y:V)(J:St)(b:Bool):Prop:=bX F (compareOp (jq op)) x y J (.ok (.bool b) J)
structure Sub(o i:V)(J:St)(v:V):Prop where
 go:∀{A:Around}{f:FM}{C:OW}{s:Shared}{ov iv:Value},Rl F.b f C J s.heap->xP F A C s.heap->VR f C s.heap o ov->VR f C s.heap i iv->Looks (model F.b.prog F.b.w) s.heap (getitemInPython ov) false/\W F A (getItem ov iv) rV f C s (.ok v J)
structure Call(fv:V)(args:List V)(J:St)(out:R V):Prop where
 go:∀{A:Around}{f:FM}{C:OW}{s:Shared}{xS:Value}{vals:List Value},Rl F.b f C J s.heap->xP F A C s.heap->VR f C s.heap fv xS->zS f C s.heap args vals->W F A (PySem.call xS vals) rV f C s out
structure Find(o:V)(x:Nat)(J:St)(fv:V)(first:List V):Prop where
 go:∀{A:Around}{f:FM}{C:OW}{s:Shared}{ov:Value}{pl:Sem Bool},F.b.X.contains x=true->Rl F.b f C J s.heap->xP F A C s.heap->VR f C s.heap o ov->W F A (getMethod ov (nm x) pl) (λf C h(zz:Unit)(r:Value×List Value)=>VR f C h fv r.1/\zS f C h first r.2) f C s (.ok () J)
end
section
variable{F:Fr}{L:Loc}{J zt zb yK:St}{f:FM}{C:OW}{s:IS}{A:Hv}{env:Env}{zw:Pi}
theorem E.mk'{m:M}{out:R V}(hm:Xa m=Ib)(h:∀{zw:Pi}{env:Env}{A:Hv}{f:FM}{C:OW}{s:IS},yu F.b.X m zw env.scope=Ib->Cx F L J env A f C s->W F A (eval (zW m zw) env) rV f C s out):E F L m J out:=⟨λok c=>⟨h ok c,λt zy e=>by subst e;rw[Mi hm];refine seq (h ok c) λv f' zm s' d hv=>?_;cases hv;exact Ic (I7 (IL (W.pure d.rel rfl)))⟩⟩
theorem E.w{m:M}{out:R V}(h:E F L m J out)(ok:yu F.b.X m zw env.scope=Ib)(c:Cx F L J env A f C s):W F A (eval (zW m zw) env) rV f C s out:=(h.go ok c).1
theorem E.t{m:M}{t:Bool}(h:E F L m J (.ok (.bool t) zt))(ok:yu F.b.X m zw env.scope=Ib)(c:Cx F L J env A f C s):W F A (isTrue (zW m zw) env (eval (zW m zw) env)) rB f C s (.ok t zt):=(h.go ok c).2 t zt rfl
theorem zQ:E F L .none J (.ok .none J):=by refine E.mk' rfl λzz c=>?_;exact W.pure c.rel rfl
theorem sO{b:Bool}:E F L (.bool b) J (.ok (.bool b) J):=by refine E.mk' rfl λzz c=>?_;exact W.pure c.rel rfl
theorem yr{i:Int}:E F L (.int i) J (.ok (.int i) J):=by refine E.mk' rfl λzz c=>?_;exact wpAny_Constant_int (xj c.rel ⟨_,rfl⟩)
theorem zV{t:List Nat}:E F L (.str t) J (.ok (.str t) J):=by refine E.mk' rfl λzz c=>?_;exact wpAny_Constant_str (xj c.rel ⟨_,rfl⟩)
theorem fg{i:Nat}:E F L (.neg i) J (.ok (.int (-(i:Int))) J):=by refine E.mk' rfl λ{zw env A f C s}zz c=>?_;show wpAny _ _ (eval (.UnaryOp .USub _ _) env) _ _ _;rw[arm_eval_UnaryOp];refine Ic (wpAny_Constant_int ?_);refine Ic (I7 (IL (PyProof.Rows.neg_int ?_)));exact xj c.rel ⟨_,rfl⟩
theorem zx{x:Nat}{v:V}(h:lk x L=Ie v):E F L (.loc x) J (.ok v J):=by refine E.mk' rfl λok c=>?_;exact RU c.en ok h λzz hw=>w5 c.rel hw
theorem yk{x:Nat}{v:V}(h:prog.glob x=Ie v):E F L (.zu x) J (.ok v J):=by refine E.mk' rfl λok c=>?_;exact fZ c.ak.ok.glob c.rel c.en rfl ok h λzz hw=>w5 c.rel hw
theorem zf:Es F L .nil J [] J:=⟨λzz c=>FK (w5 c.rel rfl),λzz=>rfl⟩
theorem zp{e es:M}{v:V}{vs:List V}(h:E F L e J (.ok v zt))(h':Es F L es zt vs zb):Es F L (.cons e es) J (v::vs) zb:=by
 refine⟨λ{zw env A f C s pos}ok c=>?_,λ{zw env pos}ok=>?_⟩;case refine_2=>obtain⟨o1,o2⟩:=zh ok;show(backTo pos (starEach (zW e (sh zw 0)::xQ es (sh zw 1)) env)).any _=Ig;rw[dS o1];exact h'.ns (zh o2).2
 obtain⟨o1,o2⟩:=zh ok;obtain⟨o2,o3⟩:=zh o2;show W F A (spliced (backTo pos (starEach (zW e (sh zw 0)::xQ es (sh zw 1)) env))) _ _ _ _ _;rw[dS o1];show W F A (spliced ((Ig,eval _ env)::backTo pos (starEach (xQ es (sh zw 1)) env))) _ _ _ _ _;rw[spliced];refine seq (h.w o2 c) λw f' zm s' d hv=>?_;simp only[I0,if_false];refine Ic (IW ?_);exact seq (IL (h'.go o3 (c.next d))) λws f' zm s' d' uH=>W.pure d'.rel ⟨_,_,rfl,VR.ext d'.ext _ hv,uH⟩
theorem Yy{e:M}{x:Nat}{o v:V}(he:E F L e J (.ok o zt))(ha:∀{A:Hv}{f:FM}{C:OW}{s:IS}{ov:IX}{expr:Bool},F.b.X.contains x=Ib->Facts F.b->Rl F.b f C zt s.heap->VR f C s.heap o ov->W F A (getAttr ov (nm x) expr) rV f C s (.ok v zt)):E F L (.attr e x) J (.ok v zt):=by refine E.mk' rfl λ{zw env A f C s}ok c=>?_;obtain⟨o1,o2⟩:=zh ok;obtain⟨o2,o3⟩:=zh o2;show W F A (eval (.Attribute (zW e (sh zw 0)) (nm x) _) env) _ _ _ _ _;rewrite[arm_eval_Attribute];rw[dT o2];refine seq (he.w o3 c) λw f' zm s' d hv=>Ic (I7 (Ic (IL (II (ha o1 c.ak.ok d.rel hv) (λzz zz p=>?_) λzz zz p=>p))));exact Ic (Ef (IW p))
noncomputable def after(e sl:Expr)(pos:Pos)(o i:IX):Sem IX:=do standAt pos;let r<-subscripted sl (<-getitemInPython o) o i;letTemporaryGo e o r;pure r
theorem bP{e sl:Expr}{pos:Pos}{o i:IX}{Q E:IX->IS->Prop}(hs:∀{Q E:IX->IS->Prop}{s:IS},wpAny (model F.b.prog F.b.w) A (getItem o i) Q E s->wpAny (model F.b.prog F.b.w) A (subscripted sl Ig o i) Q E s)(z1:Looks (model F.b.prog F.b.w) s.heap (getitemInPython o) Ig)(z2:wpAny (model F.b.prog F.b.w) A (getItem o i) Q E s):wpAny (model F.b.prog F.b.w) A (after e sl pos o i) Q E s:=Ic (I7 (Ic (z1.here (Ic (II (hs z2) (λzz zz p=>Ic (Ef (IW p))) λzz zz p=>p)))))
theorem Mj{m:M}{o i:IX}{Mo:Model}{Q E:IX->IS->Prop}(hm:w6 m=Ib)(h:wpAny Mo A (getItem o i) Q E s):wpAny Mo A (subscripted (zW m zw) Ig o i) Q E s:=by cases m<;>first|exact GB h|cases hm
theorem yH{o i:M}{x y v:V}(ha:E F L o J (.ok x zt))(hb:E F L i zt (.ok y zb))(hc:Sub F x y zb v):E F L (.sub o i) J (.ok v zb):=by refine E.mk' rfl λ{zw env A f C s}ok c=>?_;obtain⟨o1,o2⟩:=zh ok;obtain⟨o2,o3⟩:=zh o2;show W F A (eval (zW o (sh zw 0)) env>>=λw=>holding [w] (eval (zW i (sh zw 1)) env)>>=after (zW o (sh zw 0)) (zW i (sh zw 1)) (zw []).p w) _ _ _ _ _;refine seq (ha.w o2 c) λw f' zm s' d hv=>seq (IL (hb.w o3 (c.next d))) λxE yc yg yl ze uG=>?_;obtain⟨z1,z2⟩:=hc.go (A:=A) ze.rel ((c.next d).next ze).ak (VR.ext ze.ext _ hv) uG;exact bP (Mj o1) z1 z2
structure u6(F:Fr)(o:V)(lv hv sv:IX)(J:St)(v:V)(zy:St):Prop where
 go:∀{A:Around}{f:FM}{C:OW}{s:Shared}{ov:Value}{I:Addr},Rl F.b f C J s.heap->s.heap.IsSliceOf I lv hv sv->VR f C s.heap o ov->Looks (model F.b.prog F.b.w) s.heap (getitemInPython ov) false/\W F A (getItem ov (.ref I)) rV f C s (.ok v zy)
theorem i5{o v:V}{zy:St}{ov lv hv sv:IX}{l u x:Option Expr}{p pos:Pos}{e:Expr}{jO:FM}{iQ:OW}{yN:IS}(Z7:Done F [] jO iQ yN J f C s)(ho:VR f C s.heap o ov)(h:u6 F o lv hv sv J v zy):wpAny (model F.b.prog F.b.w) A (newFields "slice" [lv,hv,sv]) (λi s'=>wpAny (model F.b.prog F.b.w) A (after e (.Slice l u x p) pos ov i) (PO F rV jO iQ yN (.ok v zy)) (PX F jO iQ yN (.ok v zy)) s') (PX F jO iQ yN (.ok v zy)) s:=by unfold newFields;refine H' ?_ (by show 3<=_;decide);have d:Done F [] f C s J f C {s with heap:=s.heap.push ⟨.type "slice",none,.fields #[lv,hv,sv],#[]⟩}:=Done.grow Z7.rel (λzz zz e=>IB _ e) rfl rfl;obtain⟨z1,z2⟩:=h.go (A:=A) d.rel ⟨_,IC _ rfl,rfl,rfl⟩ (VR.ext d.ext _ ho);exact bP (λz=>by cases x<;>exact GB z) z1 (W.from (Z7.trans d) z2)
theorem E.k{m:M}{v:V}{Q Z:IX->IS->Prop}(h:E F L m J (.ok v zt))(ok:yu F.b.X m zw env.scope=Ib)(c:Cx F L J env A f C s)(k:∀w f' zm s',Done F [] f C s zt f' zm s'->VR f' zm s'.heap v w->Q w s'):wpAny (model F.b.prog F.b.w) A (eval (zW m zw) env) Q Z s:=II (h.w ok c) (λw s'⟨f',zm,d,hv⟩=>k w f' zm s' d hv) λzz zz x=>x.elim
theorem lz{e:M}{o v:V}{zy:St}(he:E F L e J (.ok o zt))(h:∀t,u6 F o .none .none (.int (-1) t) zt v zy):E F L (.pC e) J (.ok v zy):=by refine E.mk' rfl λ{zw env A f C s}ok c=>?_;refine seq (he.w ok c) λw f' zm s' d hv=>Ic (IL (Ic (IW (Ic (IL (IW (Ic (IL ((fg (i:=1)).k (zw:=sh zw 2) rfl (c.next d) λxE yc yg yl ze hw=>?_)))))))));obtain⟨t,rfl⟩:=hw;exact i5 ze (VR.ext ze.ext _ hv) (h t)
theorem Yq{e i:M}{o v:V}{j:Int}{zy:St}(he:E F L e J (.ok o zt))(hi:E F L i zt (.ok (.int j) zb))(h:∀t,u6 F o (.int j t) .none .none zb v zy):E F L (.qQ e i) J (.ok v zy):=by refine E.mk' rfl λ{zw env A f C s}ok c=>?_;obtain⟨o1,o2⟩:=zh ok;refine seq (he.w o1 c) λw f' zm s' d hv=>Ic (IL (Ic (hi.k o2 (c.next d) λxE yc yg yl ze hw=>Ic (IL (IW (Ic (IL (IW ?_))))))));obtain⟨t,rfl⟩:=hw;exact i5 ze (VR.ext ze.ext _ hv) (h t)
theorem Rb{e i:M}{o v:V}{j:Int}{zy:St}(he:E F L e J (.ok o zt))(hi:E F L i zt (.ok (.int j) zb))(h:∀t,u6 F o .none (.int j t) .none zb v zy):E F L (.pD e i) J (.ok v zy):=by refine E.mk' rfl λ{zw env A f C s}ok c=>?_;obtain⟨o1,o2⟩:=zh ok;refine seq (he.w o1 c) λw f' zm s' d hv=>Ic (IL (Ic (IW (Ic (IL (hi.k o2 (c.next d) λxE yc yg yl ze hw=>Ic (IL (IW ?_))))))));obtain⟨t,rfl⟩:=hw;exact i5 ze (VR.ext ze.ext _ hv) (h t)
theorem Yr{e:M}{o v:V}{zy:St}(he:E F L e J (.ok o zt))(h:∀t u,u6 F o (.int 1 t) (.int (-1) u) .none zt v zy):E F L (.wQ e) J (.ok v zy):=by refine E.mk' rfl λ{zw env A f C s}ok c=>?_;refine seq (he.w ok c) λw f' zm s' d hv=>Ic (IL (Ic ((yr (i:=1)).k (zw:=sh zw 2) rfl (c.next d) λrz z8 zA zd zD wG=>Ic (IL ((fg (i:=1)).k (zw:=sh zw 3) rfl ((c.next d).next zD) λxE yc yg yl ze hw=>Ic (IL (IW ?_)))))));obtain⟨t,rfl⟩:=wG;obtain⟨u,rfl⟩:=hw;exact i5 (zD.trans ze) (VR.ext ze.ext _ (VR.ext zD.ext _ hv)) (h t u)
end
open PySem PySem.W PySem.Calls PyProof.Rows
theorem xd:∀{a c:List Nat},zR a c=Ib↔a=c|[],[]=>⟨fun zz=>rfl,fun zz=>rfl⟩|[],zo::zY|zF::yX,[]=>⟨fun h=>(by cases h),fun h=>(by cases h)⟩|a::r,c::t=>by show(IP a c&&zR r t)=Ib↔_;rewrite[Hg];rewrite[Nat.beq_eq];rewrite[xd];rw[Dy]
theorem gP(a c:List Nat):(tx a==tx c)=zR c a:=by rewrite[Dx];rewrite[beq_iff_eq];rw[xd];exact⟨λq=>(mz q).symm,λq=>by rw[q]⟩
theorem qv{n:Nat}(h:H5 n u1=Ib):n<=1000000:=ID h
theorem vJ{n:Nat}(h:H5 n u1=Ib):n<=sizeLine:=I8 (qv h) (by decide)
section
variable{F:Fr}{fr:List I4}{L:Loc}{J zt zb yK zy:St}{f f':FM}{C zm:OW}{h:Hu}{s s':IS}{A:Hv}{env:Env}{zw:Pi}{M:Model}{Z:IX->IS->Prop}
theorem wz(h:Hu)(o:Obj):grows h (h.push o):=λzz zz e=>IB o e
theorem tY(r:Rl F.b f C J h){c:I4}(hc:h.objs.size<=c):C c=none/\F.b.B.get? c=none:=⟨I5.mpr λn q=>(let⟨o,e⟩:=r.alive c n q;(nomatch(tl hc).symm.trans e)),I5.mpr λo q=>(nomatch(tl hc).symm.trans (r.base c o q))⟩
theorem j_(r:Rl F.b f C J s.heap)(o:Obj):Done F fr f C s J f C {s with heap:=s.heap.push o}:=Done.grow r (wz _ o) rfl rfl
theorem q9(r:Rl F.b f C J s.heap)(g:grows s.heap s'.heap)(hg:s'.gens=s.gens)(ho:s'.os=s.os){l:List I4}(hl:∀c∈l,s.heap.get? c=none/\∃o,s'.heap.get? c=Ie o){a:I4}{m:O}(e:tS F.b.w.params F.b.B (su f J.length a) (ows C l J.length) s'.heap J.length m a):Done F fr f C s (J++[m]) (su f J.length a) (ows C l J.length) s':=⟨Ext.new r g λc hc=>(hl c hc).1,Rel.push r g hl e,hg,ho,λzz c zz o zz e=>g c o e⟩
theorem pL{vs:List V}{items:Array IX}{g:Hu}(r:Rl F.b f C J s.heap)(hg:grows s.heap g)(hv:zS f C s.heap vs items.toList){tk:Nat}:PO F rV f C s (.ok (.ref J.length) (J++[.list vs])) (.ref g.objs.size) {s with heap:=g.push (nE "list" items 0),toks:=tk}:=by obtain gg:grows s.heap (g.push (nE "list" items 0)):=λc o e=>wz _ _ c o (hg c o e);obtain nl:s.heap.get? g.objs.size=none:=I5.mpr λo q=>absurd (HP (hg _ _ q)) (Nat.lt_irrefl _);obtain d:Done F [] f C s _ _ _ {s with heap:=g.push (nE "list" items 0),toks:=tk}:=q9 (s':={s with heap:=g.push (nE "list" items 0),toks:=tk}) (m:=.list vs) (a:=g.objs.size) (l:=[g.objs.size]) r gg rfl rfl (λc hc=>by rw[I_.mp hc];exact⟨nl,_,IC _ rfl⟩) ⟨tA IQ,items,0,IC _ rfl,zS.yi (Ext.new (fr:=[]) r gg λc hc=>by rw[I_.mp hc];exact nl).v _ hv⟩;exact⟨_,_,d,_,sr,rfl⟩
theorem xU{es:Mine.M}{vs:List V}(h:Es F L es J vs zt)(hs:short vs=Ib):E F L (.tup es) J (.ok (.tup vs) zt):=by refine E.mk' rfl λ{zw env A f C s}ok c=>?_;show W F A (eval (.Tuple _ _ _) env) _ _ _ _ _;rw[arm_eval_Tuple];refine Ic (I7 (seq (h.go ok c) λws f' zm s' d hv=>?_));refine H' ?_ (by show ws.toArray.size<=sizeLine;rewrite[HD];rw[hv.length];exact vJ hs);obtain d':=j_ (fr:=[]) d.rel {cls:=.type "tuple",data:=.seq ws.toArray};exact⟨f',zm,d',s'.heap.objs.size,ws.toArray,0,#[],rfl,IC _ rfl,(tY d.rel (IV _)).1,zS.ext d'.ext vs hv⟩
theorem y'{es:Mine.M}{vs:List V}(h:Es F L es J vs zt)(hs:short vs=Ib):E F L (.lst es) J (.ok (.ref zt.length) (zt++[.list vs])):=by refine E.mk' rfl λ{zw env A f C s}ok c=>?_;show W F A (eval (.List _ _) env) _ _ _ _ _;rw[arm_eval_List];refine Ic (I7 (seq (h.go ok c) λws f' zm s' d hv=>?_));refine H' ?_ (by show ws.toArray.size<=sizeLine;rewrite[HD];rw[hv.length];exact vJ hs);exact pL d.rel grows.refl hv
theorem yd{op:qK}{a b:Mine.M}{x y:V}{out:R V}(ha:E F L a J (.ok x zt))(hb:E F L b zt (.ok y zb))(hc:ui F op x y zb out):E F L (.bin op a b) J out:=by refine E.mk' rfl λ{zw env A f C s}ok c=>?_;obtain⟨o1,o2⟩:=zh ok;show W F A (eval (.BinOp _ _ _ _) env) _ _ _ _ _;rw[arm_eval_BinOp];exact seq (ha.w o1 c) λw f' zm s' d hv=>seq (IL (hb.w o2 (c.next d))) λxE yc yg yl ze uG=>Ic (I7 (GB (hc.go ze.rel ((c.next d).next ze).ak (VR.ext ze.ext _ hv) uG)))
theorem zZ{op:rt}{a b:Mine.M}{x y:V}{t:Bool}(ha:E F L a J (.ok x zt))(hb:E F L b zt (.ok y zb))(hc:x_ F op x y zb t):E F L (.cmp op a b) J (.ok (.bool t) zb):=by
 have m1:∀{zw:Pi}{env:Env},w6 b=Ib->markedEach [jq op] [zW b zw] (evalEach [zW b zw] env)=[eval (zW b zw) env]:=λ{zw env}h=>by show[markedBehindIn (jq op) (zW b zw) (eval (zW b zw) env)]=_;unfold markedBehindIn;rw[Mm h]
 refine⟨λ{zw env A f C s}ok c=>?_⟩;obtain⟨o1,o2⟩:=zh ok;obtain⟨o2,o3⟩:=zh o2;constructor;.show W F A (eval (.Compare _ _ _ _) env) _ _ _ _ _;rewrite[arm_eval_Compare];rw[m1 o1];exact seq (ha.w o2 c) λw f' zm s' d hv=>seq (IL (hb.w o3 (c.next d))) λxE yc yg yl ze uG=>Ic (I7 (GB (hc.go ze.rel ((c.next d).next ze).ak (VR.ext ze.ext _ hv) uG)))
 .intro t' zy e;cases e;show W F A (isTrue (.Compare _ _ _ _) env _) _ _ _ _ _;rewrite[arm_isTrue_Compare];rw[m1 o1];refine seq (ha.w o2 c) λw f' zm s' d hv=>seq (IL (hb.w o3 (c.next d))) λxE yc yg yl ze uG=>Ic (I7 ?_);refine seq (GB (hc.go ze.rel ((c.next d).next ze).ak (VR.ext ze.ext _ hv) uG)) λUn sW sG xp yL O8=>?_;cases O8;exact IL (W.pure yL.rel rfl)
theorem vH{e:Mine.M}{t:Bool}(h:E F L e J (.ok (.bool t) zt)):E F L (.not e) J (.ok (.bool (!t)) zt):=by
 refine⟨λ{zw env A f C s}ok c=>⟨?_,λt' zy e=>?_⟩⟩;.show W F A (eval (.UnaryOp .Not _ _) env) _ _ _ _ _;rw[arm_eval_UnaryOp];refine seq (h.w ok c) λw f' zm s' d hv=>?_;cases hv;exact Ic (I7 (IL (not_of (W.pure d.rel rfl))))
 .cases e;show W F A (isTrue (.UnaryOp .Not _ _) env _) _ _ _ _ _;rw[arm_isTrue_UnaryOp];refine seq (h.t ok c) λw f' zm s' d hv=>?_;cases hv;exact W.pure d.rel rfl
theorem Yv{c a b:Mine.M}{t:Bool}{out:R V}(h:E F L c J (.ok (.bool t) zt))(h':E F L (if t then a else b) zt out):E F L (.ite c a b) J out:=by
 refine⟨λ{zw env A f C s}ok cx=>?_⟩;obtain⟨o1,o2⟩:=zh ok;obtain⟨o2,o3⟩:=zh o2;refine⟨?_,λt' zy e=>?_⟩;.show W F A (eval (.IfExp _ _ _ _) env) _ _ _ _ _;rw[arm_eval_IfExp];refine seq (h.t o1 cx) λw f' zm s' d hv=>?_;cases hv;cases t with|true=>exact h'.w o2 (cx.next d)|false=>exact h'.w o3 (cx.next d)
 .subst e;show W F A (isTrue (.IfExp _ _ _ _) env _) _ _ _ _ _;rw[arm_isTrue_IfExp];refine seq (h.t o1 cx) λw f' zm s' d hv=>?_;cases hv;cases t with|true=>exact h'.t o2 (cx.next d)|false=>exact h'.t o3 (cx.next d)
theorem wb{c a b:Mine.M}{out:R V}(h:E F L c J (.ok (.bool Ib) zt))(h':E F L a zt out):E F L (.ite c a b) J out:=Yv h h'
theorem we{c a b:Mine.M}{out:R V}(h:E F L c J (.ok (.bool Ig) zt))(h':E F L b zt out):E F L (.ite c a b) J out:=Yv h h'
noncomputable def mK(z:Bool)(es:Mine.M):Mine.M:=if z then .or es else .and es
theorem ar{z t:Bool}{b:Mine.M}(h:E F L b J (.ok (.bool t) zt)):E F L (mK z (.cons b .nil)) J (.ok (.bool t) zt):=by
 refine⟨λ{zw env A f C s}ok c=>?_⟩;obtain ok:yu F.b.X (.cons b .nil) (sh zw 0) env.scope=Ib:=by cases z<;>exact ok
 obtain⟨o2,o3⟩:=zh (zh ok).2;refine⟨by cases z<;>exact h.w o2 c,λt' zy e=>?_⟩;cases e;cases z;all_goals show W F A (allTrue _ [zW b _] env) _ _ _ _ _;rw[arm_allTrue_cons];refine seq (h.t o2 c) λw f' zm s' d hv=>?_;cases hv;cases t<;>exact W.pure d.rel rfl
theorem ao{z:Bool}{a b es:Mine.M}(h:E F L a J (.ok (.bool z) zt)):E F L (mK z (.cons a (.cons b es))) J (.ok (.bool z) zt):=by
 refine⟨λ{zw env A f C s}ok c=>?_⟩;obtain ok:yu F.b.X (.cons a (.cons b es)) (sh zw 0) env.scope=Ib:=by cases z<;>exact ok
 obtain⟨o2,o3⟩:=zh (zh ok).2;refine⟨?_,λt' zy e=>?_⟩;.cases z;all_goals show W F A (eval (zW a (sh (sh zw 0) 0)) env>>=_) _ _ _ _ _;refine seq (h.w o2 c) λw f' zm s' d hv=>?_;cases hv;refine Ic (I7 (Ic (IL (IW ?_))));exact W.pure d.rel rfl
 .cases e;cases z;all_goals show W F A (allTrue _ (zW a _::_) env) _ _ _ _ _;rw[arm_allTrue_cons];refine seq (h.t o2 c) λw f' zm s' d hv=>?_;cases hv;exact W.pure d.rel rfl
theorem aq{z t:Bool}{a b es:Mine.M}(h:E F L a J (.ok (.bool (!z)) zt))(h':E F L (mK z (.cons b es)) zt (.ok (.bool t) zb)):E F L (mK z (.cons a (.cons b es))) J (.ok (.bool t) zb):=by
 refine⟨λ{zw env A f C s}ok c=>?_⟩;obtain ok:yu F.b.X (.cons a (.cons b es)) (sh zw 0) env.scope=Ib:=by cases z<;>exact ok
 obtain⟨o2,o3⟩:=zh (zh ok).2;have WX:∀{D:Dc},yu F.b.X (mK z (.cons b es)) (λl=>match l with|[]=>D|_::l=>sh (sh zw 0) 1 l) env.scope=Ib:=by cases z<;>exact o3
 refine⟨?_,λt' zy e=>?_⟩;.cases z;all_goals show W F A (eval (zW a (sh (sh zw 0) 0)) env>>=_) _ _ _ _ _;refine seq (h.w o2 c) λw f' zm s' d hv=>?_;cases hv;refine Ic (I7 (Ic (IL (IW ?_))));exact h'.w (WX (D:=zw [])) (c.next d)
 .cases e;cases z;all_goals show W F A (allTrue _ (zW a _::_) env) _ _ _ _ _;rw[arm_allTrue_cons];refine seq (h.t o2 c) λw f' zm s' d hv=>?_;cases hv;exact h'.t (WX (D:=zw [])) (c.next d)
theorem ub{b:Mine.M}{t:Bool}(h:E F L b J (.ok (.bool t) zt)):E F L (.and (.cons b .nil)) J (.ok (.bool t) zt):=ar (z:=Ig) h
theorem uK{b:Mine.M}{t:Bool}(h:E F L b J (.ok (.bool t) zt)):E F L (.or (.cons b .nil)) J (.ok (.bool t) zt):=ar (z:=Ib) h
theorem tN{a b es:Mine.M}(h:E F L a J (.ok (.bool Ig) zt)):E F L (.and (.cons a (.cons b es))) J (.ok (.bool Ig) zt):=ao (z:=Ig) h
theorem sZ{a b es:Mine.M}(h:E F L a J (.ok (.bool Ib) zt)):E F L (.or (.cons a (.cons b es))) J (.ok (.bool Ib) zt):=ao (z:=Ib) h
theorem vt{a b es:Mine.M}{t:Bool}(h:E F L a J (.ok (.bool Ib) zt))(h':E F L (.and (.cons b es)) zt (.ok (.bool t) zb)):E F L (.and (.cons a (.cons b es))) J (.ok (.bool t) zb):=aq (z:=Ig) h h'
theorem uL{a b es:Mine.M}{t:Bool}(h:E F L a J (.ok (.bool Ig) zt))(h':E F L (.or (.cons b es)) zt (.ok (.bool t) zb)):E F L (.or (.cons a (.cons b es))) J (.ok (.bool t) zb):=aq (z:=Ib) h h'
end
open PySem PySem.W PySem.Calls PyProof.Rows
section
variable{M:Model}{A:Hv}{E:IX->IS->Prop}{s:IS}
theorem RV{fv:IX}{args:List (Bool×Sem IX)}{Q:Args→IS→Prop}(hp:args.any (·.1)=Ig)(h:wpAny M A (spliced args) (fun vs s'=>Q ⟨vs,[]⟩ s') E s):wpAny M A (evalArgs fv Ib args []) Q E s:=by match args,hp,h with|[],zo,h=>unfold evalArgs;show wpAny M A (spliced []>>=fun x=>pure (x,none)>>=_) Q E s;refine Ic (II h (fun vs s' h'=>?_) fun zz zz x=>x);refine Ic (IW (IL ?_));exact Ic (IW (Ic (IW (IW h'))))|(Ig,x)::r,zo,h=>exact evalArgs_plain h|(Ib,x)::r,hp,zo=>cases hp
theorem Jg{M:Model}{zi:Type}{c:Prop} [Decidable c]{a b:Sem zi}{Q:zi->IS->Prop}(h:wpAny M A a Q E s)(h':wpAny M A b Q E s):wpAny M A (if c then a else b) Q E s:=if q:c then by rw[if_pos q];exact h else by rw[if_neg q];exact h'
theorem ju{prog:Program}{w:World}{pos:Pos}{fv:IX}{first:List IX}{args:List (Bool×Sem IX)}{Q:IX→IS→Prop}(hp:args.any (·.1)=Ig)(h:wpAny (model prog w) A (spliced args) (fun vs zd=>(∃k,(k=EG∨k=Ee)∧Looks (model prog w) zd.heap (keeperOf fv) k)∧wpAny (model prog w) A (call fv (first++vs)) Q E zd) E s):wpAny (model prog w) A (callWith pos fv first args []) Q E s:=by
 unfold callWith;refine Ic (IL (RV hp (II h (fun vs zd wG=>Ic (I7 ?_)) fun zz zz x=>x)));obtain⟨⟨k,hk,lk⟩,hc⟩:=wG;have tail:∀{t:Sem IX},wpAny (model prog w) A t Q E zd→wpAny (model prog w) A (t>>=fun r=>holding [r] point>>=fun zz=>pure r) Q E zd:=fun ht=>Ic (II ht (fun r yl hr=>Ic (IL (wpAny_point (IW hr)))) fun zz zz x=>x);dsimp only;rw[hp];refine Ic (m:=keeperOf fv) (lk.here ?_);rcases hk with rfl|rfl;·show wpAny _ _ (if _+2*GH ([]:List (Option Str×Sem IX))>30 then _ else _) _ _ _;refine Jg (tail hc) (tail ?_);unfold callMarked;exact wpAny_keep hc
 ·exact tail hc
end
noncomputable def sI:V->Bool|.fn a=>(prog.fn a).isSome|.cl a=>(prog.cls a).isSome|.bi zo|.ty zY=>Ib|_=>Ig
section
variable{F:Fr}{L:Loc}{J zt zb yK zy:St}{f:FM}{C:OW}{s:IS}{A:Hv}{env:Env}{zw:Pi}
theorem dw(fk:Facts F.b)(r:Rl F.b f C J s.heap){fv:V}{xS:IX}(hv:VR f C s.heap fv xS)(h:sI fv=Ib):∃k,(k=EG\/k=Ee)/\Looks (model F.b.prog F.b.w) s.heap (keeperOf xS) k:=by obtain kp:∀{a:I4},keepIn F.b.K (.ref a)=Ib->∃k,(k=EG\/k=Ee)/\Looks (model F.b.prog F.b.w) s.heap (keeperOf (.ref a)) k:=λh=>looks_keep h (fk.yM.keeps r.base);cases fv with|fn a=>cases hv;exact kp (fk.XJ a h)|cl c=>cases hv;exact kp (fk.XM c h)|bi i=>cases hv;refine⟨.machine,.inr rfl,?_⟩;cases i<;>exact Gq (by kernel_rfl)|ty t=>cases hv;refine⟨.machine,.inr rfl,?_⟩;cases t<;>exact Gq (by kernel_rfl)|_=>cases h
theorem Mq{fm:M}{args:List Expr}{pos:Pos}(h:Xb fm=Ib):eval (.Call (zW fm zw) args [] pos) env=(do let fv<-eval (zW fm zw) env;callWith pos fv [] (backTo pos (starEach args env)) []):=by cases fm<;>first|rfl|cases h
theorem y0{fm args:M}{fv:V}{vs:List V}{out:R V}(hf:E F L fm J (.ok fv zt))(ha:Es F L args zt vs zb)(hc:Call F fv vs zb out)(hk:sI fv=Ib:=by rfl):E F L (.call fm args) J out:=by refine E.mk' rfl λ{zw env A f C s}ok c=>?_;obtain⟨o1,o2⟩:=zh ok;obtain⟨o2,o3⟩:=zh o2;show W F A (eval (.Call (zW fm (sh zw 0)) _ [] _) env) _ _ _ _ _;rw[Mq o1];refine seq (hf.w o2 c) λw f' zm s' d hv=>ju (ha.ns o3) (II (ha.go o3 (c.next d)) (λws yl p=>?_) λzz zz x=>x.elim);obtain⟨yc,yg,ze,uH⟩:=p;obtain uG:=VR.ext ze.ext _ hv;exact⟨dw c.ak.ok ze.rel uG hk,W.from ze (hc.go ze.rel ((c.next d).next ze).ak uG uH)⟩
theorem U9{args:List (Bool×Sem IX)}(h:args.any (·.1)=Ig):args.all (!·.1)=Ib:=by rw[I2];intro x hx;simpa using EF.mp h x hx
theorem yj{o args:M}{x:Nat}{ov fv:V}{first vs:List V}{out:R V}(ho:E F L o J (.ok ov zt))(hm:Find F ov x zt fv first)(ha:Es F L args zt vs zb)(hc:Call F fv (first++vs) zb out)(hk:sI fv=Ib:=by rfl):E F L (.zl o x args) J out:=by
 refine E.mk' rfl λ{zw env A f C s}ok c=>?_;obtain⟨o1,o2⟩:=zh ok;obtain⟨o2,o3⟩:=zh o2;obtain⟨o1,hl⟩:=zh o1;obtain⟨o1,hp⟩:=zh o1;obtain⟨hX,hb⟩:=zh o1;obtain ns:=ha.ns (pos:=(zw []).p) o3;obtain RD:methodCallForm ((xQ args (sh zw 1)).length+([]:List Keyword).length) (backTo (zw []).p (starEach (xQ args (sh zw 1)) env)) (backToKw (zw []).p (keywordEach [] env))=Ib:=by obtain this:=ID hl;unfold methodCallForm;rw[U9 ns];show(Ib&&Ib&&decide ((xQ args (sh zw 1)).length+0+0<30))=Ib;rw[decide_eq_true (by lia)];rfl
 show W F A (eval (.Call (.Attribute (zW o (sh zw 0)) (nm x) (zw [2]).p) _ [] _) env) _ _ _ _ _;rewrite[arm_eval_Call];rw[dT hb];refine seq (ho.w o2 c) λw f' zm s' d hv=>Ic (I7 ?_);unfold methodCall;rw[RD];refine Ic (IL (II (hm.go hX d.rel (c.next d).ak hv) (λfx zd p=>?_) λzz zz x=>x.elim));obtain⟨z8,zA,zD,h1,h2⟩:=p;obtain mp:methodCallPos Ib (zW o (sh zw 0)) env (zw [2]).p (zw []).p=pure (zw []).p:=by unfold methodCallPos;rw[show(!Ib||(zw [2]).p.endLine==(zw []).p.line)=Ib by rw[IJ hp];simp];rfl
 dsimp only;rw[mp];refine Ic (IW (ju ns (II (ha.go o3 ((c.next d).next zD)) (λws yl p=>?_) λzz zz x=>x.elim)));obtain⟨yc,yg,ze,uH⟩:=p;obtain uG:=VR.ext ze.ext _ h1;exact⟨dw c.ak.ok ze.rel uG hk,W.from (zD.trans ze) (hc.go ze.rel (((c.next d).next zD).next ze).ak uG (zS.append (zS.ext ze.ext _ h2) uH))⟩
end
open PySem PySem.W PySem.Calls PyProof.Rows
section
variable{P:Params}{f:FM}{C:OW}{h:Hu}{prog:Program}{w:World}{k:List Nat}
theorem DR.length:∀{es:List (List Nat×V)}{ws:List Hn},DR P f C h es ws->ws.length=es.length|[],zo,e=>by cases e;rfl|zo::zY,zF,⟨yX,xe,vM,e,uR,r⟩=>by subst e;exact congrArg (.+1) (DR.length r)
theorem DR.keys:∀{es:List (List Nat×V)}{ws:List Hn},DR w.params f C h es ws->∀e∈ws,∃k,(strKind prog w).is k e.key=Ib/\e.hash=(strKind prog w).hash k
|[],zo,e=>by cases e;intro _ he;cases he
|(k,zo)::zY,zF,⟨t,w',yX,e,xe,r⟩=>by
 subst e;intro e he;rcases IU.mp he with rfl|he;.exact⟨tx k,strKind_is prog w (tx k) t,rfl⟩
 .exact DR.keys r e he
theorem KR(k a:List Nat)(t:Tok):(strKind prog w).is (tx k) (.str (tx a) t)=zR k a:=gP a k
theorem DR.at{v:V}{wv:IX}{mw:Tok}:∀{es:List (List Nat×V)}{ws:List Hn},DR w.params f C h es ws->(X3 λi e u=>C5 ((ws.findIdx? λe=>(strKind prog w).is (tx k) e.key:Option Nat)=Ie i) (ws[i]?=Ie e) (zE k es=Ie u) (VR f C h u e.val) (VR f C h v wv->DR w.params f C h (dput k v es) (ws.modify i λe=>{e with val:=wv})))\/(C3 ((ws.findIdx? λe=>(strKind prog w).is (tx k) e.key:Option Nat)=none) (zE k es=none) (VR f C h v wv->DR w.params f C h (dput k v es) (ws++[⟨Eg w.params (tx k),.str (tx k) mw,wv⟩])))
|[],zo,e=>by cases e;exact .inr ⟨rfl,rfl,λhv=>⟨mw,wv,[],rfl,hv,rfl⟩⟩
|(a,u)::es,zo,⟨t,w',r,e,e1,e2⟩=>by
 subst e;rw[Ff];simp only[KR];unfold zE dput;cases q:zR k a with
 |true=>exact .inl ⟨0,_,u,rfl,rfl,rfl,e1,λhv=>⟨t,wv,r,rfl,hv,e2⟩⟩
 |false=>
  simp only[I0,if_false];rcases DR.at (v:=v) (wv:=wv) (mw:=mw) e2 with⟨i,e,u',z,a1,a2,a3,a4⟩|⟨z,a1,a2⟩;.exact .inl ⟨i+1,e,u',by rw[z];rfl,a1,a2,a3,λhv=>⟨t,w',_,rfl,e1,a4 hv⟩⟩
  .exact .inr ⟨by rw[z];rfl,a1,λhv=>⟨t,w',_,rfl,e1,a2 hv⟩⟩
theorem fu(v:V):∀es:List (List Nat×V),(dput k v es).length<=es.length+1|[]=>IV _|(a,u)::es=>by unfold dput;cases zR k a with|true=>exact FJ _|false=>exact Hs (fu v es)
theorem ft{v:V}{a:List Nat}:∀{es:List (List Nat×V)},a∈(dput k v es).map (·.1)→a=k∨a∈es.map (·.1)
|[],h=>.inl (I_.mp h)
|(c,w)::es,h=>by
 unfold dput at h;cases q:zR k c with
 |true=>rw[q]at h;exact .inr h
 |false=>
  rw[q]at h;rcases IU.mp h with h|h;·exact .inr (h▸IQ)
  ·exact(ft h).imp_right (I6 _)
theorem m6{v:V}:∀{es:List (List Nat×V)},(es.map (·.1)).Nodup→((dput k v es).map (·.1)).Nodup|[],zo=>Hk.mpr ⟨F6,Gn⟩|(c,w)::es,h=>by unfold dput;cases q:zR k c with|true=>exact h|false=>obtain⟨h1,h2⟩:=Hk.mp h;refine Hk.mpr ⟨fun z=>(ft z).elim (fun e=>?_) h1,m6 h2⟩;rw[xd.mpr e.symm]at q;cases q
theorem jY:∀{ps es:List (List Nat×V)},(es.map (·.1)).Nodup→((tw ps es).map (·.1)).Nodup|[],zo,h=>h|p::ps,es,h=>jY (ps:=ps) (es:=dput p.1 p.2 es) (m6 h)
end
section
variable{F:Fr}{f:FM}{C:OW}{s:IS}{A:Hv}{Z:IX->IS->Prop}
theorem findIdx_toArray(p:Hn->Bool)(es:Array Hn):es.findIdx? p=es.toList.findIdx? p:=by cases es;simp
theorem fz{b:Bc}{d:I4}{es:List (List Nat×V)}{ents:Array Hn}{ep:Nat}{k:List Nat}{t:Tok}{v:V}{wv:IX}{Q:Unit->IS->Prop}(ho:s.heap.get? d=Ie (xo ents ep))(hd:DR b.w.params f C s.heap es ents.toList)(hv:VR f C s.heap v wv)(hs:es.length<=sizeLine)(hQ:∀h' wN yS,HU d s.heap h'->h'.get? d=Ie (xo wN yS)->DR b.w.params f C s.heap (dput k v es) wN.toList->Q () {s with heap:=h',toks:=s.toks+1}):wpAny (model b.prog b.w) A (dictSet d (.str (tx k) t) wv) Q Z s:=by
 obtain hk:KeysOf (strKind b.prog b.w) ents:=λe he=>DR.keys hd e (Hm.mpr he);unfold dictSet;refine IL (Ic ((strKind b.prog b.w).pyHash (strKind_is b.prog b.w (tx k) t) ?_));unfold dictSetHashed;refine IL (Ic (wpAny_dictFind_of (s:={s with toks:=s.toks+1}) (strKind_is b.prog b.w (tx k) t) ho rfl hk ?_));rw[findIdx_toArray];rcases DR.at (prog:=b.prog) (k:=k) (v:=v) (wv:=wv) (mw:=t) hd with⟨i,e,u,z,_,_,_,pu⟩|⟨z,_,pu⟩;.rw[z];refine Ic (G2 (Ic (wpAny_updateDict (s:={s with toks:=s.toks+1}) ho rfl (wpAny_point (hQ _ _ ep (Hx ..) (Ho _ ho rfl) ?_)))));rw[Array.toList_modify];exact pu hv
 .rw[z];refine Ic (G2 (wpAny_updateDictKeys (hz:=by rewrite[<-IE];rw[hd.length];exact hs) (s:={s with toks:=s.toks+1}) ho rfl (hQ _ _ (ep+1) (Hx ..) (Ho _ ho rfl) ?_)));rw[FI];exact pu hv
theorem um{h:Hu}{a:I4}{o:Obj}(e:h.get? a=Ie o)(hc:(o.cls==.type "tuple")=Ig):¬isTup (h.get? a):=λ⟨zo,zY,zF,q⟩=>by replace q:=yZ e q;cases q;cases hc
theorem gw{h h':Hu}{d:I4}(hs:HU d h h')(ht:¬isTup (h.get? d)):vi f C h f C h':=⟨λzz zz e=>e,λc e n=>⟨hs.2 c λq=>ht (q▸e),n⟩⟩
noncomputable def PR(f:FM)(C:OW)(h:Hu):List (List Nat×V)->List (IX×IX)->Prop|[],ws=>ws=[]|(k,v)::ps,ws=>X3 λt w r=>C3 (ws=(.str (tx k) t,w)::r) (VR f C h v w) (PR f C h ps r)
theorem PR.yi{f':FM}{zm:OW}{h h':Hu}(x:vi f C h f' zm h'):∀{ps:List (List Nat×V)}{ws:List (IX×IX)},PR f C h ps ws->PR f' zm h' ps ws|[],zo,e=>e|zo::zY,zF,⟨t,w,r,e,e1,e2⟩=>⟨t,w,r,e,VR.yi x _ e1,PR.yi x e2⟩
theorem Yb{b:Bc}{d:I4}(g:IX×IX->PUnit->Sem (ForInStep PUnit))(hg:∀k v u,g (k,v) u=(do dictSet d k v;pure (.yield ⟨⟩))):∀(ps:List (List Nat×V))(ws:List (IX×IX))(es:List (List Nat×V))(ents:Array Hn)(ep:Nat)(s:IS)(Q:PUnit->IS->Prop),PR f C s.heap ps ws->s.heap.get? d=Ie (xo ents ep)->DR b.w.params f C s.heap es ents.toList->es.length+ps.length<=sizeLine->(∀h' wN yS tk,HU d s.heap h'->h'.get? d=Ie (xo wN yS)->DR b.w.params f C h' (tw ps es) wN.toList->Q ⟨⟩ {s with heap:=h',toks:=tk})->wpAny (model b.prog b.w) A (forIn ws ⟨⟩ g) Q Z s|[],ws,es,ents,ep,s,Q,hp,ho,hd,hl,hQ=>by cases hp;exact IW (hQ s.heap ents ep s.toks (Heap.SameBut.refl _ _) ho hd)|(k,v)::ps,zo,es,ents,ep,s,Q,⟨t,w,r,e,hv,hp⟩,ho,hd,hl,hQ=>by subst e;rewrite[Fq];rw[hg];rw[HV]at hl;refine Ic (Ic (fz ho hd hv (by lia) λh' wN yS hs Y9 dr=>IW ?_));have x:=gw (f:=f) (C:=C) hs (um ho rfl);have sV:=fu (k:=k) v es;exact Yb g hg ps r (dput k v es) wN yS _ Q (PR.yi x hp) Y9 (DR.yi x _ dr) (by lia) λxI ff f_ tk vo ey fq=>hQ xI ff f_ tk (hs.trans vo) ey fq
end
noncomputable def nH(env:Env)(pos:Pos):M->Pi->List (Sem IX×Sem IX)|.kv k v r,zw=>(eval (zW k (sh zw 0)) env,(do let x<-eval (zW v (sh zw 1)) env;standAt pos;pure x))::nH env pos r (sh zw 2)|zo,zY=>[]
theorem Ly{env:Env}{pos:Pos}(m:M):∀{zw:Pi},(evalEachOpt (n8 m zw) env).zip ((evalEach (hF m zw) env).map λv=>do let x<-v;standAt pos;pure x)=(nH env pos m zw).map λp=>(Ie p.1,p.2):=by induction m with|kv k v r zo zY ih=>intro zw;exact congrArg (_::.) ih|_=>intro zw;rfl
theorem Lz{env:Env}{pos:Pos}(m:M):∀{zw:Pi},(nH env pos m zw).length=(n8 m zw).length:=by induction m with|kv k v r zo zY ih=>intro zw;exact congrArg (.+1) ih|_=>intro zw;rfl
section
variable{F:Fr}{L:Loc}{J zt zb yK zy:St}{f:FM}{C:OW}{s:IS}{A:Hv}{env:Env}{zw:Pi}
structure Kv(F:Fr)(L:Loc)(m:M)(J:St)(ps:List (List Nat×V))(zy:St):Prop where
 go:∀{zw:Pi}{env:Env}{A:Around}{f:FM}{C:OW}{s:Shared}{pos:Pos},yu F.b.X m zw env.scope=true->Cx F L J env A f C s->W F A (evalPairs (nH env pos m zw)) PR f C s (.ok ps zy)
theorem XG:Kv F L .nil J [] J:=⟨λzz c=>W.pure c.rel rfl⟩
theorem dq{k v r:M}{a:List Nat}{x:V}{ps:List (List Nat×V)}(hk:E F L k J (.ok (.str a) zt))(hv:E F L v zt (.ok x zb))(hr:Kv F L r zb ps yK):Kv F L (.kv k v r) J ((a,x)::ps) yK:=by refine⟨λ{zw env A f C s pos}ok c=>?_⟩;obtain⟨o1,o2⟩:=zh ok;obtain⟨o2,o3⟩:=zh o2;show W F A (eval (zW k (sh zw 0)) env>>=λkv=>holding [kv] (eval (zW v (sh zw 1)) env>>=λx=>standAt pos>>=λzz=>pure x)>>=λvv=>holding [kv,vv] (evalPairs (nH env pos r (sh zw 2)))>>=λr=>pure ((kv,vv)::r)) _ _ _ _ _;refine seq (hk.w o1 c) λwk f' zm s' d h1=>seq (v:=x) (rv:=rV) (IL (seq (hv.w o2 (c.next d)) λwv yc yg yl ze h2=>Ic (I7 (W.pure ze.rel h2)))) λwv yc yg yl ze h2=>?_;refine seq (IL (hr.go o3 ((c.next d).next ze))) λl sW sG xp yL h3=>W.pure yL.rel ?_;obtain⟨t,rfl⟩:=h1;exact⟨t,_,_,rfl,VR.ext yL.ext _ h2,h3⟩
theorem ZF(r:Rl F.b f C J s.heap):Done F [] f C s (J++[.dict []]) (su f J.length s.heap.objs.size) (ows C [s.heap.objs.size] J.length) {s with heap:=s.heap.push (xo #[] 0)}:=q9 (s':={s with heap:=s.heap.push (xo #[] 0)}) (a:=s.heap.objs.size) (l:=[s.heap.objs.size]) (m:=.dict []) r (wz _ _) rfl rfl (λc hc=>by rw[I_.mp hc];exact⟨tl (IV _),_,IC _ rfl⟩) ⟨tA IQ,#[],0,IC _ rfl,rfl,Gn⟩
theorem jX:E F L (.wY .nil) J (.ok (.ref J.length) (J++[.dict []])):=by refine E.mk' rfl λ{zw env A f C s}ok c=>?_;show W F A (eval (.Dict [] [] _) env) _ _ _ _ _;rw[arm_eval_Dict];refine Ic (I7 ?_);show W F A newDict _ _ _ _ _;refine H' ?_ (by show(#[]:Array Hn).size<=sizeLine+1;exact HL _);exact⟨_,_,ZF c.rel,_,sr,rfl⟩
theorem ZG{n:Nat}{a:I4}{es:List (List Nat×V)}{ents:Array Hn}{ep tk:Nat}{h':Hu}(z6:F.s=Ig)(r:Rl F.b f C J s.heap)(fa:f n=Ie a)(w:C a=Ie n)(hs:HU a s.heap h')(g:h'.get? a=Ie (xo ents ep))(dr:DR F.b.w.params f C s.heap es ents.toList)(nd:(es.map (·.1)).Nodup):Done F [] f C s (J.set n (.dict es)) f C {s with heap:=h',toks:=tk}:=by obtain ex:∀{fr},Ext fr f C s.heap f C h':=Ext.write hs w ⟨_,g⟩;exact⟨ex,r.write hs w ⟨_,g⟩ fa ⟨w,ents,ep,g,DR.yi (ex (fr:=[])).v _ dr,nd⟩,rfl,rfl,fun z=>by replace z:=z6.symm.trans z;cases z⟩
theorem vg{n:Nat}{es:List (List Nat×V)}{a:I4}{h:Hu}(r:Rl F.b f C J h)(fa:f n=Ie a)(hn:J[n]?=Ie (.dict es)):C a=Ie n∧X2 fun ents ep=>C3 (h.get? a=Ie (xo ents ep)) (DR F.b.w.params f C h es ents.toList) ((es.map (·.1)).Nodup):=by obtain⟨a',yp,w,R⟩:=r.objs n _ hn;replace yp:=yZ fa yp;cases yp;exact⟨w,R⟩
theorem Yx{k v m:M}{ps:List (List Nat×V)}(z6:F.s=Ig)(h:Kv F L (.kv k v m) (J++[.dict []]) ps zt)(hd:zt[J.length]?=Ie (.dict []))(hs:short ps=Ib):E F L (.wY (.kv k v m)) J (.ok (.ref J.length) (zt.set J.length (.dict (tw ps [])))):=by refine E.mk' rfl λ{zw env A f C s}ok c=>?_;obtain⟨o1,o2⟩:=zh ok;obtain hl:=ID o1;obtain pl:=Lz (env:=env) (pos:=(zw []).p) (.kv k v m) (zw:=sh zw 0);show W F A (eval (.Dict (n8 (.kv k v m) (sh zw 0)) (hF (.kv k v m) (sh zw 0)) (zw []).p) env) _ _ _ _ _;rw[arm_eval_Dict];refine Ic (I7 ?_);rewrite[Ly];rw[dictDisplay_pairs _ (by intro q;cases q) (by lia)];unfold subDict;refine Ic (Ic (E0 ?_));obtain d0:=ZF c.rel;refine Ic (IL ?_);rw[if_pos (show(nH env (zw []).p (.kv k v m) (sh zw 0)).length<=15 by lia)];refine Ic (II (h.go o2 (c.next d0)) (λws zd p=>?_) λzz zz x=>x.elim);obtain⟨z8,zA,zD,pr⟩:=p;obtain fa:=zD.ext.w9 _ _ (sr (f:=f) (n:=J.length) (a:=s.heap.objs.size));obtain⟨w,ents,ep,g,dr,nd⟩:=vg zD.rel fa hd;obtain e0:ents=#[]:=E6.mp dr;subst e0;refine IL (Ic ?_);refine Yb (f:=z8) (C:=zA) _ (λzz zz zz=>rfl) ps ws [] #[] ep zd _ pr g rfl (by rewrite[Gy];rw[Nat.zero_add];exact vJ hs) λh' wN yS tk sR hg m5=>?_;refine IW (IW (IW ?_));obtain ex:Ext [] z8 zA zd.heap z8 zA h':=Ext.write sR w ⟨_,hg⟩;obtain d2:Done F [] z8 zA zd (zt.set J.length (.dict (tw ps []))) z8 zA {zd with heap:=h',toks:=tk}:=⟨ex,zD.rel.write sR w ⟨_,hg⟩ fa ⟨w,wN,yS,hg,m5,jY Gn⟩,rfl,rfl,λz=>by replace z:=z6.symm.trans z;cases z⟩;exact⟨z8,zA,(d0.trans zD).trans d2,_,fa,rfl⟩
end
open PySem PySem.W PySem.Calls PyProof.Rows
noncomputable def rp(b:Bc)(C:OW)(h:Hu)(e:I4):Prop:=X2 λoe vs=>C4 (h.get? e=Ie oe) (oe.data=.fields vs) (6<=vs.size) (bV b C h e vs)
theorem rp.YW{b:Bc}{C:OW}{h:Hu}{e:I4}(x:rp b C h e):ot b C h e:=let⟨o,vs,a,b,c,d⟩:=x;⟨o,vs,a,b,c,.inr d⟩
structure mh(A:Hv)(env:Env):Prop where
 top:∃outer,A.frames=some (env::outer)
 frame:env.frame=some env.locals
section
variable{F:Fr}{fr:List I4}{f f':FM}{C zm:OW}{h h':Hu}{s s':IS}{J:St}{A:Hv}{env:Env}{L e:I4}{n c:Nat}{fs:List (Nat×V)}{M:Model}{E:IX->IS->Prop}
theorem set_same{zi:Type}{J:List zi}{n:Nat}{o:zi}(h:J[n]?=Ie o):J.set n o=J:=by
 apply List.ext_getElem?;intro i;by_cases q:i=n;.subst q;rewrite[HX (xr h)];rw[h]
 .rw[H2 (H0 q)]
theorem KW{S:List I4}(r:Rl F.b f C J h)(x:Heap.SlotsOnly S h h')(hS:∀L∈S,C3 (C L=none) (F.b.B.get? L=none) (∃o,h.get? L=Ie o/\o.cls=.type "frame")):Rl F.b f C J h'/\∀{fr},Ext fr f C h f C h':=by
 have ex:∀{fr},Ext fr f C h f C h':=by
  intro fr;refine⟨λzz zz e=>e,λzz zz e=>e,λzz zz e=>.inl e,λc o e=>let⟨sl,z⟩:=x.2.2 c o e;⟨_,z⟩,λc o e q zz zz=>?_,λc e q=>x.2.1 c λk=>?_⟩
  .by_cases k:c∈S;.obtain⟨_,_,o',e',hc⟩:=hS c k;replace e':=yZ e e';cases e';obtain⟨sl,z⟩:=x.2.2 c o e;exact .inr ⟨hc,sl,z⟩
   .exact .inl ((x.2.1 c k).trans e)
  .obtain⟨_,_,o',e',hc⟩:=hS c k;exact um e' (by rw[hc];decide) e
 refine⟨r.rH (ex (fr:=[])).v (λc o e=>(x.2.1 c λk=>?_).trans (r.base c o e)) λn c o e w=>(x.2.1 c λk=>?_).trans e,ex⟩;.rw[(hS c k).2]at e;cases e
 .rw[(hS c k).1]at w;cases w
theorem VS{T:I4}{oT:Obj}(g:Obj->Obj){o':Obj}(al:(h.update T g).get? T=Ie o')(r:Rl F.b f C J h)(hT:h.get? T=Ie oT)(hc:oT.cls=.type "traceback")(hB:F.b.B.get? T=none)(ho:C T=none):Rl F.b f C J (h.update T g)/\∀{fr},Ext fr f C h f C (h.update T g):=by
 have hs:=Hx h T g;have ex:∀{fr},Ext fr f C h f C (h.update T g):=by
  intro fr;refine⟨λzz zz e=>e,λzz zz e=>e,λzz zz e=>.inl e,λc o e=>?_,λc o e q zz ht=>.inl ((hs.2 c λz=>ht ?_).trans e),λc e q=>hs.2 c λz=>?_⟩
  .by_cases q:c=T;.exact⟨o',q▸al⟩
   .exact⟨o,(hs.2 c q).trans e⟩
  .rw[z,hT]at e;cases e;exact hc
  .rw[z]at e;exact um hT (by rw[hc];decide) e
 refine⟨r.rH (ex (fr:=[])).v (λc o e=>(hs.2 c λz=>?_).trans (r.base c o e)) λn c o e w=>(hs.2 c λz=>?_).trans e,ex⟩;.rw[z,hB]at e;cases e
 .rw[z,ho]at w;cases w
theorem KY(r:Rl F.b f C J h)(fn:f n=Ie e)(w7:J[n]?=Ie (.exc c Ib fs))(i:Nat)(v:IX):Rl F.b f C J (h.update e (HR (·.setIfInBounds i v)))∧∀{fr},Ext fr f C h f C (h.update e (HR (·.setIfInBounds i v))):=by
 obtain⟨a,fa,w,wJ,vs,g,sz,hq⟩:=r.objs n _ w7;replace fa:=yZ fn fa;cases fa;obtain hs:=Hx h e (HR (·.setIfInBounds i v));obtain g':(h.update e (HR (·.setIfInBounds i v))).get? e=Ie ⟨.ref c,wJ,.fields (vs.setIfInBounds i v),#[]⟩:=Ho _ g rfl;have ex:∀{fr},Ext fr f C h f C (h.update e (HR (·.setIfInBounds i v))):=Ext.write hs w ⟨_,g'⟩;refine⟨?_,ex⟩;obtain eL:qJ f C (h.update e (HR (·.setIfInBounds i v))) n e fs wJ:=by cases wJ with|none=>exact hq|some dx=>obtain⟨w',ne,m,⟨o,es,ep,z,z1,z2,z3,z4⟩,hf⟩:=hq;exact⟨w',ne,m,⟨o,es,ep,(hs.2 dx ne).trans z,z1,z2,z3,z4⟩,FR.yi (ex (fr:=[])).v hf⟩
 obtain this:=r.write hs w ⟨_,g'⟩ fn (o:=.exc c Ib fs) ⟨w,wJ,_,g',⟨by rw[GR];exact sz.1,(fun q=>nomatch q),sz.3⟩,eL⟩;rw[set_same w7]at this;exact this
theorem KX{Q:IX->IS->Prop}(r:Rl F.b f C J s.heap)(a:xP F A C s.heap)(x:mh A env)(hQ:∀h',Rl F.b f C J h'->(∀{fr},Ext fr f C s.heap f C h')->(∀b o vs,s.heap.get? b=Ie o->o.data=.fields vs->h'.get? b=Ie o)->Q (.ref env.locals) {s with heap:=h'}):wpAny M A (frameOf env) Q E s:=by
 obtain⟨outer,ht⟩:=x.top;obtain⟨l,a1,a2,a3⟩:=a.frames;replace a1:=yZ ht a1;cases a1;refine wpAny_frameOf_fun ht a2 x.frame λh' hs=>?_;obtain⟨r',x'⟩:=KW r hs λL hL=>by obtain⟨en,he,hq⟩:=List.mem_filterMap.mp hL;obtain⟨w,o,ho,hc⟩:=a3 en he L hq;exact⟨w,(a2.mem hL).1,o,ho,hc⟩
 refine hQ h' r' x' λc o vs ho hd=>(hs.2.1 c λhm=>?_).trans ho;obtain⟨_,o',vd,OV⟩:=a2.mem hm;replace vd:=yZ ho vd;cases vd;exact OV vs hd
theorem Wa{oe:Obj}{vs:Array IX}{head:IX}{PL:Bool}{Q:Unit->IS->Prop}(z6:F.s=Ig)(r:Rl F.b f C J s.heap)(a:xP F A C s.heap)(x:mh A env)(fn:f n=Ie e)(w7:J[n]?=Ie (.exc c Ib fs))(he:s.heap.get? e=Ie oe)(hd:oe.data=.fields vs)(uu:6<=vs.size)(hQ:∀s',Done F [] f C s J f C s'->rp F.b C s'.heap e->Q () s'):wpAny M A (do let a<-frameOf env;let pl<-entryPlaceOf env.locals PL;let b<-EX head a .none (rawInt env.locals) .none pl;setField (.ref e) 1 b) Q E s:=by
 refine Ic (KX r a x λwG qU p0 nZ=>?_);obtain Y4:=nZ _ _ _ he hd;refine Ic (wpAny_entryPlaceOf λpl sS=>?_);unfold EX newFields;refine Ic (H' ?_ (sS.sizeOk5 _ _ _ _ _));generalize hT:(⟨.type "traceback",none,.fields ([head,.ref env.locals,.none,rawInt env.locals,.none]++(if pl.isEmpty then Ds 6 HF else pl)).toArray,#[]⟩:Obj)=oT;obtain⟨ts,Xp,y,hy⟩:∃ts,oT.data=.fields ts/\∃y,ts[3]?=Ie y:=by rw[<-hT];exact⟨_,rfl,rawInt env.locals,by simp⟩
 obtain PN:oT.cls=.type "traceback":=by rw[<-hT]
 obtain iE:=qU.grow (wz _ oT);obtain pj:=wz _ oT _ _ Y4;refine Fe pj hd (by lia) ?_;obtain⟨Kw,JX⟩:=KY iE fn w7 1 (Gg wG.objs.size);obtain yJ:=HP Y4;obtain⟨nw,nB⟩:=tY qU (IV wG.objs.size);refine hQ _ ⟨(p0.trans (Ext.grow (wz _ oT))).trans JX,Kw,rfl,rfl,λq=>by replace q:=z6.symm.trans q;cases q⟩ ⟨_,_,Ho _ pj (Gf (Gj hd _)),Gj hd _,by rw[GR];exact uu,wG.objs.size,oT,ts,y,by simp[show 1<vs.size by lia],Fj yJ,?_,PN,Xp,hy,nB,nw⟩;exact(Gi _ _ (Ha yJ)).trans (IC _ (Gf Xp))
theorem dG{Q:Unit→IS→Prop}(z6:F.s=Ig)(r:Rl F.b f C J s.heap)(a:xP F A C s.heap)(x:mh A env)(fn:f n=Ie e)(w7:J[n]?=Ie (.exc c Ib fs))(hi:ot F.b C s.heap e)(hQ:∀s',Done F [] f C s J f C s'→rp F.b C s'.heap e→Q () s'):wpAny M A (noteFrame (.ref e) env) Q E s:=by
 obtain⟨oe,vs,he,hd,uu,h1|ht⟩:=hi;·unfold noteFrame;simp only[x.frame];refine Ic (GG he hd h1 ?_);rw[if_neg (by decide)];exact Wa z6 r a x fn w7 he hd uu hQ
 ·obtain⟨T,oT,ts,y,t0,t1,t2,t3,t4,t5,t6,t7⟩:=id ht;unfold noteFrame;simp only[x.frame];refine Ic (GG he hd t0 ?_);rw[if_pos (show(Gg T !=HF)=Ib from by simp)];refine Ic (GG t2 t4 t5 ?_);split;·exact IW (hQ _ (Done.refl r) ⟨oe,vs,he,hd,uu,ht⟩)
  ·refine Ic (Fe t2 t4 (Fd.mp t5).1 ?_);obtain⟨qU,p0⟩:=VS (HR (·.setIfInBounds 3 HF)) (Ho _ t2 (Gf (Gj t4 _))) r t2 t3 t6 t7;exact Wa (s:={s with heap:=_}) z6 qU (a.ext p0) x fn w7 ((Gi _ _ t1).trans he) hd uu fun s' d t=>hQ s' ⟨p0.trans d.ext,d.rel,d.gens,d.os,fun q=>by replace q:=z6.symm.trans q;cases q⟩ t
theorem jR{fl:Option I4}{Q:Unit→IS→Prop}(r:Rl F.b f C J s.heap)(hi:rp F.b C s.heap e)(hQ:∀s',Done F [] f C s J f C s'→rp F.b C s'.heap e→Q () s'):wpAny M A (setFlight (.ref e) fl) Q E s:=by obtain⟨oe,vs,he,hd,uu,T,oT,ts,y,t0,t1,t2,t3,t4,t5,t6,t7⟩:=hi;unfold setFlight;refine Ic (GG he hd t0 ?_);rw[if_pos (show(Gg T !=HF)=Ib from by simp)];have h3:=(Fd.mp t5).1;refine Fe t2 t4 h3 ?_;obtain g:(s.heap.update T (HR (·.setIfInBounds 3 (fl.elim HF fun f=>rawInt f)))).get? T=Ie _:=Ho _ t2 (Gf (Gj t4 _));obtain⟨qU,p0⟩:=VS (HR (·.setIfInBounds 3 (fl.elim HF fun f=>rawInt f))) g r t2 t3 t6 t7;exact hQ _ ⟨p0,qU,rfl,rfl,fun zz c n o w e=>(Gi _ _ (fun z=>by rw[←z,t7]at w;cases w)).trans e⟩ ⟨oe,vs,(Gi _ _ t1).trans he,hd,uu,T,_,_,fl.elim HF fun f=>rawInt f,t0,t1,g,(Obj.cls_mapFields ..).trans t3,Gj t4 _,by simp[h3],t6,t7⟩
theorem NC{Q:Unit->IS->Prop}(z6:F.s=Ig)(r:Rl F.b f C J s.heap)(a:xP F A C s.heap)(x:mh A env)(fn:f n=Ie e)(w7:J[n]?=Ie (.exc c Ib fs))(hi:ot F.b C s.heap e)(hQ:∀s',Done F [] f C s J f C s'->rp F.b C s'.heap e->Q () s'):wpAny M A (leaving env (.ref e)) Q E s:=by unfold leaving;exact Ic (dG z6 r a x fn w7 hi λzd zD Jy=>jR zD.rel Jy λyl ze kM=>hQ yl (zD.trans ze) kM)
theorem S7{Q:IX->IS->Prop}{env:Env}(r:Rl F.b f C J s.heap)(hi:rp F.b C s.heap e)(hQ:∀s',Done F [] f C s J f C s'->rp F.b C s'.heap e->Q (.ref e) s'):cameBackBy M A env Q (.ref e) s:=by unfold cameBackBy;obtain⟨oe,vs,he,hd,uu,T,oT,ts,y,t0,t⟩:=id hi;refine Ic (GG he hd t0 ?_);rw[if_neg (show¬((Gg T==HF)=Ib)from by simp)];exact jR r hi hQ
end
open PySem PySem.W PySem.Calls PyProof.Rows
theorem WA(name:Str)(hh:Int)(key v:IX)(o:Obj):(Obj.putName name hh key v o).cls=o.cls:=by obtain⟨c,d,dt,sl⟩:=o;rw[GA];cases dt with|dict es n=>show(match es.findIdx? (λe=>(Dk e).isStr name)with|Ie i=>(⟨c,d,.dict (es.modify i λe=>{e with val:=v}) n,sl⟩:Obj)|none=>⟨c,d,.dict (es.push ⟨hh,key,v⟩) (n+1),sl⟩).cls=c;cases es.findIdx? (λe=>(Dk e).isStr name)<;>rfl|_=>rfl
section
variable{M:Model}{A:Hv}{E:IX->IS->Prop}{s:IS}
theorem Uq{a:I4}{o:Obj}{es:Array Hn}{ep:Nat}{name:Str}{v:IX}{Q:Unit→IS→Prop}(ho:s.heap.get? a=Ie o)(hd:o.data=.dict es ep)(hk:StrKeys es)(hQ:∀h' o' uJ yS,h'.get? a=Ie o'→o'.cls=o.cls→o'.data=.dict uJ yS→StrKeys uJ→(∀x,nsFind uJ x=if x=name then Ie v else nsFind es x)→uJ.size≤(if(nsFind es name).isSome then es.size else es.size+1)→HU a s.heap h'→Q () {s with heap:=h',toks:=s.toks+1}):wpAny M A (nsSet a name v) Q E s:=fun JS p zz=>by
 simp only[nsSet,strHash,Sem.wp_bind',Sem.wp_cmd_ask,Sem.wp_pure',Sem.wp_cmd_mkText];rw[Sem.wp_loadPart_of M JS _ p {s with toks:=s.toks+1} (o:=o) _ ho];obtain PK:es.any (·.refKey)=Ig:=by rw[Array.any_eq_false'];intro e he;obtain⟨n,t,h⟩:=hk e he;simp[E5,h]
 simp only[hd,aRefKeyMayBeTheName_eq,aRefKeyMayBeTheNameByArray,PK,Fc,I0,if_false,Sem.wp_cmd_updatePart];refine⟨by rw[ho];rfl,?_⟩;obtain⟨cl,d,dt,sl⟩:=o;subst hd;obtain hs:nsFind es name=_:=findBy_of_findIdx? (fun n v=>v.isStr n) es name;cases hi:es.findIdx? (·.key.isStr name)with
 |some i=>
  rw[hi]at hs;refine hQ _ _ _ ep (Ho _ ho (by simp only[GA,GJ,hi];rfl)) (WA ..) (by simp only[GA,GJ,hi]) (hk.modify _ _) (fun x=>findBy_modify (fun n v=>v.isStr n) Value.isStr_inj es name x v i hi) ?_ (Hx ..);rewrite[if_pos];rw[Array.size_modify];·exact IV _
  ·rw[hs];dsimp only;rw[FQ (Array.findIdx?_eq_some_iff_getElem.mp hi).1];rfl
 |none=>
  rw[hi]at hs;refine hQ _ _ _ (ep+1) (Ho _ ho (by simp only[GA,GJ,hi];rfl)) (WA ..) (by simp only[GA,GJ,hi];rfl) (hk.push _ _ _ _) (fun x=>findBy_push (fun n v=>v.isStr n) es name x _ _ v (fun y=>?_) hi) ?_ (Hx ..);·show(name==y)=decide (y=name);rewrite[Dx];rewrite[beq_iff_eq];rw[decide_eq_true_eq];exact eq_comm
  ·rewrite[if_neg (show¬(nsFind es name).isSome=Ib from by rw[hs];exact Hi)];rw[Array.size_push];exact IV _
end
theorem sM(y z:Nat)(w:V)(r:Loc):lk y ((z,w)::r)=if y=z then Ie w else lk y r:=by
 show(match IP y z with|Ib=>Ie w|Ig=>lk y r)=_;by_cases q:y=z;.subst q;rewrite[G9];rw[if_pos rfl]
 .rewrite[if_neg q];rw[(Bool.eq_false_iff.mpr λe=>q (IJ e))]
theorem vD(x:Nat)(v:V):∀(L:Loc)(y:Nat),lk y (st x v L)=if y=x then Ie v else lk y L
|[],y=>sM y x v []
|(z,w)::r,y=>by
 unfold st;cases hz:IP x z with
 |true=>
  have e:=IJ hz;subst e;show lk y ((x,v)::r)=_;rewrite[sM];rw[sM];by_cases q:y=x;.rewrite[if_pos q];rw[if_pos q]
  .rewrite[if_neg q];rewrite[if_neg q];rw[if_neg q]
 |false=>
  show lk y ((z,w)::st x v r)=_;rewrite[sM];rewrite[sM];rw[vD x v r y];by_cases q:y=x;.subst q;rewrite[if_neg (λe=>by rw[e,G9]at hz;cases hz)];rewrite[if_pos rfl];rw[if_pos rfl]
  .rewrite[if_neg q];rw[if_neg q]
noncomputable def xB(env:Env):List I4:=env.locals::env.cells.map (·.2)
theorem dR{env:Env}{n:Str}{c:I4}(h:(n,c)∈env.cells):c∈xB env:=I6 _ (List.mem_map_of_mem (f:=(·.2)) h)
theorem jP{env:Env}{c:I4}(h:c∈xB env):c=env.locals\/∃n,(n,c)∈env.cells:=(IU.mp h).imp_right λz=>by obtain⟨⟨n,_⟩,hm,rfl⟩:=HT.mp z;exact⟨n,hm⟩
structure tQ(b:Bc)(env:Env):Prop where
 dZ:b.B.get? env.locals=none
 Rv:env.func.isSome=true->∀n c,env.cells.lookup n=some c->b.B.get? c=none
 apart:env.func.isSome=true->env.cells.Pairwise λx y=>x.2≠y.2
noncomputable def rq(env:Env)(fr:List I4)(x:Nat):Prop:=(env.func.isSome=Ib/\fr=xB env)\/(vR env.scope (nm x)=Ie .local/\fr=[env.locals])
section
variable{F:Fr}{fr:List I4}{f:FM}{C:OW}{h h':Hu}{s s':IS}{J:St}{A:Hv}{env:Env}{L:Loc}{M:Model}{E:IX->IS->Prop}
theorem rq.loc{x:Nat}(h:rq env fr x):env.locals∈fr:=by rcases h with⟨_,q⟩|⟨_,q⟩<;>rw[q]<;>exact IQ
theorem cI{a:I4}{o:Obj}{tk:Nat}(r:Rl F.b f C J s.heap)(hs:HU a s.heap h')(ho:s.heap.get? a=Ie o)(hc:(o.cls==.type "tuple")=Ig)(hB:F.b.B.get? a=none)(w:C a=none)(hm:a∈fr)(al:∃o,h'.get? a=Ie o):Done F fr f C s J f C {s with heap:=h',toks:=tk}:=by
 have nw:∀{c n},C c=Ie n->c≠a:=λz q=>by rw[q,w]at z;cases z
 obtain ex:Ext fr f C s.heap f C h':=by
  refine⟨λzz zz e=>e,λzz zz e=>e,λzz zz e=>.inl e,λc p e=>?_,λc p e zz hf zz=>.inl ((hs.2 c λz=>hf (z▸hm)).trans e),λc e zz=>hs.2 c λz=>um ho hc (z▸e)⟩;by_cases q:c=a;.rw[q];exact al
  .exact⟨p,(hs.2 c q).trans e⟩
 exact⟨ex,r.rH ex.v (λc p e=>(hs.2 c λz=>by rw[z,hB]at e;cases e).trans (r.base c p e)) λn c p e z=>(hs.2 c (nw z)).trans e,rfl,rfl,λzz c n o z e=>(hs.2 c (nw z)).trans e⟩
theorem jT{T:String}(h1:T≠"frame")(h2:T≠"dict")(env:Env):(HG (sY env)==.type T)=Ig:=beq_false_of_ne λq=>by
 obtain this:=Value.type.inj q;unfold sY at this;split at this;.exact h1 this.symm
 .exact h2 this.symm
theorem yf.gG(e:yf f C h env L):∀n c,(n,c)∈env.cells->c≠env.locals:=λn c hn q=>by obtain⟨m,⟨o,es,ep,a1,a2,_⟩,_⟩:=e.loc;obtain⟨_,u,g⟩:=e.cells n c hn;rw[q,a1]at g;cases g;exact beq_eq_false_iff_ne.mp (jT (T:="cell") (by decide) (by decide) env) a2.symm
theorem Jh{c:I4}{Jm v:Option IX}{Q:Unit->IS->Prop}(ho:s.heap.get? c=Ie ⟨.type "cell",none,.cell Jm,#[]⟩)(h:∀h',h'.get? c=Ie ⟨.type "cell",none,.cell v,#[]⟩->HU c s.heap h'->Q () {s with heap:=h'}):wpAny M A (cellSet c v) Q E s:=by unfold cellSet;exact Ic (wpAny_load ho (wpAny_update ho (h _ (Ho _ ho rfl) (Hx ..))))
theorem Wc(e:yf f C h env L):(env.scope.kind==.class||(env.scope.kind==.module&&env.locals !=env.globals))=Ig:=by rw[e.kind];rfl
theorem KU{env:Env}{x:Str}{w:IX}(q:env.kindOf x=Ie .cell)(k:env.scope.kind=.function):storeName env x w=(do cellSet (<-cellOf env x) (Ie w)):=by unfold storeName;rewrite[q];rw[k];rfl
theorem cG{x:Nat}{v:V}{w:IX}{Q:Unit->IS->Prop}(r:Rl F.b f C J s.heap)(e:yf f C s.heap env L)(z:tQ F.b env)(hk:vb env.scope (nm x)=Ib)(hf:rq env fr x)(hv:VR f C s.heap v w)(hQ:∀s',Done F fr f C s J f C s'->yf f C s'.heap env (st x v L)->Q () s'):wpAny M A (storeName env (nm x) w) Q E s:=by
 rcases(Hw _ _).mp hk with q|q
 .have q:vR env.scope (nm x)=Ie .local:=eq_of_beq q;obtain⟨m,⟨o,es,ep,a1,a2,a3,a4,a5⟩,hl⟩:=e.loc;rw[storeName_local q (Wc e)];refine Uq a1 a3 a4 λh' o' uJ yS b1 b2 b3 b4 b5 zz hs=>?_;obtain d:=cI (F:=F) (fr:=fr) (tk:=s.toks+1) r hs a1 (by rw[a2];exact jT (by decide) (by decide) env) z.dZ e.own hf.loc ⟨_,b1⟩;have vx:=gw (f:=f) (C:=C) hs (um a1 (by rw[a2];exact jT (by decide) (by decide) env));refine hQ _ d ⟨e.kind,e.glob,e.blt,e.own,e.has,⟨λy=>if y=nm x then Ie w else m y,⟨o',uJ,yS,b1,b2.trans a2,b3,b4,λy=>?_⟩,λy u hu uZ=>?_⟩,λn c hn=>?_,λy u hu uZ=>?_⟩;.rewrite[b5];rw[a5]
  .rw[vD]at hu;by_cases p:y=x;.rw[if_pos p]at hu;cases hu;exact⟨w,if_pos (by rw[p]),VR.yi vx _ hv⟩
   .rw[if_neg p]at hu;obtain⟨w',c1,c2⟩:=hl y u hu uZ;exact⟨w',(if_neg (iV p)).trans c1,VR.yi vx _ c2⟩
  .obtain⟨g1,u,g2⟩:=e.cells n c hn;exact⟨g1,u,(hs.2 c (e.gG n c hn)).trans g2⟩
  .rw[vD]at hu;by_cases p:y=x;.subst p;obtain q:env.kindOf (nm y)=Ie .local:=q;rw[q]at uZ;rcases uZ with uZ|uZ<;>cases uZ
   .rw[if_neg p]at hu;obtain⟨c',w',g1,g2,g4⟩:=e.cell y u hu uZ;exact⟨c',w',g1,(hs.2 c' (e.gG _ c' (mem_of_lookup g1))).trans g2,VR.yi vx _ g4⟩
 .have q:vR env.scope (nm x)=Ie .cell:=eq_of_beq q;obtain⟨Y3,rfl⟩:env.func.isSome=Ib/\fr=xB env:=hf.elim id λz=>by rw[q]at z;cases z.1
  obtain⟨c,hc⟩:=e.has _ q;obtain⟨d1,u,d2⟩:=e.cells _ c (mem_of_lookup hc);have q':env.kindOf (nm x)=Ie .cell:=q;rw[KU q' e.kind];refine Ic (wpAny_cellOf hc (Jh d2 λh' vd hs=>?_));obtain d:=cI (F:=F) (fr:=xB env) (tk:=s.toks) r hs d2 rfl (z.Rv Y3 _ c hc) d1 (dR (mem_of_lookup hc)) ⟨_,vd⟩;have vx:=gw (f:=f) (C:=C) hs (um d2 rfl);obtain⟨m,⟨o,es,ep,a1,a2,a3,a4,a5⟩,hl⟩:=e.loc;refine hQ _ d ⟨e.kind,e.glob,e.blt,e.own,e.has,⟨m,⟨o,es,ep,(hs.2 _ (e.gG _ c (mem_of_lookup hc)).symm).trans a1,a2,a3,a4,a5⟩,λy u hu uZ=>?_⟩,λn c' hn=>?_,λy u hu uZ=>?_⟩
  .rw[vD]at hu;by_cases p:y=x;.rw[p,q']at uZ;cases uZ
   .rw[if_neg p]at hu;obtain⟨w',c1,c2⟩:=hl y u hu uZ;exact⟨w',c1,VR.yi vx _ c2⟩
  .by_cases p:c'=c;.subst p;exact⟨d1,_,vd⟩
   .obtain⟨g1,u,g2⟩:=e.cells n c' hn;exact⟨g1,u,(hs.2 c' p).trans g2⟩
  .rw[vD]at hu;by_cases p:y=x;.rw[if_pos p]at hu;cases hu;subst p;exact⟨c,w,hc,vd,VR.yi vx _ hv⟩
   .rw[if_neg p]at hu;obtain⟨c',w',g1,g2,g4⟩:=e.cell y u hu uZ;exact⟨c',w',g1,(hs.2 c' λk=>iV p (name_of_addr (z.apart Y3) (mem_of_lookup g1) (k▸mem_of_lookup hc))).trans g2,VR.yi vx _ g4⟩
theorem oY{x:Nat}{v:V}{w:IX}{Q:Unit->IS->Prop}(r:Rl F.b f C J s.heap)(e:yf f C s.heap env L)(z:tQ F.b env)(hk:vb env.scope (nm x)=Ib)(hf:rq env fr x)(hv:VR f C s.heap v w)(hQ:∀s',Done F fr f C s J f C s'->yf f C s'.heap env (st x v L)->Q () s'):wpAny M A (bindName env (nm x) w) Q E s:=wpAny_bindName (cG r e z hk hf hv hQ)
theorem Jx{x:Nat}{pos:Pos}{Q:Unit->IS->Prop}(r:Rl F.b f C J s.heap)(e:yf f C s.heap env L)(z:tQ F.b env)(hk:vR env.scope (nm x)=Ie .local)(hQ:∀s',Done F [env.locals] f C s J f C s'->Q () s'):wpAny M A (do bindName env (nm x) .none;unbindBehindTheSuite env (nm x) pos) Q E s:=by refine Ic (oY (fr:=[env.locals]) (v:=.none) r e z (by unfold vb pY;rw[hk];rfl) (.inr ⟨hk,rfl⟩) rfl λzd zD xC=>?_);unfold unbindBehindTheSuite;obtain⟨m,n,hl⟩:=xC.loc;obtain⟨o,es,ep,a1,a2,_⟩:=id n;obtain⟨w,hw,_⟩:=hl x .none (by rewrite[vD];rw[if_pos rfl]) hk;refine wpAny_onRaise (wpAny_unbindName_local hk n.ns hw (Wc xC) λh' u pf hs=>?_);obtain⟨o',_,_,g,_⟩:=pf;exact hQ _ (zD.trans (cI (tk:=zd.toks) zD.rel hs a1 (by rw[a2];exact jT (by decide) (by decide) env) z.dZ xC.own IQ ⟨o',g⟩))
end
open PySem PySem.W PySem.Calls PyProof.Rows
noncomputable def rn(F:Fr)(env:Env)(f:FM)(C:OW)(s:IS):SR->Flow->IS->Prop|.ok .next L zy,c,s'=>c=.next/\X2 λf' zm=>Done F (xB env) f C s zy f' zm s'/\yf f' zm s'.heap env L|.ok (.ret v) zo zy,c,s'=>X3 λw f' zm=>C3 (c=.ret w) (Done F (xB env) f C s zy f' zm s') (VR f' zm s'.heap v w)|.exc zo zY zF,yX,xe=>False
noncomputable def tR(F:Fr)(env:Env)(f:FM)(C:OW)(s:IS):SR->IX->IS->Prop|.ok zo zY zF,yX,xe=>False|.exc e L zy,x,s'=>X4 λn a c fs=>C4 (e=.ref n) (x=.ref a) (zy[n]?=Ie (.exc c Ib fs)) (X2 λf' zm=>C4 (Done F (xB env) f C s zy f' zm s') (yf f' zm s'.heap env L) (f' n=Ie a) (ot F.b zm s'.heap a))
noncomputable def WS(F:Fr)(env:Env)(A:Hv)(t:Sem Flow)(f:FM)(C:OW)(s:IS)(out:SR):Prop:=wpAny (model F.b.prog F.b.w) A t (rn F env f C s out) (tR F env f C s out) s
structure FnE(F:Fr)(A:Hv)(env:Env):Prop where
 fr:mh A env
 st:tQ F.b env
 func:env.func.isSome=true
 rH:F.s=false
structure Sx(F:Fr)(L:Loc)(J:St)(env:Env)(A:Hv)(f:FM)(C:OW)(s:IS):Prop extends Cx F L J env A f C s,FnE F A env
section
variable(F:Fr)(L:Loc)
structure X1(m:S)(J:St)(out:SR):Prop where
 go:∀{zw:Pi}{env:Env}{A:Around}{f:FM}{C:OW}{s:Shared},tX F.b.X m zw env.scope=true->Sx F L J env A f C s->WS F env A (exec (toS m zw) env) f C s out
structure XB(m:S)(J:St)(out:SR):Prop where
 go:∀{zw:Pi}{env:Env}{A:Around}{f:FM}{C:OW}{s:Shared},tX F.b.X m zw env.scope=true->Sx F L J env A f C s->WS F env A (execs (uA m zw) env) f C s out
end
section
variable{F:Fr}{L zN L':Loc}{J zt zb yK r8 zy:St}{f f' z8:FM}{C zm zA:OW}{h h':Hu}{s s' zd:IS}{A:Hv}{env:Env}{zw:Pi}{out:SR}
theorem rn.from{c:Flow}(d:Done F (xB env) f C s zt z8 zA zd)(p:rn F env z8 zA zd out c s'):rn F env f C s out c s':=by
 cases out with
 |ok fl L J=>cases fl with|next=>exact p.imp_right λ⟨f,C,p,q⟩=>⟨f,C,d.trans p,q⟩|ret=>exact let⟨w,f,C,p,q,r⟩:=p;⟨w,f,C,p,d.trans q,r⟩
 |exc=>exact p
theorem tR.from{x:IX}(d:Done F (xB env) f C s zt z8 zA zd)(p:tR F env z8 zA zd out x s'):tR F env f C s out x s':=by cases out with|ok=>exact p|exc=>exact let⟨n,a,c,fs,e1,e2,e3,f,C,p,q,q',Lw⟩:=p;⟨n,a,c,fs,e1,e2,e3,f,C,d.trans p,q,q',Lw⟩
theorem WS.from{t:Sem Flow}(d:Done F (xB env) f C s zt z8 zA zd)(p:WS F env A t z8 zA zd out):wpAny (model F.b.prog F.b.w) A t (rn F env f C s out) (tR F env f C s out) zd:=II p (λzz zz=>rn.from d) λzz zz=>tR.from d
theorem xP.Yg(x:Ext (xB env) f C h f' zm h')(e:yf f C h env L)(e':yf f' zm h' env zN)(hf:env.func.isSome=Ib)(a:xP F A C h):xP F A zm h':=a.to λK o w g c=>by
 refine⟨x.own g w,?_⟩;by_cases q:K∈xB env
 .rcases jP q with rfl|⟨n,hm⟩;.obtain⟨_,⟨o',_,_,b1,b2,b3,_⟩,_⟩:=e'.loc;exact⟨o',b1,by rw[b2];unfold sY;rw[if_pos hf],λzz vs z=>by replace z:=b3.symm.trans z;cases z⟩
  .obtain⟨_,u,g'⟩:=e.cells n K hm;replace g':=yZ g g';cases g';exact absurd (show HG "cell"=.type "frame"from c) (by decide)
 .rcases x.keep K o g w q (by rw[c];decide)with z|⟨q,sl,z⟩;.exact⟨o,z,c,id⟩
  .exact⟨_,z,q,id⟩
theorem Sx.next(c:Sx F L J env A f C s)(d:Done F [] f C s zy f' zm s'):Sx F L zy env A f' zm s':=⟨c.toCx.next d,c.toFnE⟩
theorem Sx.nP(c:Sx F L J env A f C s)(d:Done F (xB env) f C s zy f' zm s')(e:yf f' zm s'.heap env zN):Sx F zN zy env A f' zm s':=⟨⟨d.rel,e,c.ak.Yg d.ext c.en e c.func⟩,c.toFnE⟩
theorem WS.done{t:Sem Flow}(d:Done F [] f C s zt z8 zA zd)(p:WS F env A t z8 zA zd out):wpAny (model F.b.prog F.b.w) A t (rn F env f C s out) (tR F env f C s out) zd:=p.from d.wide
theorem E.sk{m:M}{v:V}{Q:IX->IS->Prop}(h:E F L m J (.ok v zt))(ok:yu F.b.X m zw env.scope=Ib)(c:Sx F L J env A f C s){Z:IX->IS->Prop}(k:∀w f' zm s',Done F [] f C s zt f' zm s'->VR f' zm s'.heap v w->Sx F L zt env A f' zm s'->Q w s'):wpAny (model F.b.prog F.b.w) A (eval (zW m zw) env) Q Z s:=h.k ok c.toCx λw f' zm s' d hv=>k w f' zm s' d hv (c.next d)
theorem Lx(c:Sx F L J env A f C s):rn F env f C s (.ok .next L J) .next s:=⟨rfl,f,C,Done.refl c.rel,c.en⟩
theorem ka(d:Done F [] f C s zy f' zm s')(e:yf f C s.heap env L):rn F env f C s (.ok .next L zy) .next s':=⟨rfl,f',zm,d.wide,e.ext d.ext⟩
theorem E.x{m:M}{e:V}{Q:IX->IS->Prop}(h:E F L m J (.exc e zt))(ok:yu F.b.X m zw env.scope=Ib)(c:Sx F L J env A f C s):wpAny (model F.b.prog F.b.w) A (eval (zW m zw) env) Q (tR F env f C s (.exc e L zt)) s:=II (h.w ok c.toCx) (λzz zz x=>x.elim) λx s' p=>by obtain⟨n,a,c',fs,e1,e2,e3,f',zm,d,fn,fl⟩:=p;exact⟨n,a,c',fs,e1,e2,e3,f',zm,d.wide,c.en.ext d.ext,fn,fl⟩
theorem Wb(ee:yf f C h env L):interactive env=Ig:=by unfold interactive;rw[ee.kind];rfl
theorem pO{m:M}(h:q_ m=Ib){t:Option Expr}{l:Nat}:swapsWith (zW m zw) t l env=pure Ig:=by cases m<;>first|rfl|cases h
theorem zj:XB F L .nil J (.ok .next L J):=⟨λzz c=>IW (Lx c)⟩
theorem zr{s r:S}(h:X1 F L s J (.ok .next zN zt))(h':XB F zN r zt out):XB F L (.cons s r) J out:=by refine⟨λ{zw env A f C s}ok c=>?_⟩;obtain⟨o1,o2⟩:=zh ok;show WS F env A (execs (toS _ (sh zw 0)::uA _ (sh zw 1)) env) _ _ _ _;rewrite[WS];rw[arm_execs_cons];refine Ic (II (h.go o1 c) (λfl zd p=>?_) λzz zz x=>x.elim);obtain⟨rfl,z8,zA,d,e⟩:=p;exact(h'.go o2 (c.nP d e)).from d
theorem zT{s r:S}{v:V}(h:X1 F L s J (.ok (.ret v) zN zt)):XB F L (.cons s r) J (.ok (.ret v) zN zt):=by refine⟨λ{zw env A f C s}ok c=>?_⟩;show WS F env A (execs (toS _ (sh zw 0)::uA _ (sh zw 1)) env) _ _ _ _;rewrite[WS];rw[arm_execs_cons];refine Ic (II (h.go (zh ok).1 c) (λfl zd p=>?_) λzz zz x=>x.elim);obtain⟨w,z8,zA,rfl,r,r'⟩:=p;exact IW ⟨w,z8,zA,rfl,r,r'⟩
theorem vj{s r:S}{e:V}(h:X1 F L s J (.exc e zN zt)):XB F L (.cons s r) J (.exc e zN zt):=by refine⟨λ{zw env A f C s}ok c=>?_⟩;show WS F env A (execs (toS _ (sh zw 0)::uA _ (sh zw 1)) env) _ _ _ _;rewrite[WS];rw[arm_execs_cons];exact Ic (II (h.go (zh ok).1 c) (λzz zz x=>x.elim) λzz zz p=>p)
theorem yF{e:M}{v:V}(h:E F L e J (.ok v zt)):X1 F L (.expr e) J (.ok .next L zt):=by refine⟨λ{zw env A f C s}ok c=>?_⟩;obtain⟨o1,o2⟩:=zh ok;exact wpAny_Expr_any (h.sk o2 c λw f' zm s' d zz zz=>ka d c.en) (Wb c.en) (pO o1)
theorem rA{e:M}{v:V}(h:E F L e J (.exc v zt)):X1 F L (.expr e) J (.exc v L zt):=by refine⟨λ{zw env A f C s}ok c=>?_⟩;obtain⟨o1,o2⟩:=zh ok;exact wpAny_Expr_any (h.x o2 c) (Wb c.en) (pO o1)
theorem zK{e:M}{v:V}(h:E F L e J (.ok v zt)):X1 F L (.ret e) J (.ok (.ret v) L zt):=by refine⟨λ{zw env A f C s}ok c=>?_⟩;exact wpAny_Return_some (h.sk ok c λw f' zm s' d hv zz=>⟨w,f',zm,rfl,d.wide,hv⟩)
theorem yq{x:Nat}{e:M}{v:V}(h:E F L e J (.ok v zt))(hc:q_ e=Ib:=by rfl):X1 F L (.asg x e) J (.ok .next (st x v L) zt):=by refine⟨λ{zw env A f C s}ok c=>?_⟩;obtain⟨o1,o2⟩:=zh ok;obtain⟨o2,o3⟩:=zh o2;show WS F env A (exec (.Assign [.Name _ _] _ _) env) _ _ _ _;rewrite[WS];rw[exec_Assign_Name (hs:=pO hc)];refine Ic (I7 (Ic (h.sk o3 c λw f' zm s' d hv c'=>Ic (I7 (Ic (oY d.rel c'.en c.st o1 (.inl ⟨c.func,rfl⟩) hv λyl ze wX=>?_))))));exact IW ⟨rfl,f',zm,d.wide.trans ze,wX⟩
theorem Uj{x:Nat}{e:M}{v:V}(h:E F L e J (.exc v zt))(hc:q_ e=Ib:=by rfl):X1 F L (.asg x e) J (.exc v L zt):=by refine⟨λ{zw env A f C s}ok c=>?_⟩;show WS F env A (exec (.Assign [.Name _ _] _ _) env) _ _ _ _;rewrite[WS];rw[exec_Assign_Name (hs:=pO hc)];exact Ic (I7 (Ic (h.x (zh (zh ok).2).2 c)))
theorem p7{c:M}{a b:S}{t:Bool}(h:E F L c J (.ok (.bool t) zt))(h':XB F L (if t then a else b) zt out):X1 F L (.cond c a b) J out:=by refine⟨λ{zw env A f C s}ok cx=>?_⟩;obtain⟨o1,o2⟩:=zh ok;obtain⟨o2,o3⟩:=zh o2;refine wpAny_If (II (h.t o1 cx.toCx) (λt' zd p=>?_) λzz zz x=>x.elim);obtain⟨z8,zA,d,rfl⟩:=p;cases t with|true=>exact(h'.go o2 (cx.next d)).done d|false=>exact(h'.go o3 (cx.next d)).done d
theorem ya{c:M}{a b:S}(h:E F L c J (.ok (.bool Ib) zt))(h':XB F L a zt out):X1 F L (.cond c a b) J out:=p7 h h'
theorem zO{c:M}{a b:S}(h:E F L c J (.ok (.bool Ig) zt))(h':XB F L b zt out):X1 F L (.cond c a b) J out:=p7 h h'
noncomputable def kD(F:Fr)(o:V)(x:Nat)(v:V)(J zy:St):Prop:=∀{A:Hv}{f:FM}{C:OW}{s:IS}{ov vv:IX},F.b.X.contains x=Ib->Facts F.b->Rl F.b f C J s.heap->VR f C s.heap o ov->VR f C s.heap v vv->W F A (setAttr ov (nm x) vv) (λzz zz zz(zz:Unit)(zz:Unit)=>True) f C s (.ok () zy)
noncomputable def mY(F:Fr)(o i v:V)(J zy:St):Prop:=∀{A:Hv}{f:FM}{C:OW}{s:IS}{ov iv vv:IX},Rl F.b f C J s.heap->VR f C s.heap o ov->VR f C s.heap i iv->VR f C s.heap v vv->W F A (setItem ov iv vv) (λzz zz zz(zz:Unit)(zz:Unit)=>True) f C s (.ok () zy)
theorem Um{o e:M}{x:Nat}{ov v:V}(h:E F L e J (.ok v zt))(ho:E F L o zt (.ok ov zb))(hs:kD F ov x v zb yK):X1 F L (.z9 o x e) J (.ok .next L yK):=by refine⟨λ{zw env A f C s}ok c=>?_⟩;obtain⟨o1,o2⟩:=zh ok;obtain⟨oX,oM⟩:=zh o1;obtain⟨o2,o3⟩:=zh o2;refine plainObj_wpAny_Assign_Attribute (h.sk o3 c λw f' zm s' d hv c'=>ho.sk o2 c' λwo yc yg yl ze ho jk=>?_) (by cases e<;>first|rfl|cases oM);refine II (hs oX c.ak.ok ze.rel ho (VR.ext ze.ext _ hv)) (λzz xp p=>?_) λzz zz x=>x.elim;obtain⟨sW,sG,yL,_⟩:=p;exact ka ((d.trans ze).trans yL) c.en
theorem Jf{o i e:M}{ov iv v:V}(h:E F L e J (.ok v zt))(ho:E F L o zt (.ok ov zb))(hi:E F L i zb (.ok iv yK))(hs:mY F ov iv v yK r8):X1 F L (.y3 o i e) J (.ok .next L r8):=by refine⟨λ{zw env A f C s}ok c=>?_⟩;obtain⟨o1,o2⟩:=zh ok;obtain⟨oM,oC⟩:=zh o1;obtain⟨o2,o3⟩:=zh o2;obtain⟨o3,o4⟩:=zh o3;refine wpAny_Assign_Subscript (h.sk o4 c λw f' zm s' d hv c'=>ho.sk o2 c' λwo yc yg yl ze ho jk=>hi.sk o3 jk λwi sW sG xp yL hi qu=>?_) (pO oC);refine II (hs yL.rel (VR.ext yL.ext _ ho) hi (VR.ext yL.ext _ (VR.ext ze.ext _ hv))) (λzz s8 p=>?_) λzz zz x=>x.elim;obtain⟨Pm,MA,uc,_⟩:=p;exact ka (((d.trans ze).trans yL).trans uc) c.en
theorem Jd{o e:M}{x:Nat}{ov:V}{i j:Int}(ho:E F L o J (.ok ov zt))(hg:∀{A:Hv}{f:FM}{C:OW}{s:IS}{w:IX}{expr:Bool},F.b.X.contains x=Ib->Facts F.b->Rl F.b f C zt s.heap->VR f C s.heap ov w->W F A (getAttr w (nm x) expr) rV f C s (.ok (.int i) zt))(h:E F L e zt (.ok (.int j) zb))(hs:kD F ov x (.int (i+j)) zb yK):X1 F L (.qF o x e) J (.ok .next L yK):=by refine⟨λ{zw env A f C s}ok c=>?_⟩;obtain⟨oX,o2⟩:=zh ok;obtain⟨o2,o3⟩:=zh o2;refine wpAny_AugAssign_AttributeAny (ho.sk o2 c λwo f' zm s' d ho c'=>II (hg oX c.ak.ok d.rel ho) (λwi zd p=>?_) λzz zz x=>x.elim);obtain⟨z8,zA,zD,t,rfl⟩:=p;refine h.sk o3 (c'.next zD) λwj yc yg yl ze hj jk=>?_;obtain⟨u,rfl⟩:=hj;refine PyProof.Rows.iadd_int ?_;obtain yL:Done F [] yc yg yl zb yc yg {yl with toks:=yl.toks+1}:=Done.toks ze.rel;refine II (hs oX c.ak.ok yL.rel (VR.ext yL.ext _ (VR.ext ze.ext _ (VR.ext zD.ext _ ho))) ⟨_,rfl⟩) (λzz s8 p=>?_) λzz zz x=>x.elim;obtain⟨Pm,MA,uc,_⟩:=p;exact ka ((((d.trans zD).trans ze).trans yL).trans uc) c.en
end
open PySem PySem.W PySem.Calls PyProof.Rows
theorem hY:∀{xs:List Nat}{vs:List V}{L L':Loc},stores xs vs L=Ie L'->xs.length=vs.length|[],[],zo,zY,zF=>rfl|zo::zY,zF::yX,xe,vM,h=>congrArg (.+1) (hY (L:=_) h)|[],zo::zY,zF,yX,h|xe::vM,[],uR,u7,h=>by cases h
theorem VP:∀{xs:List Nat}{vs:List V}(L:Loc),xs.length=vs.length->∃L',stores xs vs L=Ie L'|[],[],L,zo=>⟨L,rfl⟩|x::zo,v::zY,L,h=>VP (st x v L) (HI h)
theorem hW:∀{xs:List Nat}{vs:List V}{L L':Loc},stores xs vs L=Ie L'->(∀y,y∉xs->lk y L'=lk y L)/\(xs.Nodup->∀(i x:Nat)(v:V),xs[i]?=Ie x->vs[i]?=Ie v->lk x L'=Ie v)
|[],[],L,zo,h=>by cases h;exact⟨λzz zz=>rfl,λzz zz zz zz h=>nomatch h⟩
|x::xs,v::vs,L,L',h=>by
 obtain⟨i1,i2⟩:=hW (xs:=xs) (vs:=vs) (L:=st x v L) h;refine⟨λy hy=>?_,λhn i y u hx hv=>?_⟩;.rewrite[i1 y λq=>hy (I6 _ q)];rewrite[vD];rw[if_neg λ(q:y=x)=>hy (q▸IQ)]
 .cases i with|zero=>cases hx;cases hv;rewrite[i1 x (Hk.mp hn).1];rewrite[vD];rw[if_pos rfl]|succ i=>exact i2 (Hk.mp hn).2 i y u hx hv
|[],zo::zY,zF,yX,h|xe::vM,[],uR,u7,h=>by cases h
theorem KS{xs:List Nat}{vs:List V}{L L':Loc}(hn:xs.Nodup)(hs:stores xs vs L=Ie L'):∃tT,stores xs.reverse vs.reverse L=Ie tT/\∀y,lk y L'=lk y tT:=by
 have hl:=hY hs;obtain⟨tT,h⟩:=VP (xs:=xs.reverse) (vs:=vs.reverse) L (by rewrite[HN];rewrite[HN];rw[hl]);obtain⟨a1,a2⟩:=hW hs;obtain⟨b1,b2⟩:=hW h;refine⟨tT,h,λy=>?_⟩;by_cases q:y∈xs
 .obtain⟨i,hi,rfl⟩:=List.mem_iff_getElem.mp q;obtain hv:vs[i]?=Ie (vs[i]'(hl▸hi)):=Hc _;obtain hx:xs[i]?=Ie xs[i]:=Hc _;rw[a2 hn i _ _ hx hv];refine(b2 (List.pairwise_reverse.mpr (hn.imp H0)) (xs.length-1-i) _ _ ?_ ?_).symm;.rw[Ep (by lia),show xs.length-1-(xs.length-1-i)=i by lia];exact hx
  .rw[Ep (by lia),show vs.length-1-(xs.length-1-i)=i by lia];exact hv
 .rewrite[a1 y q];rw[b1 y λz=>q (H_.mp z)]
noncomputable def AllB(M:Model)(env:Env):List Nat->List (IX->Sem Unit)->Prop|[],[]=>True|x::xs,t::ts=>(∀{A:Hv}{w:IX}{Q:Unit->IS->Prop}{E:IX->IS->Prop}{s:IS},wpAny M A (bindName env (nm x) w) Q E s->wpAny M A (t w) Q E s)/\AllB M env xs ts|zo,zY=>False
section
variable{F:Fr}{L zN L':Loc}{J zt zb yK r8 mj ow qL zy:St}{f f' z8:FM}{C zm zA:OW}{h h':Hu}{s s' zd:IS}{A:Hv}{env:Env}{zw:Pi}{out:SR}{fr:List I4}{M:Model}{Z:IX->IS->Prop}
theorem gf(z:tQ F.b env):∀{xs:List Nat}{ts:List (IX->Sem Unit)}{vs:List V}{ws:List IX}{L L':Loc}{s:IS}{Q:Unit->IS->Prop},AllB M env xs ts->(∀x∈xs,vb env.scope (nm x)=Ib/\rq env fr x)->stores xs vs L=Ie L'->zS f C s.heap vs ws->Rl F.b f C J s.heap->yf f C s.heap env L->(∀s',Done F fr f C s J f C s'->yf f C s'.heap env L'->Q () s')->wpAny M A (assignInOrder ts ws) Q Z s|[],[],[],zo,L,zY,s,Q,zF,yX,hs,hv,r,e,hQ=>by cases hv;cases hs;exact IW (hQ s (Done.refl r) e)|x::xs,t::ts,v::vs,zo,L,L',s,Q,⟨hb,hr⟩,ho,hs,⟨w,ws,hw,h1,h2⟩,r,e,hQ=>by subst hw;show wpAny M A (holding ws (t w)>>=λzz=>assignInOrder ts ws) Q Z s;obtain⟨o1,o2⟩:=ho x IQ;refine Ic (IL (hb (oY r e z o1 o2 h1 λzd zD xC=>?_)));exact gf z hr (λy hy=>ho y (I6 _ hy)) hs (zS.ext zD.ext _ h2) zD.rel xC λyl ze wX=>hQ yl (zD.trans ze) wX|[],zo::zY,zF,yX,xe,vM,uR,u7,h,rx,kI,gu,gq,br,bq|bp::Uc,[],Ub,Ua,U_,UZ,UY,UX,h,UW,UU,JW,JV,JU,JT=>h.elim|[],[],zo::zY,zF,yX,xe,vM,uR,u7,rx,h,kI,gu,gq,br|bq::bp,Uc::Ub,[],Ua,U_,UZ,UY,UX,UW,UU,h,JW,JV,JU,JT=>by cases h
theorem bL:∀(xs:List Nat)(zw:Pi),C3 (AllB M env xs ((assignEach (vz zw xs) env).map (·.2))) ((assignEach (vz zw xs) env).findIdx? (·.1)=none) ((assignEach (vz zw xs) env).length=xs.length)|[],zo=>⟨trivial,rfl,rfl⟩|x::xs,zw=>by obtain⟨i1,i2,i3⟩:=bL xs (sh zw 1);refine⟨⟨fun hb=>Ic (I7 hb),i1⟩,?_,congrArg (·+1) i3⟩;show List.findIdx? (·.1) ((Ig,_)::assignEach (vz (sh zw 1) xs) env)=none;rewrite[Ff];rw[i2];rfl
theorem bM:∀(xs:List Nat),AllB M env xs (xs.map λx=>bindName env (nm x))|[]=>trivial|x::xs=>⟨λh=>h,bM xs⟩
theorem jL{h h':Hu}(x:Heap.ExtBut h.objs.size h h'):grows h h':=λc o e=>x c o (Ha (HP e)) e
theorem zS.cU:∀{vs:List V}{ws:List IX},zS f C h vs ws->zS f C h vs.reverse ws.reverse|[],zo,e=>by cases e;rfl|v::vs,zo,⟨w,r,e,h1,h2⟩=>by subst e;rewrite[G8];rw[G8];exact zS.append h2.cU (zS.single h1)
theorem yf.congr{L L':Loc}(e:yf f C h env L)(q:∀y,lk y L'=lk y L):yf f C h env L':=⟨e.kind,e.glob,e.blt,e.own,e.has,let⟨m,n,a6⟩:=e.loc;⟨m,n,λx v hv hk=>a6 x v ((q x).symm.trans hv) hk⟩,e.cells,λx v hv hk=>e.cell x v ((q x).symm.trans hv) hk⟩
theorem bH{t:I4}{items:Array IX}{ep:Nat}{sl:Array (Option IX)}{xs:List Nat}{vs:List V}{k:Nat}{p:Pos}{Q:Unit->IS->Prop}{prog:Program}{w:World}(hh:A.handled=none)(z:tQ F.b env)(ho:∀x∈xs,vb env.scope (nm x)=Ib/\rq env fr x)(hs:stores xs vs L=Ie L')(r:Rl F.b f C J s.heap)(e:yf f C s.heap env L)(g:s.heap.get? t=Ie ⟨.type "tuple",none,.seq items ep,sl⟩)(hv:zS f C s.heap vs items.toList)(hQ:∀s',Done F fr f C s J f C s'->yf f C s'.heap env L'->Q () s'):wpAny (model prog w) A (assign (.Tuple (vz zw xs) k p) env (.ref t)) Q Z s:=by obtain⟨b1,b2,b3⟩:=bL (M:=model prog w) (env:=env) xs zw;refine wpAny_assign_Tuple hh ⟨_,g,rfl,_,rfl⟩ (by rewrite[b3];rewrite[hY hs];rewrite[<-hv.length];rw[IE]) b2 λh' hx=>?_;obtain dg:Done F fr f C s J f C {s with heap:=h'}:=Done.grow r (jL hx) rfl rfl;obtain Rm:Done F [] f C s J f C {s with heap:=h'}:=Done.grow r (jL hx) rfl rfl;exact gf z b1 ho hs (zS.ext dg.ext _ hv) dg.rel (e.ext Rm.ext) λyl ze wX=>hQ yl (dg.trans ze) wX
theorem MY{a b:Nat}{q:Bool}(h:¬(a !=b||q)=Ib):a=b:=Decidable.byContradiction λn=>h (by rw[bne_iff_ne.mpr n];rfl)
theorem ME{zi:Type}(c:Prop) [Decidable c](a b:zi):ite c a b=a\/ite c a b=b:=if q:c then .inl (if_pos q)else .inr (if_neg q)
theorem WK{zi:Type}{c:Prop} [Decidable c]{b x y:zi}(h:¬c->b=x\/b=y):ite c x b=x\/ite c x b=y:=if q:c then .inl (if_pos q)else by rw[if_neg q];exact h q
theorem kj{zi:Type}{c:Prop} [Decidable c]{b x y:zi}(h:b=x\/b=y):ite c x b=x\/ite c x b=y:=WK λ_=>h
set_option tactic.hygienic true in theorem KP{xs:List Nat}{e:Mine.M}{i:Nat}{p:Pos}{ru:Pi}(hm:w6 e=Ib)(hr:d9 e ru=Ib):swappedStores [.Tuple (vz zw xs) i p] (zW e ru) env=pure none\/swappedStores [.Tuple (vz zw xs) i p] (zW e ru) env=pure (Ie (xs.map nm)):=by
 cases e<;>first|(exfalso;exact Gw hm)|exact .inl rfl|skip
 rename_i es;have hr:(xQ es (sh ru 0)).all (constantsAlone 8)=Ig:=(Hp _).mp hr;show swappedStores _ (.Tuple (xQ es (sh ru 0)) (ru []).k (ru []).p) env=_\/swappedStores _ (.Tuple (xQ es (sh ru 0)) (ru []).k (ru []).p) env=_;unfold swappedStores;dsimp only;refine kj (kj (WK λc3=>kj ?_));rw[if_neg (by rw[hr];decide)];refine .inr (congrArg (λz=>pure (Ie z)) ?_);obtain all:∀(g:Expr->Option Str)(hg:∀y p,g (.Name y p)=Ie y\/g (.Name y p)=none)(xs:List Nat)(zw:Pi),((vz zw xs).filterMap g).length=(vz zw xs).length->(vz zw xs).filterMap g=xs.map nm:=by
  intro g hg xs;induction xs with
  |nil=>intro _ _;rfl
  |cons x xs ih=>
   intro zw hn;show Fb g (.Name (nm x) (zw [0]).p::vz (sh zw 1) xs)=_;obtain hn:(Fb g (.Name (nm x) (zw [0]).p::vz (sh zw 1) xs)).length=(vz (sh zw 1) xs).length+1:=hn;rcases hg (nm x) (zw [0]).p with q|q;.rw[List.filterMap_cons_some q]at hn⊢;rw[ih _ (HI hn)];rfl
   .rw[List.filterMap_cons_none q]at hn;exact absurd hn (Ha (Nat.lt_succ_of_le (List.length_filterMap_le g _)))
 exact all _ (λy p=>ME _ _ _) xs zw (MY c3)
theorem u9{xs:List Nat}{e:Mine.M}{vs:List V}(hq:F.q=Ig)(h:E F L e J (.ok (.tup vs) zt))(hs:stores xs vs L=Ie L')(hn:xs.Nodup:=by decide):X1 F L (.y8 xs e) J (.ok .next L' zt):=by
 refine⟨λ{zw env A f C s}ok c=>?_⟩;obtain⟨o1,o2⟩:=zh ok;obtain⟨o1,hr⟩:=zh o1;obtain⟨o1,hc⟩:=zh o1;obtain⟨o1,_⟩:=zh o1;obtain hh:=c.ak.hand hq;have ho:∀x∈xs,vb env.scope (nm x)=Ib/\rq env (xB env) x:=λx hx=>⟨I2.mp o1 x hx,.inl ⟨c.func,rfl⟩⟩;show WS F env A (exec (.Assign [.Tuple (vz (sh (sh zw 0) 0) xs) _ (zw [0]).p] (zW e (sh zw 1)) (zw []).p) env) _ _ _ _;rewrite[WS];rw[arm_exec_Assign];refine Ic (I7 ?_);rw[show swapsWithSole [.Tuple (vz (sh (sh zw 0) 0) xs) (zw [0]).k (zw [0]).p] (zW e (sh zw 1)) (zw []).p.line env=swapsWith (zW e (sh zw 1)) (Ie (.Tuple (vz (sh (sh zw 0) 0) xs) (zw [0]).k (zw [0]).p)) (zw []).p.line env from rfl,pO hc];refine Ic (IW ?_);rw[if_neg (by decide)];refine Ic (h.sk o2 c λw f' zm s' d hv c'=>?_);obtain⟨t,items,ep,sl,rfl,g1,g2,g3⟩:=hv;rcases KP (zw:=sh (sh zw 0) 0) (xs:=xs) (i:=(zw [0]).k) (p:=(zw [0]).p) (env:=env) (zh hc).1 hr with z|z;.rw[z];refine Ic (IW ?_);unfold assignStores;dsimp only;exact Ic (bH (k:=(zw [0]).k) hh c.st ho hs d.rel c'.en g1 g3 λyl ze wX=>IW ⟨rfl,f',zm,d.wide.trans ze,wX⟩)
 .rw[z];refine Ic (IW ?_);unfold assignStores;dsimp only;refine Ic (G2 (Ic ?_));rw[show(xs.map nm).length=items.size by rewrite[IY];rewrite[hY hs];rewrite[<-g3.length];rw[IE]];refine wpAny_unpackItems_tuple hh ⟨_,g1,rfl,_,rfl⟩ λh' hx=>?_;obtain dg:Done F [] f' zm s' zt f' zm {s' with heap:=h'}:=Done.grow d.rel (jL hx) rfl rfl;obtain⟨tT,sR,hl⟩:=KS hn hs;rw[show((xs.map nm).reverse.map λn=>bindName env n)=xs.reverse.map λx=>bindName env (nm x)by rewrite[<-G1];rw[Gh];rfl];exact Ic (gf c.st (bM _) (λx hx=>ho x (H_.mp hx)) sR (zS.ext dg.ext _ g3).cU dg.rel (c'.en.ext dg.ext) λyl ze wX=>IW ⟨rfl,f',zm,(d.trans dg).wide.trans ze,wX.congr hl⟩)
end
open PySem PySem.W PySem.Calls PyProof.Rows
section
variable{F:Fr}{L zN L':Loc}{J zt zb yK r8 mj ow qL zy:St}{f f' z8:FM}{C zm zA:OW}{h h':Hu}{s s' zd:IS}{A:Hv}{env:Env}{zw:Pi}{out:SR}{fr:List I4}{M:Model}{Z:IX->IS->Prop}
theorem bI{t:IX->Sem Unit}{ts:List (IX->Sem Unit)}{x:IX}{xs:List IX}:assignInOrder (t::ts) (x::xs)=(holding xs (t x)>>=λzz=>assignInOrder ts xs):=rfl
set_option tactic.hygienic true in theorem KO{o o' i i':Expr}{p p' q:Pos}{k:Nat}{e:Mine.M}(hm:w6 e=Ib):swappedStores [.Tuple [.Subscript o i p,.Subscript o' i' p'] k q] (zW e zw) env=pure none:=by
 cases e<;>first|(exfalso;exact Gw hm)|rfl|skip
 rename_i es;show swappedStores _ (.Tuple (xQ es (sh zw 0)) (zw []).k (zw []).p) env=_;exact(kj (kj (.inl rfl))).elim id id
theorem VK{o i:Mine.M}{ov iv v:V}{w:IX}{p:Pos}{Q:Unit->IS->Prop}{Z:IX->IS->Prop}{oz UH:Pi}(c:Sx F L J env A f C s)(ho:E F L o J (.ok ov zt))(hi:E F L i zt (.ok iv zb))(hs:mY F ov iv v zb yK)(hw:VR f C s.heap v w)(o1:yu F.b.X o oz env.scope=Ib)(o2:yu F.b.X i UH env.scope=Ib)(k:∀f' zm s',Done F [] f C s yK f' zm s'->Q () s'):wpAny (model F.b.prog F.b.w) A (assign (.Subscript (zW o oz) (zW i UH) p) env w) Q Z s:=by rw[assign_Subscript];refine Ic (IL (ho.sk o1 c λwo z8 zA zd zD h1 se=>Ic (IL (hi.sk o2 se λwi yc yg yl ze h2 jk=>Ic (I7 (Ic (IL ?_)))))));refine II (hs ze.rel (VR.ext ze.ext _ h1) h2 (VR.ext ze.ext _ (VR.ext zD.ext _ hw))) (λzz xp p=>?_) λzz zz x=>x.elim;obtain⟨sW,sG,yL,_⟩:=p;exact wpAny_release (k sW sG xp ((zD.trans ze).trans yL))
theorem Je{e o i o' i':Mine.M}{v v' ov iv ki lE:V}(hq:F.q=Ig)(h:E F L e J (.ok (.tup [v,v']) zt))(ho:E F L o zt (.ok ov zb))(hi:E F L i zb (.ok iv yK))(hs:mY F ov iv v yK r8)(vd:E F L o' r8 (.ok ki mj))(eZ:E F L i' mj (.ok lE ow))(sR:mY F ki lE v' ow qL):X1 F L (.mT o i o' i' e) J (.ok .next L qL):=by
 refine⟨λ{zw env A f C s}ok c=>?_⟩;obtain⟨o1,ok⟩:=zh ok;obtain⟨o1,hr⟩:=zh o1;obtain⟨o1,hc⟩:=zh o1;obtain⟨k1,ok⟩:=zh ok;obtain⟨k2,ok⟩:=zh ok;obtain⟨k3,ok⟩:=zh ok;obtain⟨k4,k5⟩:=zh ok;obtain hh:=c.ak.hand hq;show WS F env A (exec (.Assign [.Tuple [.Subscript (zW o (sh (sh (sh (sh zw 0) 0) 0) 0)) (zW i (sh (sh (sh (sh zw 0) 0) 0) 1)) (zw [0,0,0]).p,.Subscript (zW o' (sh (sh (sh (sh (sh zw 0) 0) 1) 0) 0)) (zW i' (sh (sh (sh (sh (sh zw 0) 0) 1) 0) 1)) (zw [0,0,1,0]).p] (zw [0]).k (zw [0]).p] (zW e (sh zw 1)) (zw []).p) env) _ _ _ _;generalize(zw [0]).k=k;generalize(zw [0]).p=q;generalize(zw [0,0,0]).p=p;generalize(zw [0,0,1,0]).p=p';generalize(zw []).p=pos;rewrite[WS];rw[arm_exec_Assign];refine Ic (I7 ?_);rw[show∀{o i o' i'},swapsWithSole [.Tuple [.Subscript o i p,.Subscript o' i' p'] k q] (zW e (sh zw 1)) pos.line env=swapsWith (zW e (sh zw 1)) (Ie (.Tuple [.Subscript o i p,.Subscript o' i' p'] k q)) pos.line env from rfl,pO hc];refine Ic (IW ?_);rw[if_neg (by decide)];refine Ic (h.sk k5 c λw f' zm s' d hv c'=>?_);obtain⟨t,items,ep,sl,rfl,g1,g2,wx,rr,ge,hx,wy,L6,Ph,hy,Pg⟩:=hv;have YN:items.toList=[wx,wy]:=by rw[ge,Ph,show L6=[]from Pg]
 rw[KO (zh hc).1];refine Ic (IW ?_);unfold assignStores;dsimp only;refine Ic ?_;show wpAny _ A (assign (.Tuple [.Subscript _ _ p,.Subscript _ _ p'] k q) env (.ref t)) _ _ s';refine wpAny_assign_Tuple hh ⟨_,g1,rfl,_,rfl⟩ (by rewrite[<-IE];rw[YN];rfl) rfl λh' O4=>?_;obtain dg:Done F [] f' zm s' zt f' zm {s' with heap:=h'}:=Done.grow d.rel (jL O4) rfl rfl;rw[YN];show wpAny _ A (assignInOrder [assign (.Subscript _ _ p) env,assign (.Subscript _ _ p') env] [wx,wy]) _ _ _;rw[bI];refine Ic (IL (VK (c'.next dg) ho hi hs (VR.ext dg.ext _ hx) k1 k2 λyc yg yl ze=>?_));rw[bI];refine Ic (IL (VK ((c'.next dg).next ze) vd eZ sR (VR.ext ze.ext _ (VR.ext dg.ext _ hy)) k3 k4 λsW sG xp yL=>IW (IW ?_)));exact ka (((d.trans dg).trans ze).trans yL) c.en
noncomputable def bW(F:Fr)(n c:Nat)(fs:List (Nat×V))(J:St):Prop:=∀{A:Hv}{f:FM}{C:OW}{s:IS}{a:I4}{env:Env},Rl F.b f C J s.heap->xP F A C s.heap->f n=Ie a->wpAny (model F.b.prog F.b.w) A (raiseStmt env (Ie (pure (.ref a))) none) (λzz zz=>False) (λe s'=>C3 (e=.ref a) (Done F [] f C s (J.set n (.exc c Ib fs)) f C s') (ot F.b C s'.heap a)) s
theorem LF{env:Env}{x:Sem IX}:raiseStmt env (Ie x) none=x>>=λv=>raiseStmt env (Ie (pure v)) none:=by rfl
theorem J_{e:Mine.M}{n c:Nat}{fs:List (Nat×V)}(h:E F L e J (.ok (.ref n) zt))(hn:zt[n]?=Ie (.exc c Ig fs))(hr:bW F n c fs zt):X1 F L (.raise e) J (.exc (.ref n) L (zt.set n (.exc c Ib fs))):=by refine⟨λ{zw env A f C s}ok cx=>?_⟩;show WS F env A (exec (.Raise (Ie (zW e (sh zw 0))) none (zw []).p) env) _ _ _ _;rewrite[WS];rw[arm_exec_Raise];refine Ic (I7 ?_);show wpAny _ A (raiseStmt env (Ie (do let v<-eval (zW e (sh zw 0)) env;standAt (zw []).p;pure v)) none) _ _ s;rw[LF];refine Ic (Ic (h.sk ok cx λw f' zm s' d hv c'=>Ic (I7 (IW ?_))));obtain⟨a,fa,rfl⟩:=hv;refine II (hr (env:=env) d.rel c'.ak fa) (λzz zz x=>x.elim) λx yl hx=>?_;obtain⟨he,ze,hi⟩:=hx;exact⟨n,a,c,fs,rfl,he,HX (xr hn),f',zm,(d.trans ze).wide,cx.en.ext (d.trans ze).ext,fa,hi⟩
theorem Ud{b:S}{x:Nat}{eh:Mine.M}{fl:Fl}(hb:XB F L b J (.ok fl zN zt)):X1 F L (.try b x eh) J (.ok fl zN zt):=by refine⟨λ{zw env A f C s}ok c=>?_⟩;refine wpAny_Try_except (II (hb.go (zh (zh ok).2).1 c) (λr zd p=>?_) λzz zz x=>x.elim);cases fl with|next=>obtain⟨rfl,r⟩:=id p;exact IW p|ret v=>obtain⟨w,f',zm,rfl,r⟩:=id p;exact p
noncomputable def Fr.nz(F:Fr):Fr:={F with q:=Ib}
theorem Done.nz(d:Done F.nz fr f C s zy f' zm s'):Done F fr f C s zy f' zm s':=⟨d.ext,d.rel,d.gens,d.os,d.uI⟩
noncomputable def bY(F:Fr)(n:Nat)(J:St):Prop:=∀{A:Hv}{f:FM}{C:OW}{s:IS}{a:I4},Facts F.b->Rl F.b f C J s.heap->f n=Ie a->wpAny (model F.b.prog F.b.w) A (excMatches (.ref a) (.ref prog.sj)) (λr s'=>r=Ib/\∃tk,s'={s with toks:=tk}) (λzz zz=>False) s
theorem JY{b:S}{x n:Nat}{eh:Mine.M}{v:V}(hb:XB F L b J (.exc (.ref n) zN zt))(hm:bY F n zt)(hh:E F.nz (st x (.ref n) zN) eh zt (.ok v zb)):X1 F L (.try b x eh) J (.ok (.ret v) zN zb):=by refine⟨λ{zw env A f C s}ok c=>?_⟩;obtain⟨o1,o2⟩:=zh ok;obtain⟨hg,hl⟩:=zh o1;obtain⟨ob,oh⟩:=zh o2;obtain hl:vR env.scope (nm x)=Ie .local:=eq_of_beq hl;refine wpAny_Try_except (II (hb.go ob c) (λzz zz x=>x.elim) λe zd p=>?_);obtain⟨n',ea,cc,fs,q,rfl,w7,z8,zA,d,xC,fn,hi⟩:=p;cases q;have se:=c.nP d xC;refine dG c.rH d.rel se.ak c.fr fn w7 hi λyl ze kM=>jR ze.rel kM λxp yL kL=>?_;have qu:=(se.next ze).next yL;refine wpAny_handleBy_cons (codeAny_handlers_test ?_) (by intro z;cases z);obtain⟨y,hy,gy⟩:=qu.ak.ok.sj;refine fZ qu.ak.ok.glob qu.rel qu.en hy hg gy λw hv=>?_;cases hv;refine II (hm qu.ak.ok qu.rel fn) (λr xR p=>?_) λzz zz x=>x.elim;obtain⟨rfl,tk,rfl⟩:=p;simp only[if_true];refine codeAny_handlers_suite_as ?_;obtain uc:Done F [] z8 zA xp zt z8 zA {xp with toks:=tk}:=Done.toks yL.rel;refine jR (s:={xp with toks:=tk}) uc.rel kL λvN ux Ik=>?_;have qB:=(qu.next uc).next ux;refine cG ux.rel qB.en c.st (by unfold vb pY;rw[hl];rfl) (.inl ⟨c.func,rfl⟩) (v:=.ref n) ⟨ea,fn,rfl⟩ λtW q7 fV=>?_;have qA:=qB.nP q7 fV;obtain cx:Cx F.nz (st x (.ref n) zN) zt env (A.mark (Ie (.ref ea))) z8 zA tW:=⟨q7.rel,fV,⟨qA.ak.depth,qA.ak.units,qA.ak.nO,qA.ak.ok,(λq=>Gw q),qA.ak.frames⟩⟩;rw[arm_execs_cons];refine Ic (wpAny_Return_some (II (hh.w oh cx) (λv' Io p=>?_) λzz zz x=>x.elim));obtain⟨Pl,M9,tv,hv⟩:=p;have tv:=tv.nz;obtain RK:=fV.ext tv.ext;refine IW ?_;dsimp only;refine Jx tv.rel RK c.st hl λIm Z4=>⟨v',Pl,M9,rfl,?_,VR.ext Z4.ext _ hv⟩;exact(((((d.trans ze.wide).trans yL.wide).trans uc.wide).trans ux.wide).trans (q7.trans tv.wide)).trans (Z4.mono λc hc=>by rw[I_.mp hc];exact IQ)
theorem N3{x:IX}(c:Sx F L J env A f C s)(p:tR F env f C s out x s'):notedBy (model F.b.prog F.b.w) A env (λx s'=>cameBackBy (model F.b.prog F.b.w) A env (tR F env f C s out) x s') x s':=by cases out with|ok=>exact p.elim|exc e L' zy=>obtain⟨n,ea,cc,fs,rfl,rfl,w7,z8,zA,d,xC,fn,hi⟩:=p;unfold notedBy;refine dG c.rH d.rel (c.nP d xC).ak c.fr fn w7 hi λyl ze kM=>S7 ze.rel kM λxp yL kL=>?_;exact⟨n,ea,cc,fs,rfl,rfl,w7,z8,zA,(d.trans ze.wide).trans yL.wide,(xC.ext ze.ext).ext yL.ext,fn,kL.YW⟩
inductive WL(F:Fr)(c:Mine.M)(b:S):Nat->Loc->St->SR->Prop|stop{L J zt n}:E F L c J (.ok (.bool false) zt)->WL F c b (n+1) L J (.ok .next L zt)|turn{L zN J zt zb n out}:E F L c J (.ok (.bool true) zt)->XB F L b zt (.ok .next zN zb)->WL F c b n zN zb out->WL F c b (n+1) L J out|ret{L zN J zt zb n v}:E F L c J (.ok (.bool true) zt)->XB F L b zt (.ok (.ret v) zN zb)->WL F c b (n+1) L J (.ok (.ret v) zN zb)
theorem p6{c:Mine.M}{b:S}{n:Nat}(hw:WL F c b n L J out):X1 F L (.while c b) J out:=by refine⟨λ{zw env A f C s}ok cx=>?_⟩;obtain⟨oc,ob⟩:=zh ok;refine wpAny_While (codeAny_whileLoop (I:=λn s'=>X4 λL' zy f' zm=>C3 (Done F (xB env) f C s zy f' zm s') (yf f' zm s'.heap env L') (WL F c b n L' zy out)) ?_ n ⟨L,J,f,C,Done.refl cx.rel,cx.en,hw⟩);intro n zd⟨zN,zt,z8,zA,zD,xC,rz⟩;have se:=cx.nP zD xC;cases rz with|stop h=>refine II (h.t oc se.toCx) (λt yl p=>?_) λzz zz x=>x.elim;obtain⟨yc,yg,ze,rfl⟩:=p;exact IW ⟨rfl,yc,yg,zD.trans ze.wide,xC.ext ze.ext⟩|turn h hb hr=>refine II (h.t oc se.toCx) (λt yl p=>?_) λzz zz x=>x.elim;obtain⟨yc,yg,ze,rfl⟩:=p;simp only[if_true];refine II (hb.go ob (se.next ze)) (λr xp p=>?_) λzz zz x=>x.elim;obtain⟨rfl,sW,sG,yL,fX⟩:=p;exact⟨_,H7 _,_,_,sW,sG,(zD.trans ze.wide).trans yL,fX,hr⟩|ret h hb=>refine II (h.t oc se.toCx) (λt yl p=>?_) λzz zz x=>x.elim;obtain⟨yc,yg,ze,rfl⟩:=p;simp only[if_true];refine II (hb.go ob (se.next ze)) (λr xp p=>?_) λzz zz x=>x.elim;obtain⟨w,sW,sG,rfl,yL,hv⟩:=p;exact⟨w,sW,sG,rfl,(zD.trans ze.wide).trans yL,hv⟩
end
open PySem PySem.W PySem.Calls PyProof.Rows
noncomputable def xu(wr:List I4)(h h':Hu):Prop:=∀c o,c∉wr->h.get? c=Ie o->h'.get? c=Ie o
theorem xu.but{a:I4}{h h':Hu}(x:Heap.ExtBut a h h'):xu [a] h h':=λc o n e=>x c o (λq=>n (q▸I_.mpr rfl)) e
theorem xu.mono{wr Up:List I4}{h h':Hu}(x:xu wr h h')(hs:∀c∈wr,c∈Up):xu Up h h':=λc o n e=>x c o (λq=>n (hs c q)) e
noncomputable def rK:List IX:=[.type "tuple",.type "frame",.type "dict",.type "cell",.type "list",.type "traceback"]
structure Wr(F:Fr)(yN:IS)(C:OW)(h:Hu)(wr:List I4):Prop where
 new:∀c∈wr,yN.heap.get? c=none
 own:∀c∈wr,C c=none
 base:∀c∈wr,F.b.B.get? c=none
 cls:∀c∈wr,∃o,h.get? c=some o/\o.cls∉rK
section
variable{F:Fr}{fr wr:List I4}{f f':FM}{C zm:OW}{h h':Hu}{yN s s':IS}{J zy:St}{A:Hv}{env:Env}{L:Loc}
theorem Wr.not(w:Wr F yN C h wr){c:I4}{o:Obj}(e:h.get? c=Ie o)(hc:o.cls∈rK):c∉wr:=λq=>by obtain⟨p,hp,hT⟩:=w.cls c q;replace hp:=yZ e hp;cases hp;exact hT hc
theorem Wr.yi(w:Wr F yN C h wr)(x:xu wr h h'):vi f C h f C h':=⟨λzz zz e=>e,λc⟨i,ep,sl,e⟩n=>⟨(x c _ (w.not e IQ) e).trans e.symm,n⟩⟩
structure oq(F:Fr)(yN:IS)(C:OW)(h:Hu)(wr:List I4):Prop where
 new:∀c∈wr,yN.heap.get? c=none
 own:∀c∈wr,C c=none
 base:∀c∈wr,F.b.B.get? c=none
 um:∀c∈wr,¬isTup (h.get? c)
theorem Wr.w0(w:Wr F yN C h wr):oq F yN C h wr:=⟨w.new,w.own,w.base,λc hc⟨zo,zY,zF,e⟩=>w.not e IQ hc⟩
theorem oq.yi(w:oq F yN C h wr)(x:xu wr h h'):vi f C h f C h':=⟨λzz zz e=>e,λc e n=>⟨let⟨_,_,_,q⟩:=e;(x c _ (λz=>w.um c z e) q).trans q.symm,n⟩⟩
theorem Done.cD(d:Done F fr f C yN zy f' zm s)(w:oq F yN zm s.heap wr)(x:xu wr s.heap h'){tk:Nat}:Done F fr f C yN zy f' zm {s with heap:=h',toks:=tk}:=by
 have nw:∀{c o},yN.heap.get? c=Ie o->c∉wr:=λe q=>by rw[w.new _ q]at e;cases e
 obtain no:∀{c n},zm c=Ie n->c∉wr:=λe q=>by rw[w.own _ q]at e;cases e
 refine⟨⟨d.ext.w9,d.ext.xH,d.ext.nL,λc o e=>?_,λc o e n q t=>?_,λc e n=>?_⟩,d.rel.rH (w.yi x) (λc o e=>?_) λn c o e z=>x c o (no z) e,d.gens,d.os,λq c n o z e=>x c o (nw e) (d.uI q c n o z e)⟩;.obtain⟨o',vd⟩:=d.ext.live c o e;exact⟨o',x c o' (nw e) vd⟩
 .exact(d.ext.keep c o e n q t).imp (x c o (nw e)) λz=>⟨z.1,z.2.imp λsl z=>x c _ (nw e) z⟩
 .obtain⟨i,ep,sl,q⟩:=id e;exact(x c _ (nw q) ((d.ext.tup c e n).trans q)).trans q.symm
 .exact x c o (λq=>by rw[w.base c q]at e;cases e) (d.rel.base c o e)
theorem Done.rF(d:Done F fr f C yN zy f' zm s)(w:Wr F yN zm s.heap wr)(x:xu wr s.heap h'){tk:Nat}:Done F fr f C yN zy f' zm {s with heap:=h',toks:=tk}:=d.cD w.w0 x
theorem Wr.frame(w:Wr F yN C h wr)(e:yf f C h env L):∀c,c∈xB env->c∉wr:=λc hc=>by
 rcases jP hc with rfl|⟨n,hm⟩;.obtain⟨m,⟨o,es,ep,a1,a2,_⟩,_⟩:=e.loc;refine w.not a1 ?_;rw[a2];unfold sY;split<;>decide
 .obtain⟨_,u,g⟩:=e.cells n c hm;exact w.not g (show HG "cell"∈rK by decide)
theorem yf.keep(e:yf f C h env L)(v:vi f C h f C h')(k:∀c o,c∈xB env->h.get? c=Ie o->h'.get? c=Ie o):yf f C h' env L:=by
 obtain⟨m,⟨o,es,ep,a1,a2,a3,a4,a5⟩,a6⟩:=e.loc;refine⟨e.kind,e.glob,e.blt,e.own,e.has,⟨m,⟨o,es,ep,k _ _ IQ a1,a2,a3,a4,a5⟩,λx u hu hk=>?_⟩,λn c hn=>?_,λx u hu hk=>?_⟩;.obtain⟨w,c1,c2⟩:=a6 x u hu hk;exact⟨w,c1,VR.yi v _ c2⟩
 .obtain⟨c1,u,c2⟩:=e.cells n c hn;exact⟨c1,u,k _ _ (dR hn) c2⟩
 .obtain⟨c,w,c1,c2,c4⟩:=e.cell x u hu hk;exact⟨c,w,c1,k _ _ (dR (mem_of_lookup c1)) c2,VR.yi v _ c4⟩
theorem yf.rF(e:yf f C h env L)(w:Wr F yN C h wr)(x:xu wr h h'):yf f C h' env L:=e.keep (w.yi x) λc o hc ho=>x c o (w.frame e c hc) ho
theorem nc(w:Wr F yN C h wr)(x:Ext fr f C h f' zm h')(hf:∀c∈wr,c∉fr):∀c∈wr,∀o,h.get? c=Ie o->h'.get? c=Ie o:=λc hc o ho=>by obtain⟨p,hp,hT⟩:=w.cls c hc;rw[hp]at ho;cases ho;exact(x.keep c p hp (w.own c hc) (hf c hc) λq=>hT (q▸by decide)).elim id λz=>absurd (z.1▸by decide) hT
theorem iR(w:Wr F yN C h wr)(x:Ext fr f C h f' zm h'):∀c∈wr,zm c=none:=λc hc=>let⟨p,hp,_⟩:=w.cls c hc;x.own hp (w.own c hc)
theorem ZJ{prog:Program}{w:World}:∀{es:List (List Nat×V)}{ws:List Hn},DR w.params f C h es ws→∃kvs:List (Str×IX),C3 (Pairs (strKind prog w) ws kvs) (kvs.map (·.1)=es.map (fun p=>tx p.1)) (zS f C h (es.map (·.2)) (kvs.map (·.2)))|[],zo,e=>by cases e;exact⟨[],.nil,rfl,rfl⟩|(k,v)::es,zo,⟨t,wv,r,e,h1,h2⟩=>by subst e;obtain⟨kvs,i1,i2,i3⟩:=ZJ (prog:=prog) h2;exact⟨(tx k,wv)::kvs,.cons (strKind_is prog w (tx k) t) rfl i1,by rewrite[Hy];rw[i2];rfl,wv,kvs.map (·.2),rfl,h1,i3⟩
theorem Jz{es:List (List Nat×V)}(h:(es.map (·.1)).Nodup):(es.map (fun p=>tx p.1)).Nodup:=by rw[show(es.map (fun p=>tx p.1))=(es.map (·.1)).map tx by rw[Gh];rfl];exact List.Pairwise.map tx (fun a c n q=>n (mz q)) h
theorem qr{b:Bc}{es:List (List Nat×V)}{ents:Array Hn}{ep:Nat}{a:I4}(dr:DR b.w.params f C h es ents.toList)(nd:(es.map (·.1)).Nodup)(g:h.get? a=Ie (xo ents ep)):∃kvs:List (Str×IX),C5 (h.DictAt (strKind b.prog b.w) a kvs ep) (kvs.map (·.1)=es.map (fun p=>tx p.1)) (zS f C h (es.map (·.2)) (kvs.map (·.2))) (kvs.length=es.length) (kvs.length=ents.size):=by
 obtain⟨kvs,i1,i2,i3⟩:=ZJ (prog:=b.prog) dr;refine⟨kvs,⟨_,ents,g,⟨rfl,rfl,rfl⟩,rfl,fun e he=>DR.keys dr e (Hm.mpr he),i1,by rw[i2];exact Jz nd⟩,i2,i3,?_,?_⟩;·simpa using congrArg GH i2
 ·obtain this:=i1.length;simpa using this.symm
theorem ZH{es:List (List Nat×V)}{kvs:List (Str×IX)}{i:Nat}{e:List Nat×V}(k1:kvs.map (·.1)=es.map (fun p=>tx p.1))(k2:zS f C h (es.map (·.2)) (kvs.map (·.2)))(he:es[i]?=Ie e):∃kw,kvs[i]?=Ie (tx e.1,kw)∧VR f C h e.2 kw:=by
 obtain hk:(kvs.map (·.1))[i]?=Ie (tx e.1):=by rewrite[k1];rewrite[IM];rw[he];rfl
 obtain⟨vw,qg,hv⟩:=k2.get (i:=i) (v:=e.2) (by rewrite[IM];rw[he];rfl);rw[IM]at hk qg;obtain⟨kv,q,h1⟩:=IG.mp hk;rw[q]at qg;cases qg;exact⟨kv.2,by rewrite[q];rw[←h1],hv⟩
inductive IT where|tup(l:List V)|str(s:List Nat)|list(n:Nat)|dict(n:Nat)|range(m:Int)|enum(n:Nat)|items(n:Nat)
noncomputable def IT.k:IT->IK|.range zo=>.range|.enum _=>.enum|.items _=>.items|_=>.plain
noncomputable def IT.v:IT->V|.tup l=>.tup l|.str s=>.str s|.list n|.dict n|.enum n|.items n=>.ref n|.range m=>.int m
noncomputable def IT.d:IT->Bool|.dict zo|.items zY=>Ib|_=>Ig
noncomputable def IT.is(l:List V)(J:St):IT->Prop|.tup vs=>l=vs|.str s=>l=s.map λc=>V.str [c]|.list n=>J[n]?=Ie (.list l)|.dict n=>∃es,J[n]?=Ie (.dict es)/\l=es.map λp=>.str p.1|.range m=>small m=Ib/\l=(HM m.toNat).map λ(j:Nat)=>V.int (j:Int)|.enum n=>∃xs,J[n]?=Ie (.list xs)/\l=xs.mapIdx λi v=>V.tup [.int i,v]|.items n=>∃es,J[n]?=Ie (.dict es)/\l=es.map λp=>V.tup [.str p.1,p.2]
noncomputable def y4(f:FM)(C:OW)(h:Hu)(wr:List I4)(I:I4)(i:Nat):IT->Prop|.tup vs=>X4 λt items ep sl=>C5 (h.get? t=Ie ⟨.type "tuple",none,.seq items ep,sl⟩) (C t=none) (zS f C h vs items.toList) (wr=[I]) (h.IsTupleIter I t i)|.str s=>wr=[I]/\X2 λt T=>(T="str_ascii_iterator"\/T="str_iterator")/\h.IsStrIter I T (tx s) t i|.list n=>∃a,C3 (f n=Ie a) (wr=[I]) (h.IsListIter I a i)|.dict n=>X3 λa ents ep=>C5 (f n=Ie a) (wr=[I]) (h.get? a=Ie (xo ents ep)) (C a=Ie n) (h.IsKeyIter I a i ents.size ep)|.range m=>wr=[I]/\IsRangeIter h I i ((m.toNat:Int)-i) 1|.enum n=>X3 λa T old=>C5 (f n=Ie a) (wr=[I,T]) (I≠T) (IsEnum h I T i old) (h.IsListIter T a i)|.items n=>X5 λa ents ep ok ov=>C5 (f n=Ie a) (wr=[I]) (h.get? a=Ie (xo ents ep)) (C a=Ie n) (IsItemIter h I a i ents.size ep ok ov)
theorem y4.keep{t:IT}{I:I4}{i:Nat}(x:vi f C h f' zm h')(xH:∀c n,C c=Ie n->zm c=Ie n)(kw:∀c∈wr,∀o,h.get? c=Ie o->h'.get? c=Ie o)(kd:t.d=Ib->∀c n ents ep,C c=Ie n->h.get? c=Ie (xo ents ep)->h'.get? c=Ie (xo ents ep))(st:y4 f C h wr I i t):y4 f' zm h' wr I i t:=by cases t with|tup vs=>obtain⟨tt,items,ep,sl,g1,g2,g3,rfl,o,ho,r⟩:=st;obtain⟨q1,q2⟩:=x.tup tt ⟨items,ep,sl,g1⟩ g2;exact⟨tt,items,ep,sl,q1.trans g1,q2,zS.yi x _ g3,rfl,o,kw I IQ o ho,r⟩|str ss=>obtain⟨rfl,tk,T,hT,o,ho,r⟩:=st;exact⟨rfl,tk,T,hT,o,kw I IQ o ho,r⟩|list n=>obtain⟨a,fa,rfl,o,ho,r⟩:=st;exact⟨a,x.w9 n a fa,rfl,o,kw I IQ o ho,r⟩|dict n=>obtain⟨a,ents,ep,fa,rfl,g1,wa,o,ho,r⟩:=st;exact⟨a,ents,ep,x.w9 n a fa,rfl,kd rfl a n _ _ wa g1,xH _ _ wa,o,kw I IQ o ho,r⟩|range m=>obtain⟨rfl,hit⟩:=st;exact⟨rfl,kw I IQ _ hit⟩|enum n=>obtain⟨a,T,old,fa,rfl,wM,he,o,ho,r⟩:=st;exact⟨a,T,old,x.w9 n a fa,rfl,wM,kw I IQ _ he,o,kw T (I6 _ IQ) o ho,r⟩|items n=>obtain⟨a,ents,ep,ok,ov,fa,rfl,g1,wa,hit⟩:=st;exact⟨a,ents,ep,ok,ov,x.w9 n a fa,rfl,kd rfl a n _ _ wa g1,xH _ _ wa,kw I IQ _ hit⟩
theorem y4.cls{t:IT}{I:I4}{i:Nat}(st:y4 f C h wr I i t):∀c∈wr,∃o,h.get? c=Ie o/\o.cls∉rK:=by
 cases t with
 |tup vs=>obtain⟨tt,items,ep,sl,g1,g2,g3,rfl,o,ho,r,_⟩:=st;intro c hc;rw[I_.mp hc];exact⟨o,ho,by rw[r];decide⟩
 |str ss=>obtain⟨rfl,tk,T,hT,o,ho,r,_⟩:=st;intro c hc;rw[I_.mp hc];exact⟨o,ho,by rw[r];rcases hT with rfl|rfl<;>decide⟩
 |list n=>obtain⟨a,fa,rfl,o,ho,r,_⟩:=st;intro c hc;rw[I_.mp hc];exact⟨o,ho,by rw[r];decide⟩
 |dict n=>obtain⟨a,ents,ep,fa,rfl,g1,wa,o,ho,r,_⟩:=st;intro c hc;rw[I_.mp hc];exact⟨o,ho,by rw[r];decide⟩
 |range m=>obtain⟨rfl,hit⟩:=st;intro c hc;rw[I_.mp hc];exact⟨_,hit,(show HG "range_iterator"∉rK by decide)⟩
 |enum n=>
  obtain⟨a,T,old,fa,rfl,wM,he,o,ho,r,_⟩:=st;intro c hc;rcases IU.mp hc with q|q;.rw[q];exact⟨_,he,(show HG "enumerate"∉rK by decide)⟩
  .rw[I_.mp q];exact⟨o,ho,by rw[r];decide⟩
 |items n=>obtain⟨a,ents,ep,ok,ov,fa,rfl,g1,wa,hit⟩:=st;intro c hc;rw[I_.mp hc];exact⟨_,hit,(show HG "dict_itemiterator"∉rK by decide)⟩
theorem Wr.again{t:IT}{I:I4}{i:Nat}(w:Wr F yN C h wr)(st:y4 f' zm h' wr I i t)(x:∀c∈wr,zm c=none):Wr F yN zm h' wr:=⟨w.new,x,w.base,st.cls⟩
end
open PySem PySem.W PySem.Calls PyProof.Rows
section
variable{F:Fr}{fr wr:List I4}{f f':FM}{C zm:OW}{h h':Hu}{yN s s':IS}{J zy:St}{A:Hv}{env:Env}{L:Loc}{zw:Pi}{xs:List Nat}{Z Z':IX->IS->Prop}
noncomputable def noOwn(T:String):Prop:=["enumerate","zip","dict_itemiterator","dict_reverseitemiterator","odict_iterator","itertools.zip_longest","itertools.pairwise"].contains T=Ig
theorem lA{M:Model}{I:I4}{w:IX}{o:Obj}{T:String}{vs:Array IX}{Q:Unit->IS->Prop}(ho:s.heap.get? I=Ie o)(hc:o.cls=.type T)(hd:o.data=.fields vs)(hn:noOwn T)(hQ:Q () s):wpAny M A (letOwnedTupleGo (toT zw xs) (.ref I) w) Q Z s:=by
 match xs with
 |[x]=>exact IW hQ
 |[]|zo::zY::zF=>
  unfold letOwnedTupleGo;cases w<;>first|exact IW hQ|skip
  refine Ic (wpAny_load ho ?_);rewrite[hc];rw[hd];dsimp only;rw[if_neg (by rw[show["enumerate","zip","dict_itemiterator","dict_reverseitemiterator","odict_iterator","itertools.zip_longest","itertools.pairwise"].contains T=Ig from hn];simp)];exact IW hQ
theorem VD{sc:Scope}{k:IK}(h:rO sc k xs=Ib)(hk:H5 k.ctorIdx 1=Ig):toT zw xs=.Tuple (vz (sh zw 0) xs) (zw []).k (zw []).p:=by obtain h:=(zh h).2;rw[hk,Fc,Bool.or_false]at h;match xs,h with|zo::zY::zF,yX=>rfl
noncomputable def rj(M:Model)(A:Hv)(f:FM)(C:OW)(s:IS)(wr:List I4)(I:I4)(i:Nat)(t:IT)(x:V)(tg:Expr)(Z:IX->IS->Prop)(c:Option IX)(zd:IS):Prop:=∃w,c=Ie w/\wpAny M A (letOwnedTupleGo tg (.ref I) w) (λzz yl=>X2 λh' tk=>C4 (yl={s with heap:=h',toks:=tk}) (xu wr s.heap h') (y4 f C h' wr I (i+1) t) (VR f C h' x w)) Z zd
theorem xZ{n:Nat}{xs:List V}{a:I4}{h:Hu}(r:Rl F.b f C J h)(fa:f n=Ie a)(hn:J[n]?=Ie (.list xs)):C a=Ie n/\X2 λitems ep=>h.get? a=Ie ⟨.type "list",none,.seq items ep,#[]⟩/\zS f C h xs items.toList:=by obtain⟨a',yp,w,R⟩:=r.objs n _ hn;replace yp:=yZ fa yp;cases yp;exact⟨w,R⟩
theorem K0{vs:List V}{I:I4}{i:Nat}{x:V}(w:Wr F yN C s.heap wr)(st:y4 f C s.heap wr I i (.tup vs))(hx:vs[i]?=Ie x):wpAny (model F.b.prog F.b.w) A (pyNext (.ref I)) (rj (model F.b.prog F.b.w) A f C s wr I i (.tup vs) x (toT zw xs) Z) Z' s:=by obtain⟨tt,items,ep,sl,g1,g2,g3,rfl,hit⟩:=st;obtain⟨xw,lI,hv⟩:=g3.get hx;refine wpAny_pyNext_tuple_item hit ⟨_,g1,rfl,_,rfl⟩ (x:=xw) (by rw[<-I'];exact lI) λh' vp hs=>⟨xw,rfl,?_⟩;obtain tc:xu [I] s.heap h':=xu.but hs.extBut;obtain vx:=w.yi (f:=f) tc;obtain⟨o,ho,hc,pk⟩:=id vp;exact lA ho hc pk (by unfold noOwn;decide) ⟨h',s.toks,rfl,tc,⟨tt,items,ep,sl,(vx.tup tt ⟨_,_,_,g1⟩ g2).1.trans g1,g2,zS.yi vx _ g3,rfl,vp⟩,VR.yi vx _ hv⟩
theorem K1{ss:List Nat}{I:I4}{i:Nat}{x:V}(w:Wr F yN C s.heap wr)(st:y4 f C s.heap wr I i (.str ss))(hx:(ss.map λc=>V.str [c])[i]?=Ie x):wpAny (model F.b.prog F.b.w) A (pyNext (.ref I)) (rj (model F.b.prog F.b.w) A f C s wr I i (.str ss) x (toT zw xs) Z) Z' s:=by
 obtain⟨rfl,tk,T,hT,hit⟩:=st;rw[IM]at hx;obtain⟨c,hc,rfl⟩:=IG.mp hx;obtain l_:(tx ss).cps[i]?=Ie c:=by unfold tx;rw[<-I'];exact hc
 obtain fin:noOwn T->∀h',h'.IsStrIter I T (tx ss) tk (i+1)->HU I s.heap h'->rj (model F.b.prog F.b.w) A f C s [I] I i (.str ss) (.str [c]) (toT zw xs) Z (Ie (.str ⟨#[c]⟩ s.toks)) {s with heap:=h',toks:=s.toks+1}:=by intro hn h' vp hs;obtain⟨o,ho,wH,pk⟩:=id vp;exact⟨_,rfl,lA ho wH pk hn ⟨h',_,rfl,xu.but hs.extBut,⟨rfl,tk,T,hT,vp⟩,_,rfl⟩⟩
 rcases id hT with rfl|rfl;.exact wpAny_pyNext_ascii_item hit l_ (fin (by unfold noOwn;decide))
 .exact wpAny_pyNext_wide_item hit l_ (fin (by unfold noOwn;decide))
theorem K3{n:Nat}{l:List V}{I:I4}{i:Nat}{x:V}(r:Rl F.b f C J s.heap)(w:Wr F yN C s.heap wr)(st:y4 f C s.heap wr I i (.list n))(hl:J[n]?=Ie (.list l))(hx:l[i]?=Ie x):wpAny (model F.b.prog F.b.w) A (pyNext (.ref I)) (rj (model F.b.prog F.b.w) A f C s wr I i (.list n) x (toT zw xs) Z) Z' s:=by obtain⟨a,fa,rfl,hit⟩:=st;obtain⟨w1,items,ep,g1,g2⟩:=xZ r fa hl;obtain⟨xw,lI,hv⟩:=g2.get hx;refine wpAny_pyNext_list_item hit ⟨_,g1,rfl,_,rfl⟩ (x:=xw) (by rw[<-I'];exact lI) λh' vp hs=>⟨xw,rfl,?_⟩;obtain tc:xu [I] s.heap h':=xu.but hs.extBut;obtain⟨o,ho,wH,pk⟩:=id vp;exact lA ho wH pk (by unfold noOwn;decide) ⟨h',s.toks,rfl,tc,⟨a,fa,rfl,vp⟩,VR.yi (w.yi tc) _ hv⟩
theorem K6{n:Nat}{es:List (List Nat×V)}{I:I4}{i:Nat}{x:V}(r:Rl F.b f C J s.heap)(w:Wr F yN C s.heap wr)(st:y4 f C s.heap wr I i (.dict n))(hl:J[n]?=Ie (.dict es))(hx:(es.map λp=>V.str p.1)[i]?=Ie x):wpAny (model F.b.prog F.b.w) A (pyNext (.ref I)) (rj (model F.b.prog F.b.w) A f C s wr I i (.dict n) x (toT zw xs) Z) Z' s:=by obtain⟨a,ents,ep,fa,rfl,g1,wa,hit⟩:=st;obtain⟨w1,wN,yS,tq,dr,nd⟩:=vg r fa hl;obtain⟨rfl,rfl⟩:=jh (g1.symm.trans tq);obtain⟨kvs,hm,k1,k2,k3,k4⟩:=qr dr nd g1;rw[IM]at hx;obtain⟨e,he,rfl⟩:=IG.mp hx;obtain⟨kw,eW,_⟩:=ZH k1 k2 he;rw[<-k4]at hit;refine wpAny_pyNext_dict_item hit hm eW λkey h' eX vp hs=>⟨key,rfl,?_⟩;obtain tc:xu [I] s.heap h':=xu.but hs.extBut;obtain⟨o,ho,wH,pk⟩:=id vp;obtain⟨tk,rfl⟩:=GU eX;exact lA ho wH pk (by unfold noOwn;decide) ⟨h',s.toks,rfl,tc,⟨a,ents,ep,fa,rfl,tc a _ (w.not g1 (show HG "dict"∈rK by decide)) g1,wa,k4▸vp⟩,tk,rfl⟩
theorem K2{m:Int}{I:I4}{i:Nat}{x:V}(w:Wr F yN C s.heap wr)(st:y4 f C s.heap wr I i (.range m))(hx:((HM m.toNat).map λ(j:Nat)=>V.int (j:Int))[i]?=Ie x):wpAny (model F.b.prog F.b.w) A (pyNext (.ref I)) (rj (model F.b.prog F.b.w) A f C s wr I i (.range m) x (toT zw xs) Z) Z' s:=by obtain⟨rfl,hit⟩:=st;rw[IM]at hx;obtain⟨j,hj,rfl⟩:=IG.mp hx;obtain⟨yJ,rfl⟩:=IF.mp hj;rw[Gb]at yJ;rw[List.getElem_range];refine wpAny_pyNext_range_item hit (by lia) λh' vp hs=>⟨_,rfl,?_⟩;rw[show((m.toNat:Int)-i-1)=(m.toNat:Int)-((i+1:Nat):Int)by lia,show(i:Int)+1=((i+1:Nat):Int)by lia]at vp;exact lA vp rfl rfl (by unfold noOwn;decide) ⟨h',_,rfl,xu.but hs.extBut,⟨rfl,vp⟩,_,rfl⟩
theorem K5{n:Nat}{l:List V}{I:I4}{i:Nat}{y:V}{sc:Scope}(r:Rl F.b f C J s.heap)(w:Wr F yN C s.heap wr)(st:y4 f C s.heap wr I i (.enum n))(hl:J[n]?=Ie (.list l))(hy:l[i]?=Ie y)(ht:rO sc .enum xs=Ib):wpAny (model F.b.prog F.b.w) A (pyNext (.ref I)) (rj (model F.b.prog F.b.w) A f C s wr I i (.enum n) (.tup [.int i,y]) (toT zw xs) Z) Z' s:=by obtain⟨a,T,old,fa,rfl,wM,he,hit⟩:=st;obtain⟨w1,items,ep,g1,g2⟩:=xZ r fa hl;obtain⟨xw,lI,hv⟩:=g2.get hy;refine wpAny_pyNext_enum_item he hit ⟨_,g1,rfl,_,rfl⟩ (x:=xw) (by rw[<-I'];exact lI) wM λh' jK vp eK O1 wZ=>⟨_,rfl,?_⟩;rw[VD ht rfl];refine wpAny_letOwnedTupleGo_enum (s:={s with heap:=h',toks:=s.toks+1}) jK λxI pj vo=>?_;obtain tc:xu [I,T] s.heap xI:=λc o q e=>vo.extBut c o (λz=>q (z▸IQ)) (wZ c o (λz=>q (z▸IQ)) (λz=>q (z▸I6 _ IQ)) e);rw[show(i:Int)+1=((i+1:Nat):Int)by lia]at pj;exact⟨xI,_,rfl,tc,⟨a,T,_,fa,rfl,wM,pj,vp.extBut vo.extBut (H0 wM)⟩,_,_,_,_,rfl,vo.extBut _ _ (Fj (HP he)) eK,(tY r (IV _)).1,_,_,rfl,⟨_,rfl⟩,_,_,rfl,VR.yi (w.yi tc) _ hv,rfl⟩
theorem K4{n:Nat}{es:List (List Nat×V)}{e:List Nat×V}{I:I4}{i:Nat}{sc:Scope}(r:Rl F.b f C J s.heap)(w:Wr F yN C s.heap wr)(st:y4 f C s.heap wr I i (.items n))(hl:J[n]?=Ie (.dict es))(he:es[i]?=Ie e)(ht:rO sc .items xs=Ib):wpAny (model F.b.prog F.b.w) A (pyNext (.ref I)) (rj (model F.b.prog F.b.w) A f C s wr I i (.items n) (.tup [.str e.1,e.2]) (toT zw xs) Z) Z' s:=by obtain⟨a,ents,ep,ok,ov,fa,rfl,g1,wa,hit⟩:=st;obtain⟨w1,wN,yS,tq,dr,nd⟩:=vg r fa hl;obtain⟨rfl,rfl⟩:=jh (g1.symm.trans tq);obtain⟨kvs,hm,k1,k2,k3,k4⟩:=qr dr nd g1;obtain⟨kw,eW,hv⟩:=ZH k1 k2 he;rw[<-k4]at hit;refine wpAny_pyNext_items_item hit hm eW λkey h' eX vp eK O1 wZ=>⟨_,rfl,?_⟩;rw[VD ht rfl];refine wpAny_letOwnedTupleGo_items (s:={s with heap:=h'}) vp λxI pj vo=>?_;obtain tc:xu [I] s.heap xI:=λc o q e=>vo.extBut c o (λz=>q (z▸IQ)) (wZ c o (λz=>q (z▸IQ)) e);obtain⟨tk,rfl⟩:=GU eX;exact⟨xI,s.toks,rfl,tc,⟨a,ents,ep,_,_,fa,rfl,tc a _ (w.not g1 (show HG "dict"∈rK by decide)) g1,wa,k4▸pj⟩,_,_,_,_,rfl,vo.extBut _ _ (Fj (HP hit)) eK,(tY r (IV _)).1,_,_,rfl,⟨_,rfl⟩,_,_,rfl,VR.yi (w.yi tc) _ hv,rfl⟩
theorem Wh{t:IT}{x:V}{l:List V}{I:I4}{i:Nat}{sc:Scope}(r:Rl F.b f C J s.heap)(w:Wr F yN C s.heap wr)(st:y4 f C s.heap wr I i t)(hl:t.is l J)(hx:l[i]?=Ie x)(ht:rO sc t.k xs=Ib):wpAny (model F.b.prog F.b.w) A (pyNext (.ref I)) (rj (model F.b.prog F.b.w) A f C s wr I i t x (toT zw xs) Z) Z' s:=by cases t with|tup=>cases hl;exact K0 w st hx|str=>cases hl;exact K1 w st hx|list=>exact K3 r w st hl hx|dict=>obtain⟨es,hn,rfl⟩:=hl;exact K6 r w st hn hx|range=>obtain⟨_,rfl⟩:=hl;exact K2 w st hx|enum=>obtain⟨ys,hn,rfl⟩:=hl;rw[Fv]at hx;obtain⟨y,hy,rfl⟩:=IG.mp hx;exact K5 r w st hn hy ht|items=>obtain⟨es,hn,rfl⟩:=hl;rw[IM]at hx;obtain⟨e,he,rfl⟩:=IG.mp hx;exact K4 r w st hn he ht
theorem next_end{t:IT}{l:List V}{I:I4}{Q:Option IX->IS->Prop}(hh:A.handled=none)(r:Rl F.b f C J s.heap)(st:y4 f C s.heap wr I l.length t)(hl:t.is l J)(hQ:∀h' tk,xu wr s.heap h'->Q none {s with heap:=h',toks:=tk}):wpAny (model F.b.prog F.b.w) A (pyNext (.ref I)) Q Z s:=by
 cases t with
 |tup=>cases hl;obtain⟨tt,items,ep,sl,g1,g2,g3,rfl,hit⟩:=st;exact wpAny_pyNext_tuple_end hh hit ⟨_,g1,rfl,_,rfl⟩ (by obtain this:=g3.length;replace this:=IE.symm.trans this;rw[<-this];exact Fn) λh' hs=>hQ h' s.toks (xu.but hs)
 |str ss=>
  cases hl;obtain⟨rfl,tk,T,hT,hit⟩:=st;obtain l_:(tx ss).cps[(ss.map λc=>V.str [c]).length]?=none:=by unfold tx;rw[IY];simp
  rcases hT with rfl|rfl;.exact wpAny_pyNext_ascii_end hh hit l_ λh' hs=>hQ h' s.toks (xu.but hs)
  .exact wpAny_pyNext_wide_end hh hit l_ λh' hs=>hQ h' s.toks (xu.but hs)
 |list=>obtain⟨a,fa,rfl,hit⟩:=st;obtain⟨w1,items,ep,g1,g2⟩:=xZ r fa hl;exact wpAny_pyNext_list_end hh hit ⟨_,g1,rfl,_,rfl⟩ (by have:=g2.length;replace this:=IE.symm.trans this;rw[<-this];exact Fn) λh' hs=>hQ h' s.toks (xu.but hs)
 |dict=>obtain⟨es,hn,rfl⟩:=hl;obtain⟨a,ents,ep,fa,rfl,g1,wa,hit⟩:=st;obtain⟨w1,wN,yS,tq,dr,nd⟩:=vg r fa hn;obtain⟨rfl,rfl⟩:=jh (g1.symm.trans tq);obtain⟨kvs,hm,k1,k2,k3,k4⟩:=qr dr nd g1;rw[<-k4]at hit;exact wpAny_pyNext_dict_end hh hit hm (G3 (by rewrite[IY];rw[k3];exact IV _)) λh' hs=>hQ h' s.toks (xu.but hs)
 |range=>obtain⟨_,rfl⟩:=hl;obtain⟨rfl,hit⟩:=st;rw[IY,Gb]at hit;exact wpAny_pyNext_range_end hh hit (by lia) λh' hs=>hQ h' s.toks (xu.but hs)
 |enum=>obtain⟨ys,hn,rfl⟩:=hl;obtain⟨a,T,old,fa,rfl,wM,he,hit⟩:=st;obtain⟨w1,items,ep,g1,g2⟩:=xZ r fa hn;rw[GI]at he hit;exact wpAny_pyNext_enum_end hh he hit ⟨_,g1,rfl,_,rfl⟩ (by have:=g2.length;replace this:=IE.symm.trans this;rw[<-this];exact Fn) λh' hs=>hQ h' s.toks ((xu.but hs).mono λc hc=>by rw[I_.mp hc];exact I6 _ IQ)
 |items=>obtain⟨es,hn,rfl⟩:=hl;obtain⟨a,ents,ep,ok,ov,fa,rfl,g1,wa,hit⟩:=st;obtain⟨w1,wN,yS,tq,dr,nd⟩:=vg r fa hn;obtain⟨rfl,rfl⟩:=jh (g1.symm.trans tq);obtain⟨kvs,hm,k1,k2,k3,k4⟩:=qr dr nd g1;rw[<-k4]at hit;exact wpAny_pyNext_items_end hh hit hm (G3 (by rewrite[IY];rw[k3];exact IV _)) λh' hs=>hQ h' s.toks (xu.but hs)
end
open PySem PySem.W PySem.Calls PyProof.Rows
theorem VX{i:Int}(h:small i=Ib):-(2^60:Int)<=i/\i<=2^60:=by obtain this:i.natAbs<=2^60:=ID h;lia
theorem Kc{m:Int}(h:small m=Ib):EW 0 m 1=Ib/\GF 0 m 1=(m.toNat:Int):=by
 obtain hb:=VX h;obtain e:GF 0 m 1=(m.toNat:Int):=by
  unfold GF;rw[if_pos (by decide)];split;.rw[Int.ediv_one];lia
  .lia
 refine⟨?_,e⟩;unfold EW;rw[e];simp only[Builtin.Range.rangeFitsLong,Hg,Hw,decide_eq_true_eq];refine⟨⟨⟨⟨by decide,?_⟩,by decide⟩,?_⟩,.inr ?_⟩;.constructor<;>lia
 .constructor<;>lia
 .rw[if_pos (by decide)];simp only[Hg,decide_eq_true_eq];constructor<;>lia
section
variable{F:Fr}{fr wr:List I4}{f f' z8:FM}{C zm zA:OW}{h h':Hu}{yN s s' zd:IS}{J zy zt:St}{A:Hv}{env:Env}{L zN:Loc}{zw:Pi}{xs:List Nat}{Z Z':IX->IS->Prop}{out:SR}
noncomputable def gp(F:Fr)(f:FM)(C:OW)(s:IS)(t:IT)(zt:St)(x:IX)(yl:IS):Prop:=X4 λz8 zA I wr=>C4 (x=.ref I) (Done F [] f C s zt z8 zA yl) (Wr F s zA yl.heap wr) (y4 z8 zA yl.heap wr I 0 t)
theorem qP{t:IT}{I:I4}{tk:Nat}(zD:Done F [] f C s zt z8 zA zd)(g:grows zd.heap h')(hw:∀c∈wr,zd.heap.objs.size<=c)(st:y4 z8 zA h' wr I 0 t):gp F f C s t zt (.ref I) {zd with heap:=h',toks:=tk}:=by refine⟨z8,zA,I,wr,rfl,zD.trans (Done.grow zD.rel g rfl rfl),⟨λc hc=>I5.mpr λo q=>?_,λc hc=>(tY zD.rel (hw c hc)).1,λc hc=>(tY zD.rel (hw c hc)).2,st.cls⟩,st⟩;obtain⟨o',vd⟩:=zD.ext.live c o q;exact absurd (HP vd) (Fg.mpr (hw c hc))
theorem one_le:∀{h:Hu},∀c∈[h.objs.size],h.objs.size<=c:=λc hc=>by rw[I_.mp hc];exact IV _
theorem nN(fk:Facts F.b)(r:Rl F.b f C J h){a:I4}{n:Nat}(w:C a=Ie n):(a==sysModules)=Ig:=beq_false_of_ne λe=>fk.sys (e▸r.fresh a n w)
set_option tactic.hygienic true in theorem Np(fk:Facts F.b){t:IT}{c:IX}{l:List V}(hk:t.k=.plain)(d:Done F [] f C s zt z8 zA zd)(hv:VR z8 zA zd.heap t.v c)(hl:t.is l zt):wpAny (model F.b.prog F.b.w) A (pyIter c) (gp F f C s t zt) Z zd:=by
 cases t<;>first|cases hk|skip
 .rename_i vs;obtain⟨t,items,ep,sl,rfl,g1,g2,g3⟩:=hv;refine wpAny_pyIter_tuple ⟨_,g1,rfl,_,rfl⟩ ?_;exact qP (tk:=zd.toks) d (wz _ _) one_le ⟨t,items,ep,sl,wz _ _ _ _ g1,g2,zS.ext (Ext.grow (fr:=[]) (wz _ _)) _ g3,rfl,_,IC _ rfl,rfl,rfl⟩
 .rename_i ss;obtain⟨t,rfl⟩:=hv;cases ha:(tx ss).cps.all (.<128)with|true=>exact wpAny_pyIter_ascii ha (qP (tk:=zd.toks) (t:=.str ss) d (wz _ _) one_le ⟨rfl,t,_,.inl rfl,_,IC _ rfl,rfl,rfl⟩)|false=>exact wpAny_pyIter_wide ha (qP (tk:=zd.toks) (t:=.str ss) d (wz _ _) one_le ⟨rfl,t,_,.inr rfl,_,IC _ rfl,rfl,rfl⟩)
 .obtain⟨a,fa,rfl⟩:=hv;obtain⟨w1,items,ep,g1,g2⟩:=xZ d.rel fa hl;exact wpAny_pyIter_list ⟨_,g1,rfl,_,rfl⟩ (qP (tk:=zd.toks) (t:=.list _) d (wz _ _) one_le ⟨a,fa,rfl,_,IC _ rfl,rfl,rfl⟩)
 .obtain⟨a,fa,rfl⟩:=hv;obtain⟨es,hn,rfl⟩:=hl;obtain⟨w1,ents,ep,g1,dr,nd⟩:=vg d.rel fa hn;obtain⟨kvs,hm,k1,k2,k3,k4⟩:=qr dr nd g1;refine wpAny_pyIter_dict (nN fk d.rel w1) hm ?_;rw[k4];exact qP (tk:=zd.toks) (t:=.dict _) d (wz _ _) one_le ⟨a,ents,ep,fa,rfl,wz _ _ _ _ g1,w1,_,IC _ rfl,rfl,rfl⟩
theorem K_{x:Sem IX}{M:Model}{Q:List IX->IS->Prop}(h:wpAny M A x (λv s'=>Q [v] s') Z s):wpAny M A (spliced [(Ig,x)]) Q Z s:=by rw[spliced];refine Ic (II h (λv s' h'=>?_) λzz zz x=>x);simp only[I0,if_false];exact Ic (IW (Ic (IL (FK (IW h')))))
theorem Wv{k:IK}{m:M}(h:w6 m=Ib)(x:IX):foldedSetIterable (pA zw k (zW m (s9 zw k))) env x=pure x:=by
 cases k<;>first|rfl|skip
 cases m<;>first|rfl|cases h
theorem call_one{y:Nat}{iW:Str}{v:V}{m:M}{p pos:Pos}{Q:IX->IS->Prop}{cv:V}(hy:nm y=iW)(hg:prog.glob y=Ie cv)(pe:nM env.scope iW=Ib)(hf:sI cv=Ib)(hM:w6 m=Ib)(h:E F L m J (.ok v zt))(ok:yu F.b.X m zw env.scope=Ib)(c:Cx F L J env A f C s)(k:∀fv w f' zm s',Done F [] f C s zt f' zm s'->VR f' zm s'.heap cv fv->VR f' zm s'.heap v w->wpAny (model F.b.prog F.b.w) A (Dr fv [w]) Q Z s'):wpAny (model F.b.prog F.b.w) A (eval (.Call (.Name iW p) [zW m zw] [] pos) env) Q Z s:=by show wpAny _ A (eval (.Name iW p) env>>=λfv=>callWith pos fv [] (backTo pos (starEach [zW m zw] env)) []) _ _ _;refine Ic (fZ c.ak.ok.glob c.rel c.en hy pe hg λwv nq=>?_);rw[dS hM];refine ju rfl (K_ (h.k ok c λw f' zm s' d hv=>?_));obtain nq:=VR.ext d.ext _ nq;exact⟨dw c.ak.ok d.rel nq hf,k wv w f' zm s' d nq hv⟩
theorem XY{t:IT}{m:M}{l:List V}{sc:Scope}(OG:sc=env.scope)(hI:dA sc t.k m zw=Ib)(hm:E F L m J (.ok t.v zt))(ok:yu F.b.X m (s9 zw t.k) sc=Ib)(c:Cx F L J env A f C s)(hl:t.is l zt):wpAny (model F.b.prog F.b.w) A (eval (pA zw t.k (zW m (s9 zw t.k))) env) (λx zd=>wpAny (model F.b.prog F.b.w) A (pyIter x) (gp F f C s t zt) Z zd) Z s:=by
 subst OG;obtain⟨hM,hI⟩:=zh hI;cases t with
 |tup|str|list|dict=>exact hm.k ok c λw f' zm s' d hv=>Np c.ak.ok rfl d hv hl
 |range i=>obtain⟨y,eH,eG⟩:=c.ak.ok.range;refine call_one eH eG hI rfl hM hm ok c λfv w z8 zA zd d el hv=>?_;cases el;obtain⟨hs,rfl⟩:=hl;obtain⟨t,rfl⟩:=hv;refine call_range_1 ?_;obtain⟨h1,h2⟩:=Kc hs;refine wpAny_pyIter_range (s:={zd with heap:=zd.heap.push _,toks:=_}) (IsRange.new ..) h1 ?_;rw[h2];obtain ze:=d.trans (Done.grow (fr:=[]) (s':={zd with heap:=zd.heap.push {cls:=.type "range",data:=.fields #[.int 0 zd.toks,.int i t,.int 1 (zd.toks+1)]},toks:=zd.toks+1+1}) d.rel (wz _ _) rfl rfl);exact qP (tk:=zd.toks+1+1) (t:=.range i) ze (wz _ _) one_le ⟨rfl,by obtain this:=IC (zd.heap.push {cls:=.type "range",data:=.fields #[.int 0 zd.toks,.int i t,.int 1 (zd.toks+1)]}) (o:={cls:=.type "range_iterator",data:=.fields #[rawInt 0,rawInt (i.toNat:Int),rawInt 1]}) rfl;simpa[IsRangeIter]using this⟩
 |enum n=>
  obtain⟨y,eH,eG⟩:=c.ak.ok.enum;refine call_one eH eG hI rfl hM hm ok c λfv w z8 zA zd d el hv=>?_;cases el;obtain⟨ys,hn,rfl⟩:=hl;obtain⟨ad,fa,rfl⟩:=hv;obtain⟨w1,items,ep,g1,g2⟩:=xZ d.rel fa hn;refine call_enumerate_list ⟨_,g1,rfl,_,rfl⟩ λh' he hit hz hk=>?_;refine wpAny_pyIter_enum (s:={zd with heap:=h'}) he ?_;exact qP (tk:=zd.toks) (t:=.enum n) (wr:=[zd.heap.objs.size+1,zd.heap.objs.size]) d hk (λc hc=>by
   rcases IU.mp hc with q|q;.rw[q];exact FJ _
   .rw[I_.mp q];exact IV _) ⟨ad,_,_,fa,rfl,E4 _,he,hit⟩
 |items n=>
  obtain⟨hb,hp⟩:=zh hI;show wpAny _ A (eval (.Call (.Attribute (zW m (sh zw 0)) "items" (zw [2]).p) [] [] (zw []).p) env) _ _ _;rewrite[arm_eval_Call];rw[dT hb];refine Ic (hm.k ok c λw z8 zA zd d hv=>Ic (I7 ?_));obtain⟨ad,fa,rfl⟩:=hv;obtain⟨es,hn,rfl⟩:=hl;obtain⟨w1,ents,ep,g1,dr,nd⟩:=vg d.rel fa hn;obtain⟨kvs,jF,k1,k2,k3,k4⟩:=qr dr nd g1;unfold methodCall;obtain hT:zd.TypeIs (.ref ad) "dict":=⟨_,g1,rfl⟩;rw[show methodCallForm (([]:List Expr).length+([]:List Keyword).length) (backTo (zw []).p (starEach [] env)) (backToKw (zw []).p (keywordEach [] env))=Ib from rfl];refine Ic (IL (getMethod_builtin hT Gz F5 (by kernel_rfl) (λa e=>by cases e;exact⟨_,g1,rfl⟩) ?_));dsimp only;obtain mp:methodCallPos Ib (zW m (sh zw 0)) env (zw [2]).p (zw []).p=pure (zw []).p:=by unfold methodCallPos;rw[show(!Ib||(zw [2]).p.endLine==(zw []).p.line)=Ib by rw[IJ hp];simp];rfl
  rw[mp];refine Ic (IW (ju rfl (FK ⟨⟨_,.inr rfl,Gq (by kernel_rfl)⟩,?_⟩)));refine call_meetsIn F5 hT PySem.F.entry_dict_items (PySem.F.args_dict_items_1 _) (meets_dict_items (strKind F.b.prog F.b.w) ad (nN c.ak.ok d.rel w1)) ⟨⟨kvs,jF.dictOf⟩,?_⟩;obtain gv:(zd.heap.push {cls:=.type "dict_items",data:=.fields #[.ref ad]}).IsItemsView zd.heap.objs.size ad:=⟨_,IC _ rfl,rfl,rfl⟩;refine wpAny_pyIter_items (s:={zd with heap:=zd.heap.push {cls:=.type "dict_items",data:=.fields #[.ref ad]}}) gv (jF.push _) ?_;rw[k4];exact qP (tk:=zd.toks) (t:=.items n) (d.trans (j_ (fr:=[]) d.rel {cls:=.type "dict_items",data:=.fields #[.ref ad]})) (wz _ _) one_le ⟨ad,ents,ep,_,_,fa,rfl,wz _ _ _ _ (wz _ _ _ _ g1),w1,IC _ rfl⟩
theorem az{v:V}{L L':Loc}(h:vK xs v L=Ie L')(hx:∀x,xs≠[x]):∃vs,v=.tup vs/\stores xs vs L=Ie L':=by match xs,hx,h with|[x],hx,zo=>exact absurd rfl (hx x)|[],zo,h|zY::zF::yX,xe,h=>cases v<;>first|exact⟨_,rfl,h⟩|cases h
theorem bG{v:V}{w:IX}{L L':Loc}{Q:Unit->IS->Prop}{prog:Program}{wo:World}(hh:A.handled=none)(z:tQ F.b env)(ho:∀x∈xs,vb env.scope (nm x)=Ib/\rq env fr x)(hb:vK xs v L=Ie L')(r:Rl F.b f C J s.heap)(e:yf f C s.heap env L)(hv:VR f C s.heap v w)(hQ:∀s',Done F fr f C s J f C s'->yf f C s'.heap env L'->Q () s'):wpAny (model prog wo) A (assign (toT zw xs) env w) Q Z s:=by match xs,ho,hb with|[x],ho,hb=>cases hb;show wpAny _ A (assign (.Name (nm x) (zw []).p) env w) _ _ _;rw[EE];obtain⟨o1,o2⟩:=ho x IQ;exact Ic (I7 (oY r e z o1 o2 hv hQ))|[],ho,hb|x::y::r',ho,hb=>obtain⟨vs,rfl,hs⟩:=az hb (by intro x q;cases q);obtain⟨t,items,ep,sl,rfl,g1,g2,g3⟩:=hv;exact bH hh z ho hs r e g1 g3 hQ
inductive FL(F:Fr)(xs:List Nat)(t:IT)(l:List V)(b:S):Nat->Loc->St->SR->Prop|stop{L:Loc}{J:St}:t.is l J->FL F xs t l b 0 L J (.ok .next L J)|turn{L zN ye:Loc}{J zt:St}{j:Nat}{x:V}{out:SR}:t.is l J->l[l.length-(j+1)]?=some x->vK xs x L=some zN->XB F zN b J (.ok .next ye zt)->FL F xs t l b j ye zt out->FL F xs t l b (j+1) L J out|ret{L zN ye:Loc}{J zt:St}{j:Nat}{x v:V}:t.is l J->l[l.length-(j+1)]?=some x->vK xs x L=some zN->XB F zN b J (.ok (.ret v) ye zt)->FL F xs t l b (j+1) L J (.ok (.ret v) ye zt)|exc{L zN ye:Loc}{J zt:St}{j:Nat}{x e:V}:t.is l J->l[l.length-(j+1)]?=some x->vK xs x L=some zN->XB F zN b J (.exc e ye zt)->FL F xs t l b (j+1) L J (.exc e ye zt)
theorem xY{t:IT}{l:List V}{m:M}{b:S}(hq:F.q=Ig)(hm:E F L m J (.ok t.v zt))(hl:t.is l zt)(hd:t.d=Ig)(h':FL F xs t l b l.length L zt out):X1 F L (.for xs t.k m b) J out:=by
 refine⟨λ{zw env A f C s}ok c=>?_⟩;obtain⟨o1,o2⟩:=zh ok;obtain⟨hT,hI⟩:=zh o1;obtain⟨om,ob⟩:=zh o2;have hh:=c.ak.hand hq;obtain ho:∀x∈xs,vb env.scope (nm x)=Ib/\rq env (xB env) x:=λx hx=>⟨I2.mp (zh hT).1 x hx,.inl ⟨c.func,rfl⟩⟩;refine wpAny_For (II (XY rfl hI hm om c.toCx hl) (λx zd p=>II p (λx yl p=>?_) λzz zz x=>x) λzz zz x=>x) (Wv (zh hI).1);obtain⟨z8,zA,I,wr,rfl,zD,rz,hU⟩:=p;refine codeAny_forLoop_any (I:=λj s'=>X4 λL' zy f' zm=>C6 (j<=l.length) (Done F (xB env) f C s zy f' zm s') (yf f' zm s'.heap env L') (Wr F s zm s'.heap wr) (y4 f' zm s'.heap wr I (l.length-j) t) (FL F xs t l b j L' zy out)) ?_ l.length ⟨L,zt,z8,zA,IV _,zD.wide,c.en.ext zD.ext,rz,by rw[H4];exact hU,h'⟩;intro j yl⟨ye,zb,yc,yg,hj,ze,wX,xE,pB,qk⟩;have body:∀{j:Nat}{x:V}{uh:Loc}{R:Option IX->IS->Prop}{RR:Unit->IS->Prop}{N:IX->IS->Prop},y4 yc yg yl.heap wr I (l.length-(j+1)) t->t.is l zb->l[l.length-(j+1)]?=Ie x->vK xs x ye=Ie uh->(∀w xp,wpAny (model F.b.prog F.b.w) A (letOwnedTupleGo (toT (sh zw 0) xs) (.ref I) w) (λzz s8=>wpAny (model F.b.prog F.b.w) A (assign (toT (sh zw 0) xs) env w) RR N s8) N xp->R (Ie w) xp)->(∀xR,Done F (xB env) f C s zb yc yg xR->Sx F uh zb env A yc yg xR->Wr F s yg xR.heap wr->y4 yc yg xR.heap wr I (l.length-(j+1)+1) t->RR () xR)->wpAny (model F.b.prog F.b.w) A (pyNext (.ref I)) R N yl:=by intro j x uh R RR N pB sU hx hb hR k;refine II (Wh (zw:=sh zw 0) (Z:=N) (Z':=λzz zz=>False) ze.rel xE pB sU hx hT) (λrr xp hr=>?_) λzz zz x=>x.elim;obtain⟨w,rfl,hr⟩:=hr;refine hR w xp (II hr (λzz s8 lH=>?_) λzz zz x=>x);obtain⟨h',tk,rfl,tc,VM,hv⟩:=lH;have uc:=Done.rF (tk:=tk) ze xE tc;have lh:yf yc yg h' env ye:=wX.rF xE tc;have rD:Wr F s yg h' wr:=xE.again VM xE.own;refine bG hh c.st ho hb uc.rel lh hv λxR wO fW=>?_;obtain k5:=nc rD wO.ext (λc hc pn=>rD.frame lh c pn hc);obtain nA:=y4.keep wO.ext.v wO.ext.xH k5 (λq=>by replace q:=hd.symm.trans q;cases q) VM;exact k xR (uc.trans wO) (c.nP (uc.trans wO) fW) (rD.again nA rD.own) nA
 cases qk with
 |stop sU=>refine next_end hh ze.rel (by rw[Nat.sub_zero]at pB;exact pB) sU λh' tk tc=>?_;exact IW ⟨rfl,yc,yg,Done.rF (tk:=tk) ze xE tc,wX.rF xE tc⟩
 |turn sU hx hb hB hr=>
  refine body pB sU hx hb (λw xp q=>q) λxR wO u0 ry nA=>II (hB.go ob u0) (λr vN p=>?_) λzz zz x=>x.elim;obtain⟨rfl,vG,vP,ux,RL⟩:=p;obtain k6:=nc ry ux.ext (λc hc pn=>ry.frame u0.en c pn hc);obtain cF:=y4.keep ux.ext.v ux.ext.xH k6 (λq=>by replace q:=hd.symm.trans q;cases q) nA;refine⟨_,H7 _,_,_,vG,vP,by lia,wO.trans ux,RL,ry.again cF (iR ry ux.ext),?_,hr⟩;rw[show∀j:Nat,j+1<=l.length->l.length-(j+1)+1=l.length-j fromλj h=>by lia]at cF;.exact cF
  .exact hj
 |ret sU hx hb hB=>refine body pB sU hx hb (λw xp q=>q) λxR wO u0 ry nA=>II (hB.go ob u0) (λr vN p=>?_) λzz zz x=>x.elim;obtain⟨w,vG,vP,rfl,ux,hv⟩:=p;exact⟨w,vG,vP,rfl,wO.trans ux,hv⟩
 |exc sU hx hb hB=>refine body pB sU hx hb (λw xp q=>q) λxR wO u0 ry nA=>II (hB.go ob u0) (λzz zz x=>x.elim) λx vN p=>?_;exact N3 c (tR.from wO p)
end
open PySem PySem.W PySem.Calls PyProof.Rows
noncomputable def ue(env:Env):List (Str×NameKind)->List (Str×I4)->List (Str×I4)|[],acc=>acc|(n,k)::r,acc=>if k==.free then ue env r ((n,(env.cells.lookup n).getD 0)::acc)else ue env r acc
set_option tactic.hygienic true in theorem gJ(env:Env):∀(l:List (Str×NameKind))(acc:List (Str×I4))(n:Str)(c:I4),(n,c)∈ue env l acc->(n,c)∈acc\/((n,.free)∈l/\c=(env.cells.lookup n).getD 0)
|[],zo,zY,zF,h=>.inl h
|(m,k)::r,acc,n,c,h=>by
 unfold ue at h;split at h
 .rename_i hk;rcases gJ env r _ n c h with z|z
  .rcases IU.mp z with e|e
   .cases e;have:k=.free:=by simpa using hk
    subst this;exact .inr ⟨IQ,rfl⟩
   .exact .inl e
  .exact .inr ⟨I6 _ z.1,z.2⟩
 .rcases gJ env r _ n c h with z|z;.exact .inl z
  .exact .inr ⟨I6 _ z.1,z.2⟩
set_option tactic.hygienic true in theorem gK(env:Env):∀(l:List (Str×NameKind))(acc:List (Str×I4))(n:Str),(∀c,(n,c)∈acc->c=(env.cells.lookup n).getD 0)->((n,GQ)∈l\/(acc.lookup n).isSome=Ib)->(ue env l acc).lookup n=Ie ((env.cells.lookup n).getD 0)
|[],acc,n,ha,h=>by
 rcases h with h|h;.cases h
 .obtain⟨c,hc⟩:=HJ.mp h;show acc.lookup n=_;rewrite[hc];rw[ha c (mem_of_lookup hc)]
|(m,k)::r,acc,n,ha,h=>by
 unfold ue;split
 .rename_i hk;refine gK env r _ n (λc hc=>?_) ?_
  .rcases IU.mp hc with e|e;.cases e;rfl
   .exact ha c e
  .by_cases q:n=m;.subst q;exact .inr (by rw[H6];simp)
   .rcases h with h|h
    .rcases IU.mp h with e|e;.cases e;exact absurd rfl q
     .exact .inl e
    .refine .inr ?_;rw[H6,show(n==m)=Ig by simpa using q];exact h
 .rename_i hk;refine gK env r acc n ha ?_;rcases h with h|h
  .rcases IU.mp h with e|e;.cases e;exact absurd rfl hk
   .exact .inl e
  .exact .inr h
set_option tactic.hygienic true in theorem gM{env:Env}(f:Str×NameKind->List (Str×I4)->Sem (ForInStep (List (Str×I4))))(hf:∀n k cs,f (n,k) cs=if k==.free then(do pure (.yield ((n,<-cellOf env n)::cs)))else pure (.yield cs)):∀(l:List (Str×NameKind))(acc:List (Str×I4)),(∀n,(n,GQ)∈l->(env.cells.lookup n).isSome=Ib)->(forIn l acc f:Sem _)=pure (ue env l acc)
|[],acc,zo=>by rw[F_];rfl
|(n,k)::r,acc,h=>by
 rewrite[Fq];rw[hf];unfold ue;split
 .rename_i hk;have:k=.free:=by simpa using hk
  subst this;obtain⟨c,hc⟩:=HJ.mp (h n IQ);rw[show cellOf env n=pure c by unfold cellOf;rw[hc]];simp only[pure_bind];rewrite[gM f hf r _ λn hn=>h n (I6 _ hn)];rw[hc];rfl
 .simp only[pure_bind];exact gM f hf r _ λn hn=>h n (I6 _ hn)
theorem Rz{sc:Scope}{env:Env}(h:∀n,(n,GQ)∈sc.names->(env.cells.lookup n).isSome=Ib):closureFor sc env=pure (ue env sc.names []):=by unfold closureFor;simp only[];rw[gM (env:=env) _ (λn k cs=>?_) sc.names [] h];all_goals rfl
section
variable{prog:Program}{w:World}{A:Hv}{s:IS}
theorem Ru{R:Result->IS->Prop}{elt target iter:Expr}{ifs:List Expr}{scope:Scope}{pos:Pos}{it acc:IX}{env:Env}(I:Nat->IS->Prop)(turn:∀n s,I n s->wpAny (model prog w) A (pyNext it) (λr zd=>match r with|none=>R (.ok .next) zd|Ie v=>wpAny (model prog w) A (letOwnedTupleGo target it v) (λzz VI=>wpAny (model prog w) A (assign target env v) (λzz yl=>wpAny (model prog w) A (forIn ifs Ib λc r=>if r=Ib then do let ok<-isTrue c env (eval c env);pure (Fp ok)else pure (Fp r)) (λok xp=>if ok=Ib then wpAny (model prog w) A (eval elt env) (λx s8=>wpAny (model prog w) A (call (.builtin "list.append") [acc,x]) (λzz xR=>∃m,m<n/\I m xR) (λzz zz=>False) s8) (λzz zz=>False) xp else∃m,m<n/\I m xp) (λzz zz=>False) yl) (λzz zz=>False) VI) (λzz zz=>False) zd) (λzz zz=>False) s)(n:Nat)(h:I n s):codeAny (model prog w) A (.compLoop (.ListComp elt [⟨target,iter,ifs,0⟩] scope pos) 0 it acc env) R s:=by refine codeAny_loop rfl I (λn s hI=>?_) n h;show wpAny _ A ((compTurn (.ListComp elt [⟨target,iter,ifs,0⟩] scope pos) 0 it acc env).onRaise (λx=>do noteFrame x env;theTreesLotGoes x)) _ _ s;refine wpAny_noted ?_;rw[compTurn_list];refine Ic (I7 (Ic (II (turn n s hI) (λr zd wG=>?_) λzz zz h'=>h'.elim)));cases r with|none=>exact IW wG|some v=>refine Ic (II wG (λzz VI O'=>?_) λzz zz h'=>h'.elim);refine Ic (II O' (λzz yl xI=>Ic (II xI (λok xp Xh=>?_) λzz zz h'=>h'.elim)) λzz zz h'=>h'.elim);cases ok with|false=>exact IW ⟨rfl,Xh⟩|true=>exact Ic (Ic (II Xh (λx s8 lH=>Ic (II lH (λzz xR Nz=>IW (IW ⟨rfl,Nz⟩)) λzz zz h'=>h'.elim)) λzz zz h'=>h'.elim))
end
section
variable{F:Fr}{fr wr:List I4}{f f' z8:FM}{C zm zA:OW}{h h':Hu}{yN s s' zd:IS}{J zy zt:St}{A:Hv}{env:Env}{L L':Loc}{M:Model}{E:IX->IS->Prop}
theorem Done.fresh(x:Done F [] f C s zt z8 zA zd)(y:Done F wr z8 zA zd zy f' zm s')(hw:∀c∈wr,s.heap.get? c=none):Done F [] f C s zy f' zm s':=by
 obtain nw:∀{c o},s.heap.get? c=Ie o->c∉wr:=λe q=>by rw[hw _ q]at e;cases e
 have z:=(x.wide (qo:=wr)).trans y;exact⟨⟨z.ext.w9,z.ext.xH,z.ext.nL,z.ext.live,λc o e n zz t=>z.ext.keep c o e n (nw e) t,z.ext.tup⟩,z.rel,z.gens,z.os,z.uI⟩
theorem MW{scope:Scope}{cl:List (Str×I4)}{g:I4}{q:Str}{Q:Env->IS->Prop}(hc:∀x∈scope.names,x.2≠.cell)(h:Q (newEnv scope s.heap.objs.size g cl q none .none (Ie env) builtinsNs) {s with heap:=s.heap.push {cls:=.type "dict",data:=.dict #[]}}):wpAny M A (newFunctionEnv scope g cl [] q none .none (Ie env)) Q E s:=by
 simp only[newFunctionEnv,Option.isSome_some,if_true];refine Ic (E0 ?_);rw[forIn_yield_id cl (λx hx c=>by
  obtain⟨name,kind⟩:=x;obtain this:(kind==EP)=Ig:=by simpa using hc _ hx
  simp only[this,I0,if_false])];refine Ic (IW (Ic ?_));rw[F_];exact IW (IW h)
theorem X6{kH:Str->NameKind->NameKind}:∀(l:List (Str×NameKind))(x:Str),(l.map λ(n,k)=>(n,kH n k)).lookup x=(l.lookup x).map (kH x)
|[],zo=>rfl
|(n,k)::r,x=>by
 show List.lookup x ((n,kH n k)::r.map λ(n,k)=>(n,kH n k))=_;rewrite[H6];rw[H6];cases hx:x==n with
 |true=>
  have:x=n:=by simpa using hx
  subst this;rfl
 |false=>exact X6 r x
theorem Vt{sc:Scope}{x:Str}:(relabel sc env).names.lookup x=(sc.names.lookup x).map λk=>if(k==.free&&env.scope.kind==.function&&env.kindOf x==Ie .cell)then .cell else k:=by rw[<-X6 (kH:=λn k=>if(k==.free&&env.scope.kind==.function&&env.kindOf n==Ie .cell)then .cell else k)];show(sc.names.map _).lookup x=_;congr 1;apply GS;intro p _;obtain⟨n,k⟩:=p;dsimp only;split<;>rfl
structure gn(env:Env)(sc:Scope)(xs:List Nat):Prop where
 kind:sc.kind=.function
 out:env.scope.kind=.function
 gen:sc.isGenerator=false
 JI:sc.isCoroutine=false
 free:∀n,(n,NameKind.free)∈sc.names->env.kindOf n=some .cell
 kinds:∀p∈sc.names,p.2=.free\/p.2=.local\/p.2=.globalImplicit
 loc:∀n,(n,NameKind.local)∈sc.names->sc.names.lookup n=some .local/\(n=".0"\/∃x∈xs,n=nm x)
theorem Rr{sc:Scope}{xs:List Nat}(h:dB env.scope sc xs=Ib):gn env sc xs:=by
 simp only[dB,Hg,Hp,I2,beq_iff_eq]at h;obtain⟨⟨⟨⟨⟨h0,h1⟩,h2⟩,h3⟩,h4⟩,h5⟩:=h;refine⟨h1,h2,h3,h4,fun n hn=>?_,fun p hp=>?_,fun n hn=>?_⟩;·obtain this:=h5 _ hn;simp only[isFree,Hw,Hg,beq_iff_eq,reduceCtorEq,or_self,or_false]at this;exact this.2
 ·obtain this:=h5 _ hp;simp only[isFree,Hw,Hg,beq_iff_eq]at this;exact this.imp_left (·.1)
 ·obtain this:=h0 _ hn;simp only[WU,pY,Hw,Hg,beq_iff_eq,bne_self_eq_false,I0,false_or,E3]at this;exact⟨this.1,this.2⟩
noncomputable def rJ(xs:List Nat)(L:Loc):Loc:=xs.foldl (λL x=>rm x L) L
theorem X9(x:Nat):∀(L:Loc)(y:Nat),lk y (rm x L)=if y=x then none else lk y L
|[],y=>by rewrite[rm];rw[lk];split<;>rfl
|(z,w)::r,y=>by
 have ih:=X9 x r y;unfold rm;rw[sM];cases hz:IP x z with
 |true=>
  have e:=IJ hz;subst e;show lk y (rm x r)=_;rw[ih];by_cases q:y=x;.rewrite[if_pos q];rw[if_pos q]
  .rewrite[if_neg q];rewrite[if_neg q];rw[if_neg q]
 |false=>
  show lk y ((z,w)::rm x r)=_;rewrite[sM];rw[ih];by_cases q:y=z;.subst q;rewrite[if_pos rfl];rewrite[if_pos rfl];rw[if_neg (λe=>by rw[e,G9]at hz;cases hz)]
  .rewrite[if_neg q];rw[if_neg q]
theorem nV:∀(xs:List Nat)(L:Loc)(y:Nat),lk y (rJ xs L)=if y∈xs then none else lk y L
|[],L,y=>(if_neg F6).symm
|x::xs,L,y=>by
 show lk y (rJ xs (rm x L))=_;rewrite[nV xs];rw[X9];by_cases a:y=x;.subst a;simp
 .simp[a]
set_option tactic.hygienic true in theorem S6{sc:Scope}{xs:List Nat}{K:I4}(ee:yf f C h env L)(cs:gn env sc xs)(hK:h.get? K=Ie (xo #[] 0))(hw:C K=none)(h0:lk 52 L=none):yf f C h (compEnvC sc (ue env sc.names []) K env) (rJ xs L):=by
 have fm:∀{n k},sc.names.lookup n=Ie k->(n,k)∈sc.names:=λe=>mem_of_lookup e;have XH:∀{n k'},(relabel sc env).names.lookup n=Ie k'->∃k,C3 (sc.names.lookup n=Ie k) (k=.free\/k=.local\/k=.globalImplicit) (k'=k\/(k=.free/\k'=.cell)):=by
  intro n k' hn;replace hn:=Vt.symm.trans hn;obtain⟨k,hk,e⟩:=IG.mp hn;refine⟨k,hk,cs.kinds _ (fm hk),?_⟩;split at e;.rename_i hc;simp only[Hg,beq_iff_eq]at hc;exact .inr ⟨hc.1.1,e.symm⟩
  .exact .inl e.symm
 have av:∀{n},(relabel sc env).names.lookup n=Ie .cell\/(relabel sc env).names.lookup n=Ie .free->(n,GQ)∈sc.names:=by intro n hn;rcases hn with hn|hn<;>obtain⟨k,hk,q,e⟩:=XH hn<;>rcases e with rfl|⟨rfl,e⟩<;>first|exact fm hk|(rcases q with q|q|q<;>cases q)
 have look:∀{n},(n,GQ)∈sc.names->(ue env sc.names []).lookup n=env.cells.lookup n:=by intro n hn;rw[gK env sc.names [] n (λc hc=>nomatch hc) (.inl hn)];obtain⟨c,hc⟩:=ee.has n (cs.free n hn);rw[hc];rfl
 refine⟨cs.kind,ee.glob,ee.blt,hw,λn hn=>?_,⟨λzz=>none,⟨_,#[],0,hK,rfl,rfl,λe he=>absurd he (by simp),λn=>rfl⟩,λx v hv hk=>?_⟩,λn c hn=>?_,λx v hv hk=>?_⟩;.have:=av (.inl hn);show∃c,(ue env sc.names []).lookup n=Ie c;rw[look this];exact ee.has n (cs.free n this)
 .exfalso;obtain⟨k,hq,_,e⟩:=XH (show(relabel sc env).names.lookup (nm x)=Ie .local from hk);rcases e with rfl|⟨_,e⟩
  .rw[nV]at hv;rcases(cs.loc _ (fm hq)).2 with e|⟨y,hy,e⟩
   .have:x=52:=dK (e.trans (by decide+kernel));subst this;split at hv;.cases hv
    .replace hv:=h0.symm.trans hv;cases hv
   .have:x=y:=dK e;subst this;rw[if_pos hy]at hv;cases hv
  .cases e
 .rcases gJ env sc.names [] n c hn with z|⟨z1,z2⟩;.cases z
  .obtain⟨c',wW⟩:=ee.has n (cs.free n z1);rw[wW]at z2;have:c=c':=z2;subst this;exact ee.cells n c (mem_of_lookup wW)
 .have hf:=av hk;rw[nV]at hv;split at hv;.cases hv
  .obtain⟨c,w,c1,c2,c3⟩:=ee.cell x v hv (.inl (cs.free _ hf));exact⟨c,w,(look hf).trans c1,c2,c3⟩
theorem yf.sub{bZ:Loc}(e:yf f C h env L)(q:∀y v,lk y bZ=Ie v->lk y L=Ie v):yf f C h env bZ:=⟨e.kind,e.glob,e.blt,e.own,e.has,let⟨m,n,a6⟩:=e.loc;⟨m,n,λx v hv hk=>a6 x v (q x v hv) hk⟩,e.cells,λx v hv hk=>e.cell x v (q x v hv) hk⟩
end
open PySem PySem.W PySem.Calls PyProof.Rows
theorem VQ:∀{xs:List Nat}{vs:List V}{zN ye L':Loc},(∀y,y∉xs->lk y zN=lk y ye)->stores xs vs zN=Ie L'->∃tT,stores xs vs ye=Ie tT/\∀y,lk y L'=lk y tT
|[],[],zN,ye,L',hq,h=>by cases h;exact⟨ye,rfl,λy=>hq y F6⟩
|x::xs,v::vs,zN,ye,L',hq,h=>by
 refine VQ (xs:=xs) (vs:=vs) (λy hy=>?_) h;rewrite[vD];rw[vD];by_cases a:y=x;.rewrite[if_pos a];rw[if_pos a]
 .rewrite[if_neg a];rw[if_neg a];exact hq y λz=>(IU.mp z).elim a hy
|[],zo::zY,zF,yX,xe,vM,h|uR::u7,[],rx,kI,gu,gq,h=>by cases h
theorem Sd{xs:List Nat}{v:V}{zN ye L':Loc}(hq:∀y,y∉xs->lk y zN=lk y ye)(h:vK xs v zN=Ie L'):(∃tT,vK xs v ye=Ie tT/\∀y,lk y L'=lk y tT)/\∀y,y∉xs->lk y L'=lk y zN:=by
 match xs,hq,h with
 |[x],hq,h=>
  cases h;refine⟨⟨_,rfl,λy=>?_⟩,λy hy=>?_⟩
  .rewrite[vD];rw[vD];by_cases a:y=x;.rewrite[if_pos a];rw[if_pos a]
   .rewrite[if_neg a];rw[if_neg a];exact hq y λz=>a (I_.mp z)
  .rewrite[vD];rw[if_neg λ(e:y=x)=>hy (e▸IQ)]
 |[],hq,h|x::y::r,hq,h=>obtain⟨vs,rfl,hs⟩:=az h (by intro x q;cases q);exact⟨VQ hq hs,(hW hs).1⟩
inductive CL(F:Fr)(L:Loc)(xs:List Nat)(t:IT)(l:List V)(elt y_:M)(n0:Nat):Nat->List V->St->List V->St->Prop|stop{acc:List V}{J:St}:t.is l J->CL F L xs t l elt y_ n0 0 acc J acc J|skip{j:Nat}{acc ys:List V}{J zt vX:St}{x:V}{zN:Loc}{c:M}:t.is l J->l[l.length-(j+1)]?=some x->vK xs x L=some zN->y_=.cons c .nil->E {F with s:=t.d} zN c J (.ok (.bool false) zt)->CL F L xs t l elt y_ n0 j acc zt ys vX->CL F L xs t l elt y_ n0 (j+1) acc J ys vX|take{j:Nat}{acc ys:List V}{J zt zb vX:St}{x y:V}{zN:Loc}:t.is l J->l[l.length-(j+1)]?=some x->vK xs x L=some zN->(y_=.nil/\zt=J\/∃c,y_=.cons c .nil/\E {F with s:=t.d} zN c J (.ok (.bool true) zt))->E {F with s:=t.d} zN elt zt (.ok y zb)->zb[n0]?=some (.list acc)->short acc=true->CL F L xs t l elt y_ n0 j (acc++[y]) (zb.set n0 (.list (acc++[y]))) ys vX->CL F L xs t l elt y_ n0 (j+1) acc J ys vX
section
variable{F:Fr}{fr wr:List I4}{f f' z8:FM}{C zm zA:OW}{h h':Hu}{yN s s' zd:IS}{J zy zt:St}{A:Hv}{env:Env}{L L' zN:Loc}{zw:Pi}
theorem R_:entryFor table "dict_itemiterator.__iter__"=Ie Builtin.«dict_keyiterator.__iter__»:=entryFor_alias (id':="dict_keyiterator.__iter__") (by kernel_rfl) (by first|rfl|decide+kernel|(unfold String.splitOn;simp+decide [String.splitOnAux])) (by decide+kernel) (by kernel_rfl)
theorem Nn{t:IT}{I:I4}{i:Nat}{Q:IX->IS->Prop}{E:IX->IS->Prop}(st:y4 f C s.heap wr I i t)(h:Q (.ref I) s):wpAny (model F.b.prog F.b.w) A (pyIter (.ref I)) Q E s:=by
 cases t with
 |tup=>obtain⟨_,_,_,_,_,_,_,_,hit⟩:=st;exact wpAny_pyIter_tupleiter hit h
 |str=>
  obtain⟨_,_,T,hT,hit⟩:=st;rcases hT with rfl|rfl;.exact wpAny_pyIter_striter_ascii hit h
  .exact wpAny_pyIter_striter_wide hit h
 |list=>obtain⟨_,_,_,hit⟩:=st;exact wpAny_pyIter_listiter hit h
 |dict=>obtain⟨_,_,_,_,_,_,_,hit⟩:=st;exact wpAny_pyIter_keyiter hit h
 |range=>obtain⟨_,hit⟩:=st;exact wpAny_pyIter_rangeiter hit h
 |enum=>obtain⟨_,_,_,_,_,_,he,_⟩:=st;exact wpAny_pyIter_enum he h
 |items=>obtain⟨_,_,_,_,_,_,_,_,_,hit⟩:=st;obtain hT:s.TypeIs (.ref I) "dict_itemiterator":=⟨_,hit,rfl⟩;refine wpAny_pyIter_slot hT GP (G0 GP hT R_ ?_ (PySem.F.args_dict_itemiterator_iter_1 _));show wpAny _ _ (ret (.ref I)) _ _ s;exact IW ⟨_,rfl,"dict_itemiterator",_,hT,PySem.F.slot_dict_itemiterator_next.lookup,h⟩
theorem Ry{a:I4}{o o':Obj}(e:h.get? a=Ie o)(e':h.get? a=Ie o')(hc:(o.cls==o'.cls)=Ig):False:=by rw[e]at e';cases e';rw[beq_self_eq_true]at hc;cases hc
theorem Done.calm{d:Bool}(x:Done {F with s:=d} fr f C s zy f' zm s')(hs:F.s=Ig):Done F fr f C s zy f' zm s':=⟨x.ext,x.rel,x.gens,x.os,λq=>by rw[hs]at q;cases q⟩
theorem Cx.calm{d:Bool}(c:Cx F L J env A f C s):Cx {F with s:=d} L J env A f C s:=⟨c.rel,c.en,⟨c.ak.depth,c.ak.units,c.ak.nO,c.ak.ok,c.ak.hand,c.ak.frames⟩⟩
theorem jb{n:Nat}{a:I4}{xs:List V}{items:Array IX}{ep tk:Nat}{h':Hu}(z6:F.s=Ig)(r:Rl F.b f C J s.heap)(fa:f n=Ie a)(w:C a=Ie n)(hs:HU a s.heap h')(g:h'.get? a=Ie ⟨.type "list",none,.seq items ep,#[]⟩)(hv:zS f C s.heap xs items.toList):Done F [] f C s (J.set n (.list xs)) f C {s with heap:=h',toks:=tk}:=by obtain ex:∀{fr},Ext fr f C s.heap f C h':=Ext.write hs w ⟨_,g⟩;exact⟨ex,r.write hs w ⟨_,g⟩ fa ⟨w,items,ep,g,zS.ext (ex (fr:=[])) _ hv⟩,rfl,rfl,λz=>by replace z:=z6.symm.trans z;cases z⟩
theorem LC{sc:Scope}{x:Str}(h:sc.names.lookup x=Ie .local):vR (relabel sc env) x=Ie .local:=by unfold vR;rewrite[Vt];rw[h];rfl
theorem LB{sc:Scope}{xs:List Nat}{k:IK}(cs:gn env sc xs)(h:rO sc k xs=Ib):rO (relabel sc env) k xs=Ib/\∀x∈xs,vR (relabel sc env) (nm x)=Ie .local:=by
 obtain⟨h1,h2⟩:=zh h;have loc:∀x∈xs,vR (relabel sc env) (nm x)=Ie .local:=λx hx=>by
  rcases(Hw _ _).mp (I2.mp h1 x hx)with q|q;.exact LC (eq_of_beq q)
  .rcases cs.kinds _ (mem_of_lookup (eq_of_beq q))with z|z|z<;>cases z
 exact⟨Fu.mpr ⟨I2.mpr λx hx=>by unfold vb pY;rw[loc x hx];rfl,h2⟩,loc⟩
theorem Rq{t:IT}{l:List V}{xs:List Nat}{elt y_:M}{n0:Nat}{Nq:Expr}{sc:Scope}{pos:Pos}{vh:Env}{I D:I4}{ys:List V}{vX:St}{RR:Result->IS->Prop}{oz UI bj:Pi}(z6:F.s=Ig)(hh:A.handled=none)(a:xP F A C s.heap)(st:tQ F.b vh)(P2:s.heap.get? vh.locals=none)(hT:rO vh.scope t.k xs=Ib)(tf:∀x∈xs,vR vh.scope (nm x)=Ie .local)(oe:yu F.b.X elt UI vh.scope=Ib)(oc:yu F.b.X y_ bj vh.scope=Ib)(hR:∀f' zm L' s',Done F [] f C s vX f' zm s'->yf f' zm s'.heap vh L'->f' n0=Ie D->RR (.ok .next) s')(zD:Done F [] f C s zt z8 zA zd)(xC:yf z8 zA zd.heap vh (rJ xs L))(rz:Wr F s zA zd.heap wr)(eB:y4 z8 zA zd.heap wr I 0 t)(hD:z8 n0=Ie D)(vE:CL F L xs t l elt y_ n0 l.length [] zt ys vX):codeAny (model F.b.prog F.b.w) A (.compLoop (.ListComp (zW elt UI) [⟨toT oz xs,Nq,xQ y_ bj,0⟩] sc pos) 0 (.ref I) (.ref D) vh) RR zd:=by
 refine Ru (I:=λj s'=>X5 λL' zy f' zm acc=>C8 (j<=l.length) (Done F [] f C s zy f' zm s') (yf f' zm s'.heap vh L') (∀y u,lk y (rJ xs L)=Ie u->lk y L'=Ie u) (Wr F s zm s'.heap wr) (y4 f' zm s'.heap wr I (l.length-j) t) (f' n0=Ie D) (CL F L xs t l elt y_ n0 j acc zy ys vX)) ?_ l.length ⟨rJ xs L,zt,z8,zA,[],IV _,zD,xC,λzz zz h=>h,rz,by rw[H4];exact eB,hD,vE⟩;intro j yl⟨ye,zb,yc,yg,acc,hj,ze,wX,PS,xE,ng,fF,qk⟩;have body:∀{j:Nat}{x:V}{uh:Loc}{R:Option IX->IS->Prop}{RR:Unit->IS->Prop},y4 yc yg yl.heap wr I (l.length-(j+1)) t->t.is l zb->l[l.length-(j+1)]?=Ie x->vK xs x L=Ie uh->(∀w xp,wpAny (model F.b.prog F.b.w) A (letOwnedTupleGo (toT oz xs) (.ref I) w) (λzz s8=>wpAny (model F.b.prog F.b.w) A (assign (toT oz xs) vh w) RR (λzz zz=>False) s8) (λzz zz=>False) xp->R (Ie w) xp)->(∀xR,Done F [] f C s zb yc yg xR->Cx F uh zb vh A yc yg xR->(∀y u,lk y (rJ xs L)=Ie u->lk y uh=Ie u)->Wr F s yg xR.heap wr->y4 yc yg xR.heap wr I (l.length-(j+1)+1) t->RR () xR)->wpAny (model F.b.prog F.b.w) A (pyNext (.ref I)) R (λzz zz=>False) yl:=by
  intro j x uh R RR ng hl hx hb hR k;refine II (Wh (zw:=oz) (Z:=λzz zz=>False) (Z':=λzz zz=>False) ze.rel xE ng hl hx hT) (λrr xp hr=>?_) λzz zz x=>x;obtain⟨w,rfl,hr⟩:=hr;refine hR w xp (II hr (λzz s8 lH=>?_) λzz zz x=>x);obtain⟨h',tk,rfl,tc,XX,hv⟩:=lH;have uc:=Done.rF (tk:=tk) ze xE tc;have lh:yf yc yg h' vh ye:=wX.rF xE tc;have rD:Wr F s yg h' wr:=xE.again XX xE.own;obtain⟨⟨JO,PE,eV⟩,OR⟩:=Sd (ye:=rJ xs L) (λy hy=>by rewrite[nV];rw[if_neg hy]) hb;refine bG (F:={F with s:=t.d}) (fr:=[vh.locals]) (J:=zb) (f:=yc) (C:=yg) hh st (λx hx=>⟨I2.mp (zh hT).1 x hx,.inr ⟨tf x hx,rfl⟩⟩) PE uc.rel (lh.sub PS) hv λxR Z6 fW=>?_;obtain wO:=Z6.calm z6;obtain dd:=uc.fresh wO (λc hc=>by rw[I_.mp hc];exact P2);obtain k5:=nc rD wO.ext (λc hc pn=>rD.frame lh c (by rw[I_.mp pn];exact IQ) hc);obtain nf:=y4.keep wO.ext.v wO.ext.xH k5 (λq c n ents ep w g=>Z6.uI q c n _ w g) XX;refine k xR dd ⟨wO.rel,fW.congr eV,a.ext dd.ext⟩ (λy u hy=>?_) (rD.again nf rD.own) nf;have ny:y∉xs:=λq=>by rw[nV,if_pos q]at hy;cases hy
  rw[nV,if_neg ny]at hy;rw[OR y ny];exact hy
 have gh:∀{j:Nat}{vG r_:FM}{vP sF:OW}{vN tW:IS}{ow qL:St}{uh:Loc},Done F [] f C s ow vG vP vN->Cx F uh ow vh A vG vP vN->Wr F s vP vN.heap wr->y4 vG vP vN.heap wr I j t->Done {F with s:=t.d} [] vG vP vN qL r_ sF tW->C4 (Done F [] f C s qL r_ sF tW) (Cx F uh qL vh A r_ sF tW) (Wr F s sF tW.heap wr) (y4 r_ sF tW.heap wr I j t):=by intro j vG r_ vP sF vN tW ow qL uh d c w i dc;obtain d':=dc.calm z6;obtain i':=y4.keep d'.ext.v d'.ext.xH (nc w d'.ext (λc zz q=>nomatch q)) (λq c n ents ep w g=>dc.uI q c n _ w g) i;exact⟨d.trans d',c.next d',w.again i' (iR w d'.ext),i'⟩
 cases qk with
 |stop hl=>refine next_end hh ze.rel (by rw[Nat.sub_zero]at ng;exact ng) hl λh' tk tc=>?_;exact hR yc yg ye _ (Done.rF (tk:=tk) ze xE tc) (wX.rF xE tc) fF
 |skip hl hx hb hc hE hr=>
  subst hc;obtain⟨o1,o2⟩:=zh oc;refine body ng hl hx hb (λw xp q=>q) λxR wO u0 fC ry nf=>?_;refine wpAny_tests_one (II (hE.t (zh o2).1 u0.calm) (λr vN p=>?_) λzz zz x=>x.elim);obtain⟨vG,vP,q8,rfl⟩:=p;obtain⟨ux,qB,bz,iu⟩:=gh wO u0 ry nf q8;simp only[I0,if_false];refine⟨_,H7 _,_,_,vG,vP,acc,by lia,ux,qB.en,fC,bz,?_,q8.ext.w9 _ _ fF,hr⟩;rw[show∀j:Nat,j+1<=l.length->l.length-(j+1)+1=l.length-j fromλj h=>by lia]at iu;.exact iu
  .exact hj
 |@take j' zo zY zF yK r8 yX x y uh hl hx hb hc hE hn o9 hr=>
  refine body ng hl hx hb (λw xp q=>q) λxR wO u0 fC ry nf=>?_;obtain tests:∀{Q:Bool->IS->Prop},(∀vN vG vP,Done {F with s:=t.d} [] yc yg xR yK vG vP vN->Q Ib vN)->wpAny (model F.b.prog F.b.w) A (forIn (xQ y_ bj) Ib λc r=>if r=Ib then do let ok<-isTrue c vh (eval c vh);pure (Fp ok)else pure (Fp r)) Q (λzz zz=>False) xR:=by
   intro Q hQ;rcases hc with⟨rfl,rfl⟩|⟨c,rfl,hc⟩;.exact wpAny_tests_nil (hQ xR yc yg (Done.refl wO.rel))
   .obtain⟨o1,o2⟩:=zh oc;refine wpAny_tests_one (II (hc.t (zh o2).1 u0.calm) (λr vN p=>?_) λzz zz x=>x.elim);obtain⟨vG,vP,q8,rfl⟩:=p;exact hQ vN vG vP q8
  refine tests λvN vG vP q8=>?_;obtain⟨ux,qB,bz,iu⟩:=gh wO u0 ry nf q8;simp only[if_true];refine II (hE.w oe qB.calm) (λw tW p=>?_) λzz zz x=>x.elim;obtain⟨r_,sF,Z5,O2⟩:=p;obtain⟨q7,qA,bx,Nm⟩:=gh ux qB bz iu Z5;have fE:=Z5.ext.w9 _ _ (q8.ext.w9 _ _ fF);obtain⟨wD,items,ep,gD,hv⟩:=xZ q7.rel fE hn;refine wpAny_list_append_plain ⟨ep,gD⟩ (λNy PV Xq=>?_) (by rewrite[<-IE];rw[hv.length];exact vJ o9);obtain⟨yS,Pk⟩:=PV;obtain tv:Done F [] r_ sF tW (r8.set n0 (.list (acc++[y]))) r_ sF {tW with heap:=Ny}:=jb (tk:=tW.toks) z6 q7.rel fE wD Xq Pk (by rw[FI];exact zS.append hv (zS.single O2));obtain e9:=y4.keep tv.ext.v tv.ext.xH (nc bx tv.ext (λc zz q=>nomatch q)) (λzz c n ents ep w g=>(Xq.2 c λq=>Ry gD (q▸g) (show(HG "list"==.type "dict")=Ig by decide)).trans g) Nm;rw[show l.length-(j'+1)+1=l.length-j' by lia]at e9;exact⟨j',H7 _,uh,_,r_,sF,acc++[y],by lia,q7.trans tv,(qA.next tv).en,fC,bx.again e9 (iR bx tv.ext),e9,fE,hr⟩
end
open PySem PySem.W PySem.Calls PyProof.Rows
section
variable{F:Fr}{fr wr:List I4}{f f' z8:FM}{C zm zA:OW}{h h':Hu}{yN s s' zd:IS}{J zy zt:St}{A:Hv}{env:Env}{L L' zN:Loc}{zw:Pi}
noncomputable def UC(F:Fr)(s:IS)(C:OW)(s':IS)(K:I4):Prop:=C3 (s.heap.get? K=none) (oq F s C s'.heap [K]) (∃m,qz s'.heap K (.type "dict") m)
theorem ae{t:IT}{l:List V}{xs:List Nat}{elt it y_:M}{ys:List V}{vX:St}{use:Option (IX->Sem Unit)}{Q Z:IX->IS->Prop}(hq:F.q=Ig)(z6:F.s=Ig)(h0:lk 52 L=none)(ok:yu F.b.X (.comp elt xs t.k it y_) zw env.scope=Ib)(c:Cx F L J env A f C s)(hm:E F L it J (.ok t.v zt))(hl:t.is l zt)(vE:CL F L xs t l elt y_ zt.length l.length [] (zt++[.list []]) ys vX)(hv:∀f' zm D K s',Done F [] f C s vX f' zm s'->f' zt.length=Ie D->UC F s zm s' K->compPost (model F.b.prog F.b.w) A Z use Q (.ref D) K (.ok .next) s'):wpAny (model F.b.prog F.b.w) A (comprehension (zW (.comp elt xs t.k it y_) zw) (zw []).sc env (firstIterPos [⟨toT (sh zw 1) xs,pA (sh zw 2) t.k (zW it (s9 (sh zw 2) t.k)),xQ y_ (sh zw 3),0⟩] (zw []).p) (newList []) Ig (eval (pA (sh zw 2) t.k (zW it (s9 (sh zw 2) t.k))) env) use) Q Z s:=by
 obtain⟨o1,o2⟩:=zh ok;obtain⟨hc,o1⟩:=zh o1;obtain⟨hT,hI⟩:=zh o1;obtain⟨om,o2⟩:=zh o2;obtain⟨oe,oc⟩:=zh o2;obtain hh:=c.ak.hand hq;have cs:=Rr hc;obtain⟨PQ,tf⟩:=LB (env:=env) cs hT;obtain Ot:∀n,(n,GQ)∈(zw []).sc.names->(env.cells.lookup n).isSome=Ib:=λn hn=>let⟨_,q⟩:=c.en.has n (cs.free n hn);by rw[q];rfl
 refine wpAny_comprehension_free (g:=⟨toT (sh zw 1) xs,pA (sh zw 2) t.k (zW it (s9 (sh zw 2) t.k)),xQ y_ (sh zw 3),0⟩) (gs:=[]) rfl (Wv (zh hI).1) (Rz Ot) cs.kind (λp hp hl=>(cs.loc p.1 (by obtain⟨n,kk⟩:=p;dsimp only at hl;subst hl;exact hp)).1) ?_;refine II (XY rfl hI hm om c hl) (λx zd p=>II p (λx zd p=>?_) λzz zz x=>x) λzz zz x=>x;obtain⟨z8,zA,I,wr,rfl,zD,rz,eB⟩:=p;refine H' ?_ (HL _);have po:=pL (tk:=zd.toks) (vs:=[]) (items:=#[]) zD.rel grows.refl rfl;obtain⟨yc,yg,ze,D,hD,q⟩:=po;obtain qD:D=zd.heap.objs.size:=(Value.ref.inj q).symm;generalize hH:zd.heap.push (nE "list" #[] 0)=H at ze;obtain JD:H.objs.size=zd.heap.objs.size+1:=by rewrite[<-hH];rw[G7]
 show wpAny _ A (newFunctionEnv _ _ _ [] _ none .none (Ie env)) _ _ {zd with heap:=zd.heap.push (nE "list" #[] 0)};rw[hH];refine MW (λx hx e=>by rcases cs.kinds x hx with z|z|z<;>rw[z]at e<;>cases e) ?_;obtain YI:=wz H (xo #[] 0);obtain PU:(H.push (xo #[] 0)).get? H.objs.size=Ie (xo #[] 0):=IC _ rfl;obtain yL:Done F [] yc yg {zd with heap:=H} (zt++[.list []]) yc yg {zd with heap:=H.push (xo #[] 0)}:=Done.grow ze.rel YI rfl rfl;obtain aX:=(zD.trans ze).trans yL;obtain⟨oK,bK⟩:=tY ze.rel (IV H.objs.size);have nK:s.heap.get? H.objs.size=none:=I5.mpr λo q=>by obtain⟨o',q'⟩:=(zD.trans ze).ext.live _ o q;exact absurd (HP q') (Nat.lt_irrefl _)
 obtain jj:=ze.trans yL;obtain fX:yf yc yg (H.push (xo #[] 0)) (compEnvC (zw []).sc (ue env (zw []).sc.names []) H.objs.size env) (rJ xs L):=S6 (c.en.ext aX.ext) cs PU oK h0;obtain eA:=y4.keep jj.ext.v jj.ext.xH (nc rz jj.ext λc zz q=>nomatch q) (λzz c n ents ep w g=>YI _ _ (hH▸wz _ _ _ _ g)) eB;obtain Un:=rz.again eA (iR rz jj.ext);obtain loop:codeAny (model F.b.prog F.b.w) A (.compLoop (zW (.comp elt xs t.k it y_) zw) 0 (.ref I) (.ref zd.heap.objs.size) (compEnvC (zw []).sc (ue env (zw []).sc.names []) H.objs.size env)) (compPost (model F.b.prog F.b.w) A Z use Q (.ref zd.heap.objs.size) H.objs.size) {zd with heap:=H.push (xo #[] 0)}:=by refine Rq (F:=F) (f:=f) (C:=C) (s:=s) (n0:=zt.length) (D:=zd.heap.objs.size) z6 hh c.ak ⟨bK,(λq=>Gw q),(λq=>Gw q)⟩ nK PQ tf oe oc (λf' zm L' s' d' e' PW=>?_) (zd:={zd with heap:=H.push (xo #[] 0)}) aX fX Un eA (qD▸hD) vE;obtain⟨m,hn,_⟩:=e'.loc;refine hv f' zm _ _ s' d' PW ⟨nK,⟨λc hc=>by rw[I_.mp hc];exact nK,λc hc=>by rw[I_.mp hc];exact e'.own,λc hc=>by rw[I_.mp hc];exact bK,λc hc=>?_⟩,m,hn⟩;rw[I_.mp hc];obtain⟨o,_,_,g1,g2,_⟩:=hn;exact um g1 (by rw[g2];exact(show(HG "dict"==.type "tuple")=Ig by decide))
 exact codeAny_compStart_list loop (Nn (s:={zd with heap:=H.push (xo #[] 0)}) eA loop)
theorem sb{t:IT}{l:List V}{xs:List Nat}{elt it y_:M}{ys:List V}{vX:St}(hq:F.q=Ig)(z6:F.s=Ig)(h0:lk 52 L=none)(hm:E F L it J (.ok t.v zt))(hl:t.is l zt)(vE:CL F L xs t l elt y_ zt.length l.length [] (zt++[.list []]) ys vX):E F L (.comp elt xs t.k it y_) J (.ok (.ref zt.length) vX):=by refine E.mk' rfl λ{zw env A f C s}ok c=>?_;refine ae (use:=none) hq z6 h0 ok c hm hl vE λf' zm D K s' d hD⟨zo,w,m,hn⟩=>⟨m,hn.ns,λh' hs=>?_⟩;exact⟨f',zm,d.cD (tk:=s'.toks) w (xu.but hs.extBut),D,hD,rfl⟩
theorem Uk{x:Nat}{t:IT}{l:List V}{xs:List Nat}{elt it y_:M}{ys:List V}{vX:St}(hq:F.q=Ig)(h0:lk 52 L=none)(hm:E F L it J (.ok t.v zt))(hl:t.is l zt)(vE:F.s=Ig->CL F L xs t l elt y_ zt.length l.length [] (zt++[.list []]) ys vX):X1 F L (.asg x (.comp elt xs t.k it y_)) J (.ok .next (st x (.ref zt.length) L) vX):=by
 refine⟨λ{zw env A f C s}ok c=>?_⟩;obtain⟨o1,o2⟩:=zh ok;obtain⟨_,o3⟩:=zh o2;obtain z6:=c.rH;obtain vE:=vE z6;show WS F env A (exec (.Assign [.Name (nm x) (zw [0]).p] (zW (.comp elt xs t.k it y_) (sh zw 1)) (zw []).p) env) _ _ _ _;cases Xr:(env.blockKind==.function&&env.kindOf (nm x)==Ie .local&&(zw [0]).p.line==(sh zw 1 []).p.line&&!((sh zw 1 []).sc.names.any λ(n,k)=>n==nm x&&(k==.local||k==.cell)))with
 |false=>
  have hs:swapsWith (zW (.comp elt xs t.k it y_) (sh zw 1)) (Ie (.Name (nm x) (zw [0]).p)) (zw []).p.line env=pure Ig:=by show pure _=pure Ig;exact congrArg pure Xr
  rewrite[WS];rw[exec_Assign_Name (hs:=hs)];refine Ic (I7 (Ic ((sb hq z6 h0 hm hl vE).sk o3 c λw f' zm s' d hv c'=>Ic (I7 (Ic (oY d.rel c'.en c.st o1 (.inl ⟨c.func,rfl⟩) hv λyl ze wX=>?_))))));exact IW ⟨rfl,f',zm,d.wide.trans ze,wX⟩
 |true=>
  have hs:swapsWith (zW (.comp elt xs t.k it y_) (sh zw 1)) (Ie (.Name (nm x) (zw [0]).p)) (zw []).p.line env=pure Ib:=by show pure _=pure Ib;exact congrArg pure Xr
  rewrite[WS];rw[exec_Assign_Name_used _ _ _ _ hs];show wpAny _ A (standAt _>>=λzz=>evalThenUse (.ListComp _ _ _ _) env _>>=λzz=>pure Flow.next) _ _ _;rw[arm_evalThenUse_ListComp];refine Ic (I7 (Ic (Ic ?_)));refine ae (use:=Ie (assign (.Name (nm x) (zw [0]).p) env)) hq z6 h0 o3 c.toCx hm hl vE λf' zm D K s' d hD⟨nK,w,m,hn⟩=>?_;show wpAny _ A (assign (.Name (nm x) (zw [0]).p) env (.ref D)) _ _ s';rw[EE];refine Ic (I7 (oY (v:=.ref zt.length) d.rel (c.en.ext d.ext) c.st o1 (.inl ⟨c.func,rfl⟩) ⟨D,hD,rfl⟩ λyl ze wX=>?_));have XI:∀c'∈xB env,c'≠K:=λc' pn e=>by
   subst e;rcases jP pn with rfl|⟨n,hm⟩;.obtain⟨_,⟨o,_,_,a1,_⟩,_⟩:=c.en.loc;replace a1:=nK.symm.trans a1;cases a1
   .obtain⟨_,u,c2⟩:=c.en.cells n c' hm;replace c2:=nK.symm.trans c2;cases c2
  have Xy:qz yl.heap K (.type "dict") m:=hn.moves λo g hc=>by
   rcases ze.ext.keep K o g (w.own K IQ) (λz=>XI K z rfl) (by rw[hc];decide)with z|⟨z,_⟩;.exact⟨o.slots,z⟩
   .replace z:=hc.symm.trans z;exact absurd z (by decide)
  refine⟨m,Xy.ns,λh' hs=>?_⟩;obtain xE:oq F s zm yl.heap [K]:=⟨w.new,w.own,w.base,λc' hc=>by rw[I_.mp hc];obtain⟨o,_,_,g1,g2,_⟩:=Xy;exact um g1 (by rw[g2];exact(show(HG "dict"==.type "tuple")=Ig by decide))⟩;obtain yL:=(d.wide.trans ze).cD (tk:=yl.toks) xE (xu.but hs.extBut);exact IW (IW ⟨rfl,f',zm,yL,wX.keep (xE.yi (xu.but hs.extBut)) λc' o hc ho=>(hs.2 c' (XI c' hc)).trans ho⟩)
end
open PySem PySem.W PySem.Calls PyProof.Rows
noncomputable def jt:Obj:={cls:=.type "cell",data:=.cell none}
set_option tactic.hygienic true in theorem gR:∀(names:List (Str×NameKind))(h:Hu)(acc:List (Str×I4))(n:Str)(c:I4),(n,c)∈cellsFrom h.objs.size names acc->(n,c)∈acc\/((pushCells h names).get? c=Ie jt/\h.objs.size<=c)
|[],zo,zY,zF,yX,e=>.inl e
|(m,k)::r,h,acc,n,c,e=>by
 unfold cellsFrom at e;unfold pushCells;split at e
 .rename_i hk;rw[if_pos hk];have hz:(h.push jt).objs.size=h.objs.size+1:=G7 ..;rw[<-hz]at e;rcases gR r (h.push jt) _ n c e with z|⟨z1,z2⟩
  .rcases IU.mp z with q|q;.cases q;exact .inr ⟨pushCells_keeps r _ _ _ (IC _ rfl),IV _⟩
   .exact .inl q
  .exact .inr ⟨z1,by rw[hz]at z2;lia⟩
 .rename_i hk;rw[if_neg hk];exact gR r h acc n c e
set_option tactic.hygienic true in theorem gQ:∀(names:List (Str×NameKind))(k:Nat)(acc:List (Str×I4))(n:Str),((n,EP)∈names\/(acc.lookup n).isSome=Ib)->((cellsFrom k names acc).lookup n).isSome=Ib
|[],zo,zY,zF,h=>by
 rcases h with h|h;.cases h
 .exact h
|(m,kd)::r,k,acc,n,h=>by
 unfold cellsFrom;split
 .refine gQ r _ _ n ?_;by_cases q:n=m;.subst q;exact .inr (by rw[H6];simp)
  .rcases h with h|h
   .rcases IU.mp h with e|e;.cases e;exact absurd rfl q
    .exact .inl e
   .refine .inr ?_;rw[H6,show(n==m)=Ig by simpa using q];exact h
 .rename_i hk;refine gQ r _ _ n ?_;rcases h with h|h
  .rcases IU.mp h with e|e;.cases e;exact absurd rfl hk
   .exact .inl e
  .exact .inr h
theorem VV(x:Nat)(v:V):∀(L:Loc),lk x L=none->st x v L=L++[(x,v)]|[],zo=>rfl|(y,w)::r,h=>by unfold lk at h;unfold st;cases q:IP x y with|true=>rw[q]at h;cases h|false=>rw[q]at h;show(y,w)::st x v r=_;rw[VV x v r h];rfl
theorem XA(y:Nat):∀(L L':Loc),lk y (L++L')=(lk y L).or (lk y L')
|[],zo=>rfl
|(z,w)::r,L'=>by
 rewrite[List.cons_append];rewrite[sM];rewrite[sM];rw[XA y r L'];by_cases q:y=z;.rewrite[if_pos q];rw[if_pos q];rfl
 .rewrite[if_neg q];rw[if_neg q]
theorem VO:∀{xs:List Nat}{vs:List V}{L:Loc},xs.Nodup->xs.length=vs.length->(∀x∈xs,lk x L=none)->stores xs vs L=Ie (L++xs.zip vs)
|[],[],L,zo,zY,zF=>congrArg Ie (Hf L).symm
|x::xs,v::vs,L,hn,hl,h=>by
 have hn:=Hk.mp hn;show stores xs vs (st x v L)=_;rw[VV x v L (h x IQ)];rw[VO hn.2 (HI hl) λy hy=>?_]at⊢;.exact congrArg Ie (I3 ..)
 .rewrite[XA];rewrite[h y (I6 _ hy)];rewrite[sM];rw[if_neg (λq=>hn.1 (by rw[<-q];exact hy))];rfl
|[],zo::zY,zF,yX,h,xe=>nomatch h
|zo::zY,[],zF,yX,h,xe=>nomatch h
section
variable{F:Fr}{fr:List I4}{f:FM}{C:OW}{s:IS}{J zy:St}{A:Hv}{env:Env}{L zN:Loc}{M:Model}{E:IX->IS->Prop}{d:Nat}
theorem ay(z:tQ F.b env)(hf:env.func.isSome=Ib)(g:Str×IX->PUnit->Sem (ForInStep PUnit))(hg:∀n v u,g (n,v) u=(do storeName env n v;pure (.yield ⟨⟩))):∀(xs:List Nat)(vs:List V)(ws:List IX)(L L':Loc)(s:IS)(Q:PUnit->IS->Prop),zS f C s.heap vs ws->stores xs vs L=Ie L'->(∀x∈xs,vb env.scope (nm x)=Ib)->Rl F.b f C J s.heap->yf f C s.heap env L->(∀s',Done F (xB env) f C s J f C s'->yf f C s'.heap env L'->Q ⟨⟩ s')->wpAny M A (forIn ((xs.map nm).zip ws) ⟨⟩ g) Q E s|[],[],zo,L,L',s,Q,hv,hs,zY,r,e,hQ=>by cases hv;cases hs;exact IW (hQ s (Done.refl r) e)|x::xs,v::vs,zo,L,L',s,Q,⟨w,ws,hw,h1,h2⟩,hs,hk,r,e,hQ=>by subst hw;show wpAny M A (forIn ((nm x,w)::(xs.map nm).zip ws) ⟨⟩ g) Q E s;rewrite[Fq];rw[hg];refine Ic (Ic (cG r e z (hk x IQ) (.inl ⟨hf,rfl⟩) h1 λzd zD xC=>IW ?_));exact ay z hf g hg xs vs ws _ L' zd Q (zS.ext zD.ext _ h2) hs (λy hy=>hk y (I6 _ hy)) zD.rel xC λyl ze wX=>hQ yl (zD.trans ze) wX|[],zo::zY,zF,yX,xe,vM,uR,u7,h,rx,kI,gu,gq|br::bq,[],bp,Uc,Ub,Ua,U_,UZ,h,UY,UX,UW,UU=>by cases h
theorem MV{scope:Scope}{qual:Str}{a:I4}{code:IX}{xs:List Nat}{vs:List V}{ws:List IX}{Q:Env->IS->Prop}(r:Rl F.b f C J s.heap)(hk:scope.kind=.function)(hv:zS f C s.heap vs ws)(z6:stores xs vs []=Ie L)(hs:∀x∈xs,vb scope (nm x)=Ib)(hQ:∀env s',env=newEnv scope s.heap.objs.size mainGlobals (cellsFrom (s.heap.objs.size+1) scope.names []) qual (Ie a) code none builtinsNs->Done F [] f C s J f C s'->yf f C s'.heap env L->tQ F.b env->(∀c∈xB env,s.heap.get? c=none)->Q env s'):wpAny M A (newFunctionEnv scope mainGlobals [] ((xs.map nm).zip ws) qual (Ie a) code none builtinsNs) Q E s:=by
 simp only[newFunctionEnv,Option.isSome_none,I0,if_false];refine Ic (E0 ?_);refine Ic (wpAny_layCells _ (λname kind cells=>by cases Oe:kind==EP<;>simp[Oe]) _ _ _ _ ?_);obtain hz:(s.heap.push {cls:=.type "frame",data:=.dict #[]}).objs.size=s.heap.objs.size+1:=G7 ..;obtain ok:=cellsFrom_ok scope.names (s.heap.push {cls:=.type "frame",data:=.dict #[]}) (s.heap.objs.size+1) [] ⟨λzz zz hm=>(nomatch hm),List.Pairwise.nil⟩ (by rw[hz];exact IV _);obtain cc:=gR scope.names (s.heap.push {cls:=.type "frame",data:=.dict #[]}) [];rw[hz]at ok cc;rw[show({s with heap:=s.heap.push {cls:=.type "frame",data:=.dict #[]}}:IS).heap.objs.size=s.heap.objs.size+1 from hz];have g:grows s.heap (pushCells (s.heap.push {cls:=.type "frame",data:=.dict #[]}) scope.names):=λc o e=>pushCells_keeps _ _ _ _ (IB _ e);obtain zD:Done F [] f C s J f C {s with heap:=pushCells (s.heap.push {cls:=.type "frame",data:=.dict #[]}) scope.names}:=Done.grow r g rfl rfl;obtain gL:(pushCells (s.heap.push {cls:=.type "frame",data:=.dict #[]}) scope.names).get? s.heap.objs.size=Ie ⟨.type "frame",none,.dict #[] 0,#[]⟩:=pushCells_keeps _ _ _ _ (IC _ rfl);generalize pushCells (s.heap.push {cls:=.type "frame",data:=.dict #[]}) scope.names=H at ok cc g zD gL;generalize hE:newEnv scope s.heap.objs.size mainGlobals (cellsFrom (s.heap.objs.size+1) scope.names []) qual (Ie a) code none builtinsNs=env at hQ;obtain f9:env.cells=cellsFrom (s.heap.objs.size+1) scope.names []:=by rw[<-hE];rfl
 obtain lN:env.scope=scope:=by rw[<-hE];rfl
 have tf:env.locals=s.heap.objs.size:=by rw[<-hE];rfl
 obtain oE:env.func.isSome=Ib:=by rw[<-hE];rfl
 have cin:∀n c,(n,c)∈env.cells->H.get? c=Ie jt/\s.heap.objs.size+1<=c:=λn c hm=>by rw[f9]at hm;exact(cc n c hm).elim (λz=>nomatch z) id
 have Wd:∀{c},s.heap.objs.size<=c->F.b.B.get? c=none:=λhc=>(tY r hc).2;have st:tQ F.b env:=⟨by rw[tf];exact Wd (IV _),λzz n c hc=>Wd (FH (cin n c (mem_of_lookup hc)).2),λzz=>by rw[f9];exact ok.apart⟩;obtain xC:yf f C H env []:=by
  refine⟨by rw[lN];exact hk,by rw[<-hE];rfl,by rw[<-hE];rfl,by rw[tf];exact(tY r (IV _)).1,λn hn=>?_,⟨λzz=>none,⟨_,#[],0,by rw[tf];exact gL,by unfold sY;rw[if_pos oE],rfl,λe he=>absurd he (by simp),λn=>rfl⟩,λx v hv=>by cases hv⟩,λn c hm=>?_,λx v hv=>by cases hv⟩;.rw[f9];exact HJ.mp (gQ _ _ _ _ (.inl (mem_of_lookup (by rw[<-lN];exact hn))))
  .obtain⟨c1,c2⟩:=cin n c hm;exact⟨(tY r (FH c2)).1,none,c1⟩
 refine Ic (ay (F:=F) (f:=f) (C:=C) (J:=J) (env:=env) st oE _ (λn v u=>by rw[<-hE];rfl) xs vs ws [] L _ _ (zS.ext zD.ext _ hv) z6 (by rw[lN];exact hs) zD.rel xC λs' d e=>?_);refine IW ?_;obtain fr:∀c∈xB env,s.heap.get? c=none:=λc hc=>by
  rcases jP hc with rfl|⟨n,hm⟩;.rw[tf];exact tl (IV _)
  .exact tl (FH (cin n c hm).2)
 obtain this:=hQ env s' rfl (zD.fresh d fr) e st fr;rw[<-hE]at this;exact this
theorem zS.drop{h:Hu}:∀{vs:List V}{ws:List IX}(n:Nat),zS f C h vs ws->zS f C h (vs.drop n) (ws.drop n)|zo,zY,0,e=>e|[],zo,n+1,e=>by cases e;exact rfl|v::vs,zo,n+1,⟨w,r,e,h1,h2⟩=>by subst e;exact zS.drop n h2
noncomputable def CR(F:Fr)(f:FM)(C:OW)(s:IS)(out:R V)(r:Result)(s':IS):Prop:=match r with|.ok (.ret v)=>PO F rV f C s out v s'|.ok zo=>False|.error e=>PX F f C s out e s'
structure Code(F:Fr)(a:Nat)(args:List V)(J:St)(out:R V):Prop where
 go:∀{A:Around}{f:FM}{C:OW}{s:Shared}{vals:List Value},Rl F.b f C J s.heap->xP F A C s.heap->zS f C s.heap args vals->codeAny (model F.b.prog F.b.w) A (.call (.ref a) ⟨vals,[]⟩) (CR F f C s out) s
noncomputable def Fr.in(F:Fr)(d:Nat):Fr:={F with d:=d}
noncomputable def Ra:SR->R V|.ok .next zo J=>.ok .none J|.ok (.ret v) zo J=>.ok v J|.exc e zo J=>.exc e J
set_option tactic.hygienic true in theorem mJ{a:Nat}{fd:FD}{args:List V}{out:SR}(hd:F.d=d+1)(z6:F.s=Ig)(hf:prog.fn a=Ie fd)(hb:ug fd.params fd.dflt args=Ie L)(hx:XB (F.in d) L fd.body J out):Code F a args J (Ra out):=by
 refine⟨λ{A f C s vals}r ak hv=>?_⟩;obtain⟨⟨o,dt,body,ho,P0,PF,P4,Om,PG,tL,hk,P1,Oo,heq,pe,OE,dv,ez,PH⟩,eR⟩:=let⟨F1,F2,F3⟩:=ak.ok.fns a fd hf;(⟨F1.at_,F2⟩:_/\_);obtain hlen:=hv.length;unfold ug at hb;split at hb;case isFalse=>cases hb
 rename_i hle;obtain Oy:=ez f C s.heap r.fix r.b7;refine codeAny_call_function (by obtain this:=ak.depth;lia) (r.base _ _ ho) P0 P1 Oo PF (tL.keeps r.base) (PH vals s r.base (by lia) (by lia) _ _ _ _ ?_);rewrite[P4];rewrite[Om];rw[PG];obtain hV:zS f C s.heap (args++fd.dflt.drop (fd.dflt.length-(fd.params.length-args.length))) (vals++dv.drop (fd.dflt.length-(fd.params.length-vals.length))):=by rw[hlen];exact zS.append hv (zS.drop _ Oy)
 obtain hL:fd.params.length=(args++fd.dflt.drop (fd.dflt.length-(fd.params.length-args.length))).length:=by rewrite[IZ];rw[G'];lia
 obtain Xu:=VO (L:=[]) eR hL (λzz zz=>rfl);rw[GK,hb]at Xu;refine MV (F:=F) r hk hV Xu (I2.mp OE) λenv zd hE zD xC st fresh=>?_;have lN:env.scope=dt.scope:=by rw[hE];rfl
 have tf:env.frame=Ie env.locals:=by rw[hE];rfl
 have oE:env.func.isSome=Ib:=by rw[hE];rfl
 refine⟨ak.nO.keeps zD.rel.base,codeAny_func ?_⟩;obtain UA:=ak.ext zD.ext;obtain⟨l',b1,b2,b3⟩:=UA.frames;obtain⟨mm,⟨oL,es,ep,c1,c2,c3,_⟩,_⟩:=xC.loc;obtain sY:oL.cls=.type "frame":=by rw[c2];unfold sY;rw[if_pos oE]
 have bO:xP (F.in d) (A.deeper env) C zd.heap:=by
  refine⟨?_,?_,ak.nO,ak.ok,ak.hand,env::l',Ed b1,⟨by rw[xC.kind];decide,⟨env.locals,oL,tf,st.dZ,c1,λvs z=>by rw[c3]at z;cases z⟩,b2⟩,λen he K hK=>?_⟩;.obtain this:=ak.depth;show A.depth+1+3*d+20<=_;lia
  .obtain this:=ak.units;show A.units+3+10*d+200<=_;lia
  .rcases IU.mp he with rfl|z;.replace hK:=yZ tf hK;cases hK;exact⟨xC.own,oL,c1,sY⟩
   .exact b3 en z K hK
 have sx:Sx (F.in d) L J env (A.deeper env) f C zd:=⟨⟨zD.rel,xC,bO⟩,⟨⟨l',Ed b1⟩,tf⟩,st,oE,z6⟩;rw[heq];refine II (hx.go (by rw[lN];exact pe) sx) (λc yl p=>?_) λx yl p=>?_
 .cases out with
  |ok fl L' zy=>cases fl with|next=>obtain⟨rfl,yc,yg,ze,_⟩:=p;exact⟨yc,yg,Done.fresh zD (⟨ze.ext,ze.rel,ze.gens,ze.os,ze.uI⟩:Done F _ _ _ _ _ _ _ _) fresh,rfl⟩|ret v=>obtain⟨w,yc,yg,rfl,ze,hv⟩:=p;exact⟨yc,yg,Done.fresh zD (⟨ze.ext,ze.rel,ze.gens,ze.os,ze.uI⟩:Done F _ _ _ _ _ _ _ _) fresh,hv⟩
  |exc=>exact p.elim
 .cases out with|ok=>exact p.elim|exc e L' zy=>obtain⟨n,ea,cc,fs,rfl,rfl,w7,yc,yg,ze,wX,fn,hi⟩:=p;refine NC (F:=F.in d) z6 ze.rel (bO.Yg ze.ext xC wX oE) sx.fr fn w7 hi λxp yL kL=>?_;exact⟨n,ea,cc,fs,rfl,rfl,w7,yc,yg,(Done.fresh zD (⟨ze.ext,ze.rel,ze.gens,ze.os,ze.uI⟩:Done F _ _ _ _ _ _ _ _) fresh).trans ⟨yL.ext,yL.rel,yL.gens,yL.os,yL.uI⟩,fn,kL.YW⟩
theorem Code.call{a:Nat}{args:List V}{out:R V}(h:Code F a args J out):Call F (.fn a) args J out:=⟨λr ak hf hv=>by cases hf;exact FZ (ED (h.go r ak hv) λr zz h=>match r,h with|.ok (.ret zo),h=>h|.error zo,h=>h)⟩
theorem SK{a:Nat}{fd:FD}{args:List V}{v:V}(hd:F.d=d+1)(z6:F.s=Ig)(hf:prog.fn a=Ie fd)(hb:ug fd.params fd.dflt args=Ie L)(hx:XB (F.in d) L fd.body J (.ok (.ret v) zN zy)):Call F (.fn a) args J (.ok v zy):=(mJ hd z6 hf hb hx).call
theorem SG{a:Nat}{fd:FD}{args:List V}(hd:F.d=d+1)(z6:F.s=Ig)(hf:prog.fn a=Ie fd)(hb:ug fd.params fd.dflt args=Ie L)(hx:XB (F.in d) L fd.body J (.ok .next zN zy)):Call F (.fn a) args J (.ok .none zy):=(mJ hd z6 hf hb hx).call
theorem SO{a:Nat}{fd:FD}{args:List V}{v:V}(hd:F.d=d+1)(z6:F.s=Ig)(hf:prog.fn a=Ie fd)(hb:ug fd.params fd.dflt args=Ie L)(hx:XB (F.in d) L fd.body J (.exc v zN zy)):Call F (.fn a) args J (.exc v zy):=(mJ hd z6 hf hb hx).call
end
open PySem PySem.W PySem.Calls PyProof.Rows
section
variable{F:Fr}{f:FM}{C:OW}{s:IS}{J zy:St}{A:Hv}{d:Nat}
theorem xP.under{h:Hu}{c:Nat}{rest:List IX}(hd:F.d=d+1)(a:xP F A C h):xP (F.in d) (A.under (.builtin "type.__call__" ⟨.ref c::rest,[]⟩)) C h:=by
 obtain hw:(Code.builtin "type.__call__" ⟨.ref c::rest,[]⟩).weight=1:=by kernel_rfl
 obtain hu:(Code.builtin "type.__call__" ⟨.ref c::rest,[]⟩).cUnits=1:=by kernel_rfl
 obtain⟨l,a1,a2,a3⟩:=a.frames;refine⟨?_,?_,a.nO,a.ok,a.hand,l,?_,a2,a3⟩;.obtain this:=a.depth;show A.depth+_+3*d+20<=_;lia
 .obtain this:=a.units;show A.units+_+10*d+200<=_;lia
 .show pushEnvs [] A.frames=Ie l;exact a1
theorem ZD{fr:List I4}{f':FM}{zm:OW}{s':IS}(x:Done (F.in d) fr f C s zy f' zm s'):Done F fr f C s zy f' zm s':=⟨x.ext,x.rel,x.gens,x.os,x.uI⟩
theorem Rj(r:Rl F.b f C J s.heap)(c:Nat):Done F [] f C s (J++[.inst c []]) (su f J.length (s.heap.objs.size+1)) (ows C [s.heap.objs.size+1,s.heap.objs.size] J.length) {s with heap:=(s.heap.push emptyDict).push (instObj c s.heap.objs.size)}:=by
 obtain hz:(s.heap.push emptyDict).objs.size=s.heap.objs.size+1:=G7 ..;have g1:((s.heap.push emptyDict).push (instObj c s.heap.objs.size)).get? (s.heap.objs.size+1)=Ie (instObj c s.heap.objs.size):=by rw[<-hz];exact IC _ rfl
 obtain g2:((s.heap.push emptyDict).push (instObj c s.heap.objs.size)).get? s.heap.objs.size=Ie emptyDict:=IB _ (IC _ rfl);refine q9 (s':={s with heap:=(s.heap.push emptyDict).push (instObj c s.heap.objs.size)}) r (λc o e=>IB _ (IB _ e)) rfl rfl (λx hx=>?_) ⟨tA IQ,s.heap.objs.size,λzz=>none,tA (I6 _ IQ),Ha (H7 _),g1,⟨_,#[],0,g2,rfl,λe he=>absurd he (by simp),λzz=>rfl,IV _⟩,λx=>⟨λzz=>rfl,λv e=>nomatch e⟩⟩;rcases IU.mp hx with rfl|hx;.exact⟨tl (FJ _),_,g1⟩
 .rw[I_.mp hx];exact⟨tl (IV _),_,g2⟩
theorem SQ{c fi:Nat}{args:List V}(hd:F.d=d+1)(hc:prog.cls c=Ie (fi,Ig))(h:Code (F.in d) fi (.ref J.length::args) (J++[.inst c []]) (.ok .none zy)):Call F (.cl c) args J (.ok (.ref J.length) zy):=by refine⟨λ{A f C s xS vals}r ak hf hv=>?_⟩;cases hf;obtain⟨mk,hi,hb⟩:=ak.ok.cls c fi hc s.heap r.base;obtain zD:=Rj (F:=F) r c;refine FZ ?_;obtain⟨eE,g,dr,t,os⟩:=s;refine make_core mk hi hb (.inl (by simp)) ?_;refine ED (h.go (vals:=.ref (eE.objs.size+1)::vals) zD.rel ((ak.ext zD.ext).under hd) ⟨_,_,rfl,⟨_,sr,rfl⟩,zS.ext zD.ext _ hv⟩) λr' s' z=>?_;match r',z with|.ok (.ret v),⟨f',zm,ze,lM⟩=>exact⟨lM,f',zm,zD.trans (ZD ze),_,ze.ext.w9 _ _ sr,rfl⟩|.error e,z=>exact z.elim
end
section
variable{prog:Program}{w:World}{A:Hv}{E:IX->IS->Prop}{R:Result->IS->Prop}{h:Hu}{g:Array GenState}{d:Drawn}{t:Nat}{os:OsState}
variable{nm q:Str}{zP N:I4}{bs bm u4:List IX}{oH:Bool}{sn:List Str}{sub:List IX}{ab:Bool}{col:Option Bool}{dd:Option I4}{k0 k1 k2 k3 k5:Option IX}{B newId nk:String}
theorem RO(F:ExcBaseFacts B newId nk u4)(T:mZ u4 bm){rest:List IX}(hC:h.get? zP=Ie (excClassObj nm q zP N bs bm oH sn sub ab col dd k0 k1 k2 k3 k5 newId))(hq:R (.ok (.ret (.ref (h.objs.size+1)))) ⟨(h.push {cls:=.type "tuple",data:=.seq rest.toArray}).push {cls:=.ref zP,data:=.fields #[.ref h.objs.size,.none,.none,.none,.bool Ig,.none]},g,d,t,os⟩)(oA:rest.length<=sizeLine):codeAny (model prog w) A (.builtin newId ⟨.ref zP::rest,[]⟩) R ⟨h,g,d,t,os⟩:=by
 obtain JC:=F.ends;obtain PA:(Gg zP::bm).contains (.type B)=Ib:=by rewrite[I1];rewrite[T _ _ F.hasB];rw[Fi]
 obtain PB:(Gg zP::bm).contains (.type "AttributeError")=Ig:=by rewrite[I1];rw[T _ _ F.noAttr];rfl
 obtain P8:(Gg zP::bm).contains (.type "NameError")=Ig:=by rewrite[I1];rw[T _ _ F.noName];rfl
 refine PySem.codeAny_builtinAt F.entry ?_;unfold Builtin.«BaseException.__new__»;refine Dw ?_;show PySem.wpAt _ _ _ (stack>>=_) _ _ _;refine Dw (PySem.wpAt_stack λp below=>EV ?_);wp_walk;refine EV ?_;rw[F.owner];repeat(first|with_reducible refine wpAny_madeHere_exc F.canon hC ?_|with_reducible refine G6 hC ?_|(with_reducible refine EU hC ?_;first|rw[PA]at⊢|rw[PB]at⊢|rw[P8]at⊢)|wp_step)
 show R _ _;rw[G7];exact hq
theorem RM(F:ExcBaseFacts B newId nk u4)(T:mZ u4 bm){mN:Str->Option IX}{rest:List IX}{fI:I4}{oI:Obj}{Q:Fin->IS->Prop}(hC:h.get? zP=Ie (excClassObj nm q zP N bs bm oH sn sub ab col dd k0 k1 k2 k3 k5 newId))(hn:h.Ns N mN)(hi:mN "__init__"=Ie (.ref fI))(ew:h.get? fI=Ie oI)(lX:oI.cls=.type "function")(oA:rest.length<=sizeLine)(hq:∀h' e,Dq h h' e (.ref zP) rest->wpAny (model prog w) A (call (.ref fI) (.ref e::rest)) (λr s'=>r=.none/\Q (.done (.ret (.ref e))) s') E ⟨h',g,d,t,os⟩):wpAny (model prog w) A (Builtin.«type.__call__» ⟨.ref zP::rest,[]⟩) Q E ⟨h,g,d,t,os⟩:=by
 repeat(first|with_reducible refine G6 hC ?_|with_reducible refine wpAny_madeBy_exc hC ?_|wp_step)
 refine codeAny_call_builtin_code (EJ _ F.quiet) (wpAny_check_new_subU F (T _ _ F.hasB) .base hC ?_);refine RO F T hC ?_ oA;show wpAny _ _ _ _ _ _;obtain fG:=IB {cls:=.ref zP,data:=.fields #[.ref h.objs.size,.none,.none,.none,.bool Ig,.none]} (IB {cls:=.type "tuple",data:=.seq rest.toArray} hC);obtain Ou:=IB {cls:=.ref zP,data:=.fields #[.ref h.objs.size,.none,.none,.none,.bool Ig,.none]} (IB {cls:=.type "tuple",data:=.seq rest.toArray} ew);obtain OS:((h.push {cls:=.type "tuple",data:=.seq rest.toArray}).push {cls:=.ref zP,data:=.fields #[.ref h.objs.size,.none,.none,.none,.bool Ig,.none]}).Ns N mN:=let⟨o,es,ep,e,r⟩:=hn;⟨o,es,ep,IB _ (IB _ e),r⟩;obtain yW:((h.push {cls:=.type "tuple",data:=.seq rest.toArray}).push {cls:=.ref zP,data:=.fields #[.ref h.objs.size,.none,.none,.none,.bool Ig,.none]}).get? (h.objs.size+1)=Ie {cls:=.ref zP,data:=.fields #[.ref h.objs.size,.none,.none,.none,.bool Ig,.none]}:=by heap_get
 obtain P9:(Gg zP::bm).contains (.ref zP)=Ib:=by simp
 unfold isInstance;repeat(first|with_reducible refine G6 yW ?_|(with_reducible refine EU fG ?_;rw[P9])|wp_step)
 show wpAny _ _ (typeLookup (.ref zP) _) _ _ _;rw[typeLookup_eq];refine Ic (wpAny_mroOf_exc fG ?_);rw[lookupAlong_cons];refine Ic (wpAny_classOwn_exc fG OS ?_);rw[hi];refine IW ?_;refine IL (Ic ?_);unfold bindSpecial;refine Ic (EC (T:="function") ⟨_,Ou,lX⟩ ?_);rw[if_pos (by decide)];refine IW (Ic (II (hq _ (h.objs.size+1) ⟨λb o hb=>IB _ (IB _ hb),Ec (FJ _),h.objs.size,yW,Ec (IV _),?_⟩) (λr s' hr=>?_) λzz zz x=>x));.exact IB _ (Heap.get?_push_at rfl rfl)
 .obtain⟨rfl,hQ⟩:=hr;wp_walk;exact hQ
theorem RP(F:ExcBaseFacts B newId nk u4)(T:mZ u4 bm){mN:Str->Option IX}{rest:List IX}{fI:I4}{oI:Obj}{Q:IX->IS->Prop}(hC:h.get? zP=Ie (excClassObj nm q zP N bs bm oH sn sub ab col dd k0 k1 k2 k3 k5 newId))(hn:h.Ns N mN)(hi:mN "__init__"=Ie (.ref fI))(ew:h.get? fI=Ie oI)(lX:oI.cls=.type "function")(oA:rest.length<=sizeLine)(hq:∀h' e,Dq h h' e (.ref zP) rest->wpAny (model prog w) (A.under (.builtin "type.__call__" ⟨.ref zP::rest,[]⟩)) (call (.ref fI) (.ref e::rest)) (λr s'=>r=.none/\Q (.ref e) s') E ⟨h',g,d,t,os⟩):wpAny (model prog w) A (call (.ref zP) rest) Q E ⟨h,g,d,t,os⟩:=by
 obtain f1:=tc_lookup;obtain f2:=tc_bind (.ref zP);obtain hT:(⟨h,g,d,t,os⟩:IS).TypeIs (.ref zP) "type":=⟨_,hC,rfl⟩;refine FZ (codeAny_of_tree ?_);show wpAny _ _ (callAny (.ref zP) _) _ _ _;repeat(any_goals(first|assumption|with_reducible refine G6 hC ?_|wp_step))
 refine⟨rfl,?_⟩;refine codeAny_call_builtin_at (EJ _ (by decide+kernel)) entry_typeCall (wpAny_check_type_call_sub hC (RM F T hC hn hi ew lX oA λh' e hm=>?_));exact hq h' e hm
end
section
variable{F:Fr}{f:FM}{C:OW}{s:IS}{J zy:St}{A:Hv}{d:Nat}
theorem SP{c fi:Nat}{args:List V}(hd:F.d=d+1)(hc:prog.cls c=Ie (fi,Ib))(hl:args.length<=1000)(h:Code (F.in d) fi (.ref J.length::args) (J++[.exc c Ig []]) (.ok .none zy)):Call F (.cl c) args J (.ok (.ref J.length) zy):=by refine⟨λ{A f C s xS vals}r ak hf hv=>?_⟩;cases hf;obtain⟨nm,q,N,bs,bm,u4,oH,sn,sub,ab,col,dd,k0,k1,k2,k3,k5,T,newId,nk,mN,fo,FX,ST,hc,hn,hi,hf,lX,jB⟩:=ak.ok.exc c fi hc;obtain⟨eE,g,dr,t,os⟩:=s;refine RP FX ST (r.base _ _ hc) (hn.keeps r.base) hi (r.base _ _ hf) lX (by rw[hv.length];exact I8 hl (by decide)) λh' e m=>?_;obtain⟨tt,g1,g2,g3⟩:=m.there;obtain hB:b_ F.b.B c:=⟨_,_,hc,rfl,by rewrite[I1];rewrite[jB];rw[Fi],by rewrite[I1];rewrite[ST _ _ FX.hasBase];rw[Fi],rfl⟩;have zD:Done F [] f C ⟨eE,g,dr,t,os⟩ (J++[.exc c Ig []]) _ _ ⟨h',g,dr,t,os⟩:=q9 (s':=⟨h',g,dr,t,os⟩) (a:=e) (l:=[e]) r m.keeps rfl rfl (λx hx=>by rw[I_.mp hx];exact⟨m.new,_,g1⟩) ⟨tA IQ,none,_,g1,⟨by simp,λzz=>rfl,hB⟩,rfl⟩;refine FZ (ED (h.go (vals:=.ref e::vals) zD.rel ((ak.ext zD.ext).under hd) ⟨_,_,rfl,⟨_,sr,rfl⟩,zS.ext zD.ext _ hv⟩) λr' s' z=>?_);match r',z with|.ok (.ret v),⟨f',zm,ze,lM⟩=>exact⟨lM,f',zm,zD.trans (ZD ze),_,ze.ext.w9 _ _ sr,rfl⟩|.error e,z=>exact z.elim
end
open PySem PySem.W PySem.Calls PyProof.Rows
theorem passes(self:IX){l:List IX}(e:kc l=Ib):refuseLoop self "__setattr__" l=pure ()/\l.contains (.type "object")=Ib:=by
 induction l with
 |nil=>exact Gw e
 |cons v r ih=>
  rcases(Hw _ _).mp e with e|e;.rw[eq_of_beq e];exact⟨Eb.passes self,by decide⟩
  rcases(Hw _ _).mp e with e|e;.rw[eq_of_beq e];exact⟨PySem.F.store_ValueError.passes self,by decide⟩
  obtain⟨e1,e2⟩:=zh e;obtain⟨i1,i2⟩:=ih e2;rewrite[eq_of_beq e1];rewrite[refuseLoop_ref];rewrite[I1];rewrite[i2];rw[Fi];exact⟨i1,rfl⟩
section
variable{F:Fr}{K:Frag}{A:Hv}{f:FM}{C:OW}{J zt zb yK:St}{s:IS}{h:Hu}{L:Loc}
theorem N5{es:Array Hn}{name:Str}{w:IX}{o:Obj}{ep:Nat}(hd:o.data=.dict es ep)(e:nsFind es name=Ie w):lookIn name o=Ie (Ie w):=by unfold lookIn;rw[hd];unfold nsFind findBy at e;rw[<-EI]at e;obtain⟨en,h1,h2⟩:=IG.mp e;simp only[h1];rw[h2]
theorem N6{es:Array Hn}{name:Str}{o:Obj}{ep:Nat}(hd:o.data=.dict es ep)(hk:StrKeys es)(e:nsFind es name=none):lookIn name o=Ie none:=by unfold lookIn;rw[hd];unfold nsFind findBy at e;rw[<-EI]at e;simp only[Option.map_eq_none_iff.mp e];rw[if_neg];rewrite[Bool.not_eq_true];rw[EF];intro en he;obtain⟨n,t,q⟩:=hk en (by simpa using he);simp[E5,q]
noncomputable def kE(f:FM)(C:OW)(h:Hu)(fs:List (Nat×V))(od:Option Obj):Prop:=∀x,(∀v,lk x fs=Ie v->X2 λw o=>C3 (od=Ie o) (lookIn (nm x) o=Ie (Ie w)) (VR f C h v w))/\(lk x fs=none->∀o,od=Ie o->lookIn (nm x) o=Ie none)
theorem ownAt{dx:I4}{n:Nat}{m:Str->Option IX}{fs:List (Nat×V)}(hn:qy h dx n m)(hf:FR f C h fs m):∃o,h.get? dx=Ie o/\kE f C h fs (Ie o):=by
 obtain⟨o,es,ep,e1,e2,e3,e4,_⟩:=hn;refine⟨o,e1,λx=>⟨λv q=>?_,λq o' e=>?_⟩⟩;.obtain⟨w,h1,h2⟩:=(hf x).2 v q;exact⟨w,o,rfl,N5 e2 ((e4 _).trans h1),h2⟩
 .cases e;exact N6 e2 e3 ((e4 _).trans ((hf x).1 q))
theorem iz{n c:Nat}{fs:List (Nat×V)}(r:Rl F.b f C J h)(hn:J[n]?=Ie (.inst c fs)):X3 λa ox od=>C3 (f n=Ie a) (InstAt h a ox c (Ie od)) (kE f C h fs (Ie od)):=by obtain⟨a,fa,w,dx,m,w',ne,g,hm,hf⟩:=r.objs n _ hn;obtain⟨o,ho,hx⟩:=ownAt hm hf;exact⟨a,_,o,fa,⟨g,rfl,rfl,ho⟩,hx⟩
theorem RQ{n c:Nat}{t:Bool}{fs:List (Nat×V)}(r:Rl F.b f C J h)(hn:J[n]?=Ie (.exc c t fs)):X3 λa ox od=>C3 (f n=Ie a) (InstAt h a ox c od) (kE f C h fs od):=by obtain⟨a,fa,w,wJ,vs,g,sz,q⟩:=r.objs n _ hn;cases wJ with|none=>obtain q:fs=[]:=q;subst q;exact⟨a,_,none,fa,⟨g,rfl,rfl,trivial⟩,λx=>⟨λv e=>(nomatch e),λzz o e=>(nomatch e)⟩⟩|some dx=>obtain⟨w',ne,m,hm,hf⟩:=q;obtain⟨o,ho,hx⟩:=ownAt hm hf;exact⟨a,_,Ie o,fa,⟨g,rfl,rfl,ho⟩,hx⟩
theorem handed{v:V}{w:IX}(e:VR f C h v w):handedIn w=Ib:=by cases v with|none|bool b|fn a|cl a|ty t=>cases e;rfl|int i|str i=>obtain⟨t,rfl⟩:=e;rfl|tup vs=>obtain⟨a,_,_,_,rfl,_⟩:=e;rfl|ref n=>obtain⟨a,_,rfl⟩:=e;rfl|bi i=>cases e;cases i<;>decide+kernel
theorem findObj_own{c:I4}{od:Option Obj}{cd:ClassData}{o:Obj}{name:Str}{w:IX}(hc:clsIn K c=Ie cd)(hd:cd.hasDict=Ib)(hn:findIn K (.ref c) name=Ie none)(ho:od=Ie o)(hl:lookIn name o=Ie (Ie w)):findObj K c od name=Ie (.value w):=by
 subst ho;obtain this:EO cd (Ie o) name=Ie (Ie w):=by unfold EO;rw[if_pos hd];exact hl
 unfold findObj;rewrite[hc];rw[hn];show(EO cd (Ie o) name).bind _=_;rw[this];rfl
theorem Pf{x zP:I4}{ox:Obj}{od:Option Obj}{name:Str}{v:IX}{expr:Bool}{prog:Program}{w:World}{Q:IX->IS->Prop}{E:IX->IS->Prop}(X:K.In s.heap)(I:InstAt s.heap x ox zP od)(ej:findIn K (.ref zP) "__getattribute__"=Ie (Ie (.builtin "BaseException.__getattribute__")))(hb:mroIn K zP (.type "BaseException")=Ie Ib)(hk:findIn K (.ref zP) "__getattr__"=Ie none)(hf:findObj K zP od name=Ie (.value v))(hh:handedIn v=Ib)(h:Q v {s with toks:=s.toks+1}):wpAny (model prog w) A (getAttr (.ref x) name expr) Q E s:=by
 obtain FX:=PySem.F.excAttr_ValueError;obtain⟨e_,g,d,t,os⟩:=s;obtain L0:=I.type (M:=model prog w);obtain L1:=looks_findIn (M:=model prog w) X ej;obtain L2:=looks_findIn (M:=model prog w) X hk;obtain L3:=looks_find (M:=model prog w) X I hf;obtain sub:Looks (model prog w) e_ (isInstance (.ref x) (.type "BaseException")) Ib:=L0.andThen (looks_mroIn X hb);obtain O5:(expr&&onTheHeap (FF "BaseException.__getattribute__"))=Ig:=by cases expr<;>rfl
 obtain lJ:(FF "BaseException.__getattribute__"==FF "object.__getattribute__")=Ig:=by decide+kernel
 unfold getAttr getAttrBy;refine Ic (wpAny_mkText (IL (Ic (L0.at (Ic (L1.at ?_))))));dsimp only;rewrite[lJ];rewrite[Fc];rw[if_neg Hi];unfold getAttrByItsOwn;refine Ic (m:=hookBefore (.ref zP)) (L2.at ?_);refine Ic (wpAny_attempt (IL ?_));unfold callGetattribute;rewrite[O5];rw[if_neg Hi];unfold boundAndCalled;rw[FX.ga.bind (.ref x)];refine Ic (IW (FZ ?_));refine Ft FX.ga.plain PySem.F.entry_bexc_ga (@check_slot (model prog w) _ _ _ "BaseException.__getattribute__" "BaseException" "__getattribute__" (.ref x) [.str name t] [] _ (by decide+kernel) (by decide+kernel) sub (PySem.F.args_bexc_ga _ _) ?_);refine Ic (IW (Ic (IW (Ic (L0.at (Ic (L3.at ?_)))))));refine IW ?_;show wpAny _ _ (handedOut v) _ _ _;rw[handedOut_of hh];exact IW h
noncomputable def xc(c x:Nat):Bool:=(prog.cls c).isSome&&(prog.zl c x).isNone
theorem bF(fk:Facts F.b){n c x:Nat}{a:I4}{ox:Obj}{od:Option Obj}{fs:List (Nat×V)}{v:V}{expr:Bool}(hX:F.b.X.contains x=Ib)(r:Rl F.b f C J s.heap)(I:InstAt s.heap a ox c od)(O:kE f C s.heap fs od)(hk:xc c x=Ib)(hl:lk x fs=Ie v):W F A (getAttr (.ref a) (nm x) expr) rV f C s (.ok v J):=by
 obtain⟨k1,k2⟩:=zh hk;obtain k2:=H9.mp k2;obtain⟨w,o,ho,eV,qg⟩:=(O x).1 v hl;obtain⟨cd,hc,hd,_⟩:=fk.cd c k1;have X':=fk.yM.keeps r.base;have fo:=findObj_own hc hd (fk.dI c x k1 hX k2) ho eV;rcases fk.ga c k1 with g|⟨g,gb⟩;.exact get_value X' I g fo (handed qg) (xj r qg)
 .exact Pf X' I g gb (fk.gx c k1) fo (handed qg) (xj r qg)
theorem YM(fk:Facts F.b){n c x:Nat}{fs:List (Nat×V)}{v:V}{ov:IX}{expr:Bool}(ho:J[n]?=Ie (.inst c fs))(hk:xc c x=Ib)(hl:lk x fs=Ie v)(hX:F.b.X.contains x=Ib)(r:Rl F.b f C J s.heap)(hv:VR f C s.heap (.ref n) ov):W F A (getAttr ov (nm x) expr) rV f C s (.ok v J):=by obtain⟨a,fa,rfl⟩:=hv;obtain⟨a',ox,od,yp,I,O⟩:=iz r ho;replace yp:=yZ fa yp;cases yp;exact bF fk (n:=n) hX r I O hk hl
theorem Pe(fk:Facts F.b){n c x:Nat}{t:Bool}{fs:List (Nat×V)}{v:V}{ov:IX}{expr:Bool}(ho:J[n]?=Ie (.exc c t fs))(hk:xc c x=Ib)(hl:lk x fs=Ie v)(hX:F.b.X.contains x=Ib)(r:Rl F.b f C J s.heap)(hv:VR f C s.heap (.ref n) ov):W F A (getAttr ov (nm x) expr) rV f C s (.ok v J):=by obtain⟨a,fa,rfl⟩:=hv;obtain⟨a',ox,od,yp,I,O⟩:=RQ r ho;replace yp:=yZ fa yp;cases yp;exact bF fk (n:=n) hX r I O hk hl
theorem zM{e:M}{x n c:Nat}{fs:Loc}{v:V}(he:E F L e J (.ok (.ref n) zt))(ho:zt[n]?=Ie (.inst c fs))(hs:xc c x=Ib)(hl:lk x fs=Ie v):E F L (.attr e x) J (.ok v zt):=Yy he λhX fk r hv=>YM fk ho hs hl hX r hv
theorem Rc{e:M}{x n c:Nat}{t:Bool}{fs:Loc}{v:V}(he:E F L e J (.ok (.ref n) zt))(ho:zt[n]?=Ie (.exc c t fs))(hs:xc c x=Ib)(hl:lk x fs=Ie v):E F L (.attr e x) J (.ok v zt):=Yy he λhX fk r hv=>Pe fk ho hs hl hX r hv
end
open PySem PySem.W PySem.Calls PyProof.Rows Builtin Builtin.ObjectAttr
section
variable{M:Model}{A:Hv}{E:IX->IS->Prop}{s:IS}
theorem cH{d:I4}{n:Nat}{m:Str->Option IX}{name:Str}{tk:Tok}{v:IX}{Q:Fin->IS->Prop}(hn:qy s.heap d n m)(hz:n<=u1)(h:∀h' s6,qy h' d (if(m name).isSome then n else n+1) (λx=>if x=name then Ie v else m x)->HU d s.heap h'->Q (.done (.ret .none)) {s with heap:=h',toks:=s6}):wpAny M A (storeInDict d (.str name tk) name v) Q E s:=by obtain⟨o,es,ep,e1,e2,e3,e4,e5⟩:=hn;unfold storeInDict newKeyGuard;refine Ic (IW (Ic (Uq e1 e2 e3 λh' o' uJ yS g1 g2 g3 g4 g5 g6 hs=>?_)));rw[e4]at g6;obtain sz:uJ.size<=if(m name).isSome then n else n+1:=I8 g6 (by split<;>lia);refine Ic (wpAny_lookBehind g1 (by rw[g3];refine pastItsLine_dict ?_;obtain this:sizeLine=2^24:=rfl;have:u1=1000000:=rfl;split at sz<;>lia) ?_);exact IW (h h' _ ⟨o',uJ,yS,g1,g3,g4,λx=>by rewrite[g5];rw[e4],sz⟩ hs)
end
section
variable{prog:Program}{w:World}{A:Hv}{s:IS}{K:Frag}{x zP:I4}{ox:Obj}{od:Option Obj}{name:Str}{v:IX}{cd:ClassData}
theorem MD{tk:Tok}{R:Result->IS->Prop}(X:K.In s.heap)(I:InstAt s.heap x ox zP od)(hc:clsIn K zP=Ie cd)(hp:kc cd.mro=Ib)(ne:cd.mro.isEmpty=Ig)(hn:findIn K (.ref zP) name=Ie none)(h:wpAny (model prog w) A.in1 (storeInOwnDict (.ref x) (.ref zP) (.str name tk) name v Ig) (λfin s'=>match fin with|.done f=>R (.ok f) s'|.again c'=>c'.quiet=Ib/\codeAny (model prog w) A c' R s') (λe s'=>R (.error e) s') s):codeAny (model prog w) A (.call (.builtin "object.__setattr__") ⟨[.ref x,.str name tk,v],[]⟩) R s:=by obtain SF:=Eb;obtain⟨OP,eO⟩:=passes (.ref x) hp;obtain sub:Looks (model prog w) s.heap (isInstance (.ref x) (.type "object")) Ib:=I.type.andThen (looks_mroIn X (by unfold mroIn;rewrite[hc];rewrite[GZ];rewrite[if_neg (by rw[ne];decide)];rw[eO]));refine Ft SF.slot.plain SF.entry (@check_slot (model prog w) _ _ s "object.__setattr__" "object" "__setattr__" (.ref x) [.str name tk,v] [] _ SF.kind SF.split sub (SF.args (.ref x) (.str name tk) v) ?_);obtain hm:Looks (model prog w) s.heap (mroOf (.ref zP)) cd.mro:=(looks_clsIn X hc).andThen .now;rewrite[osa_eq];rw[refuse_eq];refine Ic (Ic (I.type.here (Ic (hm.here ?_))));rw[OP];exact IW (Ic (I.type.here (Ic ((looks_findIn X hn).here (Ic (IW h))))))
theorem MB{ox:Obj}{Q:Option I4->IS->Prop}{E:IX->IS->Prop}{M:Model}(X:K.In s.heap)(I:InstAt s.heap x ox zP od)(hc:clsIn K zP=Ie cd)(hd:cd.hasDict=Ib)(h1:∀dx,ox.dict=Ie dx->Q (Ie dx) s)(h2:ox.dict=none->Q (Ie s.heap.objs.size) {s with heap:=(s.heap.push {cls:=.type "dict",data:=.dict #[]}).update x λo=>{o with dict:=Ie s.heap.objs.size}}):wpAny M A (instanceDict x Ib) Q E s:=by obtain⟨hx,wH,OY,_⟩:=I;obtain⟨oc,MJ,WZ,MC⟩:=ox;dsimp only at wH;subst wH;unfold instanceDict;refine Ic (FY hx (Ic ((looks_clsIn X hc).here ?_)));rw[hd];cases MJ with|some dx=>exact IW (h1 dx rfl)|none=>have O3:(s.heap.push {cls:=.type "dict",data:=.dict #[]}).get? x=Ie ⟨.ref zP,none,WZ,MC⟩:=IB _ hx;dsimp only;rewrite[if_neg (by decide)];rw[if_neg (by simp[typeHasDict])];cases WZ<;>first|exact Ic (wpAny_alloc' (Ic (wpAny_update' O3 (IW (h2 rfl)))))|exact Gw OY
end
theorem VW(x:Nat)(v:V):∀L:Loc,(st x v L).length=if(lk x L).isSome then L.length else L.length+1|[]=>rfl|(y,w)::r=>by unfold st lk;cases q:IP x y with|true=>rfl|false=>show(st x v r).length+1=if(lk x r).isSome=Ib then r.length+1 else r.length+1+1;rw[VW x v r];split<;>rfl
section
variable{F:Fr}{A:Hv}{f:FM}{C:OW}{J zt zb yK:St}{s:IS}{h h':Hu}{L:Loc}
theorem FR.isSome{fs:List (Nat×V)}{m:Str->Option IX}(e:FR f C h fs m)(x:Nat):(m (nm x)).isSome=(lk x fs).isSome:=by cases q:lk x fs with|none=>rw[(e x).1 q];rfl|some v=>obtain⟨w,h1,_⟩:=(e x).2 v q;rw[h1];rfl
theorem FR.put{fs:List (Nat×V)}{m:Str->Option IX}{x:Nat}{v:V}{w:IX}(e:FR f C h fs m)(hv:VR f C h v w):FR f C h (st x v fs) (λy=>if y=nm x then Ie w else m y):=λy=>by
 rw[vD];by_cases q:y=x;.subst q;rw[if_pos rfl];exact⟨λz=>(nomatch z),λu z=>by cases z;exact⟨w,if_pos rfl,hv⟩⟩
 .rw[if_neg q];exact⟨λz=>(if_neg (iV q)).trans ((e y).1 z),λu z=>let⟨w',h1,h2⟩:=(e y).2 u z;⟨w',(if_neg (iV q)).trans h1,h2⟩⟩
theorem fy{n:Nat}{a dx:I4}{fs:List (Nat×V)}{m:Str->Option IX}{x:Nat}{v:V}{wv:IX}{tk:Nat}{o':O}(z6:F.s=Ig)(r:Rl F.b f C J s.heap)(fa:f n=Ie a)(wd:C dx=Ie n)(hf:FR f C s.heap fs m)(hv:VR f C s.heap v wv)(hn:qy h' dx (if(m (nm x)).isSome then fs.length else fs.length+1) (λy=>if y=nm x then Ie wv else m y))(hs:HU dx s.heap h')(ho:qy h' dx (st x v fs).length (λy=>if y=nm x then Ie wv else m y)->FR f C h' (st x v fs) (λy=>if y=nm x then Ie wv else m y)->tS F.b.w.params F.b.B f C h' n o' a):Done F [] f C s (J.set n o') f C {s with heap:=h',toks:=tk}:=by have al:∃o,h'.get? dx=Ie o:=let⟨_,_,_,q,_,_,_,_⟩:=hn;⟨_,q⟩;obtain ex:∀{fr},Ext fr f C s.heap f C h':=Ext.write hs wd al;rw[hf.isSome,<-VW x v]at hn;exact⟨ex,r.write hs wd al fa (ho hn (FR.put (FR.yi (ex (fr:=[])).v hf) (VR.ext (ex (fr:=[])) _ hv))),rfl,rfl,λq=>by replace q:=z6.symm.trans q;cases q⟩
theorem cL(fk:Facts F.b){c x:Nat}{a:I4}{ox:Obj}{od:Option Obj}{vv:IX}{Q:Unit->IS->Prop}(hX:F.b.X.contains x=Ib)(r:Rl F.b f C J s.heap)(hk:xc c x=Ib)(I:InstAt s.heap a ox c od)(h1:∀dx,ox.dict=Ie dx->wpAny (model F.b.prog F.b.w) A.in1 (storeInDict dx (.str (nm x) s.toks) (nm x) vv) (λfin s'=>fin=.done (.ret .none)/\Q () s') (λzz zz=>False) {s with toks:=s.toks+1})(h2:ox.dict=none->wpAny (model F.b.prog F.b.w) A.in1 (storeInDict s.heap.objs.size (.str (nm x) s.toks) (nm x) vv) (λfin s'=>fin=.done (.ret .none)/\Q () s') (λzz zz=>False) {s with heap:=(s.heap.push {cls:=.type "dict",data:=.dict #[]}).update a λo=>{o with dict:=Ie s.heap.objs.size},toks:=s.toks+1}):wpAny (model F.b.prog F.b.w) A (setAttr (.ref a) (nm x) vv) Q (λzz zz=>False) s:=by
 obtain⟨k1,k2⟩:=zh hk;obtain k2:=H9.mp k2;obtain X':=fk.yM.keeps r.base;obtain⟨cd,hc,hd,hp,wM⟩:=fk.cd c k1;refine set_plain X' I (fk.sa c k1) (MD (s:={s with toks:=s.toks+1}) X' I hc hp wM (fk.dI c x k1 hX k2) ?_);unfold storeInOwnDict ownDictForStores;refine Ic (IW ?_);rw[if_neg (by simp)];refine Ic (MB (s:={s with toks:=s.toks+1}) X' I hc hd (λdx e=>?_) λe=>?_);.exact II (h1 dx e) (λfin s'⟨q,z⟩=>by subst q;exact z) λzz zz z=>z
 .exact II (h2 e) (λfin s'⟨q,z⟩=>by subst q;exact z) λzz zz z=>z
theorem Vd{n c x:Nat}{fs:List (Nat×V)}{v:V}(z6:F.s=Ig)(hn:J[n]?=Ie (.inst c fs))(hk:xc c x=Ib)(hs:short fs=Ib):kD F (.ref n) x v J (J.set n (.inst c (st x v fs))):=λ{A f C s ov vv}hX fk r ho hv=>by
 obtain⟨a,fa,rfl⟩:=ho;obtain⟨a',yp,w,dx,m,wd,ne,g,hm,hf⟩:=r.objs n _ hn;replace yp:=yZ fa yp;cases yp;obtain⟨od,_,_,eN,_⟩:=id hm;refine cL fk hX r hk (od:=Ie od) ⟨g,rfl,rfl,eN⟩ (λZ8 q=>?_) λq=>by cases q
 cases q;refine cH (s:={s with toks:=s.toks+1}) hm (ID hs) λh' s6 pf hs=>⟨rfl,f,C,fy z6 r fa wd hf hv pf hs λz1 z2=>?_,trivial⟩;exact⟨w,dx,_,wd,ne,(hs.2 a (H0 ne)).trans g,z1,z2⟩
theorem Kh{n c x:Nat}{t:Bool}{fs:List (Nat×V)}{v:V}(z6:F.s=Ig)(hn:J[n]?=Ie (.exc c t fs))(hk:xc c x=Ib)(hs:short fs=Ib):kD F (.ref n) x v J (J.set n (.exc c t (st x v fs))):=λ{A f C s ov vv}hX fk r ho hv=>by
 obtain⟨a,fa,rfl⟩:=ho;obtain⟨a',yp,w,wJ,vs,g,sz,hq⟩:=r.objs n _ hn;replace yp:=yZ fa yp;cases yp;cases wJ with
 |some dx=>
  obtain⟨wd,ne,m,hm,hf⟩:=hq;obtain⟨od,_,_,eN,_⟩:=id hm;refine cL fk hX r hk (od:=Ie od) ⟨g,rfl,rfl,eN⟩ (λZ8 q=>?_) λq=>by cases q
  cases q;refine cH (s:={s with toks:=s.toks+1}) hm (ID hs) λh' s6 pf hs=>⟨rfl,f,C,fy z6 r fa wd hf hv pf hs λz1 z2=>?_,trivial⟩;exact⟨w,Ie dx,vs,(hs.2 a (H0 ne)).trans g,sz,wd,ne,_,z1,z2⟩
 |none=>
  have hq:fs=[]:=hq;subst hq;refine cL fk hX r hk (od:=none) ⟨g,rfl,rfl,trivial⟩ (λZ8 q=>by cases q) λzz=>?_;have gr:=wz s.heap emptyDict;have gd:(s.heap.push emptyDict).get? s.heap.objs.size=Ie emptyDict:=IC _ rfl;have fresh:s.heap.get? s.heap.objs.size=none:=tl (IV _);obtain⟨W_,nB⟩:=tY r (IV s.heap.objs.size);have na:s.heap.objs.size≠a:=Fj (HP g);obtain⟨qU,p0⟩:=(r.grow gr).YJ (m:=n) (l:=[s.heap.objs.size]) grows.refl λc hc=>by rw[I_.mp hc];exact⟨W_,nB,⟨_,gd⟩,um gd rfl⟩
  have vo:=Hx (s.heap.push emptyDict) a λo=>{o with dict:=Ie s.heap.objs.size};have qk:((s.heap.push emptyDict).update a λo=>{o with dict:=Ie s.heap.objs.size}).get? a=Ie ⟨.ref c,Ie s.heap.objs.size,.fields vs,#[]⟩:=Ho _ (gr _ _ g) rfl;have wa:ows C [s.heap.objs.size] n a=Ie n:=(t9 λq=>na (I_.mp q).symm).trans w;have Pj:=(vo.2 _ na).trans gd;have Xz:qy ((s.heap.push emptyDict).update a λo=>{o with dict:=Ie s.heap.objs.size}) s.heap.objs.size 0 (λzz=>none):=⟨_,#[],0,Pj,rfl,λe he=>absurd he (by simp),λzz=>rfl,IV _⟩;obtain Y1:FR f (ows C [s.heap.objs.size] n) ((s.heap.push emptyDict).update a λo=>{o with dict:=Ie s.heap.objs.size}) [] (λzz=>none):=λx=>⟨λzz=>rfl,λv e=>nomatch e⟩;obtain iE:=qU.write (o:=.exc c t []) vo wa ⟨_,qk⟩ fa ⟨wa,Ie s.heap.objs.size,vs,qk,sz,tA IQ,na,_,Xz,Y1⟩;have Wi:∀{c},C c=none->c≠a:=λk q=>by rw[q,w]at k;cases k
  have xx:Ext [] f C s.heap f (ows C [s.heap.objs.size] n) ((s.heap.push emptyDict).update a λo=>{o with dict:=Ie s.heap.objs.size}):=by
   refine⟨λzz zz e=>e,λc k e=>(t9 λq=>?_).trans e,λc k e=>?_,λc o e=>?_,λc o e k zz zz=>.inl ((vo.2 c (Wi k)).trans (gr _ _ e)),λc⟨zo,zY,zF,e⟩k=>((vo.2 c (Wi k)).trans (gr _ _ e)).trans e.symm⟩;.rw[I_.mp q,W_]at e;cases e
   .by_cases q:c=s.heap.objs.size;.rw[q];exact .inr fresh
    .exact .inl ((t9 λz=>q (I_.mp z)).symm.trans e)
   .by_cases q:c=a;.exact⟨_,(congrArg _ q).trans qk⟩
    .exact⟨o,(vo.2 c q).trans (gr _ _ e)⟩
  obtain ze:Done F [] f C s (J.set n (.exc c t [])) f (ows C [s.heap.objs.size] n) {s with heap:=(s.heap.push emptyDict).update a λo=>{o with dict:=Ie s.heap.objs.size}}:=⟨xx,iE,rfl,rfl,λq=>by replace q:=z6.symm.trans q;cases q⟩;refine cH (s:={s with heap:=_,toks:=s.toks+1}) Xz (HL _) λh' s6 pf hs=>⟨rfl,f,ows C [s.heap.objs.size] n,?_,trivial⟩;obtain dp:=fy (F:=F) (s:={s with heap:=_}) (tk:=s6) (a:=a) z6 iE fa (tA IQ) Y1 (VR.ext xx _ hv) pf hs (o':=.exc c t (st x v [])) λz1 z2=>⟨wa,Ie s.heap.objs.size,vs,(hs.2 a (H0 na)).trans qk,sz,tA IQ,na,_,z1,z2⟩;rw[EB]at dp;exact ze.trans dp
theorem rC{o e:M}{x n c:Nat}{v:V}{fs:Loc}(z6:F.s=Ig)(h:E F L e J (.ok v zt))(ho:E F L o zt (.ok (.ref n) zb))(hi:zb[n]?=Ie (.inst c fs))(hk:xc c x=Ib)(hs:short fs=Ib):X1 F L (.z9 o x e) J (.ok .next L (zb.set n (.inst c (st x v fs)))):=Um h ho (Vd z6 hi hk hs)
theorem Ul{o e:M}{x n c:Nat}{t:Bool}{v:V}{fs:Loc}(z6:F.s=Ig)(h:E F L e J (.ok v zt))(ho:E F L o zt (.ok (.ref n) zb))(hi:zb[n]?=Ie (.exc c t fs))(hk:xc c x=Ib)(hs:short fs=Ib):X1 F L (.z9 o x e) J (.ok .next L (zb.set n (.exc c t (st x v fs)))):=Um h ho (Kh z6 hi hk hs)
theorem bw{o e:M}{x n c:Nat}{i j:Int}{fs x9:Loc}(z6:F.s=Ig)(ho:E F L o J (.ok (.ref n) zt))(hi:zt[n]?=Ie (.inst c fs))(hk:xc c x=Ib)(hl:lk x fs=Ie (.int i))(h:E F L e zt (.ok (.int j) zb))(eZ:zb[n]?=Ie (.inst c x9))(hs:short x9=Ib):X1 F L (.qF o x e) J (.ok .next L (zb.set n (.inst c (st x (.int (i+j)) x9)))):=Jd ho (λhX fk r hv=>YM fk hi hk hl hX r hv) h (Vd z6 eZ hk hs)
end
open PySem PySem.W PySem.Calls PyProof.Rows
noncomputable def Wn:Nat:=30
noncomputable def Mc:Nat:=88
noncomputable def Wl:Nat:=69
noncomputable def ky:Nat:=49
noncomputable def Mb:Nat:=138
noncomputable def Wk:Nat:=141
noncomputable def dO:Nat:=47
theorem dN{h:Hu}:Frag.In [] h:=λzz zz e=>by cases e
theorem Jr(K:Frag):findCls K (.type "ValueError") (.type "type") "__init__"=Ie (.val (.builtin "ValueError.__init__")):=by kernel_rfl
theorem VC(K:Frag):findIn K (.type "type") "__getattribute__"=Ie (Ie (.builtin "type.__getattribute__")):=by kernel_rfl
theorem KH(K:Frag):subIn K (.type "type") (.type "type")=Ie Ib:=by kernel_rfl
theorem V7:typeOf (.type "ValueError")=pure (.type "type"):=by kernel_rfl
section
variable{F:Fr}{A:Hv}{f:FM}{C:OW}{J:St}{s:IS}{h:Hu}
theorem Jq{M:Model}:Looks M h (opaqueClassAbove (.type "ValueError")) none:=Gq (by kernel_rfl)
theorem Jp{M:Model}:Looks M h (specialOf (.type "ValueError") "__getattribute__") (Ie (.builtin "type.__getattribute__")):=by unfold specialOf;rw[V7];exact(Looks.now).andThen (looks_findIn (K:=[]) dN (VC []))
theorem xM{n c:Nat}{fs:List (Nat×V)}{x g:Nat}(hn:J[n]?=Ie (.inst c fs))(hm:prog.zl c x=Ie g)(hf:lk x fs=none):Find F (.ref n) x J (.fn g) [.ref n]:=by
 refine⟨λ{A f C s ov pl}hX r ak hv=>?_⟩;obtain⟨a,fa,rfl⟩:=hv;obtain⟨a',ox,od,yp,I,hx⟩:=iz r hn;replace yp:=yZ fa yp;cases yp;obtain X':=ak.ok.yM.keeps r.base;obtain⟨k1,k2,k3⟩:=ak.ok.zl c x g hm hX;obtain⟨ga,ej,P6⟩:∃ga,findIn F.b.K (.ref c) "__getattribute__"=Ie (Ie (.builtin ga))/\(Manifest.canonical ga !="object.__getattribute__")=Ig:=by
  rcases ak.ok.ga c k1 with q|⟨q,_⟩;.exact⟨_,q,PySem.F.canon_object_ga⟩
  .exact⟨_,q,by decide+kernel⟩
 obtain hx:=(hx x).2 hf od rfl;have h:PO F (λf C h(zz:Unit)(r:IX×List IX)=>VR f C h (.fn g) r.1/\zS f C h [.ref n] r.2) f C s (.ok () J) (.ref g,[.ref a]) s:=w5 r ⟨rfl,_,_,rfl,⟨a,fa,rfl⟩,rfl⟩;unfold getMethod specialOf;refine Ic (Ic (I.type.here ((looks_findIn X' ej).here ?_)));dsimp only;rewrite[P6];rw[if_neg (by decide)];refine Ic (Ic (I.type.here ((looks_findIn X' (ak.ok.gx c k1)).here ?_)));refine Ic (Ic (I.type.here ((looks_findIn X' k2).here (Ic ((looks_typeIn X' k3).here ?_)))));rw[if_neg (by decide+kernel)];refine Ic (FY I.at_ ?_);obtain hd:=I.dict;cases e:ox.dict with|none=>exact Ic (G2 (IW h))|some dx=>rw[e]at hd;refine Ic (Ic (FY hd ?_));rw[nsLook_of hx];exact IW (Ic (G2 (IW h)))
theorem fb{b:Bi}{T name:String}{n x:Nat}{a:I4}{o:Obj}{pl:Sem Bool}(r:Rl F.b f C J s.heap)(fa:f n=Ie a)(g:s.heap.get? a=Ie o)(hc:o.cls=.type T)(hd:o.dict=none)(hx:nm x=name)(h:∀{Q:IX×List IX->IS->Prop}{E:IX->IS->Prop},s.TypeIs (.ref a) T->(∀c,Gg a=.ref c->∃o,s.heap.get? c=Ie o/\o.dict=none)->Q (.builtin b.id,[.ref a]) s->wpAny (model F.b.prog F.b.w) A (getMethod (.ref a) name pl) Q E s):W F A (getMethod (.ref a) (nm x) pl) (λf C h(zz:Unit)(r:IX×List IX)=>VR f C h (.bi b) r.1/\zS f C h [.ref n] r.2) f C s (.ok () J):=by rw[hx];exact h ⟨_,g,hc⟩ (λc e=>by cases e;exact⟨_,g,hd⟩) (w5 r ⟨rfl,_,_,rfl,⟨a,fa,rfl⟩,rfl⟩)
theorem ua{n:Nat}{xs:List V}(hn:J[n]?=Ie (.list xs)):Find F (.ref n) Wn J (.bi .nY) [.ref n]:=⟨λzo r zY⟨a,fa,e⟩=>by subst e;obtain⟨w,items,ep,g,_⟩:=xZ r fa hn;exact fb r fa g rfl rfl (by kernel_rfl) λhT dn h=>getMethod_builtin (T:="list") (name:="append") hT Gm FE PySem.F.type_list_append dn h⟩
theorem RB{n:Nat}{xs:List V}(hn:J[n]?=Ie (.list xs)):Find F (.ref n) Mc J (.bi .df) [.ref n]:=⟨λzo r zY⟨a,fa,e⟩=>by subst e;obtain⟨w,items,ep,g,_⟩:=xZ r fa hn;exact fb r fa g rfl rfl (by kernel_rfl) λhT dn h=>getMethod_builtin (T:="list") (name:="extend") hT Gm FC PySem.F.type_list_extend dn h⟩
theorem R8{n:Nat}{xs:List V}(hn:J[n]?=Ie (.list xs)):Find F (.ref n) Wl J (.bi .dU) [.ref n]:=⟨λzo r zY⟨a,fa,e⟩=>by subst e;obtain⟨w,items,ep,g,_⟩:=xZ r fa hn;exact fb r fa g rfl rfl (by kernel_rfl) λhT dn h=>getMethod_builtin (T:="list") (name:="pop") hT Gm Eo PySem.F.type_list_pop dn h⟩
theorem R9{n:Nat}{xs:List V}(hn:J[n]?=Ie (.list xs)):Find F (.ref n) Mb J (.bi .de) [.ref n]:=⟨λzo r zY⟨a,fa,e⟩=>by subst e;obtain⟨w,items,ep,g,_⟩:=xZ r fa hn;exact fb r fa g rfl rfl (by kernel_rfl) λhT dn h=>getMethod_builtin (T:="list") (name:="index") hT Gm F4 PySem.F.type_list_index dn h⟩
theorem tM{n:Nat}{es:List (List Nat×V)}(hn:J[n]?=Ie (.dict es)):Find F (.ref n) ky J (.bi .zE) [.ref n]:=⟨λzo r zY⟨a,fa,e⟩=>by subst e;obtain⟨w,items,ep,g,_⟩:=vg r fa hn;exact fb r fa g rfl rfl (by kernel_rfl) λhT dn h=>getMethod_builtin (T:="dict") (name:="get") hT Gz Ge En dn h⟩
theorem YY{n:Nat}{es:List (List Nat×V)}(hn:J[n]?=Ie (.uy es)):Find F (.ref n) ky J (.bi .zE) [.ref n]:=⟨λzo r zY⟨a,fa,e⟩=>by subst e;obtain⟨a',yp,ents,ep,g,_⟩:=r.objs n _ hn;replace yp:=yZ fa yp;cases yp;exact fb r fa (r.base _ _ g) rfl rfl (by kernel_rfl) λhT dn h=>getMethod_builtin (T:="dict") (name:="get") hT Gz Ge En dn h⟩
theorem YX{n:Nat}{es:List (List Nat×V)}(hn:J[n]?=Ie (.dict es)):Find F (.ref n) Wl J (.bi .fw) [.ref n]:=⟨λzo r zY⟨a,fa,e⟩=>by subst e;obtain⟨w,items,ep,g,_⟩:=vg r fa hn;exact fb r fa g rfl rfl (by kernel_rfl) λhT dn h=>getMethod_builtin (T:="dict") (name:="pop") hT Gz Em PySem.F.type_dict_pop dn h⟩
theorem R7{n:Nat}{es:List (List Nat×V)}(hn:J[n]?=Ie (.dict es)):Find F (.ref n) Wk J (.bi .m4) [.ref n]:=⟨λzo r zY⟨a,fa,e⟩=>by subst e;obtain⟨w,items,ep,g,_⟩:=vg r fa hn;exact fb r fa g rfl rfl (by kernel_rfl) λhT dn h=>getMethod_builtin (T:="dict") (name:="update") hT Gz FA PySem.F.type_dict_update dn h⟩
theorem fR{c x g:Nat}(hm:prog.zl c x=Ie g):Find F (.cl c) x J (.fn g) []:=⟨λhX r ak hv=>by cases hv;obtain X':=ak.ok.yM.keeps r.base;obtain⟨k1,k2,k3⟩:=ak.ok.reads c x g hm hX;exact method_cls X' k3 (cls_value X' k1 k2 rfl (xj r ⟨rfl,rfl⟩))⟩
theorem R6:Find F (.ty .cA) dO J (.bi .c9) []:=⟨λ{A f C s ov pl}hX r zz hv=>by cases hv;show W F A (getMethod (.type "ValueError") (nm dO) pl) _ _ _ _ _;rw[show nm dO="__init__"by kernel_rfl];unfold getMethod;refine Ic (Jp.here ?_);dsimp only;rw[if_pos canon_tga];refine Ic (cls_open (K:=[]) (mc:=.type "type") dN Jq (Gq V7) (VC []) (looks_hook (r:=none) dN rfl) (KH []) (Jr []) ?_);exact IW (handed_on rfl (IW (xj r ⟨rfl,rfl⟩)))⟩
end
open PySem PySem.W PySem.Calls PyProof.Rows
theorem K'(s t:List Nat):tx s++tx t=tx (s++t):=congrArg Str.mk (List.append_toArray _ _)
theorem my(s:List Nat):(tx s).length=s.length:=HD
section
variable{F:Fr}{A:Hv}{f:FM}{C:OW}{J:St}{s:IS}{h:Hu}
theorem zS.Wf{vs:List V}{ws:List IX}(e:zS f C h vs ws):vs=[]↔ws=[]:=by obtain this:=e.length;rewrite[←Gl];rewrite[←Gl (l:=ws)];rw[this]
theorem g_{i j:Int}:ui F .add (.int i) (.int j) J (.ok (.int (i+j)) J):=by refine⟨λr zo⟨t,e1⟩⟨u,e2⟩=>?_⟩;subst e1 e2;exact PyProof.Rows.add_int (xj r ⟨_,rfl⟩)
theorem b9{i j:Int}:ui F .sub (.int i) (.int j) J (.ok (.int (i-j)) J):=by refine⟨λr zo⟨t,e1⟩⟨u,e2⟩=>?_⟩;subst e1 e2;exact PyProof.Rows.sub_int' (xj r ⟨_,rfl⟩)
theorem oZ{i j:Int}(h0:0<j)(h1:j<1000000):ui F .floordiv (.int i) (.int j) J (.ok (.int (i/j)) J):=by refine⟨λr zo⟨t,e1⟩⟨u,e2⟩=>?_⟩;subst e1 e2;refine PyProof.Rows.floordiv_int (by lia) ?_ (Or.inl (PyProof.noPylong_small (by lia)));rw[Int.fdiv_eq_ediv_of_nonneg _ (by lia)];exact xj r ⟨_,rfl⟩
theorem qw{i j:Int}(h0:0<j):ui F .mod (.int i) (.int j) J (.ok (.int (i%j)) J):=by refine⟨λr zo⟨t,e1⟩⟨u,e2⟩=>?_⟩;subst e1 e2;refine PyProof.Rows.mod_int' (by lia) ?_;rw[Int.fmod_eq_emod_of_nonneg _ (by lia)];exact xj r ⟨_,rfl⟩
theorem Su:ui F .pow (.int 10) (.int 6) J (.ok (.int 1000000) J):=by refine⟨λr zo⟨t,e1⟩⟨u,e2⟩=>?_⟩;subst e1 e2;exact Ea (by decide) (by decide+kernel) (xj r ⟨_,rfl⟩)
theorem Ss:ui F .pow (.int 10) (.int 7) J (.ok (.int 10000000) J):=by refine⟨λr zo⟨t,e1⟩⟨u,e2⟩=>?_⟩;subst e1 e2;exact Ea (by decide) (by decide+kernel) (xj r ⟨_,rfl⟩)
theorem u5{a b:List Nat}(hs:short (a++b)=Ib):ui F .add (.str a) (.str b) J (.ok (.str (a++b)) J):=by refine⟨λr zo⟨t,e1⟩⟨u,e2⟩=>?_⟩;subst e1 e2;obtain hq:=vJ hs;rw[IZ]at hq;refine PyProof.Rows.add_str (λt' tk=>?_) (by rewrite[my];rw[my];exact hq);rw[K'];exact xj r ⟨_,rfl⟩
theorem b8{vs ws:List V}(hs:short (vs++ws)=Ib):ui F .add (.tup vs) (.tup ws) J (.ok (.tup (vs++ws)) J):=by
 refine⟨λ{A f C s xv yv}r zz hx hy=>?_⟩;obtain⟨a,items,ep,sl,rfl,g,n,hv⟩:=hx;obtain⟨a',tZ,yS,sq,rfl,g',n',sQ⟩:=hy;obtain hq:=vJ hs;rw[IZ]at hq;obtain l1:=hv.length;obtain l2:=sQ.length;rw[IE]at l1 l2;by_cases e1:items.isEmpty=Ib;.refine concat_meets ⟨_,g,rfl⟩ ⟨_,g',rfl⟩ noFill_tuple_add seq_tuple_add G5 GD (GO _ _) (tuple_addW0 a a' items tZ ep yS none none sl sq e1) ⟨g,g',?_⟩;have:vs=[]:=hv.Wf.mpr (by simpa using e1);subst this;exact w5 r ⟨a',tZ,yS,sq,rfl,g',n',sQ⟩
 .by_cases e2:tZ.isEmpty=Ib;.refine concat_meets ⟨_,g,rfl⟩ ⟨_,g',rfl⟩ noFill_tuple_add seq_tuple_add G5 GD (GO _ _) (tuple_addW1 a a' items tZ ep yS none none sl sq e1 e2) ⟨g,g',?_⟩;obtain this:ws=[]:=sQ.Wf.mpr (by simpa using e2);subst this;rw[Hf];exact w5 r ⟨a,items,ep,sl,rfl,g,n,hv⟩
  .refine concat_meets ⟨_,g,rfl⟩ ⟨_,g',rfl⟩ noFill_tuple_add seq_tuple_add G5 GD (GO _ _) (tuple_addW2 a a' items tZ ep yS none none sl sq e1 e2 (by lia)) ⟨g,g',?_⟩;obtain d:=j_ (F:=F) (fr:=[]) r {cls:=.type "tuple",data:=.seq (items++tZ)};refine⟨f,C,d,s.heap.objs.size,items++tZ,0,#[],rfl,IC _ rfl,(tY r (IV _)).1,?_⟩;rw[Fm];exact zS.ext d.ext _ (hv.append sQ)
theorem mS{m n:Nat}{xs ys:List V}(h1:J[m]?=Ie (.list xs))(h2:J[n]?=Ie (.list ys))(hs:short (xs++ys)=Ib):ui F .add (.ref m) (.ref n) J (.ok (.ref J.length) (J++[.list (xs++ys)])):=by refine⟨λ{A f C s xv yv}r zz hx hy=>?_⟩;obtain⟨a,fa,rfl⟩:=hx;obtain⟨a',yp,rfl⟩:=hy;obtain⟨_,items,ep,g,hv⟩:=xZ r fa h1;obtain⟨_,tZ,yS,g',sQ⟩:=xZ r yp h2;obtain hq:=vJ hs;rw[IZ]at hq;obtain l1:=hv.length;obtain l2:=sQ.length;rw[IE]at l1 l2;refine concat_meets ⟨_,g,rfl⟩ ⟨_,g',rfl⟩ noFill_list_add seq_list_add PySem.F.slot_list_add PySem.F.entry_list_add (PySem.F.args_list_add_2 _ _) (list_addW a a' items tZ ep yS none none #[] #[] (by lia)) ⟨g,g',?_⟩;exact pL (tk:=s.toks) (g:=s.heap) r grows.refl (by rw[Fm];exact hv.append sQ)
set_option tactic.hygienic true in theorem bA{m:Nat}{j:Int}{xs:List V}(h1:J[m]?=Ie (.list xs))(hj:j=0\/j=1)(hs:short xs=Ib):ui F .mul (.ref m) (.int j) J (.ok (.ref J.length) (J++[.list (if j=0 then[]else xs)])):=by
 refine⟨λ{A f C s xv yv}r zz hx hy=>?_⟩;obtain⟨a,fa,rfl⟩:=hx;obtain⟨u,rfl⟩:=hy;obtain⟨_,items,ep,g,hv⟩:=xZ r fa h1;obtain l1:=hv.length;replace l1:=IE.symm.trans l1;obtain hq:=vJ hs;obtain z:sizeLine=2^24:=rfl;have hm:items.size*j.toNat<=2^24:=by
  rcases hj with rfl|rfl;.simp
  .simp;lia
 refine wpAny_binaryOp_repeat_ref (T:="list") (U:="int") (by decide) ⟨_,g,rfl⟩ (λs'=>typeIs_int s' j u) noFill_list_mul PySem.F.fills_int_mul El repeat_list PySem.F.slot_int_index.lookup (call_meets El (typeIs_int s j u) PySem.F.entry_int_rmul (PySem.F.args_int_rmul_2 _ _) (int___rmul___int_list j u a items ep) ⟨g,rfl,⟨_,g,rfl⟩,call_meets PySem.F.slot_list_mul ⟨_,g,rfl⟩ PySem.F.entry_list_mul (PySem.F.args_list_mul_2 _ _) (AutoListH.list___mul___list_int_3 a items ep j u (by simp[Builtin.List.listFitsIndex];lia) (by lia) ?_) ⟨g,?_⟩⟩)
 .rcases hj with rfl|rfl;.simp[GN,sizeLine]
  .simp[GN,sizeLine];lia
 .obtain e:List.foldl (λx1 x2=>x1++x2) #[] (Ds (if items.isEmpty=Ib then 0 else j.toNat) items)=if j=0 then#[]else items:=by
   rcases hj with rfl|rfl;.split<;>rfl
   .split;.rename_i z;exact(show items=#[]by simpa using z).symm
    .simp
  rw[e];exact pL (tk:=s.toks) (g:=s.heap) r grows.refl (by split;exact rfl;exact hv)
end
open PySem PySem.W PySem.Calls PyProof.Rows
mutual
noncomputable def conv:V->PyData|.none=>.none|.bool b=>.bool b|.int i=>.int i|.str s=>.str (tx s)|.tup vs=>.tuple (vV vs)|_=>.none
noncomputable def vV:List V->List PyData|[]=>[]|v::r=>conv v::vV r
end
noncomputable def lvl:Nat->V->Bool|zo,.none|zY,.bool zF|yX,.int xe=>Ib|zo,.str s=>s.all λc=>Hq c 0x110000|n+1,.tup vs=>vs.all (lvl n)|zo,zY=>Ig
section
variable{F:Fr}{A:Hv}{f:FM}{C:OW}{J:St}{s:IS}{h:Hu}
mutual
theorem iG:∀(n:Nat)(v:V)(w:IX),lvl n v=Ib->VR f C h v w->C3 (∃as,Reads h w (conv v) as) ((conv v).canLay0=Ib) ((conv v).depth<=n)
|n,.none,w,zo,e=>by cases e;exact⟨⟨[],.none⟩,rfl,HL _⟩
|n,.bool b,w,zo,e=>by cases e;exact⟨⟨[],.bool b⟩,rfl,HL _⟩
|n,.int i,w,zo,e=>by obtain⟨t,rfl⟩:=e;exact⟨⟨[],.int i t⟩,rfl,HL _⟩
|n,.str s,w,hl,e=>by
 obtain⟨t,rfl⟩:=e;have hl:(s.all λc=>Hq c 0x110000)=Ib:=by cases n<;>exact hl
 refine⟨⟨[],.str _ t⟩,?_,HL _⟩;show(tx s).cps.all (λc=>decide (c<0x110000))=Ib;unfold tx;rw[List.all_toArray];rw[I2]at hl⊢;exactλc hc=>decide_eq_true (ID (hl c hc))
|n+1,.tup vs,w,hl,e=>by obtain⟨a,items,ep,sl,rfl,g,_,hv⟩:=e;obtain⟨⟨as,z1⟩,z2,z3⟩:=cX n vs _ hl hv;exact⟨⟨as,.tuple g rfl rfl z1⟩,z2,Hs z3⟩
|0,.tup vs,w,hl,e=>by cases hl
|n,.ref zo,w,hl,e|n,.fn zY,w,hl,e|n,.cl zF,w,hl,e|n,.bi yX,w,hl,e|n,.ty xe,w,hl,e=>by cases n<;>cases hl
theorem cX:∀(n:Nat)(vs:List V)(ws:List IX),vs.all (lvl n)=Ib->zS f C h vs ws->C3 (∃as,ReadsAll h ws (vV vs) as) (PyData.canLayAll0 (vV vs)=Ib) (PyData.depthAll (vV vs)<=n)|n,[],ws,zo,e=>by cases e;exact⟨⟨[],.nil⟩,rfl,HL _⟩|n,v::vs,ws,hl,e=>by obtain⟨w,r,rfl,e1,e2⟩:=e;rw[List.all_cons,Hg]at hl;obtain⟨⟨as,a1⟩,a2,a3⟩:=iG n v w hl.1 e1;obtain⟨⟨bs,b1⟩,b2,b3⟩:=cX n vs r hl.2 e2;refine⟨⟨as++bs,.cons a1 b1⟩,(Hg _ _).mpr ⟨a2,b2⟩,Nat.max_le.mpr ⟨a3,b3⟩⟩
end
noncomputable def ou(f:FM)(C:OW)(h:Hu)(x:V)(d:PyData):Prop:=∀w,VR f C h x w->∃as,Reads h w d as/\FW d=Ib
theorem Vb{d:PyData}{n:Nat}(h1:d.canLay0=Ib)(h2:d.depth<=n)(h3:n<=64):FW d=Ib:=by unfold FW;rewrite[h1];rewrite[F9];rw[decide_eq_true_eq];lia
theorem jn{x:V}(h:lvl 3 x=Ib):ou f C s.heap x (conv x):=λw hw=>by obtain⟨⟨as,a1⟩,a2,a3⟩:=iG 3 x w h hw;exact⟨as,a1,Vb a2 a3 (by decide)⟩
theorem aY{x:V}{xs:List V}{a:I4}{o:Obj}{items:Array IX}{ep:Nat}(hx:∀w,VR f C h x w->w=.ref a)(g:h.get? a=Ie o)(hc:o.cls=.type "list")(hd:o.data=.seq items ep)(hv:zS f C h xs items.toList)(hl:xs.all (lvl 3)=Ib):ou f C h x (.list (vV xs)):=λw hw=>by rw[hx w hw];obtain⟨⟨as,a1⟩,a2,a3⟩:=cX 3 xs _ hl hv;exact⟨_,.list g hc hd a1,Vb (n:=4) (by simpa[PyData.canLay0]using a2) (by simp only[PyData.depth];lia) (by decide)⟩
theorem aZ{n:Nat}{xs:List V}(r:Rl F.b f C J s.heap)(hn:J[n]?=Ie (.list xs))(hl:xs.all (lvl 3)=Ib):ou f C s.heap (.ref n) (.list (vV xs)):=by obtain⟨a,fa,_,items,ep,g,hv⟩:=r.objs n _ hn;exact aY (λw⟨a',yp,e⟩=>by replace yp:=yZ fa yp;cases yp;exact e) g rfl rfl hv hl
theorem Rp{n:Nat}{xs:List V}(r:Rl F.b f C J s.heap)(hn:J[n]?=Ie (.qC xs))(hl:xs.all (lvl 3)=Ib):ou f C s.heap (.ref n) (.list (vV xs)):=by obtain⟨a,fa,items,ep,sl,g,hv⟩:=r.objs n _ hn;exact aY (λw⟨a',yp,e⟩=>by replace yp:=yZ fa yp;cases yp;exact e) (r.base _ _ g) rfl rfl hv hl
theorem gH{x y:V}{dx dy:PyData}(hx:∀{f:FM}{C:OW}{s:IS},Rl F.b f C J s.heap->ou f C s.heap x dx)(hy:∀{f:FM}{C:OW}{s:IS},Rl F.b f C J s.heap->ou f C s.heap y dy):x_ F .eq x y J (Fz dx dy)/\x_ F .ne x y J (!Fz dx dy):=by
 constructor<;>refine⟨λ{A f C s xv yv}r a h1 h2=>?_⟩;all_goals
  have hu:A.units+64<cLine:=by obtain this:=a.units;lia
  obtain⟨as,z1,z2⟩:=hx r xv h1;obtain⟨bs,y1,y2⟩:=hy r yv h2
 .exact PyProof.Rows.eq_dataH z1 y1 z2 y2 hu (w5 r rfl)
 .exact PyProof.Rows.ne_dataH z1 y1 z2 y2 hu (w5 r rfl)
theorem gW{x y:V}{t:Bool}(hx:lvl 3 x=Ib)(hy:lvl 3 y=Ib)(h:Fz (conv x) (conv y)=t):x_ F .eq x y J t:=h▸(gH (λzz=>jn hx) (λzz=>jn hy)).1
theorem gT{x y:V}{t:Bool}(hx:lvl 3 x=Ib)(hy:lvl 3 y=Ib)(h:Fz (conv x) (conv y)=t):x_ F .ne x y J (!t):=h▸(gH (λzz=>jn hx) (λzz=>jn hy)).2
theorem mO{m n:Nat}{xs ys:List V}{t:Bool}(h1:J[m]?=Ie (.list xs)\/J[m]?=Ie (.qC xs))(h2:J[n]?=Ie (.list ys))(hx:xs.all (lvl 3)=Ib)(hy:ys.all (lvl 3)=Ib)(h:EN (vV xs) (vV ys)=t):x_ F .eq (.ref m) (.ref n) J t/\x_ F .ne (.ref m) (.ref n) J (!t):=h▸gH (λr=>h1.elim (λq=>aZ r q hx) λq=>Rp r q hx) (λr=>aZ r h2 hy)
theorem Yj(a b:List Nat):Fz (conv (.str a)) (conv (.str b))=zR b a:=by exact gP a b
theorem jv{i j:Int}:x_ F .lt (.int i) (.int j) J (decide (i<j)):=by refine⟨λr zo⟨t,e1⟩⟨u,e2⟩=>?_⟩;subst e1 e2;exact ET (w5 r rfl)
noncomputable def isNone:V->Option Bool|.none=>Ie Ib|.bi zo=>none|_=>Ie Ig
theorem beq_none{v:V}{w:IX}{c:Bool}(hv:VR f C h v w)(e:isNone v=Ie c):plainIs w .none=Ib/\(w==HF)=c:=by cases v with|none=>cases hv;cases e;exact⟨rfl,beq_self_eq_true _⟩|bi zo=>cases e|bool zo|fn zY|cl zF|ty yX=>cases hv;cases e;exact⟨rfl,beq_false_of_ne (λq=>by cases q)⟩|int zo|str zY=>obtain⟨t,rfl⟩:=hv;cases e;exact⟨rfl,beq_false_of_ne (λq=>by cases q)⟩|tup zo=>obtain⟨a,_,_,_,rfl,_⟩:=hv;cases e;exact⟨rfl,beq_false_of_ne (λq=>by cases q)⟩|ref zo=>obtain⟨a,_,rfl⟩:=hv;cases e;exact⟨rfl,beq_false_of_ne (λq=>by cases q)⟩
theorem yT{v:V}{t:Bool}(e:isNone v=Ie t):x_ F .is v .none J t:=by refine⟨λr zz hx hy=>?_⟩;cases hy;obtain⟨z1,z2⟩:=beq_none hx e;exact wpAny_is_plain z1 (by rw[z2];exact w5 r rfl)
theorem rd{v:V}{t:Bool}(e:isNone v=Ie t):x_ F .yO v .none J (!t):=by refine⟨λr zz hx hy=>?_⟩;cases hy;obtain⟨z1,z2⟩:=beq_none hx e;exact wpAny_isNot_plain z1 (by rw[z2];exact w5 r rfl)
noncomputable def strsOf:List V->Option (List (List Nat))|[]=>Ie []|.str s::r=>(strsOf r).map (s::.)|_=>none
noncomputable def rU(k:List Nat)(y:IX):Bool:=match y with|.str a _=>a==tx k|_=>Ig
set_option tactic.hygienic true in theorem kP{k:List Nat}{t:Tok}:∀{vs:List V}{ws:List IX}{l:List (List Nat)},zS f C h vs ws->strsOf vs=Ie l->(∀y∈ws,MeetsSeq.EqGives y (.str (tx k) t) (rU k y))/\ws.map (rU k)=l.map (zR k)
|[],zo,l,e,hl=>by cases e;cases hl;exact⟨λy hy=>absurd hy (by simp),rfl⟩
|v::vs,zo,l,⟨w,r,e,e1,e2⟩,hl=>by
 subst e;cases v<;>first|cases hl|skip
 rename_i a;obtain⟨l',h1,rfl⟩:=IG.mp hl;obtain⟨t',rfl⟩:=e1;have ih:=kP (k:=k) (t:=t) e2 h1;refine⟨λy hy=>?_,?_⟩
 .rcases IU.mp hy with rfl|hy;.have:=Dh (tx a) (tx k) t' t;rw[PySem.SeqAt.str_beq]at this;exact this
  .exact ih.1 y hy
 .rewrite[Hy];rewrite[Hy];rw[ih.2];exact congrArg (.::_) (gP a k)
theorem any_map{zi:Type}(p:zi->Bool)(l:List zi):l.any p=(l.map p).any id:=by rw[List.any_map];rfl
theorem kB{k:List Nat}{t:Tok}{vs:List V}{items:Array IX}{l:List (List Nat)}(hv:zS f C h vs items.toList)(h1:strsOf vs=Ie l):items.any (rU k)=l.any (zR k):=by rewrite[<-Array.any_toList];rewrite[any_map];rewrite[(kP (k:=k) (t:=t) hv h1).2];rw[<-any_map]
theorem gV{k:List Nat}{vs:List V}{l:List (List Nat)}(hl:strsOf vs=Ie l):x_ F .yM (.str k) (.tup vs) J (l.any (zR k))/\x_ F .y5 (.str k) (.tup vs) J (!l.any (zR k)):=by
 constructor<;>refine⟨λ{A f C s xv yv}r zz hx hy=>?_⟩;all_goals obtain⟨t,rfl⟩:=hx;obtain⟨a,items,ep,sl,rfl,g,_,hv⟩:=hy;have hT:s.heap.IsTuple a items:=⟨_,g,rfl,ep,rfl⟩;have z1:=(kP (k:=k) (t:=t) hv hl).1
 .exact PySem.SeqAt.in_tupleAt (rU k) hT (λy hy=>(z1 y (Hm.mpr hy)).at _ _) (by rw[kB (t:=t) hv hl];exact w5 r rfl)
 .exact PySem.SeqAt.notIn_tupleAt (rU k) hT (λy hy=>(z1 y (Hm.mpr hy)).at _ _) (by rw[kB (t:=t) hv hl];exact w5 r rfl)
theorem mL{n:Nat}{k:List Nat}{xs:List V}{l:List (List Nat)}(hn:J[n]?=Ie (.list xs))(hl:strsOf xs=Ie l):x_ F .yM (.str k) (.ref n) J (l.any (zR k))/\x_ F .y5 (.str k) (.ref n) J (!l.any (zR k)):=by
 constructor<;>refine⟨λ{A f C s xv yv}r zz hx hy=>?_⟩;all_goals obtain⟨t,rfl⟩:=hx;obtain⟨a,fa,rfl⟩:=hy;obtain⟨_,items,ep,g,hv⟩:=xZ r fa hn;have hT:s.heap.IsList a items:=⟨_,g,rfl,ep,rfl⟩;have z1:=(kP (k:=k) (t:=t) hv hl).1
 .exact PySem.SeqAt.in_listAt (rU k) hT (λy hy=>(z1 y (Hm.mpr hy)).at _ _) (by rw[kB (t:=t) hv hl];exact w5 r rfl)
 .exact PySem.SeqAt.notIn_listAt (rU k) hT (λy hy=>(z1 y (Hm.mpr hy)).at _ _) (by rw[kB (t:=t) hv hl];exact w5 r rfl)
theorem i_{b:Bc}{es:List (List Nat×V)}{ents:Array Hn}{ep:Nat}{a:I4}(dr:DR b.w.params f C h es ents.toList)(g:h.get? a=Ie (xo ents ep)):h.MapOf (strKind b.prog b.w) a (findBy (strKind b.prog b.w).is ents)/\∀k,(∀v,zE k es=Ie v->∃w,findBy (strKind b.prog b.w).is ents (tx k)=Ie w/\VR f C h v w)/\(zE k es=none->findBy (strKind b.prog b.w).is ents (tx k)=none):=by
 refine⟨⟨_,ents,ep,g,⟨rfl,rfl,rfl⟩,rfl,λe he=>DR.keys dr e (Hm.mpr he),λzz=>rfl⟩,λk=>?_⟩;rewrite[findBy_of_findIdx?];rw[findIdx_toArray];rcases DR.at (prog:=b.prog) (k:=k) (v:=.none) (wv:=.none) (mw:=0) dr with⟨i,e,u,z1,z2,z3,z4,_⟩|⟨z1,z2,_⟩;.rw[z1];refine⟨λv q=>?_,λq=>(nomatch z3.symm.trans q)⟩;replace q:=yZ z3 q;cases q;exact⟨e.val,by show Option.map _ ents[i]?=_;rewrite[<-I'];rw[z2];rfl,z4⟩
 .rw[z1];exact⟨λv q=>(nomatch z2.symm.trans q),λzz=>rfl⟩
theorem mM{n:Nat}{k:List Nat}{es:List (List Nat×V)}(hn:J[n]?=Ie (.dict es)):x_ F .yM (.str k) (.ref n) J (zE k es).isSome/\x_ F .y5 (.str k) (.ref n) J (!(zE k es).isSome):=by
 constructor<;>refine⟨λ{A f C s xv yv}r ak hx hy=>?_⟩;all_goals obtain⟨t,rfl⟩:=hx;obtain⟨a,fa,rfl⟩:=hy;obtain⟨w,ents,ep,g,dr,nd⟩:=vg r fa hn;obtain⟨m1,m2⟩:=i_ dr g;have z:(findBy (strKind F.b.prog F.b.w).is ents (tx k)).isSome=(zE k es).isSome:=by cases q:zE k es with|none=>rw[(m2 k).2 q];rfl|some v=>obtain⟨w,h1,_⟩:=(m2 k).1 v q;rw[h1];rfl
 .exact wpAny_in_of (strKind_is _ _ (tx k) t) (nN ak.ok r w) m1 (by rw[z];exact xj r rfl)
 .exact wpAny_notIn_of (strKind_is _ _ (tx k) t) (nN ak.ok r w) m1 (by rw[z];exact xj r rfl)
end
open PySem PySem.W PySem.Calls PyProof.Rows
theorem WG(a:Nat)(r:List Nat):Gx (Ie 1) (Ie (-1)) 1 (a::r).length=(HM (r.length-1)).map (.+1):=by
 simp only[Gx,sliceRange,HV];simp only[show(1:Int)>0 by decide,if_true,show¬((1:Int)<0)by decide,if_false,show(-1:Int)<0 by decide];obtain e1:max 0 (min (1:Int) ((r.length+1:Nat):Int))=1:=by lia
 obtain e2:max 0 (min (-1+((r.length+1:Nat):Int)) ((r.length+1:Nat):Int))=(r.length:Int):=by lia
 rewrite[e1];rw[e2];obtain e3:(if(1:Int)<(r.length:Int)then((r.length:Int)-1+1-1)/1 else 0).toNat=r.length-1:=by
  split;.rw[Int.ediv_one];lia
  .lia
 rw[e3];apply GS;intro k _;lia
theorem picked(s:List Nat):((Gx (Ie 1) (Ie (-1)) 1 s.length).filterMap (s[.]?))=(s.drop 1).dropLast:=by
 rcases s with _|⟨a,r⟩;.rfl
 .rewrite[WG];rw[List.filterMap_map];show Fb (λi=>(a::r)[i+1]?) (HM (r.length-1))=r.dropLast;obtain this:∀n,n<=r.length->Fb (λi=>(a::r)[i+1]?) (HM n)=r.take n:=by intro n;induction n with|zero=>intro _;simp|succ n ih=>intro hn;rewrite[List.range_succ];rewrite[List.filterMap_append];rw[ih (by lia)];simp only[List.getElem?_cons_succ];rw[List.take_add_one];congr 1
  rewrite[this _ (by lia)];rw[Ek]
section
variable{F:Fr}{A:Hv}{f:FM}{C:OW}{J zt zb yK zy:St}{s:IS}{h:Hu}{L:Loc}
theorem rR{M:Model}{o:IX}{T:String}{i:String}(hT:Looks M h (typeOf o) (.type T))(hl:typeLookup (.type T) "__getitem__"=pure (Ie (.builtin i))):Looks M h (getitemInPython o) Ig:=(hT.andThen (Gq hl)).andThen .now
theorem qe{M:Model}{a:I4}{o:Obj}(g:h.get? a=Ie o):Looks M h (typeOf (.ref a)) o.cls:=(EA g).andThen .now
theorem Vf{j n:Nat}(h:j<n):seqIndex? (j:Int) n=Ie j:=by simp only[seqIndex?,if_neg (show¬(j:Int)<0 by lia)];rw[if_pos (by simp only[Hg,decide_eq_true_eq];lia)];rfl
theorem vk{vs:List V}{j:Nat}{v:V}(hv:vs[j]?=Ie v)(hs:j<2^60):Sub F (.tup vs) (.int j) J v:=by refine⟨λ{A f C s ov iv}r zz ho hi=>?_⟩;obtain⟨a,items,ep,sl,rfl,g,nn,uH⟩:=ho;obtain⟨t,rfl⟩:=hi;obtain⟨w,h3,h4⟩:=uH.get hv;refine⟨rR (qe g) PySem.F.slot_tuple_getitem.lookup,?_⟩;obtain hl:=uH.length;replace hl:=IE.symm.trans hl;exact PyProof.Rows.getItem_tuple ⟨_,g,rfl,ep,rfl⟩ (by lia) (by lia) (Vf (by rw[hl];exact xr hv)) (by rw[<-I'];exact h3) (w5 r h4)
theorem cR{str:List Nat}{j c:Nat}(hc:str[j]?=Ie c)(hs:j<2^60):Sub F (.str str) (.int j) J (.str [c]):=by
 refine⟨λ{A f C s ov iv}r zz ho hi=>?_⟩;obtain⟨t0,rfl⟩:=ho;obtain⟨t,rfl⟩:=hi;refine⟨rR (T:="str") (Gq rfl) F8.lookup,PyProof.Rows.getItem_str (c:=c) ?_ ?_ (xj r ⟨_,rfl⟩)⟩;.simp only[Hd,decide_eq_false_iff_not];lia
 .rewrite[my];rw[Vf (xr hc)];show(tx str).cps[j]?=_;unfold tx;rw[<-I'];exact hc
theorem sy{n j:Nat}{xs:List V}{v:V}(hn:J[n]?=Ie (.list xs))(hv:xs[j]?=Ie v)(hs:j<2^60):Sub F (.ref n) (.int j) J v:=by refine⟨λ{A f C s ov iv}r zz ho hi=>?_⟩;obtain⟨a,fa,rfl⟩:=ho;obtain⟨t,rfl⟩:=hi;obtain⟨_,items,ep,g,uH⟩:=xZ r fa hn;obtain⟨w,h3,h4⟩:=uH.get hv;rw[I']at h3;exact⟨rR (qe g) H8.lookup,wpAny_getItem_list ⟨_,g,rfl,ep,rfl⟩ (by lia) (by lia) h3 (w5 r h4)⟩
theorem Ko{n:Nat}{xs:List V}{v:V}(hn:J[n]?=Ie (.list xs))(hv:xs[xs.length-1]?=Ie v)(hs:short xs=Ib):Sub F (.ref n) (.int (-1)) J v:=by refine⟨λ{A f C s ov iv}r zz ho hi=>?_⟩;obtain⟨a,fa,rfl⟩:=ho;obtain⟨t,rfl⟩:=hi;obtain⟨_,items,ep,g,uH⟩:=xZ r fa hn;obtain⟨w,h3,h4⟩:=uH.get hv;obtain hl:=uH.length;replace hl:=IE.symm.trans hl;rw[I']at h3;obtain yJ:=xr hv;obtain this:=qv hs;refine⟨rR (qe g) H8.lookup,wpAny_getItem_list_neg ⟨_,g,rfl,ep,rfl⟩ (by lia) (by lia) (by lia) ?_ (w5 r h4)⟩;rw[show(-1+(items.size:Int)).toNat=xs.length-1 by lia];exact h3
theorem nF{n:Nat}{es:List (List Nat×V)}{k:List Nat}{v:V}(hn:J[n]?=Ie (.dict es)\/J[n]?=Ie (.uy es))(hv:zE k es=Ie v):Sub F (.ref n) (.str k) J v:=by
 refine⟨λ{A f C s ov iv}r zz ho hi=>?_⟩;obtain⟨a,fa,rfl⟩:=ho;obtain⟨t,rfl⟩:=hi;obtain⟨ents,ep,g,dr⟩:X2 λents ep=>s.heap.get? a=Ie (xo ents ep)/\DR F.b.w.params f C s.heap es ents.toList:=by
  rcases hn with hn|hn;.obtain⟨_,ents,ep,g,dr,_⟩:=vg r fa hn;exact⟨ents,ep,g,dr⟩
  .obtain⟨a',yp,ents,ep,g,dr,_⟩:=r.objs n _ hn;replace yp:=yZ fa yp;cases yp;exact⟨ents,ep,r.base _ _ g,dr⟩
 obtain⟨m1,m2⟩:=i_ dr g;obtain⟨w,h1,h2⟩:=(m2 k).1 v hv;exact⟨rR (qe g) PySem.F.slot_dict_getitem.lookup,wpAny_getItem_of (strKind_is _ _ (tx k) t) m1 h1 (xj r h2)⟩
theorem cM{n:Nat}{es:List (List Nat×V)}{k:List Nat}{v:V}(z6:F.s=Ig)(hn:J[n]?=Ie (.dict es))(hs:short es=Ib):mY F (.ref n) (.str k) v J (J.set n (.dict (dput k v es))):=λ{A f C s ov iv vv}r ho hi hv=>by
 obtain⟨a,fa,rfl⟩:=ho;obtain⟨t,rfl⟩:=hi;obtain⟨w,ents,ep,g,dr,nd⟩:=vg r fa hn;obtain hT:s.TypeIs (.ref a) "dict":=⟨_,g,rfl⟩;show wpAny _ _ (setItem _ _ _) _ _ _;unfold setItem;try with_reducible refine IL ?_
 refine Ic (wpAny_sequenceKey hT (by decide) ?_);refine Ic (wpAny_callSpecial?_slot (name:=Hr "__setitem__") hT FP (G0 FP hT PySem.F.entry_dict_setitem ?_ (PySem.F.args_dict_setitem_3 _ _ _)));show wpAny _ _ (Builtin.Dict.notOrdered "__setitem__" ⟨[.ref a,_,_],[]⟩>>=_) _ _ s;refine Ic (Ej hT ?_);show wpAny _ _ (dictSet a _ _>>=_) _ _ s;refine Ic (fz g dr hv (vJ hs) λh' wN yS hs g' m5=>IW ⟨.none,rfl,IW ?_⟩);exact⟨f,C,ZG (tk:=s.toks+1) z6 r fa w hs g' m5 (m6 nd),trivial⟩
theorem p8{o i e:M}{n:Nat}{k:List Nat}{v:V}{es:List (List Nat×V)}(z6:F.s=Ig)(h:E F L e J (.ok v zt))(ho:E F L o zt (.ok (.ref n) zb))(hi:E F L i zb (.ok (.str k) yK))(hd:yK[n]?=Ie (.dict es))(hs:short es=Ib):X1 F L (.y3 o i e) J (.ok .next L (yK.set n (.dict (dput k v es)))):=Jf h ho hi (cM z6 hd hs)
theorem zS.take:∀{vs:List V}{ws:List IX}(n:Nat),zS f C h vs ws->zS f C h (vs.take n) (ws.take n)|zo,zY,0,zF=>by rewrite[Dn];rw[Dn];rfl|[],zo,n+1,e=>by cases e;exact rfl|v::vs,zo,n+1,⟨w,r,e,h1,h2⟩=>by subst e;exact⟨w,_,rfl,h1,zS.take n h2⟩
theorem i6{n:Nat}{xs:List V}{t:Tok}(hn:J[n]?=Ie (.list xs))(hs:short xs=Ib):u6 F (.ref n) .none .none (.int (-1) t) J (.ref J.length) (J++[.list xs.reverse]):=by refine⟨λ{A f C s ov I}r gs ho=>?_⟩;obtain⟨a,fa,rfl⟩:=ho;obtain⟨_,items,ep,g,hv⟩:=xZ r fa hn;obtain hl:=hv.length;replace hl:=IE.symm.trans hl;refine⟨rR (qe g) H8.lookup,GL (lo:=none) (hi:=none) (st:=Ie (-1)) ⟨_,g,rfl,ep,rfl⟩ gs .none .none (.int _ _) (by simp) ?_ (by rw[hl];exact vJ hs)⟩;rw[krv_pick];exact pL (tk:=s.toks) (g:=s.heap) r grows.refl (by simpa using hv.cU)
theorem Kg{n:Nat}{i:Int}{xs:List V}{t:Tok}(hi:0<=i)(hn:J[n]?=Ie (.list xs))(hs:short xs=Ib):u6 F (.ref n) (.int i t) .none .none J (.ref J.length) (J++[.list (xs.drop i.toNat)]):=by refine⟨λ{A f C s ov I}r gs ho=>?_⟩;obtain⟨a,fa,rfl⟩:=ho;obtain⟨_,items,ep,g,hv⟩:=xZ r fa hn;obtain hl:=hv.length;replace hl:=IE.symm.trans hl;refine⟨rR (qe g) H8.lookup,GL (lo:=Ie i) (hi:=none) (st:=none) ⟨_,g,rfl,ep,rfl⟩ gs (.int _ _) .none .none (by simp) ?_ (by rw[hl];exact vJ hs)⟩;obtain e:=slicePick_from' items i.toNat;rw[show((i.toNat:Nat):Int)=i by lia]at e;rw[e];exact pL (tk:=s.toks) (g:=s.heap) r grows.refl (by simpa using zS.drop _ hv)
theorem Ke{n:Nat}{j:Int}{xs:List V}{t:Tok}(hj:0<=j)(hn:J[n]?=Ie (.qC xs))(hs:short xs=Ib):u6 F (.ref n) .none (.int j t) .none J (.ref J.length) (J++[.list (xs.take j.toNat)]):=by refine⟨λ{A f C s ov I}r gs ho=>?_⟩;obtain⟨a,fa,rfl⟩:=ho;obtain⟨JJ,fU,items,ep,sl,g,hv⟩:=r.objs n _ hn;replace fU:=yZ fa fU;cases fU;have g:=r.base _ _ g;obtain hl:=hv.length;replace hl:=IE.symm.trans hl;refine⟨rR (qe g) H8.lookup,GL (lo:=none) (hi:=Ie j) (st:=none) ⟨_,g,rfl,ep,rfl⟩ gs .none (.int _ _) .none (by simp) ?_ (by rw[hl];exact vJ hs)⟩;obtain e:=slicePick_upto' items j.toNat;rw[show((j.toNat:Nat):Int)=j by lia]at e;rw[e];exact pL (tk:=s.toks) (g:=s.heap) r grows.refl (by simpa using zS.take _ hv)
set_option tactic.hygienic true in theorem V_{str:List Nat}{t1 t2:Tok}(qs:short str=Ib):u6 F (.str str) (.int 1 t1) (.int (-1) t2) .none J (.str (str.drop 1).dropLast) J:=by
 refine⟨λ{A f C s ov I}r gs ho=>?_⟩;obtain⟨t0,rfl⟩:=ho;refine⟨rR (T:="str") (Gq rfl) F8.lookup,wpAny_getItem_str_slice (l:=Ie (1,t1)) (u:=Ie (-1,t2)) (st:=none) gs rfl ?_⟩;have hp:slicePicked (tx str) (Ie (1,t1)) (Ie (-1,t2)) none=Gx (Ie 1) (Ie (-1)) 1 str.length:=by unfold slicePicked;rw[my];rfl
 have hm:((slicePicked (tx str) (Ie (1,t1)) (Ie (-1,t2)) none).filterMap ((tx str).cps[.]?))=(str.drop 1).dropLast:=by rewrite[hp];rw[<-picked str];congr 1;funext i;show(tx str).cps[i]?=_;simp[tx]
 have po:∀(v:IX)(tk:Nat),(∃t,v=.str (tx (str.drop 1).dropLast) t)->PO F rV f C s (.ok (.str (str.drop 1).dropLast) J) v {s with toks:=tk}:=λv tk hv=>xj r hv;unfold sliceMade;split
 .rename_i q;simp only[Hg,beq_iff_eq]at q;refine po _ s.toks ⟨t0,?_⟩;obtain hz:=q.2;rw[hp,my]at hz;obtain this:(str.drop 1).dropLast=str:=by cases str with|nil=>rfl|cons a r=>rw[WG,IY,Gb,HV]at hz;lia
  rw[this]
 .rw[hm];refine⟨?_,po _ (s.toks+1) ⟨s.toks,rfl⟩⟩;show(tx (str.drop 1).dropLast).length<=_;obtain this:=vJ qs;rewrite[my];rewrite[List.length_dropLast];rw[G'];lia
end
open PySem PySem.W PySem.Calls PyProof.Rows
section
variable{F:Fr}{A:Hv}{f:FM}{C:OW}{J zt zb yK zy:St}{s:IS}{h h':Hu}{L:Loc}
theorem cP{a:I4}{items:Array IX}{ep:Nat}(g:h.get? a=Ie ⟨.type "list",none,.seq items ep,#[]⟩)(F:Array IX->Array IX):∃yS,(h.update a (Gp F)).get? a=Ie ⟨.type "list",none,.seq (F items) yS,#[]⟩:=⟨_,get?_update_seq g F⟩
theorem pP{n:Nat}{xs:List V}{v:V}(z6:F.s=Ig)(hn:J[n]?=Ie (.list xs))(hs:short xs=Ib):Call F (.bi .nY) [.ref n,v] J (.ok .none (J.set n (.list (xs++[v])))):=by refine⟨λ{A f C s xS vals}r zz hf hv=>?_⟩;cases hf;obtain⟨_,r0,rfl,⟨a,fa,rfl⟩,wv,r1,rfl,lM,hr⟩:=hv;cases hr;obtain⟨w,items,ep,g,wm⟩:=xZ r fa hn;obtain hl:=wm.length;rw[IE]at hl;obtain hq:=qv hs;obtain bk:sizeLine=2^24:=rfl;refine call_meets FE (⟨_,g,rfl⟩:s.TypeIs (.ref a) "list") PySem.F.entry_list_append (PySem.F.args_list_append_2 _ _) (AutoListH.list_append_list_val_0 a items ep wv (by lia)) ⟨g,?_⟩;obtain⟨yS,g'⟩:=cP g λx=>x.push wv;exact⟨f,C,jb (tk:=s.toks) z6 r fa w (Hx ..) g' (by rw[FI];exact wm.append (zS.single lM)),rfl⟩
theorem My{n m:Nat}{xs ys:List V}(z6:F.s=Ig)(hn:J[n]?=Ie (.list xs))(hm:J[m]?=Ie (.list ys))(hs:short (xs++ys)=Ib):Call F (.bi .df) [.ref n,.ref m] J (.ok .none (J.set n (.list (xs++ys)))):=by refine⟨λ{A f C s xS vals}r zz hf hv=>?_⟩;cases hf;obtain⟨_,r0,rfl,⟨a,fa,rfl⟩,wv,r1,rfl,⟨c,fc,rfl⟩,hr⟩:=hv;cases hr;obtain⟨w,items,ep,g,wm⟩:=xZ r fa hn;obtain⟨w',tZ,yS,g',Xm⟩:=xZ r fc hm;obtain hl:=wm.length;obtain sV:=Xm.length;rw[IE]at hl sV;obtain hq:=qv hs;rw[IZ]at hq;obtain bk:sizeLine=2^24:=rfl;refine call_meets FC (⟨_,g,rfl⟩:s.TypeIs (.ref a) "list") PySem.F.entry_list_extend (PySem.F.args_list_extend_2 _ _) (AutoSeq1.list_extend_list_list_0 a items ep c tZ yS (by simp[GN];lia) (by lia) (by lia)) ⟨g,g',?_⟩;obtain⟨RZ,fN⟩:=cP g λx=>x++tZ;exact⟨f,C,jb (tk:=s.toks) z6 r fa w (Hx ..) fN (by rw[Fm];exact wm.append Xm),rfl⟩
theorem Ms{n:Nat}{xs:List V}{v:V}(z6:F.s=Ig)(hn:J[n]?=Ie (.list (xs++[v])))(hs:short xs=Ib):Call F (.bi .dU) [.ref n] J (.ok v (J.set n (.list xs))):=by
 refine⟨λ{A f C s xS vals}r zz hf hv=>?_⟩;cases hf;obtain⟨_,r0,rfl,⟨a,fa,rfl⟩,hr⟩:=hv;cases hr;obtain⟨w,items,ep,g,wm⟩:=xZ r fa hn;obtain hl:=wm.length;rw[IE,IZ,Ht]at hl;obtain hq:=qv hs;obtain bk:sizeLine=2^24:=rfl;obtain⟨wv,sP,td⟩:=wm.get (i:=xs.length) (v:=v) (by simp);refine call_meets Eo (⟨_,g,rfl⟩:s.TypeIs (.ref a) "list") PySem.F.entry_list_pop (PySem.F.args_list_pop_1 _) (MeetsSeq.list_pop_last a items ep wv (by rewrite[hl];rw[<-I'];exact sP) (by lia)) ⟨g,?_⟩;obtain⟨RZ,fN⟩:=cP g λxs=>xs.eraseIdxIfInBounds (items.size-1);obtain dr:zS f C s.heap xs (items.eraseIdxIfInBounds (items.size-1)).toList:=by
  rewrite[Array.eraseIdxIfInBounds_eq];rewrite[dif_pos (by lia)];rewrite[Array.toList_eraseIdx];rewrite[<-IE];rewrite[List.eraseIdx_length_sub_one];rewrite[Ek];rewrite[IE];rw[hl];obtain this:=zS.take xs.length wm;rw[List.take_left']at this;.exact this
  .rfl
 obtain d:=jb (tk:=s.toks) z6 r fa w (Hx ..) fN dr;exact⟨f,C,d,VR.ext d.ext _ td⟩
theorem Mv{n j:Nat}{xs:List V}{k:List Nat}{l:List (List Nat)}(hn:J[n]?=Ie (.list xs))(hl:strsOf xs=Ie l)(hj:l.findIdx? (zR k)=Ie j)(hs:short xs=Ib):Call F (.bi .de) [.ref n,.str k] J (.ok (.int j) J):=by
 refine⟨λ{A f C s xS vals}r zz hf hv=>?_⟩;cases hf;obtain⟨_,r0,rfl,⟨a,fa,rfl⟩,wv,r1,rfl,⟨t,rfl⟩,hr⟩:=hv;cases hr;obtain⟨w,items,ep,g,wm⟩:=xZ r fa hn;obtain hlen:=wm.length;replace hlen:=IE.symm.trans hlen;obtain⟨z1,z2⟩:=kP (k:=k) (t:=t) wm hl;obtain hq:=qv hs;obtain e1:(items.toList.map (rU k)).findIdx? id=Ie j:=by rewrite[z2];rw[E9];exact hj
 rw[E9]at e1;obtain⟨yJ,a1,a2⟩:=List.findIdx?_eq_some_iff_getElem.mp e1;rw[IE]at yJ;refine call_meets F4 (⟨_,g,rfl⟩:s.TypeIs (.ref a) "list") PySem.F.entry_list_index (PySem.F.args_list_index_2 _ _) (MeetsSeq.list_index a items ep (.str (tx k) t) (rU k) (λy hy=>z1 y (Hm.mpr hy)) j yJ (by lia) (by simpa using a1) λm hm O_=>?_) ⟨g,xj r ⟨_,rfl⟩⟩;simpa using a2 m O_
end
open PySem PySem.W PySem.Calls PyProof.Rows
section
variable{f:FM}{C:OW}{h:Hu}
noncomputable def KV(f:FM)(C:OW)(h:Hu):List (List Nat×V)->List (Str×IX)->Prop|[],ks=>ks=[]|(k,v)::es,ks=>X2 λw r=>C3 (ks=(tx k,w)::r) (VR f C h v w) (KV f C h es r)
theorem KV.of:∀{es:List (List Nat×V)}{kvs:List (Str×IX)},kvs.map (·.1)=es.map (fun p=>tx p.1)→zS f C h (es.map (·.2)) (kvs.map (·.2))→KV f C h es kvs|[],[],zo,zY=>rfl|[],zo::zY,e,zF=>by simp at e|zo::zY,[],e,zF=>by simp at e|(k,v)::es,(k',w)::r,e,⟨w',r',e1,e2,e3⟩=>by simp only[Hy,Dy]at e e1;obtain⟨rfl,e⟩:=e;obtain⟨rfl,rfl⟩:=e1;exact⟨_,_,rfl,e2,KV.of e e3⟩
theorem KV.len:∀{es:List (List Nat×V)}{kvs:List (Str×IX)},KV f C h es kvs->kvs.length=es.length|[],zo,e=>by cases e;rfl|zo::zY,zF,⟨w,r,e,yX,e2⟩=>by subst e;simp[KV.len e2]
theorem KV.at{k:List Nat}{v:V}:∀{es:List (List Nat×V)}{kvs:List (Str×IX)},KV f C h es kvs->zE k es=Ie v->∃w,valueAt kvs (tx k)=Ie w/\VR f C h v w
|[],zo,e,q=>by cases q
|(c,u)::es,zo,⟨w,r,e,e1,e2⟩,q=>by
 subst e;unfold zE at q;cases z:zR k c with
 |true=>rw[z]at q;cases q;rw[xd.mp z];exact⟨w,by simp[valueAt],e1⟩
 |false=>
  rw[z]at q;have ne:¬tx c=tx k:=λy=>by rw[xd.mpr (mz y).symm]at z;cases z
  obtain⟨w',a1,a2⟩:=KV.at e2 q;exact⟨w',by simpa[valueAt,ne]using a1,a2⟩
theorem KV.mem{k:List Nat}:∀{es:List (List Nat×V)}{kvs:List (Str×IX)},KV f C h es kvs→tx k∈kvs.map (·.1)→k∈es.map (·.1)
|[],zo,e,m=>by cases e;simp at m
|(c,v)::es,zo,⟨w,r,e,e1,e2⟩,m=>by
 subst e;rw[Hy]at m⊢;rcases IU.mp m with q|q;·rw[mz q];exact IQ
 ·exact I6 _ (KV.mem e2 q)
theorem KV.del{k:List Nat}:∀{es:List (List Nat×V)}{kvs:List (Str×IX)},KV f C h es kvs→(es.map (·.1)).Nodup→KV f C h (sd k es) (without kvs (tx k))
|[],zo,e,zY=>by cases e;rfl
|(c,v)::es,zo,⟨w,r,e,e1,e2⟩,nd=>by
 subst e;rw[Hy,Hk]at nd;unfold sd;cases q:zR k c with
 |true=>
  rw[xd.mp q];have:without ((tx c,w)::r) (tx c)=r:=by show List.filter _ _=_;rw[Hl];simp only[ne_eq,not_true_eq_false,decide_false,I0,if_false];exact without_of_not_mem r (tx c) fun m=>nd.1 (KV.mem e2 m)
  rw[this];exact e2
 |false=>
  have ne:¬tx c=tx k:=fun z=>by rw[xd.mpr (mz z).symm]at q;cases q
  refine⟨w,without r (tx k),?_,e1,KV.del e2 nd.2⟩;show List.filter _ _=_;rw[Hl];simp only[ne_eq,ne,not_false_eq_true,decide_true,if_true];rfl
theorem ZK{k c:List Nat}:∀{es:List (List Nat×V)},c∈(sd k es).map (·.1)→c∈es.map (·.1)
|[],m=>m
|(a,v)::es,m=>by
 unfold sd at m;rw[Hy];cases q:zR k a with
 |true=>rw[q]at m;exact I6 _ m
 |false=>
  rw[q]at m;dsimp only at m;rw[Hy]at m;rcases IU.mp m with z|z;·rw[z];exact IQ
  ·exact I6 _ (ZK z)
theorem ZL{k:List Nat}:∀{es:List (List Nat×V)},(es.map (·.1)).Nodup→((sd k es).map (·.1)).Nodup|[],h=>h|(a,v)::es,h=>by rw[Hy,Hk]at h;unfold sd;cases q:zR k a with|true=>exact h.2|false=>dsimp only;rewrite[Hy];rw[Hk];exact⟨fun z=>h.1 (ZK z),ZL h.2⟩
theorem KV.put{k:List Nat}{v:V}{w:IX}(hv:VR f C h v w):∀{es:List (List Nat×V)}{kvs:List (Str×IX)},KV f C h es kvs→(es.map (·.1)).Nodup→KV f C h (dput k v es) (stored kvs (tx k) w)
|[],zo,e,zY=>by cases e;exact⟨w,[],rfl,hv,rfl⟩
|(c,u)::es,zo,⟨w',r,e,e1,e2⟩,nd=>by
 subst e;rw[Hy,Hk]at nd;have ih:=KV.put (k:=k) hv e2 nd.2;unfold dput;cases q:zR k c with
 |true=>rw[xd.mp q];refine⟨w,r,?_,hv,e2⟩;have hn:tx c∉r.map (·.1):=fun m=>nd.1 (KV.mem e2 m);unfold stored;rw[if_pos (by simp)];rewrite[Hy];rewrite[if_pos rfl];rw[map_store_of_not_mem r _ _ hn]
 |false=>
  have ne:¬tx c=tx k:=fun z=>by rw[xd.mpr (mz z).symm]at q;cases q
  refine⟨w',stored r (tx k) w,?_,e1,ih⟩;unfold stored;rw[List.any_cons];simp only[ne,decide_false,Fw];split;·rewrite[Hy];rw[if_neg ne]
  ·rfl
theorem KV.merge:∀{fs es:List (List Nat×V)}{kvs more:List (Str×IX)},KV f C h es kvs→KV f C h fs more→(es.map (·.1)).Nodup→KV f C h (fs.foldl (fun d p=>dput p.1 p.2 d) es) (merged kvs more)|[],zo,zY,zF,e,e',yX=>by cases e';exact e|(k,v)::fs,es,kvs,zo,e,⟨w,r,e1,e2,e3⟩,nd=>by subst e1;show KV f C h (fs.foldl (fun d p=>dput p.1 p.2 d) (dput k v es)) (merged (stored kvs (tx k) w) r);exact KV.merge (KV.put (k:=k) e2 e nd) e3 (m6 nd)
theorem DR.of{prog:Program}{w:World}:∀{es:List (List Nat×V)}{ws:List Hn}{kvs:List (Str×IX)},Pairs (strKind prog w) ws kvs->(∀e∈ws,∃k,(strKind prog w).is k e.key=Ib/\e.hash=(strKind prog w).hash k)->KV f C h es kvs->DR w.params f C h es ws|[],zo,zY,p,zF,e=>by cases e;cases p;rfl|(k,v)::es,zo,zY,p,hk,⟨w',r,e,e1,e2⟩=>by subst e;cases p with|@cons en kv ws kvs h1 h2 h3=>obtain⟨t,ht⟩:=GU h1;obtain⟨k',eY,oD⟩:=hk en IQ;have:k'=tx k:=(strKind prog w).inj _ _ _ eY h1;subst this;obtain⟨eh,ek,ev⟩:=en;dsimp only at ht oD h2;subst ht;subst oD;subst h2;exact⟨t,_,ws,rfl,e1,DR.of h3 (λe he=>hk e (I6 _ he)) e2⟩
end
section
variable{F:Fr}{A:Hv}{f:FM}{C:OW}{J zt zb yK zy:St}{s:IS}{h h':Hu}{L:Loc}
theorem gA{b:Bc}{es:List (List Nat×V)}{ents:Array Hn}{ep:Nat}{a:I4}(dr:DR b.w.params f C h es ents.toList)(nd:(es.map (·.1)).Nodup)(g:h.get? a=Ie (xo ents ep)):∃kvs:List (Str×IX),h.DictOf (strKind b.prog b.w) a kvs∧KV f C h es kvs:=by obtain⟨kvs,hm,k1,k2,_⟩:=qr dr nd g;exact⟨kvs,hm.dictOf,KV.of k1 k2⟩
theorem ZE{n:Nat}{a:I4}{es:List (List Nat×V)}{kvs:List (Str×IX)}{tk:Nat}(z6:F.s=Ig)(r:Rl F.b f C J s.heap)(fa:f n=Ie a)(w:C a=Ie n)(hs:HU a s.heap h')(hd:h'.DictOf (strKind F.b.prog F.b.w) a kvs)(e:KV f C s.heap es kvs)(nd:(es.map (·.1)).Nodup):Done F [] f C s (J.set n (.dict es)) f C {s with heap:=h',toks:=tk}:=by obtain⟨⟨c,d,dt,sl⟩,ents,ep,g,⟨e1,e2,e3⟩,Y7,hk,hp,_⟩:=hd;dsimp only at e1 e2 e3 Y7;subst e1 e2 e3 Y7;exact ZG (tk:=tk) z6 r fa w hs g (DR.of hp (fun e he=>hk e (Hm.mp he)) e) nd
theorem ZI(fk:Facts F.b){n:Nat}{es:List (List Nat×V)}{a:I4}(r:Rl F.b f C J h)(fa:f n=Ie a)(hn:J[n]?=Ie (.dict es)\/J[n]?=Ie (.uy es)):(a==sysModules)=Ig/\X2 λents ep=>h.get? a=Ie (xo ents ep)/\DR F.b.w.params f C h es ents.toList:=by
 rcases hn with hn|hn;.obtain⟨w,ents,ep,g,dr,_⟩:=vg r fa hn;exact⟨beq_false_of_ne λe=>fk.sys (e▸r.fresh a n w),ents,ep,g,dr⟩
 .obtain⟨a',yp,ents,ep,g,dr,ns⟩:=r.objs n _ hn;replace yp:=yZ fa yp;cases yp;exact⟨beq_false_of_ne ns,ents,ep,r.base _ _ g,dr⟩
theorem YL{b:Bc}{es:List (List Nat×V)}{ents:Array Hn}{k:List Nat}{d:V}{dv:IX}(m2:∀k,(∀v,zE k es=Ie v->∃w,findBy (strKind b.prog b.w).is ents (tx k)=Ie w/\VR f C h v w)/\(zE k es=none->findBy (strKind b.prog b.w).is ents (tx k)=none))(hd:VR f C h d dv):VR f C h ((zE k es).getD d) ((findBy (strKind b.prog b.w).is ents (tx k)).getD dv):=by cases q:zE k es with|none=>rw[(m2 k).2 q];exact hd|some v=>obtain⟨w,h1,h2⟩:=(m2 k).1 v q;rw[h1];exact h2
theorem qd{n:Nat}{es:List (List Nat×V)}{k:List Nat}(hn:J[n]?=Ie (.dict es)\/J[n]?=Ie (.uy es)):Call F (.bi .zE) [.ref n,.str k] J (.ok ((zE k es).getD .none) J):=by refine⟨λ{A f C s xS vals}r ak hf hv=>?_⟩;cases hf;obtain⟨_,r0,rfl,⟨a,fa,rfl⟩,wv,r1,rfl,⟨t,rfl⟩,hr⟩:=hv;cases hr;obtain⟨ns,ents,ep,g,dr⟩:=ZI ak.ok r fa hn;obtain⟨m1,m2⟩:=i_ dr g;exact call_meetsIn Ge (⟨_,g,rfl⟩:s.TypeIs (.ref a) "dict") Eu (PySem.F.args_dict_get_2 _ _) (meets_dict_get (strKind _ _) a (strKind_is _ _ (tx k) t) ns) ⟨_,m1,xj r (YL m2 (d:=.none) rfl)⟩
theorem l9{n:Nat}{es:List (List Nat×V)}{k:List Nat}{d:V}(hn:J[n]?=Ie (.dict es)\/J[n]?=Ie (.uy es)):Call F (.bi .zE) [.ref n,.str k,d] J (.ok ((zE k es).getD d) J):=by refine⟨λ{A f C s xS vals}r ak hf hv=>?_⟩;cases hf;obtain⟨_,r0,rfl,⟨a,fa,rfl⟩,wv,r1,rfl,⟨t,rfl⟩,dv,r2,rfl,hd,hr⟩:=hv;cases hr;obtain⟨ns,ents,ep,g,dr⟩:=ZI ak.ok r fa hn;obtain⟨m1,m2⟩:=i_ dr g;exact call_meetsIn Ge (⟨_,g,rfl⟩:s.TypeIs (.ref a) "dict") Eu (PySem.F.args_dict_get_3 _ _ _) (meets_dict_get_default (strKind _ _) a (strKind_is _ _ (tx k) t) ns dv) ⟨_,m1,xj r (YL m2 hd)⟩
theorem Ww{n:Nat}{es:List (List Nat×V)}{k:List Nat}{v:V}(z6:F.s=Ig)(hn:J[n]?=Ie (.dict es))(hk:zE k es=Ie v)(hs:short es=Ib):Call F (.bi .fw) [.ref n,.str k] J (.ok v (J.set n (.dict (sd k es)))):=by refine⟨λ{A f C s xS vals}r ak hf hv=>?_⟩;cases hf;obtain⟨_,r0,rfl,⟨a,fa,rfl⟩,wv,r1,rfl,⟨t,rfl⟩,hr⟩:=hv;cases hr;obtain⟨w,ents,ep,g,dr,nd⟩:=vg r fa hn;obtain⟨kvs,d1,d2⟩:=gA dr nd g;obtain⟨wv,h3,h4⟩:=d2.at hk;refine call_meetsIn Em (⟨_,g,rfl⟩:s.TypeIs (.ref a) "dict") PySem.F.entry_dict_pop (PySem.F.args_dict_pop_2 _ _) (meets_dict_pop_there (strKind _ _) a (strKind_is _ _ (tx k) t) [] (.inl rfl) rfl) ⟨kvs,wv,d1,by rw[d2.len];exact vJ hs,h3,λh' hm hb=>?_⟩;obtain d:=ZE (tk:=s.toks+1) z6 r fa w hb hm (KV.del d2 nd) (ZL nd);exact⟨f,C,d,VR.ext d.ext _ h4⟩
theorem Mh{n m:Nat}{es fs:List (List Nat×V)}(z6:F.s=Ig)(hn:J[n]?=Ie (.dict es))(hm:J[m]?=Ie (.dict fs))(wM:m≠n)(hs:short (es++fs)=Ib):Call F (.bi .m4) [.ref n,.ref m] J (.ok .none (J.set n (.dict (tw fs es)))):=by
 refine⟨λ{A f C s xS vals}r ak hf hv=>?_⟩;cases hf;obtain⟨_,r0,rfl,⟨a,fa,rfl⟩,wv,r1,rfl,⟨c,fc,rfl⟩,hr⟩:=hv;cases hr;obtain⟨w,ents,ep,g,dr,nd⟩:=vg r fa hn;obtain⟨w',wN,yS,g',m5,MZ⟩:=vg r fc hm;obtain⟨kvs,d1,d2⟩:=gA dr nd g;obtain⟨more,e1,e2⟩:=gA m5 MZ g';obtain hq:=vJ hs;rw[IZ]at hq;obtain ne:a≠c:=λz=>by subst z;replace w':=yZ w w';cases w';exact wM rfl
 refine call_meetsIn FA (⟨_,g,rfl⟩:s.TypeIs (.ref a) "dict") PySem.F.entry_dict_update (PySem.F.args_dict_update_2 _ _) (meets_dict_update (strKind _ _) a c ne (nN ak.ok r w')) ⟨kvs,more,d1,e1,by rewrite[d2.len];rw[e2.len];exact hq,λh' jF zz hb=>?_⟩;exact⟨f,C,ZE (tk:=s.toks) z6 r fa w hb jF (KV.merge d2 e2 nd) (jY nd),rfl⟩
end
open PySem PySem.W PySem.Calls PyProof.Rows
section
variable{F:Fr}{A:Hv}{f:FM}{C:OW}{J zt zb yK zy:St}{s:IS}{h h':Hu}{L:Loc}
set_option tactic.hygienic true in theorem WO{c:I4}{oc:Obj}(hc:h.get? c=Ie oc):Frag.In [(c,oc)] h:=λa o q=>by
 replace q:=H6.symm.trans q;split at q;.rename_i z;cases q;rw[beq_iff_eq.mp z];exact hc
 .cases q
theorem WQ{c:I4}{oc:Obj}{cd:ClassData}(tL:oc.data=.cls cd):clsIn [(c,oc)] c=Ie cd:=by unfold clsIn;rewrite[H6];rw[beq_self_eq_true];obtain⟨o1,o2,o3,o4⟩:=oc;dsimp only at tL⊢;subst tL;rfl
theorem WN{c:I4}{oc:Obj}{cd:ClassData}{v:IX}(tL:oc.data=.cls cd)(hv:cd.mro.contains v=Ib):mroIn [(c,oc)] c v=Ie Ib:=by unfold mroIn;rewrite[WQ tL];rewrite[GZ];rewrite[if_neg];rw[hv];intro z;rw[F0.mp z]at hv;cases hv
theorem S1{M:Model}{A:Hv}{s:IS}{e c:I4}{x:IX}{cn:String}{Q:Unit->IS->Prop}{Z:IX->IS->Prop}(L0:Looks M s.heap (typeOf (.ref e)) (.ref c))(L1:Looks M s.heap (isInstance (.ref e) (.type "ValueError")) Ib)(L2:Looks M s.heap (typeNameWhole (.ref c)) cn)(hq:Q () s):wpAny M A (checkBuiltinCall "ValueError.__init__" ⟨[.ref e,x],[]⟩) Q Z s:=by have FX:=Gv;simp only[checkBuiltinCall,FX.initKind,FX.initSplit,FX.initRow];refine Ic (L1.here ?_);simp only[EM,I0,if_false];unfold Bind.checkArgs;dsimp only;refine Ic (m:=Bind.printed "*" Ib _ _) ?_;unfold Bind.printed Bind.receiverType;rw[if_neg (by decide)];dsimp only;rw[if_neg (by decide)];refine Ic (L0.here (Ic (L2.here (IW ?_))));refine Ic (m:=if("ValueError"!="*")=Ib then _ else _) ?_;rw[if_pos (by decide)];refine IW ?_;show wpAny _ _ (Sem.onRaise (Bind.check _ _ "ValueError" _ []) _) _ _ _;rw[check_varPos];exact IW hq
theorem S9{n c:Nat}{t:Bool}{fs:List (Nat×V)}{str:List Nat}(z6:F.s=Ig)(hn:J[n]?=Ie (.exc c t fs)):Call F (.bi .c9) [.ref n,.str str] J (.ok .none J):=by
 refine⟨fun{A f C s xS vals}r ak hf hv=>?_⟩;cases hf;obtain⟨w1,r1,rfl,⟨e,fe,rfl⟩,⟨w2,r2,rfl,⟨tk,rfl⟩,hr⟩⟩:=hv;cases hr;obtain FX:=Gv;obtain⟨e',fT,w,wJ,vs,g,sz,q⟩:=r.objs n _ hn;replace fT:=yZ fe fT;cases fT;obtain⟨oc,cd,hc,tL,jB,_⟩:=sz.3;obtain wW:=r.base _ _ hc;obtain XK:=WO wW;obtain L0:Looks (model F.b.prog F.b.w) s.heap (typeOf (.ref e)) (.ref c):=(EA g).andThen .now;obtain L1:Looks (model F.b.prog F.b.w) s.heap (isInstance (.ref e) (.type "ValueError")) Ib:=L0.andThen (looks_mroIn XK (WN tL jB));obtain L2:Looks (model F.b.prog F.b.w) s.heap (typeNameWhole (.ref c)) cd.name.toString:=(looks_clsIn XK (WQ tL)).andThen .now;refine FZ (Ft FX.init.plain FX.initEntry (S1 L0 L1 L2 ?_));unfold Builtin.«BaseException.__init__»;dsimp only;rw[if_neg (by simp)];unfold newTuple E';obtain uu:0<vs.size:=by obtain this:=sz.1;lia
 obtain⟨a0,h0⟩:∃a0,vs[0]?=Ie a0:=⟨vs[0],FQ uu⟩;obtain gr:=wz s.heap (⟨.type "tuple",none,.seq #[.str (tx str) tk],#[]⟩:Obj);refine Ic (H' (Ic (Ic (GG (gr _ _ g) rfl h0 (Ic (Fe (gr _ _ g) rfl uu ?_))))) (by show 1≤sizeLine;decide));have fin:∀{s':IS},s'={s with heap:=(s.heap.push (⟨.type "tuple",none,.seq #[.str (tx str) tk],#[]⟩:Obj)).update e (HR (·.setIfInBounds 0 (.ref s.heap.objs.size)))}→PO F rV f C s (.ok .none J) .none s':=by
  rintro s' rfl;obtain d1:=j_ (F:=F) (fr:=[]) r (⟨.type "tuple",none,.seq #[.str (tx str) tk],#[]⟩:Obj);obtain hs:=Hx (s.heap.push (⟨.type "tuple",none,.seq #[.str (tx str) tk],#[]⟩:Obj)) e (HR (·.setIfInBounds 0 (.ref s.heap.objs.size)));have g':((s.heap.push (⟨.type "tuple",none,.seq #[.str (tx str) tk],#[]⟩:Obj)).update e (HR (·.setIfInBounds 0 (.ref s.heap.objs.size)))).get? e=Ie ⟨.ref c,wJ,.fields (vs.setIfInBounds 0 (.ref s.heap.objs.size)),#[]⟩:=Ho _ (gr _ _ g) rfl;obtain ex:Ext [] f C (s.heap.push (⟨.type "tuple",none,.seq #[.str (tx str) tk],#[]⟩:Obj)) f C _:=Ext.write hs w ⟨_,g'⟩;obtain eL:qJ f C ((s.heap.push (⟨.type "tuple",none,.seq #[.str (tx str) tk],#[]⟩:Obj)).update e (HR (·.setIfInBounds 0 (.ref s.heap.objs.size)))) n e fs wJ:=by cases wJ with|none=>exact q|some dx=>obtain⟨w',ne,m,⟨o,es,ep,z,z1,z2,z3,z4⟩,hf⟩:=q;exact⟨w',ne,m,⟨o,es,ep,(hs.2 dx ne).trans (gr _ _ z),z1,z2,z3,z4⟩,FR.yi ex.v (FR.yi d1.ext.v hf)⟩
  obtain rw:=d1.rel.write hs w ⟨_,g'⟩ fe (o:=.exc c t fs) ⟨w,wJ,_,g',⟨by rw[GR];exact sz.1,fun z=>by simpa[Array.getElem?_setIfInBounds]using sz.2 z,sz.3⟩,eL⟩;rw[set_same hn]at rw;exact⟨f,C,d1.trans ⟨ex,rw,rfl,rfl,fun z=>by replace z:=z6.symm.trans z;cases z⟩,rfl⟩
 split;·exact wpAny_letGo (IW (fin rfl))
 ·exact IW (IW (fin rfl))
theorem ta{n c zP:Nat}{fs:List (Nat×V)}{t:Bool}(hn:J[n]?=Ie (.inst c fs))(hc:qW c)(hC:uY zP)(hs:prog.sub c zP=t):Call F (.bi .isinstance) [.ref n,.cl zP] J (.ok (.bool t) J):=by refine⟨λ{A f C s xS vals}r ak hf hv=>?_⟩;cases hf;obtain⟨w1,r1,rfl,⟨a,fa,rfl⟩,⟨w2,r2,rfl,rfl,hr⟩⟩:=hv;cases hr;obtain X':=ak.ok.yM.keeps r.base;obtain⟨a',ox,od,yp,IA,_⟩:=iz r hn;replace yp:=yZ fa yp;cases yp;obtain⟨o1,o2,o3,o4⟩:=ak.ok.d7 c hc;subst hs;cases hs:prog.sub c zP with|true=>exact isi_call X' (λM=>IA.type) (ak.ok.yes c zP hc hC hs) (by intro q;cases q) (xj (t:=s.toks) r rfl)|false=>exact kin_callC X' IA (ak.ok.no c zP hc hC hs) o1 o2 o3 ak.ok.gs.1 ak.ok.gs.2 o4 (xj r rfl)
theorem pZ{n c:Nat}{T:Ty}{fs:List (Nat×V)}(hn:J[n]?=Ie (.inst c fs))(hc:qW c)(hT:Hq T.ctorIdx 3=Ib):Call F (.bi .isinstance) [.ref n,.ty T] J (.ok (.bool Ig) J):=by refine⟨λ{A f C s xS vals}r ak hf hv=>?_⟩;cases hf;obtain⟨w1,r1,rfl,⟨a,fa,rfl⟩,⟨w2,r2,rfl,rfl,hr⟩⟩:=hv;cases hr;obtain X':=ak.ok.yM.keeps r.base;obtain⟨a',ox,od,yp,IA,_⟩:=iz r hn;replace yp:=yZ fa yp;cases yp;obtain⟨o1,o2,o3,o4⟩:=ak.ok.d7 c hc;obtain⟨n1,n2,n3⟩:=ak.ok.nt c hc;cases T with|bool=>exact kin_callT (T:="bool") X' IA n3 meta_bool o1 o2 o3 ak.ok.gs.1 ak.ok.gs.2 o4 (xj r rfl)|int=>exact kin_callT (T:="int") X' IA n1 meta_int o1 o2 o3 ak.ok.gs.1 ak.ok.gs.2 o4 (xj r rfl)|str=>exact kin_callT (T:="str") X' IA n2 meta_str o1 o2 o3 ak.ok.gs.1 ak.ok.gs.2 o4 (xj r rfl)|_=>cases hT
end
open PySem PySem.W PySem.Calls PyProof.Rows
noncomputable def uM:Nat->List Nat:=λn=>(Nat.toDigits 10 n).map Char.toNat
theorem Ro{i:Int}(h:0<=i):tx (uM i.toNat)=Hr (toString i):=by obtain⟨n,rfl⟩:=F' h;obtain e:toString (n:Int)=String.ofList (Nat.toDigits 10 n):=rfl;rewrite[e];rw[Str.ofString_eq_toList];unfold tx uM;simp[Ga]
noncomputable def n9:List V->Option Int|[]=>Ie 0|.int i::r=>(n9 r).map (i+.)|_=>none
section
variable{F:Fr}{A:Hv}{f:FM}{C:OW}{J zt zb yK zy:St}{s:IS}{h h':Hu}{L:Loc}
set_option tactic.hygienic true in theorem VJ:∀{vs:List V}{ws:List IX}{t:Int},zS f C h vs ws->n9 vs=Ie t->(∀v∈ws,∃a,∃t,v=.int a t)/\(numsOf ws).sum=t
|[],zo,t,e,h=>by cases e;cases h;exact⟨λzz q=>(nomatch q),rfl⟩
|v::vs,zo,t,⟨w,r,e,e1,e2⟩,h=>by
 subst e;cases v<;>first|cases h|skip
 rename_i i;obtain⟨t',rfl⟩:=e1;obtain⟨j,h1,rfl⟩:=IG.mp (show(n9 vs).map (i+.)=Ie t from h);obtain⟨i1,i2⟩:=VJ e2 h1;refine⟨λv hv=>?_,?_⟩
 .rcases IU.mp hv with rfl|hv;.exact⟨_,_,rfl⟩
  .exact i1 v hv
 .show(i::numsOf r).sum=_;rewrite[List.sum_cons];rw[i2]
theorem q6{n:Nat}{xs:List V}(hn:J[n]?=Ie (.list xs))(hs:short xs=Ib):Call F (.bi .len) [.ref n] J (.ok (.int xs.length) J):=by refine⟨λ{A f C s xS vals}r zz hf hv=>?_⟩;cases hf;obtain⟨w1,r1,rfl,⟨a,fa,rfl⟩,hr⟩:=hv;cases hr;obtain⟨_,items,ep,g,wm⟩:=xZ r fa hn;obtain hl:=wm.length;rw[IE]at hl;obtain z:=qv hs;refine len_list (items:=items) ⟨_,g,rfl,ep,rfl⟩ (by lia) ?_;rw[hl];exact xj r ⟨_,rfl⟩
theorem RE{n:Nat}{xs:List V}{t:Int}(hq:F.q=Ig)(hn:J[n]?=Ie (.list xs))(ht:n9 xs=Ie t):Call F (.bi .sum) [.ref n] J (.ok (.int t) J):=by refine⟨λ{A f C s xS vals}r ak hf hv=>?_⟩;cases hf;obtain⟨w1,r1,rfl,⟨a,fa,rfl⟩,hr⟩:=hv;cases hr;obtain⟨_,items,ep,g,wm⟩:=xZ r fa hn;obtain⟨s1,s2⟩:=VJ wm ht;obtain⟨ys,rfl⟩:=AllInts.items (vs:=items) λv hv=>s1 v (Hm.mpr hv);rw[nums_intItems]at s2;refine sum_intListG (ak.hand hq) (xs:=ys) ⟨_,g,rfl,ep,rfl⟩ λh' tk t' hk=>?_;rewrite[preSum_eq];rewrite[List.take_of_length_le (by simp)];rw[s2];exact⟨f,C,Done.grow r hk rfl rfl,⟨_,rfl⟩⟩
theorem RJ{i:Int}:Call F (.bi .abs) [.int i] J (.ok (.int i.natAbs) J):=by
 refine⟨λ{A f C s xS vals}r ak hf hv=>?_⟩;cases hf;obtain⟨w1,r1,rfl,⟨t,rfl⟩,hr⟩:=hv;cases hr;refine call_abs_int λu tk=>?_;obtain this:(if i<0 then-i else i)=(i.natAbs:Int):=by split<;>lia
 rw[this];exact xj r ⟨_,rfl⟩
theorem Yd{b:Bool}:Call F (.ty .int) [.bool b] J (.ok (.int (if b then 1 else 0)) J):=by refine⟨λ{A f C s xS vals}r ak hf hv=>?_⟩;cases hf;obtain⟨w1,r1,rfl,rfl,hr⟩:=hv;cases hr;exact call_int_bool (xj r ⟨_,rfl⟩)
theorem Yc{i:Int}(h0:0<=i)(hs:small i=Ib):Call F (.ty .str) [.int i] J (.ok (.str (uM i.toNat)) J):=by
 refine⟨λ{A f C s xS vals}r ak hf hv=>?_⟩;cases hf;obtain⟨w1,r1,rfl,⟨t,rfl⟩,hr⟩:=hv;cases hr;obtain hs:=VX hs;refine PySem.P.str_of_int ?_ (xj r ⟨s.toks,?_⟩)
 .obtain this:i.natAbs<2^1920:=FV (show i.natAbs<=2^60 by lia) (Nat.pow_lt_pow_right (by decide) (by decide));by_cases z:i.natAbs=0;.rw[z];decide
  .exact(Nat.log2_lt z).mpr this
 .rw[Ro h0]
theorem V6:∀{vs:List V}{ws:List IX},ws.length=vs.length->(∀(j:Nat)(v:V)(w:IX),vs[j]?=Ie v->ws[j]?=Ie w->VR f C h v w)->zS f C h vs ws|[],[],zo,zY=>rfl|[],zo::zY,e,zF|yX::xe,[],e,vM=>by cases e|v::vs,w::ws,e,hj=>⟨w,ws,rfl,hj 0 v w rfl rfl,V6 (HI e) λj v' w' e1 e2=>hj (j+1) v' w' e1 e2⟩
theorem RG{n:Nat}{es:List (List Nat×V)}(hq:F.q=Ig)(hn:J[n]?=Ie (.dict es))(hs:short es=Ib):Call F (.ty .list) [.ref n] J (.ok (.ref J.length) (J++[.list (es.map fun p=>.str p.1)])):=by
 refine⟨fun{A f C s xS vals}r ak hf hv=>?_⟩;cases hf;obtain⟨w1,r1,rfl,⟨a,fa,rfl⟩,hr⟩:=hv;cases hr;obtain⟨w,ents,ep,g,dr,nd⟩:=vg r fa hn;obtain⟨kvs,d1,d2,d3,d4,d5⟩:=qr dr nd g;refine kdl_call (kdl_dict (kvs:=kvs) (ep:=ep) (nN ak.ok r w)) (ak.hand hq) d1 (by rw[d4];exact vJ hs) fun h' tk acc c' hk hD YE=>?_;obtain vr:zS f C h' (es.map fun p=>V.str p.1) acc.toList:=by
  refine V6 (by rewrite[IE];rewrite[YE.1];rewrite[d4];rw[IY]) fun j v w e1 e2=>?_;rw[I']at e2;obtain⟨k,x',hx,wZ⟩:=YE.2 j w e2;obtain⟨t,rfl⟩:=GU wZ;obtain e3:(kvs.map (·.1))[j]?=Ie k:=by rewrite[IM];rw[hx];rfl
  rw[d2,IM]at e3;rw[IM]at e1;obtain⟨p,z,rfl⟩:=IG.mp e1;rw[z]at e3;cases e3;exact⟨t,rfl⟩
 obtain nl:s.heap.get? s.heap.objs.size=none:=tl (IV _);refine⟨_,_,q9 (s':={s with heap:=h',toks:=tk}) (a:=s.heap.objs.size) (l:=[s.heap.objs.size]) (m:=.list (es.map fun p=>.str p.1)) r hk rfl rfl (fun c hc=>by rw[I_.mp hc];exact⟨nl,_,hD⟩) ⟨tA IQ,acc,c',hD,?_⟩,_,sr,rfl⟩;exact zS.yi ⟨i9 r,fun c e n=>⟨rfl,(t9 fun q=>by rw[I_.mp q]at e;exact um hD rfl e).trans n⟩⟩ _ vr
theorem N4{M:Model}{a:I4}{o:Obj}(g:h.get? a=Ie o):Looks M h (isType (.ref a)) (match o.data with|.cls _=>Ib|_=>Ig):=λA Q E s k q=>by unfold isType loadHead;exact Ic (FY (k _ _ g) (IW q))
theorem L5{n c:Nat}{fs:List (Nat×V)}(hq:F.q=Ig)(hn:J[n]?=Ie (.exc c Ig fs)):bW F n c fs J:=λ{A f C s a env}r ak fa=>by
 obtain hh:=ak.hand hq;obtain⟨a',yp,w,wJ,vs,g,sz,q⟩:=r.objs n _ hn;replace yp:=yZ fa yp;cases yp;obtain⟨oc,cd,hc,tL,jB,PI,OB⟩:=sz.3;obtain wW:=r.base _ _ hc;obtain XK:=WO wW;obtain L0:Looks (model F.b.prog F.b.w) s.heap (typeOf (.ref a)) (.ref c):=(EA g).andThen .now;obtain L1:Looks (model F.b.prog F.b.w) s.heap (isInstance (.ref a) (.type "BaseException")) Ib:=L0.andThen (looks_mroIn XK (WN tL PI));obtain L2:Looks (model F.b.prog F.b.w) s.heap (isType (.ref a)) Ig:=N4 g;obtain L3:Looks (model F.b.prog F.b.w) s.heap (typeOf (.ref c)) (.type "type"):=OB▸qe wW;obtain L4:Looks (model F.b.prog F.b.w) s.heap (isExcClass (.ref a)) Ig:=by unfold isExcClass;refine L2.andThen ?_;rw[if_neg Hi];exact .now
 unfold raiseStmt;refine Ic (IW (Ic (IW (Ic (IL ?_)))));unfold excFromValue;refine Ic (L4.here ?_);rw[if_neg Hi];refine Ic (L1.here ?_);rw[if_pos rfl];refine IW ?_;dsimp only;refine Ic (L2.here ?_);rw[if_neg Hi];refine Ic ?_;unfold raisedInstance;refine Ic (L0.here (Ic (L3.here ?_)));rw[if_pos (by decide)];refine IW (Ic ?_);unfold setFlight;refine Ic (GG g rfl (sz.2 rfl) ?_);rw[if_neg (by decide)];refine IW (wpAny_raiseNew_none hh ⟨rfl,?_,⟨_,vs,g,rfl,sz.1,.inl (sz.2 rfl)⟩⟩);exact⟨Ext.refl,r.write (o:=.exc c Ib fs) (⟨rfl,λzz zz=>rfl⟩:HU a s.heap s.heap) w ⟨_,g⟩ fa ⟨w,wJ,vs,g,⟨sz.1,(λz=>nomatch z),sz.3⟩,q⟩,rfl,rfl,λzz zz zz zz zz e=>e⟩
theorem Md{n c:Nat}{t:Bool}{fs:List (Nat×V)}(hn:J[n]?=Ie (.exc c t fs))(hs:prog.sub c prog.sj=Ib):bY F n J:=λ{A f C s a}fk r fa=>by obtain⟨a',yp,w,wJ,vs,g,sz,q⟩:=r.objs n _ hn;replace yp:=yZ fa yp;cases yp;have L0:Looks (model F.b.prog F.b.w) s.heap (typeOf (.ref a)) (.ref c):=(EA g).andThen .now;exact(exm_one (fk.yM.keeps r.base) L0 (fk.Yh c hs)).here ⟨rfl,s.toks,rfl⟩
theorem x_raise{e:Mine.M}{n c:Nat}{fs:List (Nat×V)}(hq:F.q=Ig)(h:E F L e J (.ok (.ref n) zt))(hn:zt[n]?=Ie (.exc c Ig fs)):X1 F L (.raise e) J (.exc (.ref n) L (zt.set n (.exc c Ib fs))):=J_ h hn (L5 hq hn)
theorem JZ{b:S}{x n c:Nat}{t:Bool}{fs:List (Nat×V)}{eh:Mine.M}{v:V}{zN:Loc}(hb:XB F L b J (.exc (.ref n) zN zt))(hn:zt[n]?=Ie (.exc c t fs))(hs:prog.sub c prog.sj=Ib)(hh:E F.nz (st x (.ref n) zN) eh zt (.ok v zb)):X1 F L (.try b x eh) J (.ok (.ret v) zN zb):=JY hb (Md hn hs) hh
end
open PySem PySem.W PySem.Calls PyProof.Rows
noncomputable def t_:List Int->List Int->Bool|[],[]=>Ig|[],zo::zY=>Ib|zo::zY,[]=>Ig|a::r,b::t=>if a=b then t_ r t else decide (a<b)
noncomputable def runK{zi:Type}(lt:Nat->Nat->Option Bool):PySem.W.KasT zi->Option zi|.ret a=>Ie a|.ask i j k=>match lt i j with|Ie b=>runK lt (k b)|none=>none
noncomputable abbrev uO:=List Int×List Nat
noncomputable def xa(p:uO):V:=.tup [.tup (p.1.map V.int),.str p.2]
noncomputable def pF(ps:List uO)(i j:Nat):Option Bool:=match ps[i]?,ps[j]? with|Ie x,Ie y=>if x.1=y.1 then none else Ie (t_ x.1 y.1)|zo,zY=>none
noncomputable def nC(ps:List uO):Option (List uO):=if ps.length<2 then Ie ps else if ps.length<64 then(runK (pF ps) (GY ps.length)).map λp=>p.toList.map λi=>ps.getD i ([],[])else none
section
variable{prog:Program}{w:World}{A:Hv}{E:IX->IS->Prop}{s:IS}{f:FM}{C:OW}{h:Hu}
theorem Xd:∀{pi:List Int}{xs:List IX},zS f C h (pi.map V.int) xs->∃ts:List Tok,ts.length=pi.length/\xs=pi.zipWith (λi t=>GX i t) ts|[],zo,e=>by cases e;exact⟨[],rfl,rfl⟩|i::p,zo,⟨w,r,e,⟨t,e1⟩,e2⟩=>by subst e e1;obtain⟨ts,h2,rfl⟩:=Xd e2;exact⟨t::ts,by simp[h2],rfl⟩
theorem VB{body:IX×IX->Option Ez×Unit->Sem (ForInStep (Option Ez×Unit))}{R:Option Ez×Unit->IS->Prop}(hb:∀(i j:Int)(t u:Tok)(Q:ForInStep (Option Ez×Unit)->IS->Prop),(i=j->Q (.yield (none,())) s)->(i≠j->Q (.done (Ie (.done (.ret (.bool (decide (i<j))))),())) s)->wpAny (model prog w) A (body (.int i t,.int j u) (none,())) Q E s):∀(p q:List Int)(ts us:List Tok),ts.length=p.length->us.length=q.length->(∀c,(p.length<q.length/\c=Ib\/¬p.length<q.length/\c=Ig)->c=t_ p q->R (none,()) s)->(R (Ie (.done (.ret (.bool (t_ p q)))),()) s)->wpAny (model prog w) A (forIn ((p.zipWith (λi t=>GX i t) ts).zip (q.zipWith (λi t=>GX i t) us)) (none,()) body) R E s
|[],q,ts,us,zo,hu,h1,h2=>by simp only[Ei,List.zip_nil_left,F_];refine IW (h1 (t_ [] q) ?_ rfl);cases q with|nil=>exact .inr ⟨by simp,rfl⟩|cons=>exact .inl ⟨by simp,rfl⟩
|i::p,[],ts,us,zo,hu,h1,h2=>by simp only[Ei,List.zip_nil_right,F_];exact IW (h1 (t_ (i::p) []) (.inr ⟨by simp,rfl⟩) rfl)
|i::p,j::q,t::ts,u::us,ht,hu,h1,h2=>by
 simp only[List.zipWith_cons_cons,List.zip_cons_cons,Fq];refine Ic (hb i j t u _ (λe=>?_) λe=>?_);.subst e;have e:t_ (i::p) (i::q)=t_ p q:=if_pos rfl;rw[e]at h2;exact VB hb p q ts us (by simpa using ht) (by simpa using hu) (λc hc wW=>h1 c (by simpa using hc) (by rw[e];exact wW)) h2
 .have e:t_ (i::p) (j::q)=decide (i<j):=if_neg e;rw[e]at h2;exact IW h2
|zo::zY,zF::yX,[],xe,ht,vM,uR,u7=>by simp at ht
|zo::zY,zF::yX,xe::vM,[],uR,hu,u7,rx=>by simp at hu
theorem K8{a c:I4}{oa oc:Obj}{n k:Nat}{p q:List Int}{ts us:List Tok}{P:Ez->IS->Prop}(ht:ts.length=p.length)(hu:us.length=q.length)(ha:s.heap.get? a=Ie oa)(da:oa.data=.seq (p.zipWith (λi t=>GX i t) ts).toArray n)(hc:s.heap.get? c=Ie oc)(cc:oc.cls=.type "tuple")(dc:oc.data=.seq (q.zipWith (λi t=>GX i t) us).toArray k)(h:P (.done (.ret (.bool (t_ p q)))) s):wpAny (model prog w) A (Builtin.«tuple.__lt__» ⟨[.ref a,.ref c],[]⟩) P E s:=by
 show wpAny _ _ (isInstance (.ref c) (.type "tuple")>>=_) _ _ s;refine Ic (wpAny_isInstance ⟨_,hc,cc⟩ isSubtype_tuple_tuple ?_);simp only[EM,I0,if_false];refine Ic (wpAny_tupleItemsOf ha da ?_);refine Ic (wpAny_tupleItemsOf hc dc ?_);refine Ic (VB (s:=s) (λi j t u Q h1 h2=>?_) p q ts us ht hu (λc wW PD=>?_) ?_)
 .dsimp only;refine Ic (wpAny_eqBool_int ?_);by_cases e:i=j
  .have e':(i==j)=Ib:=by simpa using e
   rw[e'];simp only[EM,I0,if_false];exact IW (h1 e)
  .have e':(i==j)=Ig:=by simpa using e
   rw[e'];simp only[Dm,if_true];refine Ic (G2 (Ic ?_));show wpAny _ _ (compareOp .Lt (.int i t) (.int j u)) _ _ _;exact ET (Ic (IW (IW (h2 e))))
 .refine IW ?_;obtain e:G4 .Lt (p.zipWith (λi t=>GX i t) ts).toArray.size (q.zipWith (λi t=>GX i t) us).toArray.size=.bool (t_ p q):=by simp only[G4,HD,List.length_zipWith,ht,hu,Nat.min_self];rw[<-PD];rcases wW with⟨z,rfl⟩|⟨z,rfl⟩<;>simp[z]
  rw[e];exact h
 .exact IW h
theorem K9{a c:I4}{oa oc:Obj}{n k:Nat}{p q:List Int}{ts us:List Tok}{Q:IX->IS->Prop}(hr:A.units<cLine)(ht:ts.length=p.length)(hu:us.length=q.length)(ha:s.heap.get? a=Ie oa)(ca:oa.cls=.type "tuple")(da:oa.data=.seq (p.zipWith (λi t=>GX i t) ts).toArray n)(hc:s.heap.get? c=Ie oc)(cc:oc.cls=.type "tuple")(dc:oc.data=.seq (q.zipWith (λi t=>GX i t) us).toArray k)(h:Q (.bool (t_ p q)) s):wpAny (model prog w) A (compareOp .Lt (.ref a) (.ref c)) Q E s:=by show wpAny _ _ (richCompare .Lt (.ref a) (.ref c)) _ _ _;refine wpAny_richCompare_same_room ⟨_,ha,ca⟩ ⟨_,hc,cc⟩ Eh ?_ hr;exact G0 Eh ⟨_,ha,ca⟩ PySem.F.entry_tuple_lt (K8 ht hu ha da hc cc dc ⟨_,rfl,by simp,h⟩) (PySem.F.args_tuple_lt_2 _ _)
theorem XN{zi:Type}{cmp:Nat->Nat->(Bool->IS->Prop)->IS->Prop}{lt:Nat->Nat->Option Bool}(hc:∀i j b zP,lt i j=Ie b->zP b s->cmp i j zP s){G:zi->IS->Prop}:∀(t:KasT zi){a:zi},runK lt t=Ie a->G a s->t.kasWp cmp G s|.ret a,b,e,hG=>by cases e;exact hG|.ask i j k,b,e,hG=>by unfold runK at e;show cmp i j (λc s'=>(k c).kasWp cmp G s') s;cases q:lt i j with|none=>rw[q]at e;cases e|some c=>rw[q]at e;exact hc i j c _ q (XN hc (k c) e hG)
theorem Kb {a : I4} {vs out : List IX} {n : Nat} {P : Ez → IS → Prop} (ho : s.heap.get? a = Ie (seqObj "list" vs.toArray n)) (qj : vs.length < u1 ∧ (2 ≤ vs.length → vs.length < 64))
    (hk : ∀ s' : IS, (∀ b o, b ≠ a → s.heap.get? b = Ie o → s'.heap.get? b = Ie o) → 2 ≤ vs.length → wpAny (model prog w) A (keyKind' vs.toArray) (fun mq kR => kR = s' ∧ (kas_sort vs.length).kasWp (kas_ask prog w A mq vs) (fun p s3 => s3 = s' ∧ out = p.toList.map fun i => vs.getD i HF) s') (fun zz zz => False) s')
    (h2 : vs.length < 2 → out = vs)
    (h : ∀ h' ep, (∀ b o, b ≠ a → s.heap.get? b = Ie o → h'.get? b = Ie o) → h'.get? a = Ie (seqObj "list" out.toArray ep) → P (.done (.ret .none)) { s with heap := h' }) :
    wpAny (model prog w) A (Builtin.«list.sort» ⟨[.ref a], []⟩) P E s := by
  obtain zc : u1 = 1000000 := rfl
  obtain s1 := Hx s.heap a (Gp fun zz => (#[] : Array IX))
  obtain ⟨e1, Xx⟩ : ∃ e1, (s.heap.update a (Gp fun zz => (#[] : Array IX))).get? a = Ie (seqObj "list" #[] e1) := ⟨_, get?_update_seq ho fun zz => #[]⟩
  obtain eP : (((s.heap.update a (Gp fun zz => (#[] : Array IX))).push (seqObj "tuple" vs.toArray 0)).push (seqObj "list" #[] 0)).get? a = Ie (seqObj "list" #[] e1) := IB _ (IB _ Xx)
  have k3 : ∀ b o, b ≠ a → s.heap.get? b = Ie o → (((s.heap.update a (Gp fun zz => (#[] : Array IX))).push (seqObj "tuple" vs.toArray 0)).push (seqObj "list" #[] 0)).get? b = Ie o := fun b o q e => IB _ (IB _ ((s1.2 b q).trans e))
  rw [list_sort_plain]
  refine Ic (listItems_at ho rfl ?_)
  refine Ic (listUpdate_at ho rfl ?_ (by rewrite [HD]; rw [sizeLine_eq]; lia) (HL _))
  refine Ic (seqEpoch_at Xx rfl ?_)
  refine Ic (wpAny_newTuple ?_ (by show vs.length ≤ _; rw [sizeLine_eq]; lia))
  refine Ic (wpAny_newList ?_ (HL _))
  refine IL ?_
  show wpAny (model prog w) A _ P E { s with heap := ((s.heap.update a (Gp fun zz => (#[] : Array IX))).push (seqObj "tuple" vs.toArray 0)).push (seqObj "list" #[] 0) }
  dsimp only
  have fin : ∀ {st : SortSt}, (arrOf st).map (·.2) = out.toArray → out.length < u1 → failedOf st = none → wpAny (model prog w) A (do
        let touched := (← seqEpoch a) != e1
        Builtin.List.listUpdate (.ref a) fun zz => (arrOf st).map (·.2)
        if let Ie e := failedOf st then rule "list.sort.comparison-raised"; throw e
        if touched then rule "list.sort.modified"; raiseError "ValueError" "list modified during sort"
        ret .none) P E { s with heap := ((s.heap.update a (Gp fun zz => (#[] : Array IX))).push (seqObj "tuple" vs.toArray 0)).push (seqObj "list" #[] 0) } := by
    intro st e vd hf
    refine Ic (seqEpoch_at eP rfl ?_)
    rw [e]
    refine Ic (listUpdate_at eP rfl ?_ (HL _) (by show out.toArray.size ≤ _; rewrite [HD]; rw [sizeLine_eq]; lia))
    rw [hf]
    simp only [bne_self_eq_false, I0, if_false]
    refine IW (h _ _ (fun b o q e => ?_) (get?_update_seq eP fun zz => out.toArray))
    exact ((Hx _ a _).2 b q).trans (k3 b o q e)
  by_cases lR : vs.length < 2
  · have lQ : vs.toArray.size < 2 := by rw [HD]; exact lR
    rewrite [if_pos lQ]; rw [if_pos lQ]
    refine Ic (IW (Ic (IW ?_)))
    dsimp only
    refine fin ?_ (by rw [h2 lR]; exact qj.1) rfl
    rw [h2 lR]
    show (vs.toArray.zip vs.toArray).map (·.2) = _
    apply E6.mp
    simp [List.map_snd_zip]
  · have lQ : ¬ vs.toArray.size < 2 := by rw [HD]; exact lR
    obtain lU : 2 ≤ vs.length := He lR
    rewrite [if_neg lQ]; rw [if_neg lQ]
    refine Ic (II (hk _ k3 lU) (fun mq s0 eF => ?_) fun zz zz x => x.elim)
    obtain ⟨rfl, eF⟩ := eF
    refine Ic (II (kat_run (Q := fun h_ s' => C4 (s' = _) ((arrOf h_).map (·.2) = out.toArray) (out.length < u1) (failedOf h_ = none))
      rfl lU (qj.2 lU) (fun p' h_ s' a1 a2 a3 a4 => ⟨a4.1, ?_, ?_, a3⟩) eF) ?_ fun zz zz e => e)
    · rw [a4.2]; exact kat_snds rfl a2
    · rewrite [a4.2]; rewrite [IY]; rewrite [IE]; rw [a1]; exact qj.1
    · rintro ⟨⟨⟩, h_⟩ s' ⟨rfl, b1, b2, b3⟩
      exact fin b1 b2 b3
theorem Ka{l:I4}{vs out:List IX}{Q:IX->IS->Prop}(hl:s.heap.IsList l vs.toArray)(qj:vs.length<u1/\(2<=vs.length->vs.length<64))(hk:∀s':IS,(∀b o,s.heap.get? b=Ie o->s'.heap.get? b=Ie o)->2<=vs.length->wpAny (model prog w) A.in1.in1 (keyKind' vs.toArray) (λmq kR=>kR=s'/\(kas_sort vs.length).kasWp (kas_ask prog w A.in1.in1 mq vs) (λp s3=>s3=s'/\out=p.toList.map λi=>vs.getD i HF) s') (λzz zz=>False) s')(h2:vs.length<2->out=vs)(h:∀h' D ep,(∀b o,s.heap.get? b=Ie o->h'.get? b=Ie o)->s.heap.get? D=none->h'.get? D=Ie (seqObj "list" out.toArray ep)->Q (.ref D) {s with heap:=h'}):wpAny (model prog w) A (call (.builtin "sorted") [.ref l]) Q E s:=by
 obtain zc:u1=1000000:=rfl;refine Calls.call_function_entry kind_sorted plain_sorted entry_sorted (args_sorted1 _) ?_;unfold Builtin.«sorted»;refine Ic (m:=checkCount "sorted" 1 1 _) (IW ?_);refine Ic (collect_list hl ?_ (by rw[sizeLine_eq];lia));refine Ic (wpAny_newList ?_ (by rw[sizeLine_eq];lia));have uu:((s.heap.push (seqObj "list" #[] 0)).update s.heap.objs.size (Gp (.++vs.toArray))).objs.size=s.heap.objs.size+1:=by rewrite[Heap.size_update];rw[size_push']
 obtain Xw:(((s.heap.push (seqObj "list" #[] 0)).update s.heap.objs.size (Gp (.++vs.toArray))).push (seqObj "list" vs.toArray 0)).get? (s.heap.objs.size+1)=Ie (seqObj "list" vs.toArray 0):=by rw[<-uu];exact IC _ rfl
 have keep:∀b o,s.heap.get? b=Ie o->(((s.heap.push (seqObj "list" #[] 0)).update s.heap.objs.size (Gp (.++vs.toArray))).push (seqObj "list" vs.toArray 0)).get? b=Ie o:=λb o q=>by obtain yJ:b<s.heap.objs.size:=HP q;rewrite[E8 _ _ _ (by rw[uu];exact Ha (FN yJ))];rewrite[Heap.get?_update_ne _ _ _ _ (Ha yJ)];rw[E8 _ _ _ (Ha yJ)];exact q
 show wpAny _ _ _ _ _ {s with heap:=((s.heap.push (seqObj "list" #[] 0)).update s.heap.objs.size (Gp (.++vs.toArray))).push (seqObj "list" vs.toArray 0)};rw[uu];obtain ne:∀b o,s.heap.get? b=Ie o->b≠s.heap.objs.size+1:=λb o e=>Ha (FN (HP e));refine Ic (IL (G0 slot_list_sort ⟨_,Xw,rfl⟩ entry_list_sort ?body (args_list_sort _)));refine Kb (out:=out) Xw qj (λs' ks tj=>hk s' (λb o e=>ks b o (ne b o e) (keep b o e)) tj) h2 λh' ep k' g'=>?_;exact⟨_,rfl,IW ⟨_,rfl,h h' _ ep (λb o e=>k' b o (ne b o e) (keep b o e)) (tl (FJ _)) g'⟩⟩
end
theorem Yl:∀(p q:List Int),EN (vV (p.map V.int)) (vV (q.map V.int))=decide (p=q)
|[],[]=>rfl
|i::p,j::q=>by
 show(decide (i=j)&&EN (vV (p.map V.int)) (vV (q.map V.int)))=_;rw[Yl p q];by_cases e:i=j;.subst e;simp
 .simp[e]
|[],zo::zY|zF::yX,[]=>rfl
theorem Wy(n:Nat)(p:List Int):lvl (n+1) (.tup (p.map V.int))=Ib:=by show(p.map V.int).all (lvl n)=Ib;rewrite[List.all_map];rw[I2];intro i _;cases n<;>rfl
section
variable{F:Fr}{A:Hv}{f:FM}{C:OW}{J:St}{s:IS}{h h':Hu}
theorem cz{p:uO}{w:IX}(hv:VR f C h (xa p) w):X5 λ(a c:I4)(items:Array IX)(ep:Nat)(sl:Array (Option IX))=>X5 λ(pW:Array IX)(yS:Nat)(sq:Array (Option IX))(ts:List Tok)(t:Tok)=>C7 (w=.ref a) (h.get? a=Ie ⟨.type "tuple",none,.seq items ep,sl⟩) (items.toList=[.ref c,.str (tx p.2) t]) (h.get? c=Ie ⟨.type "tuple",none,.seq pW yS,sq⟩) (ts.length=p.1.length) (pW.toList=p.1.zipWith (λi t=>GX i t) ts) (VR f C h (.tup (p.1.map V.int)) (.ref c)):=by obtain⟨a,items,ep,sl,rfl,g,n,⟨w1,r1,e1,h1,⟨w2,r2,e2,⟨t,h2⟩,h3⟩⟩⟩:=hv;subst e2;cases h3;subst h2;obtain⟨c,pW,yS,sq,rfl,g',n',O9⟩:=id h1;obtain⟨ts,t1,t2⟩:=Xd O9;exact⟨a,c,items,ep,sl,pW,yS,sq,ts,t,rfl,g,e1,g',t1,t2,h1⟩
theorem VA:∀{ps:List uO}{ws:List IX},zS f C h (ps.map xa) ws->grows h h'->∃fs:List IX,C3 (KatTups h' ws fs) (fs.length=ps.length) (∀M,∀v∈fs,Looks M h' (typeOf v) (.type "tuple"))
|[],zo,e,zY=>by cases e;exact⟨[],.nil,rfl,λzz zz q=>(nomatch q)⟩
|x::xs,zo,⟨w,r,e,e1,e2⟩,hk=>by
 subst e;obtain⟨fs,i1,i2,i3⟩:=VA e2 hk;obtain⟨a,c,items,ep,sl,pW,yS,sq,ts,t,rfl,g,hi,g',_,_,_⟩:=cz e1;refine⟨.ref c::fs,.cons (hk _ _ g) rfl rfl (by rewrite[<-I'];rw[hi];rfl) i1,congrArg (.+1) i2,λM v hv=>?_⟩;rcases IU.mp hv with rfl|hv;.exact(EA (hk _ _ g')).andThen .now
 .exact i3 M v hv
theorem zS.pick{ps:List uO}{ws:List IX}(e:zS f C h (ps.map xa) ws):∀(l:List Nat),(∀i∈l,i<ps.length)->zS f C h ((l.map λi=>ps.getD i ([],[])).map xa) (l.map λi=>ws.getD i .none)|[],zo=>rfl|i::l,hl=>by have q:=hl i IQ;obtain⟨w,e2,e3⟩:=e.get (i:=i) (v:=xa ps[i]) (by rewrite[IM];rw[Hc q];rfl);refine⟨_,_,rfl,?_,zS.pick e l λj hj=>hl j (I6 _ hj)⟩;show VR f C h (xa (ps.getD i ([],[]))) (ws.getD i HF);rewrite[HZ];rewrite[HZ];rewrite[Hc q];rw[e2];exact e3
set_option tactic.hygienic true in theorem RF{n:Nat}{ps qs:List uO}(hn:J[n]?=Ie (.list (ps.map xa)))(hs:nC ps=Ie qs)(uw:∀p,runK (pF ps) (GY ps.length)=Ie p->∀i∈p.toList,i<ps.length):Call F (.bi .sorted) [.ref n] J (.ok (.ref J.length) (J++[.list (qs.map xa)])):=by
 refine⟨λ{A f C s xS vals}r ak hf hv=>?_⟩;cases hf;obtain⟨w1,r1,rfl,⟨a,fa,rfl⟩,hr⟩:=hv;cases hr;obtain⟨_,items,ep,g,wm⟩:=xZ r fa hn;have hl:items.toList.length=ps.length:=wm.length.trans (IY _);obtain hu:A.units+64<cLine:=by obtain this:=ak.units;lia
 have main:∀(out:List IX),zS f C s.heap (qs.map xa) out->(items.toList.length<u1/\(2<=items.toList.length->items.toList.length<64))->(∀s':IS,(∀b o,s.heap.get? b=Ie o->s'.heap.get? b=Ie o)->2<=items.toList.length->wpAny (model F.b.prog F.b.w) A.in1.in1 (keyKind' items.toList.toArray) (λmq kR=>kR=s'/\(kas_sort items.toList.length).kasWp (kas_ask F.b.prog F.b.w A.in1.in1 mq items.toList) (λp s3=>s3=s'/\out=p.toList.map λi=>items.toList.getD i HF) s') (λzz zz=>False) s')->(items.toList.length<2->out=items.toList)->W F A (Dr (.builtin "sorted") [.ref a]) rV f C s (.ok (.ref J.length) (J++[.list (qs.map xa)])):=by intro out ho hz hk h2;refine Ka (out:=out) (vs:=items.toList) ⟨_,g,rfl,ep,by rw[Fs]⟩ hz hk h2 λh' D yS wZ fr gD=>?_;refine⟨_,_,q9 (s':={s with heap:=h'}) (a:=D) (l:=[D]) (m:=.list (qs.map xa)) r wZ rfl rfl (λc hc=>by rw[I_.mp hc];exact⟨fr,_,gD⟩) ⟨tA IQ,out.toArray,yS,gD,?_⟩,_,sr,rfl⟩;exact zS.yi (Ext.new (fr:=[]) r wZ λc hc=>by rw[I_.mp hc];exact fr).v _ ho
 unfold nC at hs;split at hs;.rename_i h2;cases hs;exact main items.toList wm ⟨by rw[hl];exact HY h2 (by decide),λz=>by lia⟩ (λzz zz z=>by lia) λzz=>rfl
 .rename_i h2;split at hs;case isFalse=>cases hs
  rename_i qj;obtain⟨p,hp,rfl⟩:=IG.mp hs;refine main (p.toList.map λi=>items.toList.getD i HF) (wm.pick _ (uw p hp)) ⟨by rw[hl];exact H3 qj (by decide),λzz=>by rw[hl];exact qj⟩ (λs' hk z=>?_) λz=>absurd (hl▸z) h2;obtain⟨fs,t1,t2,t3⟩:=VA wm hk;obtain sQ:=zS.ext (Ext.grow (fr:=[]) hk) _ wm;refine kat_kind t1 (by lia) (t3 _) (by decide) ⟨rfl,?_⟩;rw[show(HG "tuple"!=HG "tuple")=Ig by decide,hl];refine XN (s:=s') (lt:=pF ps) (λi j c zP e hC=>?_) _ hp ⟨rfl,rfl⟩;unfold pF at e;split at e;case h_2=>cases e
  rename_i x y hx hy;split at e;.cases e
  rename_i ne;cases e;obtain⟨wx,O7,vx⟩:=sQ.get (i:=i) (v:=xa x) (by rewrite[IM];rw[hx];rfl);obtain⟨wy,O6,vy⟩:=sQ.get (i:=j) (v:=xa y) (by rewrite[IM];rw[hy];rfl);obtain⟨a1,c1,J6,JH,Iu,J4,JG,It,KG,KJ,rfl,g1,Ol,tq,OD,Og,Jo⟩:=cz vx;obtain⟨a2,c2,J5,RY,Ir,J3,JF,Iq,KD,Il,rfl,g2,Oj,fM,OC,Of,Jn⟩:=cz vy;show wpAny _ _ (keyLt' (tuples' Ig) (items.toList.getD i HF) (items.toList.getD j HF)) zP _ s';rewrite[HZ];rewrite[HZ];rewrite[O7];rw[O6];refine kat_lt g1 rfl g2 rfl ?_;rewrite[Ol];rw[Oj];refine kat_cons ?_;obtain⟨⟨as,r1⟩,r2,r3⟩:=iG 3 (.tup (x.1.map V.int)) _ (Wy 2 x.1) Jo;obtain⟨⟨bs,q1⟩,q2,q3⟩:=iG 3 (.tup (y.1.map V.int)) _ (Wy 2 y.1) Jn;refine PySem.SeqAt.eqBoolOverData _ _ _ _ _ _ _ _ _ _ _ _ r1 q1 r2 q2 (by show A.units+1+1+_<cLine;lia) ?_;rw[show Fz (conv (.tup (x.1.map V.int))) (conv (.tup (y.1.map V.int)))=Ig from(Yl ..).trans (decide_eq_false ne)];refine kat_no ?_;rw[Bool.false_and];exact kat_one _ _ (K9 (ts:=KG) (us:=KD) (by show A.units+1+1<cLine;lia) OD OC tq rfl (by rewrite[<-Og];rw[Fs]) fM rfl (by rewrite[<-Of];rw[Fs]) hC)
end
open PySem PySem.W PySem.Calls PyProof.Rows
theorem iN:plainId "dict.update.loop"=Ib:=by decide+kernel
theorem Yn:entryFor table "dict.update.loop"=Ie Builtin.«dict.update.loop»:=entryFor_of_fast (by kernel_rfl)
theorem NA:typeLookup (.type "list") "keys"=pure none:=by rewrite[typeLookup_type];rw[builtinLookup_eq_fast];kernel_rfl
theorem NV{prog:Program}{w:World}{A:Hv}{E:IX->IS->Prop}{s:IS}{a:I4}{xs:Array IX}{k:Nat}{sl:Array (Option IX)}{Q:Option IX->IS->Prop}(hx:s.heap.get? a=Ie ⟨.type "list",none,.seq xs k,sl⟩)(hA:A.handled=none)(h:∀h' tk,(∀b o,s.heap.get? b=Ie o->h'.get? b=Ie o)->Q none {s with heap:=h',toks:=tk}):wpAny (model prog w) A (getAttr? (.ref a) "keys") Q E s:=by
 obtain⟨hp,g,d,tk,os⟩:=s;obtain hT:∀s6,(⟨hp,g,d,s6,os⟩:IS).TypeIs (.ref a) "list":=λzz=>⟨_,hx,rfl⟩;obtain f1:=sub_AttributeError;obtain f3:=Gk.lookup;obtain f4:=Gk.bind (.ref a);obtain f5:=am_list_getattr_none;unfold getAttr?;refine Ic (wpAny_mkText ?_);unfold getAttrBy?;refine Ic (wpAny_attempt ?_);unfold getAttrBy;repeat(any_goals(first|assumption|exact hT _|((with_reducible show wpAny _ _ (call (FF "list.__getattribute__") _ _) _ _ _);refine call_meets Gk (hT _) am_entry_list_getattribute (PySem.F.args_list_getattribute_2 _ _) (meets_getattribute_miss_list a xs k sl "keys" _ NA (by decide) (by decide)) ⟨hx,hA,λh' s6 e p_=>?_⟩)|wp_step))
 obtain lJ:=p_.of;obtain⟨t',u',he⟩:=p_.there;obtain PM:∀KN,(⟨h',g,d,KN,os⟩:IS).TypeIs (.ref e) "AttributeError":=λzz=>⟨_,he,rfl⟩;show wpAny _ _ (getattributeRaised _ _ _ _ _ _ _) _ _ _;unfold getattributeRaised;repeat(any_goals(first|assumption|exact PM _|wp_step))
 exact h _ _ lJ.keeps
noncomputable def il(p:List Nat×V):V:=.tup [.str p.1,p.2]
section
variable{F:Fr}{A:Hv}{f:FM}{C:OW}{J:St}{s:IS}{h h':Hu}
theorem Jt{b:Bc}{R:Result->IS->Prop}(hh:A.handled=none){I l d:I4}(ne:l≠I)(f7:d≠I)(P':d≠l){items:Array IX}{h0:Hu}(fd:h0.get? d=none)(fI:h0.get? I=none):∀(ps:List (List Nat×V))(i:Nat)(j:Int)(t:Tok)(s:IS)(es:List (List Nat×V))(ents:Array Hn)(ep:Nat),zS f C h0 (ps.map il) (items.toList.drop i)->i+ps.length=items.size->grows h0 s.heap->s.heap.IsListIter I l i->s.heap.IsList l items->s.heap.get? d=Ie (xo ents ep)->DR b.w.params f C s.heap es ents.toList->es.length+ps.length<=sizeLine->(∀h' tk wN yS,grows h0 h'->h'.get? d=Ie (xo wN yS)->DR b.w.params f C h' (tw ps es) wN.toList->R (.ok (.ret .none)) {s with heap:=h',toks:=tk})->codeAny (model b.prog b.w) A (.builtin "dict.update.loop" ⟨[.ref d,.ref I,.int j t,.none],[]⟩) R s:=by
 intro ps;obtain W:=Walks.list (prog:=b.prog) (w:=b.w) (A:=A.in1) hh I l ne items;have step:∀{wG xI:Hu}{i:Nat},grows h0 wG->wG.IsListIter I l i->(∀c o,c∉[I]->wG.get? c=Ie o->xI.get? c=Ie o)->grows h0 xI/\vi f C wG f C xI:=by
  intro wG xI i g it m;obtain⟨oI,gI,c1,c2⟩:=it;refine⟨λc o e=>m c o (λq=>?_) (g c o e),λzz zz e=>e,λc e n=>⟨?_,n⟩⟩;.rw[I_.mp q,fI]at e;cases e
  .obtain⟨it,ep,sl,q⟩:=id e;refine(m c _ (λz=>?_) q).trans q.symm;rw[I_.mp z]at e;exact um gI (by rw[c1];decide) e
 induction ps with
 |nil=>intro i j t s es ents ep hv hn hk hit hl hd dr hz hR;have hi:i=items.size:=hn;subst hi;refine codeAny_builtin Yn ?_;rw[E_ iN _];show wpAny _ A.in1 (pyNext (.ref I)>>=_) _ _ s;refine Ic (W.done s _ _ ⟨hit,hl⟩ λh' tk hm=>?_);obtain⟨k',vx⟩:=step hk hit hm;exact Ic (IW (IW (hR h' tk ents ep k' (hm d _ (by simpa using f7) hd) (DR.yi vx _ dr))))
 |cons p ps ih=>
  intro i j t s es ents ep hv hn hk hit hl hd dr hz hR;obtain⟨k,v⟩:=p;rw[HV]at hn hz;have yJ:i<items.size:=by lia
  obtain⟨wv,rest,hw,nq,oA⟩:=hv;obtain Oz:items.toList.drop i=items.toList[i]'(by simpa using yJ)::items.toList.drop (i+1):=List.drop_eq_getElem_cons (by simpa using yJ);replace hw:=Oz.symm.trans hw;injection hw with sP td;subst td;obtain⟨a,pW,yS,sl,rfl,g1,n1,w1,r1,q1,⟨KJ,rfl⟩,w2,r2,rfl,h2,hr⟩:=nq;cases hr;refine codeAny_builtin Yn ?_;rw[E_ iN _];show wpAny _ A.in1 (pyNext (.ref I)>>=_) _ _ s;refine Ic (W.item i s _ _ yJ ⟨hit,hl⟩ λit wG tk hP hU hm=>?_);obtain this:it=.ref a:=by rw[<-I',Hc (by simpa using yJ),sP]at hP;cases hP;rfl
  subst this;obtain⟨nZ,vx⟩:=step hk hit hm;have Y6:=hm d _ (by simpa using f7) hd;dsimp only;refine Ic (IL (Ic (wpAny_tryCatch ?_)));unfold Builtin.Dict.pairItems;refine Ic (EC (T:="tuple") ⟨_,nZ _ _ g1,rfl⟩ ?_);rw[if_pos (by decide)];refine Ic ?_;unfold seqItems?;refine Ic (wpAny_load (nZ _ _ g1) (IW (IW ?_)));show wpAny _ _ (match pW.toList with|[k,v]=>holding [k,v] (dictSet d k v)|l=>_) _ _ _;rw[q1];dsimp only;refine IL (fz (s:={s with heap:=wG,toks:=tk}) Y6 (DR.yi vx _ dr) (VR.ext (Ext.grow (fr:=[]) nZ) _ h2) (by lia) λxI ff f_ vo ey fq=>?_);refine IW ⟨plainId_quiet iN _,?_⟩;obtain sU:=fu (k:=k) v es;exact ih (i+1) (j+1) 0 {s with heap:=xI,toks:=tk+1} (dput k v es) ff f_ oA (by lia) (λb o e=>(vo.2 b (λq=>by rw[q,fd]at e;cases e)).trans (nZ b o e)) (hU.1.at λo e=>(vo.2 I (H0 f7)).trans e) (hU.2.at λo e=>(vo.2 l (H0 P')).trans e) ey (DR.yi (gw vo (um Y6 rfl)) _ fq) (by lia) λh' s6 wN yS a1 a2 a3=>hR h' s6 wN yS a1 a2 a3
theorem RH{n:Nat}{ps:List (List Nat×V)}(hq:F.q=Ig)(hn:J[n]?=Ie (.list (ps.map il)))(hs:short ps=Ib):Call F (.ty .dict) [.ref n] J (.ok (.ref J.length) (J++[.dict (tw ps [])])):=by refine⟨λ{A f C s xS vals}r ak hf hv=>?_⟩;cases hf;obtain⟨w1,r1,rfl,⟨a,fa,rfl⟩,hr⟩:=hv;cases hr;obtain hh:=ak.hand hq;obtain⟨_,items,ep,g,wm⟩:=xZ r fa hn;obtain hl:=wm.length;rw[IE,IY]at hl;obtain zq:=qv hs;obtain bk:sizeLine=2^24:=rfl;obtain fresh:=tl (h:=s.heap) (IV _);obtain gr:=wz s.heap emptyDict;obtain gD:(s.heap.push emptyDict).get? s.heap.objs.size=Ie emptyDict:=IC _ rfl;obtain na:s.heap.objs.size≠a:=Fj (HP g);refine callType_codes (Q₁:=λobj zd=>obj=.ref s.heap.objs.size/\zd={s with heap:=s.heap.push {cls:=.type "dict",data:=.dict #[]}}) PySem.F.kt_called_dict (PySem.F.kt_typeCall_dict_1 _) PySem.F.entry_dict_init (kt_code_dict_new _ ⟨rfl,rfl⟩) ?_;rintro obj zd⟨rfl,rfl⟩;refine⟨⟨_,gD,rfl⟩,PySem.F.args_dict_init_2 _ _,?_⟩;unfold Builtin.«dict.__init__»;refine Ic ?_;unfold Builtin.Dict.selfAndRest;refine Ic (Ej ⟨_,gD,rfl⟩ ?_);show wpAny _ _ (pure (s.heap.objs.size,[Gg a])) _ _ _;refine IW ?_;show wpAny _ _ (Ey "dict.__init__" s.heap.objs.size (.ref a) [] .none) _ _ _;unfold Ey;refine Ic (EC (T:="list") ⟨_,gr _ _ g,rfl⟩ ?_);rw[if_pos (by decide)];refine Ic (NV (gr _ _ g) hh λxI KI lD=>?_);rw[if_pos (by rfl:(none:Option IX).isNone=Ib)];refine Ic (G2 (Ic (wpAny_pyIter_list (items:=items) ⟨_,lD _ _ (gr _ _ g),rfl,ep,rfl⟩ ?_)));obtain yJ:s.heap.objs.size<xI.objs.size:=HP (lD _ _ gD);obtain Od:a<s.heap.objs.size:=HP g;obtain g3:=wz xI (⟨.type "list_iterator",none,.fields #[.ref a,.int 0 0],#[]⟩:Obj);obtain gI:(xI.push (⟨.type "list_iterator",none,.fields #[.ref a,.int 0 0],#[]⟩:Obj)).get? xI.objs.size=Ie ⟨.type "list_iterator",none,.fields #[.ref a,.int 0 0],#[]⟩:=IC _ rfl;refine IW ⟨plainId_quiet iN _,?_⟩;refine Jt (b:=F.b) (f:=f) (C:=C) (s:={s with heap:=xI.push ⟨.type "list_iterator",none,.fields #[.ref a,.int 0 0],#[]⟩,toks:=KI}) (A:=A.in1) hh (I:=xI.objs.size) (l:=a) (d:=s.heap.objs.size) (Ha (H3 Od yJ)) (Ha yJ) na (items:=items) (h0:=s.heap) fresh (tl (Et yJ)) ps 0 0 0 [] #[] 0 wm (by lia) (λc o e=>g3 _ _ (lD _ _ (gr _ _ e))) ⟨_,gI,rfl,rfl⟩ ⟨_,g3 _ _ (lD _ _ (gr _ _ g)),rfl,ep,rfl⟩ (g3 _ _ (lD _ _ gD)) rfl (by simp;lia) λh' tk wN yS a1 a2 a3=>?_;refine⟨rfl,_,_,q9 (s':={s with heap:=h',toks:=tk}) (a:=s.heap.objs.size) (l:=[s.heap.objs.size]) (m:=.dict (tw ps [])) r a1 rfl rfl (λc hc=>by rw[I_.mp hc];exact⟨fresh,_,a2⟩) ⟨tA IQ,wN,yS,a2,?_,jY Gn⟩,_,sr,rfl⟩;exact DR.yi ⟨i9 r,λc e n=>⟨rfl,(t9 λq=>by rw[I_.mp q]at e;exact um a2 rfl e).trans n⟩⟩ _ a3
end
section
variable{b:Bc}{d:Nat}{q:Bool}{L zN:Loc}{J zt zy:St}
theorem zG{a:Nat}{fd:FD}{args:List V}{v:V}(hf:prog.fn a=Ie fd)(hb:ug fd.params fd.dflt args=Ie L)(hx:XB ⟨b,q,Ig,d⟩ L fd.body J (.ok (.ret v) zN zy)):Call ⟨b,q,Ig,d+1⟩ (.fn a) args J (.ok v zy):=SK rfl rfl hf hb hx
theorem vF{a:Nat}{fd:FD}{args:List V}(hf:prog.fn a=Ie fd)(hb:ug fd.params fd.dflt args=Ie L)(hx:XB ⟨b,q,Ig,d⟩ L fd.body J (.ok .next zN zy)):Call ⟨b,q,Ig,d+1⟩ (.fn a) args J (.ok .none zy):=SG rfl rfl hf hb hx
theorem tn{a:Nat}{fd:FD}{args:List V}{v:V}(hf:prog.fn a=Ie fd)(hb:ug fd.params fd.dflt args=Ie L)(hx:XB ⟨b,q,Ig,d⟩ L fd.body J (.exc v zN zy)):Call ⟨b,q,Ig,d+1⟩ (.fn a) args J (.exc v zy):=SO rfl rfl hf hb hx
end
theorem yw{x:Nat}{v:V}{L:Loc}:lk x (st x v L)=Ie v:=by rewrite[vD];rw[if_pos rfl]
theorem zg{x y:Nat}{v:V}{L:Loc}{o:Option V}(h:IP y x=Ig)(h':lk y L=o):lk y (st x v L)=o:=by rewrite[vD];rw[if_neg (λe=>by rw[e,G9]at h;cases h)];exact h'
noncomputable def Gr(J zy:St):Prop:=J.length<=zy.length/\∀r,r<J.length->zy[r]?=J[r]?
theorem Gr.rfl{J:St}:Gr J J:=⟨IV _,λzz zz=>Eq.refl _⟩
theorem Gr.tr{J zy UG:St}(h:Gr J zy)(h':Gr zy UG):Gr J UG:=⟨I8 h.1 h'.1,λr hr=>(h'.2 r (HY hr h.1)).trans (h.2 r hr)⟩
theorem Gr.push{J:St}(o:O):Gr J (J++[o]):=⟨by rw[IZ];exact HE _ _,λr hr=>HA hr⟩
theorem Gr.get{J zy:St}{n:Nat}{o:O}(h:Gr J zy)(hn:J[n]?=Ie o):zy[n]?=Ie o:=(h.2 n (xr hn)).trans hn
theorem Gr.set{J zy:St}{n:Nat}{o:O}(h:Gr J zy)(hn:J.length<=n):Gr J (zy.set n o):=⟨by rw[HS];exact h.1,λr hr=>by rw[H2 (by lia)];exact h.2 r hr⟩
theorem z7{J:St}{o:O}:(J++[o])[J.length]?=Ie o:=by rewrite[Hj (IV _)];rw[H4];rfl
noncomputable def Wm:Nat:=17
noncomputable def nh(J:St)(n:Nat)(i:Int):Prop:=X2 λc fs=>C3 (J[n]?=Ie (.inst c fs)) (c=228\/c=40) (lk Wm fs=Ie (.int i))
theorem s7{c:Nat}(hc:c=228\/c=40):qW c:=by rcases hc with rfl|rfl<;>exact⟨_,rfl⟩
theorem VE{c x:Nat}(hc:c=228\/c=40)(hx:x=Wm):xc c x=Ib:=by subst hx;rcases hc with rfl|rfl<;>rfl
section
variable{b:Bc}{d:Nat}{q:Bool}{J zt:St}
theorem cS{n:Nat}{i:Int}(h:nh J n i):Call ⟨b,q,Ig,d+1⟩ (.fn 267) [.ref n] J (.ok (.str [116,104,105,110,103]) J):=by obtain⟨c,fs,hn,hc,hl⟩:=h;obtain hp:=s7 hc;apply zG rfl rfl;refine zr (zO (zZ (zx rfl) zQ (yT rfl)) zj) ?_;refine zr (zO (y0 (yk rfl) (zp (zx rfl) (zp (yk rfl) zf)) (pZ hn hp rfl)) zj) ?_;refine zr (zO (y0 (yk rfl) (zp (zx rfl) (zp (yk rfl) zf)) (pZ hn hp rfl)) zj) ?_;exact zT (zK (we (y0 (yk rfl) (zp (zx rfl) (zp (yk rfl) zf)) (pZ hn hp rfl)) zV))
end
open PySem
theorem Ym(i j:Int):Fz (conv (.int i)) (conv (.int j))=(i==j):=rfl
theorem rg{F:Fr}{J:St}{i j:Int}:x_ F .eq (.int i) (.int j) J (i==j):=gW rfl rfl (Ym i j)
noncomputable def plainS(s:List Nat):Bool:=s.all λc=>Hq c 0x110000
theorem u2{F:Fr}{J:St}{s t:List Nat}(hs:plainS s=Ib)(ht:plainS t=Ib):x_ F .eq (.str s) (.str t) J (zR t s):=gW hs ht (Yj s t)
theorem qE{F:Fr}{J:St}{s t:List Nat}(hs:plainS s=Ib)(ht:plainS t=Ib):x_ F .ne (.str s) (.str t) J (!zR t s):=gT hs ht (Yj s t)
section
variable{b:Bc}{d:Nat}{q:Bool}{J zt:St}
theorem Vn{m n:Nat}{i j:Int}(hm:nh J m i)(hn:nh J n j):Call ⟨b,q,Ig,d+2⟩ (.fn 274) [.ref m,.ref n] J (.ok (.bool (i==j)) J):=by obtain⟨c,fs,h1,h2,h3⟩:=id hm;obtain⟨c',x9,wu,tj,PY⟩:=id hn;apply zG rfl rfl;refine zr (yq (y0 (yk rfl) (zp (zx rfl) zf) (cS hm))) ?_;refine zr (zO (zZ (zx rfl) (y0 (yk rfl) (zp (zx rfl) zf) (cS hn)) (qE rfl rfl)) zj) ?_;exact zT (zK (wb (zZ (zx rfl) zV (u2 rfl rfl)) (zZ (zM (zx rfl) h1 (VE h2 rfl) h3) (zM (zx rfl) wu (VE tj rfl) PY) rg)))
noncomputable def refs(l:List Nat):List V:=l.map V.ref
theorem Vu{l:List Nat}{i:Nat}{n:Nat}(h:l[i]?=Ie n):(refs l)[i]?=Ie (.ref n):=by unfold refs;rewrite[IM];rw[h];rfl
theorem cW{l:List Nat}:(refs l).length=l.length:=IY _
theorem Z9{zi:Type}{xs:List zi}{n r:Nat}{x:zi}{ys:List zi}(h:xs.drop (n-(r+1))=x::ys)(hr:r<n):xs[n-(r+1)]?=Ie x/\xs.drop (n-r)=ys:=by
 obtain h1:xs[n-(r+1)]?=Ie x:=by rewrite[<-Dv];rw[h];rfl
 refine⟨h1,?_⟩;obtain this:n-r=(n-(r+1))+1:=by lia
 rewrite[this];rewrite[<-Dl];rw[h];rfl
noncomputable def ND:S:=.cons (.cond (.call (.zu 85) (.cons (.loc 36) (.cons (.loc 5) .nil))) (.cons (.ret (.bool Ib)) .nil) .nil) .nil
theorem Ky{l n:Nat}{xs:List Nat}{i:Int}(hl:J[l]?=Ie (.list (refs xs)))(hn:nh J n i)(hx:∀m∈xs,∃j,nh J m j/\(j==i)=(m==n)):Call ⟨b,Ig,Ig,d+3⟩ (.fn 368) [.ref l,.ref n] J (.ok (.bool (xs.contains n)) J):=by
 obtain loop:∀(r:Nat)(ys:List Nat)(L:Loc),r<=xs.length->xs.drop (xs.length-r)=ys->ys.length=r->lk 5 L=Ie (.ref n)->∃L',FL ⟨b,Ig,Ig,d+2⟩ [36] (.list l) (refs xs) ND r L J (.ok (if ys.contains n then .ret (.bool Ib)else .next) L' J):=by
  intro r;induction r with
  |zero=>intro ys L _ _ sV _;have:ys=[]:=Gl.mp sV;subst this;exact⟨L,.stop hl⟩
  |succ r ih=>
   intro ys L hr hd sV hL;cases ys with
   |nil=>cases sV
   |cons m ys=>
    obtain⟨h1,h2⟩:=Z9 hd hr;obtain⟨j,hj,e⟩:=hx m (I9 h1);have hs:E ⟨b,Ig,Ig,d+2⟩ (st 36 (.ref m) L) (.call (.zu 85) (.cons (.loc 36) (.cons (.loc 5) .nil))) J (.ok (.bool (m==n)) J):=y0 (fv:=.fn 274) (yk rfl) (zp (zx yw) (zp (zx (zg rfl hL)) zf)) (by rw[<-e];exact Vn hj hn);have p_:(refs xs)[(refs xs).length-(r+1)]?=Ie (.ref m):=by rw[cW];exact Vu h1
    rw[I1];cases q:m==n with|true=>rw[q]at hs;rw[show(n==m)=Ib by rw[Bool.beq_comm];exact q,Bool.true_or];exact⟨_,.ret hl p_ rfl (zT (ya hs (zT (zK sO))))⟩|false=>rw[q]at hs;rw[show(n==m)=Ig by rw[Bool.beq_comm];exact q,Fw];obtain⟨L',px⟩:=ih ys (st 36 (.ref m) L) (by lia) h2 (HI sV) (zg rfl hL);exact⟨L',.turn hl p_ rfl (zr (zO hs zj) zj) px⟩
 obtain⟨L',px⟩:=loop xs.length xs [(167,.ref l),(5,.ref n)] (IV _) (by simp) rfl rfl;rw[<-cW]at px;apply zG rfl rfl;cases q:xs.contains n with|true=>rw[q]at px;exact zT (xY (t:=.list l) rfl (zx rfl) hl rfl px)|false=>rw[q]at px;exact zr (xY (t:=.list l) rfl (zx rfl) hl rfl px) (zT (zK sO))
end
structure yy where
 e:Nat
 b:Option (List Nat)
 o:Nat
 s:List Nat
 n:List Nat
structure Row where
 li:Bool->List Nat
 ms:List (List Nat×yy)
noncomputable abbrev Tb:=Nat->Row
noncomputable def tab{zi:Type}(d:zi)(l:List zi)(i:Nat):zi:=l.getD i d
noncomputable def par:Nat->Option Nat:=tab none [none,none,Ie 0,Ie 2,Ie 3,Ie 2,Ie 5,Ie 5,none,none,Ie 5,Ie 6,Ie 3,Ie 4,Ie 13,Ie 14,Ie 15,Ie 15]
noncomputable def rank:Nat->Nat:=tab 0 [0,0,1,2,3,2,3,3,0,0,3,4,3,4,5,6,7,7]
noncomputable def yn:Nat->Option Nat:=tab none [Ie 13,none,Ie 14,none,none,Ie 15,Ie 16,Ie 17,Ie 12,none,none,none,none,none,none,none,none,none,none,none,Ie 10,Ie 11]
noncomputable def yP:Nat->Option Nat:=tab none [none,none,none,none,none,none,none,none,none,none,Ie 20,Ie 21,Ie 8,Ie 0,Ie 2,Ie 5,Ie 6,Ie 7]
noncomputable def yb(i:Nat):Bool:=!(IP i 1||(IP i 8||IP i 9))
noncomputable def wF:Nat->List Nat:=tab [] [[66,97,115,105,99,79,98,106,101,99,116],[75,101,114,110,101,108],[79,98,106,101,99,116],[77,111,100,117,108,101],[67,108,97,115,115],[65],[66],[67],[77],[78],[],[],[],[66,97,115,105,99,79,98,106,101,99,116,46],[79,98,106,101,99,116,46]]
noncomputable def qb(i:Nat):V:=match yP i with|Ie _=>.none|none=>.str (wF i)
noncomputable def yC(i:Nat):V:=if Hq i 5||(IP i 13||IP i 14)then .str (wF i)else .none
noncomputable def own(T:Tb):Nat->Nat->List Nat|0,m=>[m]|k+1,m=>((T m).li Ib).reverse.flatMap (own T k)++(m::((T m).li Ig).reverse.flatMap (own T k))
noncomputable def here(bh:List Nat)(cnt:Nat):Nat->List Nat->List Nat->List Nat|zo,found,[]=>found|p,found,x::r=>here bh cnt (p+1) (if !found.contains x&&(decide ((p:Int)<cnt)||!bh.contains x)then found++[x]else found) r
noncomputable def xN(T:Tb)(i:Nat):Nat:=(((T i).li Ib).map λx=>(own T 1 x).length).sum
noncomputable def qH(h bh:List Nat):List Nat:=h++bh.filter λx=>!h.contains x
noncomputable def step(T:Tb)(i:Nat)(bh:List Nat):List Nat:=qH (here bh (xN T i) 0 [] (own T 2 i)) bh
noncomputable def d_(T:Tb):Nat->Nat->List Nat|0,i=>step T i []|k+1,i=>step T i (match par i with|Ie p=>d_ T k p|none=>[])
noncomputable def ln(T:Tb)(i:Nat):List Nat:=d_ T (rank i) i
theorem rG{zi:Type}{d:zi}{l:List zi}{i:Nat}(h:l.length<=i):tab d l i=d:=by rewrite[tab];rewrite[HZ];rw[G3 h];rfl
theorem WI{i p:Nat}(h:par i=Ie p):i<18:=HO λq=>by rw[par,rG q]at h;cases h
theorem vA{i p:Nat}(h:par i=Ie p):rank i=rank p+1:=by
 obtain this:∀i<18,∀p,par i=Ie p->rank i=rank p+1:=by
  obtain this:∀i<18,(match par i with|Ie p=>IP (rank i) (rank p+1)|none=>Ib)=Ib:=by decide+kernel
  intro i hi p hp;obtain this:=this i hi;rw[hp]at this;exact IJ this
 exact this i (WI h) p h
theorem nU{T:Tb}{i p:Nat}(h:par i=Ie p):ln T i=step T i (ln T p):=by unfold ln;rw[vA h];show step T i (match par i with|Ie p'=>d_ T (rank p) p'|none=>[])=_;rw[h]
theorem kT{i:Nat}(h:par i=none):rank i=0:=by
 obtain this:∀i<18,par i=none->rank i=0:=by decide+kernel
 by_cases q:i<18;.exact this i q h
 .rewrite[rank];rw[rG (by simpa using q)]
theorem lC{T:Tb}{i:Nat}(h:par i=none):ln T i=step T i []:=by unfold ln;rw[kT h];rfl
noncomputable def yW(k:List Nat):List (List Nat×yy)->Option yy|[]=>none|(a,v)::r=>match zR k a with|Ib=>Ie v|Ig=>yW k r
noncomputable def wq(k:List Nat)(v:yy):List (List Nat×yy)->List (List Nat×yy)|[]=>[(k,v)]|(a,w)::r=>match zR k a with|Ib=>(a,v)::r|Ig=>(a,w)::wq k v r
noncomputable def rZ(k:List Nat):List (List Nat×yy)->List (List Nat×yy)|[]=>[]|(a,w)::r=>match zR k a with|Ib=>r|Ig=>(a,w)::rZ k r
noncomputable def yB(f:yy->V)(ms:List (List Nat×yy)):List (List Nat×V):=ms.map λp=>(p.1,f p.2)
section
variable{f:yy->V}{k:List Nat}{v:yy}
theorem qt:∀{ms:List (List Nat×yy)},zE k (yB f ms)=(yW k ms).map f|[]=>rfl|(a,w)::r=>by show(match zR k a with|Ib=>Ie (f w)|Ig=>zE k (yB f r))=(match zR k a with|Ib=>Ie w|Ig=>yW k r).map f;cases zR k a with|true=>rfl|false=>exact qt
theorem m7:∀{ms:List (List Nat×yy)},dput k (f v) (yB f ms)=yB f (wq k v ms)|[]=>rfl|(a,w)::r=>by show(match zR k a with|Ib=>(a,f v)::yB f r|Ig=>(a,f w)::dput k (f v) (yB f r))=yB f (match zR k a with|Ib=>(a,v)::r|Ig=>(a,w)::wq k v r);cases zR k a with|true=>rfl|false=>exact congrArg ((a,f w)::.) m7
theorem gE:∀{ms:List (List Nat×yy)},sd k (yB f ms)=yB f (rZ k ms)|[]=>rfl|(a,w)::r=>by show(match zR k a with|Ib=>yB f r|Ig=>(a,f w)::sd k (yB f r))=yB f (match zR k a with|Ib=>r|Ig=>(a,w)::rZ k r);cases zR k a with|true=>rfl|false=>exact congrArg ((a,f w)::.) gE
theorem lT:∀{ms:List (List Nat×yy)},yW k ms=Ie v->(k,v)∈ms|(a,w)::r,h=>by have h:(match zR k a with|Ib=>Ie w|Ig=>yW k r)=Ie v:=h;cases q:zR k a with|true=>rw[q]at h;cases h;rw[xd.mp q];exact .head _|false=>rw[q]at h;exact .tail _ (lT h)
theorem jD{p:List Nat×yy}:∀{ms:List (List Nat×yy)},p∈wq k v ms->p∈ms\/p=(k,v)
|[],h=>.inr (I_.mp h)
|(a,w)::r,h=>by
 have h:p∈(match zR k a with|Ib=>(a,v)::r|Ig=>(a,w)::wq k v r):=h;cases q:zR k a with
 |true=>
  rw[q]at h;rcases IU.mp h with e|e;.rw[<-xd.mp q]at e;exact .inr e
  .exact .inl (.tail _ e)
 |false=>
  rw[q]at h;rcases IU.mp h with e|e;.rw[e];exact .inl (.head _)
  .exact(jD e).imp (.tail _) id
theorem OM{a:List Nat}{ms:List (List Nat×yy)}(h:a∈(wq k v ms).map (·.1)):a=k∨a∈ms.map (·.1):=by obtain⟨p,hp,rfl⟩:=HT.mp h;exact(jD hp).elim (fun h=>.inr (HT.mpr ⟨p,h,rfl⟩)) fun h=>.inl (by rw[h])
theorem eM:∀{ms:List (List Nat×yy)},(ms.map (·.1)).Nodup→((wq k v ms).map (·.1)).Nodup
|[],zo=>Hk.mpr ⟨fun h=>(nomatch h),Gn⟩
|(a,w)::r,h=>by
 obtain⟨h1,h2⟩:=Hk.mp h;show(List.map (fun p:List Nat×yy=>p.1) (match zR k a with|Ib=>(a,v)::r|Ig=>(a,w)::wq k v r)).Nodup;cases q:zR k a with
 |true=>exact h
 |false=>
  refine Hk.mpr ⟨fun z=>?_,eM h2⟩;rcases OM z with e|e;·have:k=a:=e.symm;rw[xd.mpr this]at q;cases q
  ·exact h1 e
theorem oG:∀{ms:List (List Nat×yy)},(rZ k ms).Sublist ms|[]=>.slnil|(a,w)::r=>by show(match zR k a with|Ib=>r|Ig=>(a,w)::rZ k r).Sublist _;cases zR k a with|true=>exact .cons _ (List.Sublist.refl _)|false=>exact .cons_cons _ oG
end
theorem dH{zi:Type} [DecidableEq zi]:∀{l k:List zi},l.Nodup->(∀x∈l,x∈k)->l.length<=k.length|[],zo,zY,zF=>HL _|a::l,k,h,hs=>by obtain⟨h1,h2⟩:=Hk.mp h;have:l.length<=(k.erase a).length:=dH h2 λx hx=>(List.mem_erase_of_ne (show x≠a fromλe=>h1 (e▸hx))).mpr (hs x (.tail _ hx));rw[List.length_erase_of_mem (hs a (.head _))]at this;have:=List.length_pos_of_mem (hs a (.head _));show l.length+1<=_;lia
noncomputable def jS:List (List Nat):=[[],[8],[9],[8,9],[9,8]]
noncomputable def vm(c:Bool)(i:Nat):List (List Nat):=if[5,6,7,10,11,12,15,16,17].contains i then jS else if IP i 8 then[[],[9]]else if IP i 2&&!c then[[1]]else[[]]
noncomputable def vZ:List (List Nat):=[[112,117,98,108,105,99],[112,114,105,118,97,116,101],[112,114,111,116,101,99,116,101,100]]
noncomputable def yD:List (List Nat):=[[97],[98],[99]]
structure wK(h:yy):Prop where
 s:h.s∈vZ
 n:h.n∈yD
 b:∀t,h.b=some t->plainS t=true/\short t=true
 o:h.o<18
structure WF(T:Tb):Prop where
 li:∀i c,(T i).li c∈vm c i
 ks:∀i,∀p∈(T i).ms,p.1∈yD∧wK p.2
 nd:∀i,((T i).ms.map (·.1)).Nodup
theorem WF.xt{T:Tb}(w:WF T)(i:Nat):(T i).ms.length<=3:=by
 obtain this:=dH (k:=yD) (w.nd i) λx hx=>by obtain⟨p,hp,rfl⟩:=HT.mp hx;exact(w.ks i p hp).1
 rw[IY]at this;exact this
theorem xG{zi:Type}{l:List zi}(h:l.length<=1000):short l=Ib:=Hz (I8 h (by decide))
theorem WF.short{T:Tb}(w:WF T){f:yy->V}(i:Nat):short (yB f (T i).ms)=Ib:=xG (by obtain this:=w.xt i;rewrite[yB];rw[IY];lia)
structure Dt where
 w:Nat
 kn:Nat
 zC:Int
 ad:Nat->Nat
 da:Nat->Nat
 la:Bool->Nat->Nat
 on:Nat->Bool
 nu:Nat->Int
 T:Tb
noncomputable def rf(ad:Nat->Nat)(l:List Nat):List V:=refs (l.map ad)
noncomputable def Dt.opt(D:Dt)(o:Option Nat):V:=match o with|Ie j=>if D.on j then .ref (D.ad j)else .none|none=>.none
noncomputable def mf(a1 a2 a3 mx ah:Nat)(nu C own xl:V)(ic:Bool)(pa at_ nat kp:V):Loc:=[(17,nu),(18,C),(114,.ref a1),(24,own),(106,.bool Ig),(104,.none),(0,xl),(21,.bool ic),(11,pa),(42,.none),(19,.ref a2),(174,.ref a3),(80,.ref mx),(94,.ref ah),(41,at_),(34,nat),(61,kp)]
noncomputable def Dt.wV(D:Dt)(i a1 a3:Nat)(kp:V):Loc:=mf a1 (D.da i) a3 (D.la Ig i) (D.la Ib i) (.int (D.nu i)) (.ref (D.ad (if yb i then 4 else 3))) (D.opt (yn i)) (qb i) (yb i) (D.opt (par i)) (D.opt (yP i)) (yC i) kp
noncomputable def Dt.tV(D:Dt)(i a:Nat):Loc:=[(17,.int (D.nu i)),(18,.ref (D.ad (i-15))),(114,.ref a),(24,D.opt (yn i)),(106,.bool Ig),(104,.none)]
noncomputable def wf(w:Nat)(num zC:Int)(main:V):Loc:=[(107,.ref (w-2)),(98,.ref (w-1)),(110,.none),(120,.int 1000000),(162,.int 0),(128,.int num),(179,.int 8),(184,.ref (w+1)),(76,.ref (w+2)),(99,.int zC),(183,.int 0),(170,.ref (w+3)),(156,.ref (w+4)),(124,.bool Ib),(157,main)]
noncomputable def Dt.w_(D:Dt)(h:yy):Loc:=[(0,.str h.n),(18,.ref (D.ad h.o)),(35,.str (match h.b with|Ie _=>[114,101,97,100,101,114]|none=>[110,111,110,101])),(89,.none),(63,match h.b with|Ie t=>.str t|none=>.none),(14,.str h.s),(115,.tup []),(111,.none)]
noncomputable def ti(h:yy):V:=.ref h.e
noncomputable def ur(D:Dt):List (List Nat×V):=[([79,98,106,101,99,116],.ref (D.ad 2)),([67,108,97,115,115],.ref (D.ad 4)),([75,101,114,110,101,108],.ref (D.ad 1)),([65],.ref (D.ad 5)),([66],.ref (D.ad 6)),([77],.ref (D.ad 8)),([78],.ref (D.ad 9)),([97],.ref (D.ad 20)),([99],.ref (D.ad 21))]++(match D.on 7 with|Ib=>[([67],.ref (D.ad 7))]|Ig=>[])
noncomputable def tu:List (List Nat):=[[83,116,114,105,110,103],[67,111,109,112,97,114,97,98,108,101],[69,120,99,101,112,116,105,111,110],[83,116,97,110,100,97,114,100,69,114,114,111,114],[65,114,103,117,109,101,110,116,69,114,114,111,114],[78,97,109,101,69,114,114,111,114],[84,121,112,101,69,114,114,111,114]]
noncomputable def xX(J:St)(n:Nat)(s:List Nat):Prop:=∃fs,J[n]?=Ie (.inst 228 fs)/\C3 (lk 0 fs=Ie (.str s)) (lk 41 fs=Ie .none) (lk 42 fs=Ie .none)
structure r4(J:St)(D:Dt)(md:List (List Nat×V)):Prop where
 j:∀j,j<5→zE (wF j) md=some (.ref (D.ad j))
 e:∀s∈tu,∀v,zE s md=some v→∃n,v=.ref n∧xX J n s
 nd:(md.map (·.1)).Nodup
 ks:∀k∈md.map (·.1),k∈tu∨∃j,j<5∧k=wF j
structure v3(D:Dt):Prop where
 inj:∀i j,D.on i=true->D.on j=true->D.nu i=D.nu j->i=j
 lo:∀i,D.on i=true->C3 (D.w+5<=D.ad i) (D.w+5<=D.da i) (∀c,D.w+5<=D.la c i)
 w2:4<=D.w
 kn:D.w+5<=D.kn
 di:∀i j,D.on i=true->D.on j=true->i<18->j<18->D.da i=D.da j->i=j
 dk:∀i,D.on i=true->i<18->D.da i≠D.kn
 li:∀i j c e,D.on i=true->D.on j=true->i<18->j<18->D.la c i=D.la e j->i=j/\c=e
 pm:∀i p,D.on i=true->par i=some p->D.on p=true
 om:∀i,i<10->i≠7->D.on i=true
 tm:D.on 20=true/\D.on 21=true
 bd:∀i,D.on i=true->i<18\/i=20\/i=21
 un:∀i,D.on i=false->(∀c,(D.T i).li c=if Nat.beq i 2&&!c then[1]else[])/\(D.T i).ms=[]
 a7:D.on 17=true->D.on 7=true
 wf:WF D.T
section
variable(J:St)(D:Dt)
noncomputable def me(i:Nat)(kp:V):Prop:=kp=.none\/X2 λv l=>C3 (kp=.tup [.int v,.ref l]) (v<=D.zC) (v=D.zC->D.w<=l/\J[l]?=Ie (.list (rf D.ad (ln D.T i))))
structure RI:Prop where
 wo:X2 λnum main=>J[D.w]?=some (.inst 899 (wf D.w num D.zC main))/\∀i,D.on i=true->D.nu i<=num
 md:∃md,J[D.w+2]?=some (.dict md)/\r4 J D md
 c0:J[0]?=some (.uy oW)
 c1:J[1]?=some (.uy nR)
 n0:J[D.w-2]?=some (.dict [])
 n1:J[D.w-1]?=some (.dict [])
 kn:J[D.kn]?=some (.dict (ur D))
 oo:∀i,D.on i=true->i<18->X3 λkp a1 a3=>J[D.ad i]?=some (.inst 228 (D.wV i a1 a3 kp))/\me J D i kp
 mm:∀i,D.on i=true->i<18->J[D.da i]?=some (.dict (yB ti (D.T i).ms))
 ee:∀i,D.on i=true->i<18->∀p∈(D.T i).ms,J[p.2.e]?=some (.inst 256 (D.w_ p.2))/\D.on p.2.o=true
 ll:∀i c,D.on i=true->i<18->J[D.la c i]?=some (.list (rf D.ad ((D.T i).li c)))
 th:∀i,D.on i=true->18<=i->∃a,J[D.ad i]?=some (.inst 40 (D.tV i a))
 s:v3 D
end
noncomputable def Kp(J zy:St):Prop:=J.length<=zy.length/\∀(r:Nat)(o:O),J[r]?=Ie o->zy[r]?=Ie o\/X2 λfs x9=>C3 (o=O.inst 228 fs) (zy[r]?=Ie (O.inst 228 x9)) (∀x,IP x 61=Ig->lk x x9=lk x fs)
noncomputable def Bt(rs:List Nat)(J zy:St):Prop:=J.length<=zy.length/\∀(r:Nat)(o:O),J[r]?=Ie o->r∉rs->zy[r]?=Ie o
section
variable{J zt zy:St}{D:Dt}{i:Nat}{rs:List Nat}
theorem Kp.of(g:Gr J zy):Kp J zy:=⟨g.1,λzz zz h=>.inl (g.get h)⟩
theorem Kp.re:Kp J J:=.of .rfl
theorem Kp.tr(a:Kp J zt)(b:Kp zt zy):Kp J zy:=⟨I8 a.1 b.1,λr o h=>by
rcases a.2 r o h with e|⟨fs,x9,rfl,e,q⟩;.exact b.2 r o e
.refine .inr ?_;rcases b.2 r _ e with e'|⟨f1,f2,z,e',q'⟩;.exact⟨fs,x9,rfl,e',q⟩
 .cases z;exact⟨fs,f2,rfl,e',λx hx=>(q' x hx).trans (q x hx)⟩⟩
noncomputable def pK:O->Bool|.inst c zo=>!IP c 228|_=>Ib
theorem Kp.get(a:Kp J zy){r:Nat}{o:O}(h:J[r]?=Ie o)(ho:pK o=Ib:=by rfl):zy[r]?=Ie o:=(a.2 r o h).elim id λ⟨fs,zo,e,zY,zF⟩=>by rw[e]at ho;cases ho
theorem Bt.of(g:Gr J zy):Bt rs J zy:=⟨g.1,λzz zz h zz=>g.get h⟩
theorem Bt.re:Bt rs J J:=.of .rfl
theorem Bt.tr(a:Bt rs J zt)(b:Bt rs zt zy):Bt rs J zy:=⟨I8 a.1 b.1,λr o h n=>b.2 r o (a.2 r o h n) n⟩
theorem Bt.set{r:Nat}(o:O)(h:r∈rs\/J.length<=r)(a:Bt rs J zy):Bt rs J (zy.set r o):=⟨by rw[HS];exact a.1,λk p e n=>by
rw[H2 λz=>?_]at⊢;.exact a.2 k p e n
.subst z;exact h.elim n λh=>absurd (xr e) (Fg.mpr h)⟩
theorem get_set{r:Nat}{o p:O}(h:J[r]?=Ie p):(J.set r o)[r]?=Ie o:=HX (xr h)
theorem zJ{r k:Nat}{o p:O}(h:J[k]?=Ie p)(n:r≠k):(J.set r o)[k]?=Ie p:=by rw[H2 n];exact h
theorem uk{ad:Nat->Nat}{l:List Nat}:(rf ad l).length=l.length:=by rewrite[rf];rewrite[cW];rw[IY]
theorem iF{ad:Nat->Nat}{l:List Nat}{i n:Nat}(h:l[i]?=Ie n):(rf ad l)[i]?=Ie (.ref (ad n)):=Vu (by rewrite[IM];rw[h];rfl)
theorem qV{ad:Nat->Nat}{l k:List Nat}:rf ad (l++k)=rf ad l++rf ad k:=by unfold rf refs;rewrite[HH];rw[HH]
theorem Vq{ad:Nat->Nat}{l:List Nat}:(rf ad l).reverse=rf ad l.reverse:=by unfold rf refs;rewrite[G1];rw[G1]
theorem sD{ad:Nat->Nat}{l:List Nat}(h:l.length<=1000):short (rf ad l)=Ib:=xG (by rw[uk];exact h)
theorem xX.kp{n:Nat}{s:List Nat}(k:Kp J zy)(h:xX J n s):xX zy n s:=by
 obtain⟨fs,h1,h2,h3,h4⟩:=h;rcases k.2 n _ h1 with e|⟨f,f',e,e',q⟩;.exact⟨fs,e,h2,h3,h4⟩
 .cases e;exact⟨f',e',(q _ rfl).trans h2,(q _ rfl).trans h3,(q _ rfl).trans h4⟩
theorem r4.to{md:List (List Nat×V)}(k:∀n s,xX J n s->xX zy n s)(h:r4 J D md):r4 zy D md:=⟨h.j,λs hs v hv=>let⟨n,e,m⟩:=h.e s hs v hv;⟨n,e,k n s m⟩,h.nd,h.ks⟩
theorem RI.iY(R:RI J D){i j:Nat}(hi:D.on i=Ib)(hj:D.on j=Ib)(n:i≠j):D.ad i≠D.ad j:=λe=>by
 have hn:∀i,D.on i=Ib->X2 λc fs=>J[D.ad i]?=Ie (.inst c fs)/\lk 17 fs=Ie (.int (D.nu i)):=λi hi=>by
  by_cases h:i<18;.obtain⟨kp,a1,a3,h1,_⟩:=R.oo i hi h;exact⟨_,_,h1,rfl⟩
  .obtain⟨a,h1⟩:=R.th i hi (He h);exact⟨_,_,h1,rfl⟩
 obtain⟨c,fs,h1,h2⟩:=hn i hi;obtain⟨c',x9,wu,tj⟩:=hn j hj;rw[e,wu]at h1;cases h1;replace tj:=h2.symm.trans tj;injection tj with q;injection q with q;exact n (R.s.inj i j hi hj q)
end
noncomputable def MK:O->Bool|.inst c zo=>!(IP c 228||IP c 899)|_=>Ib
section
variable{J zt zy:St}{D:Dt}{i:Nat}
theorem RI.iX(R:RI J D){r:Nat}{o:O}(h:J[r]?=Ie o)(ho:IP o.ctorIdx 1=Ig:=by rfl):r≠D.w+2:=λe=>by obtain⟨md,h1,_⟩:=R.md;rw[e,h1]at h;cases h;cases ho
theorem RI.same(R:RI J D)(k:∀r o,J[r]?=Ie o->r≠D.w+2->MK o=Ib->zy[r]?=Ie o)(wo:X2 λnum main=>zy[D.w]?=Ie (.inst 899 (wf D.w num D.zC main))/\∀i,D.on i=Ib->D.nu i<=num)(md:∃md,zy[D.w+2]?=Ie (.dict md)/\r4 zy D md)(oo:∀i,D.on i=Ib->i<18->X3 λkp a1 a3=>zy[D.ad i]?=Ie (.inst 228 (D.wV i a1 a3 kp))/\me J D i kp):RI zy D:=by
 obtain w2:=R.s.w2;refine⟨wo,md,k _ _ R.c0 (by lia) rfl,k _ _ R.c1 (by lia) rfl,k _ _ R.n0 (by lia) rfl,k _ _ R.n1 (by lia) rfl,k _ _ R.kn (by obtain this:=R.s.kn;lia) rfl,λi hi h=>?_,λi hi h=>k _ _ (R.mm i hi h) (by obtain this:=(R.s.lo i hi).2;lia) rfl,λi hi h p hp=>?_,λi c hi h=>k _ _ (R.ll i c hi h) (by obtain this:=(R.s.lo i hi).3 c;lia) rfl,λi hi h=>?_,R.s⟩;.obtain⟨kp,a1,a3,h1,h2⟩:=oo i hi h;exact⟨kp,a1,a3,h1,h2.imp id λ⟨v,l,e1,e2,e3⟩=>⟨v,l,e1,e2,λq=>⟨(e3 q).1,k _ _ (e3 q).2 (R.iX (e3 q).2) rfl⟩⟩⟩
 .obtain⟨h1,h2⟩:=R.ee i hi h p hp;exact⟨k _ _ h1 (R.iX h1) rfl,h2⟩
 .obtain⟨a,h1⟩:=R.th i hi h;exact⟨a,k _ _ h1 (R.iX h1) rfl⟩
theorem RI.gr(R:RI J D)(g:Gr J zy):RI zy D:=R.same (λzz zz h zz zz=>g.get h) (let⟨n,m,h,l⟩:=R.wo;⟨n,m,g.get h,l⟩) (let⟨md,h,e⟩:=R.md;⟨md,g.get h,e.to λzz zz=>xX.kp (.of g)⟩) λi hi h=>let⟨kp,a1,a3,h1,h2⟩:=R.oo i hi h;⟨kp,a1,a3,g.get h1,h2⟩
theorem RI.kept(R:RI J D){l a1 a3:Nat}{kp:V}(hi:D.on i=Ib)(hm:i<18)(h:J[D.ad i]?=Ie (.inst 228 (D.wV i a1 a3 kp)))(hl:J[l]?=Ie (.list (rf D.ad (ln D.T i))))(pb:D.w<=l):RI (J.set (D.ad i) (.inst 228 (D.wV i a1 a3 (.tup [.int D.zC,.ref l])))) D/\Kp J (J.set (D.ad i) (.inst 228 (D.wV i a1 a3 (.tup [.int D.zC,.ref l])))):=by
 have rS:Kp J (J.set (D.ad i) (.inst 228 (D.wV i a1 a3 (.tup [.int D.zC,.ref l])))):=by
  refine⟨by rw[HS];exact IV _,λr o hr=>?_⟩;by_cases q:D.ad i=r;.subst q;replace hr:=yZ h hr;cases hr;refine .inr ⟨_,_,rfl,HX (xr h),λx hx=>?_⟩;unfold Dt.wV mf;simp only[lk,hx]
  .exact .inl (zJ hr q)
 refine⟨R.same (λr o hr zz ho=>(rS.2 r o hr).elim id λ⟨zo,zY,e,zF,yX⟩=>by rw[e]at ho;cases ho) (let⟨n,m,h,l⟩:=R.wo;⟨n,m,rS.get h,l⟩) (let⟨md,h,e⟩:=R.md;⟨md,rS.get h,e.to λzz zz=>xX.kp rS⟩) λj hj vS=>?_,rS⟩;by_cases q:i=j;.subst q;exact⟨_,a1,a3,get_set h,.inr ⟨_,l,rfl,Int.le_refl _,λzz=>⟨pb,hl⟩⟩⟩
 .obtain⟨kp,b1,b3,h1,h2⟩:=R.oo j hj vS;exact⟨kp,b1,b3,zJ h1 (R.iY hi hj q),h2⟩
theorem RI.kN(R:RI J D)(hi:D.on i=Ib):nh J (D.ad i) (D.nu i):=by
 by_cases h:i<18;.obtain⟨kp,a1,a3,h1,_⟩:=R.oo i hi h;exact⟨_,_,h1,.inl rfl,rfl⟩
 .obtain⟨a,h1⟩:=R.th i hi (He h);exact⟨_,_,h1,.inr rfl,rfl⟩
theorem RI.beq(R:RI J D){i j:Nat}(hi:D.on i=Ib)(hj:D.on j=Ib):(D.nu i==D.nu j)=(i==j)/\(D.ad i==D.ad j)=(i==j):=by
 by_cases h:i=j;.subst h;exact⟨by rewrite[beq_self_eq_true];rw[beq_self_eq_true],by rewrite[beq_self_eq_true];rw[beq_self_eq_true]⟩
 .exact⟨(beq_false_of_ne λe=>h (R.s.inj i j hi hj e)).trans (beq_false_of_ne h).symm,(beq_false_of_ne (R.iY hi hj h)).trans (beq_false_of_ne h).symm⟩
theorem RI.a_(R:RI J D)(hi:D.on i=Ib):∀{xs:List Nat},(∀x∈xs,D.on x=Ib)->(xs.map D.ad).contains (D.ad i)=xs.contains i|[],zo=>rfl|x::xs,h=>by rewrite[Hy];rewrite[I1];rewrite[I1];rewrite[(R.beq hi (h x (.head _))).2];rw[R.a_ hi λy hy=>h y (.tail _ hy)]
structure Ask(D:Dt)(J zy:St):Prop where
 r:RI zy D
 k:Kp J zy
theorem Ask.of(R:RI J D)(g:Gr J zy):Ask D J zy:=⟨R.gr g,.of g⟩
theorem Ask.tr(a:Ask D J zt)(b:Ask D zt zy):Ask D J zy:=⟨b.r,a.k.tr b.k⟩
theorem Ask.push(a:Ask D J zy)(o:O):Ask D J (zy++[o]):=a.tr (.of a.r (Gr.push o))
end
section
variable{T:Tb}
theorem WW(c:Bool)(i:Nat):∀l∈vm c i,l∈[1]::jS:=by
 unfold vm;split;.exactλzz h=>.tail _ h
 .split;.exactλl h=>by revert l;decide
  .split<;>exactλl h=>by revert l;decide
theorem WF.pz(w:WF T){i x:Nat}{c:Bool}(h:x∈(T i).li c):x=1\/x=8\/x=9:=by
 obtain this:∀l∈[1]::jS,∀x∈l,x=1\/x=8\/x=9:=by decide
 exact this _ (WW c i _ (w.li i c)) x h
theorem WF.two(w:WF T)(i:Nat)(c:Bool):((T i).li c).length<=2:=by
 obtain this:∀l∈[1]::jS,l.length<=2:=by decide
 exact this _ (WW c i _ (w.li i c))
noncomputable def Dp(T:Tb):Nat->Nat->Prop|0,m=>∀c,(T m).li c=[]|k+1,m=>∀c,∀x∈(T m).li c,Dp T k x
theorem WF.jZ(w:WF T){x:Nat}(h:x=1\/x=9):Dp T 0 x:=λc=>by obtain this:=w.li x c;rcases h with rfl|rfl<;>cases c<;>exact I_.mp this
theorem WF.ZC(w:WF T){x:Nat}(h:x=1\/x=8\/x=9):Dp T 1 x:=λc y hy=>by
 by_cases q:x=8
 .subst q;obtain this:∀c,∀l∈vm c 8,∀y∈l,y=9:=by decide+kernel
  exact w.jZ (.inr (this c _ (w.li 8 c) y hy))
 .rw[w.jZ (x:=x) (h.elim .inl λh=>h.elim (λh=>absurd h q) .inr) c]at hy;exact nomatch hy
theorem WF.ZA(w:WF T)(i:Nat):Dp T 2 i:=λzz zz h=>w.ZC (w.pz h)
noncomputable def kr:Nat->Nat|0=>1|k+1=>1+4*kr k
theorem fQ{f:Nat->List Nat}{c:Nat}(h:∀x,(f x).length<=c):∀l:List Nat,(l.flatMap f).length<=l.length*c|[]=>HL _|x::l=>by rewrite[FG];rewrite[IZ];rewrite[HV];rewrite[Nat.add_mul];rw[Nat.one_mul];have:=fQ h l;have:=h x;lia
theorem WF.len(w:WF T):∀(k i:Nat),(own T k i).length<=kr k|0,zo=>IV _|k+1,i=>by have h1:=fQ (w.len k) ((T i).li Ib).reverse;have h2:=fQ (w.len k) ((T i).li Ig).reverse;have h3:=EZ (kr k) (w.two i Ib);have h4:=EZ (kr k) (w.two i Ig);rw[HN]at h1 h2;rewrite[own];rewrite[IZ];rewrite[HV];rw[kr];lia
theorem WF.yA(w:WF T):∀(k i:Nat),k<=2->(own T k i).length<=21|0,i,zo=>I8 (w.len 0 i) (by decide)|1,i,zo=>I8 (w.len 1 i) (by decide)|2,i,zo=>w.len 2 i
theorem RI.mem(R:RI J D){i x:Nat}{c:Bool}(h:x∈(D.T i).li c):D.on x=Ib/\x<18:=by rcases R.s.wf.pz h with rfl|rfl|rfl<;>exact⟨R.s.om _ (by decide) (by decide),by decide⟩
theorem RI.kg(R:RI J D):∀(k:Nat){i:Nat},D.on i=Ib->i<18->∀x∈own D.T k i,D.on x=Ib/\x<18
|0,i,h,hm,x,hx=>by rw[I_.mp hx];exact⟨h,hm⟩
|k+1,i,h,hm,x,hx=>by
 have go:∀c,x∈((D.T i).li c).reverse.flatMap (own D.T k)->D.on x=Ib/\x<18:=λc hx=>by obtain⟨y,h1,h2⟩:=E2.mp hx;obtain⟨a,b⟩:=R.mem (H_.mp h1);exact R.kg k a b x h2
 rcases HQ.mp hx with hx|hx;.exact go Ib hx
 .rcases IU.mp hx with e|hx;.rw[e];exact⟨h,hm⟩
  .exact go Ig hx
end
theorem pQ{F:Fr}{J:St}{n:Nat}{xs zs:List V}{v:V}(z6:F.s=Ig)(hn:J[n]?=Ie (.list xs))(hs:short xs=Ib)(e:xs++[v]=zs):Call F (.bi .nY) [.ref n,v] J (.ok .none (J.set n (.list zs))):=e▸pP z6 hn hs
theorem VZ{F:Fr}{J:St}{n:Nat}{xs zs:List V}{t:Dj}(hn:J[n]?=Ie (.list xs))(hs:short xs=Ib)(e:xs.reverse=zs):u6 F (.ref n) .none .none (.int (-1) t) J (.ref J.length) (J++[.list zs]):=e▸i6 hn hs
noncomputable def XE:S:=.cons (.expr (.zl (.loc 4) 88 (.cons (.call (.zu 82) (.cons (.loc 5) .nil)) .nil))) .nil
theorem Ye{b:Bc}{ad:Nat->Nat}{e f s:Nat}{yt:St}{zs:List Nat}{G:Nat->List Nat}(IH:∀x∈zs,∀J,Gr yt J->X2 λl zy=>C4 (Call ⟨b,Ig,Ig,e⟩ (.fn 375) [.ref (ad x)] J (.ok (.ref l) zy)) (Gr J zy) (J.length<=l) (zy[l]?=Ie (.list (rf ad (G x)))))(hf:yt.length<=f)(hs:s≠f):∀(r:Nat)(ys acc:List Nat)(L:Loc)(J:St),r<=zs.length->zs.drop (zs.length-r)=ys->ys.length=r->Gr yt J->J[f]?=Ie (.list (rf ad acc))->J[s]?=Ie (.list (rf ad zs))->lk 4 L=Ie (.ref f)->(acc++ys.flatMap G).length<=1000->X2 λL' zy=>C5 (FL ⟨b,Ig,Ig,e⟩ [5] (.list s) (rf ad zs) XE r L J (.ok .next L' zy)) (Gr yt zy) (zy[f]?=Ie (.list (rf ad (acc++ys.flatMap G)))) (lk 4 L'=Ie (.ref f)) (lk 2 L'=lk 2 L):=by
 intro r;induction r with
 |zero=>intro ys acc L J _ _ hl g jI jC hL _;obtain this:ys=[]:=Gl.mp hl;subst this;exact⟨L,J,.stop jC,g,by rewrite[List.flatMap_nil];rw[Hf];exact jI,hL,rfl⟩
 |succ r ih=>
  intro ys acc L J hr hd hl g jI jC hL hB;cases ys with
  |nil=>cases hl
  |cons x ys=>
   obtain⟨h1,h2⟩:=Z9 hd hr;obtain⟨l,zt,c1,c2,c3,c4⟩:=IH x (I9 h1) J g;obtain qi:=c2.get jI;have YG:(acc++G x++ys.flatMap G).length<=1000:=by rw[I3];exact hB
   obtain o9:short (rf ad acc++rf ad (G x))=Ib:=by rw[<-qV];exact sD (I8 (by rw[IZ (as:=acc++G x)];exact HE _ _) YG)
   obtain p_:(rf ad zs)[(rf ad zs).length-(r+1)]?=Ie (.ref (ad x)):=by rw[uk];exact iF h1
   obtain hb:XB ⟨b,Ig,Ig,e⟩ (st 5 (.ref (ad x)) L) XE J (.ok .next (st 5 (.ref (ad x)) L) (zt.set f (.list (rf ad acc++rf ad (G x))))):=zr (yF (yj (zx (zg rfl hL)) (RB jI) (zp (y0 (fv:=.fn 375) (yk rfl) (zp (zx yw) zf) c1) zf) (My rfl qi c4 o9))) zj;obtain rY:(zt.set f (.list (rf ad acc++rf ad (G x))))[f]?=Ie (.list (rf ad (acc++G x))):=by rewrite[HX (xr qi)];rw[qV]
   obtain OI:(zt.set f (.list (rf ad acc++rf ad (G x))))[s]?=Ie (.list (rf ad zs)):=by rw[H2 (H0 hs)];exact c2.get jC
   obtain⟨L',zy,k1,k2,k3,k4,k5⟩:=ih ys (acc++G x) (st 5 (.ref (ad x)) L) (zt.set f (.list (rf ad acc++rf ad (G x)))) (by lia) h2 (HI hl) ((g.tr c2).set hf) rY OI (zg rfl hL) YG;refine⟨L',zy,.turn jC p_ rfl hb k1,k2,?_,k4,k5.trans (zg rfl rfl)⟩;rewrite[k3];rw[I3];rfl
theorem c_{b:Bc}{D:Dt}(d:Nat):∀(k i:Nat)(J:St),k<=2->D.on i=Ib->i<18->Dp D.T k i->RI J D->X2 λl zy=>C4 (Call ⟨b,Ig,Ig,d+(k+1)⟩ (.fn 375) [.ref (D.ad i)] J (.ok (.ref l) zy)) (Gr J zy) (J.length<=l) (zy[l]?=Ie (.list (rf D.ad (own D.T k i)))):=by
 intro k;induction k with
 |zero=>
  intro i J _ hi ht dp R;obtain⟨kp,a1,a3,h1,_⟩:=R.oo i hi ht;have h5:=R.ll i Ig hi ht;obtain h4:=R.ll i Ib hi ht;rw[dp]at h4;rw[dp]at h5;obtain g1:Gr J (J++[O.list []]):=Gr.push _;obtain fJ:=g1.get h4;obtain g2:Gr J ((J++[O.list []])++[O.list []]):=g1.tr (Gr.push _);obtain hf:((J++[O.list []])++[O.list []])[J.length]?=Ie (.list []):=(Gr.push _).get z7;obtain g3:Gr J (((J++[O.list []])++[O.list []]).set J.length (O.list [V.ref (D.ad i)])):=g2.set (IV _);obtain fH:=g3.get h5;refine⟨J.length,(((J++[O.list []])++[O.list []]).set J.length (O.list [V.ref (D.ad i)]))++[O.list []],?_,g3.tr (Gr.push _),IV _,?_⟩;.apply zG rfl rfl;refine zr (yq (y' zf rfl)) ?_;refine zr (xY (t:=.list _) rfl (lz (zM (zx rfl) (g1.get h1) rfl rfl) λzz=>i6 fJ rfl) z7 rfl (.stop z7)) ?_;refine zr (yF (yj (zx rfl) (ua hf) (zp (zx rfl) zf) (by exact pP rfl hf rfl))) ?_;refine zr (xY (t:=.list _) rfl (lz (zM (zx rfl) (g3.get h1) rfl rfl) λzz=>i6 fH rfl) z7 rfl (.stop z7)) ?_;exact zT (zK (zx rfl))
  .refine(Gr.push _).get ?_;rw[HX (xr hf)];rfl
 |succ k ih=>
  intro i J hk hi ht dp R;obtain⟨kp,a1,a3,h1,_⟩:=R.oo i hi ht;obtain h5:=R.ll i Ig hi ht;obtain h4:=R.ll i Ib hi ht;have IH:∀c,∀x∈(D.T i).li c,∀zy,Gr J zy->X2 λl zb=>C4 (Call ⟨b,Ig,Ig,d+(k+1)⟩ (.fn 375) [.ref (D.ad x)] zy (.ok (.ref l) zb)) (Gr zy zb) (zy.length<=l) (zb[l]?=Ie (.list (rf D.ad (own D.T k x)))):=λc x hx zy g=>ih x zy (by lia) (R.mem hx).1 (R.mem hx).2 (dp c x hx) (R.gr g);have hb:=R.s.wf.yA (k+1) i hk;rw[own,IZ,HV]at hb;obtain g1:Gr J (J++[O.list []]):=Gr.push _;obtain fJ:=g1.get h4;obtain g2:Gr J ((J++[O.list []])++[O.list (rf D.ad ((D.T i).li Ib).reverse)]):=g1.tr (Gr.push _);obtain hf:((J++[O.list []])++[O.list (rf D.ad ((D.T i).li Ib).reverse)])[J.length]?=Ie (.list (rf D.ad [])):=(Gr.push _).get z7;obtain⟨zN,zt,k1,k2,k3,k4,k5⟩:=Ye (s:=(J++[O.list []]).length) (λx hx=>IH Ib x (H_.mp hx)) (IV J.length) (by rw[IZ];exact E4 _) ((D.T i).li Ib).reverse.length ((D.T i).li Ib).reverse [] [(2,.ref (D.ad i)),(4,.ref J.length)] _ (IV _) (by rw[H4];rfl) rfl g2 hf z7 rfl (by rw[GK];lia);rw[GK]at k3;obtain km:lk 2 zN=Ie (.ref (D.ad i)):=k5.trans rfl;obtain sf:short (rf D.ad (((D.T i).li Ib).reverse.flatMap (own D.T k)))=Ib:=sD (by lia);obtain e3:rf D.ad (((D.T i).li Ib).reverse.flatMap (own D.T k))++[.ref (D.ad i)]=rf D.ad (((D.T i).li Ib).reverse.flatMap (own D.T k)++[i]):=(qV (k:=[i])).symm;obtain g3:Gr J (zt.set J.length (.list (rf D.ad (((D.T i).li Ib).reverse.flatMap (own D.T k)++[i])))):=k2.set (IV _);obtain Ov:(zt.set J.length (.list (rf D.ad (((D.T i).li Ib).reverse.flatMap (own D.T k)++[i]))))[J.length]?=Ie (.list (rf D.ad (((D.T i).li Ib).reverse.flatMap (own D.T k)++[i]))):=HX (xr k3);obtain fH:=g3.get h5;obtain g4:=g3.tr (Gr.push (.list (rf D.ad ((D.T i).li Ig).reverse)));obtain⟨ye,zb,j1,j2,j3,j4,j5⟩:=Ye (s:=(zt.set J.length (.list (rf D.ad (((D.T i).li Ib).reverse.flatMap (own D.T k)++[i])))).length) (λx hx=>IH Ig x (H_.mp hx)) (IV J.length) (by rw[HS];exact H0 (Ha (xr k3))) ((D.T i).li Ig).reverse.length ((D.T i).li Ig).reverse (((D.T i).li Ib).reverse.flatMap (own D.T k)++[i]) zN _ (IV _) (by rw[H4];rfl) rfl g4 ((Gr.push _).get Ov) z7 k4 (by rewrite[IZ];rewrite[IZ];rw[Ht];lia);refine⟨J.length,zb,?_,j2,IV _,?_⟩;.apply zG rfl rfl;refine zr (yq (y' zf rfl)) ?_;refine zr (xY (t:=.list _) rfl (lz (zM (zx rfl) (g1.get h1) rfl rfl) λzz=>VZ fJ (sD (by obtain this:=R.s.wf.two i Ib;lia)) Vq) z7 rfl (by rw[uk];exact k1)) ?_;refine zr (yF (yj (zx k4) (ua k3) (zp (zx km) zf) (by exact pQ rfl k3 sf e3))) ?_;refine zr (xY (t:=.list _) rfl (lz (zM (zx km) (g3.get h1) rfl rfl) λzz=>VZ fH (sD (by obtain this:=R.s.wf.two i Ig;lia)) Vq) z7 rfl (by rw[uk];exact j1)) ?_;exact zT (zK (zx j4))
  .rewrite[j3];rewrite[own];rw[I3];rfl
theorem drop_cons{zi:Type}{zs ys:List zi}{p:Nat}{z:zi}(h:zs.drop p=z::ys):C3 (zs[p]?=Ie z) (zs.drop (p+1)=ys) (p<zs.length):=by
 obtain h1:zs[p]?=Ie z:=by rewrite[<-Dv];rw[h];rfl
 exact⟨h1,by rewrite[<-Dl];rw[h];rfl,(IF.mp h1).1⟩
theorem FL.go{zi:Type}{F:Fr}{xs:List Nat}{t:IT}{l:List V}{b:S}{zs:List zi}{g:Nat->zi->V}(hlen:l.length=zs.length)(hg:∀(p:Nat)(z:zi),zs[p]?=Ie z->l[p]?=Ie (g p z)){P:Nat->List zi->Loc->St->Prop}{Q:V->St->Prop}(hl:∀p ys L J,P p ys L J->t.is l J)(hs:∀p z ys L J,zs[p]?=Ie z->zs.drop (p+1)=ys->P p (z::ys) L J->X3 λzN ye zt=>vK xs (g p z) L=Ie zN/\(XB F zN b J (.ok .next ye zt)/\P (p+1) ys ye zt\/∃v,XB F zN b J (.ok (.ret v) ye zt)/\Q v zt)):∀(r p:Nat)(ys:List zi)(L:Loc)(J:St),r+p=zs.length->zs.drop p=ys->P p ys L J->X2 λL' zy=>FL F xs t l b r L J (.ok .next L' zy)/\P zs.length [] L' zy\/∃v,FL F xs t l b r L J (.ok (.ret v) L' zy)/\Q v zy:=by
 intro r;induction r with
 |zero=>
  intro p ys L J e hd hP;have:p=zs.length:=by lia
  subst this;replace hd:=E1.symm.trans hd;subst hd;exact⟨L,J,.inl ⟨.stop (hl _ _ _ _ hP),hP⟩⟩
 |succ r ih=>
  intro p ys L J e hd hP;cases ys with
  |nil=>have:=congrArg GH hd;rw[G',Gy]at this;lia
  |cons z ys=>
   obtain⟨h1,h2,_⟩:=drop_cons hd;have hx:l[l.length-(r+1)]?=Ie (g p z):=by rw[show l.length-(r+1)=p by lia];exact hg p z h1
   obtain⟨zN,ye,zt,hb,q⟩:=hs p z ys L J h1 h2 hP;rcases q with⟨k,q⟩|⟨v,k,q⟩;.obtain⟨L',zy,z⟩:=ih (p+1) ys ye zt (by lia) h2 q;refine⟨L',zy,z.imp (λ⟨a,c⟩=>⟨.turn (hl _ _ _ _ hP) hx hb k a,c⟩) λ⟨v,a,c⟩=>⟨v,.turn (hl _ _ _ _ hP) hx hb k a,c⟩⟩
   .exact⟨ye,zt,.inr ⟨v,.ret (hl _ _ _ _ hP) hx hb k,q⟩⟩
theorem FL.all{zi:Type}{F:Fr}{xs:List Nat}{t:IT}{l:List V}{b:S}{zs:List zi}{g:Nat->zi->V}(hlen:l.length=zs.length)(hg:∀(p:Nat)(z:zi),zs[p]?=Ie z->l[p]?=Ie (g p z)){P:Nat->List zi->Loc->St->Prop}(hl:∀p ys L J,P p ys L J->t.is l J)(hs:∀p z ys L J,zs[p]?=Ie z->zs.drop (p+1)=ys->P p (z::ys) L J->X3 λzN ye zt=>C3 (vK xs (g p z) L=Ie zN) (XB F zN b J (.ok .next ye zt)) (P (p+1) ys ye zt)){L:Loc}{J:St}(h:P 0 zs L J):X2 λL' zy=>FL F xs t l b l.length L J (.ok .next L' zy)/\P zs.length [] L' zy:=by obtain⟨L',zy,z⟩:=FL.go (Q:=λzz zz=>False) hlen hg hl (λp z ys L J a c d=>let⟨zN,ye,zt,e1,e2,e3⟩:=hs p z ys L J a c d;⟨zN,ye,zt,e1,.inl ⟨e2,e3⟩⟩) l.length 0 zs L J hlen rfl h;exact z.elim (λz=>⟨L',zy,z⟩) λ⟨zo,zY,z⟩=>z.elim
theorem CL.go{zi:Type}{F:Fr}{L:Loc}{xs:List Nat}{t:IT}{l:List V}{elt y_:M}{n0:Nat}{zs:List zi}{g:Nat->zi->V}(hlen:l.length=zs.length)(hg:∀(p:Nat)(z:zi),zs[p]?=Ie z->l[p]?=Ie (g p z)){P:Nat->List zi->List V->St->Prop}(hl:∀p ys acc J,P p ys acc J->t.is l J)(hs:∀p z ys acc J,zs[p]?=Ie z->zs.drop (p+1)=ys->P p (z::ys) acc J->X2 λzN zt=>vK xs (g p z) L=Ie zN/\((∃c,C3 (y_=.cons c .nil) (E {F with s:=t.d} zN c J (.ok (.bool Ig) zt)) (P (p+1) ys acc zt))\/X2 λzb y=>C5 (y_=.nil/\zt=J\/∃c,y_=.cons c .nil/\E {F with s:=t.d} zN c J (.ok (.bool Ib) zt)) (E {F with s:=t.d} zN elt zt (.ok y zb)) (zb[n0]?=Ie (.list acc)) (short acc=Ib) (P (p+1) ys (acc++[y]) (zb.set n0 (.list (acc++[y])))))):∀(r p:Nat)(ys:List zi)(acc:List V)(J:St),r+p=zs.length->zs.drop p=ys->P p ys acc J->X2 λog zy=>CL F L xs t l elt y_ n0 r acc J og zy/\P zs.length [] og zy:=by
 intro r;induction r with
 |zero=>
  intro p ys acc J e hd hP;obtain this:p=zs.length:=by lia
  subst this;replace hd:=E1.symm.trans hd;subst hd;exact⟨acc,J,.stop (hl _ _ _ _ hP),hP⟩
 |succ r ih=>
  intro p ys acc J e hd hP;cases ys with
  |nil=>obtain this:=congrArg GH hd;rw[G',Gy]at this;lia
  |cons z ys=>
   obtain⟨h1,h2,_⟩:=drop_cons hd;have hx:l[l.length-(r+1)]?=Ie (g p z):=by rw[show l.length-(r+1)=p by lia];exact hg p z h1
   obtain⟨zN,zt,hb,q⟩:=hs p z ys acc J h1 h2 hP;rcases q with⟨c,hc,k,q⟩|⟨zb,y,hc,k,hn,sh,q⟩;.obtain⟨og,zy,z,w⟩:=ih (p+1) ys _ _ (by lia) h2 q;exact⟨og,zy,.skip (hl _ _ _ _ hP) hx hb hc k z,w⟩
   .obtain⟨og,zy,z,w⟩:=ih (p+1) ys _ _ (by lia) h2 q;exact⟨og,zy,.take (hl _ _ _ _ hP) hx hb hc k hn sh z,w⟩
section
variable{b:Bc}{d:Nat}{q:Bool}{J zt:St}{D:Dt}{i:Nat}
theorem nG{l:Nat}{xs:List Nat}(R:RI J D)(hl:J[l]?=Ie (.list (rf D.ad xs)))(hx:∀x∈xs,D.on x=Ib)(hi:D.on i=Ib):Call ⟨b,Ig,Ig,d+3⟩ (.fn 368) [.ref l,.ref (D.ad i)] J (.ok (.bool (xs.contains i)) J):=by rw[<-R.a_ hi hx];refine Ky hl (R.kN hi) λm hm=>?_;obtain⟨x,h1,rfl⟩:=HT.mp hm;exact⟨_,R.kN (hx x h1),(R.beq (hx x h1) hi).1.trans (R.beq (hx x h1) hi).2.symm⟩
theorem cT{ad:Nat->Nat}{zs:List Nat}:∀(p:Nat)(z:Nat),zs[p]?=Ie z->(rf ad zs)[p]?=Ie (.ref (ad z)):=λzz zz h=>iF h
noncomputable def lF(l:List Nat):List V:=l.map λ(n:Nat)=>V.int (n:Int)
theorem sum_ints:∀l:List Nat,n9 (lF l)=Ie (l.sum:Int)|[]=>rfl|n::l=>by show(n9 (lF l)).map ((n:Int)+.)=_;rewrite[sum_ints l];rewrite[List.sum_cons];rw[Int.natCast_add];rfl
theorem Lu(R:RI J D)(hi:D.on i=Ib)(hm:i<18):∃zy,Call ⟨b,Ig,Ig,d+3⟩ (.fn 380) [.ref (D.ad i)] J (.ok (.int (xN D.T i)) zy)/\Gr J zy:=by
 obtain⟨kp,a1,a3,h1,_⟩:=R.oo i hi hm;obtain h2:=R.ll i Ib hi hm;obtain two:=R.s.wf.two i Ib;obtain⟨acc,zy,k,k1,k2,k3⟩:=CL.go (F:=⟨b,Ig,Ig,d+2⟩) (L:=[(2,.ref (D.ad i))]) (xs:=[5]) (t:=.list (D.la Ib i)) (elt:=(.call (.zu 31) (.cons (.call (.zu 82) (.cons (.loc 5) .nil)) .nil))) (y_:=.nil) (n0:=J.length) (l:=rf D.ad ((D.T i).li Ib)) (zs:=(D.T i).li Ib) uk cT (P:=λp ys acc zv=>C3 (Gr J zv) (∃us,C3 (acc=lF us) (us.length=p) (us++ys.map (λx=>(own D.T 1 x).length)=((D.T i).li Ib).map (λx=>(own D.T 1 x).length))) (zv[J.length]?=Ie (.list acc))) (λp ys acc zv h=>h.1.get h2) (by
  rintro p x ys acc zv hp hd⟨g,⟨us,rfl,hu,hv⟩,hc⟩;obtain hx:=I9 hp;obtain⟨m1,m2⟩:=R.mem hx;obtain⟨l,zk,c1,c2,c3,c4⟩:=c_ (b:=b) d 1 x zv (by decide) m1 m2 (R.s.wf.ZC (R.s.wf.pz hx)) (R.gr g);obtain yJ:=(IF.mp hp).1;obtain wW:=c2.get hc;refine⟨_,zv,rfl,.inr ⟨zk,_,.inl ⟨rfl,rfl⟩,y0 (yk rfl) (zp (y0 (fv:=.fn 375) (yk rfl) (zp (zx rfl) zf) c1) zf) (q6 c4 (sD (I8 (R.s.wf.yA 1 x (by decide)) (by decide)))),wW,?_,(g.tr c2).set (IV _),⟨us++[(own D.T 1 x).length],?_,by rewrite[IZ];rw[hu];rfl,by rw[I3];exact hv⟩,?_⟩⟩;.exact xG (by rewrite[lF];rw[IY];lia)
  .rw[uk];unfold lF;rw[HH];rfl
  .rw[uk];exact get_set wW) ((D.T i).li Ib).length 0 _ [] (J++[.list []]) rfl rfl ⟨Gr.push _,⟨[],rfl,rfl,rfl⟩,z7⟩;obtain⟨us,rfl,_,hu⟩:=k2;rw[GW,Hf]at hu;refine⟨zy,zG rfl rfl (zT (zK (y0 (yk rfl) (zp (sb (t:=.list (D.la Ib i)) rfl rfl rfl (zM (zx rfl) h1 rfl rfl) h2 (by rw[uk];exact k)) zf) (RE rfl k3 ?_)))),k1⟩;rewrite[sum_ints];rw[hu];rfl
end
section
variable{F:Fr}{L:Loc}{J zt:St}
theorem oU{a c:M}{t u:Bool}(h:E F L a J (.ok (.bool t) zt))(h':t=Ib->E F L c zt (.ok (.bool u) zt)):E F L (.and (.cons a (.cons c .nil))) J (.ok (.bool (t&&u)) zt):=by cases t with|false=>exact tN h|true=>exact vt h (ub (h' rfl))
theorem jW{a c:M}{t u:Bool}(h:E F L a J (.ok (.bool t) zt))(h':t=Ig->E F L c zt (.ok (.bool u) zt)):E F L (.or (.cons a (.cons c .nil))) J (.ok (.bool (t||u)) zt):=by cases t with|true=>exact sZ h|false=>exact uL h (uK (h' rfl))
theorem y7{g:Nat}{x:M}{fv v:V}{out:R V}(hg:prog.glob g=Ie fv)(h:E F L x J (.ok v zt))(c:Call F fv [v] zt out)(hk:sI fv=Ib:=by rfl):E F L (.call (.zu g) (.cons x .nil)) J out:=y0 (yk hg) (zp h zf) c hk
theorem yU{g:Nat}{x y:M}{fv v u:V}{zb:St}{out:R V}(hg:prog.glob g=Ie fv)(h:E F L x J (.ok v zt))(h':E F L y zt (.ok u zb))(c:Call F fv [v,u] zb out)(hk:sI fv=Ib:=by rfl):E F L (.call (.zu g) (.cons x (.cons y .nil))) J out:=y0 (yk hg) (zp h (zp h' zf)) c hk
theorem xk{g:Nat}{x y z:M}{fv v u s:V}{zb yK:St}{out:R V}(hg:prog.glob g=Ie fv)(h:E F L x J (.ok v zt))(h':E F L y zt (.ok u zb))(Pa:E F L z zb (.ok s yK))(c:Call F fv [v,u,s] yK out)(hk:sI fv=Ib:=by rfl):E F L (.call (.zu g) (.cons x (.cons y (.cons z .nil)))) J out:=y0 (yk hg) (zp h (zp h' (zp Pa zf))) c hk
end
theorem lY(bh:List Nat)(cnt:Nat):∀(ys acc:List Nat)(p:Nat),(here bh cnt p acc ys).length<=acc.length+ys.length
|[],acc,p=>IV _
|x::ys,acc,p=>by
 refine I8 (lY bh cnt ys _ (p+1)) ?_;rw[HV];split;.rewrite[IZ];rw[Ht];lia
 .lia
theorem jJ{bh:List Nat}{cnt:Nat}{x:Nat}:∀{ys acc:List Nat}{p:Nat},x∈here bh cnt p acc ys->x∈acc\/x∈ys
|[],acc,p,h=>.inl h
|y::ys,acc,p,h=>by
 rcases jJ (show x∈here bh cnt (p+1) (if !acc.contains y&&(decide ((p:Int)<cnt)||!bh.contains y)then acc++[y]else acc) ys from h)with h|h
 .split at h
  .rcases HQ.mp h with h|h;.exact .inl h
   .exact .inr (by rw[I_.mp h];exact .head _)
  .exact .inl h
 .exact .inr (.tail _ h)
section
variable{b:Bc}{d:Nat}{J zt:St}{D:Dt}{i:Nat}
theorem Ox{bl f e cnt:Nat}{bh zs:List Nat}(R:RI zt D)(hb:zt[bl]?=Ie (.list (rf D.ad bh)))(ho:∀x∈bh,D.on x=Ib)(hf:zt.length<=f)(hz:∀x∈zs,D.on x=Ib)(hl:zs.length<=21){L:Loc}{zv:St}(g:Gr zt zv)(h1:zv[f]?=Ie (.list []))(h2:zv[e]?=Ie (.list (rf D.ad zs)))(wM:f≠e)(l1:lk 4 L=Ie (.ref f))(l2:lk 22 L=Ie (.ref bl))(l3:lk 87 L=Ie (.int cnt))(l0:lk 52 L=none):X2 λL' zk=>C6 (FL ⟨b,Ig,Ig,d+3⟩ [53,5] (.enum e) ((rf D.ad zs).mapIdx λi v=>V.tup [.int i,v]) (.cons (.cond (.and (.cons (.not (.call (.zu 43) (.cons (.loc 4) (.cons (.loc 5) .nil)))) (.cons (.or (.cons (.cmp .lt (.loc 53) (.loc 87)) (.cons (.not (.call (.zu 43) (.cons (.loc 22) (.cons (.loc 5) .nil)))) .nil))) .nil))) (.cons (.expr (.zl (.loc 4) 30 (.cons (.loc 5) .nil))) .nil) .nil) .nil) ((rf D.ad zs).mapIdx λi v=>V.tup [.int i,v]).length L zv (.ok .next L' zk)) (Gr zt zk) (zk[f]?=Ie (.list (rf D.ad (here bh cnt 0 [] zs)))) (lk 4 L'=Ie (.ref f)) (lk 22 L'=Ie (.ref bl)) (lk 52 L'=none):=by
 obtain⟨L',zk,k,k1,⟨acc,a1,a2,a3,a4⟩,k3,k4,k5,k6,k7⟩:=FL.all (F:=⟨b,Ig,Ig,d+3⟩) (xs:=[53,5]) (t:=.enum e) (b:=(.cons (.cond (.and (.cons (.not (.call (.zu 43) (.cons (.loc 4) (.cons (.loc 5) .nil)))) (.cons (.or (.cons (.cmp .lt (.loc 53) (.loc 87)) (.cons (.not (.call (.zu 43) (.cons (.loc 22) (.cons (.loc 5) .nil)))) .nil))) .nil))) (.cons (.expr (.zl (.loc 4) 30 (.cons (.loc 5) .nil))) .nil) .nil) .nil)) (l:=(rf D.ad zs).mapIdx λi v=>V.tup [.int i,v]) (zs:=zs) (g:=λp z=>.tup [.int p,.ref (D.ad z)]) (by rewrite[GI];rw[uk]) (λp z h=>by rewrite[Fv];rw[iF h];rfl) (P:=λp ys L zv=>C7 (Gr zt zv) (∃acc,C4 (zv[f]?=Ie (.list (rf D.ad acc))) (acc.length<=p) (∀x∈acc,D.on x=Ib) (here bh cnt p acc ys=here bh cnt 0 [] zs)) (zv[e]?=Ie (.list (rf D.ad zs))) (lk 4 L=Ie (.ref f)) (lk 22 L=Ie (.ref bl)) (lk 87 L=Ie (.int cnt)) (lk 52 L=none)) (λp ys L zv h=>⟨_,h.3,rfl⟩) (by
  rintro p x ys L zv hp hd⟨g,⟨acc,a1,a2,a3,a4⟩,k3,k4,k5,k6,k7⟩;obtain hx:=hz x (I9 hp);obtain yJ:=(IF.mp hp).1;have R':=R.gr g;obtain hc:=oU (F:=⟨b,Ig,Ig,d+3⟩) (L:=st 5 (.ref (D.ad x)) (st 53 (.int p) L)) (u:=decide ((p:Int)<cnt)||!bh.contains x) (vH (yU (g:=43) (fv:=.fn 368) rfl (zx (zg rfl (zg rfl k4))) (zx yw) (nG R' a1 a3 hx))) λzz=>jW (u:=!bh.contains x) (zZ (zx (zg rfl yw)) (zx (zg rfl (zg rfl k6))) jv) λzz=>vH (yU (g:=43) (fv:=.fn 368) rfl (zx (zg rfl (zg rfl k5))) (zx yw) (nG R' (g.get hb) ho hx));refine⟨_,st 5 (.ref (D.ad x)) (st 53 (.int p) L),zv.set f (.list (rf D.ad (if !acc.contains x&&(decide ((p:Int)<cnt)||!bh.contains x)then acc++[x]else acc))),rfl,zr (p7 hc ?_) zj,g.set hf,⟨_,get_set a1,?_,?_,a4⟩,zJ k3 wM,zg rfl (zg rfl k4),zg rfl (zg rfl k5),zg rfl (zg rfl k6),zg rfl (zg rfl k7)⟩
  .split;.exact zr (yF (yj (zx (zg rfl (zg rfl k4))) (ua a1) (zp (zx yw) zf) (by exact pQ rfl a1 (sD (I8 a2 (by lia))) (qV (k:=[x])).symm))) zj
   .obtain this:zv.set f (.list (rf D.ad acc))=zv:=set_same a1;rw[this];exact zj
  .split;.rw[IZ];exact Hs a2
   .exact Gs a2
  .split
   .intro y hy;rcases HQ.mp hy with hy|hy;.exact a3 y hy
    .rw[I_.mp hy];exact hx
   .exact a3) (L:=L) (J:=zv) ⟨g,⟨[],h1,IV _,λzz h=>(nomatch h),rfl⟩,h2,l1,l2,l3,l0⟩;exact⟨L',zk,k,k1,by rewrite[a1];rw[<-a4];rfl,k4,k5,k7⟩
theorem ML{bl f:Nat}{bh h:List Nat}{L:Loc}(R:RI J D)(hb:J[bl]?=Ie (.list (rf D.ad bh)))(ho:∀x∈bh,D.on x=Ib)(hf:J[f]?=Ie (.list (rf D.ad h)))(hz:∀x∈h,D.on x=Ib)(hl:bh.length<=1000)(l1:lk 4 L=Ie (.ref f)):X2 λacc zy=>C4 (CL ⟨b,Ig,Ig,d+3⟩ L [5] (.list bl) (rf D.ad bh) (.loc 5) (.cons (.not (.call (.zu 43) (.cons (.loc 4) (.cons (.loc 5) .nil)))) .nil) J.length (rf D.ad bh).length [] (J++[.list []]) acc zy) (Gr J zy) (acc=rf D.ad (bh.filter λx=>!h.contains x)) (zy[J.length]?=Ie (.list acc)):=by obtain⟨acc,zy,k,k1,⟨us,rfl,k2,k3⟩,k4⟩:=CL.go (F:=⟨b,Ig,Ig,d+3⟩) (L:=L) (xs:=[5]) (t:=.list bl) (elt:=(.loc 5)) (y_:=(.cons (.not (.call (.zu 43) (.cons (.loc 4) (.cons (.loc 5) .nil)))) .nil)) (n0:=J.length) (l:=rf D.ad bh) (zs:=bh) uk cT (P:=λp ys acc zv=>C3 (Gr J zv) (∃us,C3 (acc=rf D.ad us) (us.length<=p) (us++ys.filter (λx=>!h.contains x)=bh.filter λx=>!h.contains x)) (zv[J.length]?=Ie (.list acc))) (λp ys acc zv h=>h.1.get hb) (by rintro p x ys acc zv hp hd⟨g,⟨us,rfl,hu,hv⟩,hc⟩;obtain hx:=ho x (I9 hp);obtain yJ:=(IF.mp hp).1;obtain he:=vH (F:=⟨b,Ig,Ig,d+3⟩) (L:=st 5 (.ref (D.ad x)) L) (yU (g:=43) (fv:=.fn 368) rfl (zx (zg rfl l1)) (zx yw) (nG (R.gr g) (g.get hf) hz hx));cases hq:h.contains x with|true=>rw[hq]at he;exact⟨_,zv,rfl,.inl ⟨_,rfl,he,g,⟨us,rfl,Gs hu,by rw[Hl,hq]at hv;exact hv⟩,hc⟩⟩|false=>rw[hq]at he;refine⟨_,zv,rfl,.inr ⟨zv,_,.inr ⟨_,rfl,he⟩,zx yw,hc,sD (by lia),g.set (IV _),⟨us++[x],(qV (k:=[x])).symm,by rw[IZ];exact Hs hu,by rw[Hl,hq]at hv;rw[I3];exact hv⟩,get_set hc⟩⟩) bh.length 0 _ [] (J++[.list []]) rfl rfl ⟨Gr.push _,⟨[],rfl,IV _,rfl⟩,z7⟩;rw[Du,Hf]at k3;exact⟨_,zy,by rw[uk];exact k,k1,by rw[k3],k4⟩
theorem Vz{bl:Nat}{bh:List Nat}(R:RI zt D)(hi:D.on i=Ib)(hm:i<18)(hb:zt[bl]?=Ie (.list (rf D.ad bh)))(ho:∀x∈bh,D.on x=Ib)(hl:bh.length<=500):X3 λl L' zy=>C4 (XB ⟨b,Ig,Ig,d+3⟩ [(1,.ref D.w),(2,.ref (D.ad i)),(22,.ref bl)] (.cons (.y8 [4,87] (.tup (.cons (.lst .nil) (.cons (.call (.zu 181) (.cons (.loc 2) .nil)) .nil)))) (.cons (.for [53,5] .enum (.call (.zu 82) (.cons (.loc 2) .nil)) (.cons (.cond (.and (.cons (.not (.call (.zu 43) (.cons (.loc 4) (.cons (.loc 5) .nil)))) (.cons (.or (.cons (.cmp .lt (.loc 53) (.loc 87)) (.cons (.not (.call (.zu 43) (.cons (.loc 22) (.cons (.loc 5) .nil)))) .nil))) .nil))) (.cons (.expr (.zl (.loc 4) 30 (.cons (.loc 5) .nil))) .nil) .nil) .nil)) (.cons (.ret (.bin .add (.loc 4) (.comp (.loc 5) [5] .plain (.loc 22) (.cons (.not (.call (.zu 43) (.cons (.loc 4) (.cons (.loc 5) .nil)))) .nil)))) .nil))) zt (.ok (.ret (.ref l)) L' zy)) (Gr zt zy) (zy[l]?=Ie (.list (rf D.ad (step D.T i bh)))) (zt.length<=l):=by
 obtain⟨zb,c1,g1⟩:=Lu (b:=b) (d:=d) (R.gr (Gr.push (.list []))) hi hm;obtain⟨e,yK,c2,g2,le,he⟩:=c_ (b:=b) d 2 i zb (IV _) hi hm (R.s.wf.ZA i) (R.gr ((Gr.push _).tr g1));obtain hf:=(g1.tr g2).get (z7 (J:=zt) (o:=.list []));obtain C:=R.kg 2 hi hm;obtain l2:=R.s.wf.yA 2 i (IV _);obtain⟨L',r8,c3,g3,h4,l1,NL,l0⟩:=Ox (b:=b) (d:=d) (cnt:=xN D.T i) R hb ho (IV _) (λx hx=>(C x hx).1) l2 (L:=[(1,.ref D.w),(2,.ref (D.ad i)),(22,.ref bl),(4,.ref zt.length),(87,.int (xN D.T i))]) ((Gr.push _).tr (g1.tr g2)) hf he (Ha (HY (HY (by rw[IZ];exact H7 _) g1.1) le)) rfl rfl rfl rfl;obtain hh:=lY bh (xN D.T i) (own D.T 2 i) [] 0;obtain hh:(here bh (xN D.T i) 0 [] (own D.T 2 i)).length<=21:=by rw[Gy]at hh;lia
 obtain⟨_,mj,c4,g4,rfl,h5⟩:=ML (b:=b) (d:=d) (R.gr g3) (g3.get hb) ho h4 (λx hx=>(jJ hx).elim (λh=>(nomatch h)) λh=>(C x h).1) (I8 hl (by decide)) l1;have hs:((here bh (xN D.T i) 0 [] (own D.T 2 i))++bh.filter λx=>!(here bh (xN D.T i) 0 [] (own D.T 2 i)).contains x).length<=1000:=by obtain this:=Gd (λx=>!(here bh (xN D.T i) 0 [] (own D.T 2 i)).contains x) bh;rw[IZ];lia
 refine⟨mj.length,L',mj++[.list (rf D.ad (step D.T i bh))],?_,g3.tr (g4.tr (Gr.push _)),z7,(g3.tr g4).1⟩;refine zr (u9 rfl (xU (zp (y' zf rfl) (zp (y7 (fv:=.fn 380) rfl (zx rfl) c1) zf)) rfl) rfl) ?_;refine zr (xY (t:=.enum e) rfl (y7 (fv:=.fn 375) rfl (zx rfl) c2) ⟨_,he,rfl⟩ rfl c3) ?_;refine zT (zK (yd (zx l1) (sb (t:=.list bl) rfl rfl l0 (zx NL) (g3.get hb) c4) ?_));unfold step qH;rw[qV];exact mS (g4.get h4) h5 (by rw[<-qV];exact sD hs)
end
theorem SI{F:Fr}{J:St}{i j:Int}:x_ F .ne (.int i) (.int j) J (!(i==j)):=gT rfl rfl (Ym i j)
theorem rL{i p:Nat}(h:par i=Ie p):p<18:=by
 obtain this:∀i<18,(match par i with|Ie p=>Hq p 18|none=>Ib)=Ib:=by decide+kernel
 obtain this:=this i (WI h);rw[h]at this;exact ID this
section
variable{J:St}{D:Dt}
theorem tB{j:Nat}(h:D.on j=Ib):D.opt (Ie j)=.ref (D.ad j):=by unfold Dt.opt;exact if_pos h
theorem WM{j:Nat}(h:D.on j=Ig):D.opt (Ie j)=.none:=by unfold Dt.opt;exact if_neg (by rw[h];exact Hi)
theorem VT(w:WF D.T)(i:Nat)(bh:List Nat):(step D.T i bh).length<=21+bh.length:=by obtain h1:=lY bh (xN D.T i) (own D.T 2 i) [] 0;obtain h2:=w.yA 2 i (IV _);obtain h3:=Gd (λx=>!(here bh (xN D.T i) 0 [] (own D.T 2 i)).contains x) bh;rw[Gy]at h1;unfold step qH;rw[IZ];lia
theorem hZ{T:Tb}{i x:Nat}{bh:List Nat}(h:x∈step T i bh):x∈own T 2 i\/x∈bh:=by
 rcases HQ.mp h with h|h;.exact(jJ h).elim (λh=>(nomatch h)) .inl
 .exact .inr (Fo.mp h).1
theorem RI.X7(R:RI J D):∀(n:Nat){i:Nat},rank i=n->D.on i=Ib->i<18->(ln D.T i).length<=21*(n+1)/\∀x∈ln D.T i,D.on x=Ib/\x<18:=by
 intro n;induction n with
 |zero=>
  intro i hr hi hm;have hp:par i=none:=by cases q:par i with|none=>rfl|some p=>obtain this:=vA q;lia
  rw[lC hp];exact⟨VT R.s.wf i [],λx hx=>(hZ hx).elim (R.kg 2 hi hm x) λh=>nomatch h⟩
 |succ n ih=>intro i hr hi hm;cases hp:par i with|none=>obtain this:=kT hp;lia|some p=>obtain yY:=R.s.pm i p hi hp;obtain⟨h1,h2⟩:=ih (i:=p) (by obtain this:=vA hp;lia) yY (rL hp);rw[nU hp];exact⟨I8 (VT R.s.wf i _) (by lia),λx hx=>(hZ hx).elim (R.kg 2 hi hm x) (h2 x)⟩
theorem La{b:Bc}{d i:Nat}(R:RI J D)(hi:D.on i=Ib)(hm:i<18)(IH:∀p,par i=Ie p->X2 λl zy=>C3 (Call ⟨b,Ig,Ig,d+3⟩ (.fn 392) [.ref D.w,.ref (D.ad p)] J (.ok (.ref l) zy)) (Ask D J zy) (zy[l]?=Ie (.list (rf D.ad (ln D.T p))))):X2 λl zy=>C4 (Call ⟨b,Ig,Ig,d+4⟩ (.fn 385) [.ref D.w,.ref (D.ad i)] J (.ok (.ref l) zy)) (Ask D J zy) (zy[l]?=Ie (.list (rf D.ad (ln D.T i)))) (J.length<=l):=by
 obtain⟨kp,a1,a3,h1,_⟩:=R.oo i hi hm;cases hp:par i with
 |none=>obtain⟨l,L',zy,k,g,hl,hle⟩:=Vz (b:=b) (d:=d) (R.gr (Gr.push (.list []))) hi hm (bh:=[]) z7 (λzz h=>nomatch h) (HL _);rw[<-lC hp]at hl;exact⟨l,zy,zG rfl rfl (zr (yq (wb (zZ (zM (zx rfl) h1 rfl rfl) zQ (yT (by rw[hp];rfl))) (y' zf rfl))) k),.of R ((Gr.push _).tr g),hl,I8 (Gr.push _).1 hle⟩
 |some p=>
  obtain⟨bl,zt,c,a,hb⟩:=IH p hp;obtain yY:=R.s.pm i p hi hp;obtain⟨q1,q2⟩:=R.X7 _ rfl yY (rL hp);obtain hr:rank p<=6:=by
   obtain this:∀i<18,rank i<=7:=by decide+kernel
   obtain this:=this i hm;obtain this:=vA hp;lia
  obtain⟨l,L',zy,k,g,hl,hle⟩:=Vz (b:=b) (d:=d) a.r hi hm hb (λx hx=>(q2 x hx).1) (by lia);rw[<-nU hp]at hl;obtain e1:lk 11 (D.wV i a1 a3 kp)=Ie (.ref (D.ad p)):=(show _=Ie (D.opt (par i))from rfl).trans (by rewrite[hp];rw[tB yY]);exact⟨l,zy,zG rfl rfl (zr (yq (we (zZ (zM (zx rfl) h1 rfl e1) zQ (yT rfl)) (yU (g:=81) rfl (zx rfl) (zM (zx rfl) h1 rfl e1) c))) k),a.tr (.of a.r g),hl,I8 a.k.1 hle⟩
theorem W'{b:Bc}{d i:Nat}(R:RI J D)(hi:D.on i=Ib)(hm:i<18)(IH:∀p,par i=Ie p->X2 λl zy=>C3 (Call ⟨b,Ig,Ig,d+3⟩ (.fn 392) [.ref D.w,.ref (D.ad p)] J (.ok (.ref l) zy)) (Ask D J zy) (zy[l]?=Ie (.list (rf D.ad (ln D.T p))))):X2 λl zy=>C3 (Call ⟨b,Ig,Ig,d+5⟩ (.fn 392) [.ref D.w,.ref (D.ad i)] J (.ok (.ref l) zy)) (Ask D J zy) (zy[l]?=Ie (.list (rf D.ad (ln D.T i)))):=by
 obtain⟨kp,a1,a3,h1,hk⟩:=R.oo i hi hm;obtain⟨num,main,hw,_⟩:=R.wo;have tail:E ⟨b,Ig,Ig,d+4⟩ [(1,.ref D.w),(2,.ref (D.ad i))] (.or (.cons (.cmp .is (.attr (.loc 2) 61) .none) (.cons (.cmp .ne (.sub (.attr (.loc 2) 61) (.int 0)) (.attr (.loc 1) 99)) .nil))) J (.ok (.bool Ib) J)->X2 λl zy=>C3 (Call ⟨b,Ig,Ig,d+5⟩ (.fn 392) [.ref D.w,.ref (D.ad i)] J (.ok (.ref l) zy)) (Ask D J zy) (zy[l]?=Ie (.list (rf D.ad (ln D.T i)))):=λhc=>by obtain⟨l,zt,c,a,hl,hle⟩:=La R hi hm IH;obtain⟨rS,b1,b3,wu,_⟩:=a.r.oo i hi hm;obtain⟨R',k'⟩:=a.r.kept hi hm wu hl (I8 (Et (xr hw)) hle);refine⟨l,_,zG rfl rfl (zr (ya hc (zr (rC rfl (xU (zp (zM (zx rfl) hw rfl rfl) (zp (yU (g:=173) rfl (zx rfl) (zx rfl) c) zf)) rfl) (zx rfl) wu rfl rfl) zj)) (zT (zK (yH (zM (zx rfl) (get_set wu) rfl rfl) yr (vk (j:=1) rfl (by decide)))))),a.tr ⟨R',k'⟩,k'.get hl⟩
 rcases hk with rfl|⟨v,l,rfl,hv,hl⟩;.exact tail (sZ (zZ (zM (zx rfl) h1 rfl rfl) zQ (yT rfl)))
 .obtain h0:=zZ (F:=⟨b,Ig,Ig,d+4⟩) (L:=[(1,.ref D.w),(2,.ref (D.ad i))]) (yH (zM (zx (x:=2) rfl) h1 (x:=61) rfl rfl) yr (vk (j:=0) rfl (by decide))) (zM (zx (x:=1) rfl) hw (x:=99) rfl rfl) SI;obtain hn:=zZ (F:=⟨b,Ig,Ig,d+4⟩) (L:=[(1,.ref D.w),(2,.ref (D.ad i))]) (zM (zx (x:=2) rfl) h1 (x:=61) rfl rfl) zQ (yT (t:=Ig) rfl);by_cases q:v=D.zC;.rw[q,beq_self_eq_true]at h0;exact⟨l,J,zG rfl rfl (zr (zO (uL hn (uK h0)) zj) (zT (zK (yH (zM (zx rfl) h1 rfl rfl) yr (vk (j:=1) rfl (by decide)))))),⟨R,.re⟩,(hl q).2⟩
  .rw[beq_false_of_ne q]at h0;exact tail (uL hn (uK h0))
theorem W2{b:Bc}(d:Nat):∀(n i:Nat)(J:St),rank i=n->D.on i=Ib->i<18->RI J D->X2 λl zy=>C3 (Call ⟨b,Ig,Ig,d+(2*n+5)⟩ (.fn 392) [.ref D.w,.ref (D.ad i)] J (.ok (.ref l) zy)) (Ask D J zy) (zy[l]?=Ie (.list (rf D.ad (ln D.T i))))|0,i,J,hr,hi,hm,R=>W' R hi hm λp hp=>by have:=vA hp;lia|n+1,i,J,hr,hi,hm,R=>W' (d:=d+(2*n+2)) R hi hm λp hp=>W2 d n p J (by have:=vA hp;lia) (R.s.pm i p hi hp) (rL hp) R
theorem cj{b:Bc}{d i:Nat}(R:RI J D)(hi:D.on i=Ib)(hm:i<18):X2 λl zy=>C3 (Call ⟨b,Ig,Ig,d+20⟩ (.fn 392) [.ref D.w,.ref (D.ad i)] J (.ok (.ref l) zy)) (Ask D J zy) (zy[l]?=Ie (.list (rf D.ad (ln D.T i)))):=by
 obtain this:∀i<18,rank i<=7:=by decide+kernel
 obtain this:=this i hm;obtain this:=W2 (b:=b) (d+(15-2*rank i)) (rank i) i J rfl hi hm R;rw[show d+(15-2*rank i)+(2*rank i+5)=d+20 by lia]at this;exact this
theorem RI.tG(R:RI J D){i:Nat}(hi:D.on i=Ib)(hm:i<18):(ln D.T i).length<=200/\∀x∈ln D.T i,D.on x=Ib/\x<18:=by
 obtain this:∀i<18,rank i<=7:=by decide+kernel
 obtain this:=this i hm;obtain⟨h1,h2⟩:=R.X7 _ rfl hi hm;exact⟨by lia,h2⟩
end
noncomputable def vf:Option yy->V|Ie h=>.ref h.e|none=>.none
noncomputable def live(h:yy):Option yy:=match h.b with|Ie _=>Ie h|none=>none
noncomputable def zH(T:Tb)(k:List Nat):List Nat->Option yy|[]=>none|i::r=>match yW k (T i).ms with|Ie h=>live h|none=>zH T k r
noncomputable def wA(T:Tb)(k:List Nat)(o:Nat):List Nat->Option yy|[]=>none|i::r=>match i==o with|Ib=>zH T k r|Ig=>wA T k o r
theorem uz{F:Fr}{J:St}{v:V}(e:isNone v=Ie Ib):x_ F .yO v .none J Ig:=rd e
theorem tP{F:Fr}{J:St}{v:V}(e:isNone v=Ie Ig):x_ F .yO v .none J Ib:=rd e
section
variable{b:Bc}{d:Nat}{q:Bool}{J zt:St}{D:Dt}{i:Nat}{k:List Nat}
theorem Lk(R:RI J D)(hi:D.on i=Ib)(hm:i<18){s:List Nat}(hn:yC i=.str s):∃zy,Call ⟨b,Ig,Ig,d+1⟩ (.fn 420) [.ref D.w,.ref (D.ad i),.str k] J (.ok .none zy)/\Gr J zy:=by obtain⟨kp,a1,a3,h1,_⟩:=R.oo i hi hm;obtain⟨num,main,hw,_⟩:=R.wo;obtain g1:Gr J (J++[O.dict []]):=Gr.push _;obtain e1:lk 34 (D.wV i a1 a3 kp)=Ie (.str s):=(show _=Ie (yC i)from rfl).trans (by rw[hn]);refine⟨(J++[O.dict []])++[O.dict []],?_,g1.tr (Gr.push _)⟩;apply zG rfl rfl;refine zr (yq (yj (yj (zM (zx rfl) hw rfl rfl) (tM R.n0) (zp (zM (zx rfl) h1 rfl e1) (zp jX zf)) (l9 (.inl (g1.get R.n0)))) (tM z7) (zp (zx rfl) zf) (qd (.inl z7)))) ?_;refine zr (zO (zZ (zx rfl) zQ (uz rfl)) zj) ?_;refine zr (yq (yj (yj (zM (zx rfl) (g1.get hw) rfl rfl) (tM (g1.get R.n1)) (zp (zM (zx rfl) (g1.get h1) rfl e1) (zp jX zf)) (l9 (.inl ((g1.tr (Gr.push _)).get R.n1)))) (tM z7) (zp (zx rfl) zf) (qd (.inl z7)))) ?_;exact zT (ya (zZ (zx rfl) zQ (yT rfl)) (zT (zK zQ)))
theorem iM(R:RI J D)(hi:D.on i=Ib)(hm:i<18):∃zy,Call ⟨b,Ig,Ig,d+2⟩ (.fn 432) [.ref D.w,.ref (D.ad i),.str k] J (.ok (vf (yW k (D.T i).ms)) zy)/\Gr J zy:=by
 obtain⟨kp,a1,a3,h1,_⟩:=R.oo i hi hm;obtain hd:=R.mm i hi hm;have h0:E ⟨b,Ig,Ig,d+1⟩ [(1,.ref D.w),(2,.ref (D.ad i)),(0,.str k)] (.zl (.attr (.loc 2) 19) 49 (.cons (.loc 0) .nil)) J (.ok ((zE k (yB ti (D.T i).ms)).getD .none) J):=yj (zM (zx rfl) h1 rfl rfl) (tM hd) (zp (zx rfl) zf) (qd (.inl hd));rw[qt]at h0;cases hh:yW k (D.T i).ms with
 |some h=>rw[hh]at h0;obtain he:=(R.ee i hi hm _ (lT hh)).1;refine⟨J,zG rfl rfl (zr (yq h0) (zr (zO (tN (zZ (zx rfl) zQ (yT rfl))) zj) (zT (zK (we (uL (zZ (zx rfl) zQ (yT rfl)) (uK (t:=Ig) (zZ (zM (zx rfl) he rfl rfl) zV ?_))) (zx rfl)))))),.rfl⟩;cases h.b<;>exact u2 rfl rfl
 |none=>
  rw[hh]at h0;have fin:∀{L:Loc}{zv:St},lk 4 L=Ie .none->XB ⟨b,Ig,Ig,d+1⟩ L (.cons (.ret (.ite (.or (.cons (.cmp .is (.loc 4) .none) (.cons (.cmp .eq (.attr (.loc 4) 35) (.str [103,111,110,101])) .nil))) .none (.loc 4))) .nil) zv (.ok (.ret .none) L zv):=λhl=>zT (zK (wb (sZ (zZ (zx hl) zQ (yT rfl))) zQ));have hc:=zZ (F:=⟨b,Ig,Ig,d+1⟩) (L:=[(1,.ref D.w),(2,.ref (D.ad i)),(0,.str k),(4,.none)]) (zM (zx (x:=2) rfl) h1 (x:=34) rfl rfl) zQ (rd (t:=(yC i).ctorIdx==0) (by unfold yC;split<;>rfl));by_cases hn:yC i=.none;.rw[hn]at hc;exact⟨J,zG rfl rfl (zr (yq h0) (zr (zO (vt (zZ (zx rfl) zQ (yT rfl)) (ub hc)) zj) (fin rfl))),.rfl⟩
  .obtain⟨s,hs⟩:∃s,yC i=.str s:=by
    revert hn;unfold yC;split;.exactλzz=>⟨_,rfl⟩
    .exactλh=>absurd rfl h
   rw[hs]at hc;obtain⟨zy,c,g⟩:=Lk (b:=b) (d:=d) (k:=k) R hi hm hs;exact⟨zy,zG rfl rfl (zr (yq h0) (zr (ya (vt (zZ (zx rfl) zQ (yT rfl)) (ub hc)) (zr (yq (xk (g:=129) rfl (zx rfl) (zx rfl) (zx rfl) c)) (zr (zO (zZ (zx rfl) zQ (uz rfl)) zj) zj))) (fin rfl))),g⟩
theorem W7{l:Nat}{ln:List Nat}(R:RI J D)(hl:J[l]?=Ie (.list (rf D.ad ln)))(ho:∀x∈ln,D.on x=Ib/\x<18):∃zy,Call ⟨b,Ig,Ig,d+3⟩ (.fn 439) [.ref D.w,.ref l,.str k] J (.ok (vf (zH D.T k ln)) zy)/\Gr J zy:=by
 obtain⟨L',zy,z⟩:=FL.go (F:=⟨b,Ig,Ig,d+2⟩) (xs:=[2]) (t:=.list l) (b:=(.cons (.asg 4 (.call (.zu 67) (.cons (.loc 1) (.cons (.loc 2) (.cons (.loc 0) .nil))))) (.cons (.cond (.cmp .yO (.loc 4) .none) (.cons (.ret (.ite (.cmp .eq (.attr (.loc 4) 35) (.str [110,111,110,101])) .none (.loc 4))) .nil) .nil) .nil))) (l:=rf D.ad ln) (zs:=ln) uk cT (P:=λp ys L zv=>C4 (Gr J zv) (lk 1 L=Ie (.ref D.w)) (lk 0 L=Ie (.str k)) (zH D.T k ys=zH D.T k ln)) (Q:=λv zv=>Gr J zv/\v=vf (zH D.T k ln)) (λp ys L zv h=>h.1.get hl) (by rintro p x ys L zv hp hd⟨g,l1,l2,hf⟩;obtain⟨m1,m2⟩:=ho x (I9 hp);obtain⟨zk,c,g'⟩:=iM (b:=b) (d:=d) (k:=k) (R.gr g) m1 m2;obtain h0:=xk (F:=⟨b,Ig,Ig,d+2⟩) (L:=st 2 (.ref (D.ad x)) L) (g:=67) rfl (zx (zg rfl l1)) (zx yw) (zx (zg rfl l2)) c;obtain hf:(match yW k (D.T x).ms with|Ie h=>live h|none=>zH D.T k ys)=zH D.T k ln:=hf;cases hh:yW k (D.T x).ms with|none=>rw[hh]at h0 hf;exact⟨_,_,zk,rfl,.inl ⟨zr (yq h0) (zr (zO (zZ (zx yw) zQ (uz rfl)) zj) zj),g.tr g',zg rfl (zg rfl l1),zg rfl (zg rfl l2),hf⟩⟩|some h=>rw[hh]at h0 hf;obtain he:=g'.get (((R.gr g).ee x m1 m2 _ (lT hh)).1);refine⟨_,_,zk,rfl,.inr ⟨_,zr (yq h0) (zT (ya (zZ (zx yw) zQ (tP rfl)) (zT (zK (?_:E _ _ _ _ (.ok (vf (live h)) zk)))))),g.tr g',by rw[<-hf]⟩⟩;have hs:=zM (F:=⟨b,Ig,Ig,d+2⟩) (zx (yw (x:=4) (v:=.ref h.e) (L:=st 2 (.ref (D.ad x)) L))) he (x:=35) rfl rfl;unfold live;cases hb:h.b with|none=>rw[hb]at hs;exact wb (zZ hs zV (u2 rfl rfl)) zQ|some t=>rw[hb]at hs;exact we (zZ hs zV (u2 rfl rfl)) (zx yw)) (rf D.ad ln).length 0 ln [(1,.ref D.w),(33,.ref l),(0,.str k)] J uk rfl ⟨.rfl,rfl,rfl,rfl⟩;rcases z with⟨c,g,_,_,hf⟩|⟨v,c,g,rfl⟩;.exact⟨zy,zG rfl rfl (zr (xY (t:=.list l) rfl (zx rfl) hl rfl c) (zT (zK (by rw[<-hf];exact zQ)))),g⟩
 .exact⟨zy,zG rfl rfl (zT (xY (t:=.list l) rfl (zx rfl) hl rfl c)),g⟩
theorem iK(R:RI J D)(hi:D.on i=Ib)(hm:i<18):∃zy,Call ⟨b,Ig,Ig,d+21⟩ (.fn 446) [.ref D.w,.ref (D.ad i),.str k] J (.ok (vf (zH D.T k (ln D.T i))) zy)/\Ask D J zy:=by obtain⟨l,zt,c,a,hl⟩:=cj (b:=b) (d:=d) R hi hm;obtain⟨zb,c',g⟩:=W7 (b:=b) (d:=d+17) (k:=k) a.r hl (a.r.tG hi hm).2;exact⟨zb,zG rfl rfl (zT (zK (xk (g:=117) rfl (zx rfl) (yU (g:=81) rfl (zx rfl) (zx rfl) c) (zx rfl) c'))),a.tr (.of a.r g)⟩
end
theorem Va{F:Fr}{J:St}{n:Nat}{i:Int}{xs ys:List V}{t:Dj}(hi:0<=i)(hn:J[n]?=Ie (.list xs))(hs:short xs=Ib)(e:xs.drop i.toNat=ys):u6 F (.ref n) (.int i t) .none .none J (.ref J.length) (J++[.list ys]):=e▸Kg hi hn hs
theorem L8{ad:Nat->Nat}{l:List Nat}{n:Nat}:(rf ad l).drop n=rf ad (l.drop n):=by unfold rf refs;rewrite[EL];rw[EL]
noncomputable def uS(on:Nat->Bool):Nat->Nat->Option Nat|0,zo=>none|k+1,i=>match(yn i).filter on with|Ie j=>Ie j|none=>(par i).bind (uS on k)
noncomputable def xq(on:Nat->Bool)(x:Nat):Nat:=match(yn x).filter on with|Ie j=>j|none=>if Hq x 18 then(match yb x with|Ib=>((par x).bind (uS on 7)).getD 4|Ig=>3)else x-15
section
variable{b:Bc}{d:Nat}{q:Bool}{J zt:St}{D:Dt}{i:Nat}{k:List Nat}
theorem Lm{o:Nat}(R:RI J D)(hi:D.on i=Ib)(hm:i<18)(ho:D.on o=Ib):∃zy,Call ⟨b,Ig,Ig,d+21⟩ (.fn 453) [.ref D.w,.ref (D.ad i),.ref (D.ad o),.str k] J (.ok (vf (wA D.T k o (ln D.T i))) zy)/\Ask D J zy:=by
 obtain⟨l,zt,c,a,hl⟩:=cj (b:=b) (d:=d) R hi hm;obtain⟨hlen,yY⟩:=a.r.tG hi hm;obtain⟨L',zy,z⟩:=FL.go (F:=⟨b,Ig,Ig,d+20⟩) (xs:=[53,5]) (t:=.enum l) (b:=(.cons (.cond (.call (.zu 85) (.cons (.loc 5) (.cons (.loc 18) .nil))) (.cons (.ret (.call (.zu 117) (.cons (.loc 1) (.cons (.qQ (.loc 33) (.bin .add (.loc 53) (.int 1))) (.cons (.loc 0) .nil))))) .nil) .nil) .nil)) (l:=(rf D.ad (ln D.T i)).mapIdx λi v=>V.tup [.int i,v]) (zs:=ln D.T i) (g:=λp z=>.tup [.int p,.ref (D.ad z)]) (by rewrite[GI];rw[uk]) (λp z h=>by rewrite[Fv];rw[iF h];rfl) (P:=λp ys L zv=>C6 (zv=zt) (lk 1 L=Ie (.ref D.w)) (lk 0 L=Ie (.str k)) (lk 18 L=Ie (.ref (D.ad o))) (lk 33 L=Ie (.ref l)) (wA D.T k o ys=wA D.T k o (ln D.T i))) (Q:=λv zv=>Gr zt zv/\v=vf (wA D.T k o (ln D.T i))) (λp ys L zv h=>⟨_,by rw[h.1];exact hl,rfl⟩) (by rintro p x ys L zv hp hd⟨rfl,l1,l2,l3,l4,hf⟩;obtain⟨m1,m2⟩:=yY x (I9 hp);obtain hs:=yU (F:=⟨b,Ig,Ig,d+20⟩) (L:=st 5 (.ref (D.ad x)) (st 53 (.int p) L)) (g:=85) (fv:=.fn 274) rfl (zx yw) (zx (zg rfl (zg rfl l3))) (Vn (a.r.kN m1) (a.r.kN ho));rw[(a.r.beq m1 ho).1]at hs;obtain hf:(match x==o with|Ib=>zH D.T k ys|Ig=>wA D.T k o ys)=_:=hf;cases q:x==o with|false=>rw[q]at hs hf;exact⟨_,_,_,rfl,.inl ⟨zr (zO hs zj) zj,rfl,zg rfl (zg rfl l1),zg rfl (zg rfl l2),zg rfl (zg rfl l3),zg rfl (zg rfl l4),hf⟩⟩|true=>rw[q]at hs hf;obtain g:=Gr.push (J:=zv) (.list (rf D.ad ys));obtain⟨zk,c',g'⟩:=W7 (b:=b) (d:=d+17) (k:=k) (a.r.gr g) z7 (λy hy=>yY y (List.mem_of_mem_drop (hd▸hy)));refine⟨_,_,zk,rfl,.inr ⟨_,zT (ya hs (zT (zK (xk (g:=117) rfl (zx (zg rfl (zg rfl l1))) (Yq (zx (zg rfl (zg rfl l4))) (yd (zx (zg rfl yw)) yr g_) λzz=>Va (by lia) hl (sD (by lia)) ?_) (zx (zg rfl (zg rfl l2))) c')))),g.tr g',by rw[<-hf]⟩⟩;rewrite[L8];rw[<-hd];rfl) ((rf D.ad (ln D.T i)).mapIdx λi v=>V.tup [.int i,v]).length 0 _ [(1,.ref D.w),(2,.ref (D.ad i)),(18,.ref (D.ad o)),(0,.str k),(33,.ref l)] zt (by rewrite[GI];rw[uk];rfl) rfl ⟨rfl,rfl,rfl,rfl,rfl,rfl⟩;have Y':=yU (F:=⟨b,Ig,Ig,d+20⟩) (L:=[(1,.ref D.w),(2,.ref (D.ad i)),(18,.ref (D.ad o)),(0,.str k)]) (x:=.loc 1) (y:=.loc 2) (g:=81) rfl (zx rfl) (zx rfl) c;rcases z with⟨c,rfl,_,_,_,_,hf⟩|⟨v,c,g,rfl⟩;.exact⟨zy,zG rfl rfl (zr (yq Y') (zr (xY (t:=.enum l) rfl (zx rfl) ⟨_,hl,rfl⟩ rfl c) (zT (zK (by rw[<-hf];exact zQ))))),a⟩
 .exact⟨zy,zG rfl rfl (zr (yq Y') (zT (xY (t:=.enum l) rfl (zx rfl) ⟨_,hl,rfl⟩ rfl c))),a.tr (.of a.r g)⟩
theorem d8(o:Option Nat):isNone (D.opt o)=Ie (o.filter D.on).isNone:=by cases o with|none=>rfl|some j=>cases h:D.on j with|true=>rewrite[tB h];rewrite[HW];rw[if_pos h];rfl|false=>rewrite[WM h];rewrite[HW];rw[if_neg (by rw[h];exact Hi)];rfl
theorem ko{o:Option Nat}{j:Nat}(h:o.filter D.on=Ie j):D.opt o=.ref (D.ad j)/\D.on j=Ib:=by cases o with|none=>cases h|some j'=>cases h':D.on j' with|true=>rw[HW,if_pos h']at h;cases h;exact⟨tB h',h'⟩|false=>rw[HW,if_neg (by rw[h'];exact Hi)]at h;cases h
theorem RI.nT(R:RI J D)(hi:D.on i=Ib)(hm:i<18):∃fs,C7 (J[D.ad i]?=Ie (.inst 228 fs)) (lk 24 fs=Ie (D.opt (yn i))) (lk 18 fs=Ie (.ref (D.ad (if yb i then 4 else 3)))) (lk 21 fs=Ie (.bool (yb i))) (lk 11 fs=Ie (D.opt (par i))) (lk 41 fs=Ie (D.opt (yP i))) (lk 72 fs=none):=let⟨_,_,_,h,_⟩:=R.oo i hi hm;⟨_,h,rfl,rfl,rfl,rfl,rfl,rfl⟩
noncomputable def dh:S:=(.cons (.cond (.cmp .yO (.attr (.loc 22) 24) .none) (.cons (.ret (.attr (.loc 22) 24)) .nil) .nil) (.cons (.asg 22 (.attr (.loc 22) 11)) .nil))
theorem Ju(R:RI J D):∀(n p:Nat)(L:Loc),rank p<n->D.on p=Ib->p<18->lk 22 L=Ie (.ref (D.ad p))->X2 λm L'=>match uS D.on n p with|Ie j=>WL ⟨b,Ig,Ig,d⟩ (.cmp .yO (.loc 22) .none) dh m L J (.ok (.ret (.ref (D.ad j))) L' J)|none=>WL ⟨b,Ig,Ig,d⟩ (.cmp .yO (.loc 22) .none) dh m L J (.ok .next L' J)/\lk 2 L'=lk 2 L:=by intro n;induction n with|zero=>intro p L h;lia|succ n ih=>intro p L hr hp hm hL;obtain⟨fs,h1,h2,_,_,h5,_⟩:=R.nT hp hm;unfold uS;have hw:=zZ (F:=⟨b,Ig,Ig,d⟩) (J:=J) (zx hL) zQ (tP rfl);have hc:=zZ (F:=⟨b,Ig,Ig,d⟩) (zM (zx hL) h1 rfl h2) zQ (rd (d8 _));cases ho:(yn p).filter D.on with|some j=>rw[ho]at hc;rw[(ko ho).1]at h2;exact⟨_,L,.ret (n:=0) hw (zT (ya hc (zT (zK (zM (zx hL) h1 rfl h2)))))⟩|none=>rw[ho]at hc;cases hq:par p with|none=>rw[hq]at h5;exact⟨_,_,.turn hw (zr (zO hc zj) (zr (yq (zM (zx hL) h1 rfl h5)) zj)) (.stop (n:=0) (zZ (zx yw) zQ (uz rfl))),zg rfl rfl⟩|some p'=>obtain yY:=R.s.pm p p' hp hq;rw[hq,tB yY]at h5;obtain⟨m,L',z⟩:=ih p' (st 22 (.ref (D.ad p')) L) (by obtain this:=vA hq;lia) yY (rL hq) yw;refine⟨m+1,L',?_⟩;rw[GZ];have hb:XB ⟨b,Ig,Ig,d⟩ L dh J (.ok .next (st 22 (.ref (D.ad p')) L) J):=zr (zO hc zj) (zr (yq (zM (zx hL) h1 rfl h5)) zj);cases hu:uS D.on n p' with|some j=>rw[hu]at z;exact .turn hw hb z|none=>rw[hu]at z;exact⟨.turn hw hb z.1,z.2.trans (zg rfl rfl)⟩
end
section
variable{b:Bc}{d:Nat}{q:Bool}{J zt:St}{D:Dt}{i:Nat}{k:List Nat}
theorem W6{n:Nat}{fs:Loc}{v:V}{t:Bool}(h:J[n]?=Ie (.inst 228 fs))(hl:lk 41 fs=Ie v)(hv:isNone v=Ie t):Call ⟨b,q,Ig,d+1⟩ (.fn 225) [.ref n] J (.ok (.bool (!t)) J):=zG rfl rfl (zT (zK (zZ (zM (zx rfl) h rfl hl) zQ (rd hv))))
theorem kU{i:Nat}(hm:i<18):rank i<=7:=by
 obtain this:∀i<18,rank i<=7:=by decide+kernel
 exact this i hm
theorem LV(R:RI J D)(hi:D.on i=Ib)(hm:i<18)(ha:yP i=none):Call ⟨b,Ig,Ig,d+2⟩ (.fn 742) [.ref D.w,.ref (D.ad i)] J (.ok (.ref (D.ad (match yb i with|Ib=>((par i).bind (uS D.on 7)).getD 4|Ig=>3))) J):=by obtain⟨fs,h1,h2,h3,h4,h5,h6,h7⟩:=R.nT hi hm;rw[ha]at h6;have hc:E ⟨b,Ig,Ig,d+1⟩ [(3,.ref D.w),(2,.ref (D.ad i))] (.and (.cons (.attr (.loc 2) 21) (.cons (.not (.zl (.loc 2) 72 .nil)) .nil))) J (.ok (.bool (yb i&&Ib)) J):=oU (zM (zx rfl) h1 rfl h4) λzz=>vH (yj (zx rfl) (xM h1 rfl h7) zf (W6 (t:=Ib) h1 h6 rfl));have fin:∀{L:Loc}{j:Nat},lk 2 L=Ie (.ref (D.ad i))->(if yb i then 4 else 3)=j->XB ⟨b,Ig,Ig,d+1⟩ L (.cons (.ret (.attr (.loc 2) 18)) .nil) J (.ok (.ret (.ref (D.ad j))) L J):=λhl e=>zT (zK (zM (zx hl) h1 rfl (e▸h3)));cases hb:yb i with|false=>rw[hb]at hc;exact zG rfl rfl (zr (yq (we hc zQ)) (zr (p6 (.stop (n:=0) (zZ (zx rfl) zQ (uz rfl)))) (fin rfl (by rw[hb];rfl))))|true=>rw[hb]at hc;cases hp:par i with|none=>rw[hp]at h5;exact zG rfl rfl (zr (yq (wb hc (zM (zx rfl) h1 rfl h5))) (zr (p6 (.stop (n:=0) (zZ (zx rfl) zQ (uz rfl)))) (fin rfl (by rw[hb];rfl))))|some p=>obtain yY:=R.s.pm i p hi hp;rw[hp,tB yY]at h5;have h0:=yq (x:=22) (wb (b:=.none) hc (zM (F:=⟨b,Ig,Ig,d+1⟩) (zx (x:=2) rfl) h1 (x:=11) rfl h5));obtain⟨m,L',z⟩:=Ju (b:=b) (d:=d+1) R 7 p [(3,.ref D.w),(2,.ref (D.ad i)),(22,.ref (D.ad p))] (by obtain this:=vA hp;obtain this:=kU hm;lia) yY (rL hp) rfl;rw[GZ];cases hu:uS D.on 7 p with|some j=>rw[hu]at z;exact zG rfl rfl (zr h0 (zT (p6 z)))|none=>rw[hu]at z;exact zG rfl rfl (zr h0 (zr (p6 z.1) (fin (z.2.trans rfl) (by rw[hb];rfl))))
theorem RI.tm(R:RI J D)(hi:D.on i=Ib):X2 λc fs=>C5 (J[D.ad i]?=Ie (.inst c fs)) (c=228\/c=40) (i<18->c=228) (18<=i->c=40/\lk 18 fs=Ie (.ref (D.ad (i-15)))) (lk 24 fs=Ie (D.opt (yn i))):=by
 by_cases h:i<18;.obtain⟨_,_,_,h1,_⟩:=R.oo i hi h;exact⟨_,_,h1,.inl rfl,λzz=>rfl,λz=>absurd h (Fg.mpr z),rfl⟩
 .obtain⟨a,h1⟩:=R.th i hi (He h);exact⟨_,_,h1,.inr rfl,λz=>absurd z h,λzz=>⟨rfl,rfl⟩,rfl⟩
theorem cZ(R:RI J D)(hi:D.on i=Ib)(ha:yP i=none):Call ⟨b,Ig,Ig,d+3⟩ (.fn 735) [.ref D.w,.ref (D.ad i)] J (.ok (.ref (D.ad (xq D.on i))) J):=by
 obtain⟨c,fs,h1,hc,hl,hr,h2⟩:=R.tm hi;have hk:xc c 24=Ib:=by rcases hc with rfl|rfl<;>rfl
 have t0:prog.sub c 40=Ib:=by rcases hc with rfl|rfl<;>rfl
 have i0:=vH (F:=⟨b,Ig,Ig,d+2⟩) (yU (L:=[(3,.ref D.w),(6,.ref (D.ad i))]) (x:=.loc 6) (y:=.zu 64) (g:=23) rfl (zx rfl) (yk rfl) (ta h1 (s7 hc) rfl t0));have i1:=zZ (F:=⟨b,Ig,Ig,d+2⟩) (L:=[(3,.ref D.w),(6,.ref (D.ad i))]) (zM (zx (x:=6) rfl) h1 hk h2) zQ (rd (d8 _));unfold xq;cases ho:(yn i).filter D.on with
 |some j=>rw[ho]at i1;rw[(ko ho).1]at h2;exact zG rfl rfl (zr (zO i0 zj) (zT (ya i1 (zT (zK (zM (zx rfl) h1 hk h2))))))
 |none=>
  rw[ho]at i1;by_cases hm:i<18;.have:=hl hm;subst this;have hb:Hq i 18=Ib:=Hz hm;simp only[if_pos hb];obtain⟨num,main,hw,_⟩:=R.wo;exact zG rfl rfl (zr (zO i0 zj) (zr (zO i1 zj) (zT (zK (wb (yU (g:=23) rfl (zx rfl) (yk rfl) (ta h1 (s7 hc) rfl rfl)) (yj (zx rfl) (xM hw rfl rfl) (zp (zx rfl) zf) (LV R hi hm ha)))))))
  .obtain⟨rfl,h3⟩:=hr (He hm);obtain hb:¬Hq i 18=Ib:=λh=>hm (ID h);simp only[if_neg hb];exact zG rfl rfl (zr (zO i0 zj) (zr (zO i1 zj) (zT (zK (we (yU (g:=23) rfl (zx rfl) (yk rfl) (ta h1 (s7 hc) rfl rfl)) (zM (zx rfl) h1 rfl h3))))))
theorem Jv(R:RI J D):∀(n p:Nat),p<18->∀j,uS D.on n p=Ie j->D.on j=Ib/\j<18:=by
 intro n;induction n with
 |zero=>intro p hp j h;cases h
 |succ n ih=>
  intro p hm j h;unfold uS at h;cases ho:(yn p).filter D.on with
  |some j'=>
   rw[ho]at h;cases h;obtain this:∀p<18,(match yn p with|Ie j=>Hq j 18|none=>Ib)=Ib:=by decide+kernel
   obtain this:=this p hm;refine⟨(ko ho).2,?_⟩;rw[(FO.mp ho).1]at this;exact ID this
  |none=>rw[ho]at h;cases hq:par p with|none=>rw[hq]at h;cases h|some p'=>rw[hq]at h;exact ih p' (rL hq) j h
theorem dC(R:RI J D)(hi:D.on i=Ib):D.on (xq D.on i)=Ib/\xq D.on i<18:=by
 unfold xq;cases ho:(yn i).filter D.on with
 |some j=>
  have:∀p<22,(match yn p with|Ie j=>Hq j 18|none=>Ib)=Ib:=by decide+kernel
  have:=this i (by rcases R.s.bd i hi with h|h|h<;>lia);refine⟨(ko ho).2,?_⟩;rw[(FO.mp ho).1]at this;exact ID this
 |none=>
  obtain o3:=R.s.om 3 (by decide) (by decide);obtain o4:=R.s.om 4 (by decide) (by decide);rcases R.s.bd i hi with h|rfl|rfl;.show D.on (if Hq i 18 then _ else _)=Ib/\(if Hq i 18 then _ else _)<18;obtain hb:Hq i 18=Ib:=Hz h;simp only[if_pos hb];cases yb i with|false=>exact⟨o3,show 3<18 by decide⟩|true=>show D.on (((par i).bind (uS D.on 7)).getD 4)=Ib/\((par i).bind (uS D.on 7)).getD 4<18;cases hp:par i with|none=>exact⟨o4,show 4<18 by decide⟩|some p=>rw[GZ];cases hu:uS D.on 7 p with|none=>exact⟨o4,show 4<18 by decide⟩|some j=>exact Jv R 7 p (rL hp) j hu
  .exact⟨R.s.om 5 (by decide) (by decide),show 5<18 by decide⟩
  .exact⟨R.s.om 6 (by decide) (by decide),show 6<18 by decide⟩
theorem Lj{j:Nat}(R:RI J D)(hi:D.on i=Ib)(ha:yP i=none)(hj:D.on j=Ib):∃zy,Call ⟨b,Ig,Ig,d+21⟩ (.fn 572) [.ref D.w,.ref (D.ad i),.ref (D.ad j)] J (.ok (.bool ((ln D.T (xq D.on i)).contains j)) zy)/\Ask D J zy:=by obtain⟨num,main,hw,_⟩:=R.wo;obtain⟨o1,o2⟩:=dC R hi;obtain⟨l,zt,c,a,hl⟩:=cj (b:=b) (d:=d) R o1 o2;exact⟨zt,zG rfl rfl (zT (zK (yU (g:=43) rfl (yU (g:=81) rfl (zx rfl) (yj (zx rfl) (xM hw rfl rfl) (zp (zx rfl) zf) (cZ R hi ha)) c) (zx rfl) (nG a.r hl (λx hx=>((a.r.tG o1 o2).2 x hx).1) hj)))),a⟩
noncomputable def sE(ev:Bool):Option yy->Bool|Ie h=>ev||zR [112,117,98,108,105,99] h.s|none=>Ig
theorem q4{T:Tb}{h:yy}:∀{l:List Nat},zH T k l=Ie h->∃i∈l,(k,h)∈(T i).ms/\h.b≠none
|i::r,e=>by
 have e:(match yW k (T i).ms with|Ie h=>live h|none=>zH T k r)=Ie h:=e;cases hh:yW k (T i).ms with
 |some h'=>rw[hh]at e;have e:live h'=Ie h:=e;unfold live at e;cases hb:h'.b with|none=>rw[hb]at e;cases e|some t=>rw[hb]at e;cases e;exact⟨i,.head _,lT hh,by rw[hb];exact nofun⟩
 |none=>rw[hh]at e;obtain⟨j,h1,h2⟩:=q4 e;exact⟨j,.tail _ h1,h2⟩
theorem RI.ent(R:RI J D){h:yy}{l:List Nat}(hl:∀x∈l,D.on x=Ib/\x<18)(hf:zH D.T k l=Ie h):C4 (J[h.e]?=Ie (.inst 256 (D.w_ h))) (D.on h.o=Ib) (wK h) (h.b≠none):=by obtain⟨i,h1,h2,h3⟩:=q4 hf;obtain⟨m1,m2⟩:=hl i h1;obtain⟨e1,e2⟩:=R.ee i m1 m2 _ h2;exact⟨e1,e2,(R.s.wf.ks i _ h2).2,h3⟩
theorem wK.ps{h:yy}(w:wK h):plainS h.s=Ib/\plainS h.n=Ib:=by
 obtain h1:∀s∈vZ,plainS s=Ib:=by decide+kernel
 obtain h2:∀s∈yD,plainS s=Ib:=by decide+kernel
 exact⟨h1 _ w.s,h2 _ w.n⟩
theorem LN{ev:Bool}(R:RI J D)(hi:D.on i=Ib)(ha:yP i=none):∃zy,Call ⟨b,Ig,Ig,d+22⟩ (.fn 591) [.ref D.w,.ref (D.ad i),.str k,.bool ev] J (.ok (.bool (sE ev (zH D.T k (ln D.T (xq D.on i))))) zy)/\Ask D J zy:=by obtain⟨num,main,hw,_⟩:=R.wo;obtain⟨o1,o2⟩:=dC R hi;obtain⟨zt,c,a⟩:=iK (b:=b) (d:=d) (k:=k) R o1 o2;obtain h0:E ⟨b,Ig,Ig,d+21⟩ [(1,.ref D.w),(6,.ref (D.ad i)),(0,.str k),(91,.bool ev)] (.call (.zu 84) (.cons (.loc 1) (.cons (.zl (.loc 1) 105 (.cons (.loc 6) .nil)) (.cons (.loc 0) .nil)))) J (.ok (vf (zH D.T k (ln D.T (xq D.on i)))) zt):=xk rfl (zx rfl) (yj (zx rfl) (xM hw rfl rfl) (zp (zx rfl) zf) (cZ R hi ha)) (zx rfl) c;refine⟨zt,zG rfl rfl (zr (yq h0) (zT (zK ?_))),a⟩;cases hf:zH D.T k (ln D.T (xq D.on i))with|none=>exact tN (zZ (zx rfl) zQ (uz rfl))|some h=>obtain⟨h1,_,h2,_⟩:=a.r.ent (a.r.tG o1 o2).2 hf;exact vt (zZ (zx rfl) zQ (tP rfl)) (ub (jW (zx rfl) λzz=>zZ (zM (zx rfl) h1 rfl rfl) zV (u2 h2.ps.1 rfl)))
end
theorem k8{F:Fr}{J:St}{a c r:List Nat}(e:a++c=r)(hs:short r=Ib):ui F .add (.str a) (.str c) J (.ok (.str r) J):=by subst e;exact u5 hs
noncomputable def ra(j:Nat):List Nat:=if IP j 20 then[35,60,65,62]else if IP j 21 then[35,60,66,62]else wF j
noncomputable def u_(i:Nat):List Nat:=match yP i with|none=>wF i|Ie j=>[35,60,67,108,97,115,115,58]++ra j++[62]
section
variable{b:Bc}{d:Nat}{q:Bool}{J zt:St}{D:Dt}{i:Nat}{k:List Nat}
theorem kX{n:Nat}{s:List Nat}(h:xX J n s):Call ⟨b,q,Ig,d+1⟩ (.fn 308) [.ref n] J (.ok (.str s) J):=by obtain⟨fs,h1,h2,h3,h4⟩:=h;exact zG rfl rfl (zr (zO (zZ (zM (zx rfl) h1 rfl h3) zQ (uz rfl)) zj) (zr (zO (zZ (zM (zx rfl) h1 rfl h2) zQ (yT rfl)) zj) (zT (ya (zZ (zM (zx rfl) h1 rfl h4) zQ (yT rfl)) (zT (zK (zM (zx rfl) h1 rfl h2)))))))
theorem RI.nm(R:RI J D)(hi:D.on i=Ib)(hm:i<18)(ha:yP i=none):xX J (D.ad i) (wF i):=by obtain⟨_,_,_,h1,_⟩:=R.oo i hi hm;exact⟨_,h1,(show _=Ie (qb i)from rfl).trans (by unfold qb;rw[ha]),(show _=Ie (D.opt (yP i))from rfl).trans (by rw[ha];rfl),rfl⟩
theorem Nx{n c zP:Nat}{fs:Loc}(h:J[n]?=Ie (.inst c fs))(hc:c=228\/c=40)(hC:uY zP)(hs:prog.sub c zP=Ig){L:Loc}{x g:Nat}(hl:lk x L=Ie (.ref n))(hg:prog.glob g=Ie (.cl zP)):E ⟨b,q,Ig,d⟩ L (.call (.zu 23) (.cons (.loc x) (.cons (.zu g) .nil))) J (.ok (.bool Ig) J):=yU rfl (zx hl) (yk hg) (ta h (s7 hc) hC hs)
theorem LM(R:RI J D){j:Nat}(hj:D.on j=Ib)(ha:yP j=none):Call ⟨b,Ig,Ig,d+3⟩ (.fn 361) [.ref (D.ad j)] J (.ok (.str (ra j)) J):=by
 obtain⟨c,fs,h1,hc,hl,hr,_⟩:=R.tm hj;have sub:∀zP,zP=62\/zP=82\/zP=120\/zP=140\/zP=181\/zP=161->prog.sub c zP=Ig:=by rcases hc with rfl|rfl<;>(intro zP h;rcases h with rfl|rfl|rfl|rfl|rfl|rfl<;>rfl)
 obtain hd:Call ⟨b,Ig,Ig,d+2⟩ (.fn 346) [.ref (D.ad j),.int 6] J (.ok (.str (ra j)) J):=by
  have no:∀{zP g:Nat},uY zP->prog.sub c zP=Ig->prog.glob g=Ie (.cl zP)->∀{L:Loc},lk 6 L=Ie (.ref (D.ad j))->E ⟨b,Ig,Ig,d+1⟩ L (.call (.zu 23) (.cons (.loc 6) (.cons (.zu g) .nil))) J (.ok (.bool Ig) J):=λa e f zz l=>Nx h1 hc a e l f;obtain n1:=@no 62 121 rfl (sub _ (.inl rfl)) rfl;obtain n2:=@no 82 150 rfl (sub _ (.inr (.inl rfl))) rfl;obtain n3:=@no 120 153 rfl (sub _ (.inr (.inr (.inl rfl)))) rfl;obtain n4:=@no 140 152 rfl (sub _ (.inr (.inr (.inr (.inl rfl))))) rfl;by_cases hm:j<18
  .have:=hl hm;subst this;have e:ra j=wF j:=by
    obtain P_:¬IP j 20=Ib:=λh=>by obtain this:=IJ h;lia
    obtain PZ:¬IP j 21=Ib:=λh=>by obtain this:=IJ h;lia
    unfold ra;rewrite[if_neg P_];rw[if_neg PZ]
   rw[e];exact zG rfl rfl (zr (zO (n1 rfl) zj) (zr (zO (n2 rfl) zj) (zr (zO (n3 rfl) zj) (zr (zO (n4 rfl) zj) (zT (ya (yU rfl (zx rfl) (yk rfl) (ta h1 (s7 hc) rfl rfl)) (zT (zK (y7 rfl (zx rfl) (kX (R.nm hj hm ha)))))))))))
  .obtain⟨rfl,h3⟩:=hr (He hm);obtain n5:=@no 228 44 rfl rfl rfl;obtain n6:=@no 181 125 rfl rfl rfl;obtain n7:=@no 161 149 rfl rfl rfl;obtain this:∃o,C8 (o<18) (D.on o=Ib) (yP o=none) (j-15=o) ([35,60]++wF o=([35,60]++wF o)) (([35,60]++wF o)++[62]=ra j) (short (ra j)=Ib) (short ([35,60]++wF o)=Ib):=by
    rcases R.s.bd j hj with h|rfl|rfl;.exact absurd h hm
    .exact⟨5,by decide,R.s.om 5 (by decide) (by decide),rfl,rfl,rfl,rfl,rfl,rfl⟩
    .exact⟨6,by decide,R.s.om 6 (by decide) (by decide),rfl,rfl,rfl,rfl,rfl,rfl⟩
   obtain⟨o,o1,o2,o3,o4,o5,o6,o7,o8⟩:=this;rw[o4]at h3;exact zG rfl rfl (zr (zO (n1 rfl) zj) (zr (zO (n2 rfl) zj) (zr (zO (n3 rfl) zj) (zr (zO (n4 rfl) zj) (zr (zO (n5 rfl) zj) (zr (yq (y7 rfl (zM (zx rfl) h1 rfl h3) (kX (R.nm o2 o1 o3)))) (zr (zO (n6 rfl) zj) (zr (zO (n7 rfl) zj) (zT (zK (yd (yd zV (zx rfl) (k8 o5 o8)) zV (k8 o6 o7))))))))))))
 exact zG rfl rfl (zr (yq (y7 rfl (zx rfl) (cS (R.kN hj)))) (zT (ya (zZ (zx rfl) zV (u2 rfl rfl)) (zT (zK (yU rfl (zx rfl) (zx rfl) hd))))))
theorem kA{i j:Nat}(h:yP i=Ie j):yP j=none:=by
 obtain this:∀i<18,(match yP i with|Ie j=>(yP j).isNone|none=>Ib)=Ib:=by decide+kernel
 by_cases hi:i<18;.obtain this:=this i hi;rw[h]at this;exact H9.mp this
 .rw[yP,rG (He hi)]at h;cases h
theorem ck(R:RI J D)(hi:D.on i=Ib)(hm:i<18)(w8:∀j,yP i=Ie j->D.on j=Ib):Call ⟨b,Ig,Ig,d+4⟩ (.fn 308) [.ref (D.ad i)] J (.ok (.str (u_ i)) J):=by
 obtain hs:∀i<18,(match yP i with|Ie j=>short ([35,60,67,108,97,115,115,58]++ra j)&&short ([35,60,67,108,97,115,115,58]++ra j++[62])|none=>Ib)=Ib:=by decide+kernel
 obtain hs:=hs i hm;unfold u_;cases ha:yP i with|none=>exact kX (R.nm hi hm ha)|some j=>rw[ha]at hs;obtain⟨s1,s2⟩:=zh hs;obtain⟨kp,a1,a3,h1,_⟩:=R.oo i hi hm;obtain h2:lk 41 (D.wV i a1 a3 kp)=Ie (.ref (D.ad j)):=(show _=Ie (D.opt (yP i))from rfl).trans (by rewrite[ha];rw[tB (w8 j ha)]);exact zG rfl rfl (zT (ya (zZ (zM (zx rfl) h1 rfl h2) zQ (tP rfl)) (zT (zK (yd (yd zV (y7 rfl (zM (zx rfl) h1 rfl h2) (LM R (w8 j ha) (kA ha))) (k8 rfl s1)) zV (k8 rfl s2))))))
end
section
variable{b:Bc}{d:Nat}{q:Bool}{J zy:St}{L:Loc}{rest Vs:List O}{o o':O}{c:Nat}{fs:Loc}
theorem fL:(J++o::rest)[J.length]?=Ie o:=by rewrite[Hj (IV _)];rw[H4];rfl
theorem Vc:(J++o::rest).set J.length o'=J++o'::rest:=by rewrite[List.set_append_right _ _ (IV _)];rw[H4];rfl
theorem XC:(J++rest).length=J.length+rest.length:=IZ
theorem xh{x y:Nat}{e:M}{v:V}(hL:lk y L=Ie (.ref J.length))(he:E ⟨b,q,Ig,d⟩ L e (J++.inst c fs::rest) (.ok v (J++.inst c fs::Vs)))(hk:xc c x=Ib)(hs:short fs=Ib):X1 ⟨b,q,Ig,d⟩ L (.z9 (.loc y) x e) (J++.inst c fs::rest) (.ok .next L (J++.inst c (st x v fs)::Vs)):=by obtain this:=rC (F:=⟨b,q,Ig,d⟩) rfl he (zx hL) fL hk hs;rw[Vc]at this;exact this
theorem fj:E ⟨b,q,Ig,d⟩ L (.wY .nil) (J++rest) (.ok (.ref (J.length+rest.length)) (J++(rest++[.dict []]))):=by rewrite[<-I3];rw[<-XC];exact jX
theorem Yu:E ⟨b,q,Ig,d⟩ L (.lst .nil) (J++rest) (.ok (.ref (J.length+rest.length)) (J++(rest++[.list []]))):=by rewrite[<-I3];rw[<-XC];exact y' zf rfl
theorem oP{c fi:Nat}{fd:FD}{args:List V}(hc:prog.cls c=Ie (fi,Ig))(hf:prog.fn fi=Ie fd)(hb:ug fd.params fd.dflt (.ref J.length::args)=Ie L){zN:Loc}(hx:XB ⟨b,q,Ig,d⟩ L fd.body (J++[.inst c []]) (.ok .next zN zy)):Call ⟨b,q,Ig,d+2⟩ (.cl c) args J (.ok (.ref J.length) zy):=SQ rfl hc (mJ (F:=⟨b,q,Ig,d+1⟩) rfl rfl hf hb hx)
noncomputable def hJ(nu C:V)(a:Nat):Loc:=[(17,nu),(18,C),(114,.ref a),(24,.none),(106,.bool Ig),(104,.none)]
noncomputable def VF(c:Nat):Bool:=xc c 17&&(xc c 18&&(xc c 114&&(xc c 24&&(xc c 106&&xc c 104))))
theorem LH{nu C:V}(hk:VF c=Ib):Call ⟨b,q,Ig,d+1⟩ (.fn 37) [.ref J.length,nu,C] (J++[.inst c []]) (.ok .none (J++[.inst c (hJ nu C (J.length+1)),.dict []])):=by obtain⟨k1,hk⟩:=zh hk;obtain⟨k2,hk⟩:=zh hk;obtain⟨k3,hk⟩:=zh hk;obtain⟨k4,hk⟩:=zh hk;obtain⟨k5,k6⟩:=zh hk;exact vF rfl rfl (zr (xh rfl (zx rfl) k1 rfl) (zr (xh rfl (zx rfl) k2 rfl) (zr (xh rfl (fj (rest:=[.inst c _])) k3 rfl) (zr (xh rfl zQ k4 rfl) (zr (xh rfl sO k5 rfl) (zr (xh rfl zQ k6 rfl) zj))))))
theorem bu{nu C:V}(hk:VF c=Ib)(h0:lk 3 L=Ie (.ref J.length))(h1:lk 17 L=Ie nu)(h2:lk 18 L=Ie C):X1 ⟨b,q,Ig,d+1⟩ L (.expr (.zl (.zu 64) 47 (.cons (.loc 3) (.cons (.loc 17) (.cons (.loc 18) .nil))))) (J++[.inst c []]) (.ok .next L (J++[.inst c (hJ nu C (J.length+1)),.dict []])):=yF (yj (yk rfl) (fR rfl) (zp (zx h0) (zp (zx h1) (zp (zx h2) zf))) (LH hk))
theorem Vy{nu C xl pa:V}{ic:Bool}:XB ⟨b,q,Ig,d+1⟩ [(3,.ref J.length),(17,nu),(18,C),(0,xl),(21,.bool ic),(11,pa),(42,.none)] bB (J++[.inst 228 []]) (.ok .next [(3,.ref J.length),(17,nu),(18,C),(0,xl),(21,.bool ic),(11,pa),(42,.none)] (J++[.inst 228 (mf (J.length+1) (J.length+2) (J.length+3) (J.length+4) (J.length+5) nu C .none xl ic pa .none .none .none),.dict [],.dict [],.dict [],.list [],.list []])):=zr (bu rfl rfl rfl rfl) (zr (xh rfl (zx rfl) rfl rfl) (zr (xh rfl (zx rfl) rfl rfl) (zr (xh rfl (zx rfl) rfl rfl) (zr (xh rfl (zx rfl) rfl rfl) (zr (xh rfl (fj (rest:=[.inst 228 _,.dict []])) rfl rfl) (zr (xh rfl (fj (rest:=[.inst 228 _,.dict [],.dict []])) rfl rfl) (zr (xh rfl (Yu (rest:=[.inst 228 _,.dict [],.dict [],.dict []])) rfl rfl) (zr (xh rfl (Yu (rest:=[.inst 228 _,.dict [],.dict [],.dict [],.list []])) rfl rfl) (zr (xh rfl zQ rfl rfl) (zr (xh rfl zQ rfl rfl) (zr (xh rfl zQ rfl rfl) zj)))))))))))
noncomputable def qc(n:Nat)(nu C xl:V)(ic:Bool)(pa:V):List O:=[.inst 228 (mf (n+1) (n+2) (n+3) (n+4) (n+5) nu C .none xl ic pa .none .none .none),.dict [],.dict [],.dict [],.list [],.list []]
theorem L_{nu C xl:V}{ic:Bool}:Call ⟨b,q,Ig,d+3⟩ (.cl 228) [nu,C,xl,.bool ic] J (.ok (.ref J.length) (J++qc J.length nu C xl ic .none)):=oP rfl rfl rfl Vy
theorem LZ{nu C xl pa:V}{ic:Bool}:Call ⟨b,q,Ig,d+3⟩ (.cl 228) [nu,C,xl,.bool ic,pa,.none] J (.ok (.ref J.length) (J++qc J.length nu C xl ic pa)):=oP rfl rfl rfl Vy
theorem LI{nu C t:V}:Call ⟨b,q,Ig,d+3⟩ (.cl 62) [nu,C,t] J (.ok (.ref J.length) (J++[.inst 62 (st 62 t (hJ nu C (J.length+1))),.dict []])):=oP rfl rfl rfl (zr (bu rfl rfl rfl rfl) (zr (xh rfl (zx rfl) rfl rfl) zj))
theorem Lp{nu C t:V}:Call ⟨b,q,Ig,d+3⟩ (.cl 181) [nu,C,t] J (.ok (.ref J.length) (J++[.inst 181 (st 161 .none (st 59 t (hJ nu C (J.length+1)))),.dict []])):=oP rfl rfl rfl (zr (bu rfl rfl rfl rfl) (zr (xh rfl (zx rfl) rfl rfl) (zr (xh rfl zQ rfl rfl) zj)))
noncomputable def jV(xl C so pa bo si:V):Loc:=[(0,xl),(18,C),(35,so),(89,pa),(63,bo),(14,si),(115,.tup []),(111,.none)]
theorem cq{xl C so pa bo si:V}:Call ⟨b,q,Ig,d+2⟩ (.cl 256) [xl,C,so,pa,bo,si] J (.ok (.ref J.length) (J++[.inst 256 (jV xl C so pa bo si)])):=oP rfl rfl rfl (zr (xh rfl (zx rfl) rfl rfl) (zr (xh rfl (zx rfl) rfl rfl) (zr (xh rfl (zx rfl) rfl rfl) (zr (xh rfl (zx rfl) rfl rfl) (zr (xh rfl (zx rfl) rfl rfl) (zr (xh rfl (zx rfl) rfl rfl) (zr (xh rfl (xU zf rfl) rfl rfl) (zr (xh rfl zQ rfl rfl) zj))))))))
theorem LY{n:Nat}{xl C so pa bo si Wj zm:V}{s:List Nat}(h:J[n]?=Ie (.inst 256 (jV xl C so pa bo si))):Call ⟨b,q,Ig,d+3⟩ (.fn 253) [.ref n,Wj,zm,.str s] J (.ok (.ref J.length) (J++[.inst 256 (jV Wj zm so pa bo (.str s))])):=by obtain h':∀o,(J++[o])[n]?=Ie (.inst 256 (jV xl C so pa bo si)):=λo=>(Gr.push o).get h;exact zG rfl rfl (zr (yq (y0 (yk rfl) (zp (zx rfl) (zp (zx rfl) (zp (zM (zx rfl) h rfl rfl) (zp (zM (zx rfl) h rfl rfl) (zp (zM (zx rfl) h rfl rfl) (zp (we (zZ (zx rfl) zQ (yT rfl)) (zx rfl)) zf)))))) cq)) (zr (xh rfl (zM (zx rfl) (h' _) rfl rfl) rfl rfl) (zr (xh rfl (zM (zx rfl) (h' _) rfl rfl) rfl rfl) (zT (zK (zx rfl))))))
end
theorem gB{k:List Nat}{v:V}:∀{md:List (List Nat×V)},zE k (dput k v md)=Ie v|[]=>by show(match zR k k with|Ib=>Ie v|Ig=>zE k [])=Ie v;rw[xd.mpr rfl]|(a,w)::r=>by show zE k (match zR k a with|Ib=>(a,v)::r|Ig=>(a,w)::dput k v r)=Ie v;cases q:zR k a with|true=>show(match zR k a with|Ib=>Ie v|Ig=>zE k r)=Ie v;rw[q]|false=>show(match zR k a with|Ib=>Ie w|Ig=>zE k (dput k v r))=Ie v;rw[q];exact gB
theorem gC{k j:List Nat}{v:V}(h:zR j k=Ig):∀{md:List (List Nat×V)},zE j (dput k v md)=zE j md|[]=>by show(match zR j k with|Ib=>Ie v|Ig=>zE j [])=_;rw[h]|(a,w)::r=>by show zE j (match zR k a with|Ib=>(a,v)::r|Ig=>(a,w)::dput k v r)=(match zR j a with|Ib=>Ie w|Ig=>zE j r);cases q:zR k a with|true=>show(match zR j a with|Ib=>Ie v|Ig=>zE j r)=_;rewrite[<-xd.mp q];rw[h]|false=>show(match zR j a with|Ib=>Ie w|Ig=>zE j (dput k v r))=_;rw[gC h]
section
variable{b:Bc}{d:Nat}{q:Bool}{J zt zb zy:St}{D:Dt}{i:Nat}{k:List Nat}
structure Fx(D:Dt)(J zy:St):Prop where
 r:RI zy D
 k:Bt [D.w,D.w+2] J zy
 m:∀md,J[D.w+2]?=some (.dict md)->∃pN,zy[D.w+2]?=some (.dict pN)/\∀s v,zE s md=some v->zE s pN=some v
theorem Fx.tr(a:Fx D J zt)(c:Fx D zt zy):Fx D J zy:=⟨c.r,a.k.tr c.k,λmd h=>let⟨Mg,h1,g1⟩:=a.m md h;let⟨nT,h2,g2⟩:=c.m Mg h1;⟨nT,h2,λs v h=>g2 s v (g1 s v h)⟩⟩
theorem Fx.of(R:RI J D)(g:Gr J zy):Fx D J zy:=⟨R.gr g,.of g,λmd h=>⟨md,g.get h,λzz zz h=>h⟩⟩
theorem MT{w r:Nat}(h:w+5<=r):r∉[w,w+2]:=λh=>by
 rcases IU.mp h with h|h;.lia
 .rw[I_]at h;lia
theorem RI.fx(R:RI J D)(k:Bt [D.w,D.w+2] J zy)(wo:X2 λnum main=>zy[D.w]?=Ie (.inst 899 (wf D.w num D.zC main))/\∀i,D.on i=Ib->D.nu i<=num)(md:∃md,zy[D.w+2]?=Ie (.dict md)/\r4 zy D md):RI zy D:=by
 obtain⟨n0,m0,hw,_⟩:=R.wo;refine R.same (λr o h n1 n2=>k.2 r o h λz=>?_) wo md λi hi h=>?_
 .rcases IU.mp z with z|z;.subst z;replace h:=yZ hw h;cases h;cases n2
  .exact n1 (I_.mp z)
 .obtain⟨kp,a1,a3,h1,h2⟩:=R.oo i hi h;exact⟨kp,a1,a3,k.2 _ _ h1 (MT (R.s.lo i hi).1),h2⟩
theorem xX.bt{rs:List Nat}(k:Bt rs J zy){n:Nat}{s:List Nat}(hn:∀fs,J[n]?=Ie (.inst 228 fs)->n∉rs)(h:xX J n s):xX zy n s:=let⟨fs,h1,h2⟩:=h;⟨fs,k.2 n _ h1 (hn fs h1),h2⟩
theorem RI.pK(R:RI J D){n:Nat}{fs:Loc}(h:J[n]?=Ie (.inst 228 fs)):n∉[D.w,D.w+2]:=λz=>by
 obtain⟨n0,m0,hw,_⟩:=R.wo;rcases IU.mp z with z|z;.subst z;replace h:=yZ hw h;cases h
 .exact R.iX h rfl (I_.mp z)
theorem cf{num:Int}{main:V}(hw:J[D.w]?=Ie (.inst 899 (wf D.w num D.zC main))):Call ⟨b,Ig,Ig,d+1⟩ (.fn 680) [.ref D.w] J (.ok (.int (num+1)) (J.set D.w (.inst 899 (wf D.w (num+1) D.zC main)))):=zG rfl rfl (zr (bw rfl (zx rfl) hw rfl rfl yr hw rfl) (zT (zK (zM (zx rfl) (get_set hw) rfl rfl))))
theorem YO(R:RI J D){num:Int}{main:V}(hw:J[D.w]?=Ie (.inst 899 (wf D.w num D.zC main)))(hn:∀i,D.on i=Ib->D.nu i<=num):Fx D J (J.set D.w (.inst 899 (wf D.w (num+1) D.zC main))):=by
 have k:Bt [D.w,D.w+2] J (J.set D.w (.inst 899 (wf D.w (num+1) D.zC main))):=Bt.re.set _ (.inl (.head _));obtain ne:D.w≠D.w+2:=by lia
 refine⟨R.fx k ⟨_,main,get_set hw,λi h=>Er (hn i h) (by lia)⟩ ?_,k,λmd h=>⟨md,zJ h ne,λzz zz h=>h⟩⟩;obtain⟨md,h1,h2⟩:=R.md;exact⟨md,zJ h1 ne,h2.to λn s e=>e.bt k λzz h=>R.pK h⟩
structure v5(D:Dt)(yt:St)(n:Nat)(s:List Nat)(fs:Loc)(zv:St):Prop where
 b:Bt [D.w,D.w+2] yt zv
 r:RI zv D
 o:zv[n]?=some (.inst 228 fs)
 l:C3 (lk 0 fs=some (.str s)) (lk 41 fs=some .none) (lk 42 fs=some .none)
 m:∃md,C3 (zv[D.w+2]?=some (.dict md)) (zE s md=some (.ref n)) (∀tF,yt[D.w+2]?=some (.dict tF)->∀s v,zE s tF=some v->zE s md=some v)
section
variable{yt zv zk:St}{n:Nat}{s:List Nat}{fs x9:Loc}
theorem v5.fx(j:v5 D yt n s fs zv)(f:Fx D zv zk):v5 D yt n s fs zk:=by obtain⟨md,h1,h2,h3⟩:=j.m;obtain⟨pN,wu,tj⟩:=f.m md h1;exact⟨j.b.tr f.k,f.r,f.k.2 _ _ j.o (j.r.pK j.o),j.l,pN,wu,tj _ _ h2,λtF h s v e=>tj _ _ (h3 tF h s v e)⟩
theorem v5.wr(j:v5 D yt n s fs zv)(gi:RI yt D){m:Nat}{o:O}(hm:yt.length<=m)(hn:m=n->C4 (o=.inst 228 x9) (lk 0 x9=Ie (.str s)) (lk 41 x9=Ie .none) (lk 42 x9=Ie .none))(hf:m≠n->x9=fs/\∃xs,zv[m]?=Ie (.list xs)):v5 D yt n s x9 (zv.set m o):=by
 obtain⟨num,main,hw,hl⟩:=j.r.wo;obtain⟨md,h1,h2,h3⟩:=j.m;obtain⟨_,_,w0,_⟩:=gi.wo;obtain⟨_,m0,_⟩:=gi.md;obtain n1:m≠D.w:=λe=>absurd (xr w0) (by lia);obtain n2:m≠D.w+2:=λe=>absurd (xr m0) (by lia);have bt:=j.b.set (r:=m) o (.inr hm);have em:∀a s',xX zv a s'->a≠n->xX (zv.set m o) a s':=λa s'⟨f,e,z⟩ha=>by
  refine⟨f,zJ e λq=>?_,z⟩;by_cases qn:m=n;.exact ha (q.symm.trans qn)
  .obtain⟨_,xs,hx⟩:=hf qn;rw[<-q,hx]at e;cases e
 have eo:(zv.set m o)[n]?=Ie (.inst 228 x9)/\(C3 (lk 0 x9=Ie (.str s)) (lk 41 x9=Ie .none) (lk 42 x9=Ie .none)):=by
  by_cases qn:m=n;.obtain⟨e1,e2,e3,e4⟩:=hn qn;subst qn e1;exact⟨get_set j.o,e2,e3,e4⟩
  .rw[(hf qn).1];exact⟨zJ j.o qn,j.l⟩
 refine⟨bt,gi.fx bt ⟨num,main,zJ hw n1,hl⟩ ⟨md,zJ h1 n2,?_⟩,eo.1,eo.2,md,zJ h1 n2,h2,h3⟩;obtain⟨pN,wu,h4⟩:=j.r.md;replace wu:=yZ h1 wu;cases wu;refine⟨h4.j,λs' hs v hv=>?_,h4.nd,h4.ks⟩;obtain⟨a,e,z⟩:=h4.e s' hs v hv;refine⟨a,e,?_⟩;by_cases qa:a=n;.subst qa;obtain⟨f,q1,q2,_⟩:=z;replace q1:=yZ j.o q1;cases q1;replace q2:=yZ j.l.1 q2;cases q2;exact⟨x9,eo.1,eo.2⟩
 .exact em a s' z qa
end
end
noncomputable def mods:List (List Nat):=[[75,101,114,110,101,108],[67,111,109,112,97,114,97,98,108,101],[69,110,117,109,101,114,97,98,108,101]]
section
variable{b:Bc}{d:Nat}{q:Bool}{J zt zb zy:St}{D:Dt}{i:Nat}{k:List Nat}
noncomputable abbrev tU(b:Bc)(d:Nat)(D:Dt)(s:List Nat):Prop:=∀zv,RI zv D->X2 λn zk=>C3 (Call ⟨b,Ig,Ig,d⟩ (.fn 701) [.ref D.w,.str s] zv (.ok (.ref n) zk)) (Fx D zv zk) (s∈tu->xX zk n s)
theorem m'{L:Loc}{x:Nat}{s:List Nat}(R:RI J D)(h:tU b d D s)(hx:lk x L=Ie (.ref D.w)){m:M}(hm:E ⟨b,Ig,Ig,d⟩ L m J (.ok (.str s) J)):X2 λn zk=>C3 (E ⟨b,Ig,Ig,d⟩ L (.zl (.loc x) 38 (.cons m .nil)) J (.ok (.ref n) zk)) (Fx D J zk) (s∈tu->xX zk n s):=by obtain⟨num,main,hw,_⟩:=R.wo;obtain⟨n,zk,c,f,g⟩:=h J R;exact⟨n,zk,yj (zx hx) (xM hw rfl rfl) (zp hm zf) c,f,g⟩
theorem kY{s:List Nat}{ic:Bool}{pa:Option (List Nat)}{mx:List (List Nat)}(R:RI J D)(hs:s∈tu)(h1:mods.any (zR s)=!ic)(h2:zE s oW=Ie (match pa with|Ie p=>.str p|none=>.none))(h3:(zE s nR).getD (.tup [])=.tup (mx.map V.str))(JA:mx.length<=5)(o9:short (s++[46])=Ib)(hn:∀md,J[D.w+2]?=Ie (.dict md)->zE s md=none)(p1:∀p,pa=Ie p->tU b (d+3) D p)(p2:tU b (d+3) D (if ic then[67,108,97,115,115]else[77,111,100,117,108,101]))(p3:∀p∈mx,tU b (d+3) D p):X2 λn zy=>C3 (Call ⟨b,Ig,Ig,d+4⟩ (.fn 706) [.ref D.w,.str s] J (.ok (.ref n) zy)) (Fx D J zy) (xX zy n s):=by
 obtain⟨num,main,hw,uv⟩:=R.wo;obtain f1:=YO R hw uv;obtain⟨md,pg,oB⟩:=f1.r.md;obtain hn:=hn md (by obtain this:=zJ (o:=.inst 899 (wf D.w (num+1) D.zC main)) pg (show D.w≠D.w+2 by lia);obtain⟨tF,e0,_⟩:=R.md;obtain e1:=zJ (o:=.inst 899 (wf D.w (num+1) D.zC main)) e0 (show D.w≠D.w+2 by lia);replace e1:=yZ pg e1;cases e1;exact e0);obtain sP:=get_set (o:=.inst 899 (wf D.w (num+1) D.zC main)) hw;generalize w7:J.set D.w (.inst 899 (wf D.w (num+1) D.zC main))=zv at*;have len:zv.length=J.length:=by rewrite[<-w7];rw[HS]
 have g2:Gr zv (zv++qc zv.length (.int (num+1)) .none (.str s) ic .none):=⟨by rw[IZ];exact HE _ _,λr hr=>HA hr⟩;obtain eS:=g2.get pg;obtain ho:(zv++qc zv.length (.int (num+1)) .none (.str s) ic .none)[zv.length]?=Ie (.inst 228 (mf (zv.length+1) (zv.length+2) (zv.length+3) (zv.length+4) (zv.length+5) (.int (num+1)) .none .none (.str s) ic .none .none .none .none)):=fL;obtain kl:md.length<=1000:=by obtain this:=dH (k:=tu++(HM 5).map wF) oB.nd λx hx=>(oB.ks x hx).elim (G_ _) λ⟨j,hj,e⟩=>Gu _ (HT.mpr ⟨j,HC.mpr hj,e.symm⟩);rw[IY]at this;exact I8 this (by decide)
 have wM:D.w+2≠zv.length:=Ha (xr pg);have j0:v5 D J zv.length s (mf (zv.length+1) (zv.length+2) (zv.length+3) (zv.length+4) (zv.length+5) (.int (num+1)) .none .none (.str s) ic .none .none .none .none) ((zv++qc zv.length (.int (num+1)) .none (.str s) ic .none).set (D.w+2) (.dict (dput s (.ref zv.length) md))):=by
  have bt:Bt [D.w,D.w+2] J ((zv++qc zv.length (.int (num+1)) .none (.str s) ic .none).set (D.w+2) (.dict (dput s (.ref zv.length) md))):=(f1.k.tr (Bt.of g2)).set _ (.inl (.tail _ (.head _)));have OX:D.w+2≠D.w:=by lia
  have em:∀a s',xX zv a s'->xX ((zv++qc zv.length (.int (num+1)) .none (.str s) ic .none).set (D.w+2) (.dict (dput s (.ref zv.length) md))) a s':=λa s'⟨f,e,z⟩=>⟨f,zJ (g2.get e) (λz=>by rw[<-z,pg]at e;cases e),z⟩;have dn:∀s' v,zE s' md=Ie v->zE s' (dput s (.ref zv.length) md)=Ie v:=λs' v h=>by rw[gC];exact h;cases z:zR s' s with|false=>rfl|true=>rw[xd.mp z,hn]at h;cases h
  refine⟨bt,R.fx bt ⟨_,main,zJ (g2.get sP) OX,λi hi=>Er (uv i hi) (by lia)⟩ ⟨_,get_set eS,λj hj=>dn _ _ (oB.j j hj),λs' sR v hv=>?_,m6 oB.nd,λx hx=>?_⟩,zJ ho wM,⟨rfl,rfl,rfl⟩,_,get_set eS,gB,λtF h=>?_⟩;.cases z:zR s' s with|true=>rw[xd.mp z]at hv⊢;replace hv:=yZ gB hv;cases hv;exact⟨_,rfl,_,zJ ho wM,rfl,rfl,rfl⟩|false=>rw[gC z]at hv;obtain⟨a,e,z⟩:=oB.e s' sR v hv;exact⟨a,e,em a s' z⟩
  .rcases ft hx with e|e;.rw[e];exact .inl hs
   .exact oB.ks x e
  .obtain⟨pN,wu,tj⟩:=f1.m tF h;replace wu:=yZ pg wu;cases wu;exactλs v e=>dn s v (tj s v e)
 have x0:=yq (F:=⟨b,Ig,Ig,d+3⟩) (L:=[(3,.ref D.w),(0,.str s)]) (x:=21) (J:=J) (zZ (zx (x:=0) rfl) (yk (x:=168) rfl) (gV (l:=mods) rfl).2);rw[h1,Bool.not_not]at x0;have x1:=yq (F:=⟨b,Ig,Ig,d+3⟩) (L:=[(3,.ref D.w),(0,.str s),(21,.bool ic)]) (x:=4) (y0 (fm:=.zu 44) (yk rfl) (zp (yj (zx (x:=3) rfl) (xM (x:=17) hw rfl rfl) zf (w7▸cf hw)) (zp zQ (zp (zx (x:=0) rfl) (zp (zx (x:=21) rfl) zf)))) L_);have x2:=p8 (F:=⟨b,Ig,Ig,d+3⟩) (L:=[(3,.ref D.w),(0,.str s),(21,.bool ic),(4,.ref zv.length)]) rfl (zx (x:=4) rfl) (zM (x:=76) (zx (x:=3) rfl) (g2.get sP) rfl rfl) (zx (x:=0) rfl) eS (xG kl);generalize(zv++qc zv.length (.int (num+1)) .none (.str s) ic .none).set (D.w+2) (.dict (dput s (.ref zv.length) md))=wB at*;obtain le:J.length<=zv.length:=Nat.le_of_eq len.symm;obtain⟨wL,x3,j1⟩:∃zk,X1 ⟨b,Ig,Ig,d+3⟩ [(3,.ref D.w),(0,.str s),(21,.bool ic),(4,.ref zv.length)] (.z9 (.loc 4) 34 (.loc 0)) wB (.ok .next [(3,.ref D.w),(0,.str s),(21,.bool ic),(4,.ref zv.length)] zk)/\v5 D J zv.length s (st 34 (.str s) (mf (zv.length+1) (zv.length+2) (zv.length+3) (zv.length+4) (zv.length+5) (.int (num+1)) .none .none (.str s) ic .none .none .none .none)) zk:=⟨_,rC rfl (zx rfl) (zx rfl) j0.o rfl rfl,j0.wr R le (λzz=>⟨rfl,rfl,rfl,rfl⟩) λh=>absurd rfl h⟩;have x4:=yq (F:=⟨b,Ig,Ig,d+3⟩) (L:=[(3,.ref D.w),(0,.str s),(21,.bool ic),(4,.ref zv.length)]) (x:=11) (yH (yk (x:=171) rfl) (zx (x:=0) rfl) (nF (.inr j1.r.c0) h2));obtain⟨pv,Ij,e5,f5⟩:X2 λpv zk=>E ⟨b,Ig,Ig,d+3⟩ [(3,.ref D.w),(0,.str s),(21,.bool ic),(4,.ref zv.length),(11,(match pa with|Ie p=>.str p|none=>.none))] (.ite (.cmp .is (.loc 11) .none) .none (.zl (.loc 3) 38 (.cons (.loc 11) .nil))) wL (.ok pv zk)/\Fx D wL zk:=by cases pa with|none=>exact⟨_,wL,wb (zZ (zx rfl) zQ (yT rfl)) zQ,.of j1.r .rfl⟩|some p=>obtain⟨n,zk,e,f,_⟩:=m' (L:=[(3,.ref D.w),(0,.str s),(21,.bool ic),(4,.ref zv.length),(11,.str p)]) (x:=3) j1.r (p1 p rfl) rfl (zx (x:=11) rfl);exact⟨_,zk,we (zZ (zx rfl) zQ (yT rfl)) e,f⟩
 generalize(match pa with|Ie p=>V.str p|none=>V.none)=pV at*;obtain j2:=j1.fx f5;obtain⟨JQ,x5,j3⟩:∃zk,X1 ⟨b,Ig,Ig,d+3⟩ [(3,.ref D.w),(0,.str s),(21,.bool ic),(4,.ref zv.length),(11,pV)] (.z9 (.loc 4) 11 (.ite (.cmp .is (.loc 11) .none) .none (.zl (.loc 3) 38 (.cons (.loc 11) .nil)))) wL (.ok .next [(3,.ref D.w),(0,.str s),(21,.bool ic),(4,.ref zv.length),(11,pV)] zk)/\v5 D J zv.length s (st 11 pv (st 34 (.str s) (mf (zv.length+1) (zv.length+2) (zv.length+3) (zv.length+4) (zv.length+5) (.int (num+1)) .none .none (.str s) ic .none .none .none .none))) zk:=⟨_,rC rfl e5 (zx rfl) j2.o rfl rfl,j2.wr R le (λzz=>⟨rfl,rfl,rfl,rfl⟩) λh=>absurd rfl h⟩;obtain⟨on,Ii,e6,f6,_⟩:=m' (L:=[(3,.ref D.w),(0,.str s),(21,.bool ic),(4,.ref zv.length),(11,pV)]) (x:=3) (m:=(.ite (.loc 21) (.str [67,108,97,115,115]) (.str [77,111,100,117,108,101]))) j3.r p2 rfl (by cases ic with|true=>exact wb (zx rfl) zV|false=>exact we (zx rfl) zV);obtain j4:=j3.fx f6;obtain⟨r6,x6,j5⟩:∃zk,X1 ⟨b,Ig,Ig,d+3⟩ [(3,.ref D.w),(0,.str s),(21,.bool ic),(4,.ref zv.length),(11,pV)] (.z9 (.loc 4) 18 (.zl (.loc 3) 38 (.cons (.ite (.loc 21) (.str [67,108,97,115,115]) (.str [77,111,100,117,108,101])) .nil))) JQ (.ok .next [(3,.ref D.w),(0,.str s),(21,.bool ic),(4,.ref zv.length),(11,pV)] zk)/\v5 D J zv.length s (st 18 (.ref on) (st 11 pv (st 34 (.str s) (mf (zv.length+1) (zv.length+2) (zv.length+3) (zv.length+4) (zv.length+5) (.int (num+1)) .none .none (.str s) ic .none .none .none .none)))) zk:=⟨_,rC rfl e6 (zx rfl) j4.o rfl rfl,j4.wr R le (λzz=>⟨rfl,rfl,rfl,rfl⟩) λh=>absurd rfl h⟩;generalize jH:(st 18 (.ref on) (st 11 pv (st 34 (.str s) (mf (zv.length+1) (zv.length+2) (zv.length+3) (zv.length+4) (zv.length+5) (.int (num+1)) .none .none (.str s) ic .none .none .none .none))))=fs at*;have J9:zv.length<r6.length:=xr j5.o;have jg:v5 D J zv.length s fs (r6++[.list []]):=j5.fx (.of j5.r (Gr.push _));have OT:r6.length∉[D.w,D.w+2]:=λz=>by
  rcases IU.mp z with z|z;.obtain⟨_,_,w,_⟩:=R.wo;exact absurd (xr w) (by lia)
  .rw[I_]at z;exact absurd (xr pg) (by lia)
 obtain⟨acc,Ih,k,k1,k2,k3⟩:=CL.go (F:=⟨b,Ig,Ig,d+3⟩) (L:=[(3,.ref D.w),(0,.str s),(21,.bool ic),(4,.ref zv.length),(11,pV)]) (xs:=[66]) (t:=.tup (mx.map V.str)) (elt:=(.zl (.loc 3) 38 (.cons (.loc 66) .nil))) (y_:=.nil) (n0:=r6.length) (l:=mx.map V.str) (zs:=mx) (g:=λzz z=>.str z) (IY _) (λp z h=>by rewrite[IM];rw[h];rfl) (P:=λp ys acc zk=>C3 (v5 D J zv.length s fs zk) (acc.length<=p) (zk[r6.length]?=Ie (.list acc))) (λzz zz zz zz zz=>rfl) (by rintro p x ys acc zk hp hd⟨j,hl,hc⟩;obtain⟨n,bc,e,f,_⟩:=m' (L:=st 66 (.str x) [(3,.ref D.w),(0,.str s),(21,.bool ic),(4,.ref zv.length),(11,pV)]) (x:=3) j.r (p3 x (I9 hp)) rfl (zx (x:=66) rfl);obtain wW:=f.k.2 _ _ hc OT;obtain yJ:=(IF.mp hp).1;refine⟨_,zk,rfl,.inr ⟨bc,_,.inl ⟨rfl,rfl⟩,e,wW,xG (by lia),(j.fx f).wr R (by lia) (λz=>absurd z (by lia)) (λzz=>⟨rfl,_,wW⟩),by rw[IZ];exact Hs hl,get_set wW⟩⟩) mx.length 0 mx [] (r6++[.list []]) rfl rfl ⟨jg,IV _,z7⟩;obtain e7:=sb (t:=.tup (mx.map V.str)) rfl rfl rfl (it:=(.zl (.zu 133) 49 (.cons (.loc 0) (.cons (.tup .nil) .nil)))) (zt:=r6) (yj (yk rfl) (YY j5.r.c1) (zp (zx (x:=0) rfl) (zp (xU zf rfl) zf)) (h3▸l9 (.inr j5.r.c1))) rfl (by rw[IY];exact k);obtain⟨bb,x7,j6⟩:∃zk,X1 ⟨b,Ig,Ig,d+3⟩ [(3,.ref D.w),(0,.str s),(21,.bool ic),(4,.ref zv.length),(11,pV)] (.z9 (.loc 4) 80 (.comp (.zl (.loc 3) 38 (.cons (.loc 66) .nil)) [66] .plain (.zl (.zu 133) 49 (.cons (.loc 0) (.cons (.tup .nil) .nil))) .nil)) r6 (.ok .next [(3,.ref D.w),(0,.str s),(21,.bool ic),(4,.ref zv.length),(11,pV)] zk)/\v5 D J zv.length s (st 80 (.ref r6.length) fs) zk:=⟨_,rC rfl e7 (zx rfl) k1.o rfl (by subst jH;rfl),k1.wr R le (λzz=>⟨rfl,by subst jH;rfl,by subst jH;rfl,by subst jH;rfl⟩) λh=>absurd rfl h⟩;obtain⟨Iy,main',pd,_⟩:=j6.r.wo;obtain vE:Call ⟨b,Ig,Ig,d+3⟩ (.fn 713) [.ref D.w,.str s] bb (.ok .none bb):=vF rfl rfl (zr (zO (uL (zZ (yd (zx rfl) zV (u5 o9)) (zM (zx rfl) pd rfl rfl) (mM j6.r.n0).1) (uK (zZ (yd (zx rfl) zV (u5 o9)) (zM (zx rfl) pd rfl rfl) (mM j6.r.n1).1))) zj) zj);obtain⟨Mf,m1,m2,m3⟩:=j6.m;refine⟨zv.length,bb,zG rfl rfl (zr x0 (zr x1 (zr x2 (zr x3 (zr x4 (zr x5 (zr x6 (zr x7 (zr (ya (zM (zx rfl) pd rfl rfl) (zr (yF (yj (zx rfl) (xM pd rfl rfl) (zp (zx rfl) zf) vE)) zj)) (zT (zK (zx rfl)))))))))))),⟨j6.r,j6.b,λtF h=>⟨Mf,m1,m3 tF h⟩⟩,_,j6.o,j6.l⟩
end
section
variable{b:Bc}{d:Nat}{q:Bool}{J zt zb zy:St}{D:Dt}{i:Nat}{k:List Nat}
theorem ct{j:Nat}(hj:j<5)(R:RI J D):Call ⟨b,Ig,Ig,d+1⟩ (.fn 701) [.ref D.w,.str (wF j)] J (.ok (.ref (D.ad j)) J):=by obtain⟨md,h1,h2⟩:=R.md;obtain⟨num,main,hw,_⟩:=R.wo;obtain h0:E ⟨b,Ig,Ig,d⟩ [(3,.ref D.w),(0,.str (wF j))] (.zl (.attr (.loc 3) 76) 49 (.cons (.loc 0) .nil)) J (.ok ((zE (wF j) md).getD .none) J):=yj (zM (zx rfl) hw rfl rfl) (tM h1) (zp (zx rfl) zf) (qd (.inl h1));rw[h2.j j hj]at h0;exact zG rfl rfl (zr (yq h0) (zT (zK (we (zZ (zx rfl) zQ (yT rfl)) (zx rfl)))))
theorem pE{j:Nat}(hj:j<5):tU b (d+1) D (wF j):=λzv R=>by
 obtain this:∀j<5,¬wF j∈tu:=by decide+kernel
 exact⟨D.ad j,zv,ct hj R,.of R .rfl,λh=>absurd h (this j hj)⟩
theorem kZ{s:List Nat}(hs:s∈tu)(hm:∀zv,RI zv D->(∀md,zv[D.w+2]?=Ie (.dict md)->zE s md=none)->X2 λn zk=>C3 (Call ⟨b,Ig,Ig,d+4⟩ (.fn 706) [.ref D.w,.str s] zv (.ok (.ref n) zk)) (Fx D zv zk) (xX zk n s)):tU b (d+5) D s:=λzv R=>by
 obtain⟨md,h1,h2⟩:=R.md;obtain⟨num,main,hw,_⟩:=R.wo;obtain h0:E ⟨b,Ig,Ig,d+4⟩ [(3,.ref D.w),(0,.str s)] (.zl (.attr (.loc 3) 76) 49 (.cons (.loc 0) .nil)) zv (.ok ((zE s md).getD .none) zv):=yj (zM (zx rfl) hw rfl rfl) (tM h1) (zp (zx rfl) zf) (qd (.inl h1));cases hd:zE s md with
 |some v=>obtain⟨n,rfl,he⟩:=h2.e s hs v hd;rw[hd]at h0;exact⟨n,zv,zG rfl rfl (zr (yq h0) (zT (zK (we (zZ (zx rfl) zQ (yT rfl)) (zx rfl))))),.of R .rfl,λzz=>he⟩
 |none=>
  rw[hd]at h0;obtain⟨n,zk,c,f,e⟩:=hm zv R λpN h=>by replace h:=yZ h1 h;cases h;exact hd
  exact⟨n,zk,zG rfl rfl (zr (yq h0) (zT (zK (wb (zZ (zx rfl) zQ (yT rfl)) (yj (zx rfl) (xM hw rfl rfl) (zp (zx rfl) zf) c))))),f,λzz=>e⟩
theorem Sb:tU b (d+5) D [67,111,109,112,97,114,97,98,108,101]:=kZ (by decide) λzv R h=>kY (ic:=Ig) (pa:=none) (mx:=[]) R (by decide) rfl rfl rfl (by decide) rfl h nofun (pE (j:=3) (by decide)) nofun
theorem Sa:tU b (d+5) D [69,120,99,101,112,116,105,111,110]:=kZ (by decide) λzv R h=>kY (ic:=Ib) (pa:=Ie [79,98,106,101,99,116]) (mx:=[]) R (by decide) rfl rfl rfl (by decide) rfl h (λp e=>by cases e;exact pE (j:=2) (by decide)) (pE (j:=4) (by decide)) nofun
theorem SY:tU b (d+7) D [83,116,114,105,110,103]:=kZ (by decide) λzv R h=>kY (ic:=Ib) (pa:=Ie [79,98,106,101,99,116]) (mx:=[[67,111,109,112,97,114,97,98,108,101]]) R (by decide) rfl rfl rfl (by decide) rfl h (λp e=>by cases e;exact pE (j:=2) (by decide)) (pE (j:=4) (by decide)) λp e=>by rw[I_.mp e];exact Sb
theorem S_:tU b (d+7) D [83,116,97,110,100,97,114,100,69,114,114,111,114]:=kZ (by decide) λzv R h=>kY (ic:=Ib) (pa:=Ie [69,120,99,101,112,116,105,111,110]) (mx:=[]) R (by decide) rfl rfl rfl (by decide) rfl h (λp e=>by cases e;exact Sa) (pE (j:=4) (by decide)) nofun
theorem SX{s:List Nat}(hs:s=[65,114,103,117,109,101,110,116,69,114,114,111,114]\/s=[78,97,109,101,69,114,114,111,114]\/s=[84,121,112,101,69,114,114,111,114]):tU b (d+9) D s:=by
 obtain this:C5 (s∈tu) (mods.any (zR s)=Ig) (zE s oW=Ie (.str [83,116,97,110,100,97,114,100,69,114,114,111,114])) ((zE s nR).getD (.tup [])=.tup []) (short (s++[46])=Ib):=by rcases hs with rfl|rfl|rfl<;>exact⟨by decide,rfl,rfl,rfl,rfl⟩
 obtain⟨h1,h2,h3,h4,h5⟩:=this;exact kZ h1 λzv R h=>kY (ic:=Ib) (pa:=Ie [83,116,97,110,100,97,114,100,69,114,114,111,114]) (mx:=[]) R h1 h2 h3 h4 (by decide) h5 h (λp e=>by cases e;exact S_) (pE (j:=4) (by decide)) nofun
theorem Ys{L:Loc}{x:Nat}(R:RI J D)(hx:lk x L=Ie (.ref D.w)):X2 λ(i:Int)(zy:St)=>E ⟨b,Ig,Ig,d+1⟩ L (.zl (.loc x) 17 .nil) J (.ok (.int i) zy)/\Fx D J zy:=by obtain⟨num,main,hw,hn⟩:=R.wo;exact⟨_,_,yj (zx hx) (xM hw rfl rfl) zf (cf hw),YO R hw hn⟩
theorem cw{o p:O}:Gr J (J++[o,p]):=⟨by rw[IZ];exact HE _ _,λr hr=>HA hr⟩
theorem LJ{s:List Nat}(R:RI J D):X2 λn zy=>Call ⟨b,Ig,Ig,d+8⟩ (.fn 763) [.ref D.w,.str s] J (.ok (.ref n) zy)/\Fx D J zy:=by obtain⟨i,zt,e1,f1⟩:=Ys (b:=b) (d:=d+6) (L:=[(3,.ref D.w),(62,.str s)]) (x:=3) R rfl;obtain⟨n,zb,e2,f2,_⟩:=m' (L:=[(3,.ref D.w),(62,.str s)]) (x:=3) f1.r (SY (b:=b) (d:=d)) rfl zV;exact⟨_,_,zG rfl rfl (zT (zK (xk rfl e1 e2 (zx rfl) LI))),(f1.tr f2).tr (.of f2.r cw)⟩
noncomputable def ba(J:St)(t:Nat)(s:List Nat):Prop:=X2 λfs o=>C3 (J[t]?=Ie (.inst 181 fs)) (lk 18 fs=Ie (.ref o)) (xX J o s)
theorem Ln{s m:List Nat}(hs:s=[65,114,103,117,109,101,110,116,69,114,114,111,114]\/s=[78,97,109,101,69,114,114,111,114]\/s=[84,121,112,101,69,114,114,111,114])(R:RI J D):X2 λn zy=>C3 (Call ⟨b,Ig,Ig,d+10⟩ (.fn 826) [.ref D.w,.str s,.str m] J (.ok (.ref n) zy)) (Fx D J zy) (ba zy n s):=by
 obtain⟨i,zt,e1,f1⟩:=Ys (b:=b) (d:=d+8) (L:=[(3,.ref D.w),(0,.str s),(59,.str m)]) (x:=3) R rfl;obtain⟨n,zb,e2,f2,g⟩:=m' (L:=[(3,.ref D.w),(0,.str s),(59,.str m)]) (x:=3) f1.r (SX (b:=b) (d:=d) hs) rfl (zx (x:=0) rfl);obtain⟨num,main,hw,_⟩:=f2.r.wo;obtain⟨t,yK,c3,f3⟩:=LJ (b:=b) (d:=d+1) (s:=m) f2.r;have sR:s∈tu:=by rcases hs with rfl|rfl|rfl<;>decide
 obtain g:=(g sR).bt f3.k λfs h=>f2.r.pK h;refine⟨_,_,zG rfl rfl (zT (zK (xk rfl e1 e2 (yj (zx rfl) (xM hw rfl rfl) (zp (zx rfl) zf) c3) Lp))),((f1.tr f2).tr f3).tr (.of f3.r cw),_,n,fL,rfl,g.kp (.of cw)⟩
end
noncomputable def Lo(D:Dt)(J zy:St):Prop:=J.length<=zy.length/\∀(r:Nat)(o:O),r+2<D.w->pK o=Ib->J[r]?=Ie o->zy[r]?=Ie o
noncomputable def gm(J:St)(n:Nat)(s:List Nat):Prop:=X2 λfs t=>C3 (J[n]?=Ie (.exc 629 Ib fs)) (lk 36 fs=Ie (.ref t)) (ba J t s)
section
variable{b:Bc}{d:Nat}{q:Bool}{J zt zb zy:St}{D D':Dt}{i:Nat}{k:List Nat}{L:Loc}
theorem Lo.tr(a:Lo D J zt)(c:Lo D' zt zy)(e:D'.w=D.w):Lo D J zy:=⟨I8 a.1 c.1,λr o h n e'=>c.2 r o (by rw[e];exact h) n (a.2 r o h n e')⟩
theorem Kp.lo(a:Kp J zy):Lo D J zy:=⟨a.1,λzz zz zz n e=>a.get e n⟩
theorem Bt.lo{rs:List Nat}(a:Bt rs J zy)(h:∀r∈rs,D.w<=r+2):Lo D J zy:=⟨a.1,λr o l zz e=>a.2 r o e λm=>by obtain this:=h r m;lia⟩
theorem Fx.lo(a:Fx D J zy):Lo D J zy:=a.k.lo λr m=>by
 rcases IU.mp m with z|z;.lia
 .rw[I_.mp z];lia
structure v7(D:Dt)(s:List Nat)(J:St)(n:Nat)(zy:St):Prop where
 r:RI zy D
 lo:Lo D J zy
 e:gm zy n s
theorem v7.pre{s:List Nat}{n:Nat}(a:Lo D J zt)(c:v7 D s zt n zy):v7 D s J n zy:=⟨c.r,a.tr c.lo rfl,c.e⟩
theorem cN{o o':O}:(J++[o]).set J.length o'=J++[o']:=Vc
theorem Ll{c:Nat}{s:List Nat}(h:xc c 71=Ib):Call ⟨b,Ig,Ig,d+1⟩ (.fn 606) [.ref J.length,.str s] (J++[.exc c Ig []]) (.ok .none (J++[.exc c Ig [(71,.str s)]])):=by obtain this:=Ul (F:=⟨b,Ig,Ig,d⟩) (L:=[(3,.ref J.length),(71,.str s)]) rfl (zx (x:=71) rfl) (zx (x:=3) rfl) (z7 (J:=J) (o:=.exc c Ig [])) h rfl;rw[cN]at this;exact vF rfl rfl (zr (yF (yj (yk rfl) R6 (zp (zx rfl) (zp (zx rfl) zf)) (S9 rfl z7))) (zr this zj))
theorem LQ{v:V}:Call ⟨b,Ig,Ig,d+3⟩ (.cl 629) [v] J (.ok (.ref J.length) (J++[.exc 629 Ig [(71,.str [97,32,82,117,98,121,32,101,114,114,111,114]),(36,v)]])):=by obtain this:=Ul (F:=⟨b,Ig,Ig,d+1⟩) (L:=[(3,.ref J.length),(36,v)]) rfl (zx (x:=36) rfl) (zx (x:=3) rfl) (z7 (J:=J) (o:=.exc 629 Ig [(71,.str [97,32,82,117,98,121,32,101,114,114,111,114])])) (x:=36) rfl rfl;rw[cN]at this;exact SP (fi:=626) rfl rfl (show 1<=1000 by decide) (mJ (fd:=gF) (F:=⟨b,Ig,Ig,d+2⟩) rfl rfl rfl rfl (zr (yF (yj (yk rfl) (fR rfl) (zp (zx rfl) (zp zV zf)) (Ll rfl))) (zr this zj)))
theorem iL{s m:List Nat}(hs:s=[65,114,103,117,109,101,110,116,69,114,114,111,114]\/s=[78,97,109,101,69,114,114,111,114]\/s=[84,121,112,101,69,114,114,111,114])(R:RI J D):X2 λn zy=>Call ⟨b,Ig,Ig,d+11⟩ (.fn 833) [.ref D.w,.str s,.str m] J (.exc (.ref n) zy)/\v7 D s J n zy:=by obtain⟨num,main,hw,_⟩:=R.wo;obtain⟨t,zt,c,f,fs,o,h1,h2,h3⟩:=Ln (b:=b) (d:=d) (m:=m) hs R;obtain hx:=x_raise (F:=⟨b,Ig,Ig,d+10⟩) (L:=[(3,.ref D.w),(0,.str s),(59,.str m)]) rfl (y7 (g:=139) (x:=.zl (.loc 3) 136 (.cons (.loc 0) (.cons (.loc 59) .nil))) rfl (yj (zx rfl) (xM hw rfl rfl) (zp (zx rfl) (zp (zx rfl) zf)) c) LQ) z7;rw[cN]at hx;refine⟨_,_,tn rfl rfl (vj hx),f.r.gr (Gr.push _),f.lo.tr (Kp.of (Gr.push _)).lo rfl,_,t,z7,rfl,fs,o,(Gr.push _).get h1,h2,h3.kp (.of (Gr.push _))⟩
theorem iH(R:RI J D)(hi:D.on i=Ib)(hm:i<18):Call ⟨b,Ig,Ig,d+1⟩ (.fn 467) [.ref D.w,.ref (D.ad i)] J (.ok .none J):=by obtain⟨_,_,_,h1,_⟩:=R.oo i hi hm;exact vF rfl rfl (zr (zO (zM (zx rfl) h1 rfl rfl) zj) zj)
theorem Li(R:RI J D)(hi:D.on i=Ib)(hm:i<18):Call ⟨b,Ig,Ig,d+1⟩ (.fn 495) [.ref (D.ad i)] J (.ok (.str (if yb i then[99,108,97,115,115]else[109,111,100,117,108,101])) J):=by obtain⟨_,_,_,h1,_⟩:=R.oo i hi hm;obtain h0:=zM (F:=⟨b,Ig,Ig,d⟩) (L:=[(2,.ref (D.ad i))]) (zx (x:=2) rfl) h1 (x:=21) (v:=.bool (yb i)) rfl rfl;cases hc:yb i with|true=>rw[hc]at h0;exact zG rfl rfl (zT (zK (wb h0 zV)))|false=>rw[hc]at h0;exact zG rfl rfl (zT (zK (we h0 zV)))
theorem kW{num:Int}{main:V}(hw:J[D.w]?=Ie (.inst 899 (wf D.w num D.zC main))):Call ⟨b,Ig,Ig,d+1⟩ (.fn 460) [.ref D.w] J (.ok .none (J.set D.w (.inst 899 (wf D.w num (D.zC+1) main)))):=vF rfl rfl (zr (bw rfl (zx rfl) hw rfl rfl yr hw rfl) zj)
end
noncomputable def Row.putL(r:Row)(c:Bool)(xs:List Nat):Row:=⟨λe=>if e=c then xs else r.li e,r.ms⟩
noncomputable def uV(T:Tb)(i:Nat)(r:Row):Tb:=λj=>if j=i then r else T j
noncomputable def Dt.up(D:Dt)(T:Tb):Dt:={D with zC:=D.zC+1,T:=T}
theorem uU{T:Tb}{i:Nat}{r:Row}:uV T i r i=r:=if_pos rfl
theorem uT{T:Tb}{i j:Nat}{r:Row}(h:j≠i):uV T i r j=T j:=if_neg h
theorem WF.put{T:Tb}(w:WF T){i:Nat}{r:Row}(h1:∀c,r.li c∈vm c i)(h2:∀p∈r.ms,p.1∈yD∧wK p.2)(h3:(r.ms.map (·.1)).Nodup):WF (uV T i r):=by
 refine⟨fun j c=>?_,fun j=>?_,fun j=>?_⟩<;>by_cases q:j=i;·subst q;rw[uU];exact h1 c
 ·rw[uT q];exact w.li j c
 ·subst q;rw[uU];exact h2
 ·rw[uT q];exact w.ks j
 ·subst q;rw[uU];exact h3
 ·rw[uT q];exact w.nd j
section
variable{b:Bc}{d:Nat}{q:Bool}{J zt zb zy:St}{D D':Dt}{i:Nat}{k:List Nat}{L:Loc}
theorem v3.up{T':Tb}(s:v3 D)(w:WF T')(u:∀i,D.on i=Ig->T' i=D.T i):v3 (D.up T'):=⟨s.inj,s.lo,s.w2,s.kn,s.di,s.dk,s.li,s.pm,s.om,s.tm,s.bd,λi h=>by show _/\_;rw[show(D.up T').T i=D.T i from u i h];exact s.un i h,s.a7,w⟩
theorem RI.turn(R:RI J D){T':Tb}{x:Nat}{WJ:O}{num:Int}{main:V}(k:Bt [D.w,x] J zy)(hx:J[x]?=Ie WJ)(hk:Hq WJ.ctorIdx 2=Ib)(x1:D.w+5<=x)(x2:x≠D.kn)(wo:zy[D.w]?=Ie (.inst 899 (wf D.w num (D.zC+1) main)))(hn:∀i,D.on i=Ib->D.nu i<=num)(mm:∀i,D.on i=Ib->i<18->zy[D.da i]?=Ie (.dict (yB ti (T' i).ms)))(ee:∀i,D.on i=Ib->i<18->∀p∈(T' i).ms,zy[p.2.e]?=Ie (.inst 256 (D.w_ p.2))/\D.on p.2.o=Ib)(ll:∀i c,D.on i=Ib->i<18->zy[D.la c i]?=Ie (.list (rf D.ad ((T' i).li c))))(w:WF T')(u:∀i,D.on i=Ig->T' i=D.T i):RI zy (D.up T'):=by
 obtain⟨n0,m0,hw,_⟩:=R.wo;obtain w2:=R.s.w2;obtain wk:=R.s.kn;obtain nn:∀{r:Nat},r≠D.w->r≠x->r∉[D.w,x]:=λh1 h2 m=>by
  rcases IU.mp m with z|z;.exact h1 z
  .exact h2 (I_.mp z)
 have ni:∀{r:Nat}{c:Nat}{fs:Loc},J[r]?=Ie (.inst c fs)->c≠899->r∉[D.w,x]:=λh hc=>nn (λe=>by rw[e,hw]at h;cases h;exact hc rfl) λe=>by rw[e,hx]at h;cases h;cases hk
 obtain⟨md,h1,h2⟩:=R.md;refine⟨⟨num,main,wo,hn⟩,⟨md,k.2 _ _ h1 (nn (show D.w+2≠D.w by lia) (show D.w+2≠x by lia)),(h2.to λn s=>xX.bt k λzz h=>ni h (by decide)).j,(h2.to λn s=>xX.bt k λzz h=>ni h (by decide)).e,h2.nd,h2.ks⟩,k.2 _ _ R.c0 (nn (by lia) (by lia)),k.2 _ _ R.c1 (nn (by lia) (by lia)),k.2 _ _ R.n0 (nn (show D.w-2≠D.w by lia) (show D.w-2≠x by lia)),k.2 _ _ R.n1 (nn (show D.w-1≠D.w by lia) (show D.w-1≠x by lia)),k.2 _ _ R.kn (nn (show D.kn≠D.w by lia) (H0 x2)),λi hi h=>?_,mm,ee,ll,λi hi h=>?_,R.s.up w u⟩;.obtain⟨kp,a1,a3,h1,h2⟩:=R.oo i hi h;refine⟨kp,a1,a3,k.2 _ _ h1 (ni h1 (by decide)),h2.imp id λ⟨v,l,e1,e2,e3⟩=>⟨v,l,e1,Er e2 (show D.zC<=D.zC+1 by lia),λz=>absurd (show v=D.zC+1 from z) (by lia)⟩⟩
 .obtain⟨a,h1⟩:=R.th i hi h;exact⟨a,k.2 _ _ h1 (ni h1 (by decide))⟩
theorem RI.V9(R:RI J D){num:Int}{main:V}{ms:List (List Nat×yy)}(hi:D.on i=Ib)(hm:i<18)(hw:J[D.w]?=Ie (.inst 899 (wf D.w num D.zC main)))(hn:∀i,D.on i=Ib→D.nu i≤num)(h1:∀p∈ms,(p.1∈yD∧wK p.2)∧(J[p.2.e]?=Ie (.inst 256 (D.w_ p.2))∧D.on p.2.o=Ib))(h2:(ms.map (·.1)).Nodup):RI ((J.set (D.da i) (.dict (yB ti ms))).set D.w (.inst 899 (wf D.w num (D.zC+1) main))) (D.up (uV D.T i ⟨(D.T i).li,ms⟩))∧Lo D J ((J.set (D.da i) (.dict (yB ti ms))).set D.w (.inst 899 (wf D.w num (D.zC+1) main))):=by
 obtain⟨lo,N7,J'⟩:=R.s.lo i hi;have hd:=R.mm i hi hm;have k:Bt [D.w,D.da i] J ((J.set (D.da i) (.dict (yB ti ms))).set D.w (.inst 899 (wf D.w num (D.zC+1) main))):=(Bt.re.set _ (.inl (.tail _ (.head _)))).set _ (.inl (.head _));have en:∀{r:Nat}{fs:Loc},J[r]?=Ie (.inst 256 fs)→r∉[D.w,D.da i]:=fun h m=>by
  rcases IU.mp m with z|z;·rw[z,hw]at h;cases h
  ·rw[I_.mp z,hd]at h;cases h
 refine⟨R.turn k hd rfl N7 (R.s.dk i hi hm) (get_set (zJ hw (by lia))) hn (fun j hj vS=>?_) (fun j hj vS p hp=>?_) (fun j c hj vS=>?_) (R.s.wf.put (fun c=>R.s.wf.li i c) (fun p hp=>(h1 p hp).1) h2) fun j hj=>uT fun e=>(by rw[e,hi]at hj;cases hj),k.lo fun r m=>?_⟩
 ·by_cases e:j=i;·subst e;rw[uU];exact zJ (get_set hd) (by lia)
  ·rw[uT e];exact k.2 _ _ (R.mm j hj vS) fun m=>by
    rcases IU.mp m with z|z;·obtain this:=(R.s.lo j hj).2;lia
    ·exact e (R.s.di j i hj hi vS hm (I_.mp z))
 ·by_cases e:j=i;·subst e;rw[uU]at hp;obtain⟨_,e1,e2⟩:=h1 p hp;exact⟨k.2 _ _ e1 (en e1),e2⟩
  ·rw[uT e]at hp;obtain⟨e1,e2⟩:=R.ee j hj vS p hp;exact⟨k.2 _ _ e1 (en e1),e2⟩
 ·obtain e:(uV D.T i ⟨(D.T i).li,ms⟩ j).li c=(D.T j).li c:=by
   by_cases e:j=i;·subst e;rw[uU]
   ·rw[uT e]
  rw[e];exact k.2 _ _ (R.ll j c hj vS) fun m=>by
   obtain hl:=R.ll j c hj vS;rcases IU.mp m with z|z;·rw[z,hw]at hl;cases hl
   ·rw[I_.mp z,hd]at hl;cases hl
 ·rcases IU.mp m with z|z;·lia
  ·rw[I_.mp z];lia
theorem RI.K7(R:RI J D){num:Int}{main:V}{c:Bool}{xs:List Nat}(hi:D.on i=Ib)(hm:i<18)(hw:J[D.w]?=Ie (.inst 899 (wf D.w num D.zC main)))(hn:∀i,D.on i=Ib->D.nu i<=num)(hx:xs∈vm c i):RI ((J.set (D.la c i) (.list (rf D.ad xs))).set D.w (.inst 899 (wf D.w num (D.zC+1) main))) (D.up (uV D.T i ((D.T i).putL c xs)))/\Lo D J ((J.set (D.la c i) (.list (rf D.ad xs))).set D.w (.inst 899 (wf D.w num (D.zC+1) main))):=by
 have lo:=(R.s.lo i hi).3 c;have hd:=R.ll i c hi hm;have k:Bt [D.w,D.la c i] J ((J.set (D.la c i) (.list (rf D.ad xs))).set D.w (.inst 899 (wf D.w num (D.zC+1) main))):=(Bt.re.set _ (.inl (.tail _ (.head _)))).set _ (.inl (.head _));have nl:∀{r:Nat}{o:O},J[r]?=Ie o->IP o.ctorIdx 0=Ig->r≠D.w->r∉[D.w,D.la c i]:=λh hk hr m=>by
  rcases IU.mp m with z|z;.exact hr z
  .rw[I_.mp z,hd]at h;cases h;cases hk
 have ms:∀j,(uV D.T i ((D.T i).putL c xs) j).ms=(D.T j).ms:=λj=>by
  by_cases e:j=i;.subst e;rw[uU];rfl
  .rw[uT e]
 refine⟨R.turn k hd rfl lo (λe=>by obtain this:=R.kn;rw[<-e,hd]at this;cases this) (get_set (zJ hw (by lia))) hn (λj hj vS=>?_) (λj hj vS p hp=>?_) (λj e hj vS=>?_) (R.s.wf.put (λe=>?_) (R.s.wf.ks i) (R.s.wf.nd i)) λj hj=>uT λe=>(by rw[e,hi]at hj;cases hj),k.lo λr m=>?_⟩;.rw[ms];exact k.2 _ _ (R.mm j hj vS) (nl (R.mm j hj vS) rfl (by obtain this:=(R.s.lo j hj).2;lia))
 .rw[ms]at hp;obtain⟨e1,e2⟩:=R.ee j hj vS p hp;exact⟨k.2 _ _ e1 (nl e1 rfl λe=>by rw[e,hw]at e1;cases e1),e2⟩
 .by_cases q:D.la e j=D.la c i;.obtain⟨q1,q2⟩:=R.s.li j i e c hj hi vS hm q;subst q1 q2;rw[uU,show((D.T j).putL e xs).li e=xs from if_pos rfl];exact zJ (get_set hd) (by lia)
  .have q':(uV D.T i ((D.T i).putL c xs) j).li e=(D.T j).li e:=by
    by_cases e':j=i;.subst e';rw[uU];exact if_neg λz=>q (by rw[z])
    .rw[uT e']
   rw[q'];exact k.2 _ _ (R.ll j e hj vS) λm=>by
    rcases IU.mp m with z|z;.obtain this:=(R.s.lo j hj).3 e;lia
    .exact q (I_.mp z)
 .by_cases q:e=c;.subst q;rw[show((D.T i).putL e xs).li e=xs from if_pos rfl];exact hx
  .rw[show((D.T i).putL c xs).li e=(D.T i).li e from if_neg q];exact R.s.wf.li i e
 .rcases IU.mp m with z|z;.lia
  .rw[I_.mp z];lia
end
noncomputable def vQ(T:Tb)(i:Nat)(k:List Nat):Option yy:=match zH T k (ln T i)with|Ie h=>Ie h|none=>if yb i then none else zH T k (ln T 2)
noncomputable def w4(T:Tb)(i:Nat)(ms:List (List Nat×yy)):Tb:=uV T i ⟨(T i).li,ms⟩
section
variable{b:Bc}{d:Nat}{q:Bool}{J zt zb zy:St}{D D':Dt}{i:Nat}{k:List Nat}{L:Loc}
structure Good(D:Dt)(T':Tb)(J zy:St):Prop where
 r:RI zy (D.up T')
 lo:Lo D J zy
theorem Good.pre{T':Tb}(a:Lo D J zt)(g:Good D T' zt zy):Good D T' J zy:=⟨g.r,a.tr g.lo rfl⟩
theorem iq(hk:k∈yD):k.length<=1/\plainS k=Ib:=by
 obtain h1:∀k∈yD,k.length<=1/\plainS k=Ib:=by decide+kernel
 exact h1 k hk
theorem YV(hm:i<18):(u_ i).length<=100:=by
 obtain h1:∀i<18,(u_ i).length<=100:=by decide+kernel
 exact h1 i hm
theorem rh{F:Fr}{a c:List Nat}{n m:Nat}(h1:a.length<=n)(h2:c.length<=m)(h:n+m<=1000):ui F .add (.str a) (.str c) J (.ok (.str (a++c)) J):=u5 (xG (by rw[IZ];lia))
theorem len_app{a c:List Nat}{n m:Nat}(h1:a.length<=n)(h2:c.length<=m):(a++c).length<=n+m:=by rw[IZ];lia
theorem cg(R:RI J D)(hi:D.on i=Ib)(hm:i<18)(w8:∀j,yP i=Ie j->D.on j=Ib)(hk:k∈yD):match vQ D.T i k with|Ie h=>∃zy,C5 (Call ⟨b,Ig,Ig,d+22⟩ (.fn 502) [.ref D.w,.ref (D.ad i),.str k] J (.ok (.ref h.e) zy)) (Ask D J zy) (zy[h.e]?=Ie (.inst 256 (D.w_ h))) (D.on h.o=Ib) (wK h)|none=>X2 λn zy=>Call ⟨b,Ig,Ig,d+22⟩ (.fn 502) [.ref D.w,.ref (D.ad i),.str k] J (.exc (.ref n) zy)/\v7 D [78,97,109,101,69,114,114,111,114] J n zy:=by
 obtain⟨zt,c1,a1⟩:=iK (b:=b) (d:=d) (k:=k) R hi hm;have x0:=yq (F:=⟨b,Ig,Ig,d+21⟩) (L:=[(1,.ref D.w),(2,.ref (D.ad i)),(0,.str k)]) (x:=4) (xk (g:=84) (x:=.loc 1) (y:=.loc 2) (z:=.loc 0) rfl (zx rfl) (zx rfl) (zx rfl) c1);obtain⟨kp,a,a3,h1,_⟩:=a1.r.oo i hi hm;have bad:∀{L:Loc}{zv:St},RI zv D->lk 1 L=Ie (.ref D.w)->lk 2 L=Ie (.ref (D.ad i))->lk 0 L=Ie (.str k)->lk 4 L=Ie .none->X2 λn zk=>XB ⟨b,Ig,Ig,d+21⟩ L (.cons (.cond (.cmp .is (.loc 4) .none) (.cons (.expr (.zl (.loc 1) 57 (.cons (.str [78,97,109,101,69,114,114,111,114]) (.cons (.bin .add (.bin .add (.bin .add (.bin .add (.bin .add (.bin .add (.str [117,110,100,101,102,105,110,101,100,32,109,101,116,104,111,100,32,39]) (.loc 0)) (.str [39,32,102,111,114,32])) (.call (.zu 148) (.cons (.loc 2) .nil))) (.str [32,39])) (.call (.zu 60) (.cons (.loc 2) .nil))) (.str [39])) .nil)))) .nil) .nil) (.cons (.ret (.loc 4)) .nil)) zv (.exc (.ref n) L zk)/\v7 D [78,97,109,101,69,114,114,111,114] zv n zk:=λ{L zv}R l1 l2 l3 l4=>by
  obtain⟨num,main,hw,_⟩:=R.wo;obtain⟨q1,_⟩:=iq hk;have q2:=YV hm;have q3:(if yb i=Ib then[99,108,97,115,115]else[109,111,100,117,108,101]).length<=6:=by split<;>decide
  have n1:([117,110,100,101,102,105,110,101,100,32,109,101,116,104,111,100,32,39]:List Nat).length<=20:=by decide
  obtain n2:([39,32,102,111,114,32]:List Nat).length<=20:=by decide
  obtain n3:([32,39]:List Nat).length<=20:=by decide
  obtain n4:([39]:List Nat).length<=20:=by decide
  obtain p1:=len_app n1 q1;obtain p2:=len_app p1 n2;obtain p3:=len_app p2 q3;obtain p4:=len_app p3 n3;obtain p5:=len_app p4 q2;obtain⟨n,zk,c,f⟩:=iL (b:=b) (d:=d+10) (s:=[78,97,109,101,69,114,114,111,114]) (m:=[117,110,100,101,102,105,110,101,100,32,109,101,116,104,111,100,32,39]++k++[39,32,102,111,114,32]++(if yb i then[99,108,97,115,115]else[109,111,100,117,108,101])++[32,39]++u_ i++[39]) (.inr (.inl rfl)) R;refine⟨n,zk,vj (ya (zZ (zx l4) zQ (yT rfl)) (vj (rA (yj (zx l1) (xM hw rfl rfl) (zp zV (zp ?_ zf)) c)))),f⟩;exact yd (yd (yd (yd (yd (yd zV (zx l3) (rh n1 q1 (by decide))) zV (rh p1 n2 (by decide))) (y7 rfl (zx l2) (Li R hi hm)) (rh p2 q3 (by decide))) zV (rh p3 n3 (by decide))) (y7 rfl (zx l2) (ck R hi hm w8)) (rh p4 q2 (by decide))) zV (rh p5 n4 (by decide))
 unfold vQ;cases hf:zH D.T k (ln D.T i)with|some h=>rw[hf]at x0;obtain⟨e1,e2,e3,_⟩:=a1.r.ent (a1.r.tG hi hm).2 hf;exact⟨zt,zG rfl rfl (zr x0 (zr (zO (tN (zZ (zx rfl) zQ (yT rfl))) zj) (zr (zO (zZ (zx rfl) zQ (yT rfl)) zj) (zT (zK (zx rfl)))))),a1,e1,e2,e3⟩|none=>rw[hf]at x0;have hc:=vt (F:=⟨b,Ig,Ig,d+21⟩) (L:=[(1,.ref D.w),(2,.ref (D.ad i)),(0,.str k),(4,.none)]) (zZ (zx (x:=4) rfl) zQ (yT rfl)) (ub (vH (zM (zx (x:=2) rfl) h1 (x:=21) (v:=.bool (yb i)) rfl rfl)));cases wH:yb i with|true=>rw[wH]at hc;obtain⟨n,zy,c,f⟩:=bad (L:=[(1,.ref D.w),(2,.ref (D.ad i)),(0,.str k),(4,.none)]) a1.r rfl rfl rfl rfl;exact⟨n,zy,tn rfl rfl (zr x0 (zr (zO hc zj) c)),f.pre a1.k.lo⟩|false=>rw[wH]at hc;obtain⟨num,main,hw,_⟩:=a1.r.wo;obtain o2:=R.s.om 2 (by decide) (by decide);obtain⟨zb,c2,a2⟩:=iK (b:=b) (d:=d) (k:=k) a1.r o2 (by decide);obtain x1:=ya (b:=.nil) hc (zr (yq (x:=4) (xk (g:=84) (x:=.loc 1) (y:=.zl (.loc 1) 38 (.cons (.str [79,98,106,101,99,116]) .nil)) (z:=.loc 0) rfl (zx rfl) (yj (zx rfl) (xM hw rfl rfl) (zp zV zf) (ct (j:=2) (by decide) a1.r)) (zx rfl) c2)) zj);cases rY:zH D.T k (ln D.T 2)with|some h=>rw[rY]at x1;obtain⟨e1,e2,e3,_⟩:=a2.r.ent (a2.r.tG o2 (by decide)).2 rY;exact⟨zb,zG rfl rfl (zr x0 (zr x1 (zr (zO (zZ (zx rfl) zQ (yT rfl)) zj) (zT (zK (zx rfl)))))),a1.tr a2,e1,e2,e3⟩|none=>rw[rY]at x1;obtain⟨n,zy,c,f⟩:=bad (L:=[(1,.ref D.w),(2,.ref (D.ad i)),(0,.str k),(4,.none)]) a2.r rfl rfl rfl rfl;exact⟨n,zy,tn rfl rfl (zr x0 (zr x1 c)),f.pre (a1.tr a2).k.lo⟩
end
section
variable{b:Bc}{d:Nat}{q:Bool}{J zt zb zy:St}{D D':Dt}{i:Nat}{k:List Nat}{L:Loc}
theorem RI.lay(R:RI J D)(hi:D.on i=Ib)(hm:i<18)(hk:k∈yD){h:yy}(hh:wK h)(he:J[h.e]?=Ie (.inst 256 (D.w_ h)))(ho:D.on h.o=Ib):X2 λnum main=>J[D.w]?=Ie (.inst 899 (wf D.w num D.zC main))/\Good D (w4 D.T i (wq k h (D.T i).ms)) J ((J.set (D.da i) (.dict (yB ti (wq k h (D.T i).ms)))).set D.w (.inst 899 (wf D.w num (D.zC+1) main))):=by
 obtain⟨num,main,hw,hn⟩:=R.wo;obtain⟨g1,g2⟩:=R.V9 (ms:=wq k h (D.T i).ms) hi hm hw hn (λp hp=>by
  rcases jD hp with e|e;.exact⟨R.s.wf.ks i p e,R.ee i hi hm p e⟩
  .subst e;exact⟨⟨hk,hh⟩,he,ho⟩) (eM (R.s.wf.nd i));exact⟨num,main,hw,g1,g2⟩
theorem cY(R:RI J D)(hi:D.on i=Ib)(hm:i<18)(hk:k∈yD){h:yy}(hh:wK h)(he:J[h.e]?=Ie (.inst 256 (D.w_ h)))(ho:D.on h.o=Ib):∃zy,C3 (Call ⟨b,Ig,Ig,d+2⟩ (.fn 488) [.ref D.w,.ref (D.ad i),.str k,.ref h.e] J (.ok .none zy)) (Good D (w4 D.T i (wq k h (D.T i).ms)) J zy) (∀(r:Nat)(xs:List V),J[r]?=Ie (.list xs)->zy[r]?=Ie (.list xs)):=by obtain⟨_,_,_,h1,_⟩:=R.oo i hi hm;obtain⟨num,main,hw,g⟩:=R.lay hi hm hk hh he ho;obtain hs:=p8 (F:=⟨b,Ig,Ig,d+1⟩) (L:=[(1,.ref D.w),(2,.ref (D.ad i)),(0,.str k),(20,.ref h.e)]) rfl (zx (x:=20) rfl) (zM (x:=19) (zx (x:=2) rfl) h1 rfl rfl) (zx (x:=0) rfl) (R.mm i hi hm) (R.s.wf.short i);rw[show V.ref h.e=ti h from rfl,m7]at hs;exact⟨_,vF rfl rfl (zr (yF (yU rfl (zx rfl) (zx rfl) (iH R hi hm))) (zr hs (zr (yF (y7 rfl (zx rfl) (kW (zJ hw (by obtain this:=(R.s.lo i hi).2;lia))))) zj))),g,λr xs h=>zJ (zJ h λe=>by obtain this:=R.mm i hi hm;rw[e,h]at this;cases this) λe=>by rw[e,h]at hw;cases hw⟩
theorem Lq(R:RI J D)(hi:D.on i=Ib)(hm:i<18){h:yy}(hk:h.n∈yD)(hh:wK h)(he:J[h.e]?=Ie (.inst 256 (D.w_ h)))(ho:D.on h.o=Ib):∃zy,Call ⟨b,Ig,Ig,d+2⟩ (.fn 481) [.ref D.w,.ref (D.ad i),.ref h.e] J (.ok .none zy)/\Good D (w4 D.T i (wq h.n h (D.T i).ms)) J zy:=by obtain⟨_,_,_,h1,_⟩:=R.oo i hi hm;obtain⟨num,main,hw,g⟩:=R.lay hi hm hk hh he ho;obtain hs:=p8 (F:=⟨b,Ig,Ig,d+1⟩) (L:=[(1,.ref D.w),(2,.ref (D.ad i)),(20,.ref h.e)]) rfl (zx (x:=20) rfl) (zM (x:=19) (zx (x:=2) rfl) h1 rfl rfl) (zM (x:=0) (zx (x:=20) rfl) he rfl rfl) (R.mm i hi hm) (R.s.wf.short i);rw[show V.ref h.e=ti h from rfl,m7]at hs;exact⟨_,vF rfl rfl (zr (yF (yU rfl (zx rfl) (zx rfl) (iH R hi hm))) (zr hs (zr (yF (y7 rfl (zx rfl) (kW (zJ hw (by obtain this:=(R.s.lo i hi).2;lia))))) zj))),g⟩
theorem LG(R:RI J D)(hi:D.on i=Ib)(hm:i<18)(w8:∀j,yP i=Ie j->D.on j=Ib)(hk:k∈yD):match vQ D.T i k with|Ie h=>X2 λe zy=>Call ⟨b,Ig,Ig,d+23⟩ (.fn 509) [.ref D.w,.ref (D.ad i),.str k] J (.ok .none zy)/\Good D (w4 D.T i (wq k ⟨e,none,i,[112,117,98,108,105,99],k⟩ (D.T i).ms)) J zy|none=>X2 λn zy=>Call ⟨b,Ig,Ig,d+23⟩ (.fn 509) [.ref D.w,.ref (D.ad i),.str k] J (.exc (.ref n) zy)/\v7 D [78,97,109,101,69,114,114,111,114] J n zy:=by obtain this:=cg (b:=b) (d:=d) R hi hm w8 hk;cases hn:vQ D.T i k with|none=>rw[hn]at this;obtain⟨n,zy,c,f⟩:=this;exact⟨n,zy,tn rfl rfl (vj (rA (xk (g:=83) rfl (zx rfl) (zx rfl) (zx rfl) c))),f⟩|some h=>rw[hn]at this;obtain⟨zt,c,a,_⟩:=this;obtain a1:=a.push (.inst 256 (D.w_ ⟨zt.length,none,i,[112,117,98,108,105,99],k⟩));obtain⟨zb,c2,g,_⟩:=cY (b:=b) (d:=d+20) (k:=k) (h:=⟨zt.length,none,i,[112,117,98,108,105,99],k⟩) a1.r hi hm hk ⟨.head _,hk,nofun,hm⟩ z7 hi;exact⟨zt.length,zb,vF rfl rfl (zr (yF (xk (g:=83) rfl (zx rfl) (zx rfl) (zx rfl) c)) (zr (yF (y0 (yk rfl) (zp (zx rfl) (zp (zx rfl) (zp (zx rfl) (zp (y0 (yk rfl) (zp (zx rfl) (zp (zx rfl) (zp zV (zp zQ (zp zQ (zp zV zf)))))) cq) zf)))) c2)) zj)),g.pre a1.k.lo⟩
theorem W8{h:yy}{s:List Nat}(he:J[h.e]?=Ie (.inst 256 (D.w_ h))):Call ⟨b,Ig,Ig,d+4⟩ (.fn 523) [.ref h.e,.str s] J (.ok (.ref J.length) (J++[.inst 256 (D.w_ ⟨J.length,h.b,h.o,s,h.n⟩)])):=zG rfl rfl (zT (zK (yj (zx rfl) (xM he rfl rfl) (zp (zM (zx rfl) he rfl rfl) (zp (zM (zx rfl) he rfl rfl) (zp (zx rfl) zf))) (LY he))))
theorem Ls{k':List Nat}(R:RI J D)(hi:D.on i=Ib)(hm:i<18)(w8:∀j,yP i=Ie j->D.on j=Ib)(hk:k∈yD)(wZ:k'∈yD):match vQ D.T i k with|Ie h=>X2 λe zy=>Call ⟨b,Ig,Ig,d+23⟩ (.fn 530) [.ref D.w,.ref (D.ad i),.str k',.str k] J (.ok .none zy)/\Good D (w4 D.T i (wq k' ⟨e,h.b,h.o,h.s,h.n⟩ (D.T i).ms)) J zy|none=>X2 λn zy=>Call ⟨b,Ig,Ig,d+23⟩ (.fn 530) [.ref D.w,.ref (D.ad i),.str k',.str k] J (.exc (.ref n) zy)/\v7 D [78,97,109,101,69,114,114,111,114] J n zy:=by obtain this:=cg (b:=b) (d:=d) R hi hm w8 hk;cases hn:vQ D.T i k with|none=>rw[hn]at this;obtain⟨n,zy,c,f⟩:=this;exact⟨n,zy,tn rfl rfl (vj (Uj (xk (g:=83) rfl (zx rfl) (zx rfl) (zx rfl) c))),f⟩|some h=>rw[hn]at this;obtain⟨zt,c,a,he,ho,hh⟩:=this;obtain a1:=a.push (.inst 256 (D.w_ ⟨zt.length,h.b,h.o,h.s,h.n⟩));obtain⟨zb,c2,g,_⟩:=cY (b:=b) (d:=d+20) (k:=k') (h:=⟨zt.length,h.b,h.o,h.s,h.n⟩) a1.r hi hm wZ ⟨hh.s,hh.n,hh.b,hh.o⟩ z7 ho;exact⟨zt.length,zb,vF rfl rfl (zr (yq (xk (g:=83) rfl (zx rfl) (zx rfl) (zx rfl) c)) (zr (yF (y0 (yk rfl) (zp (zx rfl) (zp (zx rfl) (zp (zx rfl) (zp (yU rfl (zx rfl) (zM (zx rfl) he rfl rfl) (W8 he)) zf)))) c2)) zj)),g.pre a1.k.lo⟩
theorem Nt(o:Option yy):isNone (vf o)=Ie o.isNone:=by cases o<;>rfl
theorem LK{s:List Nat}{l:Nat}(R:RI J D)(hi:D.on i=Ib)(hm:i<18)(w8:∀j,yP i=Ie j->D.on j=Ib)(hk:k∈yD)(hs:s∈vZ)(hl:J[l]?=Ie (.list [.str k])):match vQ D.T i k with|Ie h=>if(!zR s h.s||(yW k (D.T i).ms).isNone)=Ib then X2 λe zy=>Call ⟨b,Ig,Ig,d+23⟩ (.fn 537) [.ref D.w,.ref (D.ad i),.ref l,.str s] J (.ok .none zy)/\Good D (w4 D.T i (wq k ⟨e,h.b,h.o,s,h.n⟩ (D.T i).ms)) J zy else∃zy,Call ⟨b,Ig,Ig,d+23⟩ (.fn 537) [.ref D.w,.ref (D.ad i),.ref l,.str s] J (.ok .none zy)/\Ask D J zy|none=>X2 λn zy=>Call ⟨b,Ig,Ig,d+23⟩ (.fn 537) [.ref D.w,.ref (D.ad i),.ref l,.str s] J (.exc (.ref n) zy)/\v7 D [78,97,109,101,69,114,114,111,114] J n zy:=by
 obtain this:=cg (b:=b) (d:=d) R hi hm w8 hk;cases hn:vQ D.T i k with
 |none=>rw[hn]at this;obtain⟨n,zy,c,f⟩:=this;exact⟨n,zy,tn rfl rfl (vj (xY (t:=.list l) rfl (zx rfl) hl rfl (.exc hl rfl rfl (vj (Uj (xk (g:=83) rfl (zx rfl) (zx rfl) (zx rfl) c)))))),f⟩
 |some h=>
  rw[hn]at this;obtain⟨zt,c,a,he,ho,hh⟩:=this;obtain pl:∀s∈vZ,plainS s=Ib:=by decide+kernel
  obtain⟨zv,hE,bE⟩:∃zv,E ⟨b,Ig,Ig,d+22⟩ [(1,.ref D.w),(2,.ref (D.ad i)),(29,.ref l),(14,.str s),(0,.str k),(4,.ref h.e)] (.or (.cons (.cmp .ne (.attr (.loc 4) 14) (.loc 14)) (.cons (.cmp .is (.call (.zu 67) (.cons (.loc 1) (.cons (.loc 2) (.cons (.loc 0) .nil)))) .none) .nil))) zt (.ok (.bool (!zR s h.s||(yW k (D.T i).ms).isNone)) zv)/\Ask D zt zv:=by have h0:=zZ (F:=⟨b,Ig,Ig,d+22⟩) (L:=[(1,.ref D.w),(2,.ref (D.ad i)),(29,.ref l),(14,.str s),(0,.str k),(4,.ref h.e)]) (zM (zx (x:=4) rfl) he (x:=14) rfl rfl) (zx (x:=14) rfl) (qE hh.ps.1 (pl s hs));cases hq:zR s h.s with|false=>rw[hq]at h0;exact⟨zt,sZ h0,a.r,.re⟩|true=>rw[hq]at h0;obtain⟨zb,c2,g2⟩:=iM (b:=b) (d:=d+20) (k:=k) a.r hi hm;exact⟨zb,uL h0 (uK (zZ (xk rfl (zx rfl) (zx rfl) (zx rfl) c2) zQ (yT (Nt _)))),.of a.r g2⟩
  have x0:=yq (F:=⟨b,Ig,Ig,d+22⟩) (L:=[(1,.ref D.w),(2,.ref (D.ad i)),(29,.ref l),(14,.str s),(0,.str k)]) (x:=4) (xk (g:=83) (x:=.loc 1) (y:=.loc 2) (z:=.loc 0) rfl (zx rfl) (zx rfl) (zx rfl) c);obtain aa:=a.tr bE;obtain Oa:=aa.k.get hl;show if(!zR s h.s||(yW k (D.T i).ms).isNone)=Ib then _ else _;cases hq:(!zR s h.s||(yW k (D.T i).ms).isNone)with|false=>rw[hq]at hE;exact⟨zv,vF rfl rfl (zr (xY (t:=.list l) rfl (zx rfl) hl rfl (.turn hl rfl rfl (zr x0 (zr (zO hE zj) zj)) (.stop Oa))) zj),aa⟩|true=>rw[hq]at hE;obtain he:=bE.k.get he;obtain a1:=aa.push (.inst 256 (D.w_ ⟨zv.length,h.b,h.o,s,h.n⟩));obtain⟨zb,c2,g,gl⟩:=cY (b:=b) (d:=d+20) (k:=k) (h:=⟨zv.length,h.b,h.o,s,h.n⟩) a1.r hi hm hk ⟨hs,hh.n,hh.b,hh.o⟩ z7 ho;exact⟨zv.length,zb,vF rfl rfl (zr (xY (t:=.list l) rfl (zx rfl) hl rfl (.turn hl rfl rfl (zr x0 (zr (ya hE (zr (yF (y0 (yk rfl) (zp (zx rfl) (zp (zx rfl) (zp (zx rfl) (zp (yU rfl (zx rfl) (zx rfl) (W8 he)) zf)))) c2)) zj)) zj)) (.stop (gl _ _ (a1.k.get hl))))) zj),g.pre a1.k.lo⟩
theorem LO(R:RI J D)(hi:D.on i=Ib)(hm:i<18)(w8:∀j,yP i=Ie j->D.on j=Ib)(hk:k∈yD)(te:yC i=.none):match(yW k (D.T i).ms).bind live with|Ie h=>∃zy,Call ⟨b,Ig,Ig,d+13⟩ (.fn 516) [.ref D.w,.ref (D.ad i),.str k] J (.ok .none zy)/\Good D (w4 D.T i (rZ k (D.T i).ms)) J zy|none=>X2 λn zy=>Call ⟨b,Ig,Ig,d+13⟩ (.fn 516) [.ref D.w,.ref (D.ad i),.str k] J (.exc (.ref n) zy)/\v7 D [78,97,109,101,69,114,114,111,114] J n zy:=by
 obtain⟨zt,c,g1⟩:=iM (b:=b) (d:=d+10) (k:=k) R hi hm;have R1:=R.gr g1;obtain⟨kp,a1,a3,h1,_⟩:=R1.oo i hi hm;obtain⟨num,main,hw,hn⟩:=R1.wo;have x0:=yq (F:=⟨b,Ig,Ig,d+12⟩) (L:=[(1,.ref D.w),(2,.ref (D.ad i)),(0,.str k)]) (x:=4) (xk (g:=67) (x:=.loc 1) (y:=.loc 2) (z:=.loc 0) rfl (zx rfl) (zx rfl) (zx rfl) c);have bad:∀{v:V},E ⟨b,Ig,Ig,d+12⟩ [(1,.ref D.w),(2,.ref (D.ad i)),(0,.str k),(4,v)] (.or (.cons (.cmp .is (.loc 4) .none) (.cons (.cmp .eq (.attr (.loc 4) 35) (.str [110,111,110,101])) .nil))) zt (.ok (.bool Ib) zt)->X2 λn zy=>XB ⟨b,Ig,Ig,d+12⟩ [(1,.ref D.w),(2,.ref (D.ad i)),(0,.str k),(4,v)] (.cons (.cond (.or (.cons (.cmp .is (.loc 4) .none) (.cons (.cmp .eq (.attr (.loc 4) 35) (.str [110,111,110,101])) .nil))) (.cons (.expr (.zl (.loc 1) 57 (.cons (.str [78,97,109,101,69,114,114,111,114]) (.cons (.bin .add (.bin .add (.bin .add (.str [109,101,116,104,111,100,32,39]) (.loc 0)) (.str [39,32,110,111,116,32,100,101,102,105,110,101,100,32,105,110,32])) (.call (.zu 60) (.cons (.loc 2) .nil))) .nil)))) .nil) .nil) (.cons (.expr (.call (.zu 93) (.cons (.loc 1) (.cons (.loc 2) .nil)))) (.cons (.cond (.or (.cons (.cmp .is (.attr (.loc 2) 34) .none) (.cons (.cmp .is (.call (.zu 129) (.cons (.loc 1) (.cons (.loc 2) (.cons (.loc 0) .nil)))) .none) .nil))) (.cons (.expr (.zl (.attr (.loc 2) 19) 69 (.cons (.loc 0) .nil))) .nil) (.cons (.y3 (.attr (.loc 2) 19) (.loc 0) (.call (.zu 95) (.cons (.loc 0) (.cons (.loc 2) (.cons (.str [103,111,110,101]) (.cons .none (.cons .none (.cons (.str [112,117,98,108,105,99]) .nil)))))))) .nil)) (.cons (.expr (.call (.zu 74) (.cons (.loc 1) .nil))) .nil)))) zt (.exc (.ref n) [(1,.ref D.w),(2,.ref (D.ad i)),(0,.str k),(4,v)] zy)/\v7 D [78,97,109,101,69,114,114,111,114] zt n zy:=λ{v}hc=>by
  have n1:([109,101,116,104,111,100,32,39]:List Nat).length<=20:=by decide
  have n2:([39,32,110,111,116,32,100,101,102,105,110,101,100,32,105,110,32]:List Nat).length<=20:=by decide
  have p1:=len_app n1 (iq hk).1;have p2:=len_app p1 n2;obtain⟨n,zk,c,f⟩:=iL (b:=b) (d:=d+1) (s:=[78,97,109,101,69,114,114,111,114]) (m:=[109,101,116,104,111,100,32,39]++k++[39,32,110,111,116,32,100,101,102,105,110,101,100,32,105,110,32]++u_ i) (.inr (.inl rfl)) R1;exact⟨n,zk,vj (ya hc (vj (rA (yj (zx rfl) (xM hw rfl rfl) (zp zV (zp (yd (yd (yd zV (zx rfl) (rh n1 (iq hk).1 (by decide))) zV (rh p1 n2 (by decide))) (y7 rfl (zx rfl) (ck R1 hi hm w8)) (rh p2 (YV hm) (by decide))) zf)) c)))),f⟩
 cases hg:yW k (D.T i).ms with|none=>rw[hg]at x0;obtain⟨n,zy,c,f⟩:=bad (v:=.none) (sZ (zZ (zx rfl) zQ (yT rfl)));exact⟨n,zy,tn rfl rfl (zr x0 c),f.pre (Kp.of g1).lo⟩|some h=>rw[hg]at x0;obtain he:=(R1.ee i hi hm _ (lT hg)).1;obtain hc:=zZ (F:=⟨b,Ig,Ig,d+12⟩) (L:=[(1,.ref D.w),(2,.ref (D.ad i)),(0,.str k),(4,.ref h.e)]) (zM (zx (x:=4) rfl) he (x:=35) rfl rfl) (zV (t:=[110,111,110,101])) (u2 (by cases h.b<;>rfl) rfl);show match live h with|Ie h=>_|none=>_;unfold live;cases hb:h.b with|none=>rw[hb]at hc;obtain⟨n,zy,c,f⟩:=bad (v:=.ref h.e) (uL (zZ (zx rfl) zQ (yT rfl)) (uK hc));exact⟨n,zy,tn rfl rfl (zr x0 c),f.pre (Kp.of g1).lo⟩|some t=>rw[hb]at hc;obtain⟨g,gl⟩:=R1.V9 (ms:=rZ k (D.T i).ms) hi hm hw hn (λp hp=>⟨R.s.wf.ks i p (oG.mem hp),R1.ee i hi hm p (oG.mem hp)⟩) ((oG.map _).nodup (R.s.wf.nd i));have hd:=R1.mm i hi hm;have hp:=Ww (F:=⟨b,Ig,Ig,d+12⟩) rfl hd (k:=k) (v:=.ref h.e) (by rewrite[qt];rw[hg];rfl) (R.s.wf.short i);rw[gE]at hp;refine⟨_,vF rfl rfl (zr x0 (zr (zO (uL (zZ (zx rfl) zQ (yT rfl)) (uK hc)) zj) (zr (yF (yU rfl (zx rfl) (zx rfl) (iH R1 hi hm))) (zr (ya (sZ (zZ (zM (zx rfl) h1 rfl (show _=Ie (yC i)from rfl)) zQ (yT (by rw[te];rfl)))) (zr (yF (yj (zM (zx rfl) h1 rfl rfl) (YX hd) (zp (zx rfl) zf) hp)) zj)) (zr (yF (y7 rfl (zx rfl) (kW (zJ hw (by obtain this:=(R.s.lo i hi).2;lia))))) zj))))),Good.pre (Kp.of g1).lo ⟨g,gl⟩⟩
end
noncomputable def targets:List Nat:=[5,6,7,8,10,11,12,15,16,17]
noncomputable def wh(T:Tb)(i g:Nat):List Nat:=if g=5 then[84,121,112,101,69,114,114,111,114]else if(own T 2 g).contains i then[65,114,103,117,109,101,110,116,69,114,114,111,114]else[]
noncomputable def dQ(x:Nat):S:=.cons (.expr (.call (.zu 127) (.cons (.loc 1) (.cons (.loc 2) (.cons (.loc 27) .nil))))) (.cons (.expr (.call (.zu 93) (.cons (.loc 1) (.cons (.loc 2) .nil)))) (.cons (.cond (.not (.call (.zu 43) (.cons (.attr (.loc 2) x) (.cons (.loc 27) .nil)))) (.cons (.expr (.zl (.attr (.loc 2) x) 30 (.cons (.loc 27) .nil))) (.cons (.expr (.call (.zu 74) (.cons (.loc 1) .nil))) .nil)) .nil) .nil))
section
variable{b:Bc}{d:Nat}{q:Bool}{J zt zb zy:St}{D D':Dt}{i:Nat}{k:List Nat}{L:Loc}
theorem W9(R:RI J D)(hi:D.on i=Ib):∃o,C3 (i<18->o=if yb i then 4 else 3) (18<=i->o=i-15) (Call ⟨b,Ig,Ig,d+1⟩ (.fn 728) [.ref D.w,.ref (D.ad i)] J (.ok (.ref (D.ad o)) J)):=by
 obtain⟨c,fs,h1,hc,hl,hr,_⟩:=R.tm hi;have hp:=s7 hc;have hk:xc c 18=Ib:=by rcases hc with rfl|rfl<;>rfl
 have go:∀{o:Nat},lk 18 fs=Ie (.ref (D.ad o))->Call ⟨b,Ig,Ig,d+1⟩ (.fn 728) [.ref D.w,.ref (D.ad i)] J (.ok (.ref (D.ad o)) J):=λh=>zG rfl rfl (zr (zO (zZ (zx rfl) zQ (yT rfl)) zj) (zr (zO (yU rfl (zx rfl) (yk rfl) (pZ h1 hp rfl)) zj) (zr (zO (yU rfl (zx rfl) (yk rfl) (pZ h1 hp rfl)) zj) (zT (zK (we (yU rfl (zx rfl) (yk rfl) (pZ h1 hp rfl)) (zM (zx rfl) h1 hk h)))))));by_cases hm:i<18;.obtain⟨x9,wu,_,h3,_⟩:=R.nT hi hm;replace wu:=yZ h1 wu;cases wu;exact⟨_,λzz=>rfl,λh=>absurd hm (Fg.mpr h),go h3⟩
 .exact⟨_,λh=>absurd h hm,λzz=>rfl,go (hr (He hm)).2⟩
theorem LW{g:Nat}(R:RI J D)(hi:D.on i=Ib)(hm:i<18)(hg:g=8\/g=9\/g=5):(wh D.T i g≠[]->X2 λn zy=>Call ⟨b,Ig,Ig,d+12⟩ (.fn 544) [.ref D.w,.ref (D.ad i),.ref (D.ad g)] J (.exc (.ref n) zy)/\v7 D (wh D.T i g) J n zy)/\(wh D.T i g=[]->∃zy,Call ⟨b,Ig,Ig,d+12⟩ (.fn 544) [.ref D.w,.ref (D.ad i),.ref (D.ad g)] J (.ok .none zy)/\Gr J zy):=by
 have yY:D.on g=Ib/\g<18:=by rcases hg with rfl|rfl|rfl<;>exact⟨R.s.om _ (by decide) (by decide),by decide⟩
 obtain⟨kp,a1,a3,h1,_⟩:=R.oo g yY.1 yY.2;obtain⟨num,main,hw,_⟩:=R.wo;have h0:=vH (F:=⟨b,Ig,Ig,d+11⟩) (yU (L:=[(1,.ref D.w),(2,.ref (D.ad i)),(27,.ref (D.ad g))]) (x:=.loc 27) (y:=.zu 44) (g:=23) rfl (zx rfl) (yk rfl) (ta h1 (s7 (.inl rfl)) (t:=Ib) rfl rfl));have hc:E ⟨b,Ig,Ig,d+11⟩ [(1,.ref D.w),(2,.ref (D.ad i)),(27,.ref (D.ad g))] (.or (.cons (.not (.call (.zu 23) (.cons (.loc 27) (.cons (.zu 44) .nil)))) (.cons (.attr (.loc 27) 21) .nil))) J (.ok (.bool (yb g)) J):=uL h0 (uK (zM (zx rfl) h1 rfl rfl));by_cases h5:g=5;.subst h5;obtain e:wh D.T i 5=[84,121,112,101,69,114,114,111,114]:=if_pos rfl;rw[e];refine⟨λzz=>?_,λh=>nomatch h⟩;obtain⟨o,ho,_,co⟩:=W9 (b:=b) (d:=d+10) R yY.1;obtain ho:=ho yY.2;subst ho;obtain MR:xX J (D.ad 4) [67,108,97,115,115]:=R.nm (R.s.om 4 (by decide) (by decide)) (by decide) rfl;obtain⟨n,zy,c,f⟩:=iL (b:=b) (d:=d) (s:=[84,121,112,101,69,114,114,111,114]) (m:=[119,114,111,110,103,32,97,114,103,117,109,101,110,116,32,116,121,112,101,32]++[67,108,97,115,115]++[32,40,101,120,112,101,99,116,101,100,32,77,111,100,117,108,101,41]) (.inr (.inr rfl)) R;exact⟨n,zy,tn rfl rfl (vj (ya hc (zr (yq (y7 rfl (yj (zx rfl) (xM hw rfl rfl) (zp (zx rfl) zf) co) (kX MR))) (vj (rA (yj (zx rfl) (xM hw rfl rfl) (zp zV (zp (yd (yd zV (zx rfl) (u5 rfl)) zV (u5 rfl)) zf)) c)))))),f⟩
 .have e:wh D.T i g=if(own D.T 2 g).contains i then[65,114,103,117,109,101,110,116,69,114,114,111,114]else[]:=if_neg h5;have wH:yb g=Ig:=by rcases hg with rfl|rfl|rfl<;>first|rfl|exact absurd rfl h5
  rw[wH]at hc;obtain⟨l,zt,c1,g1,_,hl⟩:=c_ (b:=b) (d+8) 2 g J (IV _) yY.1 yY.2 (R.s.wf.ZA g) R;have R1:=R.gr g1;have hh:=yU (F:=⟨b,Ig,Ig,d+11⟩) (L:=[(1,.ref D.w),(2,.ref (D.ad i)),(27,.ref (D.ad g))]) (x:=.call (.zu 82) (.cons (.loc 27) .nil)) (y:=.loc 2) (g:=43) rfl (y7 rfl (zx rfl) c1) (zx rfl) (nG (d:=d+8) R1 hl (λx hx=>(R.kg 2 yY.1 yY.2 x hx).1) hi);rw[e];cases hq:(own D.T 2 g).contains i with|true=>rw[hq]at hh;refine⟨λzz=>?_,λh=>nomatch h⟩;obtain⟨n,zy,c,f⟩:=iL (b:=b) (d:=d) (s:=[65,114,103,117,109,101,110,116,69,114,114,111,114]) (m:=[99,121,99,108,105,99,32,105,110,99,108,117,100,101,32,100,101,116,101,99,116,101,100]) (.inl rfl) R1;exact⟨n,zy,tn rfl rfl (zr (zO hc zj) (vj (ya hh (vj (rA (yj (zx rfl) (xM (g1.get hw) rfl rfl) (zp zV (zp zV zf)) c)))))),f.pre (Kp.of g1).lo⟩|false=>rw[hq]at hh;exact⟨λh=>absurd rfl h,λzz=>⟨zt,vF rfl rfl (zr (zO hc zj) (zr (zO hh zj) zj)),g1⟩⟩
theorem Ws{T:Tb}(w:WF T){c:Bool}{g:Nat}(ht:i∈targets)(hg:g=8\/g=9\/g=5)(h:wh T i g=[])(hc:((T i).li c).contains g=Ig):(T i).li c++[g]∈vm c i:=by
 have h5:g≠5:=λe=>by subst e;rw[wh,if_pos rfl]at h;exact nomatch h
 obtain h8:i=8->g=9:=λe=>by
  rcases hg with rfl|rfl|rfl;.subst e;obtain this:(own T 2 8).contains 8=Ib:=HK.mpr (Gu _ (.head _));rw[wh,if_neg h5,if_pos this]at h;exact nomatch h
  .rfl
  .exact absurd rfl h5
 obtain this:∀i∈targets,∀c:Bool,∀l∈vm c i,∀g,g=8\/g=9->(i=8->g=9)->l.contains g=Ig->l++[g]∈vm c i:=by
  obtain this:∀i∈targets,∀c:Bool,∀l∈vm c i,((l.contains 9||(vm c i).contains (l++[9]))&&(IP i 8||(l.contains 8||(vm c i).contains (l++[8]))))=Ib:=by decide+kernel
  intro i hi c l hl g hg Oq hn;obtain⟨q1,q2⟩:=zh (this i hi c l hl);rcases hg with rfl|rfl
  .rcases(Hw _ _).mp q2 with q|q;.exact absurd (Oq (IJ q)) (by decide)
   .rw[hn]at q;exact HK.mp q
  .rw[hn]at q1;exact HK.mp q1
 exact this i ht c _ (w.li i c) g (hg.elim .inl λh=>h.elim .inr λh=>absurd h h5) h8 hc
theorem Jb{c:Bool}{x g:Nat}(hx:∀{a1 a3:Nat}{kp:V},lk x (D.wV i a1 a3 kp)=Ie (.ref (D.la c i)))(hk:xc 228 x=Ib)(R:RI J D)(hi:D.on i=Ib)(ht:i∈targets)(hg:g=8\/g=9\/g=5):(wh D.T i g≠[]->X2 λn zy=>XB ⟨b,Ig,Ig,d+12⟩ [(1,.ref D.w),(2,.ref (D.ad i)),(27,.ref (D.ad g))] (dQ x) J (.exc (.ref n) [(1,.ref D.w),(2,.ref (D.ad i)),(27,.ref (D.ad g))] zy)/\v7 D (wh D.T i g) J n zy)/\(wh D.T i g=[]->∃zy,XB ⟨b,Ig,Ig,d+12⟩ [(1,.ref D.w),(2,.ref (D.ad i)),(27,.ref (D.ad g))] (dQ x) J (.ok .next [(1,.ref D.w),(2,.ref (D.ad i)),(27,.ref (D.ad g))] zy)/\if((D.T i).li c).contains g then Ask D J zy else Good D (uV D.T i ((D.T i).putL c ((D.T i).li c++[g]))) J zy):=by
 have hm:i<18:=by
  obtain this:∀i∈targets,i<18:=by decide
  exact this i ht
 obtain⟨n1,n2⟩:=LW (b:=b) (d:=d) (g:=g) R hi hm hg;refine⟨λh=>?_,λh=>?_⟩;.obtain⟨n,zy,c,f⟩:=n1 h;exact⟨n,zy,vj (rA (xk rfl (zx rfl) (zx rfl) (zx rfl) c)),f⟩
 .obtain⟨zt,c1,g1⟩:=n2 h;have R1:=R.gr g1;obtain⟨kp,a1,a3,h1,_⟩:=R1.oo i hi hm;obtain⟨num,main,hw,hn⟩:=R1.wo;obtain hl:=R1.ll i c hi hm;obtain vE:D.on g=Ib:=by rcases hg with rfl|rfl|rfl<;>exact R.s.om _ (by decide) (by decide)
  obtain ha:=zM (F:=⟨b,Ig,Ig,d+12⟩) (L:=[(1,.ref D.w),(2,.ref (D.ad i)),(27,.ref (D.ad g))]) (zx (x:=2) rfl) h1 hk hx;have hh:=vH (yU (g:=43) (y:=.loc 27) rfl ha (zx rfl) (nG (d:=d+9) R1 hl (λx hx=>(R.mem hx).1) vE));have x0:=yF (xk (F:=⟨b,Ig,Ig,d+12⟩) (L:=[(1,.ref D.w),(2,.ref (D.ad i)),(27,.ref (D.ad g))]) (g:=127) (x:=.loc 1) (y:=.loc 2) (z:=.loc 27) rfl (zx rfl) (zx rfl) (zx rfl) c1);have x1:=yF (yU (F:=⟨b,Ig,Ig,d+12⟩) (L:=[(1,.ref D.w),(2,.ref (D.ad i)),(27,.ref (D.ad g))]) (g:=93) (x:=.loc 1) (y:=.loc 2) rfl (zx rfl) (zx rfl) (iH (d:=d+11) R1 hi hm));cases hq:((D.T i).li c).contains g with|true=>rw[hq]at hh;exact⟨zt,zr x0 (zr x1 (zr (zO hh zj) zj)),.of R g1⟩|false=>rw[hq]at hh;obtain⟨gr,gl⟩:=R1.K7 (c:=c) (xs:=(D.T i).li c++[g]) hi hm hw hn (Ws R.s.wf ht hg h hq);obtain YD:=pP (F:=⟨b,Ig,Ig,d+12⟩) (v:=.ref (D.ad g)) rfl hl (sD (I8 (R.s.wf.two i c) (by decide)));rw[show rf D.ad ((D.T i).li c)++[.ref (D.ad g)]=rf D.ad ((D.T i).li c++[g])from(qV (k:=[g])).symm]at YD;exact⟨_,zr x0 (zr x1 (zr (ya hh (zr (yF (yj ha (ua hl) (zp (zx rfl) zf) YD)) (zr (yF (y7 rfl (zx rfl) (kW (zJ hw (by obtain this:=(R.s.lo i hi).3 c;lia))))) zj))) zj)),Good.pre (Kp.of g1).lo ⟨gr,gl⟩⟩
end
noncomputable def Dt.mk' (D : Dt) (j n : Nat) (nu : Int) : Dt := { D with
  zC := D.zC + 1
  ad := fun x => if x = j then n else D.ad x
  da := fun x => if x = j then n + 2 else D.da x
  la := fun c x => if x = j then n + (if c then 5 else 4) else D.la c x
  on := fun x => x == j || D.on x
  nu := fun x => if x = j then nu else D.nu x }
section
variable{b:Bc}{d:Nat}{J zt zb zy:St}{D D':Dt}{i j n p x:Nat}{nu:Int}
theorem oJ(s:v3 D){i:Nat}(hi:D.on i=Ib)(hm:i<18):∀j,yP i=Ie j->D.on j=Ib:=λj hj=>by
 obtain this:∀i<18,(match yP i with|Ie j=>IP j 20||(IP j 21||(Hq j 10&&(!IP j 7||IP i 17)))|none=>Ib)=Ib:=by decide+kernel
 obtain this:=this i hm;rw[hj]at this;rcases(Hw _ _).mp this with h|h;.rw[IJ h];exact s.tm.1
 rcases(Hw _ _).mp h with h|h;.rw[IJ h];exact s.tm.2
 obtain⟨h1,h2⟩:=zh h;by_cases h7:j=7
 .subst h7;rcases(Hw _ _).mp h2 with h|h;.cases h
  .rw[IJ h]at hi;exact s.a7 hi
 .exact s.om j (ID h1) h7
theorem wU(h:x≠j):(D.mk' j n nu).ad x=D.ad x:=if_neg h
theorem l8:(D.mk' j n nu).ad j=n:=if_pos rfl
theorem vC(h:x≠j):(D.mk' j n nu).on x=D.on x:=by show(x==j||D.on x)=_;rw[beq_false_of_ne h];rfl
theorem kz:(D.mk' j n nu).on j=Ib:=by show(j==j||D.on j)=_;rw[beq_self_eq_true];rfl
theorem pM{o:Option Nat}(h:o≠Ie j):(D.mk' j n nu).opt o=D.opt o:=by cases o with|none=>rfl|some y=>obtain hy:y≠j:=λe=>h (by rw[e]);show(if(D.mk' j n nu).on y then V.ref ((D.mk' j n nu).ad y)else .none)=if D.on y then .ref (D.ad y)else .none;rewrite[vC hy];rw[wU hy]
theorem Wq{l:List Nat}(h:∀x∈l,x≠j):rf (D.mk' j n nu).ad l=rf D.ad l:=by unfold rf;exact congrArg refs (GS λx hx=>wU (h x hx))
theorem kq(yE:D.on j=Ig)(h:D.on x=Ib):x≠j:=λe=>by rw[e,yE]at h;cases h
theorem qY{i j:Nat}(h:yn i=Ie j):C6 (10<=j/\j<18) (yP j=Ie i) (yb j=Ib) (qb j=.none) (∀x,yn x=Ie j->x=i) (j=17->i=7):=by
 have hi:i<22:=HO λq=>by rw[yn,rG q]at h;cases h
 obtain this:∀i<22,(match yn i with|Ie j=>(H5 10 j&&(Hq j 18&&(yP j==Ie i&&(yb j&&((HM 22).all (λx=>yn x !=Ie j||IP x i)&&(!IP j 17||IP i 7))))))|none=>Ib)=Ib:=by decide+kernel
 obtain this:=this i hi;rw[h]at this;obtain⟨h1,this⟩:=zh this;obtain⟨h2,this⟩:=zh this;obtain⟨h3,this⟩:=zh this;obtain⟨h4,this⟩:=zh this;obtain⟨h5,h6⟩:=zh this;obtain h3:=eq_of_beq h3;refine⟨⟨ID h1,ID h2⟩,h3,h4,by unfold qb;rw[h3],λx hx=>?_,λe=>?_⟩
 .obtain lJ:x<22:=HO λq=>by rw[yn,rG q]at hx;cases hx
  obtain this:=I2.mp h5 x (HC.mpr lJ);rw[hx]at this;rcases(Hw _ _).mp this with q|q;.rw[bne_self_eq_false]at q;cases q
  .exact IJ q
 .subst e;rcases(Hw _ _).mp h6 with q|q;.cases q
  .exact IJ q
theorem U6{x y:Nat}(h:yP x=Ie y):y<10\/20<=y:=by
 have hx:x<18:=HO λq=>by rw[yP,rG q]at h;cases h
 obtain this:∀x<18,(match yP x with|Ie y=>Hq y 10||H5 20 y|none=>Ib)=Ib:=by decide+kernel
 obtain this:=this x hx;rw[h]at this;exact((Hw _ _).mp this).imp ID ID
theorem v3.jz(R:RI J D)(j2:j<18)(j7:j=17->D.on 7=Ib)(yE:D.on j=Ig)(hp:par j=Ie p)(qh:D.on p=Ib)(hn:∀i,D.on i=Ib->D.nu i<=nu)(hl:J.length<=n):v3 (D.mk' j n (nu+1)):=by
 have lt:∀x,D.on x=Ib->x<18->D.da x<n/\∀c,D.la c x<n:=λx hx hm=>⟨HY (xr (R.mm x hx hm)) hl,λc=>HY (xr (R.ll x c hx hm)) hl⟩;obtain kl:=HY (xr R.kn) hl;obtain o0:=R.s.om 0 (by decide) (by decide);have wn:D.w+5<n:=FV (R.s.lo 0 o0).2 (lt 0 o0 (by decide)).1;have sp:∀{x},(D.mk' j n (nu+1)).on x=Ib->x=j\/x≠j/\D.on x=Ib:=λ{x}h=>by
  by_cases e:x=j;.exact .inl e
  .exact .inr ⟨e,by rw[vC e]at h;exact h⟩
 have dj:(D.mk' j n (nu+1)).da j=n+2:=if_pos rfl;have dx:∀{x},x≠j->(D.mk' j n (nu+1)).da x=D.da x:=λh=>if_neg h;have lj:∀c:Bool,(D.mk' j n (nu+1)).la c j=n+(if c then 5 else 4):=λc=>if_pos rfl;have lx:∀(c:Bool){x},x≠j->(D.mk' j n (nu+1)).la c x=D.la c x:=λc x h=>if_neg h;have nj:(D.mk' j n (nu+1)).nu j=nu+1:=if_pos rfl;have nx:∀{x},x≠j->(D.mk' j n (nu+1)).nu x=D.nu x:=λh=>if_neg h;have rN:∀{x},D.on x=Ib->(D.mk' j n (nu+1)).on x=Ib:=λh=>by rw[vC (kq yE h)];exact h
 refine⟨λx y hx hy e=>?_,λx hx=>?_,R.s.w2,R.s.kn,λx y hx hy xm ym e=>?_,λx hx xm=>?_,λx y c e hx hy xm ym q=>?_,λx p' hx jE=>?_,λx h1 h2=>rN (R.s.om x h1 h2),⟨rN R.s.tm.1,rN R.s.tm.2⟩,λx hx=>?_,λx hx=>?_,λh=>?_,R.s.wf⟩
 .rcases sp hx with rfl|⟨h1,h2⟩<;>rcases sp hy with rfl|⟨h3,h4⟩;.rfl
  .rw[nj,nx h3]at e;have:=hn y h4;lia
  .rw[nj,nx h1]at e;have:=hn x h2;lia
  .rw[nx h1,nx h3]at e;exact R.s.inj x y h2 h4 e
 .rcases sp hx with rfl|⟨h1,h2⟩;.rewrite[l8];rw[dj];exact⟨show D.w+5<=n by lia,show D.w+5<=n+2 by lia,λc=>by rw[lj];show D.w+5<=_;lia⟩
  .rewrite[wU h1];rw[dx h1];exact⟨(R.s.lo x h2).1,(R.s.lo x h2).2,λc=>by rw[lx c h1];exact(R.s.lo x h2).3 c⟩
 .rcases sp hx with rfl|⟨h1,h2⟩<;>rcases sp hy with rfl|⟨h3,h4⟩;.rfl
  .rw[dj,dx h3]at e;have:=(lt y h4 ym).1;lia
  .rw[dj,dx h1]at e;have:=(lt x h2 xm).1;lia
  .rw[dx h1,dx h3]at e;exact R.s.di x y h2 h4 xm ym e
 .rcases sp hx with rfl|⟨h1,h2⟩;.rw[dj];exactλe=>by have:n+2=D.kn:=e;lia
  .rw[dx h1];exact R.s.dk x h2 xm
 .rcases sp hx with rfl|⟨h1,h2⟩<;>rcases sp hy with rfl|⟨h3,h4⟩;.refine⟨rfl,?_⟩;rw[lj,lj]at q;revert q;cases c<;>cases e<;>intro q<;>first|rfl|(simp only[if_true,I0,if_false]at q;lia)
  .rw[lj,lx e h3]at q;have:=(lt y h4 ym).2 e;lia
  .rw[lj,lx c h1]at q;have:=(lt x h2 xm).2 c;lia
  .rw[lx c h1,lx e h3]at q;exact R.s.li x y c e h2 h4 xm ym q
 .rcases sp hx with rfl|⟨h1,h2⟩;.replace jE:=yZ hp jE;cases jE;exact rN qh
  .exact rN (R.s.pm x p' h2 jE)
 .rcases sp hx with rfl|⟨h1,h2⟩;.exact .inl j2
  .exact R.s.bd x h2
 .have e:x≠j:=λe=>by rw[e,kz]at hx;cases hx
  rw[vC e]at hx;exact R.s.un x hx
 .rcases sp h with e|⟨h1,h2⟩;.exact rN (j7 e.symm)
  .exact rN (R.s.a7 h2)
end
section
variable{b:Bc}{d:Nat}{J zt zb zy:St}{D D':Dt}{i j n p x:Nat}{nu:Int}
noncomputable def Dt.Me(D:Dt)(i a1 a3:Nat)(kp:V)(n:Nat):Loc:=mf a1 (D.da i) a3 (D.la Ig i) (D.la Ib i) (.int (D.nu i)) (.ref (D.ad (if yb i then 4 else 3))) (.ref n) (qb i) (yb i) (D.opt (par i)) (D.opt (yP i)) (yC i) kp
noncomputable def mP(D:Dt)(i j n p:Nat)(nu:Int):Loc:=mf (n+1) (n+2) (n+3) (n+4) (n+5) (.int nu) (.ref (D.ad 4)) .none .none Ib (.ref (D.ad p)) (.ref (D.ad i)) (yC j) .none
theorem RI.jz(R:RI J D){num:Int}{main:V}(ho:yn i=Ie j)(hi:D.on i=Ib)(yE:D.on j=Ig)(hp:par j=Ie p)(qh:D.on p=Ib)(hn:∀i,D.on i=Ib->D.nu i<=num)(hl:J.length<=n)(k:Bt [D.w,D.ad i] J zy)(hw:zy[D.w]?=Ie (.inst 899 (wf D.w (num+1) (D.zC+1) main)))(ha:if i<18 then X3 λkp a1 a3=>zy[D.ad i]?=Ie (.inst 228 (D.Me i a1 a3 kp n))/\me J D i kp else∃a,zy[D.ad i]?=Ie (.inst 40 (st 24 (.ref n) (D.tV i a))))(b0:zy[n]?=Ie (.inst 228 (mP D i j n p (num+1))))(b2:zy[n+2]?=Ie (.dict []))(b4:zy[n+4]?=Ie (.list []))(b5:zy[n+5]?=Ie (.list [])):RI zy (D.mk' j n (num+1)):=by
 obtain⟨⟨j1,j2⟩,w8,wH,OU,Xo,j7⟩:=qY ho;have s':=v3.jz (nu:=num) R j2 (λe=>by obtain this:=j7 e;subst this;exact hi) yE hp qh hn hl;obtain⟨n0,m0,nr,_⟩:=R.wo;obtain w2:=R.s.w2;obtain wk:=R.s.kn;obtain⟨la,J1,J0⟩:=R.s.lo i hi;obtain oN:X2 λc fs=>J[D.ad i]?=Ie (.inst c fs)/\(c=228\/c=40):=let⟨c,fs,h,hc,_,_,_⟩:=R.tm hi;⟨c,fs,h,hc⟩;obtain⟨ca,fa,oN,YA⟩:=oN;have nn:∀{r:Nat},r≠D.w->r≠D.ad i->r∉[D.w,D.ad i]:=λh1 h2 m=>by
  rcases IU.mp m with z|z;.exact h1 z
  .exact h2 (I_.mp z)
 have ni:∀{r:Nat}{o:O},J[r]?=Ie o->(match o with|.inst c _=>!(IP c 228||(IP c 40||IP c 899))|_=>Ib)=Ib->r∉[D.w,D.ad i]:=λ{r o}h hc=>nn (λe=>by rw[e,nr]at h;cases h;cases hc) λe=>by rw[e,oN]at h;cases h;rcases YA with rfl|rfl<;>cases hc
 have od:∀{x},D.on x=Ib->x≠j:=λh=>kq yE h;have C:∀{x},x≠i->(D.mk' j n (num+1)).opt (yn x)=D.opt (yn x):=λhx=>pM λe=>hx (Xo _ e);have oi:(D.mk' j n (num+1)).opt (yn i)=.ref n:=by rewrite[ho];rewrite[tB kz];rw[l8]
 have op:∀{x},D.on x=Ib->(D.mk' j n (num+1)).opt (par x)=D.opt (par x):=λ{x}h=>pM λe=>by rw[R.s.pm x j h e]at yE;cases yE
 have oa:∀{x},(D.mk' j n (num+1)).opt (yP x)=D.opt (yP x):=λ{x}=>pM λe=>by obtain this:=U6 e;lia
 have PC:∀x,(D.mk' j n (num+1)).ad (if yb x then 4 else 3)=D.ad (if yb x then 4 else 3):=λx=>wU (by split<;>lia);have m9:∀{x},x≠j->(D.mk' j n (num+1)).da x=D.da x:=λh=>if_neg h;have pS:∀(c:Bool){x},x≠j->(D.mk' j n (num+1)).la c x=D.la c x:=λc x h=>if_neg h;have pI:∀{x},x≠j->(D.mk' j n (num+1)).nu x=D.nu x:=λh=>if_neg h;have un:=R.s.un j yE;have Nl:¬IP j 2=Ib:=λh=>by obtain this:=IJ h;lia
 have Jw:∀c,(D.T j).li c=[]:=λc=>by
  rw[un.1 c];obtain this:(IP j 2&&!c)=Ig:=by cases q:IP j 2 with|true=>exact absurd q Nl|false=>rfl
  rw[this];rfl
 have sp:∀{x},(D.mk' j n (num+1)).on x=Ib->x=j\/x≠j/\D.on x=Ib:=λ{x}h=>by
  by_cases e:x=j;.exact .inl e
  .exact .inr ⟨e,by rw[vC e]at h;exact h⟩
 obtain om:∀x,x<10->x≠7->D.on x=Ib:=R.s.om;have rS:∀{x:Nat}{kp:V},me J D x kp->me zy (D.mk' j n (num+1)) x kp:=λh=>h.imp id λ⟨v,l,e1,e2,e3⟩=>⟨v,l,e1,Er e2 (show D.zC<=D.zC+1 by lia),λz=>absurd (show v=D.zC+1 from z) (by lia)⟩;obtain⟨md,h1,h2⟩:=R.md;have nm:∀a s,xX J a s->xX zy a s:=λa s⟨fs,q1,q2⟩=>by
  by_cases e:a=D.ad i
  .subst e;replace q1:=yZ oN q1;cases q1;rcases YA with h|h
   .have hm:i<18:=HO λh=>by obtain⟨a,h3⟩:=R.th i hi h;replace h3:=yZ oN h3;cases h3
    rw[if_pos hm]at ha;obtain⟨kp,a1,a3,g1,_⟩:=ha;obtain⟨J2,c1,c3,g2,_⟩:=R.oo i hi hm;replace g2:=yZ oN g2;cases g2;exact⟨_,g1,q2⟩
   .cases h
  .exact⟨fs,k.2 _ _ q1 (nn (λz=>by rw[z,nr]at q1;cases q1) e),q2⟩
 obtain h3:=h2.to nm;refine⟨⟨num+1,main,hw,λx hx=>?_⟩,⟨md,k.2 _ _ h1 (ni h1 rfl),⟨λx hx=>?_,h3.e,h3.nd,h3.ks⟩⟩,k.2 _ _ R.c0 (ni R.c0 rfl),k.2 _ _ R.c1 (ni R.c1 rfl),k.2 _ _ R.n0 (ni R.n0 rfl),k.2 _ _ R.n1 (ni R.n1 rfl),?_,λx hx hm=>?_,λx hx hm=>?_,λx hx hm q hq=>?_,λx c hx hm=>?_,λx hx hm=>?_,s'⟩
 .rcases sp hx with rfl|⟨e,h⟩;.exact Int.le_of_eq (if_pos rfl)
  .rw[pI e];obtain this:=hn x h;lia
 .rw[wU (show x≠j by lia)];exact h3.j x hx
 .obtain this:ur (D.mk' j n (num+1))=ur D:=by unfold ur;rewrite[wU (show 2≠j by lia)];rewrite[wU (show 4≠j by lia)];rewrite[wU (show 1≠j by lia)];rewrite[wU (show 5≠j by lia)];rewrite[wU (show 6≠j by lia)];rewrite[wU (show 7≠j by lia)];rewrite[wU (show 8≠j by lia)];rewrite[wU (show 9≠j by lia)];rewrite[wU (show 20≠j by lia)];rewrite[wU (show 21≠j by lia)];rw[vC (show 7≠j by lia)]
  rw[this];exact k.2 _ _ R.kn (ni R.kn rfl)
 .rcases sp hx with rfl|⟨e,h⟩
  .rw[l8];refine⟨.none,n+1,n+3,?_,.inl rfl⟩;unfold Dt.wV;rw[OU,wH,show(D.mk' x n (num+1)).da x=n+2 from if_pos rfl,show(D.mk' x n (num+1)).la Ig x=n+4 from if_pos rfl,show(D.mk' x n (num+1)).la Ib x=n+5 from if_pos rfl,show(D.mk' x n (num+1)).nu x=num+1 from if_pos rfl,wU (show(if Ib=Ib then 4 else 3)≠x by simp only[if_true];lia),hp,tB (show(D.mk' x n (num+1)).on p=Ib by rw[vC (od qh)];exact qh),wU (od qh),w8,tB (show(D.mk' x n (num+1)).on i=Ib by rw[vC (od hi)];exact hi),wU (od hi),pM (show yn x≠Ie x fromλe=>by obtain this:=Xo x e;subst this;replace yE:=hi.symm.trans yE;cases yE)];obtain this:D.opt (yn x)=.none:=by
    obtain this:∀x,10<=x->x<18->yn x=none:=λx h1 h2=>by
     obtain this:∀x<18,10<=x->yn x=none:=by decide+kernel
     exact this x h2 h1
    rw[this x j1 j2];rfl
   rw[this];exact b0
  .rw[wU e];have wV:∀a1 a3 kp o,mf a1 ((D.mk' j n (num+1)).da x) a3 ((D.mk' j n (num+1)).la Ig x) ((D.mk' j n (num+1)).la Ib x) (.int ((D.mk' j n (num+1)).nu x)) (.ref ((D.mk' j n (num+1)).ad (if yb x then 4 else 3))) o (qb x) (yb x) ((D.mk' j n (num+1)).opt (par x)) ((D.mk' j n (num+1)).opt (yP x)) (yC x) kp=mf a1 (D.da x) a3 (D.la Ig x) (D.la Ib x) (.int (D.nu x)) (.ref (D.ad (if yb x then 4 else 3))) o (qb x) (yb x) (D.opt (par x)) (D.opt (yP x)) (yC x) kp:=λa1 a3 kp o=>by rewrite[m9 e];rewrite[pS Ig e];rewrite[pS Ib e];rewrite[pI e];rewrite[PC];rewrite[op h];rw[oa]
   by_cases q:x=i;.subst q;rw[if_pos hm]at ha;obtain⟨kp,a1,a3,g1,g2⟩:=ha;refine⟨kp,a1,a3,?_,rS g2⟩;unfold Dt.wV;rewrite[wV];rw[oi];exact g1
   .obtain⟨kp,a1,a3,g1,g2⟩:=R.oo x h hm;refine⟨kp,a1,a3,?_,rS g2⟩;unfold Dt.wV;rewrite[wV];rw[C q];exact k.2 _ _ g1 (nn (λz=>by rw[z,nr]at g1;cases g1) (R.iY h hi q))
 .rcases sp hx with rfl|⟨e,h⟩;.rw[show(D.mk' x n (num+1)).da x=n+2 from if_pos rfl,show((D.mk' x n (num+1)).T x).ms=[]from un.2];exact b2
  .rw[m9 e];exact k.2 _ _ (R.mm x h hm) (ni (R.mm x h hm) rfl)
 .rcases sp hx with rfl|⟨e,h⟩;.obtain hq:q∈(D.T x).ms:=hq;rw[un.2]at hq;exact nomatch hq
  .obtain⟨g1,g2⟩:=R.ee x h hm q hq;obtain e2:=od g2;refine⟨?_,by rw[vC e2];exact g2⟩;obtain this:(D.mk' j n (num+1)).w_ q.2=D.w_ q.2:=by unfold Dt.w_;rw[wU e2]
   rw[this];exact k.2 _ _ g1 (ni g1 rfl)
 .rcases sp hx with rfl|⟨e,h⟩
  .rw[show((D.mk' x n (num+1)).T x).li c=[]from Jw c,show(D.mk' x n (num+1)).la c x=n+(if c then 5 else 4)from if_pos rfl];cases c;.exact b4
   .exact b5
  .rewrite[pS c e];rw[Wq (l:=((D.mk' j n (num+1)).T x).li c) λy hy=>od (R.mem (show y∈(D.T x).li c from hy)).1];exact k.2 _ _ (R.ll x c h hm) (ni (R.ll x c h hm) rfl)
 .rcases sp hx with rfl|⟨e,h⟩;.lia
  .rw[wU e];have tV:∀a,(D.mk' j n (num+1)).tV x a=st 24 ((D.mk' j n (num+1)).opt (yn x)) (D.tV x a):=λa=>by unfold Dt.tV;rewrite[pI e];rw[wU (show x-15≠j by rcases R.s.bd x h with h|h|h<;>lia)];rfl
   by_cases q:x=i;.subst q;rw[if_neg (by lia)]at ha;obtain⟨a,g⟩:=ha;exact⟨a,by rewrite[tV];rw[oi];exact g⟩
   .obtain⟨a,g⟩:=R.th x h hm;exact⟨a,by rewrite[tV];rw[C q];exact k.2 _ _ g (nn (λz=>by rw[z,nr]at g;cases g) (R.iY h hi q))⟩
end
section
variable{b:Bc}{d:Nat}{J zt zb zy:St}{D D':Dt}{i j n p x:Nat}{nu num:Int}{main xl at_ pa:V}{L:Loc}
theorem YK{zv:St}{l:List O}:Gr zv (zv++l):=⟨by rw[IZ];exact HE _ _,λr hr=>HA hr⟩
noncomputable def tD(n:Nat)(nu:Int)(C xl pa at_:V):List O:=[.inst 228 (mf (n+1) (n+2) (n+3) (n+4) (n+5) (.int nu) C .none xl Ib pa at_ .none .none),.dict [],.dict [],.dict [],.list [],.list []]
theorem Uh(R:RI J D)(hw:J[D.w]?=Ie (.inst 899 (wf D.w num D.zC main)))(OQ:isNone pa=Ie Ig):XB ⟨b,Ig,Ig,d+3⟩ [(3,.ref D.w),(0,xl),(21,.bool Ib),(11,pa),(42,.none),(41,at_)] (.cons (.asg 18 (.zl (.loc 3) 38 (.cons (.ite (.loc 21) (.str [67,108,97,115,115]) (.str [77,111,100,117,108,101])) .nil))) (.cons (.cond (.and (.cons (.loc 21) (.cons (.cmp .is (.loc 11) .none) .nil))) (.cons (.asg 11 (.zl (.loc 3) 38 (.cons (.str [79,98,106,101,99,116]) .nil))) .nil) .nil) (.cons (.asg 96 (.ite (.or (.cons (.cmp .is (.loc 42) .none) (.cons (.call (.zu 85) (.cons (.loc 42) (.cons (.zl (.loc 3) 38 (.cons (.str [79,98,106,101,99,116]) .nil)) .nil))) .nil))) .none (.loc 42))) (.cons (.asg 4 (.call (.zu 44) (.cons (.zl (.loc 3) 17 .nil) (.cons (.loc 18) (.cons (.loc 0) (.cons (.loc 21) (.cons (.loc 11) (.cons (.loc 96) .nil)))))))) (.cons (.z9 (.loc 4) 41 (.loc 41)) (.cons (.ret (.loc 4)) .nil)))))) J (.ok (.ret (.ref J.length)) [(3,.ref D.w),(0,xl),(21,.bool Ib),(11,pa),(42,.none),(41,at_),(18,.ref (D.ad 4)),(96,.none),(4,.ref J.length)] (J.set D.w (.inst 899 (wf D.w (num+1) D.zC main))++tD J.length (num+1) (.ref (D.ad 4)) xl pa at_)):=by obtain len:(J.set D.w (.inst 899 (wf D.w (num+1) D.zC main))).length=J.length:=HS;obtain x3:=yq (F:=⟨b,Ig,Ig,d+3⟩) (L:=[(3,.ref D.w),(0,xl),(21,.bool Ib),(11,pa),(42,.none),(41,at_),(18,.ref (D.ad 4)),(96,.none)]) (x:=4) (y0 (fm:=.zu 44) (yk rfl) (zp (yj (zx (x:=3) rfl) (xM (x:=17) hw rfl rfl) zf (cf hw)) (zp (zx (x:=18) rfl) (zp (zx (x:=0) rfl) (zp (zx (x:=21) rfl) (zp (zx (x:=11) rfl) (zp (zx (x:=96) rfl) zf)))))) (LZ (d:=d)));obtain x4:=xh (b:=b) (d:=d+3) (q:=Ig) (J:=J.set D.w (.inst 899 (wf D.w (num+1) D.zC main))) (L:=[(3,.ref D.w),(0,xl),(21,.bool Ib),(11,pa),(42,.none),(41,at_),(18,.ref (D.ad 4)),(96,.none),(4,.ref (J.set D.w (.inst 899 (wf D.w (num+1) D.zC main))).length)]) (c:=228) (rest:=[.dict [],.dict [],.dict [],.list [],.list []]) (fs:=mf ((J.set D.w (.inst 899 (wf D.w (num+1) D.zC main))).length+1) ((J.set D.w (.inst 899 (wf D.w (num+1) D.zC main))).length+2) ((J.set D.w (.inst 899 (wf D.w (num+1) D.zC main))).length+3) ((J.set D.w (.inst 899 (wf D.w (num+1) D.zC main))).length+4) ((J.set D.w (.inst 899 (wf D.w (num+1) D.zC main))).length+5) (.int (num+1)) (.ref (D.ad 4)) .none xl Ib pa .none .none .none) (x:=41) (y:=4) rfl (zx (x:=41) rfl) rfl rfl;rw[len]at x3 x4;exact zr (yq (yj (zx rfl) (xM hw rfl rfl) (zp (wb (zx rfl) zV) zf) (ct (j:=4) (by decide) R))) (zr (zO (vt (zx rfl) (ub (zZ (zx rfl) zQ (yT OQ)))) zj) (zr (yq (wb (sZ (zZ (zx rfl) zQ (yT rfl))) zQ)) (zr x3 (zr x4 (zT (zK (zx rfl)))))))
structure Ex(D D':Dt):Prop where
 w:D'.w=D.w
 kn:D'.kn=D.kn
 T:D'.T=D.T
 o:∀x,D.on x=true->D'.on x=true/\D'.ad x=D.ad x
 o7:D'.on 7=D.on 7
theorem Ex.re:Ex D D:=⟨rfl,rfl,rfl,λzz h=>⟨h,rfl⟩,rfl⟩
theorem Ex.tr{D1:Dt}(a:Ex D D1)(c:Ex D1 D'):Ex D D':=⟨c.w.trans a.w,c.kn.trans a.kn,c.T.trans a.T,λx h=>let⟨h1,e1⟩:=a.o x h;let⟨h2,e2⟩:=c.o x h1;⟨h2,e2.trans e1⟩,c.o7.trans a.o7⟩
theorem Ex.mk'(yE:D.on j=Ig)(h7:j≠7):Ex D (D.mk' j n nu):=⟨rfl,rfl,rfl,λx h=>⟨by rw[vC (kq yE h)];exact h,wU (kq yE h)⟩,vC h7.symm⟩
theorem M_{i j:Nat}(h:yn i=Ie j):yC j=match yC i with|.str s=>.str (s++[46])|v=>v:=by
 obtain hi:i<22:=HO λq=>by rw[yn,rG q]at h;cases h
 obtain this:∀i<22,(match yn i with|Ie j=>zR (match yC j with|.str s=>1::s|_=>[]) (match yC i with|.str s=>1::(s++[46])|_=>[])|none=>Ib)=Ib:=by decide+kernel
 obtain this:=this i hi;rw[h]at this;have:=xd.mp this;obtain nv:∀i,yC i=.none\/∃s,yC i=.str s:=λi=>by
  unfold yC;split;.exact .inr ⟨_,rfl⟩
  .exact .inl rfl
 rcases nv j with e|⟨s,e⟩<;>rcases nv i with e'|⟨s',e'⟩<;>rw[e,e']at this⊢;.cases this
 .cases this
 .cases this;rfl
theorem Ui(R:RI J D)(ho:yn i=Ie j)(hi:D.on i=Ib)(yE:D.on j=Ig)(hp:par j=Ie p)(qh:D.on p=Ib):X2 λzy nu=>C3 (XB ⟨b,Ig,Ig,d+4⟩ [(1,.ref D.w),(6,.ref (D.ad i)),(11,.ref (D.ad p))] (.cons (.z9 (.loc 6) 24 (.zl (.loc 1) 55 (.cons .none (.cons (.bool Ib) (.cons (.loc 11) (.cons .none (.cons (.loc 6) .nil))))))) (.cons (.cond (.and (.cons (.call (.zu 23) (.cons (.loc 6) (.cons (.zu 44) .nil))) (.cons (.cmp .yO (.attr (.loc 6) 34) .none) (.cons (.not (.zl (.loc 6) 72 .nil)) .nil)))) (.cons (.z9 (.attr (.loc 6) 24) 34 (.bin .add (.attr (.loc 6) 34) (.str [46]))) .nil) .nil) (.cons (.expr (.call (.zu 74) (.cons (.loc 1) .nil))) (.cons (.ret (.attr (.loc 6) 24)) .nil)))) J (.ok (.ret (.ref J.length)) [(1,.ref D.w),(6,.ref (D.ad i)),(11,.ref (D.ad p))] zy)) (RI zy (D.mk' j J.length nu)) (Lo D J zy):=by
 obtain⟨num,main,hw,hn⟩:=R.wo;obtain⟨c,fs,h1,hc,hl,hr,h2⟩:=R.tm hi;have la:=(R.s.lo i hi).1;have sS:=s7 hc;have hlen:=xr h1;obtain pb:=xr hw;obtain len:(J.set D.w (.inst 899 (wf D.w (num+1) D.zC main))).length=J.length:=HS;obtain s5:=Uh (b:=b) (d:=d) (xl:=.none) (at_:=.ref (D.ad i)) (pa:=.ref (D.ad p)) R hw rfl;obtain g2:=YK (zv:=J.set D.w (.inst 899 (wf D.w (num+1) D.zC main))) (l:=tD J.length (num+1) (.ref (D.ad 4)) .none (.ref (D.ad p)) (.ref (D.ad i)));obtain td:=g2.get (get_set (o:=.inst 899 (wf D.w (num+1) D.zC main)) hw);have Xn:=g2.get (zJ (o:=.inst 899 (wf D.w (num+1) D.zC main)) h1 (by lia));have at_:∀{k:Nat}{o:O},(tD J.length (num+1) (.ref (D.ad 4)) .none (.ref (D.ad p)) (.ref (D.ad i)))[k]?=Ie o->(J.set D.w (.inst 899 (wf D.w (num+1) D.zC main))++tD J.length (num+1) (.ref (D.ad 4)) .none (.ref (D.ad p)) (.ref (D.ad i)))[J.length+k]?=Ie o:=λ{k o}h=>by rewrite[Hj (by rw[len];exact HE _ _)];rewrite[len];rw[Ew];exact h
 obtain b0:=at_ (k:=0) rfl;obtain b2:=at_ (k:=2) rfl;obtain b4:=at_ (k:=4) rfl;obtain b5:=at_ (k:=5) rfl;obtain k2:Bt [D.w,D.ad i] J (J.set D.w (.inst 899 (wf D.w (num+1) D.zC main))++tD J.length (num+1) (.ref (D.ad 4)) .none (.ref (D.ad p)) (.ref (D.ad i))):=(Bt.re.set _ (.inl (.head _))).tr (.of g2);generalize J.set D.w (.inst 899 (wf D.w (num+1) D.zC main))++tD J.length (num+1) (.ref (D.ad 4)) .none (.ref (D.ad p)) (.ref (D.ad i))=zv at*;have Y0:xc c 24=Ib:=by rcases hc with rfl|rfl<;>rfl
 have OF:short fs=Ib:=by
  by_cases hm:i<18;.obtain⟨kp,a1,a3,q,_⟩:=R.oo i hi hm;replace q:=yZ h1 q;cases q;rfl
  .obtain⟨a,q⟩:=R.th i hi (He hm);replace q:=yZ h1 q;cases q;rfl
 have x5:=rC (F:=⟨b,Ig,Ig,d+4⟩) (L:=[(1,.ref D.w),(6,.ref (D.ad i)),(11,.ref (D.ad p))]) rfl (yj (zx (x:=1) rfl) (xM (x:=55) hw rfl rfl) (zp zQ (zp sO (zp (zx (x:=11) rfl) (zp zQ (zp (zx (x:=6) rfl) zf))))) (zG rfl rfl s5)) (zx (x:=6) rfl) Xn Y0 OF;have rX:=get_set (o:=.inst c (st 24 (.ref J.length) fs)) Xn;have lv:lk 24 (st 24 (.ref J.length) fs)=Ie (.ref J.length):=yw;have nn:D.ad i≠J.length:=by lia
 have b0:(zv.set (D.ad i) (.inst c (st 24 (.ref J.length) fs)))[J.length]?=_:=zJ b0 nn;have b2:(zv.set (D.ad i) (.inst c (st 24 (.ref J.length) fs)))[J.length+2]?=_:=zJ b2 (by lia);have b4:(zv.set (D.ad i) (.inst c (st 24 (.ref J.length) fs)))[J.length+4]?=_:=zJ b4 (by lia);have b5:(zv.set (D.ad i) (.inst c (st 24 (.ref J.length) fs)))[J.length+5]?=_:=zJ b5 (by lia);obtain eI:(zv.set (D.ad i) (.inst c (st 24 (.ref J.length) fs)))[D.w]?=_:=zJ td (by lia);have k3:Bt [D.w,D.ad i] J (zv.set (D.ad i) (.inst c (st 24 (.ref J.length) fs))):=k2.set _ (.inl (.tail _ (.head _)));generalize zv.set (D.ad i) (.inst c (st 24 (.ref J.length) fs))=wB at*;have fin:∀wL,X1 ⟨b,Ig,Ig,d+4⟩ [(1,.ref D.w),(6,.ref (D.ad i)),(11,.ref (D.ad p))] (.cond (.and (.cons (.call (.zu 23) (.cons (.loc 6) (.cons (.zu 44) .nil))) (.cons (.cmp .yO (.attr (.loc 6) 34) .none) (.cons (.not (.zl (.loc 6) 72 .nil)) .nil)))) (.cons (.z9 (.attr (.loc 6) 24) 34 (.bin .add (.attr (.loc 6) 34) (.str [46]))) .nil) .nil) wB (.ok .next [(1,.ref D.w),(6,.ref (D.ad i)),(11,.ref (D.ad p))] wL)->Bt [D.w,D.ad i] J wL->wL[J.length]?=Ie (.inst 228 (mP D i j J.length p (num+1)))->(∀r o,wB[r]?=Ie o->r≠J.length->wL[r]?=Ie o)->X2 λzy nu=>C3 (XB ⟨b,Ig,Ig,d+4⟩ [(1,.ref D.w),(6,.ref (D.ad i)),(11,.ref (D.ad p))] (.cons (.z9 (.loc 6) 24 (.zl (.loc 1) 55 (.cons .none (.cons (.bool Ib) (.cons (.loc 11) (.cons .none (.cons (.loc 6) .nil))))))) (.cons (.cond (.and (.cons (.call (.zu 23) (.cons (.loc 6) (.cons (.zu 44) .nil))) (.cons (.cmp .yO (.attr (.loc 6) 34) .none) (.cons (.not (.zl (.loc 6) 72 .nil)) .nil)))) (.cons (.z9 (.attr (.loc 6) 24) 34 (.bin .add (.attr (.loc 6) 34) (.str [46]))) .nil) .nil) (.cons (.expr (.call (.zu 74) (.cons (.loc 1) .nil))) (.cons (.ret (.attr (.loc 6) 24)) .nil)))) J (.ok (.ret (.ref J.length)) [(1,.ref D.w),(6,.ref (D.ad i)),(11,.ref (D.ad p))] zy)) (RI zy (D.mk' j J.length nu)) (Lo D J zy):=λwL x6 k4 b0 same=>by
  have Xl:=same _ _ eI (by lia);have OA:=same _ _ rX nn;have k5:Bt [D.w,D.ad i] J (wL.set D.w (.inst 899 (wf D.w (num+1) (D.zC+1) main))):=k4.set _ (.inl (.head _));have eJ:(wL.set D.w (.inst 899 (wf D.w (num+1) (D.zC+1) main)))[D.ad i]?=_:=zJ OA (by lia);refine⟨wL.set D.w (.inst 899 (wf D.w (num+1) (D.zC+1) main)),num+1,zr x5 (zr x6 (zr (yF (y7 rfl (zx rfl) (kW Xl))) (zT (zK (zM (zx rfl) eJ Y0 lv))))),R.jz ho hi yE hp qh hn (IV _) k5 (get_set Xl) ?_ (zJ b0 (by lia)) (zJ (same _ _ b2 (by lia)) (by lia)) (zJ (same _ _ b4 (by lia)) (by lia)) (zJ (same _ _ b5 (by lia)) (by lia)),k5.lo λr m=>?_⟩
  .by_cases hm:i<18;.rw[if_pos hm];obtain⟨kp,a1,a3,q,e⟩:=R.oo i hi hm;replace q:=yZ h1 q;cases q;exact⟨kp,a1,a3,eJ,e⟩
   .rw[if_neg hm];obtain⟨a,q⟩:=R.th i hi (He hm);replace q:=yZ h1 q;cases q;exact⟨a,eJ⟩
  .rcases IU.mp m with z|z;.lia
   .rw[I_.mp z];lia
 obtain nj:=M_ ho;have w8:yP i=none:=kA (qY ho).2;by_cases hm:i<18
 .have:=hl hm;subst this;obtain⟨kp,a1,a3,q1,_⟩:=R.oo i hi hm;replace q1:=yZ h1 q1;cases q1;have e0:=yU (F:=⟨b,Ig,Ig,d+4⟩) (L:=[(1,.ref D.w),(6,.ref (D.ad i)),(11,.ref (D.ad p))]) (x:=.loc 6) (y:=.zu 44) (g:=23) rfl (zx rfl) (yk rfl) (ta rX sS (t:=Ib) rfl rfl);obtain ln:lk 34 (st 24 (.ref J.length) (D.wV i a1 a3 kp))=Ie (yC i):=rfl;by_cases hz:yC i=.none;.rw[hz]at nj;rw[hz]at ln;refine fin wB (zO (vt e0 (tN (zZ (zM (zx rfl) rX rfl ln) zQ (uz rfl)))) zj) k3 ?_ λzz zz h zz=>h;unfold mP;rw[nj];exact b0
  .obtain⟨s,hs⟩:∃s,yC i=.str s:=by
    revert hz;unfold yC;split;.exactλzz=>⟨_,rfl⟩
    .exactλh=>absurd rfl h
   rw[hs]at nj ln;have OH:short (s++[46])=Ib:=by
    have:∀i<18,(match yC i with|.str s=>short (s++[46])|_=>Ib)=Ib:=by decide+kernel
    have:=this i hm;rw[hs]at this;exact this
   obtain la:lk 41 (st 24 (.ref J.length) (D.wV i a1 a3 kp))=Ie .none:=(show _=Ie (D.opt (yP i))from rfl).trans (by rw[w8];rfl);refine fin _ (ya (vt e0 (vt (zZ (zM (zx rfl) rX rfl ln) zQ (tP rfl)) (ub (vH (yj (zx rfl) (xM rX rfl rfl) zf (W6 (t:=Ib) rX la rfl)))))) (zr (rC rfl (yd (zM (zx rfl) rX rfl ln) zV (u5 OH)) (zM (zx rfl) rX rfl lv) b0 rfl rfl) zj)) (k3.set _ (.inr (IV _))) ?_ λr o h n=>zJ h (H0 n);unfold mP;rw[nj];exact get_set b0
 .obtain⟨fB,_⟩:=hr (He hm);subst fB;have e0:=yU (F:=⟨b,Ig,Ig,d+4⟩) (L:=[(1,.ref D.w),(6,.ref (D.ad i)),(11,.ref (D.ad p))]) (x:=.loc 6) (y:=.zu 44) (g:=23) rfl (zx rfl) (yk rfl) (ta rX sS (t:=Ig) rfl rfl);have hz:yC i=.none:=by
   unfold yC;obtain h1:¬(Hq i 5||(IP i 13||IP i 14))=Ib:=by
    rcases R.s.bd i hi with h|rfl|rfl;.exact absurd h hm
    .decide
    .decide
   rw[if_neg h1]
  rw[hz]at nj;refine fin wB (zO (tN e0) zj) k3 ?_ λzz zz h zz=>h;unfold mP;rw[nj];exact b0
end
theorem d6{i j:Nat}(h:yn i=Ie j):match(if Hq i 18&&yb i then par i else none)with|Ie p=>∃k,C4 (yn p=Ie k) (par j=Ie k) (p<18) (rank p<rank i)|none=>par j=Ie (if Hq i 18 then(if yb i then 4 else 3)else i-15):=by
 have hi:i<22:=HO λq=>by rw[yn,rG q]at h;cases h
 obtain this:∀i<22,(match yn i with|Ie j=>(match(if Hq i 18&&yb i then par i else none)with|Ie p=>(match yn p with|Ie k=>par j==Ie k&&(Hq p 18&&Hq (rank p) (rank i))|none=>Ig)|none=>par j==Ie (if Hq i 18 then(if yb i then 4 else 3)else i-15))|none=>Ib)=Ib:=by decide+kernel
 obtain this:=this i hi;rw[h]at this;cases q:(if Hq i 18&&yb i then par i else none)with|none=>rw[q]at this;exact eq_of_beq this|some p=>rw[q]at this;cases q2:yn p with|none=>simp only[q2]at this;cases this|some k=>simp only[q2]at this;obtain⟨h1,this⟩:=zh this;obtain⟨h2,h3⟩:=zh this;exact⟨k,q2,eq_of_beq h1,ID h2,ID h3⟩
section
variable{b:Bc}
noncomputable def ma(b:Bc)(d:Nat)(J:St)(D:Dt)(i j:Nat):Prop:=X2 λD' zy=>C6 (Call ⟨b,Ig,Ig,d⟩ (.fn 474) [.ref D.w,.ref (D.ad i)] J (.ok (.ref (D'.ad j)) zy)) (RI zy D') (D'.on j=Ib) (Lo D J zy) (Ex D D') (∀x,D'.on x=Ib->D.on x=Ib\/rank x<=rank j)
theorem Vw{d i j:Nat}{J:St}{D:Dt}(R:RI J D)(hi:D.on i=Ib)(ho:yn i=Ie j)(IH:∀p k,par i=Ie p->p<18->rank p<rank i->i<18->yn p=Ie k->D.on p=Ib->ma b (d+4) J D p k):ma b (d+5) J D i j:=by
 obtain⟨c,fs,h1,hc,hl,hr,h2⟩:=R.tm hi;have hp:=s7 hc;have hk:xc c 24=Ib:=by rcases hc with rfl|rfl<;>rfl
 have t0:prog.sub c 40=Ib:=by rcases hc with rfl|rfl<;>rfl
 have s0:=zO (F:=⟨b,Ig,Ig,d+4⟩) (L:=[(1,.ref D.w),(6,.ref (D.ad i))]) (c:=(.or (.cons (.cmp .is (.loc 6) .none) (.cons (.call (.zu 23) (.cons (.loc 6) (.cons (.zu 112) .nil))) .nil)))) (a:=(.cons (.ret (.zl (.loc 1) 100 (.cons (.loc 6) .nil))) .nil)) (b:=.nil) (uL (zZ (zx (x:=6) rfl) zQ (yT rfl)) (uK (yU (g:=23) rfl (zx (x:=6) rfl) (yk (x:=112) rfl) (pZ h1 hp rfl)))) zj;have s1:=zO (F:=⟨b,Ig,Ig,d+4⟩) (L:=[(1,.ref D.w),(6,.ref (D.ad i))]) (c:=(.not (.call (.zu 23) (.cons (.loc 6) (.cons (.zu 64) .nil))))) (a:=(.cons (.expr (.zl (.loc 1) 57 (.cons (.str [84,121,112,101,69,114,114,111,114]) (.cons (.str [99,97,110,39,116,32,100,101,102,105,110,101,32,115,105,110,103,108,101,116,111,110]) .nil)))) .nil)) (b:=.nil) (vH (yU (g:=23) rfl (zx (x:=6) rfl) (yk (x:=64) rfl) (ta h1 hp rfl t0))) zj;have i2:=zZ (F:=⟨b,Ig,Ig,d+4⟩) (L:=[(1,.ref D.w),(6,.ref (D.ad i))]) (zM (zx (x:=6) rfl) h1 hk h2) zQ (rd (d8 _));cases yE:D.on j with
 |true=>
  have hf:(yn i).filter D.on=Ie j:=by rewrite[ho];rewrite[HW];rw[if_pos yE]
  rw[hf]at i2;rw[(ko hf).1]at h2;exact⟨D,J,zG rfl rfl (zr s0 (zr s1 (zT (ya i2 (zT (zK (zM (zx rfl) h1 hk h2))))))),R,yE,Kp.re.lo,.re,λx h=>.inl h⟩
 |false=>
  have hf:(yn i).filter D.on=none:=by rewrite[ho];rewrite[HW];rw[if_neg (by rw[yE];exact Hi)]
  rw[hf]at i2;obtain⟨o,o1,o2,co⟩:=W9 (b:=b) (d:=d+3) R hi;obtain⟨num,main,hw,_⟩:=R.wo;have s3:=yq (x:=11) (yj (F:=⟨b,Ig,Ig,d+4⟩) (L:=[(1,.ref D.w),(6,.ref (D.ad i))]) (zx (x:=1) rfl) (xM (x:=100) hw rfl rfl) (zp (zx (x:=6) rfl) zf) co);obtain op:=d6 ho;have j7:j≠7:=by obtain this:=(qY ho).1;lia
  have plain:∀q,par j=Ie q->o=q->D.on q=Ib->X1 ⟨b,Ig,Ig,d+4⟩ [(1,.ref D.w),(6,.ref (D.ad i)),(11,.ref (D.ad o))] (.cond (.and (.cons (.call (.zu 23) (.cons (.loc 6) (.cons (.zu 44) .nil))) (.cons (.attr (.loc 6) 21) (.cons (.cmp .yO (.attr (.loc 6) 11) .none) .nil)))) (.cons (.asg 11 (.call (.zu 68) (.cons (.loc 1) (.cons (.attr (.loc 6) 11) .nil)))) .nil) .nil) J (.ok .next [(1,.ref D.w),(6,.ref (D.ad i)),(11,.ref (D.ad o))] J)->ma b (d+5) J D i j:=λq hq e yY s4=>by
   subst e;obtain⟨zy,nu,k,R',lo⟩:=Ui (b:=b) (d:=d) R ho hi yE hq yY;have hj:(D.mk' j J.length nu).ad j=J.length:=l8;exact⟨D.mk' j J.length nu,zy,by rw[hj];exact zG rfl rfl (zr s0 (zr s1 (zr (zO i2 zj) (zr s3 (zr s4 k))))),R',kz,lo,.mk' yE j7,λx h=>by
    by_cases e:x=j;.rw[e];exact .inr (IV _)
    .rw[vC e]at h;exact .inl h⟩
  by_cases hm:i<18
  .have:=hl hm;subst this;have qx:Hq i 18=Ib:=Hz hm;rw[qx,F9]at op;obtain⟨x9,wu,_,_,h4,h5,_⟩:=R.nT hi hm;replace wu:=yZ h1 wu;cases wu;have e0:=yU (F:=⟨b,Ig,Ig,d+4⟩) (L:=[(1,.ref D.w),(6,.ref (D.ad i)),(11,.ref (D.ad o))]) (x:=.loc 6) (y:=.zu 44) (g:=23) rfl (zx rfl) (yk rfl) (ta h1 hp (t:=Ib) rfl rfl);obtain o1:=o1 hm;cases wH:yb i with
   |false=>rw[wH]at op h4 o1;exact plain 3 op o1 (R.s.om 3 (by decide) (by decide)) (zO (vt e0 (tN (zM (zx rfl) h1 rfl h4))) zj)
   |true=>
    rw[wH]at op h4 o1;cases hq:par i with
    |none=>rw[hq]at op h5;exact plain 4 op o1 (R.s.om 4 (by decide) (by decide)) (zO (vt e0 (vt (zM (zx rfl) h1 rfl h4) (ub (zZ (zM (zx rfl) h1 rfl h5) zQ (uz rfl))))) zj)
    |some p=>
     obtain yY:=R.s.pm i p hi hq;rw[hq]at op h5;rw[tB yY]at h5;obtain⟨k,p1,p2,p3,p4⟩:=op;obtain⟨D1,yz,c1,R1,q1,lo1,lq,rk⟩:=IH p k hq p3 p4 hm p1 yY;have Xv:D1.on j=Ig:=by
      cases q:D1.on j with
      |false=>rfl
      |true=>
       rcases rk j q with z|z;.replace z:=yE.symm.trans z;cases z
       .obtain this:=vA p2;lia
     obtain⟨zy,nu,kx,R',lo⟩:=Ui (b:=b) (d:=d) R1 ho (lq.o i hi).1 Xv p2 q1;rw[lq.w,(lq.o i hi).2]at kx;obtain hj:(D1.mk' j yz.length nu).ad j=yz.length:=l8;refine⟨D1.mk' j yz.length nu,zy,by rw[hj];exact zG rfl rfl (zr s0 (zr s1 (zr (zO i2 zj) (zr s3 (zr (ya (vt e0 (vt (zM (zx rfl) h1 rfl h4) (ub (zZ (zM (zx rfl) h1 rfl h5) zQ (tP rfl))))) (zr (yq (yU (g:=68) rfl (zx rfl) (zM (zx rfl) h1 rfl h5) c1)) zj)) kx))))),R',kz,lo1.tr lo lq.w,lq.tr (.mk' Xv j7),λx h=>?_⟩;by_cases e:x=j;.rw[e];exact .inr (IV _)
     .rw[vC e]at h;exact(rk x h).imp id λz=>by obtain this:=vA p2;lia
  .obtain⟨fB,_⟩:=hr (He hm);subst fB;have qx:Hq i 18=Ig:=by cases q:Hq i 18 with|false=>rfl|true=>exact absurd (ID q) hm
   rw[qx]at op;obtain e0:=yU (F:=⟨b,Ig,Ig,d+4⟩) (L:=[(1,.ref D.w),(6,.ref (D.ad i)),(11,.ref (D.ad o))]) (x:=.loc 6) (y:=.zu 44) (g:=23) rfl (zx rfl) (yk rfl) (ta h1 hp (t:=Ig) rfl rfl);exact plain (i-15) op (o2 (He hm)) (by rcases R.s.bd i hi with h|rfl|rfl;exact absurd h hm;exact R.s.om 5 (by decide) (by decide);exact R.s.om 6 (by decide) (by decide)) (zO (tN e0) zj)
theorem Vx(d:Nat):∀(n:Nat){i j:Nat}{J:St}{D:Dt},(i<18->rank i<=n)->RI J D->D.on i=Ib->yn i=Ie j->ma b (d+(n+5)) J D i j|0,zo,zY,zF,yX,hr,R,hi,ho=>Vw R hi ho λzz zz zz zz h3 h4 zz zz=>by have:=hr h4;lia|n+1,zo,zY,zF,yX,hr,R,hi,ho=>Vw (d:=d+(n+1)) R hi ho λzz zz zz h2 h3 h4 h5 h6=>Vx d n (λzz=>by have:=hr h4;lia) R h6 h5
theorem cb{d i j:Nat}{J:St}{D:Dt}(R:RI J D)(hi:D.on i=Ib)(ho:yn i=Ie j):ma b (d+12) J D i j:=Vx d 7 (λh=>kU h) R hi ho
end
noncomputable def yx:Nat->List Nat:=tab [] [[66,97,115,105,99,79,98,106,101,99,116],[75,101,114,110,101,108],[79,98,106,101,99,116],[77,111,100,117,108,101],[67,108,97,115,115],[65],[66],[67],[77],[78],[60,97,62],[60,99,62],[60,77,62],[60,66,97,115,105,99,79,98,106,101,99,116,62],[60,79,98,106,101,99,116,62],[60,65,62],[60,66,62],[60,67,62]]
noncomputable def zU(i:Nat):V:=.str (yx i)
noncomputable def xJ(h:yy):V:=.tup [match h.b with|Ie t=>.str t|none=>.none,zU h.o,.str h.s,.str h.n]
noncomputable def xK:Option yy->V|Ie h=>xJ h|none=>.none
structure Mt where
 m:Nat
 ro:Nat->Nat
 la:Bool->Nat->Nat
 da:Nat->Nat
 x:Nat
 xs:List V
noncomputable def Mt.dict(Q:Mt):List (List Nat×V):=(HM 18).map λi=>(yx i,V.ref (Q.ro i))
noncomputable def Mt.row(Q:Mt)(i:Nat):List V:=[match par i with|Ie p=>zU p|none=>.none,.ref (Q.la Ib i),.ref (Q.la Ig i),.ref (Q.da i)]
structure MI(Q:Mt)(lim:Nat)(J:St)(T:Tb):Prop where
 m:J[Q.m]?=some (.dict Q.dict)
 r:∀i<18,J[Q.ro i]?=some (.list (Q.row i))
 l:∀i c,i<18->J[Q.la c i]?=some (.list (((T i).li c).map zU))
 d:∀i<18,J[Q.da i]?=some (.dict (yB xJ (T i).ms))
 lt:Q.m<lim/\∀i<18,C3 (Q.ro i<lim) (∀c,Q.la c i<lim) (Q.da i<lim)
 jl:∀i j c e,i<18->j<18->Q.la c i=Q.la e j->i=j/\c=e
 jr:∀i j c,i<18->j<18->Q.ro i≠Q.la c j
 jd:∀i j,i<18->j<18->Q.da i=Q.da j->i=j
 jm:∀i<18,Q.da i≠Q.m
 w:WF T
 x:J[Q.x]?=some (.list Q.xs)
 lx:Q.x<lim
 jx:∀i c,i<18->Q.la c i≠Q.x
noncomputable def za(l:List Nat):List V:=l.map zU
theorem nQ{i j:Nat}(hi:i<18)(hj:j<18):zR (yx i) (yx j)=(i==j):=by
 obtain this:∀i<18,∀j<18,zR (yx i) (yx j)=(i==j):=by decide+kernel
 exact this i hi j hj
theorem kQ(l:List Nat):strsOf (za l)=Ie (l.map yx):=by induction l with|nil=>rfl|cons x l ih=>show(strsOf (za l)).map (yx x::.)=_;rw[ih];rfl
theorem mU{x:Nat}(hx:x<18):∀{l:List Nat},(∀y∈l,y<18)->(l.map yx).any (zR (yx x))=l.contains x|[],zo=>rfl|y::l,h=>by rewrite[Hy];rewrite[List.any_cons];rewrite[I1];rewrite[nQ hx (h y (.head _))];rw[mU hx λz hz=>h z (.tail _ hz)]
theorem Rk{f:Nat->Nat}{i:Nat}(hi:i<18):zE (yx i) ((HM 18).map λi=>(yx i,V.ref (f i)))=Ie (.ref (f i)):=by
 obtain go:∀l:List Nat,(∀y∈l,y<18)->i∈l->zE (yx i) (l.map λi=>(yx i,V.ref (f i)))=Ie (.ref (f i)):=by intro l;induction l with|nil=>intro _ h;cases h|cons y l ih=>intro hl hm;show(match zR (yx i) (yx y)with|Ib=>Ie (V.ref (f y))|Ig=>zE (yx i) (l.map λi=>(yx i,V.ref (f i))))=_;rw[nQ hi (hl y (.head _))];cases q:i==y with|true=>rw[eq_of_beq q]|false=>exact ih (λz hz=>hl z (.tail _ hz)) ((IU.mp hm).resolve_left λe=>by rw[e,beq_self_eq_true]at q;cases q)
 exact go _ (λy hy=>HC.mp hy) (HC.mpr hi)
section
variable{b:Bc}{d lim:Nat}{q:Bool}{J zt zy:St}{T T':Tb}{Q:Mt}{i:Nat}{k:List Nat}{L:Loc}
theorem MI.to(M:MI Q lim J T)(k:∀(r:Nat)(o:O),r<lim->pK o=Ib->J[r]?=Ie o->zy[r]?=Ie o):MI Q lim zy T:=⟨k _ _ M.lt.1 rfl M.m,λi h=>k _ _ (M.lt.2 i h).1 rfl (M.r i h),λi c h=>k _ _ ((M.lt.2 i h).2 c) rfl (M.l i c h),λi h=>k _ _ (M.lt.2 i h).3 rfl (M.d i h),M.lt,M.jl,M.jr,M.jd,M.jm,M.w,k _ _ M.lx rfl M.x,M.lx,M.jx⟩
theorem MI.gr(M:MI Q lim J T)(g:Gr J zy):MI Q lim zy T:=M.to λzz zz zz zz h=>g.get h
theorem oS(M:MI Q lim J T)(hi:i<18){e e':Mine.M}{j:Nat}{v:V}(l1:lk 7 L=Ie (.ref Q.m))(he:E ⟨b,Ig,q,d⟩ L e J (.ok (zU i) J))(hj:E ⟨b,Ig,q,d⟩ L e' J (.ok (.int j) J))(hv:(Q.row i)[j]?=Ie v)(h4:j<5):E ⟨b,Ig,q,d⟩ L (.sub (.sub (.loc 7) e) e') J (.ok v J):=yH (yH (zx l1) he (nF (.inl M.m) (Rk hi))) hj (sy (M.r i hi) hv (H3 h4 (by decide)))
theorem iJ{l:Nat}{ns:List Nat}(M:MI Q lim J T)(hl:J[l]?=Ie (.list (za ns)))(hn:∀y∈ns,y<18):Call ⟨b,Ig,Ig,d+1⟩ (.fn 927) [.ref Q.m,.ref l,.str k] J (.ok (xK (zH T k ns)) J):=by
 obtain⟨L',zy,z⟩:=FL.go (F:=⟨b,Ig,Ig,d⟩) (xs:=[5]) (t:=.list l) (b:=(.cons (.asg 13 (.zl (.sub (.sub (.loc 7) (.loc 5)) (.int 3)) 49 (.cons (.loc 8) .nil))) (.cons (.cond (.cmp .yO (.loc 13) .none) (.cons (.ret (.ite (.cmp .is (.sub (.loc 13) (.int 0)) .none) .none (.loc 13))) .nil) .nil) .nil))) (l:=za ns) (zs:=ns) (g:=λzz x=>zU x) (IY _) (λp z h=>by unfold za;rewrite[IM];rw[h];rfl) (P:=λp ys L zv=>C4 (zv=J) (lk 7 L=Ie (.ref Q.m)) (lk 8 L=Ie (.str k)) (zH T k ys=zH T k ns)) (Q:=λv zv=>zv=J/\v=xK (zH T k ns)) (λp ys L zv h=>h.1▸hl) (by rintro p x ys L zv hp hd⟨rfl,l1,l2,hf⟩;obtain hx:=hn x (I9 hp);obtain hd:=M.d x hx;have h0:=yj (F:=⟨b,Ig,Ig,d⟩) (L:=st 5 (zU x) L) (oS M hx (zg rfl l1) (zx (x:=5) yw) yr (j:=3) rfl (by decide)) (tM hd) (zp (zx (zg rfl l2)) zf) (qd (.inl hd));rw[qt]at h0;obtain hf:(match yW k (T x).ms with|Ie h=>live h|none=>zH T k ys)=zH T k ns:=hf;cases hh:yW k (T x).ms with|none=>rw[hh]at h0 hf;exact⟨_,_,zv,rfl,.inl ⟨zr (yq h0) (zr (zO (zZ (zx yw) zQ (uz rfl)) zj) zj),rfl,zg rfl (zg rfl l1),zg rfl (zg rfl l2),hf⟩⟩|some h=>rw[hh]at h0 hf;obtain hf:live h=zH T k ns:=hf;refine⟨_,_,zv,rfl,.inr ⟨_,zr (yq h0) (zT (ya (zZ (zx yw) zQ (tP rfl)) (zT (zK (?_:E _ _ _ _ (.ok (xK (live h)) zv)))))),rfl,by rw[<-hf]⟩⟩;have hs:E ⟨b,Ig,Ig,d⟩ (st 13 (xJ h) (st 5 (zU x) L)) (.cmp .is (.sub (.loc 13) (.int 0)) .none) zv (.ok (.bool h.b.isNone) zv):=zZ (yH (zx yw) yr (vk (j:=0) rfl (by decide))) zQ (yT (by cases h.b<;>rfl));unfold live;cases hb:h.b with|none=>rw[hb]at hs;exact wb hs zQ|some t=>rw[hb]at hs;exact we hs (zx yw)) ns.length 0 ns [(7,.ref Q.m),(33,.ref l),(8,.str k)] J rfl rfl ⟨rfl,rfl,rfl,rfl⟩;rw[show ns.length=(za ns).length from(IY _).symm]at z;rcases z with⟨c,rfl,_,_,hf⟩|⟨v,c,rfl,rfl⟩;.exact zG rfl rfl (zr (xY (t:=.list l) rfl (zx rfl) hl rfl c) (zT (zK (by rw[<-hf];exact zQ))))
 .exact zG rfl rfl (zT (xY (t:=.list l) rfl (zx rfl) hl rfl c))
end
noncomputable abbrev Pn:=List Int×Nat
noncomputable def vO(x:Pn):uO:=(x.1,yx x.2)
noncomputable def pv(x:Pn):V:=xa (vO x)
noncomputable def tJ(p:List Int)(s:Int)(len:Nat):Nat->List Nat->List Pn|zo,[]=>[]|k,x::r=>(p++[s,(len:Int)-1-k],x)::tJ p s len (k+1) r
noncomputable def sN(T:Tb)(p:List Int)(i:Nat):List Pn:=tJ p 0 ((T i).li Ib).length 0 ((T i).li Ib)++tJ p 2 ((T i).li Ig).length 0 ((T i).li Ig)
noncomputable def sA(T:Tb):Nat->List Pn->List Pn->Option (List Pn)|0,zo,zY=>none|zo+1,f,[]=>Ie f|n+1,f,x::w=>sA T n (f++[(x.1++[1],x.2)]) ((sN T x.1 x.2).reverse++w)
noncomputable def LP(Q:Mt)(fa wa:Nat)(p:List Int)(i:Nat)(L:Loc):Prop:=C5 (lk 7 L=Ie (.ref Q.m)) (lk 4 L=Ie (.ref fa)) (lk 50 L=Ie (.ref wa)) (lk 32 L=Ie (.tup (p.map V.int))) (lk 5 L=Ie (zU i))
noncomputable def MH(x:Nat):Bool:=IP 7 x||(IP 4 x||(IP 50 x||(IP 32 x||IP 5 x)))
section
variable{b:Bc}{d lim:Nat}{q:Bool}{J yt zt zy zv:St}{T T':Tb}{Q:Mt}{i fa wa:Nat}{k:List Nat}{L:Loc}{p:List Int}
theorem LP.st{x:Nat}{v:V}(h:LP Q fa wa p i L)(hx:MH x=Ig):LP Q fa wa p i (st x v L):=by obtain⟨a1,hx⟩:=Hd.mp hx;obtain⟨a2,hx⟩:=Hd.mp hx;obtain⟨a3,hx⟩:=Hd.mp hx;obtain⟨a4,a5⟩:=Hd.mp hx;exact⟨zg a1 h.1,zg a2 h.2,zg a3 h.3,zg a4 h.4,zg a5 h.5⟩
theorem ip(s:Int)(len:Nat):∀(l:List Nat)(k:Nat),(tJ p s len k l).length=l.length|[],zo=>rfl|x::l,k=>congrArg (.+1) (ip s len l (k+1))
theorem Ug{c:Bool}{s:Int}{j:Nat}{u:List Pn}(hj:1+s/2=(j:Int))(hr:(Q.row i)[j]?=Ie (.ref (Q.la c i)))(h5:j<5)(Z:MI Q lim zv T)(hi:i<18)(hw:zv[wa]?=Ie (.list (u.map pv)))(hn:∀i<18,∀c,Q.la c i≠wa)(l0:LP Q fa wa p i L)(l1:lk 51 L=Ie (.int s))(hu:u.length<=900)(hp:p.length<=900):∃L',XB ⟨b,Ig,Ig,d⟩ L (.cons (.asg 46 (.sub (.sub (.loc 7) (.loc 5)) (.bin .add (.int 1) (.bin .floordiv (.loc 51) (.int 2))))) (.cons (.for [12] .range (.call (.zu 31) (.cons (.loc 46) .nil)) (.cons (.expr (.zl (.loc 50) 30 (.cons (.tup (.cons (.bin .add (.loc 32) (.tup (.cons (.loc 51) (.cons (.bin .sub (.bin .sub (.call (.zu 31) (.cons (.loc 46) .nil)) (.int 1)) (.loc 12)) .nil)))) (.cons (.sub (.loc 46) (.loc 12)) .nil))) .nil))) .nil)) .nil)) zv (.ok .next L' (zv.set wa (.list ((u++tJ p s ((T i).li c).length 0 ((T i).li c)).map pv))))/\LP Q fa wa p i L':=by obtain hl:=Z.l i c hi;have two:=Z.w.two i c;obtain e0:=oS (b:=b) (d:=d) (q:=Ig) Z hi l0.1 (zx (x:=5) l0.5) (e':=(.bin .add (.int 1) (.bin .floordiv (.loc 51) (.int 2)))) (by rw[<-hj];exact yd yr (yd (zx l1) yr (oZ (by decide) (by decide))) g_) hr h5;obtain⟨L',zk,k,k1,k2,⟨v,k3,k4,k5⟩,k6⟩:=FL.all (F:=⟨b,Ig,Ig,d⟩) (xs:=[12]) (t:=.range (((T i).li c).map zU).length) (b:=(.cons (.expr (.zl (.loc 50) 30 (.cons (.tup (.cons (.bin .add (.loc 32) (.tup (.cons (.loc 51) (.cons (.bin .sub (.bin .sub (.call (.zu 31) (.cons (.loc 46) .nil)) (.int 1)) (.loc 12)) .nil)))) (.cons (.sub (.loc 46) (.loc 12)) .nil))) .nil))) .nil)) (l:=(HM (((T i).li c).map zU).length).map λ(j:Nat)=>V.int j) (zs:=(T i).li c) (g:=λp zz=>.int p) (by rewrite[IY];rewrite[Gb];rw[IY]) (λp z h=>by obtain this:=(IF.mp h).1;rewrite[IM];rw[ES (by rw[IY];exact this)];rfl) (P:=λm ys L zk=>C4 (LP Q fa wa p i L) (lk 51 L=Ie (.int s)) (∃v,C3 (zk=zv.set wa (.list (v.map pv))) (v.length<=u.length+m) (v++tJ p s ((T i).li c).length m ys=u++tJ p s ((T i).li c).length 0 ((T i).li c))) (lk 46 L=Ie (.ref (Q.la c i)))) (λm ys L zk h=>⟨by rw[IY];exact Hz (I8 two (by decide)),by rw[Ga]⟩) (by rintro m x ys L zk hm hd⟨l0,l1,⟨v,rfl,hv,hk⟩,l2⟩;have yJ:=(IF.mp hm).1;have pd:(zv.set wa (.list (v.map pv)))[wa]?=Ie (.list (v.map pv)):=get_set hw;have sV:(zv.set wa (.list (v.map pv)))[Q.la c i]?=_:=zJ hl (H0 (hn i hi c));have dm:=l0.st (x:=12) (v:=.int m) rfl;obtain len:=y7 (F:=⟨b,Ig,Ig,d⟩) (L:=st 12 (.int m) L) (x:=.loc 46) (g:=31) rfl (zx (zg rfl l2)) (q6 sV (xG (by rw[IY];lia)));rw[IY]at len;refine⟨_,_,_,rfl,zr (yF (yj (zx dm.3) (ua pd) (zp (xU (zp (yd (zx dm.4) (xU (zp (zx (zg rfl l1)) (zp (yd (yd len yr b9) (zx yw) b9) zf)) rfl) (b8 (xG (by rewrite[IZ];rw[IY];exact EY (I8 hp (by decide:900<=990)) (by decide:2<=10))))) (zp (yH (zx (zg rfl l2)) (zx yw) (sy sV (by rewrite[IM];rw[hm];rfl) (by obtain this:=HY yJ two;lia))) zf)) rfl) zf) (pP rfl pd (xG (by rw[IY];lia))))) zj,dm,zg rfl l1,⟨v++[(p++[s,(((T i).li c).length:Int)-1-m],x)],?_,by rw[IZ];exact Nat.add_le_add_right hv 1,by rw[I3];exact hk⟩,zg rfl l2⟩;rw[EB];simp only[HH,Hy,GW,pv,vO,xa,zU]) (L:=st 46 (.ref (Q.la c i)) L) (J:=zv) ⟨l0.st rfl,zg rfl l1,⟨u,(set_same hw).symm,IV _,rfl⟩,yw⟩;subst k3;obtain k5:_++[]=_:=k5;rw[Hf]at k5;subst k5;refine⟨L',zr (yq e0) (zr (xY (t:=.range (((T i).li c).map zU).length) rfl (y7 rfl (zx yw) (q6 hl (xG (by rw[IY];lia)))) ⟨by rw[IY];exact Hz (I8 two (by decide)),by rw[Ga]⟩ rfl k) zj),k1⟩
end
theorem Wz:∀l:List Int,(l.map V.int).all (lvl 1)=Ib|[]=>rfl|i::l=>by rewrite[Hy];rewrite[List.all_cons];rw[Wz l];rfl
theorem N0{x:Pn}(h:x.2<18):lvl 3 (pv x)=Ib:=by
 obtain h1:∀i<18,((yx i).all λc=>Hq c 0x110000)=Ib:=by decide+kernel
 show((x.1.map V.int).all (lvl 1)&&(((yx x.2).all λc=>Hq c 0x110000)&&Ib))=Ib;rewrite[Wz];rw[h1 _ h];rfl
theorem N'{l:List Pn}(h:∀x∈l,x.2<18):(l.map pv).all (lvl 3)=Ib:=I2.mpr λv hv=>by obtain⟨x,hx,rfl⟩:=HT.mp hv;exact N0 (h x hx)
theorem pU{p:List Int}{s:Int}{len:Nat}{x:Pn}:∀{l:List Nat}{k:Nat},x∈tJ p s len k l->x.2∈l/\x.1.length=p.length+2
|y::l,k,h=>by
 rcases IU.mp h with e|h;.rw[e];exact⟨.head _,by rw[IZ];rfl⟩
 .exact(pU h).imp (.tail _) id
section
variable{b:Bc}{d lim:Nat}{q:Bool}{J yt zt zy zv:St}{T T':Tb}{Q:Mt}{i fa wa:Nat}{k:List Nat}{L:Loc}{p:List Int}
theorem NR(w:WF T){x:Pn}(h:x∈sN T p i):x.2<18/\x.1.length=p.length+2:=by
 have g:∀c,x.2∈(T i).li c->x.2<18:=λc h=>by rcases w.pz h with e|e|e<;>rw[e]<;>decide
 rcases HQ.mp h with h|h;.exact⟨g Ib (pU h).1,(pU h).2⟩
 .exact⟨g Ig (pU h).1,(pU h).2⟩
theorem NS(w:WF T):(sN T p i).length<=4:=by unfold sN;rewrite[IZ];rewrite[ip];rw[ip];exact EY (w.two i Ib) (w.two i Ig)
theorem Jk{xs:List Pn}(hx:∀x∈xs,x.2<18)(hw:zv[wa]?=Ie (.list (xs.map pv)))(hL:lk 50 L=Ie (.ref wa)):E ⟨b,Ig,Ig,d⟩ L (.cmp .ne (.loc 50) (.lst .nil)) zv (.ok (.bool (!xs.isEmpty)) (zv++[.list []])):=by refine zZ (zx hL) (y' zf rfl) (mO (.inl ((Gr.push _).get hw)) z7 (N' hx) rfl ?_).2;cases xs<;>simp only[GW,Hy,vV,ER,List.isEmpty]
theorem Ji{f w:List Pn}{x:Pn}(Z:MI Q lim yt T)(hl:lim<=yt.length)(g:Gr yt zv)(ha:yt.length<=fa)(hb:yt.length<=wa)(wM:fa≠wa)(hf:zv[fa]?=Ie (.list (f.map pv)))(hw:zv[wa]?=Ie (.list ((w.reverse++[x]).map pv)))(hx:x.2<18)(Y2:f.length<=800)(pb:w.length<=800)(sS:x.1.length<=800)(l1:lk 7 L=Ie (.ref Q.m))(l2:lk 4 L=Ie (.ref fa))(l3:lk 50 L=Ie (.ref wa)):X2 λL' zk=>C7 (XB ⟨b,Ig,Ig,d⟩ L (.cons (.y8 [32,5] (.zl (.loc 50) 69 .nil)) (.cons (.expr (.zl (.loc 4) 30 (.cons (.tup (.cons (.bin .add (.loc 32) (.tup (.cons (.int 1) .nil))) (.cons (.loc 5) .nil))) .nil))) (.cons (.for [51] .plain (.tup (.cons (.int 0) (.cons (.int 2) .nil))) (.cons (.asg 46 (.sub (.sub (.loc 7) (.loc 5)) (.bin .add (.int 1) (.bin .floordiv (.loc 51) (.int 2))))) (.cons (.for [12] .range (.call (.zu 31) (.cons (.loc 46) .nil)) (.cons (.expr (.zl (.loc 50) 30 (.cons (.tup (.cons (.bin .add (.loc 32) (.tup (.cons (.loc 51) (.cons (.bin .sub (.bin .sub (.call (.zu 31) (.cons (.loc 46) .nil)) (.int 1)) (.loc 12)) .nil)))) (.cons (.sub (.loc 46) (.loc 12)) .nil))) .nil))) .nil)) .nil))) .nil))) zv (.ok .next L' zk)) (Gr yt zk) (zk[fa]?=Ie (.list ((f++[(x.1++[1],x.2)]).map pv))) (zk[wa]?=Ie (.list ((w.reverse++sN T x.1 x.2).map pv))) (lk 7 L'=Ie (.ref Q.m)) (lk 4 L'=Ie (.ref fa)) (lk 50 L'=Ie (.ref wa)):=by
 have hn:∀i<18,∀c,Q.la c i≠wa:=λi hi c e=>by obtain this:=(Z.lt.2 i hi).2 c;lia
 rw[HH]at hw;obtain x0:=u9 (F:=⟨b,Ig,Ig,d⟩) (L:=L) (xs:=[32,5]) rfl (yj (zx l3) (R8 hw) zf (Ms rfl hw (xG (by rewrite[IY];rw[HN];lia)))) (L':=st 5 (zU x.2) (st 32 (.tup (x.1.map V.int)) L)) rfl;have sP:(zv.set wa (.list (w.reverse.map pv)))[wa]?=_:=get_set hw;obtain qi:(zv.set wa (.list (w.reverse.map pv)))[fa]?=_:=zJ hf (H0 wM);obtain g1:Gr yt (zv.set wa (.list (w.reverse.map pv))):=g.set hb;generalize zv.set wa (.list (w.reverse.map pv))=yQ at*;have lp:LP Q fa wa x.1 x.2 (st 5 (zU x.2) (st 32 (.tup (x.1.map V.int)) L)):=⟨zg rfl (zg rfl l1),zg rfl (zg rfl l2),zg rfl (zg rfl l3),zg rfl yw,yw⟩;obtain x1:=yF (F:=⟨b,Ig,Ig,d⟩) (yj (zx lp.2) (ua qi) (zp (xU (zp (yd (zx lp.4) (xU (zp (yr (i:=1)) zf) rfl) (b8 (xG (by rewrite[IZ];rw[IY];exact EY (I8 sS (by decide:800<=990)) (by decide:1<=10))))) (zp (zx lp.5) zf)) rfl) zf) (pP rfl qi (xG (by rw[IY];lia))));obtain e2:f.map pv++[V.tup [.tup (x.1.map V.int++[.int 1]),zU x.2]]=(f++[(x.1++[1],x.2)]).map pv:=by simp only[HH,Hy,GW,pv,vO,xa,zU]
 rw[e2]at x1;obtain rY:(yQ.set fa (.list ((f++[(x.1++[1],x.2)]).map pv)))[fa]?=_:=get_set qi;obtain td:(yQ.set fa (.list ((f++[(x.1++[1],x.2)]).map pv)))[wa]?=_:=zJ sP wM;obtain g2:Gr yt (yQ.set fa (.list ((f++[(x.1++[1],x.2)]).map pv))):=g1.set ha;generalize yQ.set fa (.list ((f++[(x.1++[1],x.2)]).map pv))=xg at*;obtain ml:∀(c:Bool),(tJ x.1 0 ((T x.2).li c).length 0 ((T x.2).li c)).length<=2:=λc=>by rw[ip];exact Z.w.two x.2 c
 obtain⟨L3,x3,N2⟩:=Ug (b:=b) (d:=d) (s:=0) (j:=1) (c:=Ib) rfl rfl (by decide) (Z.gr g2) hx td hn (lp.st (x:=51) (v:=.int 0) rfl) yw (by rw[HN];lia) (by lia);obtain eI:(xg.set wa (.list ((w.reverse++tJ x.1 0 ((T x.2).li Ib).length 0 ((T x.2).li Ib)).map pv)))[wa]?=_:=get_set td;obtain g3:Gr yt (xg.set wa (.list ((w.reverse++tJ x.1 0 ((T x.2).li Ib).length 0 ((T x.2).li Ib)).map pv))):=g2.set hb;obtain⟨L4,x4,dW⟩:=Ug (b:=b) (d:=d) (s:=2) (j:=2) (c:=Ig) rfl rfl (by decide) (Z.gr g3) hx eI hn (N2.st (x:=51) (v:=.int 2) rfl) yw (by obtain this:=ml Ib;rewrite[IZ];rw[HN];lia) (by lia);rw[EB,I3]at x4;refine⟨L4,_,zr x0 (zr x1 (zr (xY (t:=.tup [.int 0,.int 2]) rfl (xU (zp yr (zp yr zf)) rfl) rfl rfl (.turn rfl rfl rfl x3 (.turn rfl rfl rfl x4 (.stop rfl)))) zj)),g2.set hb,zJ rY (H0 wM),get_set td,dW.1,dW.2,dW.3⟩
theorem Jj(Z:MI Q lim yt T)(hl:lim<=yt.length)(ha:yt.length<=fa)(hb:yt.length<=wa)(wM:fa≠wa){ps:List Pn}:∀(n:Nat)(f w:List Pn)(L:Loc)(zv:St),sA T n f w=Ie ps->Gr yt zv->zv[fa]?=Ie (.list (f.map pv))->zv[wa]?=Ie (.list (w.reverse.map pv))->(∀x∈w,x.2<18/\x.1.length+2*n<=200)->f.length+n<=200->w.length+4*n<=200->lk 7 L=Ie (.ref Q.m)->lk 4 L=Ie (.ref fa)->lk 50 L=Ie (.ref wa)->X3 λm L' zk=>C4 (WL ⟨b,Ig,Ig,d⟩ (.cmp .ne (.loc 50) (.lst .nil)) (.cons (.y8 [32,5] (.zl (.loc 50) 69 .nil)) (.cons (.expr (.zl (.loc 4) 30 (.cons (.tup (.cons (.bin .add (.loc 32) (.tup (.cons (.int 1) .nil))) (.cons (.loc 5) .nil))) .nil))) (.cons (.for [51] .plain (.tup (.cons (.int 0) (.cons (.int 2) .nil))) (.cons (.asg 46 (.sub (.sub (.loc 7) (.loc 5)) (.bin .add (.int 1) (.bin .floordiv (.loc 51) (.int 2))))) (.cons (.for [12] .range (.call (.zu 31) (.cons (.loc 46) .nil)) (.cons (.expr (.zl (.loc 50) 30 (.cons (.tup (.cons (.bin .add (.loc 32) (.tup (.cons (.loc 51) (.cons (.bin .sub (.bin .sub (.call (.zu 31) (.cons (.loc 46) .nil)) (.int 1)) (.loc 12)) .nil)))) (.cons (.sub (.loc 46) (.loc 12)) .nil))) .nil))) .nil)) .nil))) .nil))) m L zv (.ok .next L' zk)) (Gr yt zk) (zk[fa]?=Ie (.list (ps.map pv))) (lk 4 L'=Ie (.ref fa)):=by
 intro n;induction n with
 |zero=>intro f w L zv h;cases h
 |succ n ih=>
  intro f w L zv h g hf hw hx Y2 pb l1 l2 l3;have hc:=Jk (b:=b) (d:=d) (λx hm=>(hx x (H_.mp hm)).1) hw l3;cases w with
  |nil=>cases h;exact⟨1,L,_,.stop hc,g.tr (Gr.push _),(Gr.push _).get hf,l2⟩
  |cons x w=>
   rw[G8]at hc hw;rw[show(w.reverse++[x]).isEmpty=Ig by cases w.reverse<;>rfl]at hc;rw[HV]at pb;obtain⟨x1,x2⟩:=hx x (.head _);obtain⟨zN,yQ,k,g1,qi,sP,m1,m2,m3⟩:=Ji (b:=b) (d:=d) Z hl (g.tr (Gr.push (.list []))) ha hb wM ((Gr.push _).get hf) ((Gr.push _).get hw) x1 (by lia) (by lia) (by lia) l1 l2 l3;have kl:=NS (p:=x.1) (i:=x.2) Z.w;obtain⟨m,L',zk,k',r,r',k_⟩:=ih _ _ zN yQ h g1 qi (by rewrite[List.reverse_append];rw[List.reverse_reverse];exact sP) (λy hy=>by
    rcases HQ.mp hy with hy|hy;.obtain⟨y1,y2⟩:=NR Z.w (H_.mp hy);exact⟨y1,by lia⟩
    .obtain⟨y1,y2⟩:=hx y (.tail _ hy);exact⟨y1,by lia⟩) (by rewrite[IZ];rw[Ht];lia) (by rewrite[IZ];rw[HN];lia) m1 m2 m3;exact⟨m+1,L',zk,.turn hc k k',r,r',k_⟩
theorem LR{ps:List Pn}{qs:List uO}(Z:MI Q lim J T)(hl:lim<=J.length)(hi:i<18)(hr:sA T 40 [] [([],i)]=Ie ps)(hs:nC (ps.map vO)=Ie qs)(uw:∀p,runK (pF (ps.map vO)) (GY (ps.map vO).length)=Ie p->∀j∈p.toList,j<(ps.map vO).length):X2 λl zy=>C4 (Call ⟨b,Ig,Ig,d+1⟩ (.fn 915) [.ref Q.m,zU i] J (.ok (.ref l) zy)) (Gr J zy) (J.length<=l) (zy[l]?=Ie (.list (qs.map xa))):=by
 obtain g:Gr J ((J++[.list []])++[.list [pv ([],i)]]):=(Gr.push _).tr (Gr.push _);obtain⟨m,L',zk,k,g',hf,l2⟩:=Jj (b:=b) (d:=d) (fa:=J.length) (wa:=(J++[O.list []]).length) Z hl (IV _) (Gr.push (J:=J) (.list [])).1 (by rw[IZ];exact Ha (H7 _)) 40 [] [([],i)] [(7,.ref Q.m),(0,zU i),(4,.ref J.length),(50,.ref (J++[O.list []]).length)] _ hr g ((Gr.push _).get z7) z7 (λx hx=>by rw[I_.mp hx];exact⟨hi,show 0+2*40<=200 by decide⟩) (by decide) (show 1+4*40<=200 by decide) rfl rfl rfl;obtain Ow:zk[J.length]?=Ie (.list ((ps.map vO).map xa)):=by rewrite[hf];rw[Gh];rfl
 exact⟨_,_,zG rfl rfl (zr (u9 rfl (xU (zp (y' zf rfl) (zp (y' (zp (xU (zp (xU zf rfl) (zp (zx rfl) zf)) rfl) zf) rfl) zf)) rfl) rfl) (zr (p6 k) (zT (zK (y7 rfl (zx l2) (RF Ow hs uw)))))),g'.tr (Gr.push _),g'.1,z7⟩
end
noncomputable def hO(i:Nat)(a m a8 m8:List Nat):Tb:=λj=>match IP j i with|Ib=>⟨λc=>match c with|Ib=>a|Ig=>m,[]⟩|Ig=>match IP j 8 with|Ib=>⟨λc=>match c with|Ib=>a8|Ig=>m8,[]⟩|Ig=>⟨λzz=>[],[]⟩
noncomputable def oF(cnt:Nat):Nat->List uO->Bool|zo,[]=>Ib|k,q::r=>(match q.1 with|h::_=>decide (h=0)==Hq k cnt|[]=>Ig)&&oF cnt (k+1) r
noncomputable def js:List (List Nat)->List (List Nat)->Bool|[],[]=>Ib|a::r,b::t=>zR a b&&js r t|zo,zY=>Ig
noncomputable def aj(T:Tb)(i:Nat):Bool:=match sA T 40 [] [([],i)]with|Ie ps=>(match nC (ps.map vO)with|Ie qs=>js (qs.map (·.2)) ((own T 2 i).map yx)&&oF (xN T i) 0 qs|none=>Ig)&&(match runK (pF (ps.map vO)) (GY (ps.map vO).length)with|Ie p=>p.toList.all fun j=>Hq j (ps.map vO).length|none=>Ib)|none=>Ig
set_option maxHeartbeats 4000000 in theorem S5:(HM 18).all (λi=>(vm Ib i).all λa=>(vm Ig i).all λm=>(vm Ib 8).all λa8=>(vm Ig 8).all λm8=>aj (hO i a m a8 m8) i)=Ib:=by decide+kernel
theorem au:∀{a c:List (List Nat)},js a c=Ib->a=c|[],[],zo=>rfl|a::r,b::t,h=>by obtain⟨h1,h2⟩:=zh (show(zR a b&&js r t)=Ib from h);rewrite[xd.mp h1];rw[au h2]
section
variable{T T':Tb}{S:Nat->Prop}
structure Alike(T T':Tb)(S:Nat->Prop):Prop where
 e:∀j c,S j->(T j).li c=(T' j).li c
 c:∀j c x,S j->x∈(T j).li c->S x
theorem Alike.own(A:Alike T T' S):∀(k:Nat){j:Nat},S j->own T k j=own T' k j
|0,zo,zY=>rfl
|k+1,j,h=>by
 have go:∀c,((T j).li c).reverse.flatMap (Mine.own T k)=((T' j).li c).reverse.flatMap (Mine.own T' k):=λc=>by
  rw[<-A.e j c h];have:∀l:List Nat,(∀x∈l,S x)->l.flatMap (Mine.own T k)=l.flatMap (Mine.own T' k):=λl hl=>by induction l with|nil=>rfl|cons x l ih=>rewrite[FG];rewrite[FG];rewrite[A.own k (hl x (.head _))];rw[ih λy hy=>hl y (.tail _ hy)]
  exact this _ λx hx=>A.c j c x h (H_.mp hx)
 unfold Mine.own;rewrite[go];rw[go]
theorem Alike.ahead(A:Alike T T' S){j:Nat}(h:S j):xN T j=xN T' j:=by unfold xN;rw[<-A.e j Ib h];exact congrArg List.sum (GS λx hx=>by rw[A.own 1 (A.c j Ib x h hx)])
theorem Alike.run(A:Alike T T' S):∀(n:Nat)(f w:List Pn),(∀x∈w,S x.2)->sA T n f w=sA T' n f w
|0,zo,zY,zF=>rfl
|n+1,f,[],zo=>rfl
|n+1,f,x::w,h=>by
 have hx:=h x (.head _);have e:sN T x.1 x.2=sN T' x.1 x.2:=by unfold sN;rewrite[A.e x.2 Ib hx];rw[A.e x.2 Ig hx]
 show sA T n (f++[(x.1++[1],x.2)]) ((sN T x.1 x.2).reverse++w)=sA T' n (f++[(x.1++[1],x.2)]) ((sN T' x.1 x.2).reverse++w);rw[<-e];refine A.run n _ _ λy hy=>?_;rcases HQ.mp hy with hy|hy
 .rcases HQ.mp (H_.mp hy)with hy|hy;.exact A.c _ _ _ hx (pU hy).1
  .exact A.c _ _ _ hx (pU hy).1
 .exact h y (.tail _ hy)
theorem M1(w:WF T){i:Nat}(hi:i<18):X2 fun ps qs=>C5 (sA T 40 [] [([],i)]=Ie ps) (nC (ps.map vO)=Ie qs) (∀p,runK (pF (ps.map vO)) (GY (ps.map vO).length)=Ie p→∀j∈p.toList,j<(ps.map vO).length) (qs.map (·.2)=(own T 2 i).map yx) (oF (xN T i) 0 qs=Ib):=by
 have A:Alike T (hO i ((T i).li Ib) ((T i).li Ig) ((T 8).li Ib) ((T 8).li Ig)) (fun j=>j=i∨(j=1∨j=8∨j=9)):=by
  refine⟨fun j c h=>?_,fun j c x zz hx=>.inr (w.pz hx)⟩;by_cases q:j=i;·subst q;unfold hO;rw[G9];cases c<;>rfl
  ·have q':IP j i=Ig:=by cases z:IP j i with|false=>rfl|true=>exact absurd (IJ z) q
   unfold hO;rw[q'];rcases h with e|rfl|rfl|rfl;·exact absurd e q
   ·exact w.jZ (.inl rfl) c
   ·cases c<;>rfl
   ·exact w.jZ (.inr rfl) c
 have h:=I2.mp (I2.mp (I2.mp (I2.mp (I2.mp S5 i (HC.mpr hi)) _ (w.li i Ib)) _ (w.li i Ig)) _ (w.li 8 Ib)) _ (w.li 8 Ig);have h0:(fun j=>j=i∨(j=1∨j=8∨j=9)) i:=.inl rfl;unfold aj at h;rw[←A.run 40 [] [([],i)] (fun x hx=>by rw[I_.mp hx];exact h0),←A.own 2 h0,←A.ahead h0]at h;cases h1:sA T 40 [] [([],i)]with|none=>rw[h1]at h;cases h|some ps=>rw[h1]at h;obtain⟨h2,h3⟩:=zh h;cases h4:nC (ps.map vO)with|none=>rw[h4]at h2;cases h2|some qs=>rw[h4]at h2;obtain⟨h5,h6⟩:=zh h2;refine⟨ps,qs,rfl,h4,fun p hp j hj=>?_,au h5,h6⟩;rw[hp]at h3;exact ID (I2.mp h3 j hj)
theorem W4{b:Bc}{d lim:Nat}{J:St}{Q:Mt}{i:Nat}(Z:MI Q lim J T)(hl:lim≤J.length)(hi:i<18):X3 fun l zy qs=>C6 (Call ⟨b,Ig,Ig,d+1⟩ (.fn 915) [.ref Q.m,zU i] J (.ok (.ref l) zy)) (Gr J zy) (J.length≤l) (zy[l]?=Ie (.list (qs.map xa))) (qs.map (·.2)=(own T 2 i).map yx) (oF (xN T i) 0 qs=Ib):=by obtain⟨ps,qs,h1,h2,h3,h4,h5⟩:=M1 Z.w hi;obtain⟨l,zy,c,g,hle,hl⟩:=LR (b:=b) (d:=d) Z hl hi h1 h2 h3;exact⟨l,zy,qs,c,g,hle,hl,h4,h5⟩
end
noncomputable def uf:Nat->Nat->List Nat|0,i=>[i]|k+1,i=>i::(match par i with|Ie p=>uf k p|none=>[])
theorem ai:∀(k i:Nat),(uf k i).length<=k+1|0,zo=>IV _|k+1,i=>by unfold uf;cases par i with|none=>exact Hs (HL _)|some p=>exact Hs (ai k p)
theorem gN:∀(k:Nat){i:Nat},i<18->∀x∈uf k i,x<18
|0,i,h,x,hx=>by rw[I_.mp hx];exact h
|k+1,i,h,x,hx=>by
 unfold uf at hx;rcases IU.mp hx with e|hx;.rw[e];exact h
 .cases hp:par i with|none=>rw[hp]at hx;exact nomatch hx|some p=>rw[hp]at hx;exact gN k (rL hp) x hx
theorem gO{T:Tb}:∀(k:Nat){i:Nat},rank i=k->(uf k i).reverse.foldl (λbh j=>step T j bh) []=ln T i
|0,i,h=>by
 have hp:par i=none:=by cases q:par i with|none=>rfl|some p=>have:=vA q;lia
 rw[lC hp];rfl
|k+1,i,h=>by cases hp:par i with|none=>have:=kT hp;lia|some p=>unfold uf;rewrite[hp];rewrite[G8];rewrite[List.foldl_append];rewrite[gO k (by have:=vA hp;lia)];rw[nU hp];rfl
section
variable{b:Bc}{d lim:Nat}{q:Bool}{J yt zt zy zv:St}{T T':Tb}{Q:Mt}{i ca n:Nat}{k:List Nat}{L:Loc}
theorem Kn{F:Fr}{xs:List V}{v:V}(hn:J[n]?=Ie (.list (xs++[v])))(hs:short (xs++[v])=Ib):Sub F (.ref n) (.int (-1)) J v:=Ko hn (by rewrite[IZ];rewrite[Ht];rewrite[FU];rewrite[Hj (IV _)];rw[H4];rfl) hs
theorem rQ{l m:List Nat}:za (l++m)=za l++za m:=HH
theorem sJ{l:List Nat}(h:l.length<=1000):short (za l)=Ib:=xG (by unfold za;rw[IY];exact h)
theorem Jl(Z:MI Q lim yt T)(ha:yt.length<=ca)(l1:lk 7 L=Ie (.ref Q.m))(l2:lk 65 L=Ie (.ref ca)):∀(n:Nat)(i:Nat)(pre:List Nat)(zv:St),rank i=n->i<18->Gr yt zv->zv[ca]?=Ie (.list (za (pre++[i])))->pre.length+n<=100->X2 λm zk=>C3 (WL ⟨b,Ig,Ig,d⟩ (.cmp .yO (.sub (.sub (.loc 7) (.sub (.loc 65) (.neg 1))) (.int 0)) .none) (.cons (.expr (.zl (.loc 65) 30 (.cons (.sub (.sub (.loc 7) (.sub (.loc 65) (.neg 1))) (.int 0)) .nil))) .nil) m L zv (.ok .next L zk)) (Gr yt zk) (zk[ca]?=Ie (.list (za (pre++uf n i)))):=by
 have cond:∀(i:Nat)(pre:List Nat)(zv:St),i<18->Gr yt zv->zv[ca]?=Ie (.list (za (pre++[i])))->pre.length<=100->E ⟨b,Ig,Ig,d⟩ L (.sub (.sub (.loc 7) (.sub (.loc 65) (.neg 1))) (.int 0)) zv (.ok (match par i with|Ie p=>zU p|none=>.none) zv):=λi pre zv hi g hc hl=>by rw[rQ]at hc;exact oS (Z.gr g) hi l1 (yH (zx l2) fg (Kn hc (by rw[show[zU i]=za [i]from rfl,<-rQ];exact sJ (by rewrite[IZ];rw[Ht];lia)))) yr (j:=0) rfl (by decide)
 intro n;induction n with
 |zero=>
  intro i pre zv hr hi g hc hl;have hp:par i=none:=by cases q:par i with|none=>rfl|some p=>obtain this:=vA q;lia
  obtain h0:=cond i pre zv hi g hc (by lia);rw[hp]at h0;exact⟨1,zv,.stop (zZ h0 zQ (uz rfl)),g,hc⟩
 |succ n ih=>intro i pre zv hr hi g hc hl;obtain h0:=cond i pre zv hi g hc (by lia);cases hp:par i with|none=>obtain this:=kT hp;lia|some p=>rw[hp]at h0;obtain e:za (pre++[i])++[zU p]=za ((pre++[i])++[p]):=(rQ (m:=[p])).symm;obtain⟨m,zk,k,g',wW⟩:=ih p (pre++[i]) (zv.set ca (.list (za ((pre++[i])++[p])))) (by obtain this:=vA hp;lia) (rL hp) (g.set ha) (get_set hc) (by rewrite[IZ];rw[Ht];lia);refine⟨m+1,zk,.turn (zZ h0 zQ (tP rfl)) (zr (yF (yj (zx l2) (ua hc) (zp h0 zf) (by exact pQ rfl hc (sJ (by rewrite[IZ];rw[Ht];lia)) e))) zj) k,g',?_⟩;unfold uf;rewrite[hp];rewrite[wW];rw[I3];rfl
theorem j8{F:Fr}{l:List Nat}{x:Nat}(hx:x<18)(hl:∀y∈l,y<18)(hn:J[n]?=Ie (.list (za l))):x_ F .y5 (zU x) (.ref n) J (!l.contains x):=by rw[<-mU hx hl];exact(mL hn (kQ l)).2
theorem Mw{pl hl bl cnt:Nat}{qs:List uO}{zs bh:List Nat}(sS:yt[pl]?=Ie (.list (qs.map xa)))(pq:yt[bl]?=Ie (.list (za bh)))(hh:yt[hl]?=Ie (.list []))(np:pl∉[hl])(nb:bl∉[hl])(hq:qs.map (·.2)=zs.map yx)(hk:oF cnt 0 qs=Ib)(hz:∀x∈zs,x<18)(hb:∀x∈bh,x<18)(J8:zs.length≤100)(l1:lk 39 L=Ie (.ref hl))(l2:lk 22 L=Ie (.ref bl))(l3:lk 7 L=Ie (.ref Q.m))(l0:lk 52 L=none):X2 fun L' zk=>C7 (FL ⟨b,Ig,Ig,d⟩ [32,10] (.list pl) (qs.map xa) (.cons (.cond (.and (.cons (.cmp .y5 (.loc 10) (.loc 39)) (.cons (.or (.cons (.cmp .eq (.sub (.loc 32) (.int 0)) (.int 0)) (.cons (.cmp .y5 (.loc 10) (.loc 22)) .nil))) .nil))) (.cons (.expr (.zl (.loc 39) 30 (.cons (.loc 10) .nil))) .nil) .nil) .nil) (qs.map xa).length L yt (.ok .next L' zk)) (Bt [hl] yt zk) (zk[hl]?=Ie (.list (za (here bh cnt 0 [] zs)))) (lk 39 L'=Ie (.ref hl)) (lk 22 L'=Ie (.ref bl)) (lk 7 L'=Ie (.ref Q.m)) (lk 52 L'=none):=by
 obtain⟨L',zk,k,k1,⟨acc,rest,a1,a2,a3,a4,a5,a6,a7⟩,k3,k4,k5,k6⟩:=FL.all (F:=⟨b,Ig,Ig,d⟩) (xs:=[32,10]) (t:=.list pl) (b:=(.cons (.cond (.and (.cons (.cmp .y5 (.loc 10) (.loc 39)) (.cons (.or (.cons (.cmp .eq (.sub (.loc 32) (.int 0)) (.int 0)) (.cons (.cmp .y5 (.loc 10) (.loc 22)) .nil))) .nil))) (.cons (.expr (.zl (.loc 39) 30 (.cons (.loc 10) .nil))) .nil) .nil) .nil)) (l:=qs.map xa) (zs:=qs) (g:=fun zz z=>xa z) (IY _) (fun p z h=>by rewrite[IM];rw[h];rfl) (P:=fun p ys L zv=>C6 (Bt [hl] yt zv) (X2 fun acc rest=>C7 (zv[hl]?=Ie (.list (za acc))) (acc.length≤p) (∀x∈acc,x<18) (ys.map (·.2)=rest.map yx) (∀x∈rest,x<18) (oF cnt p ys=Ib) (here bh cnt p acc rest=here bh cnt 0 [] zs)) (lk 39 L=Ie (.ref hl)) (lk 22 L=Ie (.ref bl)) (lk 7 L=Ie (.ref Q.m)) (lk 52 L=none)) (fun p ys L zv h=>h.1.2 _ _ sS np) (by
  rintro p z ys L zv hp hd⟨g,⟨acc,rest,a1,a2,a3,a4,a5,a6,a7⟩,k3,k4,k5,k6⟩;obtain yJ:=(IF.mp hp).1;obtain OL:qs.length=zs.length:=by obtain this:=congrArg GH hq;rwa [IY,IY]at this
  cases rest with
  |nil=>cases a4
  |cons x rest=>
   rw[Hy,Hy]at a4;obtain⟨e1,e2⟩:=List.cons.inj a4;obtain⟨b1,b2⟩:=zh a6;obtain⟨pt,nm⟩:=z;obtain e1:nm=yx x:=e1;subst e1;cases pt with
   |nil=>cases b1
   |cons h0 t0=>
    obtain hx:=a5 x (.head _);obtain lg:lk 10 (st 10 (zU x) (st 32 (.tup ((h0::t0).map V.int)) L))=Ie (zU x):=yw;obtain e0:=zZ (F:=⟨b,Ig,Ig,d⟩) (L:=st 10 (zU x) (st 32 (.tup ((h0::t0).map V.int)) L)) (J:=zv) (yH (zx (x:=32) (zg rfl yw)) yr (vk (j:=0) rfl (by decide))) (yr (i:=0)) rg;have PJ:(h0==0)=decide ((p:Int)<cnt):=by obtain b1:(decide (h0=0)==Hq p cnt)=Ib:=b1;rw[show(h0==0)=decide (h0=0)from rfl,eq_of_beq b1];cases q:Hq p cnt with|true=>obtain this:=ID q;exact(decide_eq_true (by lia)).symm|false=>exact(decide_eq_false fun h=>by rw[show Hq p cnt=Ib from Hz (by lia)]at q;cases q).symm
    rw[PJ]at e0;obtain hc:=oU (zZ (zx lg) (zx (zg rfl (zg rfl k3))) (j8 hx a3 a1)) fun zz=>jW e0 fun zz=>zZ (zx lg) (zx (zg rfl (zg rfl k4))) (j8 hx hb (g.2 _ _ pq nb));refine⟨_,st 10 (zU x) (st 32 (.tup ((h0::t0).map V.int)) L),zv.set hl (.list (za (if !acc.contains x&&(decide ((p:Int)<cnt)||!bh.contains x)then acc++[x]else acc))),rfl,zr (p7 hc ?_) zj,g.set _ (.inl (.head _)),⟨_,rest,get_set a1,?_,?_,e2,fun y hy=>a5 y (.tail _ hy),b2,a7⟩,zg rfl (zg rfl k3),zg rfl (zg rfl k4),zg rfl (zg rfl k5),zg rfl (zg rfl k6)⟩
    ·split;·exact zr (yF (yj (zx (zg rfl (zg rfl k3))) (ua a1) (zp (zx lg) zf) (by exact pQ rfl a1 (sJ (by lia)) (rQ (m:=[x])).symm))) zj
     ·obtain this:zv.set hl (.list (za acc))=zv:=set_same a1;rw[this];exact zj
    ·split;·rw[IZ];exact Hs a2
     ·exact Gs a2
    ·split
     ·intro y hy;rcases HQ.mp hy with hy|hy;·exact a3 y hy
      ·rw[I_.mp hy];exact hx
     ·exact a3) (L:=L) (J:=yt) ⟨.re,⟨[],zs,hh,IV _,(fun zz h=>nomatch h),hq,hz,hk,rfl⟩,l1,l2,l3,l0⟩;cases rest with|nil=>exact⟨L',zk,k,k1,by rewrite[a1];rw[←a7];rfl,k3,k4,k5,k6⟩|cons=>cases a4
end
theorem kh{T:Tb}(w:WF T):∀(k:Nat){i:Nat},i<18->∀x∈own T k i,x<18
|0,i,h,x,hx=>by rw[I_.mp hx];exact h
|k+1,i,h,x,hx=>by
 have go:∀c,x∈((T i).li c).reverse.flatMap (own T k)->x<18:=λc hx=>by obtain⟨y,h1,h2⟩:=E2.mp hx;exact kh w k (by rcases w.pz (H_.mp h1)with e|e|e<;>rw[e]<;>decide) x h2
 rcases HQ.mp hx with hx|hx;.exact go Ib hx
 .rcases IU.mp hx with e|hx;.rw[e];exact h
  .exact go Ig hx
section
variable{b:Bc}{d lim:Nat}{q:Bool}{J yt zt zy zv:St}{T T':Tb}{Q:Mt}{i ca n:Nat}{k:List Nat}{L:Loc}
theorem Mn{hl bl:Nat}{h bh:List Nat}(hh:zv[hl]?=Ie (.list (za h)))(pq:zv[bl]?=Ie (.list (za bh)))(hz:∀x∈h,x<18)(hb:∀x∈bh,x<18)(hlen:bh.length<=500)(l1:lk 39 L=Ie (.ref hl)):∃zk,C3 (CL ⟨b,Ig,Ig,d⟩ L [10] (.list bl) (za bh) (.loc 10) (.cons (.cmp .y5 (.loc 10) (.loc 39)) .nil) zv.length (za bh).length [] (zv++[.list []]) (za (bh.filter λx=>!h.contains x)) zk) (Gr zv zk) (zk[zv.length]?=Ie (.list (za (bh.filter λx=>!h.contains x)))):=by obtain⟨acc,zk,k,k1,⟨us,rfl,k2,k3⟩,k4⟩:=CL.go (F:=⟨b,Ig,Ig,d⟩) (L:=L) (xs:=[10]) (t:=.list bl) (elt:=(.loc 10)) (y_:=(.cons (.cmp .y5 (.loc 10) (.loc 39)) .nil)) (n0:=zv.length) (l:=za bh) (zs:=bh) (g:=λzz x=>zU x) (IY _) (λp z h=>by unfold za;rewrite[IM];rw[h];rfl) (P:=λp ys acc zk=>C3 (Gr zv zk) (∃us,C3 (acc=za us) (us.length<=p) (us++ys.filter (λx=>!h.contains x)=bh.filter λx=>!h.contains x)) (zk[zv.length]?=Ie (.list acc))) (λp ys acc zk h=>h.1.get pq) (by rintro p x ys acc zk hp hd⟨g,⟨us,rfl,hu,hv⟩,hc⟩;obtain hx:=hb x (I9 hp);obtain yJ:=(IF.mp hp).1;obtain he:=zZ (F:=⟨b,Ig,Ig,d⟩) (L:=st 10 (zU x) L) (zx (x:=10) yw) (zx (zg rfl l1)) (j8 hx hz (g.get hh));cases hq:h.contains x with|true=>rw[hq]at he;exact⟨_,zk,rfl,.inl ⟨_,rfl,he,g,⟨us,rfl,Gs hu,by rw[Hl,hq]at hv;exact hv⟩,hc⟩⟩|false=>rw[hq]at he;exact⟨_,zk,rfl,.inr ⟨zk,_,.inr ⟨_,rfl,he⟩,zx yw,hc,sJ (by lia),g.set (IV _),⟨us++[x],(rQ (m:=[x])).symm,by rw[IZ];exact Hs hu,by rw[Hl,hq]at hv;rw[I3];exact hv⟩,get_set hc⟩⟩) bh.length 0 _ [] (zv++[.list []]) rfl rfl ⟨Gr.push _,⟨[],rfl,IV _,rfl⟩,z7⟩;rw[Du,Hf]at k3;subst k3;exact⟨zk,by rw[show(za bh).length=bh.length from IY _];exact k,k1,k4⟩
theorem Mk{bl:Nat}{bh:List Nat}(Z:MI Q lim zv T)(wt:lim<=zv.length)(hi:i<18)(pq:zv[bl]?=Ie (.list (za bh)))(hb:∀x∈bh,x<18)(hlen:bh.length<=400)(l1:lk 5 L=Ie (zU i))(l2:lk 22 L=Ie (.ref bl))(l3:lk 7 L=Ie (.ref Q.m))(l0:lk 52 L=none):X3 λL' zk n=>C6 (XB ⟨b,Ig,Ig,d+1⟩ L (.cons (.asg 39 (.lst .nil)) (.cons (.for [32,10] .plain (.call (.zu 116) (.cons (.loc 7) (.cons (.loc 5) .nil))) (.cons (.cond (.and (.cons (.cmp .y5 (.loc 10) (.loc 39)) (.cons (.or (.cons (.cmp .eq (.sub (.loc 32) (.int 0)) (.int 0)) (.cons (.cmp .y5 (.loc 10) (.loc 22)) .nil))) .nil))) (.cons (.expr (.zl (.loc 39) 30 (.cons (.loc 10) .nil))) .nil) .nil) .nil)) (.cons (.asg 22 (.bin .add (.loc 39) (.comp (.loc 10) [10] .plain (.loc 22) (.cons (.cmp .y5 (.loc 10) (.loc 39)) .nil)))) .nil))) zv (.ok .next L' zk)) (Gr zv zk) (zk[n]?=Ie (.list (za (step T i bh)))) (lk 22 L'=Ie (.ref n)) (lk 7 L'=Ie (.ref Q.m)) (lk 52 L'=none):=by
 obtain g1:=Gr.push (J:=zv) (.list []);obtain⟨pl,yQ,qs,c,g2,lU,hp,hq,hk⟩:=W4 (b:=b) (d:=d) (Z.gr g1) (I8 wt g1.1) hi;have hz:=kh Z.w 2 hi;have ol:=Z.w.yA 2 i (IV _);have ne:∀{r:Nat},r≠zv.length->r∉[zv.length]:=λh m=>h (I_.mp m);have tp:=g1.tr g2;have YB:bl≠zv.length:=Ha (xr pq);obtain OO:pl≠zv.length:=λe=>by rw[IZ,Ht]at lU;lia
 obtain⟨ye,xg,k,g3,hh,m1,m2,m3,m0⟩:=Mw (b:=b) (d:=d+1) (yt:=yQ) (hl:=zv.length) (L:=st 39 (.ref zv.length) L) (Q:=Q) hp (tp.get pq) (g2.get z7) (ne OO) (ne YB) hq hk hz hb (by lia) yw (zg rfl l2) (zg rfl l3) (zg rfl l0);have YC:=g3.2 _ _ (tp.get pq) (ne YB);obtain ph:=lY bh (xN T i) (own T 2 i) [] 0;rw[Gy]at ph;obtain⟨wB,k3,g4,hn⟩:=Mn (b:=b) (d:=d+1) hh YC (λx hx=>(jJ hx).elim (λh=>nomatch h) (hz x)) hb (by lia) m1;obtain gg:Gr zv wB:=⟨I8 tp.1 (I8 g3.1 g4.1),λr hr=>by obtain⟨o,ho⟩:∃o,zv[r]?=Ie o:=⟨_,Hc hr⟩;rw[ho];exact g4.get (g3.2 _ _ (tp.get ho) (ne (Ha hr)))⟩;obtain Y2:=Gd (λx=>!(here bh (xN T i) 0 [] (own T 2 i)).contains x) bh;refine⟨st 22 (.ref wB.length) ye,wB++[.list (za (step T i bh))],wB.length,zr (yq (y' zf rfl)) (zr (xY (t:=.list pl) rfl (yU rfl (zx (zg rfl l3)) (zx (zg rfl l1)) c) hp rfl k) (zr (yq (yd (zx m1) (sb (t:=.list bl) rfl rfl m0 (zx m2) YC k3) ?_)) zj)),gg.tr (Gr.push _),z7,yw,zg rfl m3,zg rfl m0⟩;unfold step qH;rw[rQ];exact mS (g4.get hh) hn (by rw[<-rQ];exact sJ (by rw[IZ];lia))
theorem Kf{F:Fr}{xs zs:List V}{t:Dj}(hn:J[n]?=Ie (.list xs))(hs:short xs=Ib)(e:xs.reverse=zs):u6 F (.ref n) .none .none (.int (-1) t) J (.ref J.length) (J++[.list zs]):=e▸i6 hn hs
theorem X8(w:WF T):∀(l bh:List Nat),(∀x∈l,x<18)->(∀x∈bh,x<18)->(∀x∈l.foldl (λbh j=>step T j bh) bh,x<18)|[],zo,zY,h=>h|j::l,bh,hl,h=>X8 w l _ (λx hx=>hl x (.tail _ hx)) λx hx=>(hZ hx).elim (kh w 2 (hl j (.head _)) x) (h x)
theorem cJ(w:WF T)(i:Nat)(bh:List Nat):(step T i bh).length<=21+bh.length:=by obtain h1:=lY bh (xN T i) (own T 2 i) [] 0;obtain h2:=w.yA 2 i (IV _);obtain h3:=Gd (λx=>!(here bh (xN T i) 0 [] (own T 2 i)).contains x) bh;rw[Gy]at h1;unfold step qH;rw[IZ];lia
theorem ig(w:WF T)(hi:i<18):∀x∈ln T i,x<18:=by rw[<-gO (rank i) rfl];exact X8 w _ [] (λx hx=>gN _ hi x (H_.mp hx)) λzz h=>nomatch h
theorem iI(Z:MI Q lim J T)(wt:lim<=J.length)(hi:i<18):X2 λl zy=>C3 (Call ⟨b,Ig,Ig,d+2⟩ (.fn 920) [.ref Q.m,zU i] J (.ok (.ref l) zy)) (Gr J zy) (zy[l]?=Ie (.list (za (ln T i)))):=by obtain r7:=kU hi;obtain⟨m,zv,k,g,hc⟩:=Jl (b:=b) (d:=d+1) (ca:=J.length) (L:=[(7,.ref Q.m),(0,zU i),(65,.ref J.length)]) Z (IV _) rfl rfl (rank i) i [] (J++[.list [zU i]]) rfl hi (Gr.push _) z7 (by rw[Gy];lia);obtain cl:=ai (rank i) i;obtain g2:Gr zv ((zv++[.list []])++[.list (za (uf (rank i) i).reverse)]):=(Gr.push _).tr (Gr.push _);obtain⟨L',zk,k',g',⟨bl,bh,b1,b2,b3,b4,b5⟩,_⟩:=FL.all (F:=⟨b,Ig,Ig,d+1⟩) (xs:=[5]) (t:=.list (zv++[O.list []]).length) (b:=(.cons (.asg 39 (.lst .nil)) (.cons (.for [32,10] .plain (.call (.zu 116) (.cons (.loc 7) (.cons (.loc 5) .nil))) (.cons (.cond (.and (.cons (.cmp .y5 (.loc 10) (.loc 39)) (.cons (.or (.cons (.cmp .eq (.sub (.loc 32) (.int 0)) (.int 0)) (.cons (.cmp .y5 (.loc 10) (.loc 22)) .nil))) .nil))) (.cons (.expr (.zl (.loc 39) 30 (.cons (.loc 10) .nil))) .nil) .nil) .nil)) (.cons (.asg 22 (.bin .add (.loc 39) (.comp (.loc 10) [10] .plain (.loc 22) (.cons (.cmp .y5 (.loc 10) (.loc 39)) .nil)))) .nil)))) (l:=za (uf (rank i) i).reverse) (zs:=(uf (rank i) i).reverse) (g:=λzz x=>zU x) (IY _) (λp z h=>by unfold za;rewrite[IM];rw[h];rfl) (P:=λp ys L zk=>C4 (Gr ((zv++[.list []])++[.list (za (uf (rank i) i).reverse)]) zk) (X2 λbl bh=>C5 (lk 22 L=Ie (.ref bl)) (zk[bl]?=Ie (.list (za bh))) (∀x∈bh,x<18) (bh.length<=21*p) (ys.foldl (λbh j=>step T j bh) bh=ln T i)) (lk 7 L=Ie (.ref Q.m)) (lk 52 L=none)) (λp ys L zk h=>h.1.get z7) (by rintro p x ys L zk hp hd⟨g',⟨bl,bh,b1,b2,b3,b4,b5⟩,l1,l0⟩;have hx:=gN _ hi x (H_.mp (I9 hp));have yJ:=(IF.mp hp).1;rw[HN]at yJ;obtain gx:=g.tr (g2.tr g');obtain⟨zN,yQ,n,k,gk,hn,m1,m2,m3⟩:=Mk (b:=b) (d:=d) (Z.gr gx) (I8 wt gx.1) hx b2 b3 (by lia) (L:=st 5 (zU x) L) yw (zg rfl b1) (zg rfl l1) (zg rfl l0);obtain sl:=cJ Z.w x bh;exact⟨_,zN,yQ,rfl,k,g'.tr gk,⟨n,_,m1,hn,λy hy=>(hZ hy).elim (kh Z.w 2 hx y) (b3 y),by lia,b5⟩,m2,m3⟩) (L:=[(7,.ref Q.m),(0,zU i),(65,.ref J.length),(22,.ref zv.length)]) (J:=(zv++[.list []])++[.list (za (uf (rank i) i).reverse)]) ⟨.rfl,⟨zv.length,[],rfl,(Gr.push _).get z7,(λzz h=>nomatch h),IV _,gO (rank i) rfl⟩,rfl,rfl⟩;have b5:bh=ln T i:=b5;subst b5;exact⟨bl,zk,zG rfl rfl (zr (yq (y' (zp (zx rfl) zf) rfl)) (zr (p6 k) (zr (yq (y' zf rfl)) (zr (xY (t:=.list (zv++[O.list []]).length) rfl (lz (zx rfl) λzz=>Kf ((Gr.push _).get hc) (sJ (by rw[GK];lia)) (by rewrite[GK];rewrite[za];rw[<-G1];rfl)) z7 rfl k') (zT (zK (zx b1))))))),g.tr (g2.tr g'),b2⟩
end
noncomputable def Mu(lim:Nat)(J zy:St):Prop:=J.length<=zy.length/\∀(r:Nat)(o:O),J[r]?=Ie o->(lim<=r\/Hq 1 o.ctorIdx=Ib)->zy[r]?=Ie o
noncomputable def uC(T:Tb)(i g:Nat)(c:Bool):Tb:=match wh T i g with
|[]=>match((T i).li c).contains g with|Ib=>T|Ig=>uV T i ((T i).putL c ((T i).li c++[g]))
|_=>T
noncomputable def o_(T:Tb)(way i:Nat)(k k' s:List Nat)(e:Nat)(h:yy):Tb:=if way=7 then w4 T i (wq k ⟨e,none,i,[112,117,98,108,105,99],k⟩ (T i).ms)else if way=8 then w4 T i (wq k' ⟨e,h.b,h.o,h.s,h.n⟩ (T i).ms)else if(!zR s h.s||(yW k (T i).ms).isNone)=Ib then w4 T i (wq k ⟨e,h.b,h.o,s,h.n⟩ (T i).ms)else T
noncomputable def vI(T:Tb)(way i g:Nat)(k k' s:List Nat)(num e:Nat):List Nat×Tb:=if way<3 then([],w4 T i (wq k ⟨e,Ie ([64]++uM num),i,s,k⟩ (T i).ms))else if way<6 then(wh T i g,uC T i g (way==4))else if way=6 then(match(yW k (T i).ms).bind live with|Ie _=>([],w4 T i (rZ k (T i).ms))|none=>([78,97,109,101,69,114,114,111,114],T))else match vQ T i k with|none=>([78,97,109,101,69,114,114,111,114],T)|Ie h=>([],o_ T way i k k' s e h)
section
variable{b:Bc}{d lim:Nat}{q:Bool}{J yt zt zy zv:St}{T T':Tb}{Q:Mt}{i g n:Nat}{k:List Nat}{L:Loc}{c:Bool}
theorem Mu.of(h:Gr J zy):Mu lim J zy:=⟨h.1,λzz zz e zz=>h.get e⟩
theorem Mu.tr(a:Mu lim J zt)(c:Mu lim zt zy):Mu lim J zy:=⟨I8 a.1 c.1,λr o h e=>c.2 r o (a.2 r o h e) e⟩
theorem Mu.set{o p:O}(h:J[n]?=Ie p)(hp:Hq 1 p.ctorIdx=Ig)(hn:n<lim):Mu lim J (J.set n o):=⟨by rw[HS];exact IV _,λr q e c=>zJ e λz=>by
subst z;replace e:=h.symm.trans e;cases e;rcases c with c|c;.lia
.replace c:=hp.symm.trans c;cases c⟩
theorem WC{r:Row}{xs:List Nat}:(r.putL c xs).li c=xs:=if_pos rfl
theorem WB{r:Row}{xs:List Nat}{e:Bool}(h:e≠c):(r.putL c xs).li e=r.li e:=if_neg h
theorem MI.Ki(Z:MI Q lim J T)(hi:i<18){xs:List Nat}(hx:xs∈vm c i):MI Q lim (J.set (Q.la c i) (.list (za xs))) (uV T i ((T i).putL c xs))/\Mu lim J (J.set (Q.la c i) (.list (za xs))):=by
 have hl:=Z.l i c hi;have nd:∀{r:Nat}{o:O},J[r]?=Ie o->IP o.ctorIdx 0=Ig->(J.set (Q.la c i) (.list (za xs)))[r]?=Ie o:=λh ho=>zJ h λe=>by rw[<-e,hl]at h;cases h;cases ho
 refine⟨⟨nd Z.m rfl,λj hj=>zJ (Z.r j hj) λe=>Z.jr j i c hj hi e.symm,λj e hj=>?_,λj hj=>?_,Z.lt,Z.jl,Z.jr,Z.jd,Z.jm,Z.w.put (λe=>?_) (Z.w.ks i) (Z.w.nd i),zJ Z.x (Z.jx i c hi),Z.lx,Z.jx⟩,Mu.set hl rfl ((Z.lt.2 i hi).2 c)⟩
 .by_cases h:Q.la e j=Q.la c i;.obtain⟨h1,h2⟩:=Z.jl j i e c hj hi h;subst h1 h2;rewrite[uU];rw[WC];exact get_set hl
  .have:(uV T i ((T i).putL c xs) j).li e=(T j).li e:=by
    by_cases h':j=i;.subst h';rw[uU];exact WB λz=>h (by rw[z])
    .rw[uT h']
   rw[this];exact zJ (Z.l j e hj) (H0 h)
 .obtain this:(uV T i ((T i).putL c xs) j).ms=(T j).ms:=by
   by_cases h':j=i;.subst h';rw[uU];rfl
   .rw[uT h']
  rw[this];exact nd (Z.d j hj) rfl
 .by_cases h:e=c;.subst h;rw[WC];exact hx
  .rw[WB h];exact Z.w.li i e
theorem MI.setM(Z:MI Q lim J T)(hi:i<18){ms:List (List Nat×yy)}(h1:∀p∈ms,p.1∈yD∧wK p.2)(h2:(ms.map (·.1)).Nodup):MI Q lim (J.set (Q.da i) (.dict (yB xJ ms))) (w4 T i ms)∧Mu lim J (J.set (Q.da i) (.dict (yB xJ ms))):=by
 obtain hd:=Z.d i hi;have nd:∀{r:Nat}{o:O},J[r]?=Ie o→IP o.ctorIdx 1=Ig→(J.set (Q.da i) (.dict (yB xJ ms)))[r]?=Ie o:=fun h ho=>zJ h fun e=>by rw[←e,hd]at h;cases h;cases ho
 refine⟨⟨zJ Z.m (Z.jm i hi),fun j hj=>nd (Z.r j hj) rfl,fun j e hj=>?_,fun j hj=>?_,Z.lt,Z.jl,Z.jr,Z.jd,Z.jm,Z.w.put (fun e=>Z.w.li i e) h1 h2,nd Z.x rfl,Z.lx,Z.jx⟩,Mu.set hd rfl (Z.lt.2 i hi).3⟩
 ·obtain this:(w4 T i ms j).li e=(T j).li e:=by
   unfold w4;by_cases h':j=i;·subst h';rw[uU]
   ·rw[uT h']
  rw[this];exact nd (Z.l j e hj) rfl
 ·unfold w4;by_cases h':j=i;·subst h';rw[uU];exact get_set hd
  ·rw[uT h'];exact zJ (Z.d j hj) fun e=>h' (Z.jd j i hj hi e.symm)
theorem MI.lay(Z:MI Q lim J T)(hi:i<18)(hk:k∈yD){h:yy}(hh:wK h):MI Q lim (J.set (Q.da i) (.dict (yB xJ (wq k h (T i).ms)))) (w4 T i (wq k h (T i).ms))/\Mu lim J (J.set (Q.da i) (.dict (yB xJ (wq k h (T i).ms)))):=Z.setM hi (λp hp=>(jD hp).elim (λe=>Z.w.ks i p e) λe=>by subst e;exact⟨hk,hh⟩) (eM (Z.w.nd i))
theorem MP(hi:i<18):plainS (yx i)=Ib:=by
 obtain this:∀i<18,plainS (yx i)=Ib:=by decide+kernel
 exact this i hi
theorem Mp{pl:Nat}{qs:List uO}{zs:List Nat}(hp:zv[pl]?=Ie (.list (qs.map xa)))(hq:qs.map (·.2)=zs.map yx)(hz:zs.length≤100):∃zk,C3 (CL ⟨b,Ig,Ig,d⟩ L [32,5] (.list pl) (qs.map xa) (.loc 5) .nil zv.length (qs.map xa).length [] (zv++[.list []]) (za zs) zk) (Gr zv zk) (zk[zv.length]?=Ie (.list (za zs))):=by
 obtain⟨acc,zk,k,k1,k2,k3⟩:=CL.go (F:=⟨b,Ig,Ig,d⟩) (L:=L) (xs:=[32,5]) (t:=.list pl) (elt:=(.loc 5)) (y_:=.nil) (n0:=zv.length) (l:=qs.map xa) (zs:=qs) (g:=fun zz z=>xa z) (IY _) (fun p z h=>by rewrite[IM];rw[h];rfl) (P:=fun p ys acc zk=>C3 (Gr zv zk) (acc.length≤p∧acc++ys.map (fun z=>V.str z.2)=qs.map fun z=>V.str z.2) (zk[zv.length]?=Ie (.list acc))) (fun p ys acc zk h=>h.1.get hp) (by
  rintro p x ys acc zk hp hd⟨g,⟨hu,hv⟩,hc⟩;have yJ:=(IF.mp hp).1;obtain OL:qs.length=zs.length:=by obtain this:=congrArg GH hq;rwa [IY,IY]at this
  exact⟨_,zk,rfl,.inr ⟨zk,_,.inl ⟨rfl,rfl⟩,zx yw,hc,xG (by lia),g.set (IV _),⟨by rw[IZ];exact Hs hu,by rw[I3];exact hv⟩,get_set hc⟩⟩) qs.length 0 qs [] (zv++[.list []]) rfl rfl ⟨Gr.push _,⟨IV _,rfl⟩,z7⟩;have e:acc=za zs:=by obtain k2:=k2.2;rw[GW,Hf]at k2;rw[k2,show(qs.map fun z=>V.str z.2)=(qs.map (·.2)).map V.str by rw[Gh];rfl,hq,Gh];rfl
 subst e;exact⟨zk,by rw[IY];exact k,k1,k3⟩
theorem W5{j:Nat}(Z:MI Q lim J T)(wt:lim<=J.length)(ht:i∈targets)(hg:g=8\/g=9\/g=5)(hj:(Q.row i)[j]?=Ie (.ref (Q.la c i)))(h5:j<5):∃zy,C3 (Call ⟨b,Ig,Ig,d+2⟩ (.fn 932) [.ref Q.m,zU i,zU g,.int j] J (.ok (.str (wh T i g)) zy)) (MI Q lim zy (uC T i g c)) (Mu lim J zy):=by
 have hi:i<18:=by
  obtain this:∀i∈targets,i<18:=by decide
  exact this i ht
 have lV:g<18:=by rcases hg with rfl|rfl|rfl<;>decide
 have e0:=zZ (F:=⟨b,Ig,Ig,d+1⟩) (L:=[(7,.ref Q.m),(0,zU i),(10,zU g),(77,.int j)]) (J:=J) (zx (x:=10) (v:=zU g) rfl) (zV (t:=yx 5)) (u2 (MP lV) rfl);rw[nQ (by decide) lV]at e0;by_cases h:g=5;.subst h;have e:wh T i 5=[84,121,112,101,69,114,114,111,114]:=if_pos rfl;unfold uC;rw[e];exact⟨J,zG rfl rfl (zT (ya e0 (zT (zK zV)))),Z,.of .rfl⟩
 .obtain e:wh T i g=if(own T 2 g).contains i then[65,114,103,117,109,101,110,116,69,114,114,111,114]else[]:=if_neg h;rw[show(5==g)=Ig from beq_false_of_ne (H0 h)]at e0;obtain⟨l,zt,qs,cp,g1,_,hl,hq,_⟩:=W4 (b:=b) (d:=d) Z wt lV;obtain⟨zb,k,g2,hn⟩:=Mp (b:=b) (d:=d+1) (L:=[(7,.ref Q.m),(0,zU i),(10,zU g),(77,.int j)]) hl hq (I8 (Z.w.yA 2 g (IV _)) (by decide));have tp:=g1.tr g2;have Z2:=Z.gr tp;have uw:E ⟨b,Ig,Ig,d+1⟩ [(7,.ref Q.m),(0,zU i),(10,zU g),(77,.int j)] (.cmp .yM (.loc 0) (.comp (.loc 5) [32,5] .plain (.call (.zu 116) (.cons (.loc 7) (.cons (.loc 10) .nil))) .nil)) J (.ok (.bool ((own T 2 g).contains i)) zb):=by refine zZ (zx (v:=zU i) rfl) (sb (t:=.list l) rfl rfl rfl (yU rfl (zx rfl) (zx rfl) cp) hl k) ?_;rw[<-mU hi (kh Z.w 2 lV)];exact(mL hn (kQ _)).1
  rw[e];cases hc:(own T 2 g).contains i with|true=>rw[hc]at uw e;obtain e:wh T i g=[65,114,103,117,109,101,110,116,69,114,114,111,114]:=e;unfold uC;rw[e];exact⟨zb,zG rfl rfl (zr (zO e0 zj) (zT (ya uw (zT (zK zV))))),Z2,.of tp⟩|false=>rw[hc]at uw e;obtain e:wh T i g=[]:=e;obtain eU:=Z2.l i c hi;obtain er:=oS (b:=b) (d:=d+1) (q:=Ig) (L:=[(7,.ref Q.m),(0,zU i),(10,zU g),(77,.int j)]) Z2 hi rfl (zx (x:=0) (v:=zU i) rfl) (zx (x:=77) (v:=.int j) rfl) hj h5;obtain ec:=zZ (zx (x:=10) (v:=zU g) rfl) er (j8 lV (λy hy=>by rcases Z.w.pz hy with e|e|e<;>rw[e]<;>decide) eU);obtain fin:∀{zv:St},XB ⟨b,Ig,Ig,d+1⟩ [(7,.ref Q.m),(0,zU i),(10,zU g),(77,.int j)] (.cons (.ret (.str [])) .nil) zv (.ok (.ret (.str [])) [(7,.ref Q.m),(0,zU i),(10,zU g),(77,.int j)] zv):=zT (zK zV);unfold uC;rw[e];cases fA:((T i).li c).contains g with|true=>rw[fA]at ec;exact⟨zb,zG rfl rfl (zr (zO e0 zj) (zr (zO uw zj) (zr (zO ec zj) fin))),Z2,.of tp⟩|false=>rw[fA]at ec;obtain⟨Z3,m3⟩:=Z2.Ki hi (Ws Z.w ht hg e fA);exact⟨_,zG rfl rfl (zr (zO e0 zj) (zr (zO uw zj) (zr (ya ec (zr (yF (yj er (ua eU) (zp (zx rfl) zf) (by exact pQ rfl eU (xG (by rw[IY];exact I8 (Z.w.two i c) (by decide))) (rQ (m:=[g])).symm))) zj)) fin))),Z3,(Mu.of tp).tr m3⟩
end
noncomputable def ud(way i g:Nat)(k k' s:List Nat)(num:Nat):V:=.tup [.int way,zU i,zU g,.str k,.str k',.str s,.int num]
noncomputable def dL(m:Nat)(way i g:Nat)(k k' s:List Nat)(num da:Nat):Loc:=[(7,.ref m),(28,ud way i g k k' s num),(16,.int way),(0,zU i),(10,zU g),(8,.str k),(26,.str k'),(14,.str s),(17,.int num),(19,.ref da)]
theorem ltI(n m:Nat):decide ((n:Int)<(m:Int))=decide (n<m):=decide_eq_decide.mpr Int.ofNat_lt
theorem oR(n m:Nat):((n:Int)==(m:Int))=(n==m):=by
 by_cases h:n=m;.subst h;rewrite[beq_self_eq_true];rw[beq_self_eq_true]
 .rw[beq_false_of_ne h];exact beq_eq_false_iff_ne.mpr λe=>h (Int.ofNat.inj e)
theorem iT{num:Nat}(h:num<10):plainS ([64]++uM num)=Ib/\short ([64]++uM num)=Ib:=by
 obtain this:∀n<10,plainS ([64]++uM n)=Ib/\short ([64]++uM n)=Ib:=by decide+kernel
 exact this num h
theorem N9{T:Tb}{k:List Nat}{l:List Nat}:(zH T k l).bind live=zH T k l:=by cases h:zH T k l with|none=>rfl|some x=>obtain⟨_,_,_,hb⟩:=q4 h;show live x=Ie x;unfold live;cases hx:x.b with|none=>exact absurd hx hb|some=>rfl
section
variable{b:Bc}{d lim:Nat}{q:Bool}{J yt zt zy zv:St}{T T':Tb}{Q:Mt}{i g n way num:Nat}{k k' s:List Nat}{L:Loc}{c:Bool}
theorem Yw{o:Option yy}(hL:lk 13 L=Ie (xK o)):E ⟨b,Ig,q,d⟩ L (.or (.cons (.cmp .is (.loc 13) .none) (.cons (.cmp .is (.sub (.loc 13) (.int 0)) .none) .nil))) J (.ok (.bool (o.bind live).isNone) J):=by cases o with|none=>exact sZ (zZ (zx hL) zQ (yT rfl))|some h=>refine uL (zZ (zx hL) zQ (yT rfl)) (uK (zZ (yH (zx hL) yr (vk (j:=0) rfl (by decide))) zQ (yT ?_)));show isNone (match h.b with|Ie t=>V.str t|none=>.none)=Ie (live h).isNone;unfold live;cases h.b<;>rfl
theorem Ue{h:yy}(Z:MI Q lim J T)(hi:i<18)(hw:6<way)(hk:k∈yD)(wZ:k'∈yD)(hs:s∈vZ)(hh:wK h)(l1:lk 13 L=Ie (xJ h))(l2:lk 19 L=Ie (.ref (Q.da i)))(l3:lk 8 L=Ie (.str k))(l4:lk 26 L=Ie (.str k'))(l5:lk 14 L=Ie (.str s))(l6:lk 16 L=Ie (.int way))(l7:lk 0 L=Ie (zU i))(e:Nat):∃zy,C3 (XB ⟨b,Ig,Ig,d⟩ L (.cons (.cond (.cmp .eq (.loc 16) (.int 6)) (.cons (.expr (.zl (.loc 19) 69 (.cons (.loc 8) .nil))) .nil) (.cons (.cond (.cmp .eq (.loc 16) (.int 7)) (.cons (.y3 (.loc 19) (.loc 8) (.tup (.cons .none (.cons (.loc 0) (.cons (.str [112,117,98,108,105,99]) (.cons (.loc 8) .nil)))))) .nil) (.cons (.cond (.cmp .eq (.loc 16) (.int 8)) (.cons (.y3 (.loc 19) (.loc 26) (.loc 13)) .nil) (.cons (.cond (.or (.cons (.cmp .ne (.sub (.loc 13) (.int 2)) (.loc 14)) (.cons (.cmp .y5 (.loc 8) (.loc 19)) .nil))) (.cons (.y3 (.loc 19) (.loc 8) (.tup (.cons (.sub (.loc 13) (.int 0)) (.cons (.sub (.loc 13) (.int 1)) (.cons (.loc 14) (.cons (.sub (.loc 13) (.int 3)) .nil)))))) .nil) .nil) .nil)) .nil)) .nil)) (.cons (.ret (.str [])) .nil)) J (.ok (.ret (.str [])) L zy)) (Mu lim J zy) (MI Q lim zy (o_ T way i k k' s e h)):=by
 obtain hd:=Z.d i hi;obtain sh:=Z.w.short (f:=xJ) i;have eq:∀m:Nat,E ⟨b,Ig,Ig,d⟩ L (.cmp .eq (.loc 16) (.int m)) J (.ok (.bool (way==m)) J):=λm=>by rw[<-oR];exact zZ (zx l6) yr rg
 obtain e6:=eq 6;obtain e7:=eq 7;obtain e8:=eq 8;rw[beq_false_of_ne (show way≠6 by lia)]at e6;obtain M':∀s∈vZ,plainS s=Ib:=by decide+kernel
 have set:∀{kk:List Nat}{h':yy}{ke ve:M},kk∈yD->wK h'->E ⟨b,Ig,Ig,d⟩ L ke J (.ok (.str kk) J)->E ⟨b,Ig,Ig,d⟩ L ve J (.ok (xJ h') J)->∃zy,C3 (X1 ⟨b,Ig,Ig,d⟩ L (.y3 (.loc 19) ke ve) J (.ok .next L zy)) (Mu lim J zy) (MI Q lim zy (w4 T i (wq kk h' (T i).ms))):=λ{kk h' ke ve}a1 a2 a3 a4=>by obtain this:=p8 rfl a4 (zx l2) a3 hd sh;rw[m7]at this;obtain⟨z1,z2⟩:=Z.lay hi a1 a2;exact⟨_,this,z2,z1⟩
 unfold o_;by_cases h7:way=7;.rw[h7]at e7;rw[if_pos h7];obtain⟨zy,x,m,z⟩:=set (h':=⟨e,none,i,[112,117,98,108,105,99],k⟩) hk ⟨.head _,hk,nofun,hi⟩ (zx l3) (xU (zp zQ (zp (zx l7) (zp zV (zp (zx l3) zf)))) rfl);exact⟨zy,zr (zO e6 (zr (ya e7 (zr x zj)) zj)) (zT (zK zV)),m,z⟩
 .rw[beq_false_of_ne h7]at e7;rw[if_neg h7];by_cases h8:way=8;.rw[h8]at e8;rw[if_pos h8];obtain⟨zy,x,m,z⟩:=set (h':=⟨e,h.b,h.o,h.s,h.n⟩) wZ ⟨hh.s,hh.n,hh.b,hh.o⟩ (zx l4) (zx l1);exact⟨zy,zr (zO e6 (zr (zO e7 (zr (ya e8 (zr x zj)) zj)) zj)) (zT (zK zV)),m,z⟩
  .rw[beq_false_of_ne h8]at e8;rw[if_neg h8];have hc:=jW (F:=⟨b,Ig,Ig,d⟩) (L:=L) (u:=(yW k (T i).ms).isNone) (zZ (yH (zx l1) yr (vk (j:=2) rfl (by decide))) (zx l5) (qE hh.ps.1 (M' s hs))) λzz=>by obtain this:=zZ (F:=⟨b,Ig,Ig,d⟩) (L:=L) (zx l3) (zx l2) (mM (k:=k) hd).2;rw[qt]at this;rw[show(yW k (T i).ms).isNone=!((yW k (T i).ms).map xJ).isSome by cases yW k (T i).ms<;>rfl];exact this
   cases hq:(!zR s h.s||(yW k (T i).ms).isNone)with|false=>rw[hq]at hc;exact⟨J,zr (zO e6 (zr (zO e7 (zr (zO e8 (zr (zO hc zj) zj)) zj)) zj)) (zT (zK zV)),.of .rfl,Z⟩|true=>rw[hq]at hc;obtain⟨zy,x,m,z⟩:=set (h':=⟨e,h.b,h.o,s,h.n⟩) hk ⟨hs,hh.n,hh.b,hh.o⟩ (zx l3) (xU (zp (yH (zx l1) yr (vk (j:=0) rfl (by decide))) (zp (yH (zx l1) yr (vk (j:=1) rfl (by decide))) (zp (zx l5) (zp (yH (zx l1) yr (vk (j:=3) rfl (by decide))) zf)))) rfl);exact⟨zy,zr (zO e6 (zr (zO e7 (zr (zO e8 (zr (ya hc (zr x zj)) zj)) zj)) zj)) (zT (zK zV)),m,z⟩
theorem Lf(Z:MI Q lim J T)(wt:lim<=J.length)(ht:i∈targets)(hg:g=8\/g=9\/g=5)(hk:k∈yD)(wZ:k'∈yD)(hs:s∈vZ)(uv:num<10)(e:Nat):∃zy,C3 (Call ⟨b,Ig,Ig,d+4⟩ (.fn 939) [.ref Q.m,ud way i g k k' s num] J (.ok (.str (vI T way i g k k' s num e).1) zy)) (MI Q lim zy (vI T way i g k k' s num e).2) (Mu lim J zy):=by
 have hi:i<18:=by
  obtain this:∀i∈targets,i<18:=by decide
  exact this i ht
 have hd:=Z.d i hi;have sh:=Z.w.short (f:=xJ) i;obtain x0:=u9 (F:=⟨b,Ig,Ig,d+3⟩) (L:=[(7,.ref Q.m),(28,ud way i g k k' s num)]) (xs:=[16,0,10,8,26,14,17]) (J:=J) rfl (zx (x:=28) (v:=ud way i g k k' s num) rfl) (L':=[(7,.ref Q.m),(28,ud way i g k k' s num),(16,.int way),(0,zU i),(10,zU g),(8,.str k),(26,.str k'),(14,.str s),(17,.int num)]) rfl;obtain x1:=yq (x:=19) (oS (b:=b) (d:=d+3) (q:=Ig) (L:=[(7,.ref Q.m),(28,ud way i g k k' s num),(16,.int way),(0,zU i),(10,zU g),(8,.str k),(26,.str k'),(14,.str s),(17,.int num)]) Z hi rfl (zx (x:=0) (v:=zU i) rfl) yr (j:=3) rfl (by decide));have go:∀{v:V}{L':Loc}{zv:St},XB ⟨b,Ig,Ig,d+3⟩ (dL Q.m way i g k k' s num (Q.da i)) (.cons (.cond (.cmp .lt (.loc 16) (.int 3)) (.cons (.y3 (.loc 19) (.loc 8) (.tup (.cons (.bin .add (.str [64]) (.call (.zu 70) (.cons (.loc 17) .nil))) (.cons (.loc 0) (.cons (.loc 14) (.cons (.loc 8) .nil)))))) (.cons (.ret (.str [])) .nil)) .nil) (.cons (.cond (.cmp .lt (.loc 16) (.int 6)) (.cons (.ret (.call (.zu 175) (.cons (.loc 7) (.cons (.loc 0) (.cons (.loc 10) (.cons (.ite (.cmp .eq (.loc 16) (.int 4)) (.int 1) (.int 2)) .nil)))))) .nil) .nil) (.cons (.asg 13 (.ite (.cmp .eq (.loc 16) (.int 6)) (.zl (.loc 19) 49 (.cons (.loc 8) .nil)) (.call (.zu 73) (.cons (.loc 7) (.cons (.call (.zu 54) (.cons (.loc 7) (.cons (.loc 0) .nil))) (.cons (.loc 8) .nil)))))) (.cons (.cond (.or (.cons (.cmp .is (.loc 13) .none) (.cons (.cmp .is (.sub (.loc 13) (.int 0)) .none) .nil))) (.cons (.cond (.or (.cons (.cmp .eq (.loc 16) (.int 6)) (.cons (.cmp .y5 (.loc 0) (.tup (.cons (.str [77]) (.cons (.str [78]) .nil)))) .nil))) (.cons (.ret (.str [78,97,109,101,69,114,114,111,114])) .nil) .nil) (.cons (.asg 13 (.call (.zu 73) (.cons (.loc 7) (.cons (.call (.zu 54) (.cons (.loc 7) (.cons (.str [79,98,106,101,99,116]) .nil))) (.cons (.loc 8) .nil))))) (.cons (.cond (.cmp .is (.loc 13) .none) (.cons (.ret (.str [78,97,109,101,69,114,114,111,114])) .nil) .nil) .nil))) .nil) (.cons (.cond (.cmp .eq (.loc 16) (.int 6)) (.cons (.expr (.zl (.loc 19) 69 (.cons (.loc 8) .nil))) .nil) (.cons (.cond (.cmp .eq (.loc 16) (.int 7)) (.cons (.y3 (.loc 19) (.loc 8) (.tup (.cons .none (.cons (.loc 0) (.cons (.str [112,117,98,108,105,99]) (.cons (.loc 8) .nil)))))) .nil) (.cons (.cond (.cmp .eq (.loc 16) (.int 8)) (.cons (.y3 (.loc 19) (.loc 26) (.loc 13)) .nil) (.cons (.cond (.or (.cons (.cmp .ne (.sub (.loc 13) (.int 2)) (.loc 14)) (.cons (.cmp .y5 (.loc 8) (.loc 19)) .nil))) (.cons (.y3 (.loc 19) (.loc 8) (.tup (.cons (.sub (.loc 13) (.int 0)) (.cons (.sub (.loc 13) (.int 1)) (.cons (.loc 14) (.cons (.sub (.loc 13) (.int 3)) .nil)))))) .nil) .nil) .nil)) .nil)) .nil)) (.cons (.ret (.str [])) .nil)))))) J (.ok (.ret v) L' zv)->Call ⟨b,Ig,Ig,d+4⟩ (.fn 939) [.ref Q.m,ud way i g k k' s num] J (.ok v zv):=λh=>zG rfl rfl (zr x0 (zr x1 h));have lt:∀m:Nat,E ⟨b,Ig,Ig,d+3⟩ (dL Q.m way i g k k' s num (Q.da i)) (.cmp .lt (.loc 16) (.int m)) J (.ok (.bool (decide (way<m))) J):=λm=>by rw[<-ltI];exact zZ (zx rfl) yr jv
 have eq:∀m:Nat,E ⟨b,Ig,Ig,d+3⟩ (dL Q.m way i g k k' s num (Q.da i)) (.cmp .eq (.loc 16) (.int m)) J (.ok (.bool (way==m)) J):=λm=>by rw[<-oR];exact zZ (zx rfl) yr rg
 obtain l3:=lt 3;obtain l6:=lt 6;unfold vI;by_cases h3:way<3;.rw[decide_eq_true h3]at l3;rw[if_pos h3];obtain sm:small (num:Int)=Ib:=Hz (by rw[FT];exact I8 (Et uv) (by decide));obtain this:=p8 (F:=⟨b,Ig,Ig,d+3⟩) (L:=dL Q.m way i g k k' s num (Q.da i)) (v:=xJ ⟨e,Ie ([64]++uM num),i,s,k⟩) rfl (xU (zp (yd zV (y7 (g:=70) (x:=.loc 17) rfl (zx (v:=.int num) rfl) (Yc (EH _) sm)) (u5 (iT uv).2)) (zp (zx (x:=0) (v:=zU i) rfl) (zp (zx (x:=14) (v:=.str s) rfl) (zp (zx (x:=8) (v:=.str k) rfl) zf)))) rfl) (zx (x:=19) rfl) (zx (x:=8) (v:=.str k) rfl) hd sh;rw[m7]at this;obtain⟨z1,z2⟩:=Z.lay (h:=⟨e,Ie ([64]++uM num),i,s,k⟩) hi hk ⟨hs,hk,λt ht=>by cases ht;exact iT uv,hi⟩;exact⟨_,go (zT (ya l3 (zr this (zT (zK zV))))),z1,z2⟩
 rw[decide_eq_false h3]at l3;rw[if_neg h3];by_cases h6:way<6;.rw[decide_eq_true h6]at l6;rw[if_pos h6];obtain e4:=eq 4;cases h4:way==4 with|true=>rw[h4]at e4;obtain⟨zy,cm,z,m⟩:=W5 (b:=b) (d:=d+1) (c:=Ib) (j:=1) Z wt ht hg rfl (by decide);exact⟨zy,go (zr (zO l3 zj) (zT (ya l6 (zT (zK (y0 (yk rfl) (zp (zx rfl) (zp (zx rfl) (zp (zx rfl) (zp (wb e4 yr) zf)))) cm)))))),z,m⟩|false=>rw[h4]at e4;obtain⟨zy,cm,z,m⟩:=W5 (b:=b) (d:=d+1) (c:=Ig) (j:=2) Z wt ht hg rfl (by decide);exact⟨zy,go (zr (zO l3 zj) (zT (ya l6 (zT (zK (y0 (yk rfl) (zp (zx rfl) (zp (zx rfl) (zp (zx rfl) (zp (we e4 yr) zf)))) cm)))))),z,m⟩
 rw[decide_eq_false h6]at l6;rw[if_neg h6];obtain e6:=eq 6;by_cases oO:way=6
 .rw[beq_iff_eq.mpr oO]at e6;rw[if_pos oO];have h0:=yj (F:=⟨b,Ig,Ig,d+3⟩) (L:=dL Q.m way i g k k' s num (Q.da i)) (zx (x:=19) rfl) (tM hd) (zp (zx (x:=8) (v:=.str k) rfl) zf) (qd (.inl hd));rw[qt]at h0;have hv:((yW k (T i).ms).map xJ).getD .none=xK (yW k (T i).ms):=by cases yW k (T i).ms<;>rfl
  rw[hv]at h0;have hh:=Yw (b:=b) (d:=d+3) (q:=Ig) (J:=J) (L:=st 13 (xK (yW k (T i).ms)) (dL Q.m way i g k k' s num (Q.da i))) (o:=yW k (T i).ms) rfl;have Z0:E ⟨b,Ig,Ig,d+3⟩ (st 13 (xK (yW k (T i).ms)) (dL Q.m way i g k k' s num (Q.da i))) (.cmp .eq (.loc 16) (.int 6)) J (.ok (.bool Ib) J):=by obtain this:=zZ (F:=⟨b,Ig,Ig,d+3⟩) (J:=J) (L:=st 13 (xK (yW k (T i).ms)) (dL Q.m way i g k k' s num (Q.da i))) (zx (x:=16) (v:=.int way) rfl) (yr (i:=6)) rg;rw[oO]at this⊢;exact this
  cases hl:(yW k (T i).ms).bind live with|none=>rw[hl]at hh;exact⟨J,go (zr (zO l3 zj) (zr (zO l6 zj) (zr (yq (wb e6 h0)) (zT (ya hh (zT (ya (sZ Z0) (zT (zK zV))))))))),Z,.of .rfl⟩|some h=>rw[hl]at hh;obtain⟨h',g1,g2⟩:=GC.mp hl;have hp:=Ww (F:=⟨b,Ig,Ig,d+3⟩) rfl hd (k:=k) (v:=xJ h') (by rewrite[qt];rw[g1];rfl) sh;rw[gE]at hp;obtain⟨z1,z2⟩:=Z.setM hi (λp hp=>Z.w.ks i p (oG (k:=k).mem hp)) ((oG.map _).nodup (Z.w.nd i));exact⟨_,go (zr (zO l3 zj) (zr (zO l6 zj) (zr (yq (wb e6 h0)) (zr (zO hh zj) (zr (ya Z0 (zr (yF (yj (zx rfl) (YX hd) (zp (zx rfl) zf) hp)) zj)) (zT (zK zV))))))),z1,z2⟩
 rw[beq_false_of_ne oO]at e6;rw[if_neg oO];obtain⟨l,zt,c1,g1,hl⟩:=iI (b:=b) (d:=d+1) Z wt hi;have Z1:=Z.gr g1;have c2:=iJ (b:=b) (d:=d+2) (k:=k) Z1 hl (ig Z.w hi);have x4:=yq (F:=⟨b,Ig,Ig,d+3⟩) (L:=dL Q.m way i g k k' s num (Q.da i)) (x:=13) (we (a:=.zl (.loc 19) 49 (.cons (.loc 8) .nil)) e6 (xk (g:=73) (x:=.loc 7) (y:=.call (.zu 54) (.cons (.loc 7) (.cons (.loc 0) .nil))) (z:=.loc 8) rfl (zx rfl) (yU (g:=54) (x:=.loc 7) (y:=.loc 0) rfl (zx rfl) (zx rfl) c1) (zx rfl) c2));have hh:=Yw (b:=b) (d:=d+3) (q:=Ig) (J:=zt) (L:=st 13 (xK (zH T k (ln T i))) (dL Q.m way i g k k' s num (Q.da i))) (o:=zH T k (ln T i)) rfl;rw[N9]at hh;obtain WT:∀{h:yy}{l:List Nat},zH T k l=Ie h->wK h:=λh=>let⟨j,_,h2,_⟩:=q4 h;(Z.w.ks j _ h2).2;obtain YH:6<way:=by lia
 obtain nd:vQ T i k=match zH T k (ln T i)with|Ie h=>Ie h|none=>if yb i then none else zH T k (ln T 2):=rfl;rw[nd];generalize hf:zH T k (ln T i)=o at x4 hh⊢;have go':∀{v:V}{L':Loc}{zv:St},XB ⟨b,Ig,Ig,d+3⟩ (st 13 (xK o) (dL Q.m way i g k k' s num (Q.da i))) (.cons (.cond (.or (.cons (.cmp .is (.loc 13) .none) (.cons (.cmp .is (.sub (.loc 13) (.int 0)) .none) .nil))) (.cons (.cond (.or (.cons (.cmp .eq (.loc 16) (.int 6)) (.cons (.cmp .y5 (.loc 0) (.tup (.cons (.str [77]) (.cons (.str [78]) .nil)))) .nil))) (.cons (.ret (.str [78,97,109,101,69,114,114,111,114])) .nil) .nil) (.cons (.asg 13 (.call (.zu 73) (.cons (.loc 7) (.cons (.call (.zu 54) (.cons (.loc 7) (.cons (.str [79,98,106,101,99,116]) .nil))) (.cons (.loc 8) .nil))))) (.cons (.cond (.cmp .is (.loc 13) .none) (.cons (.ret (.str [78,97,109,101,69,114,114,111,114])) .nil) .nil) .nil))) .nil) (.cons (.cond (.cmp .eq (.loc 16) (.int 6)) (.cons (.expr (.zl (.loc 19) 69 (.cons (.loc 8) .nil))) .nil) (.cons (.cond (.cmp .eq (.loc 16) (.int 7)) (.cons (.y3 (.loc 19) (.loc 8) (.tup (.cons .none (.cons (.loc 0) (.cons (.str [112,117,98,108,105,99]) (.cons (.loc 8) .nil)))))) .nil) (.cons (.cond (.cmp .eq (.loc 16) (.int 8)) (.cons (.y3 (.loc 19) (.loc 26) (.loc 13)) .nil) (.cons (.cond (.or (.cons (.cmp .ne (.sub (.loc 13) (.int 2)) (.loc 14)) (.cons (.cmp .y5 (.loc 8) (.loc 19)) .nil))) (.cons (.y3 (.loc 19) (.loc 8) (.tup (.cons (.sub (.loc 13) (.int 0)) (.cons (.sub (.loc 13) (.int 1)) (.cons (.loc 14) (.cons (.sub (.loc 13) (.int 3)) .nil)))))) .nil) .nil) .nil)) .nil)) .nil)) (.cons (.ret (.str [])) .nil))) zt (.ok (.ret v) L' zv)->Call ⟨b,Ig,Ig,d+4⟩ (.fn 939) [.ref Q.m,ud way i g k k' s num] J (.ok v zv):=λh=>go (zr (zO l3 zj) (zr (zO l6 zj) (zr x4 h)));cases o with
 |some h=>obtain⟨zy,x,m,z⟩:=Ue (b:=b) (d:=d+3) (L:=st 13 (xK (Ie h)) (dL Q.m way i g k k' s num (Q.da i))) (h:=h) Z1 hi YH hk wZ hs (WT hf) rfl rfl rfl rfl rfl rfl rfl e;exact⟨zy,go' (zr (zO hh zj) x),z,(Mu.of g1).tr m⟩
 |none=>
  obtain Rd:E ⟨b,Ig,Ig,d+3⟩ (st 13 (xK none) (dL Q.m way i g k k' s num (Q.da i))) (.cmp .eq (.loc 16) (.int 6)) zt (.ok (.bool Ig) zt):=by obtain this:=zZ (F:=⟨b,Ig,Ig,d+3⟩) (L:=st 13 (xK none) (dL Q.m way i g k k' s num (Q.da i))) (J:=zt) (zx (x:=16) (v:=.int way) rfl) (yr (i:=(6:Nat))) rg;rw[oR,beq_false_of_ne oO]at this;exact this
  have hm:(([yx 8,yx 9]:List (List Nat)).any (zR (yx i)))=!yb i:=by
   obtain this:∀i∈targets,(([yx 8,yx 9]:List (List Nat)).any (zR (yx i)))=!yb i:=by decide+kernel
   exact this i ht
  have en:=uL Rd (uK (zZ (zx (x:=0) (v:=zU i) rfl) (xU (es:=.cons (.str [77]) (.cons (.str [78]) .nil)) (zp zV (zp zV zf)) rfl) (gV (l:=[yx 8,yx 9]) rfl).2));rw[hm,Bool.not_not]at en;cases wH:yb i with|true=>rw[wH]at en;exact⟨zt,go' (zT (ya hh (zT (ya en (zT (zK zV)))))),Z1,.of g1⟩|false=>rw[wH]at en;obtain⟨l2,zb,c3,g2,ph⟩:=iI (b:=b) (d:=d+1) (i:=2) Z1 (I8 wt g1.1) (by decide);have Z2:=Z1.gr g2;have tp:=g1.tr g2;obtain c4:=iJ (b:=b) (d:=d+2) (k:=k) Z2 ph (ig Z.w (by decide));have x6:=yq (F:=⟨b,Ig,Ig,d+3⟩) (L:=st 13 (xK none) (dL Q.m way i g k k' s num (Q.da i))) (x:=13) (xk (g:=73) (x:=.loc 7) (y:=.call (.zu 54) (.cons (.loc 7) (.cons (.str [79,98,106,101,99,116]) .nil))) (z:=.loc 8) rfl (zx rfl) (yU (g:=54) (x:=.loc 7) (y:=.str [79,98,106,101,99,116]) rfl (zx rfl) zV c3) (zx rfl) c4);simp only[I0,if_false];generalize rY:zH T k (ln T 2)=o2 at x6⊢;cases o2 with|none=>exact⟨zb,go' (zT (ya hh (zr (zO en zj) (zr x6 (zT (ya (zZ (zx rfl) zQ (yT rfl)) (zT (zK zV)))))))),Z2,.of tp⟩|some h=>obtain⟨zy,x,m,z⟩:=Ue (b:=b) (d:=d+3) (L:=st 13 (xK (Ie h)) (st 13 (xK none) (dL Q.m way i g k k' s num (Q.da i)))) (h:=h) Z2 hi YH hk wZ hs (WT rY) rfl rfl rfl rfl rfl rfl rfl e;exact⟨zy,go' (zr (ya hh (zr (zO en zj) (zr x6 (zr (zO (zZ (zx rfl) zQ (yT rfl)) zj) zj)))) x),z,(Mu.of tp).tr m⟩
end
noncomputable def WD(h:yy):V:=.tup [match h.b with|Ie t=>.str t|none=>.none,.str (u_ h.o),.str h.s,.str h.n]
noncomputable def t8:Option yy->V|Ie h=>WD h|none=>.none
section
variable{b:Bc}{d lim:Nat}{q:Bool}{J yt zt zy zv:St}{T T':Tb}{Q:Mt}{i g n:Nat}{k:List Nat}{L:Loc}{D:Dt}
theorem W3{o:Option yy}(R:RI J D)(h:∀x,o=Ie x->C3 (J[x.e]?=Ie (.inst 256 (D.w_ x))) (D.on x.o=Ib) (wK x)):Call ⟨b,Ig,Ig,d+5⟩ (.fn 953) [vf o] J (.ok (t8 o) J):=by cases o with|none=>exact zG rfl rfl (zT (zK (wb (zZ (zx rfl) zQ (yT rfl)) zQ)))|some x=>obtain⟨h1,h2,h3⟩:=h x rfl;exact zG rfl rfl (zT (zK (we (zZ (zx rfl) zQ (yT rfl)) (xU (zp (zM (zx rfl) h1 rfl rfl) (zp (y7 rfl (zM (zx rfl) h1 rfl rfl) (ck R h2 h3.o (oJ R.s h2 h3.o))) (zp (zM (zx rfl) h1 rfl rfl) (zp (zM (zx rfl) h1 rfl rfl) zf)))) rfl))))
noncomputable def lG:List (List Nat×V):=[([60,97,62],.str [35,60,65,62]),([60,99,62],.str [35,60,66,62])]
noncomputable def rW(o:Nat):List Nat:=if o=10 then[35,60,65,62]else if o=11 then[35,60,66,62]else((yx o).drop 1).dropLast
theorem Nw{o:Nat}(h:o<18):(zE (yx o) lG).getD (.str ((yx o).drop 1).dropLast)=.str (rW o):=by
 show((match zR (yx o) (yx 10)with|Ib=>Ie (V.str [35,60,65,62])|Ig=>match zR (yx o) (yx 11)with|Ib=>Ie (V.str [35,60,66,62])|Ig=>none).getD _)=_;rewrite[nQ h (by decide)];rw[nQ h (by decide)];unfold rW;by_cases h1:o=10;.subst h1;rfl
 .by_cases h2:o=11;.subst h2;rfl
  .rewrite[beq_false_of_ne h1];rewrite[beq_false_of_ne h2];rewrite[if_neg h1];rw[if_neg h2];rfl
theorem Nv{o:Nat}(h:o<18):X2 λc r=>C6 (yx o=c::r) (plainS [c]=Ib) (short (yx o)=Ib) ((match zR [60] [c]with|Ib=>zR ([35,60,67,108,97,115,115,58]++rW o++[62]) (u_ o)|Ig=>zR (yx o) (u_ o))=Ib) (short ([35,60,67,108,97,115,115,58]++rW o)=Ib) (short ([35,60,67,108,97,115,115,58]++rW o++[62])=Ib):=by
 obtain this:∀o<18,(match yx o with|c::r=>plainS [c]&&(short (yx o)&&((match zR [60] [c]with|Ib=>zR ([35,60,67,108,97,115,115,58]++rW o++[62]) (u_ o)|Ig=>zR (yx o) (u_ o))&&(short ([35,60,67,108,97,115,115,58]++rW o)&&short ([35,60,67,108,97,115,115,58]++rW o++[62]))))|[]=>Ig)=Ib:=by decide+kernel
 obtain this:=this o h;cases hm:yx o with|nil=>rw[hm]at this;cases this|cons c r=>simp only[hm]at this;obtain⟨h1,this⟩:=zh this;obtain⟨h2,this⟩:=zh this;obtain⟨h3,this⟩:=zh this;obtain⟨h4,h5⟩:=zh this;exact⟨c,r,rfl,h1,h2,h3,h4,h5⟩
theorem Lb{o:Option yy}(h:∀x,o=Ie x->x.o<18):∃zy,Call ⟨b,Ig,Ig,d+1⟩ (.fn 960) [xK o] J (.ok (t8 o) zy)/\Gr J zy:=by cases o with|none=>exact⟨J,zG rfl rfl (zT (ya (zZ (zx rfl) zQ (yT rfl)) (zT (zK zQ)))),.rfl⟩|some x=>obtain hx:=h x rfl;obtain⟨c,r,hm,h1,h2,h3,h4,h5⟩:=Nv hx;obtain g:Gr J ((J++[O.dict []]).set J.length (.dict lG)):=(Gr.push _).set (IV _);obtain hd:((J++[O.dict []]).set J.length (.dict lG))[J.length]?=Ie (.dict lG):=get_set z7;have e1:∀{L:Loc}{zv:St},lk 13 L=Ie (xJ x)->E ⟨b,Ig,Ig,d⟩ L (.sub (.loc 13) (.int 1)) zv (.ok (.str (yx x.o)) zv):=λhl=>yH (zx hl) yr (vk (j:=1) rfl (by decide));obtain x1:=yq (F:=⟨b,Ig,Ig,d⟩) (L:=[(13,xJ x)]) (x:=135) (J:=J) (yj (o:=.wY (.kv (.str [60,97,62]) (.str [35,60,65,62]) (.kv (.str [60,99,62]) (.str [35,60,66,62]) .nil))) (Yx rfl (dq zV zV (dq zV zV XG)) z7 rfl) (tM hd) (zp (e1 rfl) (zp (Yr (e1 rfl) λzz zz=>V_ h2) zf)) (l9 (.inl hd)));rw[Nw hx]at x1;refine⟨_,zG rfl rfl (zr (zO (zZ (zx rfl) zQ (yT rfl)) zj) (zr x1 (zT (zK (xU (zp (yH (zx rfl) yr (vk (j:=0) rfl (by decide))) (zp (v:=.str (u_ x.o)) ?_ (zp (yH (zx rfl) yr (vk (j:=2) rfl (by decide))) (zp (yH (zx rfl) yr (vk (j:=3) rfl (by decide))) zf)))) rfl))))),g⟩;obtain ec:=zZ (F:=⟨b,Ig,Ig,d⟩) (L:=[(13,xJ x),(135,.str (rW x.o))]) (J:=(J++[O.dict []]).set J.length (.dict lG)) (yH (e1 rfl) yr (cR (j:=0) (by rw[hm];rfl) (by decide))) (zV (t:=[60])) (u2 h1 rfl);cases hc:zR [60] [c]with|true=>rw[hc]at ec h3;rw[<-xd.mp h3];exact wb ec (yd (yd zV (zx rfl) (u5 h4)) zV (u5 h5))|false=>rw[hc]at ec h3;rw[<-xd.mp h3];exact we ec (e1 rfl)
noncomputable def uN(o:Nat):List Nat->List Nat|[]=>[]|x::r=>match x==o with|Ib=>r|Ig=>uN o r
theorem jU{o:Nat}:∀l:List Nat,wA T k o l=zH T k (uN o l)|[]=>rfl|x::r=>by show(match x==o with|Ib=>zH T k r|Ig=>wA T k o r)=zH T k (match x==o with|Ib=>r|Ig=>uN o r);cases x==o with|true=>rfl|false=>exact jU r
theorem bS{o:Nat}(ho:o<18):∀{l:List Nat},(∀x∈l,x<18)->l.contains o=Ib->∃j,(l.map yx).findIdx? (zR (yx o))=Ie j/\l.drop (j+1)=uN o l|x::r,hl,h=>by rewrite[Hy];rewrite[Ff];rewrite[nQ ho (hl x (.head _))];rw[BEq.comm];unfold uN;cases q:x==o with|true=>exact⟨0,rfl,rfl⟩|false=>rw[I1,BEq.comm,q,Fw]at h;obtain⟨j,h1,h2⟩:=bS ho (λy hy=>hl y (.tail _ hy)) h;exact⟨j+1,by simp only[h1,I0,if_false,Option.map_some],h2⟩
theorem bQ{o:Nat}:∀{l:List Nat},l.contains o=Ig->uN o l=[]|[],zo=>rfl|x::r,h=>by rw[I1,BEq.comm]at h;obtain⟨h1,h2⟩:=Hd.mp h;unfold uN;rw[h1];exact bQ h2
theorem bR{o:Nat}:∀{l:List Nat},(∀x∈l,x<18)->∀x∈uN o l,x<18|y::r,hl,x,hx=>by unfold uN at hx;cases q:y==o with|true=>rw[q]at hx;exact hl x (.tail _ hx)|false=>rw[q]at hx;exact bR (λz hz=>hl z (.tail _ hz)) x hx
noncomputable def sC(T:Tb)(k:List Nat)(ns:List Nat):List (Option yy):=match zH T k ns with|none=>[none]|Ie h=>[Ie h,wA T h.n h.o ns]
theorem MQ{l:List Nat}{n:Nat}:(za l).drop n=za (l.drop n):=EL.symm
theorem Lc{l:Nat}{ns:List Nat}(Z:MI Q lim J T)(hl:J[l]?=Ie (.list (za ns)))(hn:∀y∈ns,y<18)(hlen:ns.length<=900):X2 λr zy=>C3 (Call ⟨b,Ig,Ig,d+2⟩ (.fn 967) [.ref Q.m,.ref l,.str k] J (.ok (.ref r) zy)) (Gr J zy) (zy[r]?=Ie (.list ((sC T k ns).map xK))):=by
 have x0:=yq (F:=⟨b,Ig,Ig,d+1⟩) (L:=[(7,.ref Q.m),(33,.ref l),(8,.str k)]) (x:=58) (xk (g:=73) (x:=.loc 7) (y:=.loc 33) (z:=.loc 8) rfl (zx rfl) (zx rfl) (zx rfl) (iJ (b:=b) (d:=d) (k:=k) Z hl hn));unfold sC;cases hf:zH T k ns with
 |none=>rw[hf]at x0;exact⟨_,_,zG rfl rfl (zr x0 (zT (ya (zZ (zx rfl) zQ (yT rfl)) (zT (zK (y' (zp zQ zf) rfl)))))),Gr.push _,z7⟩
 |some h=>
  rw[hf]at x0;obtain⟨_,hi,hm,_⟩:=q4 hf;have hh:=(Z.w.ks _ _ hm).2;have e1:∀{L:Loc}{zv:St},lk 58 L=Ie (xJ h)->E ⟨b,Ig,Ig,d+1⟩ L (.sub (.loc 58) (.int 1)) zv (.ok (.str (yx h.o)) zv):=λhl=>yH (zx hl) yr (vk (j:=1) rfl (by decide));obtain uw:=zZ (F:=⟨b,Ig,Ig,d+1⟩) (L:=[(7,.ref Q.m),(33,.ref l),(8,.str k),(58,xJ h)]) (J:=J) (e1 rfl) (zx (x:=33) rfl) (mL hl (kQ _)).1;rw[mU hh.o hn]at uw;obtain⟨rl,zv,er,gr,OJ⟩:X2 λrl zv=>C3 (E ⟨b,Ig,Ig,d+1⟩ [(7,.ref Q.m),(33,.ref l),(8,.str k),(58,xJ h)] (.ite (.cmp .yM (.sub (.loc 58) (.int 1)) (.loc 33)) (.qQ (.loc 33) (.bin .add (.zl (.loc 33) 138 (.cons (.sub (.loc 58) (.int 1)) .nil)) (.int 1))) (.lst .nil)) J (.ok (.ref rl) zv)) (Gr J zv) (zv[rl]?=Ie (.list (za (uN h.o ns)))):=by cases hc:ns.contains h.o with|true=>rw[hc]at uw;obtain⟨j,j1,j2⟩:=bS hh.o hn hc;refine⟨_,_,wb uw (Yq (zx (v:=.ref l) rfl) (yd (yj (zx (v:=.ref l) rfl) (R9 hl) (zp (e1 rfl) zf) (Mv hl (kQ _) j1 (sJ (by lia)))) yr g_) λzz=>Va (by lia) hl (sJ (by lia)) rfl),Gr.push _,?_⟩;rewrite[z7];rewrite[MQ];rw[<-j2];rfl|false=>rw[hc]at uw;rw[bQ hc];exact⟨_,_,we uw (y' zf rfl),Gr.push _,z7⟩
  obtain c2:=iJ (b:=b) (d:=d) (k:=h.n) (Z.gr gr) OJ (bR hn);refine⟨_,_,zG rfl rfl (zr x0 (zr (zO (zZ (zx rfl) zQ (yT rfl)) zj) (zr (yq er) (zT (zK (y' (zp (zx rfl) (zp (xk rfl (zx rfl) (zx rfl) (yH (zx rfl) yr (vk (j:=3) rfl (by decide))) c2) zf)) rfl)))))),gr.tr (Gr.push _),?_⟩;rw[z7,show((match Ie h with|none=>[none]|Ie h=>[Ie h,wA T h.n h.o ns]:List (Option yy)).map xK)=[xK (Ie h),xK (wA T h.n h.o ns)]from rfl,jU]
end
structure LE(T:Tb)(on:Nat->Bool)(l l':List Nat):Prop where
 f:∀k,zH T k l=zH T k l'
 b:∀k o,on o=true->wA T k o l=wA T k o l'
 c:∀y,on y=true->l.contains y=l'.contains y
section
variable{T:Tb}{on:Nat->Bool}{j:Nat}{l l':List Nat}
theorem LE.re:LE T on l l:=⟨λzz=>rfl,λzz zz zz=>rfl,λzz zz=>rfl⟩
theorem LE.tr{m:List Nat}(a:LE T on l m)(c:LE T on m l'):LE T on l l':=⟨λk=>(a.f k).trans (c.f k),λk o h=>(a.b k o h).trans (c.b k o h),λy h=>(a.c y h).trans (c.c y h)⟩
theorem YU(h:(T j).ms=[]){k:List Nat}:zH T k (j::l)=zH T k l:=by show(match yW k (T j).ms with|Ie h=>live h|none=>zH T k l)=_;rw[h];rfl
theorem jQ(h:(T j).ms=[]){p:Nat->Bool}(hp:∀x,p x=Ig->x=j){k:List Nat}:∀l:List Nat,zH T k (l.filter p)=zH T k l|[]=>rfl|x::l=>by cases q:p x with|true=>rewrite[Hl];rw[q];show(match yW k (T x).ms with|Ie h=>live h|none=>zH T k (l.filter p))=(match yW k (T x).ms with|Ie h=>live h|none=>zH T k l);rw[jQ h hp l]|false=>rewrite[Hl];rewrite[q];rewrite[hp x q];rw[YU h];exact jQ h hp l
theorem LE.Y_(h:(T j).ms=[])(yY:on j=Ig){p:Nat->Bool}(hp:∀x,p x=Ig->x=j)(l:List Nat):LE T on (l.filter p) l:=by
 refine⟨λk=>jQ h hp l,λk o ho=>?_,λy hy=>?_⟩
 .induction l with
  |nil=>rfl
  |cons x l ih=>
   cases q:p x with
   |true=>rewrite[Hl];rw[q];show(match x==o with|Ib=>zH T k (l.filter p)|Ig=>wA T k o (l.filter p))=(match x==o with|Ib=>zH T k l|Ig=>wA T k o l);rewrite[ih];rw[jQ h hp l]
   |false=>
    rewrite[Hl];rw[q];obtain e:(x==o)=Ig:=beq_false_of_ne λe=>by rw[<-e,hp x q,yY]at ho;cases ho
    show wA T k o (l.filter p)=(match x==o with|Ib=>zH T k l|Ig=>wA T k o l);rw[e];exact ih
 .induction l with|nil=>rfl|cons x l ih=>cases q:p x with|true=>rewrite[Hl];rewrite[q];rewrite[if_pos rfl];rewrite[I1];rewrite[I1];rw[ih]|false=>rw[Hl,q,I1,show(y==x)=Ig from beq_false_of_ne λe=>by rw[e,hp x q,yY]at hy;cases hy];exact ih
theorem LE.cons(h:(T j).ms=[])(yY:on j=Ig):LE T on (j::l) l:=by
 refine⟨λk=>YU h,λk o ho=>?_,λy hy=>?_⟩
 .obtain e:(j==o)=Ig:=beq_false_of_ne λe=>by rw[<-e,yY]at ho;cases ho
  show(match j==o with|Ib=>zH T k l|Ig=>wA T k o l)=_;rw[e]
 .obtain e:(y==j)=Ig:=beq_false_of_ne λe=>by rw[e,yY]at hy;cases hy
  rewrite[I1];rewrite[e];rw[Fw]
theorem LE.step(h0:∀c,(T j).li c=[])(h:(T j).ms=[])(yY:on j=Ig)(bh:List Nat):LE T on (step T j bh) bh:=by
 obtain o2:own T 2 j=[j]:=by unfold own;rewrite[h0];rw[h0];rfl
 obtain a0:xN T j=0:=by unfold xN;rw[h0];rfl
 unfold Mine.step;rewrite[o2];rw[a0];show LE T on (qH (if !bh.contains j then[j]else[]) bh) bh;cases bh.contains j with|false=>show LE T on (j::bh.filter λx=>![j].contains x) bh;refine(LE.cons h yY).tr (LE.Y_ h yY (λx hx=>?_) bh);rw[I1,show([]:List Nat).contains x=Ig from rfl,Bool.or_false,Bool.not_eq_false']at hx;exact eq_of_beq hx|true=>show LE T on (bh.filter λx=>!([]:List Nat).contains x) bh;exact LE.Y_ h yY (λx(hx:Ib=Ig)=>nomatch hx) bh
theorem LE.dead{D:Dt}(s:v3 D){j p:Nat}(h:D.on j=Ig)(hp:par j=Ie p):LE D.T D.on (ln D.T j) (ln D.T p):=by
 obtain⟨h1,h2⟩:=s.un j h;have j2:IP j 2=Ig:=by cases q:IP j 2 with|false=>rfl|true=>obtain this:=IJ q;subst this;rw[s.om 2 (by decide) (by decide)]at h;cases h
 rw[nU hp];exact LE.step (λc=>by rewrite[h1 c];rw[j2];rfl) h2 h _
theorem LE.up{D:Dt}(s:v3 D):∀(n:Nat){x j:Nat},x<18->yb x=Ib->rank x<n->yn x=Ie j->LE D.T D.on (ln D.T j) (ln D.T ((uS D.on n x).getD 4))
|0,zo,zY,zF,yX,h,xe=>nomatch h
|n+1,x,j,hx,hc,hr,ho=>by
 unfold uS;rw[ho];cases yY:D.on j with
 |true=>rewrite[HW];rw[if_pos yY];exact .re
 |false=>
  rewrite[HW];rw[if_neg (by rw[yY];exact Hi)];have op:=d6 ho;have qx:Hq x 18=Ib:=Hz hx;rw[qx,F9,hc]at op;cases hp:par x with
  |none=>rw[hp]at op;exact LE.dead s yY op
  |some p=>
   rw[hp]at op;obtain⟨k,p1,p2,p3,p4⟩:=op;have pc:yb p=Ib:=by
    have:∀x<18,yb x=Ib->(match par x with|Ie p=>yb p|none=>Ib)=Ib:=by decide+kernel
    have:=this x hx hc;rw[hp]at this;exact this
   exact(LE.dead s yY p2).tr (LE.up s n p3 pc (by lia) p1)
theorem LE.own{D:Dt}(s:v3 D){x j:Nat}(hx:D.on x=Ib)(ho:yn x=Ie j):LE D.T D.on (ln D.T j) (ln D.T (xq D.on x)):=by
 unfold xq;rw[ho];cases yY:D.on j with
 |true=>rewrite[HW];rw[if_pos yY];exact .re
 |false=>
  rewrite[HW];rw[if_neg (by rw[yY];exact Hi)];obtain op:=d6 ho;rcases s.bd x hx with h|rfl|rfl
  .obtain qx:Hq x 18=Ib:=Hz h;simp only[if_pos qx];rw[qx,F9]at op;cases hc:yb x with
   |false=>rw[hc]at op;exact LE.dead s yY op
   |true=>
    rw[hc]at op;cases hp:par x with
    |none=>rw[hp]at op;exact LE.dead s yY op
    |some p=>
     rw[hp]at op;obtain⟨k,p1,p2,p3,p4⟩:=op;obtain pc:yb p=Ib:=by
      obtain this:∀x<18,yb x=Ib->(match par x with|Ie p=>yb p|none=>Ib)=Ib:=by decide+kernel
      obtain this:=this x h hc;rw[hp]at this;exact this
     exact(LE.dead s yY p2).tr (LE.up s 7 p3 pc (by obtain this:=kU h;lia) p1)
  .exact LE.dead s yY op
  .exact LE.dead s yY op
end
theorem lZ{bh:List Nat}{cnt:Nat}{x:Nat}:∀(ys acc:List Nat)(p:Nat),x∈acc\/x∈ys->x∈here bh cnt p acc ys\/x∈bh
|[],acc,p,h=>.inl (h.resolve_right λh=>nomatch h)
|y::ys,acc,p,h=>by
 show x∈here bh cnt (p+1) (if !acc.contains y&&(decide ((p:Int)<cnt)||!bh.contains y)then acc++[y]else acc) ys\/x∈bh;have mono:x∈acc->x∈(if !acc.contains y&&(decide ((p:Int)<cnt)||!bh.contains y)then acc++[y]else acc):=λh=>by
  split;.exact G_ _ h
  .exact h
 rcases h with h|h;.exact lZ ys _ (p+1) (.inl (mono h))
 .rcases IU.mp h with e|h;.subst e;cases h1:acc.contains x with|true=>exact lZ ys _ (p+1) (.inl (by rw[h1]at mono;exact mono (HK.mp h1)))|false=>cases h2:bh.contains x with|true=>exact .inr (HK.mp h2)|false=>exact lZ ys _ (p+1) (.inl (by rewrite[Dm];rw[Fi];exact Gu _ (.head _)))
  .exact lZ ys _ (p+1) (.inr h)
theorem N8(T:Tb)(i:Nat):i∈ln T i:=by
 have st:∀bh,i∈step T i bh:=λbh=>by
  obtain hi:i∈own T 2 i:=Gu _ (.head _);unfold step qH;rcases lZ (bh:=bh) (cnt:=xN T i) (own T 2 i) [] 0 (.inr hi)with h|h;.exact G_ _ h
  .by_cases q:i∈here bh (xN T i) 0 [] (own T 2 i);.exact G_ _ q
   .refine Gu _ (Fo.mpr ⟨h,?_⟩);cases z:(here bh (xN T i) 0 [] (own T 2 i)).contains i with|false=>rfl|true=>exact absurd (HK.mp z) q
 cases hp:par i with|none=>rw[lC hp];exact st _|some p=>rw[nU hp];exact st _
noncomputable def iU:V->Bool|.ref zo=>Ig|_=>Ib
section
variable{J zv zk:St}{D:Dt}{i n:Nat}{acc:List V}{o:O}
theorem MM(h:acc.all iU=Ib):acc≠rf D.ad (ln D.T i):=λe=>by
 obtain this:V.ref (D.ad i)∈acc:=by rw[e];exact HT.mpr ⟨D.ad i,HT.mpr ⟨i,N8 D.T i,rfl⟩,rfl⟩
 obtain this:=I2.mp h _ this;cases this
theorem RI.put(R0:RI zv D)(R:RI zk D)(hn:zv.length<=n)(h:zk[n]?=Ie (.list acc))(ha:acc.all iU=Ib):RI (zk.set n o) D:=by
 have ne:∀{r:Nat}{p:O},zv[r]?=Ie p->n≠r:=λh e=>by obtain this:=xr h;lia
 obtain⟨n0,m0,w0,_⟩:=R0.wo;obtain⟨d0,tF,_⟩:=R0.md;obtain⟨num,main,hw,hl⟩:=R.wo;obtain⟨md,h1,h2⟩:=R.md;refine⟨⟨num,main,zJ hw (ne w0),hl⟩,⟨md,zJ h1 (ne tF),h2.to λa s⟨fs,e,z⟩=>⟨fs,zJ e (λq=>by rw[<-q,h]at e;cases e),z⟩⟩,zJ R.c0 (ne R0.c0),zJ R.c1 (ne R0.c1),zJ R.n0 (ne R0.n0),zJ R.n1 (ne R0.n1),zJ R.kn (ne R0.kn),λi hi hm=>?_,λi hi hm=>zJ (R.mm i hi hm) (ne (R0.mm i hi hm)),λi hi hm p hp=>⟨zJ (R.ee i hi hm p hp).1 (ne (R0.ee i hi hm p hp).1),(R.ee i hi hm p hp).2⟩,λi c hi hm=>zJ (R.ll i c hi hm) (ne (R0.ll i c hi hm)),λi hi hm=>?_,R.s⟩;.obtain⟨_,_,_,q,_⟩:=R0.oo i hi hm;obtain⟨kp,a1,a3,g1,g2⟩:=R.oo i hi hm;exact⟨kp,a1,a3,zJ g1 (ne q),g2.imp id λ⟨v,l,e1,e2,e3⟩=>⟨v,l,e1,e2,λz=>⟨(e3 z).1,zJ (e3 z).2 λq=>MM ha (by obtain this:=(e3 z).2;rw[<-q,h]at this;injection this with this;injection this)⟩⟩⟩
 .obtain⟨_,q⟩:=R0.th i hi hm;obtain⟨a,g⟩:=R.th i hi hm;exact⟨a,zJ g (ne q)⟩
theorem Ask.put(R0:RI zv D)(a:Ask D zv zk)(hn:zv.length<=n)(h:zk[n]?=Ie (.list acc))(ha:acc.all iU=Ib):Ask D zv (zk.set n o):=by
 refine⟨R0.put a.r hn h ha,by rw[HS];exact a.k.1,λr p e=>?_⟩;obtain this:n≠r:=λz=>by obtain this:=xr e;lia
 rcases a.k.2 r p e with q|⟨f,f',e1,q,z⟩;.exact .inl (zJ q this)
 .exact .inr ⟨f,f',e1,zJ q this,z⟩
theorem RI.mu(R:RI J D){lim:Nat}(wt:lim+2=D.w)(m:Mu lim J zv):RI zv D:=by
 obtain w2:=R.s.w2;obtain wk:=R.s.kn;have k:∀{r:Nat}{o:O},J[r]?=Ie o->(lim<=r\/Hq 1 o.ctorIdx=Ib)->zv[r]?=Ie o:=λh=>m.2 _ _ h;obtain⟨num,main,hw,hl⟩:=R.wo;obtain⟨md,h1,h2⟩:=R.md;refine⟨⟨num,main,k hw (.inr rfl),hl⟩,⟨md,k h1 (.inl (by lia)),h2.to λa s⟨fs,e,z⟩=>⟨fs,k e (.inr rfl),z⟩⟩,k R.c0 (.inr rfl),k R.c1 (.inr rfl),k R.n0 (.inl (by lia)),k R.n1 (.inl (by lia)),k R.kn (.inl (by lia)),λi hi hm=>?_,λi hi hm=>k (R.mm i hi hm) (.inl (by obtain this:=(R.s.lo i hi).2;lia)),λi hi hm p hp=>⟨k (R.ee i hi hm p hp).1 (.inr rfl),(R.ee i hi hm p hp).2⟩,λi c hi hm=>k (R.ll i c hi hm) (.inl (by obtain this:=(R.s.lo i hi).3 c;lia)),λi hi hm=>?_,R.s⟩;.obtain⟨kp,a1,a3,g1,g2⟩:=R.oo i hi hm;exact⟨kp,a1,a3,k g1 (.inr rfl),g2.imp id λ⟨v,l,e1,e2,e3⟩=>⟨v,l,e1,e2,λz=>⟨(e3 z).1,k (e3 z).2 (.inl (by obtain this:=(e3 z).1;lia))⟩⟩⟩
 .obtain⟨a,g⟩:=R.th i hi hm;exact⟨a,k g (.inr rfl)⟩
theorem MI.ask{Q:Mt}{lim:Nat}{T:Tb}(Z:MI Q lim J T)(a:Kp J zv):MI Q lim zv T:=Z.to λzz zz zz n h=>a.get h n
theorem MI.lo{Q:Mt}{lim:Nat}{T:Tb}(Z:MI Q lim J T)(wt:lim+2=D.w)(a:Lo D J zv):MI Q lim zv T:=Z.to λzz zz l n h=>a.2 _ _ (by lia) n h
end
mutual
theorem Yk:∀v:V,PySem.PyData.eqv (conv v) (conv v)=Ib|.tup vs=>lu vs|.bool b=>beq_self_eq_true b|.int i=>beq_self_eq_true i|.str s=>beq_self_eq_true (tx s)|.none|.ref zo|.fn zY|.cl zF|.bi yX|.ty xe=>rfl
theorem lu:∀vs:List V,ER (vV vs) (vV vs)=Ib|[]=>rfl|v::vs=>Fu.mpr ⟨Yk v,lu vs⟩
end
noncomputable def aL(w x m j:Nat)(k:List Nat):Loc:=[(1,.ref w),(36,.ref x),(7,.ref m),(0,zU j),(8,.str k)]
noncomputable def bT(w x m j:Nat)(k:List Nat)(mo l r:Nat)(en:V):Loc:=[(1,.ref w),(36,.ref x),(7,.ref m),(0,zU j),(8,.str k),(2,.ref mo),(33,.ref l),(56,.ref r),(20,en)]
noncomputable def oj(w x m j:Nat)(k:List Nat)(mo l r:Nat)(en:V)(f:Nat):Loc:=[(1,.ref w),(36,.ref x),(7,.ref m),(0,zU j),(8,.str k),(2,.ref mo),(33,.ref l),(56,.ref r),(20,en),(4,.ref f)]
theorem N1{h:yy}(w:wK h):lvl 3 (WD h)=Ib:=by
 obtain h1:∀o<18,plainS (u_ o)=Ib:=by decide+kernel
 show(lvl 2 (match h.b with|Ie t=>V.str t|none=>.none)&&(plainS (u_ h.o)&&(plainS h.s&&(plainS h.n&&Ib))))=Ib;rewrite[h1 _ w.o];rewrite[w.ps.1];rw[w.ps.2];cases hb:h.b with|none=>rfl|some t=>show(plainS t&&Ib)=Ib;rw[(w.b t hb).1];rfl
section
variable{b:Bc}{d lim:Nat}{q:Bool}{J yt zt zy zv:St}{T T':Tb}{Q:Mt}{i g n x j:Nat}{k:List Nat}{L:Loc}{D:Dt}
theorem Oh(w:WF T){l:List Nat}:∀o∈sC T k l,∀h,o=Ie h->wK h:=λo ho h e=>by
 have ok:∀{k:List Nat}{l:List Nat}{h:yy},zH T k l=Ie h->wK h:=λh=>let⟨j,_,h2,_⟩:=q4 h;(w.ks j _ h2).2;unfold sC at ho;cases hf:zH T k l with
 |none=>rw[hf]at ho;rw[I_.mp ho]at e;cases e
 |some h'=>
  rw[hf]at ho;rcases IU.mp ho with e'|ho;.replace e:=yZ e' e;cases e;exact ok hf
  .rw[I_.mp ho,jU]at e;exact ok e
theorem Jc{mo l r f:Nat}(R0:RI yt D)(a:Ask D yt J)(ho:mo=D.ad i)(hi:D.on i=Ib)(hm:i<18)(e:LE D.T D.on (ln D.T j) (ln D.T i))(hf:yt.length<=f)(hl:J[f]?=Ie (.list [t8 (zH D.T k (ln D.T i))])):∃zv,C3 (X1 ⟨b,Ig,Ig,d+22⟩ (oj D.w x Q.m j k mo l r (vf (zH D.T k (ln D.T i))) f) (.cond (.cmp .yO (.loc 20) .none) (.cons (.expr (.zl (.loc 4) 30 (.cons (.call (.zu 126) (.cons (.call (.zu 180) (.cons (.loc 1) (.cons (.loc 2) (.cons (.attr (.loc 20) 18) (.cons (.attr (.loc 20) 0) .nil))))) .nil)) .nil))) .nil) .nil) J (.ok .next (oj D.w x Q.m j k mo l r (vf (zH D.T k (ln D.T i))) f) zv)) (Ask D yt zv) (zv[f]?=Ie (.list ((sC D.T k (ln D.T j)).map t8))):=by
 unfold sC;rw[e.f k];subst ho;cases eu:zH D.T k (ln D.T i)with
 |none=>rw[eu]at hl;exact⟨J,zO (zZ (zx rfl) zQ (uz rfl)) zj,a,hl⟩
 |some h=>
  rw[eu]at hl;obtain⟨h1,h2,h3,_⟩:=a.r.ent (a.r.tG hi hm).2 eu;obtain⟨zv,c,a2⟩:=Lm (b:=b) (d:=d+1) (k:=h.n) a.r hi hm h2;obtain hp:=W3 (b:=b) (d:=d+17) (o:=wA D.T h.n h.o (ln D.T i)) a2.r λy hy=>by
   rw[jU]at hy;obtain⟨q1,q2,q3,_⟩:=a2.r.ent (l:=uN h.o (ln D.T i)) (λz hz=>(a2.r.tG hi hm).2 z (by
    obtain this:∀{l:List Nat},z∈uN h.o l->z∈l:=λ{l}=>by induction l with|nil=>exactλh=>h|cons y l ih=>intro hz;unfold uN at hz;cases q:y==h.o with|true=>rw[q]at hz;exact .tail _ hz|false=>rw[q]at hz;exact .tail _ (ih hz)
    exact this hz)) hy;exact⟨q1,q2,q3⟩
  obtain ph:=a2.k.get hl;show∃zv:St,C3 _ _ (zv[f]?=Ie (O.list [t8 (Ie h),t8 (wA D.T h.n h.o (ln D.T j))]));rw[e.b _ _ h2];exact⟨_,ya (zZ (zx rfl) zQ (tP rfl)) (zr (yF (yj (zx rfl) (ua hl) (zp (y7 rfl (y0 (yk rfl) (zp (zx rfl) (zp (zx rfl) (zp (zM (zx rfl) h1 rfl rfl) (zp (zM (zx rfl) h1 rfl rfl) zf)))) c) hp) zf) (pP rfl ph rfl))) zj),(a.tr a2).put R0 hf ph rfl,get_set ph⟩
theorem Ml{r:Nat}{os:List (Option yy)}(h:zv[r]?=Ie (.list (os.map xK)))(ho:∀o∈os,∀x,o=Ie x->x.o<18)(hlen:os.length<=10):∃zk,C3 (CL ⟨b,Ig,Ig,d+1⟩ L [13] (.list r) (os.map xK) (.call (.zu 154) (.cons (.loc 13) .nil)) .nil zv.length (os.map xK).length [] (zv++[.list []]) (os.map t8) zk) (Gr zv zk) (zk[zv.length]?=Ie (.list (os.map t8))):=by obtain⟨acc,zk,k,k1,⟨k2,k3⟩,k4⟩:=CL.go (F:=⟨b,Ig,Ig,d+1⟩) (L:=L) (xs:=[13]) (t:=.list r) (elt:=(.call (.zu 154) (.cons (.loc 13) .nil))) (y_:=.nil) (n0:=zv.length) (l:=os.map xK) (zs:=os) (g:=λzz z=>xK z) (IY _) (λp z h=>by rewrite[IM];rw[h];rfl) (P:=λp ys acc zk=>C3 (Gr zv zk) (acc.length<=p/\acc++ys.map t8=os.map t8) (zk[zv.length]?=Ie (.list acc))) (λp ys acc zk h'=>h'.1.get h) (by rintro p z ys acc zk hp hd⟨g,⟨hu,hv⟩,hc⟩;obtain yJ:=(IF.mp hp).1;obtain⟨bc,c,g'⟩:=Lb (b:=b) (d:=d) (J:=zk) (ho z (I9 hp));have wW:=g'.get hc;exact⟨_,zk,rfl,.inr ⟨bc,_,.inl ⟨rfl,rfl⟩,y7 rfl (zx yw) c,wW,xG (by lia),(g.tr g').set (IV _),⟨by rw[IZ];exact Hs hu,by rw[I3];exact hv⟩,get_set wW⟩⟩) os.length 0 os [] (zv++[.list []]) rfl rfl ⟨Gr.push _,⟨IV _,rfl⟩,z7⟩;rw[GW,Hf]at k3;subst k3;exact⟨zk,by rw[IY];exact k,k1,k4⟩
theorem Mx(R:RI zv D)(hx:D.on x=Ib)(ha:yP x=none)(l1:lk 1 L=Ie (.ref D.w))(l2:lk 36 L=Ie (.ref (D.ad x)))(l3:lk 8 L=Ie (.str k)):∃zk,C3 (CL ⟨b,Ig,Ig,d+22⟩ L [91] (.tup [.bool Ib,.bool Ig]) [.bool Ib,.bool Ig] (.call (.zu 144) (.cons (.loc 1) (.cons (.loc 36) (.cons (.loc 8) (.cons (.loc 91) .nil))))) .nil zv.length 2 [] (zv++[.list []]) [.bool (sE Ib (zH D.T k (ln D.T (xq D.on x)))),.bool (sE Ig (zH D.T k (ln D.T (xq D.on x))))] zk) (Ask D zv zk) (zk[zv.length]?=Ie (.list [.bool (sE Ib (zH D.T k (ln D.T (xq D.on x)))),.bool (sE Ig (zH D.T k (ln D.T (xq D.on x))))])):=by
 have one:∀(ev:Bool)(acc:List V)(yQ:St),Ask D zv yQ->yQ[zv.length]?=Ie (.list acc)->acc.all iU=Ib->∃xg,C3 (E ⟨b,Ig,Ig,d+22⟩ (st 91 (.bool ev) L) (.call (.zu 144) (.cons (.loc 1) (.cons (.loc 36) (.cons (.loc 8) (.cons (.loc 91) .nil))))) yQ (.ok (.bool (sE ev (zH D.T k (ln D.T (xq D.on x))))) xg)) (xg[zv.length]?=Ie (.list acc)) (Ask D zv (xg.set zv.length (.list (acc++[.bool (sE ev (zH D.T k (ln D.T (xq D.on x))))])))):=λev acc yQ a h hn=>by obtain⟨xg,c,a2⟩:=LN (b:=b) (d:=d) (k:=k) (ev:=ev) a.r hx ha;obtain h2:=a2.k.get h;exact⟨xg,y0 (yk rfl) (zp (zx (zg rfl l1)) (zp (zx (zg rfl l2)) (zp (zx (zg rfl l3)) (zp (zx yw) zf)))) c,h2,(a.tr a2).put R (IV _) h2 hn⟩
 obtain⟨xg,e1,h1,a1⟩:=one Ib [] _ (.of R (Gr.push _)) z7 rfl;obtain⟨wB,e2,h2,a2⟩:=one Ig [.bool (sE Ib (zH D.T k (ln D.T (xq D.on x))))] _ a1 (get_set h1) rfl;exact⟨_,.take rfl rfl rfl (.inl ⟨rfl,rfl⟩) e1 h1 rfl (.take rfl rfl rfl (.inl ⟨rfl,rfl⟩) e2 h2 rfl (.stop rfl)),a2,get_set h2⟩
theorem L7:(sC T k (ln T i)).length<=10:=by unfold sC;split;exact(by decide:1<=10);exact(by decide:2<=10)
theorem Lr(R:RI J D)(Z:MI Q lim J D.T)(wt:lim+2=D.w)(hx:D.on x=Ib)(ho:yn x=Ie j):∃zy,Call ⟨b,Ig,Ig,d+24⟩ (.fn 972) [.ref D.w,.ref (D.ad x),.ref Q.m,zU j,.str k] J (.ok (.bool Ib) zy)/\Ask D J zy:=by
 obtain⟨⟨_,hj⟩,w8,_⟩:=qY ho;obtain ha:=kA w8;obtain⟨o1,o2⟩:=dC R hx;obtain⟨num,main,hw,_⟩:=R.wo;obtain hle:=LE.own R.s hx ho;obtain wl:∀{zv:St},Kp J zv->lim<=zv.length:=λa=>by obtain this:=xr hw;obtain this:=a.1;lia
 obtain⟨l,zt,c1,g1,h1⟩:=iI (b:=b) (d:=d+21) Z (wl .re) hj;obtain a1:=Ask.of R g1;obtain Z1:=Z.gr g1;obtain⟨r,zb,c2,g2,h2⟩:=Lc (b:=b) (d:=d+21) (k:=k) Z1 h1 (ig Z.w hj) (by
  obtain h:=R.tG o1 o2;obtain this:(ln D.T j).length<=200:=by
   obtain r7:=kU hj;obtain this:∀(n:Nat){i:Nat},rank i=n->(ln D.T i).length<=21*(n+1):=by
    intro n;induction n with
    |zero=>
     intro i hr;obtain hp:par i=none:=by cases q:par i with|none=>rfl|some p=>obtain this:=vA q;lia
     rw[lC hp];exact cJ Z.w i []
    |succ n ih=>intro i hr;cases hp:par i with|none=>obtain this:=kT hp;lia|some p=>obtain this:=ih (i:=p) (by obtain this:=vA hp;lia);obtain this:=cJ Z.w i (ln D.T p);rw[nU hp];lia
   obtain this:=this _ (i:=j) rfl;lia
  lia);have a2:=a1.tr (.of a1.r g2);obtain⟨yK,c3,bU⟩:=iK (b:=b) (d:=d+2) (k:=k) a2.r o1 o2;have a3:=a2.tr bU;obtain cp:=W3 (b:=b) (d:=d+18) (o:=zH D.T k (ln D.T (xq D.on x))) a3.r λy hy=>let⟨q1,q2,q3,_⟩:=a3.r.ent (a3.r.tG o1 o2).2 hy;⟨q1,q2,q3⟩;obtain x0:=u9 (F:=⟨b,Ig,Ig,d+23⟩) (L:=aL D.w (D.ad x) Q.m j k) (xs:=[2,33]) rfl (xU (zp (yj (zx (x:=1) rfl) (xM (x:=105) hw rfl rfl) (zp (zx (x:=36) rfl) zf) (cZ (d:=d+20) R hx ha)) (zp (yU (g:=54) (x:=.loc 7) (y:=.loc 0) rfl (zx rfl) (zx rfl) c1) zf)) rfl) (L':=st 33 (.ref l) (st 2 (.ref (D.ad (xq D.on x))) (aL D.w (D.ad x) Q.m j k))) rfl;obtain x1:=u9 (F:=⟨b,Ig,Ig,d+23⟩) (L:=st 33 (.ref l) (st 2 (.ref (D.ad (xq D.on x))) (aL D.w (D.ad x) Q.m j k))) (xs:=[56,20]) rfl (xU (zp (xk (g:=172) (x:=.loc 7) (y:=.loc 33) (z:=.loc 8) rfl (zx rfl) (zx rfl) (zx rfl) c2) (zp (xk (g:=84) (x:=.loc 1) (y:=.loc 2) (z:=.loc 8) rfl (zx rfl) (zx rfl) (zx rfl) c3) zf)) rfl) (L':=bT D.w (D.ad x) Q.m j k (D.ad (xq D.on x)) l r (vf (zH D.T k (ln D.T (xq D.on x))))) rfl;obtain x2:=yq (F:=⟨b,Ig,Ig,d+23⟩) (L:=bT D.w (D.ad x) Q.m j k (D.ad (xq D.on x)) l r (vf (zH D.T k (ln D.T (xq D.on x))))) (x:=4) (y' (zp (y7 (g:=126) (x:=.loc 20) rfl (zx rfl) cp) zf) rfl);obtain⟨zv,x3,a4,hf⟩:=Jc (b:=b) (d:=d+1) (Q:=Q) (x:=D.ad x) (l:=l) (r:=r) a3.r (.of a3.r (Gr.push _)) rfl o1 o2 hle (IV _) z7;have hr:=(bU.k.tr a4.k).get h2;obtain Vp:=Oh (k:=k) (l:=ln D.T j) Z.w;obtain⟨xg,k4,g4,hs⟩:=Ml (b:=b) (d:=d+22) (L:=oj D.w (D.ad x) Q.m j k (D.ad (xq D.on x)) l r (vf (zH D.T k (ln D.T (xq D.on x)))) yK.length) hr (λo ho y hy=>(Vp o ho y hy).o) L7;have lv:((sC D.T k (ln D.T j)).map t8).all (lvl 3)=Ib:=I2.mpr λv hv=>by obtain⟨o,ho,rfl⟩:=HT.mp hv;cases o with|none=>rfl|some h=>exact N1 (Vp _ ho h rfl)
 obtain e4:=zZ (F:=⟨b,Ig,Ig,d+23⟩) (L:=oj D.w (D.ad x) Q.m j k (D.ad (xq D.on x)) l r (vf (zH D.T k (ln D.T (xq D.on x)))) yK.length) (zx (x:=4) rfl) (sb (t:=.list r) rfl rfl rfl (zx (x:=56) rfl) hr k4) (mO (.inl (g4.get hf)) hs lv lv (lu _)).2;obtain a5:=a4.tr (.of a4.r g4);obtain⟨wB,k5,a6,hh⟩:=Mx (b:=b) (d:=d+1) (k:=k) a5.r hx ha (L:=oj D.w (D.ad x) Q.m j k (D.ad (xq D.on x)) l r (vf (zH D.T k (ln D.T (xq D.on x)))) yK.length) rfl rfl rfl;obtain x5:=Uk (F:=⟨b,Ig,Ig,d+23⟩) (x:=113) (t:=.tup [.bool Ib,.bool Ig]) rfl rfl (xU (zp sO (zp sO zf)) rfl) rfl λzz=>k5;have lO:=(g4.get hr|>λh=>a6.k.get h);obtain aa:=(a3.tr a5).tr a6;obtain fin:∀{L:Loc},lk 56 L=Ie (.ref r)->lk 113 L=Ie (.ref xg.length)->∃wL,E ⟨b,Ig,Ig,d+23⟩ L (.cmp .eq (.loc 113) (.lst (.cons (.cmp .yO (.sub (.loc 56) (.int 0)) .none) (.cons (.and (.cons (.cmp .yO (.sub (.loc 56) (.int 0)) .none) (.cons (.cmp .eq (.sub (.sub (.loc 56) (.int 0)) (.int 2)) (.str [112,117,98,108,105,99])) .nil))) .nil)))) wB (.ok (.bool Ib) wL)/\Gr wB wL:=λ{L}l1 l2=>by rw[<-hle.f k]at hh;obtain e_:=(Gr.push (J:=wB) (.list [.bool (sE Ib (zH D.T k (ln D.T j))),.bool (sE Ig (zH D.T k (ln D.T j)))])).get hh;have ce:=(mO (F:=⟨b,Ig,Ig,d+23⟩) (.inl e_) z7 rfl rfl (lu _)).1;unfold sC at lO;cases hf:zH D.T k (ln D.T j)with|none=>rw[hf]at lO ce;obtain e0:=yH (F:=⟨b,Ig,Ig,d+23⟩) (L:=L) (zx l1) yr (sy (j:=0) lO rfl (by decide));obtain e1:=zZ e0 zQ (uz rfl);exact⟨_,zZ (zx l2) (y' (zp e1 (zp (tN e1) zf)) rfl) ce,Gr.push _⟩|some h=>rw[hf]at lO ce;obtain⟨_,_,hm,_⟩:=q4 hf;obtain ps:=((Z.w.ks _ _ hm).2).ps;obtain e0:=yH (F:=⟨b,Ig,Ig,d+23⟩) (L:=L) (zx l1) yr (sy (j:=0) (v:=xJ h) lO rfl (by decide));obtain e1:=zZ e0 zQ (tP rfl);exact⟨_,zZ (zx l2) (y' (zp e1 (zp (vt e1 (ub (zZ (yH e0 yr (vk (j:=2) rfl (by decide))) zV (u2 ps.1 rfl)))) zf)) rfl) ce,Gr.push _⟩
 obtain⟨wL,e6,g6⟩:=fin (L:=st 113 (.ref xg.length) (oj D.w (D.ad x) Q.m j k (D.ad (xq D.on x)) l r (vf (zH D.T k (ln D.T (xq D.on x)))) yK.length)) rfl rfl;exact⟨wL,zG rfl rfl (zr x0 (zr x1 (zr x2 (zr x3 (zr (zO e4 zj) (zr x5 (zT (zK e6)))))))),aa.tr (.of aa.r g6)⟩
end
noncomputable def tI(x:Nat):List Nat:=if x=20 then[97]else if x=21 then[99]else wF x
noncomputable def vc:List Nat:=[2,4,1,5,6,8,9,20,21]
theorem NN{D:Dt}{x:Nat}(h:x∈vc\/x=7/\D.on 7=Ib):zE (tI x) (ur D)=Ie (.ref (D.ad x)):=by
 unfold ur;rcases h with h|⟨rfl,h⟩;.unfold vc at h;rcases IU.mp h with rfl|h;rfl;rcases IU.mp h with rfl|h;rfl;rcases IU.mp h with rfl|h;rfl;rcases IU.mp h with rfl|h;rfl;rcases IU.mp h with rfl|h;rfl;rcases IU.mp h with rfl|h;rfl;rcases IU.mp h with rfl|h;rfl;rcases IU.mp h with rfl|h;rfl;rw[I_.mp h];rfl
 .rw[h];rfl
theorem n_{D:Dt}(s:v3 D){x:Nat}(h:x∈vc\/x=7/\D.on 7=Ib):D.on x=Ib:=by
 rcases h with h|⟨rfl,h⟩
 .by_cases q:x<10;.exact s.om x q λe=>by subst e;revert h;decide
  .obtain this:∀x∈vc,¬x<10->x=20\/x=21:=by decide
   rcases this x h q with rfl|rfl;.exact s.tm.1
   .exact s.tm.2
 .exact h
theorem Nu{x j:Nat}(h:yn x=Ie j):((yx j).drop 1).dropLast=tI x:=by
 obtain hi:x<22:=HO λq=>by rw[yn,rG q]at h;cases h
 obtain this:∀x<22,(match yn x with|Ie j=>zR ((yx j).drop 1).dropLast (tI x)|none=>Ib)=Ib:=by decide+kernel
 obtain this:=this x hi;rw[h]at this;exact xd.mp this
noncomputable def sL(l:List (List Nat)):List V:=l.map V.str
theorem Vk:∀l:List (List Nat),strsOf (sL l)=Ie l|[]=>rfl|a::l=>by show(strsOf (sL l)).map (a::.)=_;rw[Vk l];rfl
noncomputable def qR(p:List Nat×yy):Bool:=p.2.b.isSome&&!zR [112,114,105,118,97,116,101] p.2.s
noncomputable def vB(ms:List (List Nat×yy)):List (List Nat):=(ms.filter qR).map (·.1)
theorem ef:∀{ms:List (List Nat×yy)}{k:List Nat}{h:yy},(ms.map (·.1)).Nodup→(k,h)∈ms→yW k ms=Ie h
|(a,w)::r,k,h,nd,hm=>by
 obtain⟨n1,n2⟩:=Hk.mp nd;show(match zR k a with|Ib=>Ie w|Ig=>yW k r)=Ie h;rcases IU.mp hm with e|hm;·cases e;rw[xd.mpr rfl]
 ·have:zR k a=Ig:=by cases q:zR k a with|false=>rfl|true=>exact absurd (HT.mpr ⟨(k,h),hm,xd.mp q⟩) n1
  rw[this];exact ef n2 hm
section
variable{b:Bc}{d lim:Nat}{q:Bool}{J yt zt zy zv:St}{T T':Tb}{Q:Mt}{i g n x j:Nat}{k:List Nat}{L:Loc}{D:Dt}
theorem s_{e:M}(R:RI J D)(h:x∈vc\/x=7/\D.on 7=Ib)(l1:lk 9 L=Ie (.ref D.kn))(he:E ⟨b,Ig,q,d⟩ L e J (.ok (.str (tI x)) J)):E ⟨b,Ig,q,d⟩ L (.sub (.loc 9) e) J (.ok (.ref (D.ad x)) J):=yH (zx l1) he (nF (.inl R.kn) (NN h))
theorem fh{y:Nat}(hx:yn x=Ie j)(l1:lk y L=Ie (zU j)):E ⟨b,Ig,q,d⟩ L (.wQ (.loc y)) J (.ok (.str (tI x)) J):=by
 rw[<-Nu hx];refine Yr (zx l1) λzz zz=>V_ ?_;obtain this:∀j<18,short (yx j)=Ib:=by decide+kernel
 exact this j (qY hx).1.2
theorem Lh(R:RI J D)(Z:MI Q lim J D.T)(wt:lim+2=D.w)(hk:x∈vc\/x=7/\D.on 7=Ib)(ho:yn x=Ie j):∃zy,Call ⟨b,Ig,Ig,d+22⟩ (.fn 984) [.ref D.w,.ref D.kn,.ref Q.m,zU j] J (.ok (.bool Ib) zy)/\Ask D J zy:=by
 have hx:=n_ R.s hk;obtain⟨⟨_,hj⟩,w8,_⟩:=qY ho;obtain ha:=kA w8;obtain⟨num,main,hw,_⟩:=R.wo;obtain hle:=LE.own R.s hx ho;have a0:=Ask.of R (Gr.push (.list (za [5,6,8,9,4,2,1])));obtain⟨L',zy,z⟩:=FL.go (F:=⟨b,Ig,Ig,d+21⟩) (xs:=[5]) (t:=.list J.length) (b:=(.cons (.cond (.cmp .ne (.call (.zu 130) (.cons (.loc 1) (.cons (.sub (.loc 9) (.wQ (.loc 0))) (.cons (.sub (.loc 9) (.loc 5)) .nil)))) (.cmp .yM (.loc 5) (.call (.zu 54) (.cons (.loc 7) (.cons (.loc 0) .nil))))) (.cons (.ret (.bool Ig)) .nil) .nil) .nil)) (l:=za [5,6,8,9,4,2,1]) (zs:=[5,6,8,9,4,2,1]) (g:=λzz x=>zU x) rfl (λp z h=>by unfold za;rewrite[IM];rw[h];rfl) (P:=λp ys L zv=>C5 (Ask D (J++[.list (za [5,6,8,9,4,2,1])]) zv) (lk 1 L=Ie (.ref D.w)) (lk 9 L=Ie (.ref D.kn)) (lk 7 L=Ie (.ref Q.m)) (lk 0 L=Ie (zU j))) (Q:=λzz zz=>False) (λp ys L zv h=>h.1.k.get z7) (by
  rintro p y ys L zv hp hd⟨a,l1,l2,l3,l4⟩;have hy:y∈[5,6,8,9,4,2,1]:=I9 hp;have Xj:y∈vc:=by
   have:∀y∈[5,6,8,9,4,2,1],y∈vc:=by decide
   exact this y hy
  obtain Xk:yx y=tI y/\y<18:=by
   obtain h1:∀y∈[5,6,8,9,4,2,1],y<18:=by decide
   obtain h2:∀y∈[5,6,8,9,4,2,1],zR (yx y) (tI y)=Ib:=by decide+kernel
   exact⟨xd.mp (h2 y hy),h1 y hy⟩
  have Xi:=n_ R.s (.inl Xj);obtain⟨yQ,c1,a1⟩:=Lj (b:=b) (d:=d) a.r hx ha Xi;obtain aa:=a.tr a1;obtain⟨l,xg,c2,g2,hl⟩:=iI (b:=b) (d:=d+19) (Z.ask (a0.k.tr aa.k)) (by obtain this:=xr hw;obtain this:=(a0.k.tr aa.k).1;lia) hj;obtain e2:=zZ (F:=⟨b,Ig,Ig,d+21⟩) (L:=st 5 (zU y) L) (zx (x:=5) yw) (yU (g:=54) (x:=.loc 7) (y:=.loc 0) rfl (zx (zg rfl l3)) (zx (zg rfl l4)) c2) (mL (k:=yx y) hl (kQ _)).1;rw[mU Xk.2 (ig Z.w hj),hle.c y Xi]at e2;obtain e1:=xk (F:=⟨b,Ig,Ig,d+21⟩) (L:=st 5 (zU y) L) (g:=130) (x:=.loc 1) rfl (zx (zg rfl l1)) (s_ (q:=Ig) a.r hk (zg rfl l2) (fh (y:=0) ho (zg rfl l4))) (s_ (q:=Ig) (e:=.loc 5) a.r (.inl Xj) (zg rfl l2) (by rw[<-Xk.1];exact zx yw)) c1;exact⟨_,_,xg,rfl,.inl ⟨zr (zO (zZ e1 e2 (gT rfl rfl (Yk _))) zj) zj,aa.tr (.of aa.r g2),zg rfl l1,zg rfl l2,zg rfl l3,zg rfl l4⟩⟩) 7 0 _ [(1,.ref D.w),(9,.ref D.kn),(7,.ref Q.m),(0,zU j)] (J++[.list (za [5,6,8,9,4,2,1])]) rfl rfl ⟨⟨a0.r,.re⟩,rfl,rfl,rfl,rfl⟩;rcases z with⟨c,a,_⟩|⟨_,_,f⟩;.exact⟨zy,zG rfl rfl (zr (xY (t:=.list J.length) rfl (y' (zp zV (zp zV (zp zV (zp zV (zp zV (zp zV (zp zV zf))))))) rfl) z7 rfl c) (zT (zK sO))),a0.tr a⟩
 .exact f.elim
theorem Ld{n:Nat}{ms:List (List Nat×yy)}(h:J[n]?=Ie (.dict (yB xJ ms)))(nd:(ms.map (·.1)).Nodup)(hl:ms.length≤10)(hs:∀p∈ms,wK p.2):X2 fun r zy=>C3 (Call ⟨b,Ig,Ig,d+1⟩ (.fn 977) [.ref n] J (.ok (.ref r) zy)) (Gr J zy) (zy[r]?=Ie (.list (sL (vB ms)))):=by
 obtain⟨acc,zy,k,k1,⟨k2,k3⟩,k4⟩:=CL.go (F:=⟨b,Ig,Ig,d⟩) (L:=[(19,.ref n)]) (xs:=[8]) (t:=.dict n) (elt:=(.loc 8)) (y_:=(.cons (.and (.cons (.cmp .yO (.sub (.sub (.loc 19) (.loc 8)) (.int 0)) .none) (.cons (.cmp .ne (.sub (.sub (.loc 19) (.loc 8)) (.int 2)) (.str [112,114,105,118,97,116,101])) .nil))) .nil)) (n0:=J.length) (l:=(yB xJ ms).map fun p=>V.str p.1) (zs:=ms) (g:=fun zz z=>.str z.1) (by rewrite[IY];rewrite[yB];rw[IY]) (fun p z h=>by rewrite[yB];rewrite[Gh];rewrite[IM];rw[h];rfl) (P:=fun p ys acc zv=>C3 (Gr J zv) (acc.length≤p∧acc++sL (vB ys)=sL (vB ms)) (zv[J.length]?=Ie (.list acc))) (fun p ys acc zv h'=>⟨_,h'.1.get h,rfl⟩) (by
  rintro p⟨k,hit⟩ys acc zv hp hd⟨g,⟨hu,hv⟩,hc⟩;obtain hm:=I9 hp;obtain yJ:=(IF.mp hp).1;have e0:E ⟨b,Ig,Ib,d⟩ (st 8 (.str k) [(19,.ref n)]) (.sub (.loc 19) (.loc 8)) zv (.ok (xJ hit) zv):=yH (zx rfl) (zx rfl) (nF (.inl (g.get h)) (by rewrite[qt];rw[ef nd hm];rfl));obtain e1:=zZ (yH e0 yr (vk (j:=0) (v:=match hit.b with|Ie t=>.str t|none=>.none) rfl (by decide))) zQ (rd (t:=hit.b.isNone) (by cases hit.b<;>rfl));obtain ec:=oU e1 fun zz=>zZ (yH e0 yr (vk (j:=2) rfl (by decide))) (zV (t:=[112,114,105,118,97,116,101])) (qE (hs _ hm).ps.1 rfl);obtain e2:(!hit.b.isNone&&!zR [112,114,105,118,97,116,101] hit.s)=qR (k,hit):=by unfold qR;cases hit.b<;>rfl
  rw[e2]at ec;obtain hn:vB ((k,hit)::ys)=if qR (k,hit)then k::vB ys else vB ys:=by unfold vB;rw[Hl];split<;>rfl
  rw[hn]at hv;cases hq:qR (k,hit)with|false=>rw[hq]at ec hv;exact⟨_,zv,rfl,.inl ⟨_,rfl,ec,g,⟨Gs hu,hv⟩,hc⟩⟩|true=>rw[hq]at ec hv;exact⟨_,zv,rfl,.inr ⟨zv,_,.inr ⟨_,rfl,ec⟩,zx rfl,hc,xG (by lia),g.set (IV _),⟨by rw[IZ];exact Hs hu,by rw[I3];exact hv⟩,get_set hc⟩⟩) ms.length 0 ms [] (J++[.list []]) rfl rfl ⟨Gr.push _,⟨IV _,rfl⟩,z7⟩;obtain k3:acc++[]=_:=k3;rw[Hf]at k3;subst k3;exact⟨_,zy,zG rfl rfl (zT (zK (sb (t:=.dict n) rfl rfl rfl (zx rfl) ⟨_,h,rfl⟩ (by rewrite[IY];rewrite[yB];rw[IY];exact k)))),k1,k4⟩
end
theorem Vl{l m:List (List Nat)}:sL (l++m)=sL l++sL m:=HH
theorem Vj{l:List (List Nat)}(h:l.length<=1000):short (sL l)=Ib:=xG (by unfold sL;rw[IY];exact h)
noncomputable def i4(h:yy):List Nat:=if h.b.isSome then[114,101,97,100,101,114]else[110,111,110,101]
theorem cK(D:Dt)(h:yy):C3 (lk 35 (D.w_ h)=Ie (.str (i4 h))) (plainS (i4 h)=Ib) ((!zR [110,111,110,101] (i4 h))=h.b.isSome):=by unfold Dt.w_ i4;cases h.b<;>exact⟨rfl,rfl,rfl⟩
noncomputable def uE(ms:List (List Nat×yy)):List (List Nat):=ms.map (·.1)
section
variable{b:Bc}{d lim:Nat}{q:Bool}{J yt zt zy zv:St}{T T':Tb}{Q:Mt}{i g n x j:Nat}{k:List Nat}{L:Loc}{D:Dt}
theorem LU(R:RI J D)(hi:D.on i=Ib)(hm:i<18)(te:yC i=.none):X2 λr zy=>C4 (Call ⟨b,Ig,Ig,d+1⟩ (.fn 577) [.ref D.w,.ref (D.ad i)] J (.ok (.ref r) zy)) (Gr J zy) (zy[r]?=Ie (.list (sL (uE (D.T i).ms)))) (J.length<=r):=by obtain⟨kp,a1,a3,h1,_⟩:=R.oo i hi hm;have hd:=R.mm i hi hm;obtain hl:=R.s.wf.xt i;obtain⟨acc,zy,k,k1,⟨k2,k3⟩,k4⟩:=CL.go (F:=⟨b,Ig,Ig,d⟩) (L:=[(1,.ref D.w),(2,.ref (D.ad i))]) (xs:=[0,20]) (t:=.items (D.da i)) (elt:=(.loc 0)) (y_:=(.cons (.not (.call (.zu 23) (.cons (.loc 20) (.cons (.zu 108) .nil)))) .nil)) (n0:=J.length) (l:=(yB ti (D.T i).ms).map λp=>V.tup [.str p.1,p.2]) (zs:=(D.T i).ms) (g:=λzz z=>.tup [.str z.1,ti z.2]) (by rewrite[IY];rewrite[yB];rw[IY]) (λp z h=>by rewrite[yB];rewrite[Gh];rewrite[IM];rw[h];rfl) (P:=λp ys acc zv=>C3 (Gr J zv) (acc.length<=p/\acc++sL (uE ys)=sL (uE (D.T i).ms)) (zv[J.length]?=Ie (.list acc))) (λp ys acc zv h'=>⟨_,h'.1.get hd,rfl⟩) (by rintro p⟨k,hit⟩ys acc zv hp Y9⟨g,⟨hu,hv⟩,hc⟩;obtain lS:=I9 hp;obtain yJ:=(IF.mp hp).1;obtain he:=g.get (R.ee i hi hm _ lS).1;obtain ec:E ⟨b,Ig,Ib,d⟩ (st 20 (ti hit) (st 0 (.str k) [(1,.ref D.w),(2,.ref (D.ad i))])) (.not (.call (.zu 23) (.cons (.loc 20) (.cons (.zu 108) .nil)))) zv (.ok (.bool (!Ig)) zv):=vH (yU (g:=23) rfl (zx rfl) (yk (x:=108) rfl) (ta he ⟨_,rfl⟩ rfl rfl));exact⟨_,zv,rfl,.inr ⟨zv,_,.inr ⟨_,rfl,ec⟩,zx rfl,hc,xG (by lia),g.set (IV _),⟨by rw[IZ];exact Hs hu,by rw[I3];exact hv⟩,get_set hc⟩⟩) (D.T i).ms.length 0 _ [] (J++[.list []]) rfl rfl ⟨Gr.push _,⟨IV _,rfl⟩,z7⟩;have k3:acc++[]=_:=k3;rw[Hf]at k3;subst k3;refine⟨_,zy,zG rfl rfl (zr (Uk (t:=.items (D.da i)) rfl rfl (zM (zx rfl) h1 rfl rfl) ⟨_,hd,rfl⟩ λzz=>by rewrite[IY];rewrite[yB];rw[IY];exact k) (zr (zO (zZ (zM (zx rfl) (k1.get h1) rfl (show _=Ie (yC i)from rfl)) zQ (uz (by rw[te];rfl))) zj) (zT (zK (zx rfl))))),k1,k4,IV _⟩
noncomputable def NP(w i f en:Nat)(L:Loc):Prop:=C4 (lk 1 L=Ie (.ref w)) (lk 5 L=Ie (.ref i)) (lk 4 L=Ie (.ref f)) (lk 79 L=Ie (.ref en))
theorem NP.st{w f en y:Nat}{v:V}(h:NP w i f en L)(h1:IP 1 y=Ig)(h2:IP 5 y=Ig)(h3:IP 4 y=Ig)(h4:IP 79 y=Ig):NP w i f en (st y v L):=⟨zg h1 h.1,zg h2 h.2,zg h3 h.3,zg h4 h.4⟩
theorem Ma{f en l:Nat}(R:RI J D)(hi:D.on i=Ib)(hm:i<18)(hf:J.length≤f)(he:J.length≤en)(Wg:f≠en)(MU:f≠l)(MX:en≠l)(Pb:Gr J zv)(h1:zv[f]?=Ie (.list []))(h2:zv[en]?=Ie (.list []))(h3:zv[l]?=Ie (.list (sL (uE (D.T i).ms))))(hN:NP D.w (D.ad i) f en L):X2 fun L' zk=>C5 (FL ⟨b,Ig,Ig,d+2⟩ [0] (.list l) (sL (uE (D.T i).ms)) (.cons (.asg 20 (.call (.zu 67) (.cons (.loc 1) (.cons (.loc 5) (.cons (.loc 0) .nil))))) (.cons (.cond (.and (.cons (.cmp .yO (.loc 20) .none) (.cons (.cmp .y5 (.loc 0) (.loc 79)) .nil))) (.cons (.expr (.zl (.loc 79) 30 (.cons (.loc 0) .nil))) (.cons (.cond (.and (.cons (.cmp .ne (.attr (.loc 20) 35) (.str [110,111,110,101])) (.cons (.cmp .ne (.attr (.loc 20) 14) (.str [112,114,105,118,97,116,101])) .nil))) (.cons (.expr (.zl (.loc 4) 30 (.cons (.loc 0) .nil))) .nil) .nil) .nil)) .nil) .nil)) (sL (uE (D.T i).ms)).length L zv (.ok .next L' zk)) (Gr J zk) (zk[f]?=Ie (.list (sL (vB (D.T i).ms)))) (NP D.w (D.ad i) f en L') (∀r o,zv[r]?=Ie o→r≠f→r≠en→zk[r]?=Ie o):=by
 obtain wl:=R.s.wf.xt i;obtain⟨L',zk,k,k1,⟨dn,fs,b1,b2,b3,b4,b5⟩,k3,k4,k5⟩:=FL.all (F:=⟨b,Ig,Ig,d+2⟩) (xs:=[0]) (t:=.list l) (b:=(.cons (.asg 20 (.call (.zu 67) (.cons (.loc 1) (.cons (.loc 5) (.cons (.loc 0) .nil))))) (.cons (.cond (.and (.cons (.cmp .yO (.loc 20) .none) (.cons (.cmp .y5 (.loc 0) (.loc 79)) .nil))) (.cons (.expr (.zl (.loc 79) 30 (.cons (.loc 0) .nil))) (.cons (.cond (.and (.cons (.cmp .ne (.attr (.loc 20) 35) (.str [110,111,110,101])) (.cons (.cmp .ne (.attr (.loc 20) 14) (.str [112,114,105,118,97,116,101])) .nil))) (.cons (.expr (.zl (.loc 4) 30 (.cons (.loc 0) .nil))) .nil) .nil) .nil)) .nil) .nil))) (l:=sL (uE (D.T i).ms)) (zs:=(D.T i).ms) (g:=fun zz z=>.str z.1) (by unfold sL uE;rewrite[IY];rw[IY]) (fun p z h=>by unfold sL uE;rewrite[Gh];rewrite[IM];rw[h];rfl) (P:=fun p ys L zk=>C5 (Gr J zk) (X2 fun dn fs=>C5 (zk[en]?=Ie (.list (sL dn))) (zk[f]?=Ie (.list (sL fs))) (dn.length≤p∧fs.length≤p) (dn++uE ys=uE (D.T i).ms) (fs++vB ys=vB (D.T i).ms)) (zk[l]?=Ie (.list (sL (uE (D.T i).ms)))) (NP D.w (D.ad i) f en L) (∀r o,zv[r]?=Ie o→r≠f→r≠en→zk[r]?=Ie o)) (fun p ys L zk h=>h.3) (by
  rintro p⟨k,hit⟩ys L zk hp hd⟨g,⟨dn,fs,b1,b2,b3,b4,b5⟩,k3,k4,k5⟩;obtain lS:=I9 hp;obtain yJ:=(IF.mp hp).1;obtain hh:=ef (R.s.wf.nd i) lS;obtain⟨yQ,c,g1⟩:=iM (b:=b) (d:=d) (k:=k) (R.gr g) hi hm;rw[hh]at c;have jK:yQ[hit.e]?=Ie (.inst 256 (D.w_ hit)):=g1.get (g.get (R.ee i hi hm _ lS).1);obtain b1:=g1.get b1;obtain b2:=g1.get b2;obtain k3:=g1.get k3;obtain np:=(k4.st (y:=0) (v:=.str k) rfl rfl rfl rfl).st (y:=20) (v:=.ref hit.e) rfl rfl rfl rfl;obtain x0:=yq (F:=⟨b,Ig,Ig,d+2⟩) (L:=st 0 (.str k) L) (x:=20) (xk (g:=67) (x:=.loc 1) (y:=.loc 5) (z:=.loc 0) rfl (zx (zg rfl k4.1)) (zx (zg rfl k4.2)) (zx yw) c);have eR:dn.any (zR k)=Ig:=by cases q:dn.any (zR k)with|false=>rfl|true=>obtain⟨a,ha,e⟩:=E3.mp q;have nd:=R.s.wf.nd i;rw[show(D.T i).ms.map (·.1)=uE (D.T i).ms from rfl,←b4]at nd;exact absurd (HT.mpr ⟨(k,hit),.head _,rfl⟩) (fun h=>(List.nodup_append.mp nd).2.2 a ha k h (xd.mp e).symm)
  obtain e1:=zZ (F:=⟨b,Ig,Ig,d+2⟩) (zx (yw (x:=20) (v:=.ref hit.e) (L:=st 0 (.str k) L))) (zQ (J:=yQ)) (tP rfl);obtain e2:=zZ (F:=⟨b,Ig,Ig,d+2⟩) (L:=st 20 (.ref hit.e) (st 0 (.str k) L)) (zx (x:=0) (zg rfl yw)) (zx np.4) (mL (k:=k) b1 (Vk dn)).2;rw[eR]at e2;obtain ap:=pQ (F:=⟨b,Ig,Ig,d+2⟩) (v:=.str k) rfl b1 (Vj (by lia)) (Vl (m:=[k])).symm;obtain bD:(yQ.set en (.list (sL (dn++[k]))))[en]?=_:=get_set b1;obtain k9:(yQ.set en (.list (sL (dn++[k]))))[f]?=_:=zJ b2 (H0 Wg);have Y5:(yQ.set en (.list (sL (dn++[k]))))[hit.e]?=_:=zJ jK fun e=>by rw[e,jK]at b1;cases b1
  obtain XW:(yQ.set en (.list (sL (dn++[k]))))[l]?=_:=zJ k3 MX;obtain gg:Gr J (yQ.set en (.list (sL (dn++[k])))):=(g.tr g1).set he;have kk:∀r o,zv[r]?=Ie o→r≠f→r≠en→(yQ.set en (.list (sL (dn++[k]))))[r]?=Ie o:=fun r o h n1 n2=>zJ (g1.get (k5 r o h n1 n2)) (H0 n2);generalize yQ.set en (.list (sL (dn++[k])))=xg at*;obtain ws:wK hit:=(R.s.wf.ks i _ lS).2;obtain es:=zZ (F:=⟨b,Ig,Ig,d+2⟩) (zM (zx (yw (x:=20) (v:=.ref hit.e) (L:=st 0 (.str k) L))) Y5 (x:=35) rfl (cK D hit).1) (zV (t:=[110,111,110,101])) (qE (cK D hit).2 rfl);obtain ec:=oU es fun zz=>zZ (zM (zx yw) Y5 (x:=14) rfl rfl) (zV (t:=[112,114,105,118,97,116,101])) (qE ws.ps.1 rfl);obtain e3:(hit.b.isSome&&!zR [112,114,105,118,97,116,101] hit.s)=qR (k,hit):=rfl;rw[(cK D hit).3,e3]at ec;obtain hn:vB ((k,hit)::ys)=if qR (k,hit)then k::vB ys else vB ys:=by unfold vB;rw[Hl];split<;>rfl
  rw[hn]at b5;cases hq:qR (k,hit)with|false=>rw[hq]at ec b5;exact⟨_,_,xg,rfl,zr x0 (zr (ya (vt e1 (ub e2)) (zr (yF (yj (zx np.4) (ua b1) (zp (zx (zg rfl yw)) zf) ap)) (zr (zO ec zj) zj))) zj),gg,⟨dn++[k],fs,bD,k9,⟨by rw[IZ];exact Hs b3.1,Gs b3.2⟩,by rw[I3];exact b4,b5⟩,XW,np,kk⟩|true=>rw[hq]at ec b5;obtain U7:=pQ (F:=⟨b,Ig,Ig,d+2⟩) (v:=.str k) rfl k9 (Vj (by lia)) (Vl (m:=[k])).symm;exact⟨_,_,xg.set f (.list (sL (fs++[k]))),rfl,zr x0 (zr (ya (vt e1 (ub e2)) (zr (yF (yj (zx np.4) (ua b1) (zp (zx (zg rfl yw)) zf) ap)) (zr (ya ec (zr (yF (yj (zx np.3) (ua k9) (zp (zx (zg rfl yw)) zf) U7)) zj)) zj))) zj),gg.set hf,⟨dn++[k],fs++[k],zJ bD Wg,get_set k9,⟨by rw[IZ];exact Hs b3.1,by rw[IZ];exact Hs b3.2⟩,by rw[I3];exact b4,by rw[I3];exact b5⟩,zJ XW MU,np,fun r o h n1 n2=>zJ (kk r o h n1 n2) (H0 n1)⟩) (L:=L) (J:=zv) ⟨Pb,⟨[],[],h2,h1,⟨IV _,IV _⟩,rfl,rfl⟩,h3,hN,fun r o h zz zz=>h⟩;have bC:fs++[]=_:=b5;rw[Hf]at bC;subst bC;exact⟨L',zk,k,k1,b2,k4,k5⟩
theorem LX(R:RI J D)(hi:D.on i=Ib)(hm:i<18)(te:yC i=.none):X2 λr zy=>C3 (Call ⟨b,Ig,Ig,d+3⟩ (.fn 584) [.ref D.w,.ref (D.ad i),.bool Ig] J (.ok (.ref r) zy)) (Gr J zy) (zy[r]?=Ie (.list (sL (vB (D.T i).ms)))):=by
 obtain g3:Gr J (((J++[O.list []])++[O.list []])++[O.list [.ref (D.ad i)]]):=((Gr.push _).tr (Gr.push _)).tr (Gr.push _);obtain f1:(((J++[O.list []])++[O.list []])++[O.list [.ref (D.ad i)]])[J.length]?=Ie (.list []):=(Gr.push _).get ((Gr.push _).get z7);obtain f2:(((J++[O.list []])++[O.list []])++[O.list [.ref (D.ad i)]])[(J++[O.list []]).length]?=Ie (.list []):=(Gr.push _).get z7;obtain f3:(((J++[O.list []])++[O.list []])++[O.list [.ref (D.ad i)]])[((J++[O.list []])++[O.list []]).length]?=Ie (.list [.ref (D.ad i)]):=z7;obtain⟨l,zv,c,g,hl,hle⟩:=LU (b:=b) (d:=d+1) (R.gr g3) hi hm te;obtain len:(((J++[O.list []])++[O.list []])++[O.list [.ref (D.ad i)]]).length=J.length+3:=by simp only[IZ,Ht]
 have yA:(J++[O.list []]).length=J.length+1:=by simp only[IZ,Ht]
 obtain xt:((J++[O.list []])++[O.list []]).length=J.length+2:=by simp only[IZ,Ht]
 obtain⟨L',zk,k,g',hr,np,kk⟩:=Ma (b:=b) (d:=d) (f:=J.length) (en:=(J++[O.list []]).length) (l:=l) (L:=st 5 (.ref (D.ad i)) [(1,.ref D.w),(2,.ref (D.ad i)),(86,.bool Ig),(4,.ref J.length),(79,.ref (J++[O.list []]).length)]) R hi hm (IV _) (by lia) (by lia) (by lia) (by lia) (g3.tr g) (g.get f1) (g.get f2) hl ⟨rfl,rfl,rfl,rfl⟩;obtain h3:=kk _ _ (g.get f3) (by lia) (by lia);exact⟨_,zk,zG rfl rfl (zr (u9 rfl (xU (zp (y' zf rfl) (zp (y' zf rfl) zf)) rfl) rfl) (zr (xY (t:=.list ((J++[O.list []])++[O.list []]).length) rfl (we (zx rfl) (y' (zp (zx rfl) zf) rfl)) f3 rfl (.turn f3 rfl rfl (zr (xY (t:=.list l) rfl (yU rfl (zx rfl) (zx rfl) c) hl rfl k) zj) (.stop h3))) (zT (zK (zx np.3))))),g',hr⟩
end
noncomputable def Out(D:Dt)(T':Tb)(J zy:St):Prop:=∃D',C6 (RI zy D') (D'.w=D.w) (D'.kn=D.kn) (D'.T=T') (D'.on 7=D.on 7) (Lo D J zy)
noncomputable def uP(b:Bc)(d a:Nat)(args:List V)(J:St)(D:Dt)(res:List Nat×Tb):Prop:=∃zy,Out D res.2 J zy/\((res.1=[]/\Call ⟨b,Ig,Ig,d⟩ (.fn a) args J (.ok .none zy))\/∃n,Call ⟨b,Ig,Ig,d⟩ (.fn a) args J (.exc (.ref n) zy)/\gm zy n res.1)
section
variable{b:Bc}{d lim:Nat}{q:Bool}{J yt zt zy zv:St}{T T':Tb}{Q:Mt}{i g n x j way num:Nat}{k k' s:List Nat}{L:Loc}{D:Dt}
theorem Good.out(h:Good D T' J zy):Out D T' J zy:=⟨D.up T',h.r,rfl,rfl,rfl,rfl,h.lo⟩
theorem Ask.out(h:Ask D J zy):Out D D.T J zy:=⟨D,h.r,rfl,rfl,rfl,rfl,h.k.lo⟩
theorem v7.out(h:v7 D s J n zy):Out D D.T J zy:=⟨D,h.r,rfl,rfl,rfl,rfl,h.lo⟩
theorem Out.pre{r5:Dt}(e:Ex D r5)(l:Lo D J zt)(o:Out r5 T' zt zy):Out D T' J zy:=let⟨D',r,h1,h2,h3,h4,h5⟩:=o;⟨D',r,h1.trans e.w,h2.trans e.kn,h3,h4.trans e.o7,l.tr h5 e.w⟩
theorem gU{c:Bool}(R:RI J D)(hi:D.on i=Ib)(ht:i∈targets)(hg:g=8\/g=9\/g=5):uP b (d+13) (if c then 558 else 551) [.ref D.w,.ref (D.ad i),.ref (D.ad g)] J D (wh D.T i g,uC D.T i g c):=by
 obtain go:∀{x a:Nat}{fd:FD},(∀{a1 a3:Nat}{kp:V},lk x (D.wV i a1 a3 kp)=Ie (.ref (D.la c i)))->xc 228 x=Ib->prog.fn a=Ie fd->fd.body=dQ x->ug fd.params fd.dflt [.ref D.w,.ref (D.ad i),.ref (D.ad g)]=Ie [(1,.ref D.w),(2,.ref (D.ad i)),(27,.ref (D.ad g))]->uP b (d+13) a [.ref D.w,.ref (D.ad i),.ref (D.ad g)] J D (wh D.T i g,uC D.T i g c):=λ{x a fd}hx hk hf hb hp=>by
  obtain⟨n1,n2⟩:=Jb (b:=b) (d:=d) (J:=J) hx hk R hi ht hg;cases hm:wh D.T i g with
  |cons u v=>
   obtain⟨n,zy,xb,f⟩:=n1 (by rw[hm];exact nofun);obtain e:uC D.T i g c=D.T:=by unfold uC;rw[hm]
   rw[hm]at f;exact⟨zy,by rw[e];exact f.out,.inr ⟨n,tn hf hp (by rw[hb];exact xb),f.e⟩⟩
  |nil=>obtain⟨zy,xb,f⟩:=n2 hm;refine⟨zy,?_,.inl ⟨rfl,vF hf hp (by rw[hb];exact xb)⟩⟩;show Out D (uC D.T i g c) J zy;unfold uC;rw[hm];cases hq:((D.T i).li c).contains g with|true=>rw[hq]at f;exact Ask.out f|false=>rw[hq]at f;exact Good.out f
 cases c with|true=>exact go (x:=94) rfl rfl rfl rfl rfl|false=>exact go (x:=80) rfl rfl rfl rfl rfl
theorem SE(R:RI J D)(hi:D.on i=Ib)(hm:i<18)(hk:k∈yD)(te:yC i=.none)(e:Nat):uP b (d+13) 516 [.ref D.w,.ref (D.ad i),.str k] J D (vI D.T 6 i g k k' s num e):=by obtain h:=LO (b:=b) (d:=d) R hi hm (oJ R.s hi hm) hk te;show uP b _ _ _ _ _ (match(yW k (D.T i).ms).bind live with|Ie _=>([],w4 D.T i (rZ k (D.T i).ms))|none=>([78,97,109,101,69,114,114,111,114],D.T));cases hq:(yW k (D.T i).ms).bind live with|some x=>rw[hq]at h;obtain⟨zy,c,f⟩:=h;exact⟨zy,f.out,.inl ⟨rfl,c⟩⟩|none=>rw[hq]at h;obtain⟨n,zy,c,f⟩:=h;exact⟨zy,f.out,.inr ⟨n,c,f.e⟩⟩
theorem SA(R:RI J D)(hi:D.on i=Ib)(hm:i<18)(hk:k∈yD):∃e,uP b (d+23) 509 [.ref D.w,.ref (D.ad i),.str k] J D (vI D.T 7 i g k k' s num e):=by obtain h:=LG (b:=b) (d:=d) R hi hm (oJ R.s hi hm) hk;show∃e,uP b _ _ _ _ _ (match vQ D.T i k with|none=>([78,97,109,101,69,114,114,111,114],D.T)|Ie h=>([],o_ D.T 7 i k k' s e h));cases hq:vQ D.T i k with|some x=>rw[hq]at h;obtain⟨e,zy,c,f⟩:=h;exact⟨e,zy,f.out,.inl ⟨rfl,c⟩⟩|none=>rw[hq]at h;obtain⟨n,zy,c,f⟩:=h;exact⟨0,zy,f.out,.inr ⟨n,c,f.e⟩⟩
theorem SS(R:RI J D)(hi:D.on i=Ib)(hm:i<18)(hk:k∈yD)(wZ:k'∈yD):∃e,uP b (d+23) 530 [.ref D.w,.ref (D.ad i),.str k',.str k] J D (vI D.T 8 i g k k' s num e):=by obtain h:=Ls (b:=b) (d:=d) R hi hm (oJ R.s hi hm) hk wZ;show∃e,uP b _ _ _ _ _ (match vQ D.T i k with|none=>([78,97,109,101,69,114,114,111,114],D.T)|Ie h=>([],o_ D.T 8 i k k' s e h));cases hq:vQ D.T i k with|some x=>rw[hq]at h;obtain⟨e,zy,c,f⟩:=h;exact⟨e,zy,f.out,.inl ⟨rfl,c⟩⟩|none=>rw[hq]at h;obtain⟨n,zy,c,f⟩:=h;exact⟨0,zy,f.out,.inr ⟨n,c,f.e⟩⟩
theorem SD{l:Nat}(R:RI J D)(hi:D.on i=Ib)(hm:i<18)(hk:k∈yD)(hs:s∈vZ)(hl:J[l]?=Ie (.list [.str k])):∃e,uP b (d+23) 537 [.ref D.w,.ref (D.ad i),.ref l,.str s] J D (vI D.T 9 i g k k' s num e):=by
 obtain h:=LK (b:=b) (d:=d) R hi hm (oJ R.s hi hm) hk hs hl;show∃e,uP b _ _ _ _ _ (match vQ D.T i k with|none=>([78,97,109,101,69,114,114,111,114],D.T)|Ie h=>([],o_ D.T 9 i k k' s e h));cases hq:vQ D.T i k with
 |some x=>rw[hq]at h;show∃e,uP b _ _ _ _ _ ([],if(!zR s x.s||(yW k (D.T i).ms).isNone)=Ib then _ else D.T);cases hc:(!zR s x.s||(yW k (D.T i).ms).isNone)with|true=>simp only[hc]at h;obtain⟨e,zy,c,f⟩:=h;exact⟨e,zy,f.out,.inl ⟨rfl,c⟩⟩|false=>simp only[hc]at h;obtain⟨zy,c,f⟩:=h;exact⟨0,zy,f.out,.inl ⟨rfl,c⟩⟩
 |none=>rw[hq]at h;obtain⟨n,zy,c,f⟩:=h;exact⟨0,zy,f.out,.inr ⟨n,c,f.e⟩⟩
noncomputable def Fin(b:Bc)(d:Nat)(L:Loc)(B:S)(J:St)(D:Dt)(res:List Nat×Tb):Prop:=X2 λzy L'=>Out D res.2 J zy/\((res.1=[]/\(XB ⟨b,Ig,Ig,d⟩ L B J (.ok .next L' zy)\/XB ⟨b,Ig,Ig,d⟩ L B J (.ok (.ret (.str [])) L' zy)))\/∃n,XB ⟨b,Ig,Ig,d⟩ L B J (.exc (.ref n) L' zy)/\gm zy n res.1)
theorem Fin.call{f a:Nat}{args:M}{vs:List V}{res:List Nat×Tb}(hf:prog.glob f=Ie (.fn a))(hk:sI (.fn a)=Ib)(hs:Es ⟨b,Ig,Ig,d⟩ L args J vs zt)(g:Ask D J zt)(h:uP b d a vs zt D res):Fin b d L (.cons (.expr (.call (.zu f) args)) .nil) J D res:=by
 obtain⟨zy,o,h⟩:=h;refine⟨zy,L,o.pre .re g.k.lo,?_⟩;rcases h with⟨e,c⟩|⟨n,c,x⟩;.exact .inl ⟨e,.inl (zr (yF (y0 (yk hf) hs c hk)) zj)⟩
 .exact .inr ⟨n,vj (rA (y0 (yk hf) hs c hk)),x⟩
theorem Fin.cond{c:M}{A B:S}{t:Bool}{res:List Nat×Tb}(hc:E ⟨b,Ig,Ig,d⟩ L c J (.ok (.bool t) J))(h:Fin b d L (if t then A else B) J D res):Fin b d L (.cons (.cond c A B) .nil) J D res:=by
 obtain⟨zy,L',o,h⟩:=h;refine⟨zy,L',o,?_⟩;rcases h with⟨e,h|h⟩|⟨n,h,x⟩;.exact .inl ⟨e,.inl (zr (p7 hc h) zj)⟩
 .exact .inl ⟨e,.inr (zT (p7 hc h))⟩
 .exact .inr ⟨n,vj (p7 hc h),x⟩
theorem Fin.cons{S0 B:S}{zN:Loc}{r5:Dt}{res:List Nat×Tb}(x:X1 ⟨b,Ig,Ig,d⟩ L S0 J (.ok .next zN zt))(e:Ex D r5)(l:Lo D J zt)(h:Fin b d zN B zt r5 res):Fin b d L (.cons S0 B) J D res:=by
 obtain⟨zy,L',o,h⟩:=h;refine⟨zy,L',o.pre e l,?_⟩;rcases h with⟨e,h|h⟩|⟨n,h,z⟩;.exact .inl ⟨e,.inl (zr x h)⟩
 .exact .inl ⟨e,.inr (zr x h)⟩
 .exact .inr ⟨n,zr x h,z⟩
end
structure QL(w kn way i g:Nat)(k k' s:List Nat)(num:Nat)(L:Loc):Prop where
 w:lk 1 L=some (.ref w)
 kn:lk 9 L=some (.ref kn)
 way:lk 16 L=some (.int way)
 name:lk 0 L=some (zU i)
 g:lk 10 L=some (zU g)
 k:lk 8 L=some (.str k)
 k':lk 26 L=some (.str k')
 s:lk 14 L=some (.str s)
 num:lk 17 L=some (.int num)
theorem VG{i:Nat}(h:i∈targets):C3 (i<18) (yC i=.none) (X2 λc r=>C3 (yx i=c::r) (plainS [c]=Ib) (zR [60] [c]=H5 10 i)):=by
 obtain h1:∀i∈targets,(Hq i 18&&(IP (yC i).ctorIdx 0&&(match yx i with|c::r=>plainS [c]&&(zR [60] [c]==H5 10 i)|[]=>Ig)))=Ib:=by decide+kernel
 obtain⟨a,a2⟩:=zh (h1 i h);obtain⟨a2,a3⟩:=zh a2;refine⟨ID a,?_,?_⟩
 .revert a2;unfold yC;split;.exactλh=>nomatch h
  .exactλzz=>rfl
 .cases hm:yx i with|nil=>rw[hm]at a3;cases a3|cons c r=>rw[hm]at a3;obtain⟨p1,p2⟩:=zh a3;exact⟨c,r,rfl,p1,eq_of_beq p2⟩
section
variable{b:Bc}{d lim:Nat}{q:Bool}{J yt zt zy zv:St}{T T':Tb}{Q:Mt}{i g n x j way num:Nat}{k k' s:List Nat}{L:Loc}{D:Dt}
theorem jN(hg:g=8\/g=9\/g=5):g∈vc/\zU g=.str (tI g):=by rcases hg with rfl|rfl|rfl<;>exact⟨by decide,rfl⟩
theorem YZ(R:RI J D)(hi:D.on i=Ib)(ht:i∈targets)(hg:g=8\/g=9\/g=5)(hk:k∈yD)(wZ:k'∈yD)(hs:s∈vZ)(uv:num<10)(lK:way<10)(l:QL D.w D.kn way i g k k' s num L)(lm:lk 2 L=Ie (.ref (D.ad i))):∃e,Fin b (d+23) L (.cons (.cond (.cmp .lt (.loc 16) (.int 3)) (.cons (.expr (.call (.zu 140) (.cons (.loc 1) (.cons (.loc 2) (.cons (.call (.zu 95) (.cons (.loc 8) (.cons (.loc 2) (.cons (.str [114,101,97,100,101,114]) (.cons .none (.cons (.bin .add (.str [64]) (.call (.zu 70) (.cons (.loc 17) .nil))) (.cons (.loc 14) .nil))))))) .nil))))) .nil) (.cons (.cond (.cmp .eq (.loc 16) (.int 4)) (.cons (.expr (.call (.zu 143) (.cons (.loc 1) (.cons (.loc 2) (.cons (.sub (.loc 9) (.loc 10)) .nil))))) .nil) (.cons (.cond (.cmp .lt (.loc 16) (.int 6)) (.cons (.expr (.call (.zu 122) (.cons (.loc 1) (.cons (.loc 2) (.cons (.sub (.loc 9) (.loc 10)) .nil))))) .nil) (.cons (.cond (.cmp .eq (.loc 16) (.int 6)) (.cons (.expr (.call (.zu 142) (.cons (.loc 1) (.cons (.loc 2) (.cons (.loc 8) .nil))))) .nil) (.cons (.cond (.cmp .eq (.loc 16) (.int 7)) (.cons (.expr (.call (.zu 146) (.cons (.loc 1) (.cons (.loc 2) (.cons (.loc 8) .nil))))) .nil) (.cons (.cond (.cmp .eq (.loc 16) (.int 8)) (.cons (.expr (.call (.zu 137) (.cons (.loc 1) (.cons (.loc 2) (.cons (.loc 26) (.cons (.loc 8) .nil)))))) .nil) (.cons (.expr (.call (.zu 151) (.cons (.loc 1) (.cons (.loc 2) (.cons (.lst (.cons (.loc 8) .nil)) (.cons (.loc 14) .nil)))))) .nil)) .nil)) .nil)) .nil)) .nil)) .nil)) .nil) J D (vI D.T way i g k k' s num e):=by
 obtain⟨hm,te,_⟩:=VG ht;obtain eg:E ⟨b,Ig,Ig,d+23⟩ L (.sub (.loc 9) (.loc 10)) J (.ok (.ref (D.ad g)) J):=s_ (q:=Ig) R (.inl (jN hg).1) l.kn (by rw[<-(jN hg).2];exact zx l.g);have lt:∀m:Nat,E ⟨b,Ig,Ig,d+23⟩ L (.cmp .lt (.loc 16) (.int m)) J (.ok (.bool (decide (way<m))) J):=λm=>by rw[<-ltI];exact zZ (zx l.way) yr jv
 have eq:∀m:Nat,E ⟨b,Ig,Ig,d+23⟩ L (.cmp .eq (.loc 16) (.int m)) J (.ok (.bool (way==m)) J):=λm=>by rw[<-oR];exact zZ (zx l.way) yr rg
 by_cases h3:way<3;.refine⟨J.length,.cond (lt 3) ?_⟩;rewrite[decide_eq_true h3];rw[if_pos rfl];obtain ed:vI D.T way i g k k' s num J.length=([],w4 D.T i (wq k ⟨J.length,Ie ([64]++uM num),i,s,k⟩ (D.T i).ms)):=if_pos h3;rw[ed];have sm:small (num:Int)=Ib:=Hz (by rw[FT];exact I8 (Et uv) (by decide));have a1:Ask D J (J++[.inst 256 (D.w_ ⟨J.length,Ie ([64]++uM num),i,s,k⟩)]):=.of R (Gr.push _);obtain⟨zy,c,f⟩:=Lq (b:=b) (d:=d+21) (h:=⟨J.length,Ie ([64]++uM num),i,s,k⟩) a1.r hi hm hk ⟨hs,hk,λt ht=>by cases ht;exact iT uv,hm⟩ z7 hi;exact Fin.call (a:=481) rfl rfl (zp (zx l.w) (zp (zx lm) (zp (y0 (yk rfl) (zp (zx l.k) (zp (zx lm) (zp zV (zp zQ (zp (yd zV (y7 rfl (zx l.num) (Yc (EH _) sm)) (u5 (iT uv).2)) (zp (zx l.s) zf)))))) cq) zf))) a1 ⟨zy,f.out,.inl ⟨rfl,c⟩⟩
 have c3:=lt 3;rw[decide_eq_false h3]at c3;have Yi:Es ⟨b,Ig,Ig,d+23⟩ L (.cons (.loc 1) (.cons (.loc 2) (.cons (.sub (.loc 9) (.loc 10)) .nil))) J [.ref D.w,.ref (D.ad i),.ref (D.ad g)] J:=zp (zx l.w) (zp (zx lm) (zp eg zf));have a0:Ask D J J:=⟨R,.re⟩;by_cases h4:way=4;.subst h4;exact⟨0,.cond c3 (.cond (eq 4) (Fin.call rfl rfl Yi a0 (gU (d:=d+10) (c:=Ib) R hi ht hg)))⟩
 have c4:=eq 4;rw[beq_false_of_ne h4]at c4;by_cases h6:way<6
 .have ed:vI D.T way i g k k' s num 0=(wh D.T i g,uC D.T i g Ig):=by unfold vI;rewrite[if_neg h3];rewrite[if_pos h6];rw[beq_false_of_ne h4]
  obtain c6:=lt 6;rw[decide_eq_true h6]at c6;exact⟨0,by rw[ed];exact .cond c3 (.cond c4 (.cond c6 (Fin.call rfl rfl Yi a0 (gU (d:=d+10) (c:=Ig) R hi ht hg))))⟩
 obtain c6:=lt 6;rw[decide_eq_false h6]at c6;obtain jw:=eq 6;obtain c7:=eq 7;obtain c8:=eq 8;obtain P5:way=6\/way=7\/way=8\/way=9:=by lia
 rcases P5 with rfl|rfl|rfl|rfl;.exact⟨0,.cond c3 (.cond c4 (.cond c6 (.cond jw (Fin.call rfl rfl (zp (zx l.w) (zp (zx lm) (zp (zx l.k) zf))) a0 (SE (d:=d+10) R hi hm hk te 0)))))⟩
 .obtain⟨e,h⟩:=SA (b:=b) (d:=d) (k':=k') (g:=g) (s:=s) (num:=num) R hi hm hk;exact⟨e,.cond c3 (.cond c4 (.cond c6 (.cond jw (.cond c7 (Fin.call rfl rfl (zp (zx l.w) (zp (zx lm) (zp (zx l.k) zf))) a0 h)))))⟩
 .obtain⟨e,h⟩:=SS (b:=b) (d:=d) (k':=k') (g:=g) (s:=s) (num:=num) R hi hm hk wZ;exact⟨e,.cond c3 (.cond c4 (.cond c6 (.cond jw (.cond c7 (.cond c8 (Fin.call rfl rfl (zp (zx l.w) (zp (zx lm) (zp (zx l.k') (zp (zx l.k) zf)))) a0 h))))))⟩
 .obtain a1:=a0.push (.list [.str k]);obtain⟨e,h⟩:=SD (b:=b) (d:=d) (k':=k') (g:=g) (num:=num) (l:=J.length) a1.r hi hm hk hs z7;exact⟨e,.cond c3 (.cond c4 (.cond c6 (.cond jw (.cond c7 (.cond c8 (Fin.call rfl rfl (zp (zx l.w) (zp (zx lm) (zp (y' (zp (zx l.k) zf) rfl) (zp (zx l.s) zf)))) a1 h))))))⟩
theorem SN(R:RI J D)(hx:D.on x=Ib)(ho:yn x=Ie i)(ht:i∈targets)(hg:g=8\/g=9\/g=5):uP b (d+14) 565 [.ref D.w,.ref (D.ad x),.ref (D.ad g)] J D (wh D.T i g,uC D.T i g Ig):=by
 obtain⟨D1,yz,c1,R1,q1,lo1,ex,_⟩:=cb (b:=b) (d:=d+1) R hx ho;obtain vE:D.on g=Ib:=by rcases hg with rfl|rfl|rfl<;>exact R.s.om _ (by decide) (by decide)
 obtain⟨zy,o,h⟩:=gU (b:=b) (d:=d) (c:=Ig) R1 q1 ht hg;rw[ex.w,(ex.o g vE).2,ex.T]at h;rw[ex.T]at o;refine⟨zy,o.pre ex lo1,?_⟩;obtain es:Es ⟨b,Ig,Ig,d+13⟩ [(1,.ref D.w),(6,.ref (D.ad x)),(27,.ref (D.ad g))] (.cons (.loc 1) (.cons (.call (.zu 68) (.cons (.loc 1) (.cons (.loc 6) .nil))) (.cons (.loc 27) .nil))) J [.ref D.w,.ref (D1.ad i),.ref (D.ad g)] yz:=zp (zx rfl) (zp (yU rfl (zx rfl) (zx rfl) c1) (zp (zx rfl) zf));rcases h with⟨e,c⟩|⟨n,c,z⟩;.exact .inl ⟨e,vF rfl rfl (zr (yF (y0 (yk rfl) es c)) zj)⟩
 .exact .inr ⟨n,tn rfl rfl (vj (rA (y0 (yk rfl) es c))),z⟩
noncomputable def kC(D:Dt)(i:Nat):Prop:=(∃x,yn x=Ie i/\(x∈vc\/x=7/\D.on 7=Ib))\/(i<10/\(i∈vc\/i=7/\D.on 7=Ib))
theorem RC(R:RI J D)(hT:kC D i)(ht:i∈targets)(hg:g=8\/g=9\/g=5)(hk:k∈yD)(wZ:k'∈yD)(hs:s∈vZ)(uv:num<10)(lK:way<10)(l:QL D.w D.kn way i g k k' s num L):∃e,Fin b (d+23) L (.cons (.cond (.and (.cons (.cmp .eq (.loc 16) (.int 5)) (.cons (.cmp .eq (.sub (.loc 0) (.int 0)) (.str [60])) .nil))) (.cons (.expr (.call (.zu 88) (.cons (.loc 1) (.cons (.sub (.loc 9) (.wQ (.loc 0))) (.cons (.sub (.loc 9) (.loc 10)) .nil))))) (.cons (.ret (.str [])) .nil)) .nil) (.cons (.asg 2 (.ite (.cmp .eq (.sub (.loc 0) (.int 0)) (.str [60])) (.call (.zu 68) (.cons (.loc 1) (.cons (.sub (.loc 9) (.wQ (.loc 0))) .nil))) (.sub (.loc 9) (.loc 0)))) (.cons (.cond (.cmp .lt (.loc 16) (.int 3)) (.cons (.expr (.call (.zu 140) (.cons (.loc 1) (.cons (.loc 2) (.cons (.call (.zu 95) (.cons (.loc 8) (.cons (.loc 2) (.cons (.str [114,101,97,100,101,114]) (.cons .none (.cons (.bin .add (.str [64]) (.call (.zu 70) (.cons (.loc 17) .nil))) (.cons (.loc 14) .nil))))))) .nil))))) .nil) (.cons (.cond (.cmp .eq (.loc 16) (.int 4)) (.cons (.expr (.call (.zu 143) (.cons (.loc 1) (.cons (.loc 2) (.cons (.sub (.loc 9) (.loc 10)) .nil))))) .nil) (.cons (.cond (.cmp .lt (.loc 16) (.int 6)) (.cons (.expr (.call (.zu 122) (.cons (.loc 1) (.cons (.loc 2) (.cons (.sub (.loc 9) (.loc 10)) .nil))))) .nil) (.cons (.cond (.cmp .eq (.loc 16) (.int 6)) (.cons (.expr (.call (.zu 142) (.cons (.loc 1) (.cons (.loc 2) (.cons (.loc 8) .nil))))) .nil) (.cons (.cond (.cmp .eq (.loc 16) (.int 7)) (.cons (.expr (.call (.zu 146) (.cons (.loc 1) (.cons (.loc 2) (.cons (.loc 8) .nil))))) .nil) (.cons (.cond (.cmp .eq (.loc 16) (.int 8)) (.cons (.expr (.call (.zu 137) (.cons (.loc 1) (.cons (.loc 2) (.cons (.loc 26) (.cons (.loc 8) .nil)))))) .nil) (.cons (.expr (.call (.zu 151) (.cons (.loc 1) (.cons (.loc 2) (.cons (.lst (.cons (.loc 8) .nil)) (.cons (.loc 14) .nil)))))) .nil)) .nil)) .nil)) .nil)) .nil)) .nil)) .nil))) J D (vI D.T way i g k k' s num e):=by
 obtain⟨hm,te,c0,r0,OZ,sS,hle⟩:=VG ht;have en:E ⟨b,Ig,Ig,d+23⟩ L (.cmp .eq (.sub (.loc 0) (.int 0)) (.str [60])) J (.ok (.bool (H5 10 i)) J):=by rw[<-hle];exact zZ (yH (zx l.name) yr (cR (j:=0) (by rw[OZ];rfl) (by decide))) zV (u2 sS rfl)
 have e5:E ⟨b,Ig,Ig,d+23⟩ L (.cmp .eq (.loc 16) (.int 5)) J (.ok (.bool (way==5)) J):=by rw[<-oR];exact zZ (zx l.way) yr rg
 have ec:=oU e5 λzz=>en;have ql:∀v,QL D.w D.kn way i g k k' s num (st 2 v L):=λv=>⟨zg rfl l.w,zg rfl l.kn,zg rfl l.way,zg rfl l.name,zg rfl l.g,zg rfl l.k,zg rfl l.k',zg rfl l.s,zg rfl l.num⟩;rcases hT with⟨x,ho,hx⟩|⟨fK,hx⟩
 .have fK:=(qY ho).1.1;have jA:=n_ R.s hx;have gc:H5 10 i=Ib:=Hz fK;have fY:E ⟨b,Ig,Ig,d+23⟩ L (.sub (.loc 9) (.wQ (.loc 0))) J (.ok (.ref (D.ad x)) J):=s_ (q:=Ig) R hx l.kn (fh ho l.name);rw[gc]at en ec;by_cases h5:way=5
  .subst h5;refine⟨0,?_⟩;have eg:E ⟨b,Ig,Ig,d+23⟩ L (.sub (.loc 9) (.loc 10)) J (.ok (.ref (D.ad g)) J):=s_ (q:=Ig) R (.inl (jN hg).1) l.kn (by rw[<-(jN hg).2];exact zx l.g);obtain⟨zy,o,h⟩:=SN (b:=b) (d:=d+9) R jA ho ht hg;refine⟨zy,L,o,?_⟩;rcases h with⟨e,c⟩|⟨n,c,z⟩;.exact .inl ⟨e,.inr (zT (ya ec (zr (yF (xk rfl (zx l.w) fY eg c)) (zT (zK zV)))))⟩
   .exact .inr ⟨n,vj (ya ec (vj (rA (xk rfl (zx l.w) fY eg c)))),z⟩
  .rw[beq_false_of_ne h5]at ec;obtain⟨D1,yz,c1,R1,q1,lo1,ex,_⟩:=cb (b:=b) (d:=d+11) R jA ho;obtain ql:=ql (.ref (D1.ad i));rw[<-ex.w,<-ex.kn]at ql;obtain⟨e,h⟩:=YZ (b:=b) (d:=d) R1 q1 ht hg hk wZ hs uv lK ql yw;rw[ex.T]at h;exact⟨e,.cons (zO ec zj) .re Kp.re.lo (.cons (yq (wb en (yU rfl (zx l.w) fY c1))) ex lo1 h)⟩
 .have gc:H5 10 i=Ig:=by cases q:H5 10 i with|false=>rfl|true=>obtain this:=ID q;lia
  rw[gc]at en ec;rw[Fc]at ec;have hi:=n_ R.s hx;have em:yx i=tI i:=by
   obtain this:∀i<10,zR (yx i) (tI i)=Ib:=by decide+kernel
   exact xd.mp (this i fK)
  obtain⟨e,h⟩:=YZ (b:=b) (d:=d) R hi ht hg hk wZ hs uv lK (ql _) yw;exact⟨e,.cons (zO ec zj) .re Kp.re.lo (.cons (yq (we en (s_ (q:=Ig) R hx l.kn (by rw[<-em];exact zx l.name)))) .re Kp.re.lo h)⟩
theorem Le(R:RI J D)(hT:kC D i)(ht:i∈targets)(hg:g=8\/g=9\/g=5)(hk:k∈yD)(wZ:k'∈yD)(hs:s∈vZ)(uv:num<10)(lK:way<10):X2 λe zy=>Call ⟨b,Ig,Ig,d+24⟩ (.fn 946) [.ref D.w,.ref D.kn,ud way i g k k' s num] J (.ok (.str (vI D.T way i g k k' s num e).1) zy)/\Out D (vI D.T way i g k k' s num e).2 J zy:=by
 obtain x0:=u9 (F:=⟨b,Ig,Ig,d+23⟩) (L:=[(1,.ref D.w),(9,.ref D.kn),(28,ud way i g k k' s num)]) (xs:=[16,0,10,8,26,14,17]) (J:=J) rfl (zx (x:=28) (v:=ud way i g k k' s num) rfl) (L':=[(1,.ref D.w),(9,.ref D.kn),(28,ud way i g k k' s num),(16,.int way),(0,zU i),(10,zU g),(8,.str k),(26,.str k'),(14,.str s),(17,.int num)]) rfl;obtain⟨e,zy,L',o,h⟩:=RC (b:=b) (d:=d) (L:=[(1,.ref D.w),(9,.ref D.kn),(28,ud way i g k k' s num),(16,.int way),(0,zU i),(10,zU g),(8,.str k),(26,.str k'),(14,.str s),(17,.int num)]) R hT ht hg hk wZ hs uv lK ⟨rfl,rfl,rfl,rfl,rfl,rfl,rfl,rfl,rfl⟩;refine⟨e,zy,?_,o⟩;rcases h with⟨e,h|h⟩|⟨n,h,fs,t,z1,z2,x9,o',z3,z4,z5⟩;.rw[e];exact zG rfl rfl (zr x0 (zr (Ud h) (zT (zK zV))))
 .rw[e];exact zG rfl rfl (zr x0 (zT (Ud h)))
 .exact zG rfl rfl (zr x0 (zT (JZ h z1 rfl (y7 (F:=⟨b,Ib,Ig,d+23⟩) rfl (zM (Rc (zx yw) z1 rfl z2) z3 rfl z4) (kX (q:=Ib) z5)))))
end
noncomputable def Dt.xy(D:Dt)(n:Nat)(nu:Int):Dt:={D.mk' 7 n nu with zC:=D.zC}
section
variable{b:Bc}{d lim:Nat}{q:Bool}{J yt zt zy zv:St}{T T':Tb}{Q:Mt}{i g n x j way num:Nat}{k k' s:List Nat}{L:Loc}{D:Dt}
theorem RI.SV(R:RI J D){nm:Int}{main:V}(yE:D.on 7=Ig)(hn:∀i,D.on i=Ib->D.nu i<=nm)(hl:J.length<=n)(k:Bt [D.w,D.kn] J zy)(hw:zy[D.w]?=Ie (.inst 899 (wf D.w (nm+1) D.zC main)))(hk:zy[D.kn]?=Ie (.dict (dput [67] (.ref n) (ur D))))(b0:zy[n]?=Ie (.inst 228 (mf (n+1) (n+2) (n+3) (n+4) (n+5) (.int (nm+1)) (.ref (D.ad 4)) .none (.str [67]) Ib (.ref (D.ad 5)) .none .none .none)))(b2:zy[n+2]?=Ie (.dict []))(b4:zy[n+4]?=Ie (.list []))(b5:zy[n+5]?=Ie (.list [])):RI zy (D.xy n (nm+1)):=by
 obtain h5:=R.s.om 5 (by decide) (by decide);obtain s0:=v3.jz (nu:=nm) R (j:=7) (p:=5) (by decide) nofun yE rfl h5 hn hl;obtain s':v3 (D.xy n (nm+1)):=⟨s0.inj,s0.lo,s0.w2,s0.kn,s0.di,s0.dk,s0.li,s0.pm,s0.om,s0.tm,s0.bd,s0.un,s0.a7,s0.wf⟩;obtain⟨n0,m0,nr,_⟩:=R.wo;obtain wk:=R.s.kn;have nn:∀{r:Nat}{o:O},J[r]?=Ie o->(match o with|.inst c _=>!IP c 899|_=>Ib)=Ib->r≠D.kn->r∉[D.w,D.kn]:=λh hc hr m=>by
  rcases IU.mp m with z|z;.rw[z,nr]at h;cases h;cases hc
  .exact hr (I_.mp z)
 have ni:∀{r:Nat}{c:Nat}{fs:Loc},J[r]?=Ie (.inst c fs)->c≠899->zy[r]?=Ie (.inst c fs):=λh hc=>k.2 _ _ h (nn h (by show(!IP _ _)=Ib;rw[Hp];cases q:IP _ _ with|false=>rfl|true=>exact absurd (IJ q) hc) λe=>by have:=R.kn;rw[<-e,h]at this;cases this);have nl:∀{r:Nat}{xs:List V},J[r]?=Ie (.list xs)->zy[r]?=Ie (.list xs):=λh=>k.2 _ _ h (nn h rfl λe=>by have:=R.kn;rw[<-e,h]at this;cases this);have od:∀{x},D.on x=Ib->x≠7:=λh=>kq yE h;obtain MF:∀x,yn x≠Ie 7:=λx e=>by have:=(qY e).1.1;lia
 have C:∀x,(D.xy n (nm+1)).opt (yn x)=D.opt (yn x):=λx=>pM (D:=D) (j:=7) (n:=n) (nu:=nm+1) (MF x);obtain op:∀{x},D.on x=Ib->(D.xy n (nm+1)).opt (par x)=D.opt (par x):=λ{x}h=>pM (D:=D) (j:=7) (n:=n) (nu:=nm+1) λe=>by rw[R.s.pm x 7 h e]at yE;cases yE
 obtain oa:∀{x},D.on x=Ib->x<18->(D.xy n (nm+1)).opt (yP x)=D.opt (yP x):=λ{x}h hm=>pM (D:=D) (j:=7) (n:=n) (nu:=nm+1) λe=>by rw[oJ R.s h hm 7 e]at yE;cases yE
 have m9:∀{x},x≠7->(D.xy n (nm+1)).da x=D.da x:=λh=>if_neg h;have pS:∀(c:Bool){x},x≠7->(D.xy n (nm+1)).la c x=D.la c x:=λc x h=>if_neg h;have pI:∀{x},x≠7->(D.xy n (nm+1)).nu x=D.nu x:=λh=>if_neg h;have vW:∀{x},x≠7->(D.xy n (nm+1)).ad x=D.ad x:=λh=>if_neg h;obtain Vr:∀{l:List Nat},(∀x∈l,x≠7)->rf (D.xy n (nm+1)).ad l=rf D.ad l:=λh=>Wq (D:=D) (j:=7) (n:=n) (nu:=nm+1) h;obtain un:=R.s.un 7 yE;have sp:∀{x},(D.xy n (nm+1)).on x=Ib->x=7\/x≠7/\D.on x=Ib:=λ{x}h=>by
  by_cases e:x=7;.exact .inl e
  .exact .inr ⟨e,by rw[show(D.xy n (nm+1)).on x=D.on x from vC (D:=D) (n:=n) (nu:=nm+1) e]at h;exact h⟩
 obtain⟨md,h1,h2⟩:=R.md;have h3:r4 zy D md:=h2.to λa s⟨fs,q1,q2⟩=>⟨fs,ni q1 (by decide),q2⟩;refine⟨⟨nm+1,main,hw,λx hx=>?_⟩,⟨md,k.2 _ _ h1 (nn h1 rfl (show D.w+2≠D.kn by lia)),⟨λx hx=>?_,h3.e,h3.nd,h3.ks⟩⟩,k.2 _ _ R.c0 (nn R.c0 rfl (by lia)),k.2 _ _ R.c1 (nn R.c1 rfl (by lia)),k.2 _ _ R.n0 (nn R.n0 rfl (show D.w-2≠D.kn by lia)),k.2 _ _ R.n1 (nn R.n1 rfl (show D.w-1≠D.kn by lia)),?_,λx hx hm=>?_,λx hx hm=>?_,λx hx hm q hq=>?_,λx c hx hm=>?_,λx hx hm=>?_,s'⟩
 .rcases sp hx with rfl|⟨e,h⟩;.exact Int.le_of_eq (show(D.xy n (nm+1)).nu 7=nm+1 from rfl)
  .rw[pI e];have:=hn x h;lia
 .rw[vW (show x≠7 by lia)];exact h3.j x hx
 .have:ur (D.xy n (nm+1))=dput [67] (.ref n) (ur D):=by unfold ur;rw[vW (show 2≠7 by decide),vW (show 4≠7 by decide),vW (show 1≠7 by decide),vW (show 5≠7 by decide),vW (show 6≠7 by decide),vW (show 8≠7 by decide),vW (show 9≠7 by decide),vW (show 20≠7 by decide),vW (show 21≠7 by decide),yE,show(D.xy n (nm+1)).on 7=Ib from kz (D:=D) (j:=7) (n:=n) (nu:=nm+1),show(D.xy n (nm+1)).ad 7=n from rfl];rfl
  show zy[D.kn]?=_;rw[this];exact hk
 .rcases sp hx with rfl|⟨e,h⟩
  .rw[show(D.xy n (nm+1)).ad 7=n from rfl];refine⟨.none,n+1,n+3,?_,.inl rfl⟩;unfold Dt.wV;rw[show(D.xy n (nm+1)).da 7=n+2 from rfl,show(D.xy n (nm+1)).la Ig 7=n+4 from rfl,show(D.xy n (nm+1)).la Ib 7=n+5 from rfl,show(D.xy n (nm+1)).nu 7=nm+1 from rfl,C,show(D.xy n (nm+1)).opt (par 7)=.ref (D.ad 5)from(tB (show(D.xy n (nm+1)).on 5=Ib from(vC (D:=D) (j:=7) (n:=n) (nu:=nm+1) (show 5≠7 by decide)).trans h5)).trans (by rw[vW (show 5≠7 by decide)])];obtain e4:(D.xy n (nm+1)).ad (if yb 7=Ib then 4 else 3)=D.ad 4:=vW (show(if yb 7=Ib then 4 else 3)≠7 by decide);obtain Rf:D.opt (yn 7)=.none:=by refine WM (j:=17) ?_;cases q:D.on 17 with|false=>rfl|true=>rw[R.s.a7 q]at yE;cases yE
   rewrite[e4];rw[Rf];exact b0
  .obtain⟨kp,a1,a3,g1,g2⟩:=R.oo x h hm;rw[vW e];refine⟨kp,a1,a3,?_,g2.imp id λ⟨v,l,e1,e2,e3⟩=>⟨v,l,e1,e2,λz=>⟨(e3 z).1,?_⟩⟩⟩;.unfold Dt.wV;rewrite[m9 e];rewrite[pS Ig e];rewrite[pS Ib e];rewrite[pI e];rewrite[C];rewrite[op h];rewrite[oa h hm];rw[vW (show(if yb x=Ib then 4 else 3)≠7 by split<;>decide)];exact ni g1 (by decide)
   .show zy[l]?=Ie (.list (rf (D.xy n (nm+1)).ad (ln D.T x)));rw[Vr λy hy=>od ((R.tG h hm).2 y hy).1];exact nl (e3 z).2
 .rcases sp hx with rfl|⟨e,h⟩;.rw[show(D.xy n (nm+1)).da 7=n+2 from rfl,show((D.xy n (nm+1)).T 7).ms=[]from un.2];exact b2
  .rw[m9 e];exact k.2 _ _ (R.mm x h hm) (nn (R.mm x h hm) rfl (R.s.dk x h hm))
 .rcases sp hx with rfl|⟨e,h⟩;.obtain hq:q∈(D.T 7).ms:=hq;rw[un.2]at hq;exact nomatch hq
  .obtain⟨g1,g2⟩:=R.ee x h hm q hq;obtain e2:=od g2;refine⟨?_,by rw[show(D.xy n (nm+1)).on q.2.o=D.on q.2.o from vC (D:=D) (n:=n) (nu:=nm+1) e2];exact g2⟩;have:(D.xy n (nm+1)).w_ q.2=D.w_ q.2:=by unfold Dt.w_;rw[vW e2]
   rw[this];exact ni g1 (by decide)
 .rcases sp hx with rfl|⟨e,h⟩
  .have:(D.T 7).li c=[]:=(un.1 c).trans (by cases c<;>rfl);rw[show((D.xy n (nm+1)).T 7).li c=[]from this,show(D.xy n (nm+1)).la c 7=n+(if c then 5 else 4)from rfl];cases c;.exact b4
   .exact b5
  .rewrite[pS c e];rw[Vr (l:=((D.xy n (nm+1)).T x).li c) λy hy=>od (R.mem (show y∈(D.T x).li c from hy)).1];exact nl (R.ll x c h hm)
 .rcases sp hx with rfl|⟨e,h⟩;.lia
  .rw[vW e];obtain⟨a,g⟩:=R.th x h hm;have:(D.xy n (nm+1)).tV x a=D.tV x a:=by unfold Dt.tV;rewrite[pI e];rewrite[vW (show x-15≠7 by rcases R.s.bd x h with h|h|h<;>lia)];rw[C]
   exact⟨a,by rw[this];exact ni g (by decide)⟩
end
structure LL(w kn m ml:Nat)(sm:Bool)(L:Loc):Prop where
 marks:lk 25 L=some (.ref ml)
 model:lk 7 L=some (.ref m)
 small:lk 37 L=some (.bool sm)
 p9:lk 1 L=some (.ref w)
 known:lk 9 L=some (.ref kn)
noncomputable def WY(x:Nat):Bool:=IP 25 x||(IP 7 x||(IP 37 x||(IP 1 x||IP 9 x)))
theorem LL.st{w kn m ml x:Nat}{sm:Bool}{L:Loc}{v:V}(h:LL w kn m ml sm L)(hx:WY x=Ig):LL w kn m ml sm (st x v L):=by obtain⟨a1,hx⟩:=Hd.mp hx;obtain⟨a2,hx⟩:=Hd.mp hx;obtain⟨a3,hx⟩:=Hd.mp hx;obtain⟨a4,a5⟩:=Hd.mp hx;exact⟨zg a1 h.marks,zg a2 h.model,zg a3 h.small,zg a4 h.p9,zg a5 h.known⟩
noncomputable def xi(c:Bool):List Nat:=match c with|Ib=>[15,10,16,12,5,6,11,8,17,7]|Ig=>[15,10,16,12,5,6,11,8]
noncomputable def va(c:Bool)(m:Nat):Nat:=(xi c).getD (m/10%(xi c).length) 0
noncomputable def uW(m:Nat):Nat:=[8,9,9,5].getD (m/10/10%4) 0
noncomputable def pickK(m:Nat):List Nat:=yD.getD (m%3) []
noncomputable def qX(m:Nat):List Nat:=vZ.getD (m%3) []
section
variable{b:Bc}{d lim:Nat}{q:Bool}{J yt zt zy zv:St}{T T':Tb}{Q:Mt}{i g n x j way num ml m p:Nat}{k k' s:List Nat}{L:Loc}{D:Dt}{sm:Bool}{ms:List Nat}
theorem Ja(R:RI J D)(yE:D.on 7=Ig)(l1:lk 1 L=Ie (.ref D.w))(l2:lk 9 L=Ie (.ref D.kn)):X2 λD' zy=>C7 (X1 ⟨b,Ig,Ig,d+4⟩ L (.y3 (.loc 9) (.str [67]) (.zl (.loc 1) 55 (.cons (.str [67]) (.cons (.bool Ib) (.cons (.sub (.loc 9) (.str [65])) .nil))))) J (.ok .next L zy)) (RI zy D') (D'.w=D.w) (D'.kn=D.kn) (D'.T=D.T) (D'.on 7=Ib) (Lo D J zy):=by
 obtain⟨num,main,hw,hn⟩:=R.wo;obtain wk:=R.s.kn;obtain JB:=xr R.kn;obtain len:(J.set D.w (.inst 899 (wf D.w (num+1) D.zC main))).length=J.length:=HS;obtain s5:=Uh (b:=b) (d:=d) (xl:=.str [67]) (at_:=.none) (pa:=.ref (D.ad 5)) R hw rfl;obtain g2:=YK (zv:=J.set D.w (.inst 899 (wf D.w (num+1) D.zC main))) (l:=tD J.length (num+1) (.ref (D.ad 4)) (.str [67]) (.ref (D.ad 5)) .none);obtain td:=g2.get (get_set (o:=.inst 899 (wf D.w (num+1) D.zC main)) hw);obtain oD:=g2.get (zJ (o:=.inst 899 (wf D.w (num+1) D.zC main)) R.kn (by lia));have at_:∀{k:Nat}{o:O},(tD J.length (num+1) (.ref (D.ad 4)) (.str [67]) (.ref (D.ad 5)) .none)[k]?=Ie o->(J.set D.w (.inst 899 (wf D.w (num+1) D.zC main))++tD J.length (num+1) (.ref (D.ad 4)) (.str [67]) (.ref (D.ad 5)) .none)[J.length+k]?=Ie o:=λ{k o}h=>by rewrite[Hj (by rw[len];exact HE _ _)];rewrite[len];rw[Ew];exact h
 obtain b0:=at_ (k:=0) rfl;obtain b2:=at_ (k:=2) rfl;obtain b4:=at_ (k:=4) rfl;obtain b5:=at_ (k:=5) rfl;obtain k2:Bt [D.w,D.kn] J (J.set D.w (.inst 899 (wf D.w (num+1) D.zC main))++tD J.length (num+1) (.ref (D.ad 4)) (.str [67]) (.ref (D.ad 5)) .none):=(Bt.re.set _ (.inl (.head _))).tr (.of g2);generalize J.set D.w (.inst 899 (wf D.w (num+1) D.zC main))++tD J.length (num+1) (.ref (D.ad 4)) (.str [67]) (.ref (D.ad 5)) .none=zv at s5 td oD b0 b2 b4 b5 k2;obtain k3:=k2.set (.dict (dput [67] (.ref J.length) (ur D))) (.inl (.tail _ (.head _)));have sh:short (ur D)=Ib:=by unfold ur;cases D.on 7<;>rfl
 refine⟨D.xy J.length (num+1),_,p8 rfl (yj (zx l1) (xM hw rfl rfl) (zp zV (zp sO (zp (s_ (q:=Ig) R (.inl (by decide:5∈vc)) l2 zV) zf))) (zG rfl rfl s5)) (zx l2) zV oD sh,R.SV yE hn (IV _) k3 (zJ td (by lia)) (get_set oD) (zJ b0 (by lia)) (zJ b2 (by lia)) (zJ b4 (by lia)) (zJ b5 (by lia)),rfl,rfl,rfl,rfl,k3.lo λr h=>?_⟩;rcases IU.mp h with z|z;.lia
 .rw[I_.mp z];lia
theorem SJ(R:RI J D):x_ ⟨b,Ig,Ig,d⟩ .yM (.str [67]) (.ref D.kn) J (D.on 7):=by obtain this:=(mM (F:=⟨b,Ig,Ig,d⟩) (k:=[67]) R.kn).1;rw[show(zE [67] (ur D)).isSome=D.on 7 by unfold ur;cases D.on 7<;>rfl]at this;exact this
theorem Yp{e:M}{l:List Nat}(R:RI J D)(he:E ⟨b,Ig,Ig,d⟩ L e (J++[.list (za l)]) (.ok (.ref D.kn) (J++[.list (za l)])))(hl:l.length<=10){m:M}(hm:E ⟨b,Ig,Ig,d⟩ L m J (.ok (.ref J.length) (J++[.list (za l)]))):E ⟨b,Ig,Ig,d⟩ L (.bin .mul m (.call (.zu 45) (.cons (.cmp .yM (.str [67]) e) .nil))) J (.ok (.ref (J.length+1)) ((J++[.list (za l)])++[.list (za (if D.on 7 then l else[]))])):=by obtain R':=R.gr (Gr.push (.list (za l)));obtain this:=yd hm (y7 (g:=45) rfl (zZ zV he (SJ R')) Yd) (bA z7 (by cases D.on 7;exact .inl rfl;exact .inr rfl) (sJ (by lia)));rw[IZ]at this;cases hq:D.on 7<;>(rw[hq]at this;exact this)
end
noncomputable def y6(ms:List Nat):List V:=ms.map λ(m:Nat)=>V.int (m:Int)
theorem cE(c:Bool)(m:Nat):C5 ((xi c)[m/10%(xi c).length]?=Ie (va c m)) (va c m∈targets) (c=Ig->va c m≠17/\va c m≠7) ((xi c).length<=10) (0<(xi c).length):=by
 have h0:0<(xi c).length:=by cases c<;>decide
 obtain yJ:=HB (m/10) h0;have e:(xi c)[m/10%(xi c).length]?=Ie (va c m):=by unfold va;rewrite[HZ];rw[Hc yJ];rfl
 obtain hm:=I9 e;refine⟨e,?_,λh=>?_,by cases c<;>decide,h0⟩
 .obtain this:∀c,∀x∈xi c,x∈targets:=by decide
  exact this c _ hm
 .subst h;obtain this:∀x∈xi Ig,x≠17/\x≠7:=by decide
  exact this _ hm
theorem getD_at{zi:Type}{l:List zi}{d:zi}{j:Nat}(h:j<l.length):l[j]?=Ie (l.getD j d):=by rewrite[HZ];rw[Hc h];rfl
theorem WH(m:Nat):uW m=8\/uW m=9\/uW m=5:=by
 obtain this:∀j<4,[8,9,9,5].getD j 0=8\/[8,9,9,5].getD j 0=9\/[8,9,9,5].getD j 0=5:=by decide
 exact this _ (HB _ (by decide))
theorem kb(m:Nat):pickK m∈yD/\∃c,[97,98,99][m%3]?=Ie c/\[c]=pickK m:=by
 have h:=HB m (show 0<3 by decide);unfold pickK;generalize m%3=j at*;obtain this:j=0\/j=1\/j=2:=by lia
 rcases this with rfl|rfl|rfl<;>exact⟨by decide,_,rfl,rfl⟩
theorem cy(m:Nat):qX m∈vZ/\(sL vZ)[m%3]?=Ie (.str (qX m)):=by
 have h:=HB m (show 0<3 by decide);unfold qX;generalize m%3=j at*;obtain this:j=0\/j=1\/j=2:=by lia
 rcases this with rfl|rfl|rfl<;>exact⟨by decide,rfl⟩
section
variable{b:Bc}{d lim:Nat}{q:Bool}{J yt zt zy zv:St}{T T':Tb}{Q:Mt}{i g n x j way num ml m p w kn mm:Nat}{k k' s:List Nat}{L:Loc}{D:Dt}{sm:Bool}{ms:List Nat}
noncomputable def WE(c:Bool)(m p:Nat):V:=ud (m%10) (va c m) (uW m) (pickK (m/10/40)) (pickK (m/10/120)) (qX (m/10/360)) p
theorem Yz{e:M}{a z:Nat}(hz:0<z/\z<1000000)(he:E ⟨b,Ig,Ig,d⟩ L e J (.ok (.int (a:Int)) J)):E ⟨b,Ig,Ig,d⟩ L (.sub (.str [97,98,99]) (.bin .mod (.bin .floordiv e (.int z)) (.int 3))) J (.ok (.str (pickK (a/z))) J):=by obtain⟨_,c,h1,h2⟩:=kb (a/z);rw[<-h2];exact yH zV (yd (yd he yr (oZ (by lia) (by lia))) yr (qw (by decide))) (cR (j:=a/z%3) h1 (H3 (HB _ (by decide)) (by decide)))
theorem NI(R:RI J D)(l:LL D.w D.kn mm ml sm L)(hk:lk 12 L=Ie (.int p))(hm:J[ml]?=Ie (.list (y6 ms)))(hp:ms[p]?=Ie m)(lP:p<10):X2 λL' zv=>C5 (∀{r:S}{out:SR},XB ⟨b,Ig,Ig,d⟩ L' r zv out->XB ⟨b,Ig,Ig,d⟩ L (.cons (.asg 15 (.bin .floordiv (.sub (.loc 25) (.loc 12)) (.int 10))) (.cons (.asg 29 (.bin .add (.lst (.cons (.str [60,65,62]) (.cons (.str [60,97,62]) (.cons (.str [60,66,62]) (.cons (.str [60,77,62]) (.cons (.str [65]) (.cons (.str [66]) (.cons (.str [60,99,62]) (.cons (.str [77]) .nil))))))))) (.bin .mul (.lst (.cons (.str [60,67,62]) (.cons (.str [67]) .nil))) (.call (.zu 45) (.cons (.cmp .yM (.str [67]) (.loc 9)) .nil))))) (.cons (.y8 [0,10] (.tup (.cons (.sub (.loc 29) (.bin .mod (.loc 15) (.call (.zu 31) (.cons (.loc 29) .nil)))) (.cons (.sub (.lst (.cons (.str [77]) (.cons (.str [78]) (.cons (.str [78]) (.cons (.str [65]) .nil))))) (.bin .mod (.bin .floordiv (.loc 15) (.int 10)) (.int 4))) .nil)))) (.cons (.y8 [8,26,14] (.tup (.cons (.sub (.str [97,98,99]) (.bin .mod (.bin .floordiv (.loc 15) (.int 40)) (.int 3))) (.cons (.sub (.str [97,98,99]) (.bin .mod (.bin .floordiv (.loc 15) (.int 120)) (.int 3))) (.cons (.sub (.lst (.cons (.str [112,117,98,108,105,99]) (.cons (.str [112,114,105,118,97,116,101]) (.cons (.str [112,114,111,116,101,99,116,101,100]) .nil)))) (.bin .mod (.bin .floordiv (.loc 15) (.int 360)) (.int 3))) .nil))))) (.cons (.asg 28 (.tup (.cons (.bin .mod (.sub (.loc 25) (.loc 12)) (.int 10)) (.cons (.loc 0) (.cons (.loc 10) (.cons (.loc 8) (.cons (.loc 26) (.cons (.loc 14) (.cons (.loc 12) .nil))))))))) r))))) J out) (Gr J zv) (LL D.w D.kn mm ml sm L') (lk 28 L'=Ie (WE (D.on 7) m p)) (lk 12 L'=Ie (.int p)):=by
 obtain em:∀{L:Loc}{zv:St},Gr J zv->lk 25 L=Ie (.ref ml)->lk 12 L=Ie (.int p)->E ⟨b,Ig,Ig,d⟩ L (.sub (.loc 25) (.loc 12)) zv (.ok (.int (m:Int)) zv):=λg l1 l2=>yH (zx l1) (zx l2) (sy (g.get hm) (by unfold y6;rewrite[IM];rw[hp];rfl) (H3 lP (by decide)));obtain x1:=yq (x:=15) (yd (em .rfl l.marks hk) yr (oZ (j:=10) (by decide) (by decide)));obtain l1:=l.st (x:=15) (v:=.int ((m/10:Nat):Int)) rfl;obtain k1:lk 12 (st 15 (.int ((m/10:Nat):Int)) L)=Ie (.int p):=zg rfl hk;obtain n1:lk 15 (st 15 (.int ((m/10:Nat):Int)) L)=Ie (.int ((m/10:Nat):Int)):=yw;obtain g1:=Gr.push (J:=J) (.list (za (xi Ig)));obtain ea:E ⟨b,Ig,Ig,d⟩ (st 15 (.int ((m/10:Nat):Int)) L) (.lst (.cons (.str [60,65,62]) (.cons (.str [60,97,62]) (.cons (.str [60,66,62]) (.cons (.str [60,77,62]) (.cons (.str [65]) (.cons (.str [66]) (.cons (.str [60,99,62]) (.cons (.str [77]) .nil))))))))) J (.ok (.ref J.length) (J++[.list (za (xi Ig))])):=y' (zp zV (zp zV (zp zV (zp zV (zp zV (zp zV (zp zV (zp zV zf)))))))) rfl;obtain et:=Yp (b:=b) (d:=d) (L:=st 15 (.int ((m/10:Nat):Int)) L) (l:=[17,7]) (R.gr g1) (zx (x:=9) l1.known) (by decide) (m:=(.lst (.cons (.str [60,67,62]) (.cons (.str [67]) .nil)))) (y' (zp zV (zp zV zf)) rfl);obtain g2:Gr J (((J++[O.list (za (xi Ig))])++[.list (za [17,7])])++[.list (za (if D.on 7 then[17,7]else[]))]):=(g1.tr (Gr.push _)).tr (Gr.push _);obtain h1:(((J++[O.list (za (xi Ig))])++[O.list (za [17,7])])++[O.list (za (if D.on 7 then[17,7]else[]))])[J.length]?=Ie (.list (za (xi Ig))):=(Gr.push _).get ((Gr.push _).get z7);obtain h2:(((J++[O.list (za (xi Ig))])++[O.list (za [17,7])])++[O.list (za (if D.on 7 then[17,7]else[]))])[(J++[O.list (za (xi Ig))]).length+1]?=Ie (.list (za (if D.on 7 then[17,7]else[]))):=by obtain this:=z7 (J:=(J++[O.list (za (xi Ig))])++[O.list (za [17,7])]) (o:=.list (za (if D.on 7 then[17,7]else[])));rwa [IZ (bs:=[O.list (za [17,7])])]at this
 obtain eb:=yd ea et (mS h1 h2 (by cases D.on 7<;>rfl));rw[show za (xi Ig)++za (if D.on 7 then[17,7]else[])=za (xi (D.on 7))by cases D.on 7<;>rfl]at eb;generalize(((J++[O.list (za (xi Ig))])++[O.list (za [17,7])])++[O.list (za (if D.on 7 then[17,7]else[]))])=zv at eb g2;obtain x2:=yq (x:=29) eb;obtain g3:Gr J (zv++[.list (za (xi (D.on 7)))]):=g2.tr (Gr.push _);obtain hn:(zv++[O.list (za (xi (D.on 7)))])[zv.length]?=Ie (.list (za (xi (D.on 7)))):=z7;generalize J7:zv.length=mn at x2 hn;generalize zv++[O.list (za (xi (D.on 7)))]=yQ at x2 hn g3;obtain⟨t1,_,_,t4,t5⟩:=cE (D.on 7) m;obtain l2:=l1.st (x:=29) (v:=.ref mn) rfl;obtain n2:lk 15 (st 29 (.ref mn) (st 15 (.int ((m/10:Nat):Int)) L))=Ie (.int ((m/10:Nat):Int)):=zg rfl n1;obtain k2:lk 12 (st 29 (.ref mn) (st 15 (.int ((m/10:Nat):Int)) L))=Ie (.int p):=zg rfl k1;obtain s2:lk 29 (st 29 (.ref mn) (st 15 (.int ((m/10:Nat):Int)) L))=Ie (.ref mn):=yw;generalize st 29 (.ref mn) (st 15 (.int ((m/10:Nat):Int)) L)=ye at x2 l2 n2 k2 s2;obtain ei:E ⟨b,Ig,Ig,d⟩ ye (.sub (.loc 29) (.bin .mod (.loc 15) (.call (.zu 31) (.cons (.loc 29) .nil)))) yQ (.ok (zU (va (D.on 7) m)) yQ):=by refine yH (zx s2) (yd (zx n2) (y7 rfl (zx s2) (q6 hn (sJ (by lia)))) (qw (by rw[show(za (xi (D.on 7))).length=(xi (D.on 7)).length from IY _];lia))) ?_;rw[show(za (xi (D.on 7))).length=(xi (D.on 7)).length from IY _];exact sy (j:=m/10%(xi (D.on 7)).length) hn (by unfold za;rewrite[IM];rw[t1];rfl) (H3 (HB _ t5) (FV t4 (by decide)))
 obtain eg:E ⟨b,Ig,Ig,d⟩ ye (.sub (.lst (.cons (.str [77]) (.cons (.str [78]) (.cons (.str [78]) (.cons (.str [65]) .nil))))) (.bin .mod (.bin .floordiv (.loc 15) (.int 10)) (.int 4))) yQ (.ok (zU (uW m)) (yQ++[.list (za [8,9,9,5])])):=yH (y' (zp zV (zp zV (zp zV (zp zV zf)))) rfl) (yd (yd (zx n2) yr (oZ (by decide) (by decide))) yr (qw (by decide))) (sy (j:=m/10/10%4) (z7 (o:=.list (za [8,9,9,5]))) (by unfold za uW;rewrite[IM];rw[getD_at (d:=0) (show m/10/10%4<[8,9,9,5].length from HB _ (by decide))];rfl) (H3 (HB _ (by decide)) (by decide)));obtain x3:=u9 (F:=⟨b,Ig,Ig,d⟩) (L:=ye) (xs:=[0,10]) rfl (xU (zp ei (zp eg zf)) rfl) (L':=st 10 (zU (uW m)) (st 0 (zU (va (D.on 7) m)) ye)) rfl;obtain g4:Gr J (yQ++[.list (za [8,9,9,5])]):=g3.tr (Gr.push _);generalize yQ++[O.list (za [8,9,9,5])]=xg at x3 g4;obtain l3:=(l2.st (x:=0) (v:=zU (va (D.on 7) m)) rfl).st (x:=10) (v:=zU (uW m)) rfl;obtain n3:lk 15 (st 10 (zU (uW m)) (st 0 (zU (va (D.on 7) m)) ye))=Ie (.int ((m/10:Nat):Int)):=zg rfl (zg rfl n2);obtain k3:lk 12 (st 10 (zU (uW m)) (st 0 (zU (va (D.on 7) m)) ye))=Ie (.int p):=zg rfl (zg rfl k2);obtain s3:lk 0 (st 10 (zU (uW m)) (st 0 (zU (va (D.on 7) m)) ye))=Ie (zU (va (D.on 7) m)):=zg rfl yw;obtain u3:lk 10 (st 10 (zU (uW m)) (st 0 (zU (va (D.on 7) m)) ye))=Ie (zU (uW m)):=yw;generalize st 10 (zU (uW m)) (st 0 (zU (va (D.on 7) m)) ye)=kF at x3 l3 n3 k3 s3 u3;obtain es:E ⟨b,Ig,Ig,d⟩ kF (.sub (.lst (.cons (.str [112,117,98,108,105,99]) (.cons (.str [112,114,105,118,97,116,101]) (.cons (.str [112,114,111,116,101,99,116,101,100]) .nil)))) (.bin .mod (.bin .floordiv (.loc 15) (.int 360)) (.int 3))) xg (.ok (.str (qX (m/10/360))) (xg++[.list (sL vZ)])):=yH (y' (zp zV (zp zV (zp zV zf))) rfl) (yd (yd (zx n3) yr (oZ (by decide) (by decide))) yr (qw (by decide))) (sy (j:=m/10/360%3) (z7 (o:=.list (sL vZ))) (cy (m/10/360)).2 (H3 (HB _ (by decide)) (by decide)));obtain x4:=u9 (F:=⟨b,Ig,Ig,d⟩) (L:=kF) (xs:=[8,26,14]) rfl (xU (zp (Yz (z:=40) (by decide) (zx n3)) (zp (Yz (z:=120) (by decide) (zx n3)) (zp es zf))) rfl) (L':=st 14 (.str (qX (m/10/360))) (st 26 (.str (pickK (m/10/120))) (st 8 (.str (pickK (m/10/40))) kF))) rfl;obtain g5:Gr J (xg++[.list (sL vZ)]):=g4.tr (Gr.push _);generalize xg++[O.list (sL vZ)]=wB at x4 g5;obtain l4:=((l3.st (x:=8) (v:=.str (pickK (m/10/40))) rfl).st (x:=26) (v:=.str (pickK (m/10/120))) rfl).st (x:=14) (v:=.str (qX (m/10/360))) rfl;obtain k4:lk 12 (st 14 (.str (qX (m/10/360))) (st 26 (.str (pickK (m/10/120))) (st 8 (.str (pickK (m/10/40))) kF)))=Ie (.int p):=zg rfl (zg rfl (zg rfl k3));obtain x5:=yq (F:=⟨b,Ig,Ig,d⟩) (x:=28) (v:=WE (D.on 7) m p) (xU (zp (yd (em g5 l4.marks k4) yr (qw (j:=10) (by decide))) (zp (zx (x:=0) (zg rfl (zg rfl (zg rfl s3)))) (zp (zx (x:=10) (zg rfl (zg rfl (zg rfl u3)))) (zp (zx (x:=8) (zg rfl (zg rfl yw))) (zp (zx (x:=26) (zg rfl yw)) (zp (zx (x:=14) yw) (zp (zx (x:=12) k4) zf))))))) rfl);exact⟨_,wB,λh=>zr x1 (zr x2 (zr x3 (zr x4 (zr x5 h)))),g5,l4.st rfl,yw,zg rfl k4⟩
end
noncomputable def qG(sm c:Bool)(p:Nat):List Nat:=match sm with|Ib=>[16,11]|Ig=>[16,11,[10,12,15].getD (p%3) 0]++(if c then[17]else[])
theorem bJ{D:Dt}{sm:Bool}{p:Nat}:∀j∈qG sm (D.on 7) p,∃x,yn x=Ie j/\(x∈vc\/x=7/\D.on 7=Ib):=by
 have base:∀j,j=16\/j=11\/j=10\/j=12\/j=15->∃x,yn x=Ie j/\(x∈vc\/x=7/\D.on 7=Ib):=λj h=>by
  rcases h with rfl|rfl|rfl|rfl|rfl;.exact⟨6,rfl,.inl (by decide)⟩
  .exact⟨21,rfl,.inl (by decide)⟩
  .exact⟨20,rfl,.inl (by decide)⟩
  .exact⟨8,rfl,.inl (by decide)⟩
  .exact⟨5,rfl,.inl (by decide)⟩
 intro j hj;cases sm with
 |true=>
  rcases IU.mp hj with e|h;.exact base j (.inl e)
  .exact base j (.inr (.inl (I_.mp h)))
 |false=>
  rcases HQ.mp hj with h|h
  .rcases IU.mp h with e|h;.exact base j (.inl e)
   rcases IU.mp h with e|h;.exact base j (.inr (.inl e))
   obtain this:∀i<3,[10,12,15].getD i 0=10\/[10,12,15].getD i 0=12\/[10,12,15].getD i 0=15:=by decide
   obtain h':=this (p%3) (HB _ (by decide));rw[<-I_.mp h]at h';exact base j (.inr (.inr h'))
  .cases hc:D.on 7 with|true=>rw[hc]at h;rw[I_.mp h];exact⟨7,rfl,.inr ⟨rfl,rfl⟩⟩|false=>rw[hc]at h;exact nomatch h
structure AL(w kn m ml:Nat)(sm:Bool)(p al:Nat)(L:Loc):Prop where
 l:LL w kn m ml sm L
 k:lk 12 L=some (.int p)
 a:lk 40 L=some (.ref al)
section
variable{b:Bc}{d lim:Nat}{q:Bool}{J yt zt zy zv:St}{T T':Tb}{Q:Mt}{i g n x j way num ml m p w kn mm al:Nat}{k k' s:List Nat}{L:Loc}{D:Dt}{sm:Bool}{ms:List Nat}
theorem AL.st{y:Nat}{v:V}(h:AL w kn mm ml sm p al L)(h1:WY y=Ig)(h2:IP 12 y=Ig)(h3:IP 40 y=Ig):AL w kn mm ml sm p al (st y v L):=⟨h.l.st h1,zg h2 h.k,zg h3 h.a⟩
theorem NG(R:RI J D)(Z:MI Q lim J D.T)(wt:lim+2=D.w)(ho:yn x=Ie j)(hx:x∈vc\/x=7/\D.on 7=Ib)(h:AL D.w D.kn Q.m ml sm p al L)(h1:lk 5 L=Ie (zU j))(ws:List Nat):X2 λL' zv=>C3 (FL ⟨b,Ig,Ig,d+24⟩ [48] (.str ws) (ws.map λc=>V.str [c]) (.cons (.cond (.not (.call (.zu 75) (.cons (.loc 1) (.cons (.sub (.loc 9) (.wQ (.loc 5))) (.cons (.loc 7) (.cons (.loc 5) (.cons (.loc 48) .nil))))))) (.cons (.ret (.bool Ig)) .nil) .nil) .nil) (ws.map λc=>V.str [c]).length L J (.ok .next L' zv)) (Ask D J zv) (AL D.w D.kn Q.m ml sm p al L'):=by obtain jA:=n_ R.s hx;obtain⟨L',zv,k,k1,k2,_⟩:=FL.all (F:=⟨b,Ig,Ig,d+24⟩) (xs:=[48]) (t:=.str ws) (b:=(.cons (.cond (.not (.call (.zu 75) (.cons (.loc 1) (.cons (.sub (.loc 9) (.wQ (.loc 5))) (.cons (.loc 7) (.cons (.loc 5) (.cons (.loc 48) .nil))))))) (.cons (.ret (.bool Ig)) .nil) .nil) .nil)) (l:=ws.map λc=>V.str [c]) (zs:=ws) (g:=λzz c=>.str [c]) (IY _) (λp z h=>by rewrite[IM];rw[h];rfl) (P:=λzz zz L zv=>C3 (Ask D J zv) (AL D.w D.kn Q.m ml sm p al L) (lk 5 L=Ie (zU j))) (λzz zz zz zz zz=>rfl) (by rintro r c ys L zv hp hd⟨a,l,l1⟩;obtain⟨yQ,cc,a1⟩:=Lr (b:=b) (d:=d) (k:=[c]) a.r (Z.ask a.k) wt jA ho;have l2:=l.st (y:=48) (v:=.str [c]) rfl rfl rfl;have eQ:lk 5 (st 48 (.str [c]) L)=Ie (zU j):=zg rfl l1;exact⟨_,_,yQ,rfl,zr (zO (vH (y0 (yk rfl) (zp (zx l2.l.p9) (zp (s_ (q:=Ig) a.r hx l2.l.known (fh (y:=5) ho eQ)) (zp (zx l2.l.model) (zp (zx eQ) (zp (zx yw) zf))))) cc)) zj) zj,a.tr a1,l2,eQ⟩) (L:=L) (J:=J) ⟨⟨R,.re⟩,h,h1⟩;exact⟨L',zv,k,k1,k2⟩
theorem NK(R:RI J D)(Z:MI Q lim J D.T)(wt:lim+2=D.w)(l:LL D.w D.kn Q.m ml sm L)(hk:lk 12 L=Ie (.int p)):X2 λL' zv=>C3 (XB ⟨b,Ig,Ig,d+24⟩ L (.cons (.asg 40 (.ite (.loc 37) (.lst (.cons (.str [60,66,62]) (.cons (.str [60,99,62]) .nil))) (.bin .add (.lst (.cons (.str [60,66,62]) (.cons (.str [60,99,62]) (.cons (.sub (.lst (.cons (.str [60,97,62]) (.cons (.str [60,77,62]) (.cons (.str [60,65,62]) .nil)))) (.bin .mod (.loc 12) (.int 3))) .nil)))) (.bin .mul (.lst (.cons (.str [60,67,62]) .nil)) (.call (.zu 45) (.cons (.cmp .yM (.str [67]) (.loc 9)) .nil)))))) (.cons (.for [5] .plain (.loc 40) (.cons (.for [48] .plain (.ite (.loc 37) (.str [97]) (.str [97,98,99])) (.cons (.cond (.not (.call (.zu 75) (.cons (.loc 1) (.cons (.sub (.loc 9) (.wQ (.loc 5))) (.cons (.loc 7) (.cons (.loc 5) (.cons (.loc 48) .nil))))))) (.cons (.ret (.bool Ig)) .nil) .nil) .nil)) .nil)) (.cons (.cond (.and (.cons (.not (.loc 37)) (.cons (.not (.call (.zu 103) (.cons (.loc 1) (.cons (.loc 9) (.cons (.loc 7) (.cons (.sub (.loc 40) (.bin .mod (.loc 12) (.int 3))) .nil)))))) .nil))) (.cons (.ret (.bool Ig)) .nil) .nil) .nil))) J (.ok .next L' zv)) (Ask D J zv) (LL D.w D.kn Q.m ml sm L'):=by
 obtain⟨al,zv,e7,g7,ha⟩:X2 λal zv=>C3 (E ⟨b,Ig,Ig,d+24⟩ L (.ite (.loc 37) (.lst (.cons (.str [60,66,62]) (.cons (.str [60,99,62]) .nil))) (.bin .add (.lst (.cons (.str [60,66,62]) (.cons (.str [60,99,62]) (.cons (.sub (.lst (.cons (.str [60,97,62]) (.cons (.str [60,77,62]) (.cons (.str [60,65,62]) .nil)))) (.bin .mod (.loc 12) (.int 3))) .nil)))) (.bin .mul (.lst (.cons (.str [60,67,62]) .nil)) (.call (.zu 45) (.cons (.cmp .yM (.str [67]) (.loc 9)) .nil))))) J (.ok (.ref al) zv)) (Gr J zv) (zv[al]?=Ie (.list (za (qG sm (D.on 7) p)))):=by
  cases sm with
  |true=>exact⟨_,_,wb (zx l.small) (y' (zp zV (zp zV zf)) rfl),Gr.push _,z7⟩
  |false=>
   obtain g1:=Gr.push (J:=J) (.list (za [10,12,15]));obtain e1:E ⟨b,Ig,Ig,d+24⟩ L (.sub (.lst (.cons (.str [60,97,62]) (.cons (.str [60,77,62]) (.cons (.str [60,65,62]) .nil)))) (.bin .mod (.loc 12) (.int 3))) J (.ok (zU ([10,12,15].getD (p%3) 0)) (J++[.list (za [10,12,15])])):=yH (y' (zp zV (zp zV (zp zV zf))) rfl) (yd (zx hk) yr (qw (by decide))) (sy (j:=p%3) (z7 (o:=.list (za [10,12,15]))) (by unfold za;rewrite[IM];rw[getD_at (d:=0) (show p%3<[10,12,15].length from HB _ (by decide))];rfl) (H3 (HB _ (by decide)) (by decide)));obtain ea:E ⟨b,Ig,Ig,d+24⟩ L (.lst (.cons (.str [60,66,62]) (.cons (.str [60,99,62]) (.cons (.sub (.lst (.cons (.str [60,97,62]) (.cons (.str [60,77,62]) (.cons (.str [60,65,62]) .nil)))) (.bin .mod (.loc 12) (.int 3))) .nil)))) J (.ok (.ref (J++[O.list (za [10,12,15])]).length) ((J++[.list (za [10,12,15])])++[.list (za [16,11,[10,12,15].getD (p%3) 0])])):=y' (zp zV (zp zV (zp e1 zf))) rfl;obtain g2:=g1.tr (Gr.push (.list (za [16,11,[10,12,15].getD (p%3) 0])));obtain et:=Yp (b:=b) (d:=d+24) (L:=L) (l:=[17]) (R.gr g2) (zx (x:=9) l.known) (by decide) (m:=(.lst (.cons (.str [60,67,62]) .nil))) (y' (zp zV zf) rfl);generalize(J++[O.list (za [10,12,15])])=zv at ea et g2;obtain h1:(((zv++[O.list (za [16,11,[10,12,15].getD (p%3) 0])])++[O.list (za [17])])++[O.list (za (if D.on 7 then[17]else[]))])[zv.length]?=Ie (.list (za [16,11,[10,12,15].getD (p%3) 0])):=(Gr.push _).get ((Gr.push _).get z7);obtain h2:(((zv++[O.list (za [16,11,[10,12,15].getD (p%3) 0])])++[O.list (za [17])])++[O.list (za (if D.on 7 then[17]else[]))])[(zv++[O.list (za [16,11,[10,12,15].getD (p%3) 0])]).length+1]?=Ie (.list (za (if D.on 7 then[17]else[]))):=by obtain this:=z7 (J:=(zv++[O.list (za [16,11,[10,12,15].getD (p%3) 0])])++[O.list (za [17])]) (o:=.list (za (if D.on 7 then[17]else[])));rwa [IZ (bs:=[O.list (za [17])])]at this
   obtain eb:=yd ea et (mS h1 h2 (by cases D.on 7<;>rfl));rw[<-rQ]at eb;exact⟨_,_,we (zx l.small) eb,(g2.tr ((Gr.push _).tr (Gr.push _))).tr (Gr.push _),z7⟩
 have a7:=Ask.of R g7;have bN:AL D.w D.kn Q.m ml sm p al (st 40 (.ref al) L):=⟨l.st rfl,zg rfl hk,yw⟩;have len:(qG sm (D.on 7) p).length<=10:=by cases sm with|true=>exact(by decide:2<=10)|false=>show([16,11,_]++(if D.on 7 then[17]else[])).length<=10;rw[IZ];split;exact(show 3+1<=10 by decide);exact(show 3+0<=10 by decide)
 obtain⟨zN,yQ,k,a1,l1⟩:=FL.all (F:=⟨b,Ig,Ig,d+24⟩) (xs:=[5]) (t:=.list al) (b:=(.cons (.for [48] .plain (.ite (.loc 37) (.str [97]) (.str [97,98,99])) (.cons (.cond (.not (.call (.zu 75) (.cons (.loc 1) (.cons (.sub (.loc 9) (.wQ (.loc 5))) (.cons (.loc 7) (.cons (.loc 5) (.cons (.loc 48) .nil))))))) (.cons (.ret (.bool Ig)) .nil) .nil) .nil)) .nil)) (l:=za (qG sm (D.on 7) p)) (zs:=qG sm (D.on 7) p) (g:=λzz x=>zU x) (IY _) (λp z h=>by unfold za;rewrite[IM];rw[h];rfl) (P:=λzz zz L zk=>Ask D zv zk/\AL D.w D.kn Q.m ml sm p al L) (λzz zz zz zz h=>h.1.k.get ha) (by
  rintro r j ys L zk hp hd⟨a,l⟩;obtain⟨x,ho,hx⟩:=bJ j (I9 hp);obtain l2:=l.st (y:=5) (v:=zU j) rfl rfl rfl;have e8:E ⟨b,Ig,Ig,d+24⟩ (st 5 (zU j) L) (.ite (.loc 37) (.str [97]) (.str [97,98,99])) zk (.ok (.str (if sm then[97]else[97,98,99])) zk):=by cases sm with|true=>exact wb (zx l2.l.small) zV|false=>exact we (zx l2.l.small) zV
  obtain⟨L',xg,k,a2,l3⟩:=NG (b:=b) (d:=d) a.r (Z.ask (a7.k.tr a.k)) wt ho hx l2 yw (if sm then[97]else[97,98,99]);exact⟨_,L',xg,rfl,zr (xY (t:=.str (if sm then[97]else[97,98,99])) rfl e8 rfl rfl k) zj,a.tr a2,l3⟩) (L:=st 40 (.ref al) L) (J:=zv) ⟨⟨a7.r,.re⟩,bN⟩;obtain aa:=a7.tr a1;obtain x7:=yq (x:=40) e7;have x8:=xY (t:=.list al) rfl (zx bN.a) ha rfl k;cases sm with|true=>exact⟨zN,yQ,zr x7 (zr x8 (zr (zO (tN (vH (zx l1.l.small))) zj) zj)),aa,l1.l⟩|false=>have hj:(qG Ig (D.on 7) p)[p%3]?=Ie ((qG Ig (D.on 7) p).getD (p%3) 0):=getD_at (by show p%3<([16,11,_]++_).length;rw[IZ];obtain this:=HB p (show 0<3 by decide);exact HY this (HE _ _));obtain⟨x,ho,hx⟩:=bJ _ (I9 hj);obtain⟨xg,c,a2⟩:=Lh (b:=b) (d:=d+2) aa.r (Z.ask aa.k) wt hx ho;obtain ea:=yH (F:=⟨b,Ig,Ig,d+24⟩) (zx l1.a) (yd (zx l1.k) (yr (i:=3)) (qw (by decide))) (sy (j:=p%3) (a1.k.get ha) (by unfold za;rewrite[IM];rw[hj];rfl) (H3 (HB _ (by decide)) (by decide)));exact⟨zN,xg,zr x7 (zr x8 (zr (zO (vt (vH (zx l1.l.small)) (ub (vH (y0 (yk rfl) (zp (zx l1.l.p9) (zp (zx l1.l.known) (zp (zx l1.l.model) (zp ea zf)))) c)))) zj) zj)),aa.tr a2,l1.l⟩
end
theorem Rn{T:Tb}{way i g num e:Nat}{k k' s:List Nat}:plainS (vI T way i g k k' s num e).1=Ib:=by
 obtain mx:plainS (wh T i g)=Ib:=by
  unfold wh;split;.rfl
  .split<;>rfl
 unfold vI;split;.rfl
 split;.exact mx
 split;.cases(yW k (T i).ms).bind live<;>rfl
 .cases vQ T i k<;>rfl
theorem SH{F:Fr}{J:St}{s:List Nat}(h:plainS s=Ib):x_ F .ne (.str s) (.str s) J Ig:=by obtain this:=qE (F:=F) (J:=J) h h;rw[xd.mpr rfl]at this;exact this
theorem M0{D:Dt}(m:Nat):kC D (va (D.on 7) m):=by
 obtain⟨_,h1,h2,_⟩:=cE (D.on 7) m;generalize va (D.on 7) m=i at*;have own:∀{x i:Nat},yn x=Ie i->x∈vc->kC D i:=λh hx=>.inl ⟨_,h,.inl hx⟩;have WR:i=17\/i=7->D.on 7=Ib:=λh=>by cases q:D.on 7 with|true=>rfl|false=>obtain this:=h2 q;lia
 unfold targets at h1;rcases IU.mp h1 with rfl|h1;exact .inr ⟨by decide,.inl (by decide)⟩;rcases IU.mp h1 with rfl|h1;exact .inr ⟨by decide,.inl (by decide)⟩;rcases IU.mp h1 with rfl|h1;exact .inr ⟨by decide,.inr ⟨rfl,WR (.inr rfl)⟩⟩;rcases IU.mp h1 with rfl|h1;exact .inr ⟨by decide,.inl (by decide)⟩;rcases IU.mp h1 with rfl|h1;exact own (x:=20) rfl (by decide);rcases IU.mp h1 with rfl|h1;exact own (x:=21) rfl (by decide);rcases IU.mp h1 with rfl|h1;exact own (x:=8) rfl (by decide);rcases IU.mp h1 with rfl|h1;exact own (x:=5) rfl (by decide);rcases IU.mp h1 with rfl|h1;exact own (x:=6) rfl (by decide);rw[I_.mp h1];exact .inl ⟨7,rfl,.inr ⟨rfl,WR (.inl (I_.mp h1))⟩⟩
section
variable{b:Bc}{d lim:Nat}{q:Bool}{J yt zt zy zv:St}{T T':Tb}{Q:Mt}{i g n x j way num ml m p w kn mm al:Nat}{k k' s:List Nat}{L:Loc}{D:Dt}{sm:Bool}{ms:List Nat}
structure LS(Q:Mt)(lim w kn:Nat)(c:Bool)(J:St)(D:Dt):Prop where
 r:RI J D
 z:MI Q lim J D.T
 l:lim+2=w
 w:D.w=w
 kn:D.kn=kn
 c:D.on 7=c
theorem XF(S:LS Q lim w kn (D.on 7) J D)(hm:Q.xs=y6 ms)(sT:Q.x=ml)(l:LL w kn Q.m ml sm L)(hk:lk 12 L=Ie (.int p))(hp:ms[p]?=Ie m)(lP:p<10):X3 λL' zv D'=>C3 (XB ⟨b,Ig,Ig,d+24⟩ L (.cons (.asg 15 (.bin .floordiv (.sub (.loc 25) (.loc 12)) (.int 10))) (.cons (.asg 29 (.bin .add (.lst (.cons (.str [60,65,62]) (.cons (.str [60,97,62]) (.cons (.str [60,66,62]) (.cons (.str [60,77,62]) (.cons (.str [65]) (.cons (.str [66]) (.cons (.str [60,99,62]) (.cons (.str [77]) .nil))))))))) (.bin .mul (.lst (.cons (.str [60,67,62]) (.cons (.str [67]) .nil))) (.call (.zu 45) (.cons (.cmp .yM (.str [67]) (.loc 9)) .nil))))) (.cons (.y8 [0,10] (.tup (.cons (.sub (.loc 29) (.bin .mod (.loc 15) (.call (.zu 31) (.cons (.loc 29) .nil)))) (.cons (.sub (.lst (.cons (.str [77]) (.cons (.str [78]) (.cons (.str [78]) (.cons (.str [65]) .nil))))) (.bin .mod (.bin .floordiv (.loc 15) (.int 10)) (.int 4))) .nil)))) (.cons (.y8 [8,26,14] (.tup (.cons (.sub (.str [97,98,99]) (.bin .mod (.bin .floordiv (.loc 15) (.int 40)) (.int 3))) (.cons (.sub (.str [97,98,99]) (.bin .mod (.bin .floordiv (.loc 15) (.int 120)) (.int 3))) (.cons (.sub (.lst (.cons (.str [112,117,98,108,105,99]) (.cons (.str [112,114,105,118,97,116,101]) (.cons (.str [112,114,111,116,101,99,116,101,100]) .nil)))) (.bin .mod (.bin .floordiv (.loc 15) (.int 360)) (.int 3))) .nil))))) (.cons (.asg 28 (.tup (.cons (.bin .mod (.sub (.loc 25) (.loc 12)) (.int 10)) (.cons (.loc 0) (.cons (.loc 10) (.cons (.loc 8) (.cons (.loc 26) (.cons (.loc 14) (.cons (.loc 12) .nil))))))))) (.cons (.cond (.cmp .ne (.call (.zu 102) (.cons (.loc 1) (.cons (.loc 9) (.cons (.loc 28) .nil)))) (.call (.zu 101) (.cons (.loc 7) (.cons (.loc 28) .nil)))) (.cons (.ret (.bool Ig)) .nil) .nil) (.cons (.asg 40 (.ite (.loc 37) (.lst (.cons (.str [60,66,62]) (.cons (.str [60,99,62]) .nil))) (.bin .add (.lst (.cons (.str [60,66,62]) (.cons (.str [60,99,62]) (.cons (.sub (.lst (.cons (.str [60,97,62]) (.cons (.str [60,77,62]) (.cons (.str [60,65,62]) .nil)))) (.bin .mod (.loc 12) (.int 3))) .nil)))) (.bin .mul (.lst (.cons (.str [60,67,62]) .nil)) (.call (.zu 45) (.cons (.cmp .yM (.str [67]) (.loc 9)) .nil)))))) (.cons (.for [5] .plain (.loc 40) (.cons (.for [48] .plain (.ite (.loc 37) (.str [97]) (.str [97,98,99])) (.cons (.cond (.not (.call (.zu 75) (.cons (.loc 1) (.cons (.sub (.loc 9) (.wQ (.loc 5))) (.cons (.loc 7) (.cons (.loc 5) (.cons (.loc 48) .nil))))))) (.cons (.ret (.bool Ig)) .nil) .nil) .nil)) .nil)) (.cons (.cond (.and (.cons (.not (.loc 37)) (.cons (.not (.call (.zu 103) (.cons (.loc 1) (.cons (.loc 9) (.cons (.loc 7) (.cons (.sub (.loc 40) (.bin .mod (.loc 12) (.int 3))) .nil)))))) .nil))) (.cons (.ret (.bool Ig)) .nil) .nil) .nil))))))))) J (.ok .next L' zv)) (LS Q lim w kn (D.on 7) zv D') (LL w kn Q.m ml sm L'):=by obtain⟨R,Z,hl,rfl,rfl,_⟩:=S;subst sT;obtain⟨zN,yQ,hx,g1,l1,hd,eY⟩:=NI (b:=b) (d:=d+24) R l hk (by rewrite[Z.x];rw[hm]) hp lP;obtain R1:=R.gr g1;obtain Z1:=Z.gr g1;obtain⟨_,ht,_⟩:=cE (D.on 7) m;obtain⟨e,xg,c1,D2,R2,e1,e2,e3,e4,lo⟩:=Le (b:=b) (d:=d) R1 (M0 m) ht (WH m) (kb (m/10/40)).1 (kb (m/10/120)).1 (cy (m/10/360)).1 lP (HB m (by decide:0<10));obtain Z2:=Z1.lo hl lo;obtain⟨num,main,hw,_⟩:=R2.wo;obtain⟨wB,c2,Z3,mu⟩:=Lf (b:=b) (d:=d+20) (way:=m%10) Z2 (by obtain this:=xr hw;lia) ht (WH m) (kb (m/10/40)).1 (kb (m/10/120)).1 (cy (m/10/360)).1 lP e;obtain R3:=R2.mu (hl.trans e1.symm) mu;rw[<-e3]at Z3;obtain x6:=zO (F:=⟨b,Ig,Ig,d+24⟩) (L:=zN) (a:=(.cons (.ret (.bool Ig)) .nil)) (zZ (xk (g:=102) (x:=.loc 1) (y:=.loc 9) (z:=.loc 28) rfl (zx l1.p9) (zx l1.known) (zx hd) c1) (yU (g:=101) (x:=.loc 7) (y:=.loc 28) rfl (zx l1.model) (zx hd) c2) (SH Rn)) (zj (F:=⟨b,Ig,Ig,d+24⟩) (L:=zN));rw[<-e1,<-e2]at l1;obtain⟨L',wL,k,a,l4⟩:=NK (b:=b) (d:=d) R3 Z3 (hl.trans e1.symm) l1 eY;rw[e1,e2]at l4;exact⟨L',wL,D2,hx (zr x6 k),⟨a.r,Z3.ask a.k,hl,e1,e2,e4⟩,l4⟩
theorem NH(S:LS Q lim w kn (decide (ms.length/2<p)) J D)(hm:Q.xs=y6 ms)(sT:Q.x=ml)(l:LL w kn Q.m ml sm L)(hk:lk 12 L=Ie (.int p))(hp:ms[p]?=Ie m)(hl:ms.length<=7):X3 λL' zv D'=>C3 (XB ⟨b,Ig,Ig,d+24⟩ L (.cons (.cond (.cmp .eq (.loc 12) (.bin .floordiv (.call (.zu 31) (.cons (.loc 25) .nil)) (.int 2))) (.cons (.y3 (.loc 9) (.str [67]) (.zl (.loc 1) 55 (.cons (.str [67]) (.cons (.bool Ib) (.cons (.sub (.loc 9) (.str [65])) .nil))))) .nil) .nil) (.cons (.asg 15 (.bin .floordiv (.sub (.loc 25) (.loc 12)) (.int 10))) (.cons (.asg 29 (.bin .add (.lst (.cons (.str [60,65,62]) (.cons (.str [60,97,62]) (.cons (.str [60,66,62]) (.cons (.str [60,77,62]) (.cons (.str [65]) (.cons (.str [66]) (.cons (.str [60,99,62]) (.cons (.str [77]) .nil))))))))) (.bin .mul (.lst (.cons (.str [60,67,62]) (.cons (.str [67]) .nil))) (.call (.zu 45) (.cons (.cmp .yM (.str [67]) (.loc 9)) .nil))))) (.cons (.y8 [0,10] (.tup (.cons (.sub (.loc 29) (.bin .mod (.loc 15) (.call (.zu 31) (.cons (.loc 29) .nil)))) (.cons (.sub (.lst (.cons (.str [77]) (.cons (.str [78]) (.cons (.str [78]) (.cons (.str [65]) .nil))))) (.bin .mod (.bin .floordiv (.loc 15) (.int 10)) (.int 4))) .nil)))) (.cons (.y8 [8,26,14] (.tup (.cons (.sub (.str [97,98,99]) (.bin .mod (.bin .floordiv (.loc 15) (.int 40)) (.int 3))) (.cons (.sub (.str [97,98,99]) (.bin .mod (.bin .floordiv (.loc 15) (.int 120)) (.int 3))) (.cons (.sub (.lst (.cons (.str [112,117,98,108,105,99]) (.cons (.str [112,114,105,118,97,116,101]) (.cons (.str [112,114,111,116,101,99,116,101,100]) .nil)))) (.bin .mod (.bin .floordiv (.loc 15) (.int 360)) (.int 3))) .nil))))) (.cons (.asg 28 (.tup (.cons (.bin .mod (.sub (.loc 25) (.loc 12)) (.int 10)) (.cons (.loc 0) (.cons (.loc 10) (.cons (.loc 8) (.cons (.loc 26) (.cons (.loc 14) (.cons (.loc 12) .nil))))))))) (.cons (.cond (.cmp .ne (.call (.zu 102) (.cons (.loc 1) (.cons (.loc 9) (.cons (.loc 28) .nil)))) (.call (.zu 101) (.cons (.loc 7) (.cons (.loc 28) .nil)))) (.cons (.ret (.bool Ig)) .nil) .nil) (.cons (.asg 40 (.ite (.loc 37) (.lst (.cons (.str [60,66,62]) (.cons (.str [60,99,62]) .nil))) (.bin .add (.lst (.cons (.str [60,66,62]) (.cons (.str [60,99,62]) (.cons (.sub (.lst (.cons (.str [60,97,62]) (.cons (.str [60,77,62]) (.cons (.str [60,65,62]) .nil)))) (.bin .mod (.loc 12) (.int 3))) .nil)))) (.bin .mul (.lst (.cons (.str [60,67,62]) .nil)) (.call (.zu 45) (.cons (.cmp .yM (.str [67]) (.loc 9)) .nil)))))) (.cons (.for [5] .plain (.loc 40) (.cons (.for [48] .plain (.ite (.loc 37) (.str [97]) (.str [97,98,99])) (.cons (.cond (.not (.call (.zu 75) (.cons (.loc 1) (.cons (.sub (.loc 9) (.wQ (.loc 5))) (.cons (.loc 7) (.cons (.loc 5) (.cons (.loc 48) .nil))))))) (.cons (.ret (.bool Ig)) .nil) .nil) .nil)) .nil)) (.cons (.cond (.and (.cons (.not (.loc 37)) (.cons (.not (.call (.zu 103) (.cons (.loc 1) (.cons (.loc 9) (.cons (.loc 7) (.cons (.sub (.loc 40) (.bin .mod (.loc 12) (.int 3))) .nil)))))) .nil))) (.cons (.ret (.bool Ig)) .nil) .nil) .nil)))))))))) J (.ok .next L' zv)) (LS Q lim w kn (decide (ms.length/2<p+1)) zv D') (LL w kn Q.m ml sm L'):=by
 obtain yJ:=(IF.mp hp).1;obtain hx:=S.z.x;rw[hm,sT]at hx;obtain e0:=zZ (F:=⟨b,Ig,Ig,d+24⟩) (L:=L) (zx hk) (yd (y7 (g:=31) (x:=.loc 25) rfl (zx l.marks) (q6 hx (xG (by unfold y6;rw[IY];lia)))) (yr (i:=2)) (oZ (by decide) (by decide))) rg;have e0:E ⟨b,Ig,Ig,d+24⟩ L (.cmp .eq (.loc 12) (.bin .floordiv (.call (.zu 31) (.cons (.loc 25) .nil)) (.int 2))) J (.ok (.bool (p==ms.length/2)) J):=by rw[show(y6 ms).length=ms.length from IY _]at e0;rw[<-oR];exact e0
 obtain⟨R,Z,wt,hw,jG,hc⟩:=S;by_cases q:p=ms.length/2
 .rw[beq_iff_eq.mpr q]at e0;obtain off:D.on 7=Ig:=by rw[hc];exact decide_eq_false (by lia)
  obtain rN:decide (ms.length/2<p+1)=Ib:=decide_eq_true (by lia);rw[<-hw,<-jG]at l;obtain⟨D1,yz,x1,R1,e1,e2,e3,e4,lo⟩:=Ja (b:=b) (d:=d+20) R off l.p9 l.known;rw[hw,jG]at l;obtain⟨L',zv,D',k,S',l'⟩:=XF (b:=b) (d:=d) ⟨R1,by rw[e3];exact Z.lo (wt.trans hw.symm) lo,wt,e1.trans hw,e2.trans jG,rfl⟩ hm sT l hk hp (by lia);rw[e4]at S';exact⟨L',zv,D',zr (ya e0 (zr x1 zj)) k,by rw[rN];exact S',l'⟩
 .rw[beq_false_of_ne q]at e0;obtain⟨L',zv,D',k,S',l'⟩:=XF (b:=b) (d:=d) ⟨R,Z,wt,hw,jG,rfl⟩ hm sT l hk hp (by lia);rw[hc,show decide (ms.length/2<p)=decide (ms.length/2<p+1)from decide_eq_decide.mpr (by lia)]at S';exact⟨L',zv,D',zr (zO e0 zj) k,S',l'⟩
end
section
variable{b:Bc}{d lim:Nat}{q:Bool}{J yt zt zy zv:St}{T T':Tb}{Q:Mt}{i g n x j way num ml m p w kn mm al:Nat}{k k' s:List Nat}{L:Loc}{D:Dt}{sm:Bool}{ms:List Nat}
theorem NJ(S:LS Q lim w kn Ig J D)(hm:Q.xs=y6 ms)(sT:Q.x=ml)(l:LL w kn Q.m ml sm L)(hl:ms.length<=7):X3 λL' zv D'=>C7 (X1 ⟨b,Ig,Ig,d+24⟩ L (.for [12] .range (.call (.zu 31) (.cons (.loc 25) .nil)) (.cons (.cond (.cmp .eq (.loc 12) (.bin .floordiv (.call (.zu 31) (.cons (.loc 25) .nil)) (.int 2))) (.cons (.y3 (.loc 9) (.str [67]) (.zl (.loc 1) 55 (.cons (.str [67]) (.cons (.bool Ib) (.cons (.sub (.loc 9) (.str [65])) .nil))))) .nil) .nil) (.cons (.asg 15 (.bin .floordiv (.sub (.loc 25) (.loc 12)) (.int 10))) (.cons (.asg 29 (.bin .add (.lst (.cons (.str [60,65,62]) (.cons (.str [60,97,62]) (.cons (.str [60,66,62]) (.cons (.str [60,77,62]) (.cons (.str [65]) (.cons (.str [66]) (.cons (.str [60,99,62]) (.cons (.str [77]) .nil))))))))) (.bin .mul (.lst (.cons (.str [60,67,62]) (.cons (.str [67]) .nil))) (.call (.zu 45) (.cons (.cmp .yM (.str [67]) (.loc 9)) .nil))))) (.cons (.y8 [0,10] (.tup (.cons (.sub (.loc 29) (.bin .mod (.loc 15) (.call (.zu 31) (.cons (.loc 29) .nil)))) (.cons (.sub (.lst (.cons (.str [77]) (.cons (.str [78]) (.cons (.str [78]) (.cons (.str [65]) .nil))))) (.bin .mod (.bin .floordiv (.loc 15) (.int 10)) (.int 4))) .nil)))) (.cons (.y8 [8,26,14] (.tup (.cons (.sub (.str [97,98,99]) (.bin .mod (.bin .floordiv (.loc 15) (.int 40)) (.int 3))) (.cons (.sub (.str [97,98,99]) (.bin .mod (.bin .floordiv (.loc 15) (.int 120)) (.int 3))) (.cons (.sub (.lst (.cons (.str [112,117,98,108,105,99]) (.cons (.str [112,114,105,118,97,116,101]) (.cons (.str [112,114,111,116,101,99,116,101,100]) .nil)))) (.bin .mod (.bin .floordiv (.loc 15) (.int 360)) (.int 3))) .nil))))) (.cons (.asg 28 (.tup (.cons (.bin .mod (.sub (.loc 25) (.loc 12)) (.int 10)) (.cons (.loc 0) (.cons (.loc 10) (.cons (.loc 8) (.cons (.loc 26) (.cons (.loc 14) (.cons (.loc 12) .nil))))))))) (.cons (.cond (.cmp .ne (.call (.zu 102) (.cons (.loc 1) (.cons (.loc 9) (.cons (.loc 28) .nil)))) (.call (.zu 101) (.cons (.loc 7) (.cons (.loc 28) .nil)))) (.cons (.ret (.bool Ig)) .nil) .nil) (.cons (.asg 40 (.ite (.loc 37) (.lst (.cons (.str [60,66,62]) (.cons (.str [60,99,62]) .nil))) (.bin .add (.lst (.cons (.str [60,66,62]) (.cons (.str [60,99,62]) (.cons (.sub (.lst (.cons (.str [60,97,62]) (.cons (.str [60,77,62]) (.cons (.str [60,65,62]) .nil)))) (.bin .mod (.loc 12) (.int 3))) .nil)))) (.bin .mul (.lst (.cons (.str [60,67,62]) .nil)) (.call (.zu 45) (.cons (.cmp .yM (.str [67]) (.loc 9)) .nil)))))) (.cons (.for [5] .plain (.loc 40) (.cons (.for [48] .plain (.ite (.loc 37) (.str [97]) (.str [97,98,99])) (.cons (.cond (.not (.call (.zu 75) (.cons (.loc 1) (.cons (.sub (.loc 9) (.wQ (.loc 5))) (.cons (.loc 7) (.cons (.loc 5) (.cons (.loc 48) .nil))))))) (.cons (.ret (.bool Ig)) .nil) .nil) .nil)) .nil)) (.cons (.cond (.and (.cons (.not (.loc 37)) (.cons (.not (.call (.zu 103) (.cons (.loc 1) (.cons (.loc 9) (.cons (.loc 7) (.cons (.sub (.loc 40) (.bin .mod (.loc 12) (.int 3))) .nil)))))) .nil))) (.cons (.ret (.bool Ig)) .nil) .nil) .nil))))))))))) J (.ok .next L' zv)) (RI zv D') (MI Q lim zv D'.T) (lim+2=D'.w) (D'.w=w) (D'.kn=kn) (LL w kn Q.m ml sm L'):=by obtain hx:=S.z.x;rw[hm,sT]at hx;have VY:small ((ms.length:Nat):Int)=Ib:=Hz (by rw[FT];exact I8 hl (by decide));obtain⟨L',zv,k,l',D',S'⟩:=FL.all (F:=⟨b,Ig,Ig,d+24⟩) (xs:=[12]) (t:=.range (ms.length:Nat)) (b:=(.cons (.cond (.cmp .eq (.loc 12) (.bin .floordiv (.call (.zu 31) (.cons (.loc 25) .nil)) (.int 2))) (.cons (.y3 (.loc 9) (.str [67]) (.zl (.loc 1) 55 (.cons (.str [67]) (.cons (.bool Ib) (.cons (.sub (.loc 9) (.str [65])) .nil))))) .nil) .nil) (.cons (.asg 15 (.bin .floordiv (.sub (.loc 25) (.loc 12)) (.int 10))) (.cons (.asg 29 (.bin .add (.lst (.cons (.str [60,65,62]) (.cons (.str [60,97,62]) (.cons (.str [60,66,62]) (.cons (.str [60,77,62]) (.cons (.str [65]) (.cons (.str [66]) (.cons (.str [60,99,62]) (.cons (.str [77]) .nil))))))))) (.bin .mul (.lst (.cons (.str [60,67,62]) (.cons (.str [67]) .nil))) (.call (.zu 45) (.cons (.cmp .yM (.str [67]) (.loc 9)) .nil))))) (.cons (.y8 [0,10] (.tup (.cons (.sub (.loc 29) (.bin .mod (.loc 15) (.call (.zu 31) (.cons (.loc 29) .nil)))) (.cons (.sub (.lst (.cons (.str [77]) (.cons (.str [78]) (.cons (.str [78]) (.cons (.str [65]) .nil))))) (.bin .mod (.bin .floordiv (.loc 15) (.int 10)) (.int 4))) .nil)))) (.cons (.y8 [8,26,14] (.tup (.cons (.sub (.str [97,98,99]) (.bin .mod (.bin .floordiv (.loc 15) (.int 40)) (.int 3))) (.cons (.sub (.str [97,98,99]) (.bin .mod (.bin .floordiv (.loc 15) (.int 120)) (.int 3))) (.cons (.sub (.lst (.cons (.str [112,117,98,108,105,99]) (.cons (.str [112,114,105,118,97,116,101]) (.cons (.str [112,114,111,116,101,99,116,101,100]) .nil)))) (.bin .mod (.bin .floordiv (.loc 15) (.int 360)) (.int 3))) .nil))))) (.cons (.asg 28 (.tup (.cons (.bin .mod (.sub (.loc 25) (.loc 12)) (.int 10)) (.cons (.loc 0) (.cons (.loc 10) (.cons (.loc 8) (.cons (.loc 26) (.cons (.loc 14) (.cons (.loc 12) .nil))))))))) (.cons (.cond (.cmp .ne (.call (.zu 102) (.cons (.loc 1) (.cons (.loc 9) (.cons (.loc 28) .nil)))) (.call (.zu 101) (.cons (.loc 7) (.cons (.loc 28) .nil)))) (.cons (.ret (.bool Ig)) .nil) .nil) (.cons (.asg 40 (.ite (.loc 37) (.lst (.cons (.str [60,66,62]) (.cons (.str [60,99,62]) .nil))) (.bin .add (.lst (.cons (.str [60,66,62]) (.cons (.str [60,99,62]) (.cons (.sub (.lst (.cons (.str [60,97,62]) (.cons (.str [60,77,62]) (.cons (.str [60,65,62]) .nil)))) (.bin .mod (.loc 12) (.int 3))) .nil)))) (.bin .mul (.lst (.cons (.str [60,67,62]) .nil)) (.call (.zu 45) (.cons (.cmp .yM (.str [67]) (.loc 9)) .nil)))))) (.cons (.for [5] .plain (.loc 40) (.cons (.for [48] .plain (.ite (.loc 37) (.str [97]) (.str [97,98,99])) (.cons (.cond (.not (.call (.zu 75) (.cons (.loc 1) (.cons (.sub (.loc 9) (.wQ (.loc 5))) (.cons (.loc 7) (.cons (.loc 5) (.cons (.loc 48) .nil))))))) (.cons (.ret (.bool Ig)) .nil) .nil) .nil)) .nil)) (.cons (.cond (.and (.cons (.not (.loc 37)) (.cons (.not (.call (.zu 103) (.cons (.loc 1) (.cons (.loc 9) (.cons (.loc 7) (.cons (.sub (.loc 40) (.bin .mod (.loc 12) (.int 3))) .nil)))))) .nil))) (.cons (.ret (.bool Ig)) .nil) .nil) .nil))))))))))) (l:=(HM ms.length).map λ(j:Nat)=>V.int j) (zs:=ms) (g:=λp zz=>.int p) (by rewrite[IY];rw[Gb]) (λp z h=>by obtain this:=(IF.mp h).1;rewrite[IM];rw[ES this];rfl) (P:=λp ys L zv=>LL w kn Q.m ml sm L/\∃D,LS Q lim w kn (decide (ms.length/2<p)) zv D) (λp ys L zv h=>⟨VY,by rw[Ga]⟩) (by rintro p m ys L zv hp hd⟨l,D,S⟩;obtain⟨L',zk,D',k,S',l'⟩:=NH (b:=b) (d:=d) S hm sT (l.st (x:=12) (v:=.int p) rfl) yw hp hl;exact⟨_,L',zk,rfl,k,l',D',S'⟩) (L:=L) (J:=J) ⟨l,D,by rw[show decide (ms.length/2<0)=Ig from decide_eq_false (Nat.not_lt_zero _)];exact S⟩;obtain e:=y7 (F:=⟨b,Ig,Ig,d+24⟩) (L:=L) (J:=J) (g:=31) (x:=.loc 25) rfl (zx l.marks) (q6 hx (xG (by unfold y6;rw[IY];lia)));rw[show(y6 ms).length=ms.length from IY _]at e;exact⟨L',zv,D',xY (t:=.range (ms.length:Nat)) rfl e ⟨VY,by rw[Ga]⟩ rfl k,S'.r,S'.z,S'.l.trans S'.w.symm,S'.w,S'.kn,l'⟩
theorem Wx(w:WF T):(sL (vB (T i).ms)).all (lvl 3)=Ib:=I2.mpr λv hv=>by obtain⟨a,ha,rfl⟩:=HT.mp hv;obtain⟨p,hp,rfl⟩:=HT.mp ha;exact(iq (w.ks i p (Fo.mp hp).1).1).2
theorem Yt{L:Loc}{e:M}{o:rt}{t:Bool}(R:RI J D)(Z:MI Q lim J D.T)(hi:i<18)(Oi:D.on i=Ib)(te:yC i=.none)(l:LL w kn Q.m ml sm L)(hw:D.w=w){y:M}{zv:St}(a:∀(L:Loc),True)(he:E ⟨b,Ig,Ig,d+3⟩ L e yt (.ok (.ref (D.ad i)) J))(hy:∀{zv:St},E ⟨b,Ig,Ig,d+3⟩ L y zv (.ok (zU i) zv)):∃zv,C3 (E ⟨b,Ig,Ig,d+3⟩ L (.cmp .eq (.call (.zu 90) (.cons (.loc 1) (.cons e (.cons (.bool Ig) .nil)))) (.call (.zu 92) (.cons (.sub (.sub (.loc 7) y) (.int 3)) .nil))) yt (.ok (.bool Ib) zv)) (E ⟨b,Ig,Ig,d+3⟩ L (.cmp .ne (.call (.zu 90) (.cons (.loc 1) (.cons e (.cons (.bool Ig) .nil)))) (.call (.zu 92) (.cons (.sub (.sub (.loc 7) y) (.int 3)) .nil))) yt (.ok (.bool Ig) zv)) (Gr J zv):=by subst hw;obtain⟨r,yQ,c1,g1,h1⟩:=LX (b:=b) (d:=d) R Oi hi te;have Z1:=Z.gr g1;obtain⟨r2,xg,c2,g2,h2⟩:=Ld (b:=b) (d:=d+2) (Z1.d i hi) (Z.w.nd i) (I8 (Z.w.xt i) (by decide)) λp hp=>(Z.w.ks i p hp).2;obtain ea:=xk (F:=⟨b,Ig,Ig,d+3⟩) (L:=L) (g:=90) (x:=.loc 1) (z:=.bool Ig) rfl (zx l.p9) he sO c1;obtain eb:=y7 (F:=⟨b,Ig,Ig,d+3⟩) (L:=L) (g:=92) rfl (oS (q:=Ig) Z1 hi l.model hy (yr (i:=((3:Nat):Int))) rfl (by decide)) c2;obtain cc:=mO (F:=⟨b,Ig,Ig,d+3⟩) (.inl (g2.get h1)) h2 (Wx Z.w) (Wx Z.w) (lu _);exact⟨xg,zZ ea eb cc.1,zZ ea eb cc.2,g1.tr g2⟩
theorem NF(S:LS Q lim w kn Ig J D)(hm:Q.xs=y6 ms)(sT:Q.x=ml)(l:LL w kn Q.m ml sm L)(hl:ms.length<=7):X2 λL' zv=>XB ⟨b,Ig,Ig,d+24⟩ L (.cons (.for [12] .range (.call (.zu 31) (.cons (.loc 25) .nil)) (.cons (.cond (.cmp .eq (.loc 12) (.bin .floordiv (.call (.zu 31) (.cons (.loc 25) .nil)) (.int 2))) (.cons (.y3 (.loc 9) (.str [67]) (.zl (.loc 1) 55 (.cons (.str [67]) (.cons (.bool Ib) (.cons (.sub (.loc 9) (.str [65])) .nil))))) .nil) .nil) (.cons (.asg 15 (.bin .floordiv (.sub (.loc 25) (.loc 12)) (.int 10))) (.cons (.asg 29 (.bin .add (.lst (.cons (.str [60,65,62]) (.cons (.str [60,97,62]) (.cons (.str [60,66,62]) (.cons (.str [60,77,62]) (.cons (.str [65]) (.cons (.str [66]) (.cons (.str [60,99,62]) (.cons (.str [77]) .nil))))))))) (.bin .mul (.lst (.cons (.str [60,67,62]) (.cons (.str [67]) .nil))) (.call (.zu 45) (.cons (.cmp .yM (.str [67]) (.loc 9)) .nil))))) (.cons (.y8 [0,10] (.tup (.cons (.sub (.loc 29) (.bin .mod (.loc 15) (.call (.zu 31) (.cons (.loc 29) .nil)))) (.cons (.sub (.lst (.cons (.str [77]) (.cons (.str [78]) (.cons (.str [78]) (.cons (.str [65]) .nil))))) (.bin .mod (.bin .floordiv (.loc 15) (.int 10)) (.int 4))) .nil)))) (.cons (.y8 [8,26,14] (.tup (.cons (.sub (.str [97,98,99]) (.bin .mod (.bin .floordiv (.loc 15) (.int 40)) (.int 3))) (.cons (.sub (.str [97,98,99]) (.bin .mod (.bin .floordiv (.loc 15) (.int 120)) (.int 3))) (.cons (.sub (.lst (.cons (.str [112,117,98,108,105,99]) (.cons (.str [112,114,105,118,97,116,101]) (.cons (.str [112,114,111,116,101,99,116,101,100]) .nil)))) (.bin .mod (.bin .floordiv (.loc 15) (.int 360)) (.int 3))) .nil))))) (.cons (.asg 28 (.tup (.cons (.bin .mod (.sub (.loc 25) (.loc 12)) (.int 10)) (.cons (.loc 0) (.cons (.loc 10) (.cons (.loc 8) (.cons (.loc 26) (.cons (.loc 14) (.cons (.loc 12) .nil))))))))) (.cons (.cond (.cmp .ne (.call (.zu 102) (.cons (.loc 1) (.cons (.loc 9) (.cons (.loc 28) .nil)))) (.call (.zu 101) (.cons (.loc 7) (.cons (.loc 28) .nil)))) (.cons (.ret (.bool Ig)) .nil) .nil) (.cons (.asg 40 (.ite (.loc 37) (.lst (.cons (.str [60,66,62]) (.cons (.str [60,99,62]) .nil))) (.bin .add (.lst (.cons (.str [60,66,62]) (.cons (.str [60,99,62]) (.cons (.sub (.lst (.cons (.str [60,97,62]) (.cons (.str [60,77,62]) (.cons (.str [60,65,62]) .nil)))) (.bin .mod (.loc 12) (.int 3))) .nil)))) (.bin .mul (.lst (.cons (.str [60,67,62]) .nil)) (.call (.zu 45) (.cons (.cmp .yM (.str [67]) (.loc 9)) .nil)))))) (.cons (.for [5] .plain (.loc 40) (.cons (.for [48] .plain (.ite (.loc 37) (.str [97]) (.str [97,98,99])) (.cons (.cond (.not (.call (.zu 75) (.cons (.loc 1) (.cons (.sub (.loc 9) (.wQ (.loc 5))) (.cons (.loc 7) (.cons (.loc 5) (.cons (.loc 48) .nil))))))) (.cons (.ret (.bool Ig)) .nil) .nil) .nil)) .nil)) (.cons (.cond (.and (.cons (.not (.loc 37)) (.cons (.not (.call (.zu 103) (.cons (.loc 1) (.cons (.loc 9) (.cons (.loc 7) (.cons (.sub (.loc 40) (.bin .mod (.loc 12) (.int 3))) .nil)))))) .nil))) (.cons (.ret (.bool Ig)) .nil) .nil) .nil))))))))))) (.cons (.for [0] .plain (.lst (.cons (.str [65]) (.cons (.str [66]) (.cons (.str [77]) .nil)))) (.cons (.cond (.cmp .ne (.call (.zu 90) (.cons (.loc 1) (.cons (.sub (.loc 9) (.loc 0)) (.cons (.bool Ig) .nil)))) (.call (.zu 92) (.cons (.sub (.sub (.loc 7) (.loc 0)) (.int 3)) .nil))) (.cons (.ret (.bool Ig)) .nil) .nil) .nil)) (.cons (.ret (.cmp .eq (.call (.zu 90) (.cons (.loc 1) (.cons (.call (.zu 68) (.cons (.loc 1) (.cons (.sub (.loc 9) (.str [65])) .nil))) (.cons (.bool Ig) .nil)))) (.call (.zu 92) (.cons (.sub (.sub (.loc 7) (.str [60,65,62])) (.int 3)) .nil)))) .nil))) J (.ok (.ret (.bool Ib)) L' zv):=by
 obtain⟨zN,yQ,r5,x3,R,Z,wt,rfl,rfl,l1⟩:=NJ (b:=b) (d:=d) S hm sT l hl;obtain g0:=Gr.push (J:=yQ) (.list (za [5,6,8]));obtain⟨ye,xg,k,g2,l2⟩:=FL.all (F:=⟨b,Ig,Ig,d+24⟩) (xs:=[0]) (t:=.list yQ.length) (b:=(.cons (.cond (.cmp .ne (.call (.zu 90) (.cons (.loc 1) (.cons (.sub (.loc 9) (.loc 0)) (.cons (.bool Ig) .nil)))) (.call (.zu 92) (.cons (.sub (.sub (.loc 7) (.loc 0)) (.int 3)) .nil))) (.cons (.ret (.bool Ig)) .nil) .nil) .nil)) (l:=za [5,6,8]) (zs:=[5,6,8]) (g:=λzz x=>zU x) rfl (λp z h=>by unfold za;rewrite[IM];rw[h];rfl) (P:=λp ys L zv=>Gr (yQ++[.list (za [5,6,8])]) zv/\LL r5.w r5.kn Q.m ml sm L) (λp ys L zv h=>h.1.get z7) (by
  rintro p y ys L zv hp hd⟨g,l⟩;have hy:y∈[5,6,8]:=I9 hp;have h1:y∈vc/\y<18:=by
   obtain this:∀y∈[5,6,8],y∈vc/\y<18:=by decide
   exact this y hy
  have h2:yx y=tI y/\yC y=.none:=by
   have h0:y=5\/y=6\/y=8:=by rcases IU.mp hy with e|h;exact .inl e;rcases IU.mp h with e|h;exact .inr (.inl e);exact .inr (.inr (I_.mp h))
   rcases h0 with rfl|rfl|rfl<;>exact⟨rfl,rfl⟩
  have gg:=g0.tr g;have l':=l.st (x:=0) (v:=zU y) rfl;obtain Rg:=R.gr gg;obtain⟨zk,_,e2,g'⟩:=Yt (b:=b) (d:=d+21) (L:=st 0 (zU y) L) (o:=.eq) (t:=Ib) (zv:=zv) (y:=.loc 0) Rg (Z.gr gg) h1.2 (n_ R.s (.inl h1.1)) h2.2 l' rfl (λzz=>trivial) (s_ (q:=Ig) (e:=.loc 0) Rg (.inl h1.1) l'.known (by rw[<-h2.1];exact zx yw)) (zx yw);exact⟨_,_,zk,rfl,zr (zO e2 zj) zj,g.tr g',l'⟩) (L:=zN) (J:=yQ++[.list (za [5,6,8])]) ⟨.rfl,l1⟩;obtain x4:=xY (F:=⟨b,Ig,Ig,d+24⟩) (L:=zN) (m:=(.lst (.cons (.str [65]) (.cons (.str [66]) (.cons (.str [77]) .nil))))) (t:=.list yQ.length) rfl (y' (zp zV (zp zV (zp zV zf))) rfl) z7 rfl k;have gg:=g0.tr g2;have R2:=R.gr gg;obtain⟨JP,wB,c,R3,MG,lo,ex,_⟩:=cb (b:=b) (d:=d+12) (i:=5) (j:=15) R2 (R.s.om 5 (by decide) (by decide)) rfl;obtain⟨wL,e1,_,_⟩:=Yt (b:=b) (d:=d+21) (L:=ye) (o:=.eq) (t:=Ib) (zv:=wB) (y:=.str [60,65,62]) (i:=15) R3 (by rw[ex.T];exact(Z.gr gg).lo wt lo) (by decide) MG rfl l2 ex.w (λzz=>trivial) (yU (g:=68) (x:=.loc 1) rfl (zx l2.p9) (s_ (q:=Ig) (x:=5) R2 (.inl (by decide)) l2.known zV) c) zV;exact⟨ye,wL,zr x3 (zr x4 (zT (zK e1)))⟩
end
noncomputable def sg(l:List V):Option V:=GV l none λv r=>GV r (Ie v) λzz zz=>none
noncomputable def xF(v:V):Option Nat:=V.casesOn v none (λzz=>none) (λzz=>none) (λzz=>none) (λzz=>none) Ie (λzz=>none) (λzz=>none) (λzz=>none) λzz=>none
noncomputable def vStr(v:V):Option (List Nat):=V.casesOn v none (λzz=>none) (λzz=>none) Ie (λzz=>none) (λzz=>none) (λzz=>none) (λzz=>none) (λzz=>none) λzz=>none
noncomputable def vBool(v:V):Option Bool:=V.casesOn v none Ie (λzz=>none) (λzz=>none) (λzz=>none) (λzz=>none) (λzz=>none) (λzz=>none) (λzz=>none) λzz=>none
noncomputable def qO(v:V):Option (List V):=V.casesOn v none (λzz=>none) (λzz=>none) (λzz=>none) Ie (λzz=>none) (λzz=>none) (λzz=>none) (λzz=>none) λzz=>none
noncomputable def vInt(v:V):Option Int:=V.casesOn v none (λzz=>none) Ie (λzz=>none) (λzz=>none) (λzz=>none) (λzz=>none) (λzz=>none) (λzz=>none) λzz=>none
noncomputable def pH(o:Option O):Option (Nat×Loc):=o.bind λo=>O.casesOn o (λzz=>none) (λzz=>none) (λzz=>none) (λzz=>none) (λc fs=>Ie (c,fs)) λzz zz zz=>none
noncomputable def uB(o:Option O):Option (List V):=o.bind λo=>O.casesOn o Ie (λzz=>none) (λzz=>none) (λzz=>none) (λzz zz=>none) λzz zz zz=>none
noncomputable def wC(o:Option O):Option (List (List Nat×V)):=o.bind λo=>O.casesOn o (λzz=>none) Ie (λzz=>none) (λzz=>none) (λzz zz=>none) λzz zz zz=>none
noncomputable def iS(o:Option O):Option (List (List Nat×V)):=o.bind λo=>O.casesOn o (λzz=>none) (λzz=>none) Ie (λzz=>none) (λzz zz=>none) λzz zz zz=>none
theorem zX{zi xD:Type}{o:Option zi}{f:zi->Option xD}{y:xD}(h:o.bind f=Ie y):∃x,o=Ie x/\f x=Ie y:=GC.mp h
theorem i7{l:List V}{v:V}(h:sg l=Ie v):l=[v]:=by cases l with|nil=>cases h|cons a r=>cases r with|nil=>cases h;rfl|cons=>cases h
theorem vY{v:V}{n:Nat}(h:xF v=Ie n):v=.ref n:=by cases v<;>cases h;rfl
theorem uj{v:V}{n:List Nat}(h:vStr v=Ie n):v=.str n:=by cases v<;>cases h;rfl
theorem mr{v:V}{n:Bool}(h:vBool v=Ie n):v=.bool n:=by cases v<;>cases h;rfl
theorem kJ{v:V}{n:List V}(h:qO v=Ie n):v=.tup n:=by cases v<;>cases h;rfl
theorem kK{v:V}{n:Int}(h:vInt v=Ie n):v=.int n:=by cases v<;>cases h;rfl
theorem ku{o:Option O}{p:Nat×Loc}(h:pH o=Ie p):o=Ie (.inst p.1 p.2):=by obtain⟨x,rfl,h⟩:=zX h;cases x<;>cases h;rfl
theorem pG{o:Option O}{p:List V}(h:uB o=Ie p):o=Ie (.list p):=by obtain⟨x,rfl,h⟩:=zX h;cases x<;>cases h;rfl
theorem uX{o:Option O}{p:List (List Nat×V)}(h:wC o=Ie p):o=Ie (.dict p):=by obtain⟨x,rfl,h⟩:=zX h;cases x<;>cases h;rfl
theorem dD{o:Option O}{p:List (List Nat×V)}(h:iS o=Ie p):o=Ie (.uy p):=by obtain⟨x,rfl,h⟩:=zX h;cases x<;>cases h;rfl
noncomputable def hd2(l:List V):Option (V×V):=GV l none λv r=>(sg r).map λw=>(v,w)
theorem Y8{l:List V}{p:V×V}(h:hd2 l=Ie p):l=[p.1,p.2]:=by cases l with|nil=>cases h|cons a r=>obtain⟨w,h1,rfl⟩:=IG.mp (show(sg r).map (λw=>(a,w))=Ie p from h);rw[i7 h1]
noncomputable def pT(v:V):Option (List Nat×V):=(qO v).bind λl=>(hd2 l).bind λp=>(vStr p.1).map λk=>(k,p.2)
theorem du{v:V}{p:List Nat×V}(h:pT v=Ie p):v=il p:=by obtain⟨l,h1,h⟩:=zX h;obtain⟨q,h2,h⟩:=zX h;obtain⟨k,h3,rfl⟩:=IG.mp h;rewrite[kJ h1];rewrite[Y8 h2];rw[uj h3];rfl
noncomputable def kvs(l:List V):Option (List (List Nat×V)):=List.rec (Ie []) (λv zz ih=>(pT v).bind λp=>ih.map (p::.)) l
theorem NM:∀{l:List V}{ps:List (List Nat×V)},kvs l=Ie ps->l=ps.map il:=by intro l;induction l with|nil=>intro ps h;cases h;rfl|cons v r ih=>intro ps h;obtain⟨p,h1,h⟩:=zX (show(pT v).bind (λp=>(kvs r).map (p::.))=Ie ps from h);obtain⟨qs,h2,rfl⟩:=IG.mp h;rewrite[du h1];rw[ih h2];rfl
noncomputable def iD(a b:V):Bool:=match vStr a with|Ie s=>(match vStr b with|Ie t=>zR s t|none=>Ig)|none=>match xF a with|Ie n=>(match xF b with|Ie m=>IP n m|none=>Ig)|none=>Ig
theorem Vi{a b:V}(h:iD a b=Ib):a=b:=by
 unfold iD at h;cases h1:vStr a with
 |some s=>rw[h1]at h;cases h2:vStr b with|none=>rw[h2]at h;cases h|some t=>rw[h2]at h;rewrite[uj h1];rewrite[uj h2];rw[xd.mp h]
 |none=>rw[h1]at h;cases h2:xF a with|none=>rw[h2]at h;cases h|some n=>rw[h2]at h;cases h3:xF b with|none=>rw[h3]at h;cases h|some m=>rw[h3]at h;rewrite[vY h2];rewrite[vY h3];rw[IJ h]
noncomputable def iC(a b:V):Bool:=match pT a with|Ie p=>(match pT b with|Ie q=>zR p.1 q.1&&iD p.2 q.2|none=>Ig)|none=>iD a b
theorem Kl{a b:V}(h:iC a b=Ib):a=b:=by unfold iC at h;cases h2:pT a with|none=>rw[h2]at h;exact Vi h|some p=>rw[h2]at h;cases h3:pT b with|none=>rw[h3]at h;cases h|some q=>rw[h3]at h;obtain⟨e1,e2⟩:=zh h;rewrite[du h2];rw[du h3];show V.tup [.str p.1,p.2]=V.tup [.str q.1,q.2];rewrite[Vi e2];rw[xd.mp e1]
noncomputable def qS:List V->List V->Bool|[],l=>l.isEmpty|a::r,l=>GV l Ig λb t=>iC a b&&qS r t
theorem iB:∀{a b:List V},qS a b=Ib->a=b
|[],b,h=>by cases b with|nil=>rfl|cons=>cases h
|a::r,b,h=>by cases b with|nil=>cases h|cons b t=>obtain⟨h1,h2⟩:=zh (show(iC a b&&qS r t)=Ib from h);rewrite[Kl h1];rw[iB h2]
noncomputable def iw(v:V)(J:St):Option (IT×List V):=match qO v with|Ie vs=>Ie (.tup vs,vs)|none=>(xF v).bind λn=>match uB J[n]? with|Ie l=>Ie (.list n,l)|none=>(wC J[n]?).map λes=>(.dict n,es.map λp=>.str p.1)
theorem XZ{v:V}{J:St}{p:IT×List V}(h:iw v J=Ie p):C3 (v=p.1.v) (p.1.is p.2 J) (p.1.k=.plain):=by unfold iw at h;cases h1:qO v with|some vs=>rw[h1]at h;cases h;exact⟨kJ h1,rfl,rfl⟩|none=>rw[h1]at h;obtain⟨n,h2,h⟩:=zX h;cases h3:uB J[n]? with|some l=>rw[h3]at h;cases h;exact⟨vY h2,pG h3,rfl⟩|none=>rw[h3]at h;obtain⟨es,h4,rfl⟩:=IG.mp h;exact⟨vY h2,⟨_,uX h4,rfl⟩,rfl⟩
noncomputable def tK(t:IT)(l:List V)(J:St):Bool:=IT.casesOn t (λzz=>Ib) (λzz=>Ig) (λn=>match uB J[n]? with|Ie l'=>qS l' l|none=>Ig) (λn=>match wC J[n]? with|Ie es=>qS (es.map λp=>.str p.1) l|none=>Ig) (λzz=>Ig) (λzz=>Ig) λzz=>Ig
theorem X_{t:IT}{l:List V}{J zy:St}(ht:t.is l J)(h:tK t l zy=Ib):t.is l zy:=by
 cases t with
 |tup=>exact ht
 |list n=>obtain h:(match uB zy[n]? with|Ie l'=>qS l' l|none=>Ig)=Ib:=h;cases h1:uB zy[n]? with|none=>rw[h1]at h;cases h|some l'=>rw[h1]at h;rw[<-iB h];exact pG h1
 |dict n=>obtain h:(match wC zy[n]? with|Ie es=>qS (es.map λp=>.str p.1) l|none=>Ig)=Ib:=h;cases h1:wC zy[n]? with|none=>rw[h1]at h;cases h|some es=>rw[h1]at h;exact⟨_,uX h1,(iB h).symm⟩
 |_=>cases h
noncomputable def qm{zi:Type}(n:Nat)(k:Nat->zi):zi:=Nat.casesOn n (k 0) λp=>k (p+1)
theorem oQ{zi:Type}(n:Nat)(k:Nat->zi):qm n k=k n:=by cases n<;>rfl
noncomputable def fP{zi:Type}(i:Int)(k:Int->zi):zi:=Int.casesOn i (λn=>qm n λn=>k (.ofNat n)) λn=>k (.negSucc n)
theorem YS{zi:Type}(n:Int)(k:Int->zi):fP n k=k n:=by cases n with|ofNat n=>exact oQ n λn=>k (.ofNat n)|negSucc n=>rfl
noncomputable def fO{zi:Type}(v:V)(k:V->zi):zi:=V.casesOn v (k .none) (λb=>Bool.casesOn b (k (.bool Ig)) (k (.bool Ib))) (λi=>fP i λi=>k (.int i)) (λs=>k (.str s)) (λvs=>k (.tup vs)) (λn=>qm n λn=>k (.ref n)) (λa=>k (.fn a)) (λa=>k (.cl a)) (λb=>k (.bi b)) λt=>k (.ty t)
theorem YR{zi:Type}(v:V)(k:V->zi):fO v k=k v:=by cases v with|int i=>exact YS i λi=>k (.int i)|ref n=>exact oQ n λn=>k (.ref n)|bool b=>cases b<;>rfl|_=>rfl
noncomputable def xn{zi xD:Type}(l:List zi):(List zi->xD)->xD:=List.rec (λk=>k []) (λa zz ih k=>ih λt=>k (a::t)) l
theorem xA{zi xD:Type}:∀(l:List zi)(k:List zi->xD),xn l k=k l|[],zo=>rfl|a::l,k=>xA l λt=>k (a::t)
noncomputable def v_(v:V)(J:St):Option (V×St):=fO v λv=>Ie (v,J)
theorem LA(v:V)(J:St):v_ v J=Ie (v,J):=YR v _
noncomputable def retS(v:V)(J:St):Option (V×St):=fO v λv=>xn J λJ=>Ie (v,J)
theorem L9(v:V)(J:St):retS v J=Ie (v,J):=(YR v _).trans (xA J _)
noncomputable def qp(L:Loc)(J:St):Option (Option V×Loc×St):=xn L λL=>xn J λJ=>Ie (none,L,J)
theorem Yo(L:Loc)(J:St):qp L J=Ie (none,L,J):=(xA L _).trans (xA J _)
noncomputable def i8(J:St)(n c x:Nat)(v:V)(fs:Loc)(L:Loc):Option (Option V×Loc×St):=xn (st x v fs) λfs=>qp L (J.set n (.inst c fs))
theorem Kj{J:St}{n c x:Nat}{v:V}{fs L:Loc}:i8 J n c x v fs L=Ie (none,L,J.set n (.inst c (st x v fs))):=(xA _ _).trans (Yo _ _)
noncomputable def iA(J:St)(n:Nat)(k:List Nat)(v:V)(es:List (List Nat×V)){zi:Type}(g:St->zi):zi:=xn (dput k v es) λes=>xn (J.set n (.dict es)) g
theorem cO{J:St}{n:Nat}{k:List Nat}{v:V}{es:List (List Nat×V)}{zi:Type}{g:St->zi}:iA J n k v es g=g (J.set n (.dict (dput k v es))):=(xA _ _).trans (xA _ _)
noncomputable abbrev wg:=Bool->Loc->St->Option (V×St)
structure vu where
 e:wg
 l:Bool->Loc->St->Option (List V×St)
 k:Bool->Loc->St->Option (List (List Nat×V)×St)
 a:wg
 o:wg
noncomputable def vn{zi:Type}:Bool->Loc->St->Option zi:=λzz zz zz=>none
noncomputable def xT(f:wg):vu:=⟨f,vn,vn,vn,vn⟩
noncomputable def yh{zi:Type}(c:Bool)(k:Option zi):Option zi:=match c with|Ib=>k|Ig=>none
noncomputable def V8(v:V):Option Nat:=V.casesOn v none (λzz=>none) (λzz=>none) (λzz=>none) (λzz=>none) (λzz=>none) (λzz=>none) Ie (λzz=>none) λzz=>none
theorem Js{v:V}{n:Nat}(h:V8 v=Ie n):v=.cl n:=by cases v<;>cases h;rfl
noncomputable def pX(v:V):Bool:=V.casesOn v Ib (λzz=>Ig) (λzz=>Ig) (λzz=>Ig) (λzz=>Ig) (λzz=>Ig) (λzz=>Ig) (λzz=>Ig) (λzz=>Ig) λzz=>Ig
theorem eC{v:V}(h:pX v=Ib):v=.none:=by cases v<;>first|rfl|cases h
noncomputable def VL(o i:V)(J:St):Option V:=(xF o).bind λn=>match vStr i with|Ie k=>(match wC J[n]? with|Ie es=>zE k es|none=>(iS J[n]?).bind λes=>zE k es)|none=>(vInt i).bind λj=>(uB J[n]?).bind λl=>yh (decide (0<=j)&&decide (j<100)) l[j.toNat]?
noncomputable def findR(n x:Nat)(J:St):Option (V×List V):=match pH J[n]? with|Ie p=>(prog.zl p.1 x).bind λg=>yh (lk x p.2).isNone (Ie (.fn g,[.ref n]))|none=>match uB J[n]? with|Ie zo=>yh (IP x Wn) (Ie (.bi .nY,[.ref n]))|none=>match wC J[n]? with|Ie zo=>(match IP x ky with|Ib=>Ie (.bi .zE,[.ref n])|Ig=>yh (IP x Wk) (Ie (.bi .m4,[.ref n])))|none=>(iS J[n]?).bind λzz=>yh (IP x ky) (Ie (.bi .zE,[.ref n]))
noncomputable def fS(o:V)(x:Nat)(J:St):Option (V×List V):=match xF o with|none=>(V8 o).bind λc=>(prog.zl c x).map λg=>(.fn g,[])|Ie n=>findR n x J
noncomputable def gX(op:qK)(a b:V):Option V:=match vStr a with|Ie x=>(vStr b).bind λy=>yh (IP op.ctorIdx 0&&short (x++y)) (Ie (.str (x++y)))|none=>(vInt a).bind λx=>(vInt b).bind λy=>yh (IP op.ctorIdx 5&&(decide (x=10)&&decide (y=6))) (Ie (.int 1000000))
noncomputable def j9(k:List Nat)(b:V)(J:St):Option Bool:=match qO b with|Ie vs=>(strsOf vs).map λl=>l.any (zR k)|none=>(xF b).bind λn=>(wC J[n]?).map λes=>(zE k es).isSome
noncomputable def ag(op:rt)(a b:V)(J:St):Option Bool:=rt.casesOn op ((vStr b).bind λy=>match pX a with|Ib=>yh (plainS y) (Ie Ig)|Ig=>(vStr a).bind λx=>yh (plainS x&&plainS y) (Ie (zR y x))) none none (yh (pX b) (isNone a)) (yh (pX b) ((isNone a).map (! .))) ((vStr a).bind λk=>j9 k b J) ((vStr a).bind λk=>(j9 k b J).map (! .))
noncomputable def dY(f:wg)(s:Bool)(L:Loc)(xs:List Nat)(t:IT)(l:List V)(n0:Nat):List V->List V->St->Option (List V×St)|[],acc,J=>yh (tK t l J) (Ie (acc,J))|x::r,acc,J=>yh (tK t l J) ((vK xs x L).bind λL1=>xn L1 λL1=>(f s L1 J).bind λp=>(uB p.2[n0]?).bind λa=>yh (short acc&&qS a acc) (xn (acc++[p.1]) λac=>xn (p.2.set n0 (.list ac)) λr9=>dY f s L xs t l n0 r ac r9))
noncomputable def Uz(f fs:vu):Bool->Loc->St->Option (List V×St):=λs L J=>(f.e s L J).bind λp=>(fs.l s L p.2).bind λq=>Ie (p.1::q.1,q.2)
noncomputable def V4(es:M)(f fs:vu):wg:=λs L J=>(f.e s L J).bind λp=>(vBool p.1).bind λt=>match IP es.ctorIdx 8 with|Ib=>v_ (.bool t) p.2|Ig=>yh (IP es.ctorIdx 9) (match t with|Ib=>fs.a s L p.2|Ig=>v_ (.bool Ig) p.2)
noncomputable def Ut(es:M)(f fs:vu):wg:=λs L J=>(f.e s L J).bind λp=>(vBool p.1).bind λt=>match IP es.ctorIdx 8 with|Ib=>v_ (.bool t) p.2|Ig=>yh (IP es.ctorIdx 9) (match t with|Ib=>v_ (.bool Ib) p.2|Ig=>fs.o s L p.2)
noncomputable def Ux(f g h:vu):Bool->Loc->St->Option (List (List Nat×V)×St):=λs L J=>(f.e s L J).bind λp=>(vStr p.1).bind λa=>(g.e s L p.2).bind λq=>(h.k s L q.2).bind λw=>Ie ((a,q.1)::w.1,w.2)
noncomputable def Us(f:vu):wg:=λs L J=>(f.l s L J).bind λq=>yh (short q.1) (v_ (.tup q.1) q.2)
noncomputable def Uv(f:vu):wg:=λs L J=>(f.l s L J).bind λq=>yh (short q.1) (retS (.ref q.2.length) (q.2++[.list q.1]))
noncomputable def c5(m:M)(f:vu):wg:=λs L J=>match IP m.ctorIdx 8 with|Ib=>retS (.ref J.length) (J++[.dict []])|Ig=>yh (!s&&IP m.ctorIdx 10) ((xn (J++[.dict []]) λoy=>f.k s L oy).bind λq=>(wC q.2[J.length]?).bind λes=>yh (es.isEmpty&&short q.1) (xn (tw q.1 []) λds=>retS (.ref J.length) (q.2.set J.length (.dict ds))))
noncomputable def V3(x:Nat)(f:vu):wg:=λs L J=>(f.e s L J).bind λp=>(xF p.1).bind λn=>(pH p.2[n]?).bind λw=>yh (xc w.1 x) ((lk x w.2).bind λu=>v_ u p.2)
noncomputable def w_sub(f g:vu):wg:=λs L J=>(f.e s L J).bind λp=>(g.e s L p.2).bind λq=>(VL p.1 q.1 q.2).bind λv=>v_ v q.2
noncomputable def V1(z_:V->List V->St->Option (V×St))(f g:vu):wg:=λs L J=>yh (!s) ((f.e s L J).bind λp=>(g.l s L p.2).bind λq=>yh (sI p.1) ((z_ p.1 q.1 q.2).bind λr=>v_ r.1 r.2))
noncomputable def Uu(z_:V->List V->St->Option (V×St))(x:Nat)(f g:vu):wg:=λs L J=>yh (!s) ((f.e s L J).bind λp=>(fS p.1 x p.2).bind λw=>(g.l s L p.2).bind λq=>yh (sI w.1) ((z_ w.1 (w.2++q.1) q.2).bind λr=>v_ r.1 r.2))
noncomputable def V2(op:qK)(f g:vu):wg:=λs L J=>(f.e s L J).bind λp=>(g.e s L p.2).bind λq=>(gX op p.1 q.1).bind λv=>v_ v q.2
noncomputable def w_not(f:vu):wg:=λs L J=>(f.e s L J).bind λp=>(vBool p.1).bind λt=>v_ (.bool (!t)) p.2
noncomputable def V0(op:rt)(f g:vu):wg:=λs L J=>(f.e s L J).bind λp=>(g.e s L p.2).bind λq=>(ag op p.1 q.1 q.2).bind λt=>v_ (.bool t) q.2
noncomputable def w_ite(f g h:vu):wg:=λs L J=>(f.e s L J).bind λp=>(vBool p.1).bind λt=>match t with|Ib=>g.e s L p.2|Ig=>h.e s L p.2
noncomputable def V'(xs:List Nat)(k:IK)(c:M)(f g:vu):wg:=λs L J=>yh (!s&&(IP k.ctorIdx 0&&IP c.ctorIdx 8)) ((g.e s L J).bind λp=>(iw p.1 p.2).bind λt=>yh (lk 52 L).isNone ((xn (p.2++[.list []]) λoy=>qm p.2.length λn0=>dY f.e t.1.d L xs t.1 t.2 n0 t.2 [] oy).bind λq=>v_ (.ref p.2.length) q.2))
noncomputable def Uw(x:Nat):wg:=λzz L J=>(lk x L).bind λv=>v_ v J
noncomputable def Uy(x:Nat):wg:=λzz zz J=>(prog.glob x).bind λv=>v_ v J
noncomputable def qN(v:V):wg:=λzz zz J=>v_ v J
noncomputable def yG(z_:V->List V->St->Option (V×St))(m:M):vu:=M.rec (motive:=λzz=>vu) (xT vn) (xT (qN .none)) (λb=>xT (qN (.bool b))) (λi=>xT (qN (.int i))) (λt=>xT (qN (.str t))) (λzz=>xT vn) (λx=>xT (Uw x)) (λx=>xT (Uy x)) ⟨vn,λzz zz J=>Ie ([],J),λzz zz J=>Ie ([],J),vn,vn⟩ (λzz es f fs=>⟨vn,Uz f fs,vn,V4 es f fs,Ut es f fs⟩) (λzz zz zz f g h=>⟨vn,vn,Ux f g h,vn,vn⟩) (λzz f=>xT (Us f)) (λzz f=>xT (Uv f)) (λm f=>xT (c5 m f)) (λzz x f=>xT (V3 x f)) (λzz zz f g=>xT (w_sub f g)) (λzz zz zz zz=>xT vn) (λzz zz zz zz=>xT vn) (λzz zz=>xT vn) (λzz zz=>xT vn) (λzz zz f g=>xT (V1 z_ f g)) (λzz x zz f g=>xT (Uu z_ x f g)) (λop zz zz f g=>xT (V2 op f g)) (λzz f=>xT (w_not f)) (λop zz zz f g=>xT (V0 op f g)) (λzz f=>xT f.a) (λzz f=>xT f.o) (λzz zz zz f g h=>xT (w_ite f g h)) (λzz xs k zz c f g zz=>xT (V' xs k c f g)) m
noncomputable abbrev xO:=Loc->St->Option (Option V×Loc×St)
noncomputable def nD(f g:xO):xO:=λL J=>(f L J).bind λr=>match r.1 with|Ie _=>Ie r|none=>g r.2.1 r.2.2
noncomputable def dX(f:xO)(xs:List Nat)(t:IT)(l:List V):List V->xO|[],L,J=>yh (tK t l J) (Ie (none,L,J))|x::r,L,J=>yh (tK t l J) ((vK xs x L).bind λL1=>xn L1 λL1=>nD f (dX f xs t l r) L1 J)
noncomputable def wI(z_:V->List V->St->Option (V×St))(m:M)(L:Loc)(J:St)(k:V->St->Option (Option V×Loc×St)):Option (Option V×Loc×St):=((yG z_ m).e Ig L J).bind λp=>k p.1 p.2
noncomputable def lB(z_:V->List V->St->Option (V×St))(c:M)(f:xO):Nat->xO|0=>λzz zz=>none|n+1=>λL J=>wI z_ c L J λv yz=>(vBool v).bind λt=>match t with|Ib=>nD f (lB z_ c f n) L yz|Ig=>Ie (none,L,yz)
noncomputable def wR:xO:=λzz zz=>none
noncomputable abbrev uQ:=V->List V->St->Option (V×St)
noncomputable def UM(z_:uQ)(e:M):xO:=λL J=>wI z_ e L J λzz yz=>qp L yz
noncomputable def UK(z_:uQ)(e:M):xO:=λL J=>wI z_ e L J λv yz=>Ie (Ie v,L,yz)
noncomputable def UT(z_:uQ)(x:Nat)(e:M):xO:=λL J=>yh (q_ e) (wI z_ e L J λv yz=>qp (st x v L) yz)
noncomputable def UP(z_:uQ)(xs:List Nat)(e:M):xO:=λL J=>wI z_ e L J λv yz=>(qO v).bind λvs=>(stores xs vs L).bind λL1=>yh (decide xs.Nodup) (qp L1 yz)
noncomputable def US(z_:uQ)(o:M)(x:Nat)(e:M):xO:=λL J=>wI z_ e L J λv yz=>wI z_ o L yz λov vL=>(xF ov).bind λn=>(pH vL[n]?).bind λp=>yh (xc p.1 x&&short p.2) (i8 vL n p.1 x v p.2 L)
noncomputable def UR(z_:uQ)(o i e:M):xO:=λL J=>wI z_ e L J λv yz=>wI z_ o L yz λov vL=>wI z_ i L vL λiv r9=>(xF ov).bind λn=>(vStr iv).bind λk=>(wC r9[n]?).bind λes=>yh (short es) (iA r9 n k v es λbg=>qp L bg)
noncomputable def UQ(z_:uQ)(o i o' i' e:M):xO:=λL J=>wI z_ e L J λw yz=>(qO w).bind λws=>(hd2 ws).bind λp=>wI z_ o L yz λov vL=>wI z_ i L vL λiv r9=>(xF ov).bind λn=>(vStr iv).bind λk=>(wC r9[n]?).bind λes=>yh (short es) (iA r9 n k p.1 es λbg=>wI z_ o' L bg λki UE=>wI z_ i' L UE λlE bf=>(xF ki).bind λn'=>(vStr lE).bind λk'=>(wC bf[n']?).bind λuJ=>yh (short uJ) (iA bf n' k' p.2 uJ λJR=>qp L JR))
noncomputable def UO(z_:uQ)(o:M)(x:Nat)(e:M):xO:=λL J=>wI z_ o L J λov yz=>(xF ov).bind λn=>(pH yz[n]?).bind λp=>(lk x p.2).bind λw=>(vInt w).bind λi=>wI z_ e L yz λu vL=>(vInt u).bind λj=>(pH vL[n]?).bind λp'=>yh (xc p.1 x&&(IP p.1 p'.1&&short p'.2)) (fP (i+j) λz=>i8 vL n p.1 x (.int z) p'.2 L)
noncomputable def UN(z_:uQ)(c:M)(f g:xO):xO:=λL J=>wI z_ c L J λv yz=>(vBool v).bind λt=>match t with|Ib=>f L yz|Ig=>g L yz
noncomputable def UL(z_:uQ)(xs:List Nat)(k:IK)(m:M)(f:xO):xO:=λL J=>yh (IP k.ctorIdx 0) (wI z_ m L J λv yz=>(iw v yz).bind λt=>yh (!t.1.d) (dX f xs t.1 t.2 t.2 L yz))
noncomputable def vU(z_:uQ)(b:S):xO×xO:=S.rec (motive:=λzz=>xO×xO) (wR,wR) (wR,λL J=>Ie (none,L,J)) (λzz zz f g=>(wR,nD f.1 g.2)) (λe=>(UM z_ e,wR)) (λe=>(UK z_ e,wR)) (λx e=>(UT z_ x e,wR)) (λxs e=>(UP z_ xs e,wR)) (λo x e=>(US z_ o x e,wR)) (λo i e=>(UR z_ o i e,wR)) (λo i o' i' e=>(UQ z_ o i o' i' e,wR)) (λo x e=>(UO z_ o x e,wR)) (λc zz zz f g=>(UN z_ c f.2 g.2,wR)) (λc zz f=>(lB z_ c f.2 12,wR)) (λxs k m zz f=>(UL z_ xs k m f.2,wR)) (λzz=>(wR,wR)) (λzz zz zz zz=>(wR,wR)) b
noncomputable def lr(n:Nat):V->List V->St->Option (V×St):=Nat.rec (λzz zz zz=>none) (λzz ih fv args J=>V.casesOn fv none (λzz=>none) (λzz=>none) (λzz=>none) (λzz=>none) (λzz=>none) (λa=>(prog.fn a).bind λfd=>(ug fd.params fd.dflt args).bind λL=>(xn L λL=>(vU ih fd.body).2 L J).bind λr=>Ie (r.1.getD .none,r.2.2)) (λc=>(prog.cls c).bind λp=>yh (!p.2) ((prog.fn p.1).bind λfd=>qm J.length λn=>(ug fd.params fd.dflt (.ref n::args)).bind λL=>(xn L λL=>xn (J++[.inst c []]) λoy=>(vU ih fd.body).2 L oy).bind λr=>yh r.1.isNone (Ie (.ref n,r.2.2)))) (λf=>GV args none λa0 rest=>(xF a0).bind λn=>Bi.casesOn f none none none none none ((sg rest).bind λv=>(uB J[n]?).bind λxs=>yh (short xs) (xn (xs++[v]) λl=>xn (J.set n (.list l)) λyz=>Ie (.none,yz))) none none none (GV rest none λk0 r2=>(vStr k0).bind λk=>(match wC J[n]? with|Ie es=>Ie es|none=>iS J[n]?).bind λes=>GV r2 (Ie ((zE k es).getD .none,J)) λdv r3=>yh r3.isEmpty (Ie ((zE k es).getD dv,J))) none ((sg rest).bind λv=>(xF v).bind λm=>(wC J[n]?).bind λes=>(wC J[m]?).bind λfs=>yh (!IP m n&&short (es++fs)) (xn (tw fs es) λds=>xn (J.set n (.dict ds)) λyz=>Ie (.none,yz))) none) (λt=>(sg args).bind λa0=>(xF a0).bind λn=>Ty.casesOn t none none none ((wC J[n]?).bind λes=>yh (short es) (xn (es.map λp=>V.str p.1) λl=>xn (J++[.list l]) λyz=>qm J.length λn=>Ie (.ref n,yz))) ((uB J[n]?).bind λl=>(kvs l).bind λps=>yh (short ps) (xn (tw ps []) λds=>xn (J++[.dict ds]) λyz=>qm J.length λn=>Ie (.ref n,yz))) none none none)) n
section
variable{F:Fr}{L:Loc}{J zt zy:St}
theorem yR{zi:Type}{c:Bool}{k:Option zi}{x:zi}(h:yh c k=Ie x):c=Ib/\k=Ie x:=by cases c with|true=>exact⟨rfl,h⟩|false=>cases h
theorem vl{v:V}{r:V×St}(h:v_ v J=Ie r):r=(v,J):=by rw[LA]at h;cases h;rfl
theorem cV{v:V}{r:V×St}(h:retS v J=Ie r):r=(v,J):=by rw[L9]at h;cases h;rfl
theorem KQ{o i v:V}(h:VL o i J=Ie v):Sub F o i J v:=by
 obtain⟨n,h1,h⟩:=zX h;rw[vY h1];cases h2:vStr i with
 |some k=>rw[h2]at h;rw[uj h2];cases h3:wC J[n]? with|some es=>rw[h3]at h;exact nF (.inl (uX h3)) h|none=>rw[h3]at h;obtain⟨es,h4,h⟩:=zX h;exact nF (.inr (dD h4)) h
 |none=>rw[h2]at h;obtain⟨j,h3,h⟩:=zX h;obtain⟨l,h4,h⟩:=zX h;obtain⟨h5,h⟩:=yR h;obtain⟨h6,h7⟩:=zh h5;rw[kK h3];obtain⟨m,rfl⟩:=F' (of_decide_eq_true h6);exact sy (pG h4) h (H3 (Int.ofNat_lt.mp (of_decide_eq_true h7)) (by decide))
theorem RA{o:V}{x:Nat}{w:V×List V}(h:fS o x J=Ie w):Find F o x J w.1 w.2:=by
 unfold fS at h;cases h1:xF o with
 |none=>rw[h1]at h;obtain⟨c,h2,h⟩:=zX h;obtain⟨g,h3,rfl⟩:=IG.mp h;rw[Js h2];exact fR h3
 |some n=>
  rw[h1]at h;have h:findR n x J=Ie w:=h;unfold findR at h;rw[vY h1];cases h2:pH J[n]? with
  |some p=>rw[h2]at h;obtain⟨g,h3,h⟩:=zX h;obtain⟨h4,h⟩:=yR h;cases h;exact xM (ku h2) h3 (H9.mp h4)
  |none=>
   rw[h2]at h;cases h3:uB J[n]? with
   |some xs=>rw[h3]at h;obtain⟨h4,h⟩:=yR h;cases h;rw[IJ h4];exact ua (pG h3)
   |none=>
    rw[h3]at h;cases h4:wC J[n]? with
    |some es=>rw[h4]at h;cases h5:IP x ky with|true=>rw[h5]at h;cases h;rw[IJ h5];exact tM (uX h4)|false=>rw[h5]at h;obtain⟨h6,h⟩:=yR h;cases h;rw[IJ h6];exact R7 (uX h4)
    |none=>rw[h4]at h;obtain⟨es,h5,h⟩:=zX h;obtain⟨h6,h⟩:=yR h;cases h;rw[IJ h6];exact YY (dD h5)
theorem Se{op:qK}{a c v:V}(h:gX op a c=Ie v):ui F op a c J (.ok v J):=by
 unfold gX at h;cases h1:vStr a with
 |some x=>rw[h1]at h;obtain⟨y,h2,h⟩:=zX h;obtain⟨h3,h⟩:=yR h;obtain⟨h4,h5⟩:=zh h3;cases h;rewrite[uj h1];rw[uj h2];cases op<;>first|exact u5 h5|cases h4
 |none=>rw[h1]at h;obtain⟨x,h2,h⟩:=zX h;obtain⟨y,h3,h⟩:=zX h;obtain⟨h4,h⟩:=yR h;obtain⟨h5,h6⟩:=zh h4;obtain⟨h7,h8⟩:=zh h6;cases h;rewrite[kK h2];rewrite[kK h3];rewrite[of_decide_eq_true h7];rw[of_decide_eq_true h8];cases op<;>first|exact Su|cases h5
theorem Xg{k:List Nat}{c:V}{t:Bool}(h:j9 k c J=Ie t):x_ F .yM (.str k) c J t/\x_ F .y5 (.str k) c J (!t):=by unfold j9 at h;cases h1:qO c with|some vs=>rw[h1]at h;obtain⟨l,h2,rfl⟩:=IG.mp h;rw[kJ h1];exact gV h2|none=>rw[h1]at h;obtain⟨n,h2,h⟩:=zX h;obtain⟨es,h3,rfl⟩:=IG.mp h;rw[vY h2];exact mM (uX h3)
theorem Rw{op:rt}{a c:V}{t:Bool}(h:ag op a c J=Ie t):x_ F op a c J t:=by
 cases op with
 |eq=>obtain⟨y,h1,h⟩:=zX (show(vStr c).bind _=Ie t from h);rw[uj h1];cases h2:pX a with|true=>rw[h2]at h;obtain⟨h3,h⟩:=yR h;cases h;rw[eC h2];exact gW rfl h3 rfl|false=>rw[h2]at h;obtain⟨x,h3,h⟩:=zX h;obtain⟨h4,h⟩:=yR h;obtain⟨h5,h6⟩:=zh h4;cases h;rw[uj h3];exact u2 h5 h6
 |ne=>cases h
 |lt=>cases h
 |is=>obtain⟨h1,h⟩:=yR (show yh (pX c) (isNone a)=Ie t from h);rw[eC h1];exact yT h
 |yO=>obtain⟨h1,h⟩:=yR (show yh (pX c) ((isNone a).map (! .))=Ie t from h);obtain⟨u,h2,rfl⟩:=IG.mp h;rw[eC h1];exact rd h2
 |yM=>obtain⟨k,h1,h⟩:=zX (show(vStr a).bind _=Ie t from h);rw[uj h1];exact(Xg h).1
 |y5=>obtain⟨k,h1,h⟩:=zX (show(vStr a).bind _=Ie t from h);obtain⟨u,h2,rfl⟩:=IG.mp h;rw[uj h1];exact(Xg h2).2
end
noncomputable def mi(z_:V->List V->St->Option (V×St))(n:Nat):Prop:=∀F:Fr,F.q=Ig->F.s=Ig->n<=F.d->∀fv args J r,z_ fv args J=Ie r->Call F fv args J (.ok r.1 r.2)
structure SM(z_:V->List V->St->Option (V×St))(n:Nat)(m:M):Prop where
 e:∀(F:Fr)(L:Loc),F.q=false->n<=F.d->∀J r,(yG z_ m).e F.s L J=some r->E F L m J (.ok r.1 r.2)
 l:∀(F:Fr)(L:Loc),F.q=false->n<=F.d->∀J r,(yG z_ m).l F.s L J=some r->Es F L m J r.1 r.2
 k:∀(F:Fr)(L:Loc),F.q=false->n<=F.d->∀J r,(yG z_ m).k F.s L J=some r->Kv F L m J r.1 r.2
 a:∀(F:Fr)(L:Loc),F.q=false->n<=F.d->∀J r,(yG z_ m).a F.s L J=some r->∃t,r.1=.bool t/\E F L (.and m) J (.ok (.bool t) r.2)
 o:∀(F:Fr)(L:Loc),F.q=false->n<=F.d->∀J r,(yG z_ m).o F.s L J=some r->∃t,r.1=.bool t/\E F L (.or m) J (.ok (.bool t) r.2)
section
variable{z_:V->List V->St->Option (V×St)}{n:Nat}
theorem SM.of{m:M}(f:wg)(h:yG z_ m=xT f)(e:∀(F:Fr)(L:Loc),F.q=Ig->n<=F.d->∀J r,f F.s L J=Ie r->E F L m J (.ok r.1 r.2)):SM z_ n m:=by
 refine⟨?_,?_,?_,?_,?_⟩;.rw[h];exact e
 all_goals(rw[h];exactλF L zz zz J r h=>(nomatch h))
theorem ix{m:M}(h:IP m.ctorIdx 8=Ib):m=.nil:=by cases m<;>first|rfl|cases h
theorem iy{m:M}(h:IP m.ctorIdx 9=Ib):X2 λk r=>m=.cons k r:=by cases m<;>first|exact⟨_,_,rfl⟩|cases h
theorem Nr{m:M}(h:IP m.ctorIdx 10=Ib):X3 λk v r=>m=.kv k v r:=by cases m<;>first|exact⟨_,_,_,rfl⟩|cases h
theorem X0{f:wg}{F:Fr}{L:Loc}{xs:List Nat}{t:IT}{l:List V}{elt:M}{n0:Nat}(hf:∀L J r,f t.d L J=Ie r->E {F with s:=t.d} L elt J (.ok r.1 r.2)):∀(ys acc:List V)(J:St)(r:List V×St),(∃pre,l=pre++ys)->t.is l J\/True->dY f t.d L xs t l n0 ys acc J=Ie r->(∀zy,tK t l zy=Ib->t.is l zy)->CL F L xs t l elt .nil n0 ys.length acc J r.1 r.2|[],acc,J,r,zo,zY,h,hi=>by obtain⟨h1,h⟩:=yR (show yh (tK t l J) (Ie (acc,J))=Ie r from h);cases h;exact .stop (hi _ h1)|x::ys,acc,J,r,⟨pre,hp⟩,zo,h,hi=>by obtain⟨h1,h⟩:=yR (show yh (tK t l J) _=Ie r from h);obtain⟨L1,h2,h⟩:=zX h;rw[xA]at h;obtain⟨p,h3,h⟩:=zX h;obtain⟨a,h4,h⟩:=zX h;obtain⟨h5,h⟩:=yR h;obtain⟨h6,h7⟩:=zh h5;rw[xA,xA]at h;have ea:=iB h7;subst ea;refine .take (hi _ h1) ?_ h2 (.inl ⟨rfl,rfl⟩) (hf _ _ _ h3) (pG h4) h6 (X0 hf ys _ _ r ⟨pre++[x],by rewrite[hp];rw[I3];rfl⟩ (.inr trivial) h hi);rewrite[hp];rewrite[IZ];rewrite[HV];rewrite[FU];rewrite[Hj (IV _)];rw[H4];rfl
theorem Kd(hc:mi z_ n)(m:M):SM z_ n m:=by
 induction m with
 |qf=>exact .of _ rfl λF L zz zz J r h=>nomatch h
 |none=>exact .of (qN .none) rfl λF L zz zz J r h=>by rw[vl h];exact zQ
 |bool b=>exact .of (qN (.bool b)) rfl λF L zz zz J r h=>by rw[vl h];exact sO
 |int i=>exact .of (qN (.int i)) rfl λF L zz zz J r h=>by rw[vl h];exact yr
 |str t=>exact .of (qN (.str t)) rfl λF L zz zz J r h=>by rw[vl h];exact zV
 |neg i=>exact .of _ rfl λF L zz zz J r h=>nomatch h
 |loc x=>refine .of (Uw x) rfl λF L zz zz J r h=>?_;obtain⟨v,h1,h⟩:=zX h;rw[vl h];exact zx h1
 |zu x=>refine .of (Uy x) rfl λF L zz zz J r h=>?_;obtain⟨v,h1,h⟩:=zX h;rw[vl h];exact yk h1
 |nil=>exact⟨λF L zz zz J r h=>(nomatch h),λF L zz zz J r h=>by cases h;exact zf,λF L zz zz J r h=>by cases h;exact XG,λF L zz zz J r h=>(nomatch h),λF L zz zz J r h=>(nomatch h)⟩
 |cons e es ie eD=>
  refine⟨λF L zz zz J r h=>(nomatch h),λF L q d J r h=>?_,λF L zz zz J r h=>(nomatch h),λF L q d J r h=>?_,λF L q d J r h=>?_⟩;.obtain h:Uz (yG z_ e) (yG z_ es) F.s L J=Ie r:=h;obtain⟨p,h1,h⟩:=zX h;obtain⟨w,h2,h⟩:=zX h;cases h;exact zp (ie.e F L q d _ _ h1) (eD.l F L q d _ _ h2)
  .have h:V4 es (yG z_ e) (yG z_ es) F.s L J=Ie r:=h;obtain⟨⟨v,yz⟩,h1,h⟩:=zX h;obtain⟨t,h2,h⟩:=zX h;have h1:=ie.e F L q d _ _ h1;rw[mr h2]at h1;cases h3:IP es.ctorIdx 8 with|true=>simp only[h3]at h;rewrite[ix h3];rw[vl h];exact⟨t,rfl,ub h1⟩|false=>simp only[h3]at h;obtain⟨h4,h⟩:=yR h;cases t with|true=>obtain⟨u,e1,h5⟩:=eD.a F L q d _ _ h;obtain⟨b,r',rfl⟩:=iy h4;exact⟨u,e1,vt h1 h5⟩|false=>obtain⟨b,r',rfl⟩:=iy h4;rw[vl h];exact⟨_,rfl,tN h1⟩
  .have h:Ut es (yG z_ e) (yG z_ es) F.s L J=Ie r:=h;obtain⟨⟨v,yz⟩,h1,h⟩:=zX h;obtain⟨t,h2,h⟩:=zX h;have h1:=ie.e F L q d _ _ h1;rw[mr h2]at h1;cases h3:IP es.ctorIdx 8 with|true=>simp only[h3]at h;rewrite[ix h3];rw[vl h];exact⟨t,rfl,uK h1⟩|false=>simp only[h3]at h;obtain⟨h4,h⟩:=yR h;cases t with|false=>obtain⟨u,e1,h5⟩:=eD.o F L q d _ _ h;obtain⟨b,r',rfl⟩:=iy h4;exact⟨u,e1,uL h1 h5⟩|true=>obtain⟨b,r',rfl⟩:=iy h4;rw[vl h];exact⟨_,rfl,sZ h1⟩
 |kv k v r ik iv ir=>refine⟨λF L zz zz J r h=>(nomatch h),λF L zz zz J r h=>(nomatch h),λF L q d J w h=>?_,λF L zz zz J r h=>(nomatch h),λF L zz zz J r h=>(nomatch h)⟩;obtain h:Ux (yG z_ k) (yG z_ v) (yG z_ r) F.s L J=Ie w:=h;obtain⟨p,h1,h⟩:=zX h;obtain⟨a,h2,h⟩:=zX h;obtain⟨p',h3,h⟩:=zX h;obtain⟨Iw,h4,h⟩:=zX h;cases h;obtain h1:=ik.e F L q d _ _ h1;rw[uj h2]at h1;exact dq h1 (iv.e F L q d _ _ h3) (ir.k F L q d _ _ h4)
 |tup es ih=>refine .of (Us (yG z_ es)) rfl λF L q d J r h=>?_;obtain⟨p,h1,h⟩:=zX h;obtain⟨h2,h⟩:=yR h;rw[vl h];exact xU (ih.l F L q d _ _ h1) h2
 |lst es ih=>refine .of (Uv (yG z_ es)) rfl λF L q d J r h=>?_;obtain⟨p,h1,h⟩:=zX h;obtain⟨h2,h⟩:=yR h;rw[cV h];exact y' (ih.l F L q d _ _ h1) h2
 |wY m ih=>refine .of (c5 m (yG z_ m)) rfl λF L q d J r h=>?_;unfold c5 at h;cases h1:IP m.ctorIdx 8 with|true=>simp only[h1]at h;rewrite[ix h1];rw[cV h];exact jX|false=>simp only[h1]at h;obtain⟨h2,h⟩:=yR h;obtain⟨h3,h4⟩:=zh h2;rw[xA]at h;obtain⟨p,h5,h⟩:=zX h;obtain⟨es,h6,h⟩:=zX h;obtain⟨h7,h⟩:=yR h;obtain⟨h8,h9⟩:=zh h7;rw[xA]at h;have hk:=ih.k F L q d _ _ h5;have e:=cV h;obtain⟨k,v,w,rfl⟩:=Nr h4;rw[e];exact Yx (by rw[Hp]at h3;exact h3) hk (by rewrite[uX h6];rw[F0.mp h8]) h9
 |attr e x ih=>refine .of (V3 x (yG z_ e)) rfl λF L q d J r h=>?_;obtain⟨p,h1,h⟩:=zX h;obtain⟨n,h2,h⟩:=zX h;obtain⟨w,h3,h⟩:=zX h;obtain⟨h4,h⟩:=yR h;obtain⟨u,h5,h⟩:=zX h;obtain h1:=ih.e F L q d _ _ h1;rw[vY h2]at h1;rw[vl h];exact zM h1 (ku h3) h4 h5
 |sub o i io ii=>refine .of (w_sub (yG z_ o) (yG z_ i)) rfl λF L q d J r h=>?_;obtain⟨p,h1,h⟩:=zX h;obtain⟨p',h2,h⟩:=zX h;obtain⟨v,h3,h⟩:=zX h;rw[vl h];show E F L _ J (.ok v p'.2);exact yH (io.e F L q d _ _ h1) (ii.e F L q d _ _ h2) (KQ h3)
 |qQ|pD|pC|wQ=>exact .of _ rfl λF L zz zz J r h=>nomatch h
 |call f args jf ja=>refine .of (V1 z_ (yG z_ f) (yG z_ args)) rfl λF L q d J r h=>?_;obtain⟨h0,h⟩:=yR h;obtain⟨p,h1,h⟩:=zX h;obtain⟨p',h2,h⟩:=zX h;obtain⟨h3,h⟩:=yR h;obtain⟨w,h4,h⟩:=zX h;rw[Hp]at h0;rw[vl h];exact y0 (jf.e F L q d _ _ h1) (ja.l F L q d _ _ h2) (hc F q h0 d _ _ _ _ h4) h3
 |zl o x args jo ja=>refine .of (Uu z_ x (yG z_ o) (yG z_ args)) rfl λF L q d J r h=>?_;obtain⟨h0,h⟩:=yR h;obtain⟨p,h1,h⟩:=zX h;obtain⟨w,h2,h⟩:=zX h;obtain⟨p',h3,h⟩:=zX h;obtain⟨h4,h⟩:=yR h;obtain⟨u,h5,h⟩:=zX h;rw[Hp]at h0;rw[vl h];exact yj (jo.e F L q d _ _ h1) (RA h2) (ja.l F L q d _ _ h3) (hc F q h0 d _ _ _ _ h5) h4
 |bin op a c ja jc=>refine .of (V2 op (yG z_ a) (yG z_ c)) rfl λF L q d J r h=>?_;obtain⟨p,h1,h⟩:=zX h;obtain⟨p',h2,h⟩:=zX h;obtain⟨v,h3,h⟩:=zX h;rw[vl h];exact yd (ja.e F L q d _ _ h1) (jc.e F L q d _ _ h2) (Se h3)
 |not e ih=>refine .of (w_not (yG z_ e)) rfl λF L q d J r h=>?_;obtain⟨p,h1,h⟩:=zX h;obtain⟨t,h2,h⟩:=zX h;have h1:=ih.e F L q d _ _ h1;rw[mr h2]at h1;rw[vl h];exact vH h1
 |cmp op a c ja jc=>refine .of (V0 op (yG z_ a) (yG z_ c)) rfl λF L q d J r h=>?_;obtain⟨p,h1,h⟩:=zX h;obtain⟨p',h2,h⟩:=zX h;obtain⟨t,h3,h⟩:=zX h;rw[vl h];show E F L _ J (.ok (.bool t) p'.2);exact zZ (ja.e F L q d _ _ h1) (jc.e F L q d _ _ h2) (Rw h3)
 |and es ih=>exact .of ((yG z_ es).a) rfl λF L q d J r h=>let⟨t,e,k⟩:=ih.a F L q d J r h;by rw[e];exact k
 |or es ih=>exact .of ((yG z_ es).o) rfl λF L q d J r h=>let⟨t,e,k⟩:=ih.o F L q d J r h;by rw[e];exact k
 |ite c a e jc ja je=>refine .of (w_ite (yG z_ c) (yG z_ a) (yG z_ e)) rfl λF L q d J r h=>?_;obtain⟨p,h1,h⟩:=zX h;obtain⟨t,h2,h⟩:=zX h;obtain h1:=jc.e F L q d _ _ h1;rw[mr h2]at h1;cases t with|true=>exact wb h1 (ja.e F L q d _ _ h)|false=>exact we h1 (je.e F L q d _ _ h)
 |comp elt xs k it y_ je ji jc=>
  refine .of (V' xs k y_ (yG z_ elt) (yG z_ it)) rfl λF L q d J r h=>?_;obtain⟨h0,h⟩:=yR h;obtain⟨h1,h2⟩:=zh h0;obtain⟨h3,h4⟩:=zh h2;obtain⟨p,h5,h⟩:=zX h;obtain⟨t,h6,h⟩:=zX h;obtain⟨h7,h⟩:=yR h;obtain⟨w,h8,h⟩:=zX h;rw[xA,oQ]at h8;rw[Hp]at h1;obtain⟨i1,i2,i3⟩:=XZ h6;obtain hk:k=t.1.k:=by rw[i3];cases k<;>first|rfl|cases h3
  obtain h5:=ji.e F L q d _ _ h5;rw[i1]at h5;obtain e:=vl h;obtain hn:=ix h4;subst hk hn;rw[e];exact sb q h1 (H9.mp h7) h5 i2 (X0 (λL J r hr=>je.e {F with s:=t.1.d} L q d J r hr) t.2 [] _ w ⟨[],rfl⟩ (.inr trivial) h8 λzy hi=>X_ i2 hi)
end
noncomputable def q5(o:Option V):Fl:=match o with|none=>.next|Ie v=>.ret v
section
variable{z_:uQ}{n:Nat}{L:Loc}{J:St}
structure SB(z_:uQ)(n:Nat)(b:S):Prop where
 x:∀(F:Fr)(L:Loc),F.q=false->F.s=false->n<=F.d->∀J r,(vU z_ b).1 L J=some r->X1 F L b J (.ok (q5 r.1) r.2.1 r.2.2)
 b:∀(F:Fr)(L:Loc),F.q=false->F.s=false->n<=F.d->∀J r,(vU z_ b).2 L J=some r->XB F L b J (.ok (q5 r.1) r.2.1 r.2.2)
theorem SB.of{b:S}(f:xO)(h:vU z_ b=(f,wR))(x:∀(F:Fr)(L:Loc),F.q=Ig->F.s=Ig->n<=F.d->∀J r,f L J=Ie r->X1 F L b J (.ok (q5 r.1) r.2.1 r.2.2)):SB z_ n b:=by
 refine⟨?_,?_⟩;.rw[h];exact x
 .rw[h];exactλF L zz zz zz J r h=>nomatch h
theorem vq(hc:mi z_ n){F:Fr}{m:M}{k:V->St->Option (Option V×Loc×St)}{r:Option V×Loc×St}(q:F.q=Ig)(s:F.s=Ig)(d:n<=F.d)(h:wI z_ m L J k=Ie r):X2 λv zt=>E F L m J (.ok v zt)/\k v zt=Ie r:=by obtain⟨p,h1,h⟩:=zX h;rw[<-s]at h1;exact⟨p.1,p.2,(Kd hc m).e F L q d _ _ h1,h⟩
theorem ly{r:Option V×Loc×St}(h:qp L J=Ie r):r=(none,L,J):=by rw[Yo]at h;cases h;rfl
theorem Ve{m c x:Nat}{v:V}{fs:Loc}{r:Option V×Loc×St}(h:i8 J m c x v fs L=Ie r):r=(none,L,J.set m (.inst c (st x v fs))):=by rw[Kj]at h;cases h;rfl
theorem cQ{f g:xO}{r:Option V×Loc×St}(h:nD f g L J=Ie r):(∃v,f L J=Ie r/\r.1=Ie v)\/X2 λL1 yz=>f L J=Ie (none,L1,yz)/\g L1 yz=Ie r:=by obtain⟨⟨o,L1,yz⟩,h1,h⟩:=zX h;cases o with|some v=>cases h;exact .inl ⟨v,h1,rfl⟩|none=>exact .inr ⟨L1,yz,h1,h⟩
theorem Ur(hc:mi z_ n){F:Fr}{c:M}{b:S}(q:F.q=Ig)(s:F.s=Ig)(d:n<=F.d)(hb:∀L J r,(vU z_ b).2 L J=Ie r->XB F L b J (.ok (q5 r.1) r.2.1 r.2.2)):∀(m:Nat)(L:Loc)(J:St)(r:Option V×Loc×St),lB z_ c (vU z_ b).2 m L J=Ie r->WL F c b m L J (.ok (q5 r.1) r.2.1 r.2.2)
|0,L,J,r,h=>nomatch h
|m+1,L,J,r,h=>by
 have h:wI z_ c L J (λv yz=>(vBool v).bind λt=>match t with|Ib=>nD (vU z_ b).2 (lB z_ c (vU z_ b).2 m) L yz|Ig=>Ie (none,L,yz))=Ie r:=h;obtain⟨v,yz,h1,h⟩:=vq hc q s d h;obtain⟨t,h2,h⟩:=zX h;rw[mr h2]at h1;cases t with
 |false=>cases h;exact .stop h1
 |true=>
  rcases cQ h with⟨v,h3,h4⟩|⟨L1,vL,h3,h4⟩;.have:=hb _ _ _ h3;rw[h4]at this⊢;exact .ret h1 this
  .exact .turn h1 (hb _ _ _ h3) (Ur hc q s d hb m L1 vL r h4)
theorem YT{F:Fr}{xs:List Nat}{t:IT}{l:List V}{b:S}{f:xO}(hb:∀L J r,f L J=Ie r->XB F L b J (.ok (q5 r.1) r.2.1 r.2.2))(hi:∀zy,tK t l zy=Ib->t.is l zy):∀(ys:List V)(L:Loc)(J:St)(r:Option V×Loc×St),(∃pre,l=pre++ys)->dX f xs t l ys L J=Ie r->FL F xs t l b ys.length L J (.ok (q5 r.1) r.2.1 r.2.2)
|[],L,J,r,zo,h=>by obtain⟨h1,h⟩:=yR (show yh (tK t l J) (Ie (none,L,J))=Ie r from h);cases h;exact .stop (hi _ h1)
|x::ys,L,J,r,⟨pre,hp⟩,h=>by
 obtain⟨h1,h⟩:=yR (show yh (tK t l J) _=Ie r from h);obtain⟨L1,h2,h⟩:=zX h;rw[xA]at h;have hx:l[l.length-(ys.length+1)]?=Ie x:=by rewrite[hp];rewrite[IZ];rewrite[HV];rewrite[FU];rewrite[Hj (IV _)];rw[H4];rfl
 rcases cQ h with⟨v,h3,h4⟩|⟨L2,vL,h3,h4⟩;.have:=hb _ _ _ h3;rw[h4]at this⊢;exact .ret (hi _ h1) hx h2 this
 .exact .turn (hi _ h1) hx h2 (hb _ _ _ h3) (YT hb hi ys L2 vL r ⟨pre++[x],by rewrite[hp];rw[I3];rfl⟩ h4)
theorem Vh(hc:mi z_ n)(b:S):SB z_ n b:=by
 induction b with
 |qf=>exact .of wR rfl λF L zz zz zz J r h=>nomatch h
 |nil=>exact⟨λF L zz zz zz J r h=>(nomatch h),λF L zz zz zz J r h=>by cases h;exact zj⟩
 |cons s r is ir=>
  refine⟨λF L zz zz zz J r h=>(nomatch h),λF L q e d J w h=>?_⟩;rcases cQ (show nD (vU z_ s).1 (vU z_ r).2 L J=Ie w from h)with⟨v,h1,h2⟩|⟨L1,yz,h1,h2⟩;.obtain this:=is.x F L q e d _ _ h1;rw[h2]at this⊢;exact zT this
  .exact zr (is.x F L q e d _ _ h1) (ir.b F L1 q e d _ _ h2)
 |expr e=>refine .of (UM z_ e) rfl λF L q s d J r h=>?_;obtain⟨v,yz,h1,h⟩:=vq hc q s d h;rw[ly h];exact yF h1
 |ret e=>refine .of (UK z_ e) rfl λF L q s d J r h=>?_;obtain⟨v,yz,h1,h⟩:=vq hc q s d h;cases h;exact zK h1
 |asg x e=>refine .of (UT z_ x e) rfl λF L q s d J r h=>?_;obtain⟨h0,h⟩:=yR h;obtain⟨v,yz,h1,h⟩:=vq hc q s d h;rw[ly h];exact yq h1 h0
 |y8 xs e=>refine .of (UP z_ xs e) rfl λF L q s d J r h=>?_;obtain⟨v,yz,h1,h⟩:=vq hc q s d h;obtain⟨vs,h2,h⟩:=zX h;obtain⟨L1,h3,h⟩:=zX h;obtain⟨h4,h⟩:=yR h;rw[kJ h2]at h1;rw[ly h];exact u9 q h1 h3 (of_decide_eq_true h4)
 |z9 o x e=>refine .of (US z_ o x e) rfl λF L q s d J r h=>?_;obtain⟨v,yz,h1,h⟩:=vq hc q s d h;obtain⟨ov,vL,h2,h⟩:=vq hc q s d h;obtain⟨n,h3,h⟩:=zX h;obtain⟨p,h4,h⟩:=zX h;obtain⟨h5,h⟩:=yR h;obtain⟨h6,h7⟩:=zh h5;rw[vY h3]at h2;rw[Ve h];exact rC s h1 h2 (ku h4) h6 h7
 |y3 o i e=>refine .of (UR z_ o i e) rfl λF L q s d J r h=>?_;obtain⟨v,yz,h1,h⟩:=vq hc q s d h;obtain⟨ov,vL,h2,h⟩:=vq hc q s d h;obtain⟨iv,r9,h3,h⟩:=vq hc q s d h;obtain⟨n,h4,h⟩:=zX h;obtain⟨k,h5,h⟩:=zX h;obtain⟨es,h6,h⟩:=zX h;obtain⟨h7,h⟩:=yR h;replace h:=cO.symm.trans h;rw[vY h4]at h2;rw[uj h5]at h3;rw[ly h];exact p8 s h1 h2 h3 (uX h6) h7
 |mT o i o' i' e=>refine .of (UQ z_ o i o' i' e) rfl λF L q s d J r h=>?_;obtain⟨v,yz,h1,h⟩:=vq hc q s d h;obtain⟨ws,h2,h⟩:=zX h;obtain⟨p,h3,h⟩:=zX h;obtain⟨ov,vL,h4,h⟩:=vq hc q s d h;obtain⟨iv,r9,h5,h⟩:=vq hc q s d h;obtain⟨n,h6,h⟩:=zX h;obtain⟨k,h7,h⟩:=zX h;obtain⟨es,h8,h⟩:=zX h;obtain⟨h9,h⟩:=yR h;replace h:=cO.symm.trans h;obtain⟨ki,UE,g4,h⟩:=vq hc q s d h;obtain⟨lE,bf,g5,h⟩:=vq hc q s d h;obtain⟨n',g6,h⟩:=zX h;obtain⟨k',g7,h⟩:=zX h;obtain⟨uJ,g8,h⟩:=zX h;obtain⟨g9,h⟩:=yR h;replace h:=cO.symm.trans h;rw[kJ h2,Y8 h3]at h1;rw[vY h6]at h4;rw[uj h7]at h5;rw[vY g6]at g4;rw[uj g7]at g5;rw[ly h];exact Je q h1 h4 h5 (cM s (uX h8) h9) g4 g5 (cM s (uX g8) g9)
 |qF o x e=>refine .of (UO z_ o x e) rfl λF L q s d J r h=>?_;obtain⟨ov,yz,h1,h⟩:=vq hc q s d h;obtain⟨n,h2,h⟩:=zX h;obtain⟨p,h3,h⟩:=zX h;obtain⟨w,h4,h⟩:=zX h;obtain⟨i,h5,h⟩:=zX h;obtain⟨u,vL,h6,h⟩:=vq hc q s d h;obtain⟨j,h7,h⟩:=zX h;obtain⟨p',h8,h⟩:=zX h;obtain⟨h9,h⟩:=yR h;obtain⟨k1,k2⟩:=zh h9;obtain⟨k3,k4⟩:=zh k2;rw[YS]at h;rw[vY h2]at h1;rw[kK h5]at h4;rw[kK h7]at h6;obtain h8:=ku h8;rw[<-IJ k3]at h8;rw[Ve h];exact bw s h1 (ku h3) k1 h4 h6 h8 k4
 |cond c a b ia ib=>refine .of (UN z_ c (vU z_ a).2 (vU z_ b).2) rfl λF L q s d J r h=>?_;obtain⟨v,yz,h1,h⟩:=vq hc q s d h;obtain⟨t,h2,h⟩:=zX h;rw[mr h2]at h1;cases t with|true=>exact ya h1 (ia.b F L q s d _ _ h)|false=>exact zO h1 (ib.b F L q s d _ _ h)
 |«while» c b ib=>exact .of (lB z_ c (vU z_ b).2 12) rfl λF L q s d J r h=>p6 (Ur hc q s d (λL J r h=>ib.b F L q s d J r h) 12 L J r h)
 |«for» xs k m b ib=>
  refine .of (UL z_ xs k m (vU z_ b).2) rfl λF L q s d J r h=>?_;obtain⟨h0,h⟩:=yR h;obtain⟨v,yz,h1,h⟩:=vq hc q s d h;obtain⟨t,h2,h⟩:=zX h;obtain⟨h3,hz⟩:=yR h;obtain⟨i1,i2,i3⟩:=XZ h2;have hk:k=t.1.k:=by rw[i3];cases k<;>first|rfl|cases h0
  rw[i1]at h1;rw[Hp]at h3;subst hk;exact xY q h1 i2 h3 (YT (λL J r h=>ib.b F L q s d J r h) (λzy hi=>X_ i2 hi) t.2 L yz r ⟨[],rfl⟩ hz)
 |raise e=>exact .of wR rfl λF L zz zz zz J r h=>nomatch h
 |«try» b x h ib=>exact .of wR rfl λF L zz zz zz J r h=>nomatch h
end
theorem gS:∀n,mi (lr n) (2*n)
|0=>λF zz zz zz fv args J r h=>nomatch h
|n+1=>λF hq hs hd fv args J r h=>by
 have IH:=gS n;obtain⟨b,q,s,d⟩:=F;have hq:q=Ig:=hq;have hs:s=Ig:=hs;subst hq hs;have hd:2*(n+1)<=d:=hd;obtain⟨e,rfl⟩:∃e,d=e+2:=⟨d-2,by lia⟩;cases fv with
 |fn a=>obtain⟨fd,h1,h⟩:=zX (show(prog.fn a).bind (λfd=>(ug fd.params fd.dflt args).bind λL=>(xn L λL=>(vU (lr n) fd.body).2 L J).bind λr=>Ie (r.1.getD .none,r.2.2))=Ie r from h);obtain⟨L,h2,h⟩:=zX h;obtain⟨w,h3,h⟩:=zX h;rw[xA]at h3;cases h;have hx:=(Vh IH fd.body).b ⟨b,Ig,Ig,e+1⟩ L rfl rfl (show 2*n<=e+1 by lia) _ _ h3;obtain⟨o,L1,yz⟩:=w;cases o with|none=>exact vF h1 h2 hx|some v=>exact zG h1 h2 hx
 |cl c=>
  obtain⟨p,h1,h⟩:=zX (show(prog.cls c).bind (λp=>yh (!p.2) ((prog.fn p.1).bind λfd=>qm J.length λn1=>(ug fd.params fd.dflt (.ref n1::args)).bind λL=>(xn L λL=>xn (J++[.inst c []]) λoy=>(vU (lr n) fd.body).2 L oy).bind λr=>yh r.1.isNone (Ie (.ref n1,r.2.2))))=Ie r from h);obtain⟨h2,h⟩:=yR h;obtain⟨fd,h3,h⟩:=zX h;rw[oQ]at h;obtain⟨L,h4,h⟩:=zX h;obtain⟨w,h5,h⟩:=zX h;obtain⟨h6,h⟩:=yR h;rw[xA,xA]at h5;cases h;obtain⟨fi,x⟩:=p;have hx:x=Ig:=by rw[Hp]at h2;exact h2
  subst hx;have hx:=(Vh IH fd.body).b ⟨b,Ig,Ig,e⟩ L rfl rfl (show 2*n<=e by lia) _ _ h5;obtain⟨o,L1,yz⟩:=w;cases o with|none=>exact oP h1 h3 h4 hx|some v=>cases h6
 |bi f=>
  cases args with
  |nil=>cases h
  |cons a0 rest=>
   cases f with
   |nY=>obtain⟨m,h1,h⟩:=zX (show(xF a0).bind (λm=>(sg rest).bind λv=>(uB J[m]?).bind λxs=>yh (short xs) (xn (xs++[v]) λl=>xn (J.set m (.list l)) λyz=>Ie (V.none,yz)))=Ie r from h);obtain⟨v,h2,h⟩:=zX h;obtain⟨xs,h3,h⟩:=zX h;obtain⟨h4,h⟩:=yR h;rw[xA,xA]at h;cases h;rewrite[vY h1];rw[i7 h2];exact pP rfl (pG h3) h4
   |zE=>
    obtain⟨m,h1,h⟩:=zX (show(xF a0).bind _=Ie r from h);rw[vY h1];cases rest with
    |nil=>cases h
    |cons k0 r2=>
     obtain⟨k,h2,h⟩:=zX h;obtain⟨es,h3,h⟩:=zX h;have h3:J[m]?=Ie (.dict es)\/J[m]?=Ie (.uy es):=by cases hd:wC J[m]? with|some e'=>rw[hd]at h3;cases h3;exact .inl (uX hd)|none=>rw[hd]at h3;exact .inr (dD h3)
     rw[uj h2];cases r2 with|nil=>cases h;exact qd h3|cons dv r3=>obtain⟨h4,h⟩:=yR h;cases h;rw[F0.mp h4];exact l9 h3
   |m4=>obtain⟨m,h1,h⟩:=zX (show(xF a0).bind (λn=>(sg rest).bind λv=>(xF v).bind λm=>(wC J[n]?).bind λes=>(wC J[m]?).bind λfs=>yh (!IP m n&&short (es++fs)) (xn (tw fs es) λds=>xn (J.set n (.dict ds)) λyz=>Ie (V.none,yz)))=Ie r from h);obtain⟨v,h2,h⟩:=zX h;obtain⟨m2,h3,h⟩:=zX h;obtain⟨es,h4,h⟩:=zX h;obtain⟨fs,h5,h⟩:=zX h;obtain⟨h6,h⟩:=yR h;obtain⟨h7,h8⟩:=zh h6;rw[xA,xA]at h;cases h;rewrite[vY h1];rewrite[i7 h2];rw[vY h3];exact Mh rfl (uX h4) (uX h5) (λe=>by rw[e,G9]at h7;cases h7) h8
   |_=>
    exact absurd h (by
     obtain hv|hv:xF a0=none\/∃m,xF a0=Ie m:=by(cases xF a0;exact .inl rfl;exact .inr ⟨_,rfl⟩)
     .intro h;obtain⟨_,h1,_⟩:=zX h;replace h1:=hv.symm.trans h1;cases h1
     .intro h;obtain⟨_,_,h2⟩:=zX h;cases h2)
 |ty t=>obtain⟨a0,h1,h⟩:=zX (show(sg args).bind _=Ie r from h);obtain⟨m,h2,h⟩:=zX h;rewrite[i7 h1];rw[vY h2];cases t with|list=>obtain⟨es,h3,h⟩:=zX h;obtain⟨h4,h⟩:=yR h;rw[xA,xA,oQ]at h;cases h;exact RG rfl (uX h3) h4|dict=>obtain⟨l,h3,h⟩:=zX h;obtain⟨ps,h4,h⟩:=zX h;obtain⟨h5,h⟩:=yR h;rw[xA,xA,oQ]at h;cases h;rw[NM h4]at h3;exact RH rfl (pG h3) h5|_=>cases h
 |_=>cases h
noncomputable def nI(x2 x3 x4 x5 x6 x7 x8:List V):St:=[.uy oW,.uy nR,.qC x2,.list x3,.list x4,.list x5,.list x6,.list x7,.list x8]
noncomputable def modS:St:=[(.dict [([66,97,115,105,99,79,98,106,101,99,116],.none),([75,101,114,110,101,108],.none),([79,98,106,101,99,116],(.str [66,97,115,105,99,79,98,106,101,99,116])),([77,111,100,117,108,101],(.str [79,98,106,101,99,116])),([67,108,97,115,115],(.str [77,111,100,117,108,101])),([65],(.str [79,98,106,101,99,116])),([66],(.str [65])),([67],(.str [65])),([77],.none),([78],.none),([60,97,62],(.str [65])),([60,99,62],(.str [66])),([60,77,62],(.str [77,111,100,117,108,101])),([60,66,97,115,105,99,79,98,106,101,99,116,62],(.str [67,108,97,115,115])),([60,79,98,106,101,99,116,62],(.str [60,66,97,115,105,99,79,98,106,101,99,116,62])),([60,65,62],(.str [60,79,98,106,101,99,116,62])),([60,66,62],(.str [60,65,62])),([60,67,62],(.str [60,65,62]))]),(.dict [([65],(.str [79,98,106,101,99,116])),([66],(.str [65])),([67],(.str [65])),([77],.none),([78],.none),([60,97,62],(.str [65])),([60,99,62],(.str [66])),([60,77,62],(.str [77,111,100,117,108,101]))]),(.dict [([60,66,97,115,105,99,79,98,106,101,99,116,62],(.str [67,108,97,115,115])),([60,79,98,106,101,99,116,62],(.str [60,66,97,115,105,99,79,98,106,101,99,116,62])),([60,65,62],(.str [60,79,98,106,101,99,116,62])),([60,66,62],(.str [60,65,62])),([60,67,62],(.str [60,65,62]))]),(.list [(.tup [(.str [66,97,115,105,99,79,98,106,101,99,116]),(.ref 16)]),(.tup [(.str [75,101,114,110,101,108]),(.ref 20)]),(.tup [(.str [79,98,106,101,99,116]),(.ref 24)]),(.tup [(.str [77,111,100,117,108,101]),(.ref 28)]),(.tup [(.str [67,108,97,115,115]),(.ref 32)]),(.tup [(.str [65]),(.ref 36)]),(.tup [(.str [66]),(.ref 40)]),(.tup [(.str [67]),(.ref 44)]),(.tup [(.str [77]),(.ref 48)]),(.tup [(.str [78]),(.ref 52)]),(.tup [(.str [60,97,62]),(.ref 56)]),(.tup [(.str [60,99,62]),(.ref 60)]),(.tup [(.str [60,77,62]),(.ref 64)]),(.tup [(.str [60,66,97,115,105,99,79,98,106,101,99,116,62]),(.ref 68)]),(.tup [(.str [60,79,98,106,101,99,116,62]),(.ref 72)]),(.tup [(.str [60,65,62]),(.ref 76)]),(.tup [(.str [60,66,62]),(.ref 80)]),(.tup [(.str [60,67,62]),(.ref 84)])]),(.list []),(.list []),(.dict []),(.list [.none,(.ref 13),(.ref 14),(.ref 15)]),(.list []),(.list []),(.dict []),(.list [.none,(.ref 17),(.ref 18),(.ref 19)]),(.list []),(.list [(.str [75,101,114,110,101,108])]),(.dict []),(.list [(.str [66,97,115,105,99,79,98,106,101,99,116]),(.ref 21),(.ref 22),(.ref 23)]),(.list []),(.list []),(.dict []),(.list [(.str [79,98,106,101,99,116]),(.ref 25),(.ref 26),(.ref 27)]),(.list []),(.list []),(.dict []),(.list [(.str [77,111,100,117,108,101]),(.ref 29),(.ref 30),(.ref 31)]),(.list []),(.list []),(.dict []),(.list [(.str [79,98,106,101,99,116]),(.ref 33),(.ref 34),(.ref 35)]),(.list []),(.list []),(.dict []),(.list [(.str [65]),(.ref 37),(.ref 38),(.ref 39)]),(.list []),(.list []),(.dict []),(.list [(.str [65]),(.ref 41),(.ref 42),(.ref 43)]),(.list []),(.list []),(.dict []),(.list [.none,(.ref 45),(.ref 46),(.ref 47)]),(.list []),(.list []),(.dict []),(.list [.none,(.ref 49),(.ref 50),(.ref 51)]),(.list []),(.list []),(.dict []),(.list [(.str [65]),(.ref 53),(.ref 54),(.ref 55)]),(.list []),(.list []),(.dict []),(.list [(.str [66]),(.ref 57),(.ref 58),(.ref 59)]),(.list []),(.list []),(.dict []),(.list [(.str [77,111,100,117,108,101]),(.ref 61),(.ref 62),(.ref 63)]),(.list []),(.list []),(.dict []),(.list [(.str [67,108,97,115,115]),(.ref 65),(.ref 66),(.ref 67)]),(.list []),(.list []),(.dict []),(.list [(.str [60,66,97,115,105,99,79,98,106,101,99,116,62]),(.ref 69),(.ref 70),(.ref 71)]),(.list []),(.list []),(.dict []),(.list [(.str [60,79,98,106,101,99,116,62]),(.ref 73),(.ref 74),(.ref 75)]),(.list []),(.list []),(.dict []),(.list [(.str [60,65,62]),(.ref 77),(.ref 78),(.ref 79)]),(.list []),(.list []),(.dict []),(.list [(.str [60,65,62]),(.ref 81),(.ref 82),(.ref 83)]),(.dict [([66,97,115,105,99,79,98,106,101,99,116],(.ref 16)),([75,101,114,110,101,108],(.ref 20)),([79,98,106,101,99,116],(.ref 24)),([77,111,100,117,108,101],(.ref 28)),([67,108,97,115,115],(.ref 32)),([65],(.ref 36)),([66],(.ref 40)),([67],(.ref 44)),([77],(.ref 48)),([78],(.ref 52)),([60,97,62],(.ref 56)),([60,99,62],(.ref 60)),([60,77,62],(.ref 64)),([60,66,97,115,105,99,79,98,106,101,99,116,62],(.ref 68)),([60,79,98,106,101,99,116,62],(.ref 72)),([60,65,62],(.ref 76)),([60,66,62],(.ref 80)),([60,67,62],(.ref 84))])]
noncomputable def b6:St:=[(.dict []),(.dict []),(.inst 899 [(107,(.ref 86)),(98,(.ref 87)),(110,.none),(120,(.int 1000000)),(162,(.int 0)),(128,(.int 12)),(179,(.int 8)),(184,(.ref 89)),(76,(.ref 90)),(99,(.int 0)),(183,(.int 0)),(170,(.ref 91)),(156,(.ref 92)),(124,(.bool Ib)),(157,(.ref 128))]),(.dict []),(.dict [([79,98,106,101,99,116],(.ref 93)),([66,97,115,105,99,79,98,106,101,99,116],(.ref 99)),([67,108,97,115,115],(.ref 105)),([77,111,100,117,108,101],(.ref 111)),([75,101,114,110,101,108],(.ref 121))]),(.dict []),(.list []),(.inst 228 [(17,(.int 2)),(18,(.ref 105)),(114,(.ref 94)),(24,.none),(106,(.bool Ig)),(104,.none),(0,(.str [79,98,106,101,99,116])),(21,(.bool Ib)),(11,(.ref 99)),(42,.none),(19,(.ref 95)),(174,(.ref 96)),(80,(.ref 120)),(94,(.ref 98)),(41,.none),(34,(.str [79,98,106,101,99,116])),(61,.none)]),(.dict []),(.dict []),(.dict []),(.list []),(.list []),(.inst 228 [(17,(.int 3)),(18,(.ref 105)),(114,(.ref 100)),(24,.none),(106,(.bool Ig)),(104,.none),(0,(.str [66,97,115,105,99,79,98,106,101,99,116])),(21,(.bool Ib)),(11,.none),(42,.none),(19,(.ref 101)),(174,(.ref 102)),(80,(.ref 119)),(94,(.ref 104)),(41,.none),(34,(.str [66,97,115,105,99,79,98,106,101,99,116])),(61,.none)]),(.dict []),(.dict []),(.dict []),(.list []),(.list []),(.inst 228 [(17,(.int 4)),(18,(.ref 105)),(114,(.ref 106)),(24,.none),(106,(.bool Ig)),(104,.none),(0,(.str [67,108,97,115,115])),(21,(.bool Ib)),(11,(.ref 111)),(42,.none),(19,(.ref 107)),(174,(.ref 108)),(80,(.ref 118)),(94,(.ref 110)),(41,.none),(34,(.str [67,108,97,115,115])),(61,.none)]),(.dict []),(.dict []),(.dict []),(.list []),(.list []),(.inst 228 [(17,(.int 5)),(18,(.ref 105)),(114,(.ref 112)),(24,.none),(106,(.bool Ig)),(104,.none),(0,(.str [77,111,100,117,108,101])),(21,(.bool Ib)),(11,(.ref 93)),(42,.none),(19,(.ref 113)),(174,(.ref 114)),(80,(.ref 117)),(94,(.ref 116)),(41,.none),(34,(.str [77,111,100,117,108,101])),(61,.none)]),(.dict []),(.dict []),(.dict []),(.list []),(.list []),(.list []),(.list []),(.list []),(.list [(.ref 121)]),(.inst 228 [(17,(.int 6)),(18,(.ref 111)),(114,(.ref 122)),(24,.none),(106,(.bool Ig)),(104,.none),(0,(.str [75,101,114,110,101,108])),(21,(.bool Ig)),(11,.none),(42,.none),(19,(.ref 123)),(174,(.ref 124)),(80,(.ref 127)),(94,(.ref 126)),(41,.none),(34,(.str [75,101,114,110,101,108])),(61,.none)]),(.dict []),(.dict []),(.dict []),(.list []),(.list []),(.list []),(.inst 40 [(17,(.int 1)),(18,(.ref 93)),(114,(.ref 129)),(24,.none),(106,(.bool Ig)),(104,.none)]),(.dict []),(.list [(.str [79,98,106,101,99,116]),(.str [66,97,115,105,99,79,98,106,101,99,116]),(.str [67,108,97,115,115]),(.str [77,111,100,117,108,101]),(.str [75,101,114,110,101,108])]),(.list [(.str [79,98,106,101,99,116]),(.str [67,108,97,115,115]),(.str [75,101,114,110,101,108])]),(.list [(.tup [(.str [79,98,106,101,99,116]),(.ref 93)]),(.tup [(.str [67,108,97,115,115]),(.ref 105)]),(.tup [(.str [75,101,114,110,101,108]),(.ref 121)])]),(.dict [([79,98,106,101,99,116],(.ref 93)),([67,108,97,115,115],(.ref 105)),([75,101,114,110,101,108],(.ref 121)),([65],(.ref 135)),([66],(.ref 141)),([77],(.ref 148)),([78],(.ref 154)),([97],(.ref 160)),([99],(.ref 162))]),(.list [(.tup [(.str [65]),(.str [79,98,106,101,99,116])]),(.tup [(.str [66]),(.str [65])])]),(.inst 228 [(17,(.int 7)),(18,(.ref 105)),(114,(.ref 136)),(24,.none),(106,(.bool Ig)),(104,.none),(0,(.str [65])),(21,(.bool Ib)),(11,(.ref 93)),(42,.none),(19,(.ref 137)),(174,(.ref 138)),(80,(.ref 139)),(94,(.ref 140)),(41,.none),(34,.none),(61,.none)]),(.dict []),(.dict []),(.dict []),(.list []),(.list []),(.inst 228 [(17,(.int 8)),(18,(.ref 105)),(114,(.ref 142)),(24,.none),(106,(.bool Ig)),(104,.none),(0,(.str [66])),(21,(.bool Ib)),(11,(.ref 135)),(42,.none),(19,(.ref 143)),(174,(.ref 144)),(80,(.ref 145)),(94,(.ref 146)),(41,.none),(34,.none),(61,.none)]),(.dict []),(.dict []),(.dict []),(.list []),(.list []),(.list [(.str [77]),(.str [78])]),(.inst 228 [(17,(.int 9)),(18,(.ref 111)),(114,(.ref 149)),(24,.none),(106,(.bool Ig)),(104,.none),(0,(.str [77])),(21,(.bool Ig)),(11,.none),(42,.none),(19,(.ref 150)),(174,(.ref 151)),(80,(.ref 152)),(94,(.ref 153)),(41,.none),(34,.none),(61,.none)]),(.dict []),(.dict []),(.dict []),(.list []),(.list []),(.inst 228 [(17,(.int 10)),(18,(.ref 111)),(114,(.ref 155)),(24,.none),(106,(.bool Ig)),(104,.none),(0,(.str [78])),(21,(.bool Ig)),(11,.none),(42,.none),(19,(.ref 156)),(174,(.ref 157)),(80,(.ref 158)),(94,(.ref 159)),(41,.none),(34,.none),(61,.none)]),(.dict []),(.dict []),(.dict []),(.list []),(.list []),(.inst 40 [(17,(.int 11)),(18,(.ref 135)),(114,(.ref 161)),(24,.none),(106,(.bool Ig)),(104,.none)]),(.dict []),(.inst 40 [(17,(.int 12)),(18,(.ref 141)),(114,(.ref 163)),(24,.none),(106,(.bool Ig)),(104,.none)]),(.dict [])]
theorem RW(x2 x3 x4 x5 x6 x7 x8:List V):lr 18 (.fn 908) [] (nI x2 x3 x4 x5 x6 x7 x8)=Ie (.ref 85,nI x2 x3 x4 x5 x6 x7 x8++modS):=by kernel_rfl
theorem RX(x2 x3 x4 x5 x6 x7 x8:List V):lr 18 (.fn 989) [] (nI x2 x3 x4 x5 x6 x7 x8++modS)=Ie (.tup [.ref 88,.ref 133],(nI x2 x3 x4 x5 x6 x7 x8++modS)++b6):=by kernel_rfl
noncomputable def T0:Tb:=λi=>⟨λc=>if IP i 2&&!c then[1]else[],[]⟩
noncomputable def D0 : Dt where
  w := 88
  kn := 133
  zC := 0
  ad := tab 1000 [99, 121, 93, 111, 105, 135, 141, 1000, 148, 154, 1000, 1000, 1000, 1000, 1000, 1000, 1000, 1000, 1000, 1000, 160, 162]
  da := tab 1000 [101, 123, 95, 113, 107, 137, 143, 1000, 150, 156]
  la := fun c => match c with | Ig => tab 1000 [119, 127, 120, 117, 118, 139, 145, 1000, 152, 158] | Ib => tab 1000 [104, 126, 98, 116, 110, 140, 146, 1000, 153, 159]
  on := fun i => Hq i 7 || (IP i 8 || (IP i 9 || (IP i 20 || IP i 21)))
  nu := fun i => tab 0 [3, 6, 2, 5, 4, 7, 8, 0, 9, 10, 0, 0, 0, 0, 0, 0, 0, 0, 0, 0, 11, 12] i
  T := T0
noncomputable def Q0 (x8 : List V) : Mt where
  m := 85
  ro := fun i => 16 + 4 * i
  la := fun c i => match c with | Ib => 13 + 4 * i | Ig => 14 + 4 * i
  da := fun i => 15 + 4 * i
  x := 8
  xs := x8
noncomputable def S0(x2 x3 x4 x5 x6 x7 x8:List V):St:=(nI x2 x3 x4 x5 x6 x7 x8++modS)++b6
noncomputable def tC:List Nat:=[0,1,2,3,4,5,6,8,9]
noncomputable def sH:List Nat:=[0,1,2,3,4,5,6,8,9,20,21]
theorem qZ{i:Nat}(h:D0.on i=Ib):i∈sH:=by
 obtain h1:i<22:=HO λq=>by obtain h:(Hq i 7||(IP i 8||(IP i 9||(IP i 20||IP i 21))))=Ib:=h;simp only[Hw,Nat.beq_eq,Nat.blt_eq]at h;lia
 obtain this:∀i<22,D0.on i=Ib->i∈sH:=by decide+kernel
 exact this i h1 h
theorem rM{i:Nat}(h:D0.on i=Ib)(h8:i<18):i∈tC:=by
 obtain this:∀i∈sH,i<18->i∈tC:=by decide
 exact this i (qZ h) h8
theorem mapped{zi xD:Type}{l:List zi}{f g:zi->xD}(h:l.map f=l.map g):∀a∈l,f a=g a:=E7.mp h
theorem VH : WF T0 where
  li := fun i c => by
    show (if IP i 2 && !c then [1] else []) ∈ vm c i
    cases q : IP i 2 && !c with
    | true =>
      obtain ⟨q1, q2⟩ := Fu.mp q
      rw [IJ q1, show c = Ig by cases c; rfl; cases q2]; decide +kernel
    | false =>
      unfold vm
      rw [q]
      split
      · exact .head _
      · split <;> exact .head _
  ks := fun zz zz h => nomatch h
  nd := fun zz => Gn
theorem KZ : v3 D0 where
  inj := fun i j hi hj => by
    obtain this : ∀ i ∈ sH, ∀ j ∈ sH, D0.nu i = D0.nu j → i = j := by decide +kernel
    exact this i (qZ hi) j (qZ hj)
  lo := fun i hi => by
    obtain this : ∀ i ∈ sH, 88 + 5 ≤ D0.ad i ∧ (88 + 5 ≤ D0.da i ∧ ∀ c, 88 + 5 ≤ D0.la c i) := by decide +kernel
    exact let ⟨a, b, c⟩ := this i (qZ hi); ⟨a, b, c⟩
  w2 := by decide
  kn := by decide
  di := fun i j hi hj h1 h2 => by
    obtain this : ∀ i ∈ tC, ∀ j ∈ tC, D0.da i = D0.da j → i = j := by decide +kernel
    exact this i (rM hi h1) j (rM hj h2)
  dk := fun i hi h1 => by
    obtain this : ∀ i ∈ tC, D0.da i ≠ 133 := by decide +kernel
    exact this i (rM hi h1)
  li := fun i j c e hi hj h1 h2 => by
    obtain this : ∀ i ∈ tC, ∀ j ∈ tC, ∀ c e, D0.la c i = D0.la e j → i = j ∧ c = e := by decide +kernel
    exact this i (rM hi h1) j (rM hj h2) c e
  pm := fun i p hi h => by
    obtain this : ∀ i ∈ sH, (match par i with | Ie p => D0.on p | none => Ib) = Ib := by decide +kernel
    obtain this := this i (qZ hi)
    rw [h] at this; exact this
  om := by
    obtain this : ∀ i < 10, i ≠ 7 → D0.on i = Ib := by decide +kernel
    exact this
  tm := ⟨rfl, rfl⟩
  bd := fun i hi => by
    have : ∀ i ∈ sH, i < 18 ∨ i = 20 ∨ i = 21 := by decide
    exact this i (qZ hi)
  un := fun zz zz => ⟨fun zz => rfl, rfl⟩
  a7 := fun h => nomatch h
  wf := VH
section
variable(x2 x3 x4 x5 x6 x7 x8:List V)
theorem Kt : r4 (S0 x2 x3 x4 x5 x6 x7 x8) D0 [([79, 98, 106, 101, 99, 116], .ref 93), ([66, 97, 115, 105, 99, 79, 98, 106, 101, 99, 116], .ref 99), ([67, 108, 97, 115, 115], .ref 105), ([77, 111, 100, 117, 108, 101], .ref 111), ([75, 101, 114, 110, 101, 108], .ref 121)] where
  j := fun j hj => mapped (l := HM 5) (f := fun j => zE (wF j) [([79, 98, 106, 101, 99, 116], V.ref 93), ([66, 97, 115, 105, 99, 79, 98, 106, 101, 99, 116], .ref 99), ([67, 108, 97, 115, 115], .ref 105), ([77, 111, 100, 117, 108, 101], .ref 111), ([75, 101, 114, 110, 101, 108], .ref 121)]) (g := fun j => Ie (.ref (D0.ad j))) (by kernel_rfl) j (HC.mpr hj)
  e := fun s hs v hv => by
    obtain this := mapped (l := tu) (f := fun s => zE s [([79, 98, 106, 101, 99, 116], V.ref 93), ([66, 97, 115, 105, 99, 79, 98, 106, 101, 99, 116], .ref 99), ([67, 108, 97, 115, 115], .ref 105), ([77, 111, 100, 117, 108, 101], .ref 111), ([75, 101, 114, 110, 101, 108], .ref 121)]) (g := fun zz => none) (by kernel_rfl) s hs
    cases this.symm.trans hv
  nd := by decide +kernel
  ks := fun k hk => by
    obtain this : ∀ k ∈ [[79, 98, 106, 101, 99, 116], [66, 97, 115, 105, 99, 79, 98, 106, 101, 99, 116], [67, 108, 97, 115, 115], [77, 111, 100, 117, 108, 101], [75, 101, 114, 110, 101, 108]], k ∈ tu ∨ ∃ j, j < 5 ∧ k = wF j := by decide +kernel
    exact this k hk
theorem Kr : RI (S0 x2 x3 x4 x5 x6 x7 x8) D0 where
  wo := ⟨12, .ref 128, by kernel_rfl, fun i hi => by
    obtain this : ∀ i ∈ sH, D0.nu i ≤ 12 := by decide +kernel
    exact this i (qZ hi)⟩
  md := ⟨_, by kernel_rfl, Kt x2 x3 x4 x5 x6 x7 x8⟩
  c0 := rfl
  c1 := rfl
  n0 := by kernel_rfl
  n1 := by kernel_rfl
  kn := by kernel_rfl
  oo := fun i hi h => ⟨.none, D0.da i - 1, D0.da i + 1, mapped (l := tC) (f := fun i => (S0 x2 x3 x4 x5 x6 x7 x8)[D0.ad i]?) (g := fun i => Ie (.inst 228 (D0.wV i (D0.da i - 1) (D0.da i + 1) .none))) (by kernel_rfl) i (rM hi h), .inl rfl⟩
  mm := fun i hi h => mapped (l := tC) (f := fun i => (S0 x2 x3 x4 x5 x6 x7 x8)[D0.da i]?) (g := fun i => Ie (.dict [])) (by kernel_rfl) i (rM hi h)
  ee := fun i hi h p hp => nomatch hp
  ll := fun i c hi h => by
    cases c with
    | true => exact mapped (l := tC) (f := fun i => (S0 x2 x3 x4 x5 x6 x7 x8)[D0.la Ib i]?) (g := fun i => Ie (.list (rf D0.ad ((T0 i).li Ib)))) (by kernel_rfl) i (rM hi h)
    | false => exact mapped (l := tC) (f := fun i => (S0 x2 x3 x4 x5 x6 x7 x8)[D0.la Ig i]?) (g := fun i => Ie (.list (rf D0.ad ((T0 i).li Ig)))) (by kernel_rfl) i (rM hi h)
  th := fun i hi h => ⟨D0.ad i + 1, by
    obtain this : ∀ i ∈ sH, 18 ≤ i → i ∈ [20, 21] := by decide
    exact mapped (l := [20, 21]) (f := fun i => (S0 x2 x3 x4 x5 x6 x7 x8)[D0.ad i]?) (g := fun i => Ie (.inst 40 (D0.tV i (D0.ad i + 1)))) (by kernel_rfl) i (this i (qZ hi) h)⟩
  s := KZ
theorem Ks : MI (Q0 x8) 86 (S0 x2 x3 x4 x5 x6 x7 x8) T0 where
  m := by kernel_rfl
  r := fun i hi => mapped (l := HM 18) (f := fun i => (S0 x2 x3 x4 x5 x6 x7 x8)[16 + 4 * i]?) (g := fun i => Ie (.list ((Q0 x8).row i))) (by kernel_rfl) i (HC.mpr hi)
  l := fun i c hi => by
    cases c with
    | true => exact mapped (l := HM 18) (f := fun i => (S0 x2 x3 x4 x5 x6 x7 x8)[13 + 4 * i]?) (g := fun i => Ie (.list (((T0 i).li Ib).map zU))) (by kernel_rfl) i (HC.mpr hi)
    | false => exact mapped (l := HM 18) (f := fun i => (S0 x2 x3 x4 x5 x6 x7 x8)[14 + 4 * i]?) (g := fun i => Ie (.list (((T0 i).li Ig).map zU))) (by kernel_rfl) i (HC.mpr hi)
  d := fun i hi => mapped (l := HM 18) (f := fun i => (S0 x2 x3 x4 x5 x6 x7 x8)[15 + 4 * i]?) (g := fun i => Ie (.dict [])) (by kernel_rfl) i (HC.mpr hi)
  lt := ⟨by show 85 < 86; decide, fun i hi => ⟨by show 16 + 4 * i < 86; lia, fun c => by
    cases c
    · show 14 + 4 * i < 86; lia
    · show 13 + 4 * i < 86; lia, by show 15 + 4 * i < 86; lia⟩⟩
  jl := fun i j c e zz zz h => by
    cases c <;> cases e
    · exact ⟨by obtain this : 14 + 4 * i = 14 + 4 * j := h; lia, rfl⟩
    · obtain this : 14 + 4 * i = 13 + 4 * j := h; lia
    · obtain this : 13 + 4 * i = 14 + 4 * j := h; lia
    · exact ⟨by obtain this : 13 + 4 * i = 13 + 4 * j := h; lia, rfl⟩
  jr := fun i j c zz zz h => by
    cases c
    · obtain this : 16 + 4 * i = 14 + 4 * j := h; lia
    · obtain this : 16 + 4 * i = 13 + 4 * j := h; lia
  jd := fun i j zz zz h => by obtain this : 15 + 4 * i = 15 + 4 * j := h; lia
  jm := fun i hi h => by obtain this : 15 + 4 * i = 85 := h; lia
  w := VH
  x := rfl
  lx := by show 8 < 86; decide
  jx := fun i c hi h => by
    cases c
    · obtain this : 14 + 4 * i = 8 := h; lia
    · obtain this : 13 + 4 * i = 8 := h; lia
theorem Ku:LS (Q0 x8) 86 88 133 Ig (S0 x2 x3 x4 x5 x6 x7 x8) D0:=⟨Kr x2 x3 x4 x5 x6 x7 x8,Ks x2 x3 x4 x5 x6 x7 x8,rfl,rfl,rfl,rfl⟩
end
noncomputable def iZ(n:Int):Nat:=n.natAbs%10000000
noncomputable def v9(ns:List Int):List Nat:=(ns.take 7).map iZ
noncomputable def tE(ns:List Int):List Nat:=v9 ns++(if ns.isEmpty then[2]else[])
noncomputable def w3(ns:List Int):List V:=ns.map V.int
noncomputable def S2(ns:List Int):St:=[.uy oW,.uy nR,.qC (w3 ns)]
noncomputable def S3(ns:List Int):St:=S2 ns++[.list ((w3 ns).take 7)]
noncomputable def S4(ns:List Int)(l:List V):St:=S3 ns++[.list l]
section
variable{b:Bc}{d:Nat}{ns:List Int}
noncomputable def lL(ns:List Int):Loc:=[(97,.ref 2)]
theorem Wo:(tE ns).length<=7:=by unfold tE v9;cases ns with|nil=>decide|cons n r=>rewrite[IZ];rewrite[IY];rw[Fy];show min 7 _+0<=7;lia
theorem Mz(h:ns.length<=1000):E ⟨b,Ig,Ig,d⟩ (lL ns) (.comp (.bin .mod (.call (.zu 118) (.cons (.loc 15) .nil)) (.bin .pow (.int 10) (.int 7))) [15] .plain (.pD (.loc 97) (.int 7)) .nil) (S2 ns) (.ok (.ref 4) (S4 ns (y6 (v9 ns)))):=by
 obtain h7:((w3 ns).take 7).length<=7:=by rw[Fy];lia
 obtain⟨acc,zv,k,us,hu,hv,O0⟩:=CL.go (F:=⟨b,Ig,Ig,d⟩) (L:=lL ns) (xs:=[15]) (t:=.list 3) (elt:=(.bin .mod (.call (.zu 118) (.cons (.loc 15) .nil)) (.bin .pow (.int 10) (.int 7)))) (y_:=.nil) (n0:=4) (l:=(w3 ns).take 7) (zs:=ns.take 7) (g:=λzz n=>V.int n) (by unfold w3;rewrite[<-EK];rw[IY]) (λp z e=>by unfold w3;rewrite[<-EK];rewrite[IM];rw[e];rfl) (P:=λp ys acc zv=>∃us,C3 (acc=y6 us) (us++ys.map iZ=v9 ns) (zv=S4 ns acc)) (λp ys acc zv⟨zo,zY,zF,e⟩=>e▸rfl) (by
  rintro p z ys acc zv hp hd⟨us,rfl,hu,rfl⟩;refine⟨_,_,rfl,.inr ⟨_,V.int ((iZ z:Nat):Int),.inl ⟨rfl,rfl⟩,yd (y7 rfl (zx rfl) RJ) (yd yr yr Ss) (qw (by decide)),rfl,?_,us++[iZ z],?_,?_,?_⟩⟩;.obtain this:=congrArg GH hu;unfold v9 at this;rw[IZ,IY,IY,Fy]at this;exact xG (by unfold y6;rw[IY];lia)
  .unfold y6;rw[HH];rfl
  .rw[I3];exact hu
  .rfl) (ns.take 7).length 0 (ns.take 7) [] (S4 ns []) rfl rfl ⟨[],rfl,rfl,rfl⟩;rw[GW,Hf]at hv;subst hu hv O0;rw[show(ns.take 7).length=((w3 ns).take 7).length by unfold w3;rewrite[<-EK];rw[IY]]at k;exact sb (t:=.list 3) rfl rfl rfl (Rb (zx rfl) yr λt=>Ke (J:=S2 ns) (by decide) rfl (xG (by unfold w3;rw[IY];exact h))) rfl k
noncomputable def S8(ns:List Int):St:=nI (w3 ns) ((w3 ns).take 7) (y6 (v9 ns)) [.int 2] [] (if ns.isEmpty then[.int 2]else[]) (y6 (tE ns))
theorem Xf:∀ns:List Int,(w3 ns).all (lvl 3)=Ib|[]=>rfl|zo::r=>Xf r
theorem Mr(h:ns.length<=1000):X1 ⟨b,Ig,Ig,d⟩ (lL ns) (.asg 25 (.bin .add (.comp (.bin .mod (.call (.zu 118) (.cons (.loc 15) .nil)) (.bin .pow (.int 10) (.int 7))) [15] .plain (.pD (.loc 97) (.int 7)) .nil) (.bin .mul (.lst (.cons (.int 2) .nil)) (.call (.zu 45) (.cons (.cmp .eq (.loc 97) (.lst .nil)) .nil))))) (S2 ns) (.ok .next (st 25 (.ref 8) (lL ns)) (S8 ns)):=by have e2:E ⟨b,Ig,Ig,d⟩ (lL ns) (.lst (.cons (.int 2) .nil)) (S4 ns (y6 (v9 ns))) (.ok (.ref 5) (S4 ns (y6 (v9 ns))++[.list [.int 2]])):=y' (zp yr zf) rfl;obtain e3:E ⟨b,Ig,Ig,d⟩ (lL ns) (.call (.zu 45) (.cons (.cmp .eq (.loc 97) (.lst .nil)) .nil)) (S4 ns (y6 (v9 ns))++[.list [.int 2]]) (.ok (.int (if ns.isEmpty then 1 else 0)) ((S4 ns (y6 (v9 ns))++[.list [.int 2]])++[.list []])):=y7 rfl (zZ (zx rfl) (y' zf rfl) (mO (m:=2) (n:=6) (xs:=w3 ns) (t:=ns.isEmpty) (.inr rfl) rfl (Xf ns) rfl (by cases ns<;>rfl)).1) Yd;obtain e4:=yd e2 e3 (bA (m:=5) rfl (by cases ns.isEmpty;exact .inl rfl;exact .inr rfl) rfl);obtain e5:=yd (Mz (b:=b) (d:=d) h) e4 (mS (m:=4) (n:=7) (xs:=y6 (v9 ns)) rfl rfl (xG (by rw[IZ];unfold y6 v9;rewrite[IY];rewrite[IY];rw[Fy];cases ns.isEmpty<;>show _+_<=1000<;>simp<;>lia)));obtain e6:=yq (x:=25) e5;rw[show y6 (v9 ns)++(if(if ns.isEmpty=Ib then(1:Int)else 0)=0 then[]else[V.int 2])=y6 (tE ns)by unfold tE y6;rw[HH];cases ns.isEmpty<;>rfl,show(if(if ns.isEmpty=Ib then(1:Int)else 0)=0 then[]else[V.int 2])=(if ns.isEmpty=Ib then[V.int 2]else[])by cases ns.isEmpty<;>rfl]at e6;exact e6
theorem Lg(h:ns.length<=1000):∃zv,Call ⟨b,Ig,Ig,41⟩ (.fn 994) [.ref 2] (S2 ns) (.ok (.bool Ib) zv):=by obtain c1:=gS 18 ⟨b,Ig,Ig,40⟩ rfl rfl (show 36<=40 by decide) _ _ _ _ (RW (w3 ns) ((w3 ns).take 7) (y6 (v9 ns)) [.int 2] [] (if ns.isEmpty then[.int 2]else[]) (y6 (tE ns)));obtain c2:=gS 18 ⟨b,Ig,Ig,40⟩ rfl rfl (show 36<=40 by decide) _ _ _ _ (RX (w3 ns) ((w3 ns).take 7) (y6 (v9 ns)) [.int 2] [] (if ns.isEmpty then[.int 2]else[]) (y6 (tE ns)));obtain x1:X1 ⟨b,Ig,Ig,40⟩ (st 25 (.ref 8) (lL ns)) (.y8 [7,37] (.tup (.cons (.call (.zu 177) .nil) (.cons (.cmp .lt (.call (.zu 31) (.cons (.loc 25) .nil)) (.int 2)) .nil)))) (S8 ns) _:=u9 (F:=⟨b,Ig,Ig,40⟩) (vs:=[.ref 85,.bool (decide (((y6 (tE ns)).length:Int)<2))]) rfl (xU (zp (y0 (fv:=.fn 908) (yk rfl) zf c1) (zp (zZ (y7 rfl (zx rfl) (q6 (n:=8) rfl (xG (by unfold y6;rw[IY];exact I8 Wo (by decide))))) yr jv) zf)) rfl) rfl;obtain x2:X1 ⟨b,Ig,Ig,40⟩ _ (.y8 [1,9] (.call (.zu 178) .nil)) _ _:=u9 (F:=⟨b,Ig,Ig,40⟩) (L:=st 37 (.bool (decide (((y6 (tE ns)).length:Int)<2))) (st 7 (.ref 85) (st 25 (.ref 8) (lL ns)))) (xs:=[1,9]) rfl (y0 (fv:=.fn 989) (yk rfl) zf c2) rfl;obtain⟨L',zv,x3⟩:=NF (b:=b) (d:=16) (Ku (w3 ns) ((w3 ns).take 7) (y6 (v9 ns)) [.int 2] [] (if ns.isEmpty then[.int 2]else[]) (y6 (tE ns))) rfl rfl (L:=st 9 (.ref 133) (st 1 (.ref 88) (st 37 (.bool (decide (((y6 (tE ns)).length:Int)<2))) (st 7 (.ref 85) (st 25 (.ref 8) (lL ns)))))) ⟨rfl,rfl,rfl,rfl,rfl⟩ Wo;exact⟨zv,zG (d:=40) rfl rfl (zr (Mr h) (zr x1 (zr x2 x3)))⟩
end
open PySem PySem.W PySem.Calls PyProof.Rows
noncomputable def z0:FM:=λn=>if n=0 then Ie 633 else if n=1 then Ie 636 else none
noncomputable def zL(w:World)(B:Hu):Bc:=⟨pw,w,B,z0,KL w.params,Xs⟩
noncomputable def b':{k:FuncData->List IX->Option (Array IX)->Sem (List (Str×IX))//∀fd vals,bindArgs fd ⟨vals,[]⟩=seqItems? fd.defaults>>=k fd vals}:=⟨_,λfd vals=>rfl⟩
theorem xW{s:IS}{fd:FuncData}{vals:List IX}{T:I4}{o:Obj}{items:Array IX}{n:Nat}{binds:List (Str×IX)}(hd:fd.defaults=.ref T)(ho:s.heap.get? T=Ie o)(hs:o.data=.seq items n)(h:b'.1 fd vals (Ie items)=pure binds):BindsTo s fd ⟨vals,[]⟩ binds:=BindsTo.of_defaults hd ho hs (b'.2 fd vals) h
section
variable{P:List IX->Prop}{l n:Nat}
theorem len0(h:P []):∀l,l.length=0->P l:=λl e=>List.eq_nil_of_length_eq_zero e▸h
theorem uq(h:∀a,P [a]):∀l,l.length=1->P l|a::l,e=>len0 (P:=λl=>P (a::l)) (h a) l (HI e)
theorem yA(h:∀a b,P [a,b]):∀l,l.length=2->P l|a::l,e=>uq (P:=λl=>P (a::l)) (h a) l (HI e)
theorem xt(h:∀a b c,P [a,b,c]):∀l,l.length=3->P l|a::l,e=>yA (P:=λl=>P (a::l)) (h a) l (HI e)
theorem uo(h:∀a b c d,P [a,b,c,d]):∀l,l.length=4->P l|a::l,e=>xt (P:=λl=>P (a::l)) (h a) l (HI e)
theorem nW(h:∀a b c d e,P [a,b,c,d,e]):∀l,l.length=5->P l|a::l,e=>uo (P:=λl=>P (a::l)) (h a) l (HI e)
theorem ij(h:∀a b c d e f,P [a,b,c,d,e,f]):∀l,l.length=6->P l|a::l,e=>nW (P:=λl=>P (a::l)) (h a) l (HI e)
theorem XD(h:∀a b c d e f g,P [a,b,c,d,e,f,g]):∀l,l.length=7->P l|a::l,e=>ij (P:=λl=>P (a::l)) (h a) l (HI e)
theorem mR(h1:l<=n+1)(h2:n+1<=l+1):l=n\/l=n+1:=by omega
theorem gY(h1:l<=n+3)(h2:n+3<=l+3):l=n\/l=n+1\/l=n+2\/l=n+3:=by omega
theorem Sg(h1:l<=n+4)(h2:n+4<=l+4):l=n\/l=n+1\/l=n+2\/l=n+3\/l=n+4:=by omega
end
section
variable{w:World}{B:Hu}{a c:Nat}{st:Stmt}{q:String}{dv mv:IX}{fd:FD}
noncomputable def Vg(sc:Scope):Bool:=sc.kind==.function&&!sc.isCoroutine&&!sc.isGenerator
theorem NO{a:ScopeKind}(h:(a==.function)=Ib):a=.function:=by cases a<;>first|rfl|cases h
set_option tactic.hygienic true in theorem sX(hK:(KL w.params).In B)(hC:tO B c=Ie (Hr q))(h1:(KL w.params).lookup a=Ie (kf st q dv mv (.ref c)))(h3:rI st=uA fd.body (nJ (rI st)))(h4:(tX Xs fd.body (nJ (rI st)) (qT st)&&(Vg (qT st)&&fd.params.all λx=>vb (qT st) (nm x)))=Ib)(fp:List IX)(ez:∀f C h,zS f C h fd.dflt fp)(hb:∀(vals:List IX)(s:IS),(∀c o,B.get? c=Ie o->s.heap.get? c=Ie o)->vals.length<=fd.params.length->fd.params.length<=vals.length+fd.dflt.length->BindsTo s (uF st q dv mv (.ref c)) ⟨vals,[]⟩ ((fd.params.map nm).zip (vals++fp.drop (fd.dflt.length-(fd.params.length-vals.length))))):zI (zL w B) a fd:=by
 obtain⟨k1,k2⟩:=zh h4;obtain⟨k2,k3⟩:=zh k2;obtain⟨k2,k5⟩:=zh k2;obtain⟨k2,k6⟩:=zh k2;refine⟨⟨_,uF st q dv mv (.ref c),rI st,hK _ _ h1,rfl,rfl,rfl,rfl,rfl,?_,NO k2,by rw[Hp]at k6;exact k6,by rw[Hp]at k5;exact k5,h3,k1,k3,fp,λf C h zz zz=>ez f C h,hb⟩⟩;show B.CodeRec (.ref c) (Hr q);unfold tO at hC;split at hC
 .rename_i o1 o2 vs o3 hg;split at hC;.rename_i q' t hv;cases hC;exact⟨c,_,vs,t,rfl,hg,rfl,hv⟩
  .cases hC
 .cases hC
theorem yo(hK:(KL w.params).In B)(hC:tO B c=Ie (Hr q))(h1:(KL w.params).lookup a=Ie (kf st q dv mv (.ref c)))(h3:rI st=uA fd.body (nJ (rI st)))(h4:(tX Xs fd.body (nJ (rI st)) (qT st)&&(Vg (qT st)&&fd.params.all λx=>vb (qT st) (nm x)))=Ib)(hd:fd.dflt=[])(hb:∀vals:List IX,vals.length=fd.params.length->bindArgs (uF st q dv mv (.ref c)) ⟨vals,[]⟩=pure ((fd.params.map nm).zip vals)):zI (zL w B) a fd:=sX hK hC h1 h3 h4 [] (λzz zz zz=>by rw[hd];rfl) λvals s hs l1 l2=>by rw[hd]at l2;rewrite[List.drop_nil];rw[Hf];exact .of_eq (hb vals (Dz l1 l2))
theorem zB{zi:Type}{l:List zi}{x:zi}(i:Nat)(h:l[i]?=Ie x):x∈l:=I9 h
variable(hK:(KL w.params).In B)(hC:∀p∈oV,tO B p.1=Ie (Hr p.2))
include hK hC
theorem Qq:zI (zL w B) 37 aV:=yo (st:=s2 5 0) (q:="Thing.__init__") (dv:=.none) (mv:=(kv "gemrows.things" 194)) (c:=36) hK (hC (36,"Thing.__init__") (zB 0 rfl)) (by kernel_rfl) (by kernel_rfl) (by kernel_rfl) rfl (xt λa b c=>by kernel_rfl)
theorem QO:zI (zL w B) 59 mD:=sX (st:=s2 6 0) (q:="Text.__init__") (dv:=(.ref 52)) (mv:=(kv "gemrows.things" 194)) (c:=58) hK (hC (58,"Text.__init__") (zB 1 rfl)) (by kernel_rfl) (by kernel_rfl) (by kernel_rfl) [(kv "" 307)] (λzz zz zz=>⟨_,_,rfl,⟨_,rfl⟩,rfl⟩) λvals s hs l1 l2=>by
 let PP:List IX->Prop:=λvals=>BindsTo s (uF (s2 6 0) "Text.__init__" (.ref 52) (kv "gemrows.things" 194) (.ref 58)) ⟨vals,[]⟩ ((mD.params.map nm).zip (vals++([(kv "" 307)]:List IX).drop (mD.dflt.length-(mD.params.length-vals.length))));show PP vals;rcases mR (n:=3) l1 l2 with h|h;.exact xt (P:=PP) (λa b c=>xW rfl (hs _ _ (hK 52 (kt [(kv "" 307)] 0) (by kernel_rfl))) rfl (by kernel_rfl)) vals h
 .exact uo (P:=PP) (λa b c d=>xW rfl (hs _ _ (hK 52 (kt [(kv "" 307)] 0) (by kernel_rfl))) rfl (by kernel_rfl)) vals h
theorem R5:zI (zL w B) 178 mG:=sX (st:=s2 11 0) (q:="ErrorThing.__init__") (dv:=(.ref 171)) (mv:=(kv "gemrows.things" 194)) (c:=177) hK (hC (177,"ErrorThing.__init__") (zB 2 rfl)) (by kernel_rfl) (by kernel_rfl) (by kernel_rfl) [.none] (λzz zz zz=>⟨_,_,rfl,rfl,rfl⟩) λvals s hs l1 l2=>by
 let PP:List IX->Prop:=λvals=>BindsTo s (uF (s2 11 0) "ErrorThing.__init__" (.ref 171) (kv "gemrows.things" 194) (.ref 177)) ⟨vals,[]⟩ ((mG.params.map nm).zip (vals++([.none]:List IX).drop (mG.dflt.length-(mG.params.length-vals.length))));show PP vals;rcases mR (n:=3) l1 l2 with h|h;.exact xt (P:=PP) (λa b c=>xW rfl (hs _ _ (hK 171 (kt [.none] 0) (by kernel_rfl))) rfl (by kernel_rfl)) vals h
 .exact uo (P:=PP) (λa b c d=>xW rfl (hs _ _ (hK 171 (kt [.none] 0) (by kernel_rfl))) rfl (by kernel_rfl)) vals h
theorem R4:zI (zL w B) 218 mE:=sX (st:=s2 13 0) (q:="ModuleThing.__init__") (dv:=(.ref 211)) (mv:=(kv "gemrows.things" 194)) (c:=217) hK (hC (217,"ModuleThing.__init__") (zB 3 rfl)) (by kernel_rfl) (by kernel_rfl) (by kernel_rfl) [.none,(.bool Ig),.none,.none] (λzz zz zz=>⟨_,_,rfl,rfl,⟨_,_,rfl,rfl,⟨_,_,rfl,rfl,⟨_,_,rfl,rfl,rfl⟩⟩⟩⟩) λvals s hs l1 l2=>by
 let PP:List IX->Prop:=λvals=>BindsTo s (uF (s2 13 0) "ModuleThing.__init__" (.ref 211) (kv "gemrows.things" 194) (.ref 217)) ⟨vals,[]⟩ ((mE.params.map nm).zip (vals++([.none,(.bool Ig),.none,.none]:List IX).drop (mE.dflt.length-(mE.params.length-vals.length))));show PP vals;rcases Sg (n:=3) l1 l2 with h|h|h|h|h;.exact xt (P:=PP) (λa b c=>xW rfl (hs _ _ (hK 211 (kt [.none,(.bool Ig),.none,.none] 0) (by kernel_rfl))) rfl (by kernel_rfl)) vals h
 .exact uo (P:=PP) (λa b c d=>xW rfl (hs _ _ (hK 211 (kt [.none,(.bool Ig),.none,.none] 0) (by kernel_rfl))) rfl (by kernel_rfl)) vals h
 .exact nW (P:=PP) (λa b c d e=>xW rfl (hs _ _ (hK 211 (kt [.none,(.bool Ig),.none,.none] 0) (by kernel_rfl))) rfl (by kernel_rfl)) vals h
 .exact ij (P:=PP) (λa b c d e f=>xW rfl (hs _ _ (hK 211 (kt [.none,(.bool Ig),.none,.none] 0) (by kernel_rfl))) rfl (by kernel_rfl)) vals h
 .exact XD (P:=PP) (λa b c d e f g=>xW rfl (hs _ _ (hK 211 (kt [.none,(.bool Ig),.none,.none] 0) (by kernel_rfl))) rfl (by kernel_rfl)) vals h
theorem Qz:zI (zL w B) 225 aW:=yo (st:=s2 13 1) (q:="ModuleThing.is_own") (dv:=.none) (mv:=(kv "gemrows.things" 194)) (c:=224) hK (hC (224,"ModuleThing.is_own") (zB 4 rfl)) (by kernel_rfl) (by kernel_rfl) (by kernel_rfl) rfl (uq λa=>by kernel_rfl)
theorem Qy:zI (zL w B) 245 mI:=sX (st:=s2 14 0) (q:="Entry.__init__") (dv:=(.ref 238)) (mv:=(kv "gemrows.things" 194)) (c:=244) hK (hC (244,"Entry.__init__") (zB 5 rfl)) (by kernel_rfl) (by kernel_rfl) (by kernel_rfl) [.none,.none,(kv "public" 593)] (λzz zz zz=>⟨_,_,rfl,rfl,⟨_,_,rfl,rfl,⟨_,_,rfl,⟨_,rfl⟩,rfl⟩⟩⟩) λvals s hs l1 l2=>by
 let PP:List IX->Prop:=λvals=>BindsTo s (uF (s2 14 0) "Entry.__init__" (.ref 238) (kv "gemrows.things" 194) (.ref 244)) ⟨vals,[]⟩ ((mI.params.map nm).zip (vals++([.none,.none,(kv "public" 593)]:List IX).drop (mI.dflt.length-(mI.params.length-vals.length))));show PP vals;rcases gY (n:=4) l1 l2 with h|h|h|h;.exact uo (P:=PP) (λa b c d=>xW rfl (hs _ _ (hK 238 (kt [.none,.none,(kv "public" 593)] 0) (by kernel_rfl))) rfl (by kernel_rfl)) vals h
 .exact nW (P:=PP) (λa b c d e=>xW rfl (hs _ _ (hK 238 (kt [.none,.none,(kv "public" 593)] 0) (by kernel_rfl))) rfl (by kernel_rfl)) vals h
 .exact ij (P:=PP) (λa b c d e f=>xW rfl (hs _ _ (hK 238 (kt [.none,.none,(kv "public" 593)] 0) (by kernel_rfl))) rfl (by kernel_rfl)) vals h
 .exact XD (P:=PP) (λa b c d e f g=>xW rfl (hs _ _ (hK 238 (kt [.none,.none,(kv "public" 593)] 0) (by kernel_rfl))) rfl (by kernel_rfl)) vals h
theorem Qx:zI (zL w B) 253 mH:=sX (st:=s2 14 1) (q:="Entry.moved") (dv:=(.ref 246)) (mv:=(kv "gemrows.things" 194)) (c:=252) hK (hC (252,"Entry.moved") (zB 6 rfl)) (by kernel_rfl) (by kernel_rfl) (by kernel_rfl) [.none] (λzz zz zz=>⟨_,_,rfl,rfl,rfl⟩) λvals s hs l1 l2=>by
 let PP:List IX->Prop:=λvals=>BindsTo s (uF (s2 14 1) "Entry.moved" (.ref 246) (kv "gemrows.things" 194) (.ref 252)) ⟨vals,[]⟩ ((mH.params.map nm).zip (vals++([.none]:List IX).drop (mH.dflt.length-(mH.params.length-vals.length))));show PP vals;rcases mR (n:=3) l1 l2 with h|h;.exact xt (P:=PP) (λa b c=>xW rfl (hs _ _ (hK 246 (kt [.none] 0) (by kernel_rfl))) rfl (by kernel_rfl)) vals h
 .exact uo (P:=PP) (λa b c d=>xW rfl (hs _ _ (hK 246 (kt [.none] 0) (by kernel_rfl))) rfl (by kernel_rfl)) vals h
theorem Qw:zI (zL w B) 267 ZN:=yo (st:=s1 15) (q:="sort_of") (dv:=.none) (mv:=(kv "gemrows.things" 194)) (c:=266) hK (hC (266,"sort_of") (zB 7 rfl)) (by kernel_rfl) (by kernel_rfl) (by kernel_rfl) rfl (uq λa=>by kernel_rfl)
theorem Qv:zI (zL w B) 274 ZQ:=yo (st:=s1 16) (q:="same") (dv:=.none) (mv:=(kv "gemrows.things" 194)) (c:=273) hK (hC (273,"same") (zB 8 rfl)) (by kernel_rfl) (by kernel_rfl) (by kernel_rfl) rfl (yA λa b=>by kernel_rfl)
theorem Qu:zI (zL w B) 308 Zy:=yo (st:=s1 21) (q:="full_name") (dv:=.none) (mv:=(kv "gemrows.things" 194)) (c:=307) hK (hC (307,"full_name") (zB 9 rfl)) (by kernel_rfl) (by kernel_rfl) (by kernel_rfl) rfl (uq λa=>by kernel_rfl)
theorem Qt:zI (zL w B) 346 ZO:=yo (st:=s1 27) (q:="show_thing") (dv:=.none) (mv:=(kv "gemrows.things" 194)) (c:=345) hK (hC (345,"show_thing") (zB 10 rfl)) (by kernel_rfl) (by kernel_rfl) (by kernel_rfl) rfl (yA λa b=>by kernel_rfl)
theorem Qs:zI (zL w B) 361 mA:=sX (st:=s1 29) (q:="show") (dv:=(.ref 354)) (mv:=(kv "gemrows.things" 194)) (c:=360) hK (hC (360,"show") (zB 11 rfl)) (by kernel_rfl) (by kernel_rfl) (by kernel_rfl) [(.int 6 744)] (λzz zz zz=>⟨_,_,rfl,⟨_,rfl⟩,rfl⟩) λvals s hs l1 l2=>by
 let PP:List IX->Prop:=λvals=>BindsTo s (uF (s1 29) "show" (.ref 354) (kv "gemrows.things" 194) (.ref 360)) ⟨vals,[]⟩ ((mA.params.map nm).zip (vals++([(.int 6 744)]:List IX).drop (mA.dflt.length-(mA.params.length-vals.length))));show PP vals;rcases mR (n:=1) l1 l2 with h|h;.exact uq (P:=PP) (λa=>xW rfl (hs _ _ (hK 354 (kt [(.int 6 744)] 0) (by kernel_rfl))) rfl (by kernel_rfl)) vals h
 .exact yA (P:=PP) (λa b=>xW rfl (hs _ _ (hK 354 (kt [(.int 6 744)] 0) (by kernel_rfl))) rfl (by kernel_rfl)) vals h
theorem Qr:zI (zL w B) 368 Zw:=yo (st:=s1 31) (q:="has_thing") (dv:=.none) (mv:=(kv "gemrows.lines" 754)) (c:=367) hK (hC (367,"has_thing") (zB 12 rfl)) (by kernel_rfl) (by kernel_rfl) (by kernel_rfl) rfl (yA λa b=>by kernel_rfl)
theorem Qp:zI (zL w B) 375 ZY:=yo (st:=s1 32) (q:="own_line") (dv:=.none) (mv:=(kv "gemrows.lines" 754)) (c:=374) hK (hC (374,"own_line") (zB 13 rfl)) (by kernel_rfl) (by kernel_rfl) (by kernel_rfl) rfl (uq λa=>by kernel_rfl)
theorem Qo:zI (zL w B) 380 aG:=yo (st:=s1 33) (q:="ahead_count") (dv:=.none) (mv:=(kv "gemrows.lines" 754)) (c:=379) hK (hC (379,"ahead_count") (zB 14 rfl)) (by kernel_rfl) (by kernel_rfl) (by kernel_rfl) rfl (uq λa=>by kernel_rfl)
theorem Qn:zI (zL w B) 385 Zc:=yo (st:=s1 34) (q:="made_line") (dv:=.none) (mv:=(kv "gemrows.lines" 754)) (c:=384) hK (hC (384,"made_line") (zB 15 rfl)) (by kernel_rfl) (by kernel_rfl) (by kernel_rfl) rfl (yA λa b=>by kernel_rfl)
theorem Qm:zI (zL w B) 392 Zd:=yo (st:=s1 35) (q:="line_of") (dv:=.none) (mv:=(kv "gemrows.lines" 754)) (c:=391) hK (hC (391,"line_of") (zB 16 rfl)) (by kernel_rfl) (by kernel_rfl) (by kernel_rfl) rfl (yA λa b=>by kernel_rfl)
theorem Ql:zI (zL w B) 420 Zx:=yo (st:=s1 40) (q:="given_entry") (dv:=.none) (mv:=(kv "gemrows.lines" 754)) (c:=419) hK (hC (419,"given_entry") (zB 17 rfl)) (by kernel_rfl) (by kernel_rfl) (by kernel_rfl) rfl (xt λa b c=>by kernel_rfl)
theorem Qk:zI (zL w B) 432 aC:=yo (st:=s1 42) (q:="entry_at") (dv:=.none) (mv:=(kv "gemrows.lines" 754)) (c:=431) hK (hC (431,"entry_at") (zB 18 rfl)) (by kernel_rfl) (by kernel_rfl) (by kernel_rfl) rfl (xt λa b c=>by kernel_rfl)
theorem Qj:zI (zL w B) 439 Zz:=yo (st:=s1 43) (q:="first_entry") (dv:=.none) (mv:=(kv "gemrows.lines" 754)) (c:=438) hK (hC (438,"first_entry") (zB 19 rfl)) (by kernel_rfl) (by kernel_rfl) (by kernel_rfl) rfl (xt λa b c=>by kernel_rfl)
theorem Qi:zI (zL w B) 446 aA:=yo (st:=s1 44) (q:="find") (dv:=.none) (mv:=(kv "gemrows.lines" 754)) (c:=445) hK (hC (445,"find") (zB 20 rfl)) (by kernel_rfl) (by kernel_rfl) (by kernel_rfl) rfl (xt λa b c=>by kernel_rfl)
theorem Qh:zI (zL w B) 453 a9:=yo (st:=s1 45) (q:="find_behind") (dv:=.none) (mv:=(kv "gemrows.lines" 754)) (c:=452) hK (hC (452,"find_behind") (zB 21 rfl)) (by kernel_rfl) (by kernel_rfl) (by kernel_rfl) rfl (uo λa b c d=>by kernel_rfl)
theorem Qg:zI (zL w B) 460 ZT:=yo (st:=s1 46) (q:="raise_version") (dv:=.none) (mv:=(kv "gemrows.lines" 754)) (c:=459) hK (hC (459,"raise_version") (zB 22 rfl)) (by kernel_rfl) (by kernel_rfl) (by kernel_rfl) rfl (uq λa=>by kernel_rfl)
theorem Qf:zI (zL w B) 467 ZZ:=yo (st:=s1 47) (q:="need_unfrozen") (dv:=.none) (mv:=(kv "gemrows.lines" 754)) (c:=466) hK (hC (466,"need_unfrozen") (zB 23 rfl)) (by kernel_rfl) (by kernel_rfl) (by kernel_rfl) rfl (yA λa b=>by kernel_rfl)
theorem Qe:zI (zL w B) 474 ZX:=yo (st:=s1 48) (q:="own_module") (dv:=.none) (mv:=(kv "gemrows.lines" 754)) (c:=473) hK (hC (473,"own_module") (zB 24 rfl)) (by kernel_rfl) (by kernel_rfl) (by kernel_rfl) rfl (yA λa b=>by kernel_rfl)
theorem Qd:zI (zL w B) 481 aD:=yo (st:=s1 49) (q:="define") (dv:=.none) (mv:=(kv "gemrows.lines" 754)) (c:=480) hK (hC (480,"define") (zB 25 rfl)) (by kernel_rfl) (by kernel_rfl) (by kernel_rfl) rfl (xt λa b c=>by kernel_rfl)
theorem Qc:zI (zL w B) 488 ZV:=yo (st:=s1 50) (q:="place_entry") (dv:=.none) (mv:=(kv "gemrows.lines" 754)) (c:=487) hK (hC (487,"place_entry") (zB 26 rfl)) (by kernel_rfl) (by kernel_rfl) (by kernel_rfl) rfl (uo λa b c d=>by kernel_rfl)
theorem Qb:zI (zL w B) 495 Zt:=yo (st:=s1 51) (q:="kind_word") (dv:=.none) (mv:=(kv "gemrows.lines" 754)) (c:=494) hK (hC (494,"kind_word") (zB 27 rfl)) (by kernel_rfl) (by kernel_rfl) (by kernel_rfl) rfl (uq λa=>by kernel_rfl)
theorem Qa:zI (zL w B) 502 Za:=yo (st:=s1 52) (q:="need_entry") (dv:=.none) (mv:=(kv "gemrows.lines" 754)) (c:=501) hK (hC (501,"need_entry") (zB 28 rfl)) (by kernel_rfl) (by kernel_rfl) (by kernel_rfl) rfl (xt λa b c=>by kernel_rfl)
theorem Q_:zI (zL w B) 509 ZM:=yo (st:=s1 53) (q:="undefine") (dv:=.none) (mv:=(kv "gemrows.lines" 754)) (c:=508) hK (hC (508,"undefine") (zB 29 rfl)) (by kernel_rfl) (by kernel_rfl) (by kernel_rfl) rfl (xt λa b c=>by kernel_rfl)
theorem QZ:zI (zL w B) 516 ZS:=yo (st:=s1 54) (q:="remove") (dv:=.none) (mv:=(kv "gemrows.lines" 754)) (c:=515) hK (hC (515,"remove") (zB 30 rfl)) (by kernel_rfl) (by kernel_rfl) (by kernel_rfl) rfl (xt λa b c=>by kernel_rfl)
theorem QY:zI (zL w B) 523 aE:=yo (st:=s1 55) (q:="copied") (dv:=.none) (mv:=(kv "gemrows.lines" 754)) (c:=522) hK (hC (522,"copied") (zB 31 rfl)) (by kernel_rfl) (by kernel_rfl) (by kernel_rfl) rfl (yA λa b=>by kernel_rfl)
theorem QX:zI (zL w B) 530 aF:=yo (st:=s1 56) (q:="alias") (dv:=.none) (mv:=(kv "gemrows.lines" 754)) (c:=529) hK (hC (529,"alias") (zB 32 rfl)) (by kernel_rfl) (by kernel_rfl) (by kernel_rfl) rfl (uo λa b c d=>by kernel_rfl)
theorem QW:zI (zL w B) 537 ZP:=yo (st:=s1 57) (q:="set_sight") (dv:=.none) (mv:=(kv "gemrows.lines" 754)) (c:=536) hK (hC (536,"set_sight") (zB 33 rfl)) (by kernel_rfl) (by kernel_rfl) (by kernel_rfl) rfl (uo λa b c d=>by kernel_rfl)
theorem QV:zI (zL w B) 544 Z_:=yo (st:=s1 58) (q:="need_mixin") (dv:=.none) (mv:=(kv "gemrows.lines" 754)) (c:=543) hK (hC (543,"need_mixin") (zB 34 rfl)) (by kernel_rfl) (by kernel_rfl) (by kernel_rfl) rfl (xt λa b c=>by kernel_rfl)
theorem QU:zI (zL w B) 551 Zv:=yo (st:=s1 59) (q:="include") (dv:=.none) (mv:=(kv "gemrows.lines" 754)) (c:=550) hK (hC (550,"include") (zB 35 rfl)) (by kernel_rfl) (by kernel_rfl) (by kernel_rfl) rfl (xt λa b c=>by kernel_rfl)
theorem QT:zI (zL w B) 558 ZU:=yo (st:=s1 60) (q:="prepend") (dv:=.none) (mv:=(kv "gemrows.lines" 754)) (c:=557) hK (hC (557,"prepend") (zB 36 rfl)) (by kernel_rfl) (by kernel_rfl) (by kernel_rfl) rfl (xt λa b c=>by kernel_rfl)
theorem QS:zI (zL w B) 565 aB:=yo (st:=s1 61) (q:="extend") (dv:=.none) (mv:=(kv "gemrows.lines" 754)) (c:=564) hK (hC (564,"extend") (zB 37 rfl)) (by kernel_rfl) (by kernel_rfl) (by kernel_rfl) rfl (xt λa b c=>by kernel_rfl)
theorem QR:zI (zL w B) 572 Zu:=yo (st:=s1 62) (q:="is_a") (dv:=.none) (mv:=(kv "gemrows.lines" 754)) (c:=571) hK (hC (571,"is_a") (zB 38 rfl)) (by kernel_rfl) (by kernel_rfl) (by kernel_rfl) rfl (xt λa b c=>by kernel_rfl)
theorem QQ:zI (zL w B) 577 ZW:=yo (st:=s1 63) (q:="own_names") (dv:=.none) (mv:=(kv "gemrows.lines" 754)) (c:=576) hK (hC (576,"own_names") (zB 39 rfl)) (by kernel_rfl) (by kernel_rfl) (by kernel_rfl) rfl (yA λa b=>by kernel_rfl)
theorem QP:zI (zL w B) 584 Zb:=yo (st:=s1 64) (q:="names_of") (dv:=.none) (mv:=(kv "gemrows.lines" 754)) (c:=583) hK (hC (583,"names_of") (zB 40 rfl)) (by kernel_rfl) (by kernel_rfl) (by kernel_rfl) rfl (xt λa b c=>by kernel_rfl)
theorem QN:zI (zL w B) 591 ZR:=yo (st:=s1 65) (q:="respond") (dv:=.none) (mv:=(kv "gemrows.lines" 754)) (c:=590) hK (hC (590,"respond") (zB 41 rfl)) (by kernel_rfl) (by kernel_rfl) (by kernel_rfl) rfl (uo λa b c d=>by kernel_rfl)
theorem QM:zI (zL w B) 606 mF:=sX (st:=s2 67 0) (q:="GemError.__init__") (dv:=(.ref 599)) (mv:=(kv "gemrows.errors" 1090)) (c:=605) hK (hC (605,"GemError.__init__") (zB 42 rfl)) (by kernel_rfl) (by kernel_rfl) (by kernel_rfl) [(kv "" 1104)] (λzz zz zz=>⟨_,_,rfl,⟨_,rfl⟩,rfl⟩) λvals s hs l1 l2=>by
 let PP:List IX->Prop:=λvals=>BindsTo s (uF (s2 67 0) "GemError.__init__" (.ref 599) (kv "gemrows.errors" 1090) (.ref 605)) ⟨vals,[]⟩ ((mF.params.map nm).zip (vals++([(kv "" 1104)]:List IX).drop (mF.dflt.length-(mF.params.length-vals.length))));show PP vals;rcases mR (n:=1) l1 l2 with h|h;.exact uq (P:=PP) (λa=>xW rfl (hs _ _ (hK 599 (kt [(kv "" 1104)] 0) (by kernel_rfl))) rfl (by kernel_rfl)) vals h
 .exact yA (P:=PP) (λa b=>xW rfl (hs _ _ (hK 599 (kt [(kv "" 1104)] 0) (by kernel_rfl))) rfl (by kernel_rfl)) vals h
theorem QK:zI (zL w B) 626 gF:=yo (st:=s2 68 0) (q:="Raised.__init__") (dv:=.none) (mv:=(kv "gemrows.errors" 1090)) (c:=625) hK (hC (625,"Raised.__init__") (zB 43 rfl)) (by kernel_rfl) (by kernel_rfl) (by kernel_rfl) rfl (yA λa b=>by kernel_rfl)
theorem QJ:zI (zL w B) 659 mC:=sX (st:=s2 74 0) (q:="World.__init__") (dv:=(.ref 652)) (mv:=(kv "gemrows.world" 1145)) (c:=658) hK (hC (658,"World.__init__") (zB 44 rfl)) (by kernel_rfl) (by kernel_rfl) (by kernel_rfl) [.none,.none,(.int 20000 1309)] (λzz zz zz=>⟨_,_,rfl,rfl,⟨_,_,rfl,rfl,⟨_,_,rfl,⟨_,rfl⟩,rfl⟩⟩⟩) λvals s hs l1 l2=>by
 let PP:List IX->Prop:=λvals=>BindsTo s (uF (s2 74 0) "World.__init__" (.ref 652) (kv "gemrows.world" 1145) (.ref 658)) ⟨vals,[]⟩ ((mC.params.map nm).zip (vals++([.none,.none,(.int 20000 1309)]:List IX).drop (mC.dflt.length-(mC.params.length-vals.length))));show PP vals;rcases gY (n:=2) l1 l2 with h|h|h|h;.exact yA (P:=PP) (λa b=>xW rfl (hs _ _ (hK 652 (kt [.none,.none,(.int 20000 1309)] 0) (by kernel_rfl))) rfl (by kernel_rfl)) vals h
 .exact xt (P:=PP) (λa b c=>xW rfl (hs _ _ (hK 652 (kt [.none,.none,(.int 20000 1309)] 0) (by kernel_rfl))) rfl (by kernel_rfl)) vals h
 .exact uo (P:=PP) (λa b c d=>xW rfl (hs _ _ (hK 652 (kt [.none,.none,(.int 20000 1309)] 0) (by kernel_rfl))) rfl (by kernel_rfl)) vals h
 .exact nW (P:=PP) (λa b c d e=>xW rfl (hs _ _ (hK 652 (kt [.none,.none,(.int 20000 1309)] 0) (by kernel_rfl))) rfl (by kernel_rfl)) vals h
theorem QI:zI (zL w B) 680 aN:=yo (st:=s2 74 3) (q:="World.number") (dv:=.none) (mv:=(kv "gemrows.world" 1145)) (c:=679) hK (hC (679,"World.number") (zB 45 rfl)) (by kernel_rfl) (by kernel_rfl) (by kernel_rfl) rfl (uq λa=>by kernel_rfl)
theorem QH:zI (zL w B) 701 aU:=yo (st:=s2 74 6) (q:="World.builtin") (dv:=.none) (mv:=(kv "gemrows.world" 1145)) (c:=700) hK (hC (700,"World.builtin") (zB 46 rfl)) (by kernel_rfl) (by kernel_rfl) (by kernel_rfl) rfl (yA λa b=>by kernel_rfl)
theorem QG:zI (zL w B) 706 aO:=yo (st:=s2 74 7) (q:="World.make_builtin") (dv:=.none) (mv:=(kv "gemrows.world" 1145)) (c:=705) hK (hC (705,"World.make_builtin") (zB 47 rfl)) (by kernel_rfl) (by kernel_rfl) (by kernel_rfl) rfl (yA λa b=>by kernel_rfl)
theorem QF:zI (zL w B) 713 aQ:=yo (st:=s2 74 8) (q:="World.give_own") (dv:=.none) (mv:=(kv "gemrows.world" 1145)) (c:=712) hK (hC (712,"World.give_own") (zB 48 rfl)) (by kernel_rfl) (by kernel_rfl) (by kernel_rfl) rfl (yA λa b=>by kernel_rfl)
theorem QE:zI (zL w B) 721 mB:=sX (st:=s2 74 9) (q:="World.new_module") (dv:=(.ref 714)) (mv:=(kv "gemrows.world" 1145)) (c:=720) hK (hC (720,"World.new_module") (zB 49 rfl)) (by kernel_rfl) (by kernel_rfl) (by kernel_rfl) [.none,.none,.none] (λzz zz zz=>⟨_,_,rfl,rfl,⟨_,_,rfl,rfl,⟨_,_,rfl,rfl,rfl⟩⟩⟩) λvals s hs l1 l2=>by
 let PP:List IX->Prop:=λvals=>BindsTo s (uF (s2 74 9) "World.new_module" (.ref 714) (kv "gemrows.world" 1145) (.ref 720)) ⟨vals,[]⟩ ((mB.params.map nm).zip (vals++([.none,.none,.none]:List IX).drop (mB.dflt.length-(mB.params.length-vals.length))));show PP vals;rcases gY (n:=3) l1 l2 with h|h|h|h;.exact xt (P:=PP) (λa b c=>xW rfl (hs _ _ (hK 714 (kt [.none,.none,.none] 0) (by kernel_rfl))) rfl (by kernel_rfl)) vals h
 .exact uo (P:=PP) (λa b c d=>xW rfl (hs _ _ (hK 714 (kt [.none,.none,.none] 0) (by kernel_rfl))) rfl (by kernel_rfl)) vals h
 .exact nW (P:=PP) (λa b c d e=>xW rfl (hs _ _ (hK 714 (kt [.none,.none,.none] 0) (by kernel_rfl))) rfl (by kernel_rfl)) vals h
 .exact ij (P:=PP) (λa b c d e f=>xW rfl (hs _ _ (hK 714 (kt [.none,.none,.none] 0) (by kernel_rfl))) rfl (by kernel_rfl)) vals h
theorem QD:zI (zL w B) 728 aT:=yo (st:=s2 74 10) (q:="World.class_of") (dv:=.none) (mv:=(kv "gemrows.world" 1145)) (c:=727) hK (hC (727,"World.class_of") (zB 50 rfl)) (by kernel_rfl) (by kernel_rfl) (by kernel_rfl) rfl (yA λa b=>by kernel_rfl)
theorem QC:zI (zL w B) 735 aK:=yo (st:=s2 74 11) (q:="World.own_of") (dv:=.none) (mv:=(kv "gemrows.world" 1145)) (c:=734) hK (hC (734,"World.own_of") (zB 51 rfl)) (by kernel_rfl) (by kernel_rfl) (by kernel_rfl) rfl (yA λa b=>by kernel_rfl)
theorem QB:zI (zL w B) 742 aM:=yo (st:=s2 74 12) (q:="World.own_behind") (dv:=.none) (mv:=(kv "gemrows.world" 1145)) (c:=741) hK (hC (741,"World.own_behind") (zB 52 rfl)) (by kernel_rfl) (by kernel_rfl) (by kernel_rfl) rfl (yA λa b=>by kernel_rfl)
theorem QA:zI (zL w B) 749 aJ:=yo (st:=s2 74 13) (q:="World.root_of") (dv:=.none) (mv:=(kv "gemrows.world" 1145)) (c:=748) hK (hC (748,"World.root_of") (zB 53 rfl)) (by kernel_rfl) (by kernel_rfl) (by kernel_rfl) rfl (yA λa b=>by kernel_rfl)
theorem Q9:zI (zL w B) 763 aI:=yo (st:=s2 74 15) (q:="World.text") (dv:=.none) (mv:=(kv "gemrows.world" 1145)) (c:=762) hK (hC (762,"World.text") (zB 54 rfl)) (by kernel_rfl) (by kernel_rfl) (by kernel_rfl) rfl (yA λa b=>by kernel_rfl)
theorem Q8:zI (zL w B) 805 aH:=yo (st:=s2 74 21) (q:="World.thing") (dv:=.none) (mv:=(kv "gemrows.world" 1145)) (c:=804) hK (hC (804,"World.thing") (zB 55 rfl)) (by kernel_rfl) (by kernel_rfl) (by kernel_rfl) rfl (yA λa b=>by kernel_rfl)
theorem Q7:zI (zL w B) 812 aP:=yo (st:=s2 74 22) (q:="World.is_error_class") (dv:=.none) (mv:=(kv "gemrows.world" 1145)) (c:=811) hK (hC (811,"World.is_error_class") (zB 56 rfl)) (by kernel_rfl) (by kernel_rfl) (by kernel_rfl) rfl (yA λa b=>by kernel_rfl)
theorem Q6:zI (zL w B) 826 aS:=yo (st:=s2 74 24) (q:="World.error") (dv:=.none) (mv:=(kv "gemrows.world" 1145)) (c:=825) hK (hC (825,"World.error") (zB 57 rfl)) (by kernel_rfl) (by kernel_rfl) (by kernel_rfl) rfl (xt λa b c=>by kernel_rfl)
theorem Q5:zI (zL w B) 833 aR:=yo (st:=s2 74 25) (q:="World.fail") (dv:=.none) (mv:=(kv "gemrows.world" 1145)) (c:=832) hK (hC (832,"World.fail") (zB 58 rfl)) (by kernel_rfl) (by kernel_rfl) (by kernel_rfl) rfl (xt λa b c=>by kernel_rfl)
theorem Q4:zI (zL w B) 908 Zj:=yo (st:=s1 76) (q:="_law_model") (dv:=.none) (mv:=(kv "law_nz0053_01" 1646)) (c:=907) hK (hC (907,"_law_model") (zB 59 rfl)) (by kernel_rfl) (by kernel_rfl) (by kernel_rfl) rfl (len0 (by kernel_rfl))
theorem Q3:zI (zL w B) 915 Zh:=yo (st:=s1 77) (q:="_law_paths") (dv:=.none) (mv:=(kv "law_nz0053_01" 1646)) (c:=914) hK (hC (914,"_law_paths") (zB 60 rfl)) (by kernel_rfl) (by kernel_rfl) (by kernel_rfl) rfl (yA λa b=>by kernel_rfl)
theorem Q2:zI (zL w B) 920 Zl:=yo (st:=s1 78) (q:="_law_line") (dv:=.none) (mv:=(kv "law_nz0053_01" 1646)) (c:=919) hK (hC (919,"_law_line") (zB 61 rfl)) (by kernel_rfl) (by kernel_rfl) (by kernel_rfl) rfl (yA λa b=>by kernel_rfl)
theorem Q1:zI (zL w B) 927 Zn:=yo (st:=s1 79) (q:="_law_found") (dv:=.none) (mv:=(kv "law_nz0053_01" 1646)) (c:=926) hK (hC (926,"_law_found") (zB 62 rfl)) (by kernel_rfl) (by kernel_rfl) (by kernel_rfl) rfl (xt λa b c=>by kernel_rfl)
theorem Q':zI (zL w B) 932 Zk:=yo (st:=s1 80) (q:="_law_mixed") (dv:=.none) (mv:=(kv "law_nz0053_01" 1646)) (c:=931) hK (hC (931,"_law_mixed") (zB 63 rfl)) (by kernel_rfl) (by kernel_rfl) (by kernel_rfl) rfl (uo λa b c d=>by kernel_rfl)
theorem Pz:zI (zL w B) 939 Zp:=yo (st:=s1 81) (q:="_law_deed") (dv:=.none) (mv:=(kv "law_nz0053_01" 1646)) (c:=938) hK (hC (938,"_law_deed") (zB 64 rfl)) (by kernel_rfl) (by kernel_rfl) (by kernel_rfl) rfl (yA λa b=>by kernel_rfl)
theorem Py:zI (zL w B) 946 Zo:=yo (st:=s1 82) (q:="_law_done") (dv:=.none) (mv:=(kv "law_nz0053_01" 1646)) (c:=945) hK (hC (945,"_law_done") (zB 65 rfl)) (by kernel_rfl) (by kernel_rfl) (by kernel_rfl) rfl (xt λa b c=>by kernel_rfl)
theorem Px:zI (zL w B) 953 Zg:=yo (st:=s1 83) (q:="_law_plain") (dv:=.none) (mv:=(kv "law_nz0053_01" 1646)) (c:=952) hK (hC (952,"_law_plain") (zB 66 rfl)) (by kernel_rfl) (by kernel_rfl) (by kernel_rfl) rfl (uq λa=>by kernel_rfl)
theorem Pw:zI (zL w B) 960 Ze:=yo (st:=s1 84) (q:="_law_shown") (dv:=.none) (mv:=(kv "law_nz0053_01" 1646)) (c:=959) hK (hC (959,"_law_shown") (zB 67 rfl)) (by kernel_rfl) (by kernel_rfl) (by kernel_rfl) rfl (uq λa=>by kernel_rfl)
theorem Pu:zI (zL w B) 967 Zf:=yo (st:=s1 85) (q:="_law_row") (dv:=.none) (mv:=(kv "law_nz0053_01" 1646)) (c:=966) hK (hC (966,"_law_row") (zB 68 rfl)) (by kernel_rfl) (by kernel_rfl) (by kernel_rfl) rfl (xt λa b c=>by kernel_rfl)
theorem Pt:zI (zL w B) 972 Zr:=yo (st:=s1 86) (q:="_law_asked_right") (dv:=.none) (mv:=(kv "law_nz0053_01" 1646)) (c:=971) hK (hC (971,"_law_asked_right") (zB 69 rfl)) (by kernel_rfl) (by kernel_rfl) (by kernel_rfl) rfl (nW λa b c d e=>by kernel_rfl)
theorem Pr:zI (zL w B) 977 Zi:=yo (st:=s1 87) (q:="_law_names") (dv:=.none) (mv:=(kv "law_nz0053_01" 1646)) (c:=976) hK (hC (976,"_law_names") (zB 70 rfl)) (by kernel_rfl) (by kernel_rfl) (by kernel_rfl) rfl (uq λa=>by kernel_rfl)
theorem Pq:zI (zL w B) 984 Zm:=yo (st:=s1 88) (q:="_law_kinds_right") (dv:=.none) (mv:=(kv "law_nz0053_01" 1646)) (c:=983) hK (hC (983,"_law_kinds_right") (zB 71 rfl)) (by kernel_rfl) (by kernel_rfl) (by kernel_rfl) rfl (uo λa b c d=>by kernel_rfl)
theorem Pp:zI (zL w B) 989 Zq:=yo (st:=s1 89) (q:="_law_begun") (dv:=.none) (mv:=(kv "law_nz0053_01" 1646)) (c:=988) hK (hC (988,"_law_begun") (zB 72 rfl)) (by kernel_rfl) (by kernel_rfl) (by kernel_rfl) rfl (len0 (by kernel_rfl))
theorem Po:zI (zL w B) 994 Zs:=yo (st:=s1 90) (q:="law") (dv:=.none) (mv:=(kv "law_nz0053_01" 1646)) (c:=993) hK (hC (993,"law") (zB 73 rfl)) (by kernel_rfl) (by kernel_rfl) (by kernel_rfl) rfl (uq λa=>by kernel_rfl)
end
open PySem PySem.W PySem.Calls PyProof.Rows
theorem tH{zi:Type}{x:Nat}{v:zi}:∀{l:List (Nat×zi)},uD x l=Ie v->(x,v)∈l|(y,w)::r,h=>by have h:(match IP x y with|Ib=>Ie w|Ig=>uD x r)=Ie v:=h;cases q:IP x y with|true=>rw[q]at h;cases h;rw[IJ q];exact .head _|false=>rw[q]at h;exact .tail _ (tH h)
theorem xf{zi xD:Type}{l:List zi}{f g:zi->xD}(h:l.map f=l.map g){a:zi}(ha:a∈l):f a=g a:=E7.mp h a ha
theorem rb{c:Nat}(h:uY c):∃p,(c,p)∈xV:=by obtain⟨p,hp⟩:=HJ.mp h;exact⟨p,tH (l:=xV) hp⟩
theorem Wu{c x f:Nat}(h:prog.zl c x=Ie f):∃l,(c,l)∈meths/\(x,f)∈l:=by obtain⟨l,h1,h2⟩:=GC.mp (show(uD c meths).bind (λl=>uD x l)=Ie f from h);exact⟨l,tH h1,tH h2⟩
section
variable(P:Params)
theorem Ng:xV.map (λp=>(findIn (KL P) (.ref p.1) "__getattribute__",mroIn (KL P) p.1 (.type "BaseException")))=xV.map λp=>(Ie (Ie (.builtin (match p.2.2 with|Ib=>"BaseException.__getattribute__"|Ig=>"object.__getattribute__"))),Ie p.2.2):=by kernel_rfl
theorem XU:xV.map (λp=>(findIn (KL P) (.ref p.1) "__getattr__",findIn (KL P) (.ref p.1) "__setattr__"))=xV.map λzz=>(Ie none,Ie (Ie (.builtin "object.__setattr__"))):=by kernel_rfl
theorem Nj:xV.map (λp=>(clsIn (KL P) p.1).map λcd=>cd.hasDict&&(kc cd.mro&&!cd.mro.isEmpty))=xV.map λzz=>Ie Ib:=by kernel_rfl
theorem NZ:xV.map (λp=>Xs.map λx=>match prog.zl p.1 x with|none=>findIn (KL P) (.ref p.1) (nm x)|Ie _=>Ie none)=xV.map λzz=>Xs.map λzz=>Ie none:=by kernel_rfl
theorem XS:meths.map (λp=>p.2.map λq=>match Xs.contains q.1 with|Ib=>(findIn (KL P) (.ref p.1) (nm q.1),typeIn (KL P) (.ref q.2),findCls (KL P) (.ref p.1) (.type "type") (nm q.1))|Ig=>(none,none,none))=meths.map λp=>p.2.map λq=>match Xs.contains q.1 with|Ib=>(Ie (Ie (.ref q.2)),Ie (.type "function"),Ie (.val (.ref q.2)))|Ig=>(none,none,none):=by kernel_rfl
theorem XT:meths.map (λp=>((prog.cls p.1).isSome,readsIn (KL P) p.1 (.type "type"),specialIn (KL P) (.ref p.1) "__getattribute__"))=meths.map λzz=>(Ib,Ib,Ie (Ie (.builtin "type.__getattribute__"))):=by kernel_rfl
theorem XO:xV.map (λp=>xV.map λr=>match p.2.2 with|Ib=>Ib|Ig=>match prog.sub p.1 r.1 with|Ib=>isIn (KL P) (.ref p.1) r.1|Ig=>kin_not (KL P) p.1 r.1)=xV.map λzz=>xV.map λzz=>Ib:=by kernel_rfl
theorem XR:xV.map (λp=>match p.2.2 with|Ib=>(Ib,Ie (Ie (.builtin "object.__class__")),Ie Ib)|Ig=>(plainGet (KL P) p.1 "__class__"&&(hasDictIn (KL P) p.1&&(kin_notT (KL P) p.1 "int"&&(kin_notT (KL P) p.1 "str"&&kin_notT (KL P) p.1 "bool"))),findIn (KL P) (.ref p.1) "__class__",mroIn (KL P) p.1 (.type "object")))=xV.map λzz=>(Ib,Ie (Ie (.builtin "object.__class__")),Ie Ib):=by kernel_rfl
theorem Nc:specialIn (KL P) (.builtin "object.__class__") "__get__"=Ie (Ie (.builtin "getset_descriptor.__get__"))/\takesIn (KL P) (.builtin "object.__class__")=Ie Ib:=⟨by kernel_rfl,by kernel_rfl⟩
theorem XQ:xV.map (λp=>isNotIn (KL P) "int" p.1&&(isNotIn (KL P) "str" p.1&&(isNotIn (KL P) "bool" p.1&&(isNotIn (KL P) "NoneType" p.1&&keepIn (KL P) (.ref p.1)))))=xV.map λzz=>Ib:=by kernel_rfl
theorem Ni:kO.map (λp=>match p.2.any (IP 629)with|Ib=>exmOne (KL P) (.ref p.1) (.ref 629)|Ig=>Ie Ib)=kO.map λzz=>Ie Ib:=by kernel_rfl
theorem Nb:fns.map (λp=>keepIn (KL P) (.ref p.1))=fns.map λzz=>Ib:=by kernel_rfl
theorem Na:xV.map (λp=>match p.2.2 with|Ib=>(Ib,Ie (Ie (.ref p.2.1)),Ie (.type "function"))|Ig=>(makesIn (KL P) p.1,findIn (KL P) (.ref p.1) "__init__",typeIn (KL P) (.ref p.2.1)))=xV.map λp=>(Ib,Ie (Ie (.ref p.2.1)),Ie (.type "function")):=by kernel_rfl
theorem Nh:fns.map (λp=>(decide p.2.params.Nodup&&H5 p.2.params.length 1000))=fns.map λzz=>Ib:=by kernel_rfl
end
open PySem PySem.W PySem.Calls PyProof.Rows
section
variable{w:World}{B:Hu}{mb:Str->Option IX}
theorem dF{a:Nat}{c:IX}{l:List Hn}{ep:Nat}(hK:(KL w.params).In B)(h:(KL w.params).lookup a=Ie (kd c l ep))(hs:(l.all λe=>match e.key with|.str _ _=>Ib|_=>Ig)=Ib):B.Ns a (nsFind l.toArray):=by refine⟨_,_,_,hK _ _ h,rfl,λe he=>?_,λzz=>rfl⟩;have:=I2.mp hs e (Hm.mpr he);cases q:e.key with|str n t=>exact⟨n,t,rfl⟩|_=>rw[q]at this;cases this
noncomputable def dz(o:Option Obj):List Hn:=match o with|Ie ⟨zo,zY,.dict es zF,yX⟩=>es.toList|_=>[]
noncomputable def nS(P:Params):List Hn:=dz ((KL P).lookup 3)
noncomputable def mQ:V->Option IX|.bi b=>Ie (.builtin b.id)|.ty t=>Ie (.type t.id)|_=>none
noncomputable def jM:V->Option IX|.fn a|.cl a=>Ie (.ref a)|.ref 0=>Ie (.ref 633)|.ref 1=>Ie (.ref 636)|.tup [zo,zY,zF]=>Ie (.ref 632)|.tup zo=>Ie (.ref 644)|_=>none
theorem Nf(P:Params):vT.map (λp=>nsFind (nS P).toArray (nm p.1))=vT.map λp=>jM p.2:=by kernel_rfl
noncomputable def Sh(x:Nat):Option IX->Option IX|Ie zo=>bootBuiltins (nm x)|none=>none
theorem Nk:vT.map (λp=>Sh p.1 (mQ p.2))=vT.map λp=>mQ p.2:=by kernel_rfl
noncomputable def lb(v:V):Option IX:=match mQ v with|Ie u=>Ie u|none=>jM v
noncomputable def NQ:V->Nat|.ref n=>n|_=>0
theorem NY{x n:Nat}(hm:(x,V.ref n)∈vT):n=0\/n=1:=by
 have k1:vT.map (λp=>H5 (NQ p.2) 1)=vT.map λzz=>Ib:=by kernel_rfl
 have h:H5 n 1=Ib:=xf k1 hm;match n,h with|0,zo=>exact .inl rfl|1,zo=>exact .inr rfl
noncomputable def KC:V->List V|.tup l=>l|_=>[]
theorem NW{x:Nat}{l:List V}(hm:(x,V.tup l)∈vT):l=[.str [75,101,114,110,101,108],.str [67,111,109,112,97,114,97,98,108,101],.str [69,110,117,109,101,114,97,98,108,101]]\/l=[.str [78,105,108,67,108,97,115,115],.str [84,114,117,101,67,108,97,115,115],.str [70,97,108,115,101,67,108,97,115,115],.str [73,110,116,101,103,101,114],.str [78,117,109,101,114,105,99],.str [83,121,109,98,111,108]]:=by
 have k1:(vT.filter λp=>match p.2 with|.tup _=>Ib|_=>Ig).map (λp=>KC p.2)=[[.str [75,101,114,110,101,108],.str [67,111,109,112,97,114,97,98,108,101],.str [69,110,117,109,101,114,97,98,108,101]],[.str [78,105,108,67,108,97,115,115],.str [84,114,117,101,67,108,97,115,115],.str [70,97,108,115,101,67,108,97,115,115],.str [73,110,116,101,103,101,114],.str [78,117,109,101,114,105,99],.str [83,121,109,98,111,108]]]:=by kernel_rfl
 have h:l∈[[.str [75,101,114,110,101,108],.str [67,111,109,112,97,114,97,98,108,101],.str [69,110,117,109,101,114,97,98,108,101]],[.str [78,105,108,67,108,97,115,115],.str [84,114,117,101,67,108,97,115,115],.str [70,97,108,115,101,67,108,97,115,115],.str [73,110,116,101,103,101,114],.str [78,117,109,101,114,105,99],.str [83,121,109,98,111,108]]]:=by rw[<-k1];exact HT.mpr ⟨_,Fo.mpr ⟨hm,rfl⟩,rfl⟩
 rcases IU.mp h with e|e;.exact .inl e
 .exact .inr (I_.mp e)
theorem v8{f:FM}{C:OW}{h:Hu}{s:List Nat}{x:String}{t:Nat}{l:List V}{vs:List IX}(e:Hr x=tx s)(r:zS f C h l vs):zS f C h (.str s::l) (kv x t::vs):=⟨_,_,rfl,⟨t,by rw[<-e];rfl⟩,r⟩
theorem rE{f:FM}{C:OW}{h:Hu}(hK:(KL w.params).In B)(k:∀c o,B.get? c=Ie o->C c=none/\h.get? c=Ie o){a:Nat}{l:List IX}{ep:Nat}{vs:List V}(e:(KL w.params).lookup a=Ie (kt l ep))(r:zS f C h vs l):VR f C h (.tup vs) (.ref a):=let⟨k1,k2⟩:=k _ _ (hK _ _ e);⟨a,l.toArray,ep,#[],rfl,k2,k1,r⟩
theorem VU(hK:(KL w.params).In B){x:Nat}{v:V}{u:IX}(hm:(x,v)∈vT)(e:lb v=Ie u):mX (zL w B) v u:=by
 cases v with
 |fn a=>cases e;exactλzz zz zz zz zz=>rfl
 |cl a=>cases e;exactλzz zz zz zz zz=>rfl
 |bi a=>cases e;exactλzz zz zz zz zz=>rfl
 |ty a=>cases e;exactλzz zz zz zz zz=>rfl
 |ref n=>
  have:n=0\/n=1:=NY hm;rcases this with rfl|rfl;.cases e;exactλzz zz zz z zz=>⟨633,z 0 633 rfl,rfl⟩
  .cases e;exactλzz zz zz z zz=>⟨636,z 1 636 rfl,rfl⟩
 |tup l=>
  rcases NW hm with rfl|rfl;.cases e;exactλzz zz zz zz k=>(rE hK k (a:=632) (l:=[(kv "Kernel" 1147),(kv "Comparable" 1148),(kv "Enumerable" 1149)]) (ep:=0) (by kernel_rfl) (v8 (by kernel_rfl) (v8 (by kernel_rfl) (v8 (by kernel_rfl) rfl))))
  .cases e;exactλzz zz zz zz k=>(rE hK k (a:=644) (l:=[(kv "NilClass" 1290),(kv "TrueClass" 1291),(kv "FalseClass" 1292),(kv "Integer" 1293),(kv "Numeric" 1294),(kv "Symbol" 1295)]) (ep:=0) (by kernel_rfl) (v8 (by kernel_rfl) (v8 (by kernel_rfl) (v8 (by kernel_rfl) (v8 (by kernel_rfl) (v8 (by kernel_rfl) (v8 (by kernel_rfl) rfl)))))))
 |_=>cases e
theorem N_:vT.map (λp=>nm p.1==("__name__":Str))=vT.map λzz=>Ig:=by kernel_rfl
theorem NX:vT.map (λp=>(lb p.2).isSome)=vT.map λzz=>Ib:=by kernel_rfl
theorem Sf{v:V}{u:IX}(h:mQ v=Ie u):jM v=none:=by cases v<;>first|rfl|cases h
theorem Wt(hK:(KL w.params).In B):B.Ns mainGlobals (nsFind (nS w.params).toArray):=dF (c:=.type "dict") (ep:=95) hK (by kernel_rfl) (by kernel_rfl)
theorem Pd(hK:(KL w.params).In B)(hb:∀x:Str,x≠"__name__"->mb x=bootBuiltins x){x:Nat}{v:V}(hm:(x,v)∈vT):∃u,(nsFind (nS w.params).toArray (nm x)=Ie u\/(nsFind (nS w.params).toArray (nm x)=none/\mb (nm x)=Ie u))/\mX (zL w B) v u:=by
 have h1:=xf (Nf w.params) hm;have h2:=xf Nk hm;have h4:=xf N_ hm;have h5:=xf NX hm;dsimp only at h1 h2 h4 h5;generalize nsFind (nS w.params).toArray (nm x)=m at h1⊢;subst h1;cases q:mQ v with
 |some u=>rw[q]at h2;exact⟨u,.inr ⟨Sf q,(hb _ λe=>by rw[e]at h4;cases h4).trans h2⟩,VU hK hm (by unfold lb;rw[q])⟩
 |none=>
  have e:lb v=jM v:=by unfold lb;rw[q]
  rw[e]at h5;obtain⟨u,hu⟩:=HJ.mp h5;exact⟨u,.inl hu,VU hK hm (e.trans hu)⟩
theorem Pc(hK:(KL w.params).In B)(eT:B.Ns builtinsNs mb)(hb:∀x:Str,x≠"__name__"->mb x=bootBuiltins x):gj (zL w B):=⟨_,mb,Wt hK,eT,λx v hv=>Pd hK hb (tH (l:=vT) hv)⟩
end
open PySem PySem.W PySem.Calls PyProof.Rows
section
variable{w:World}{B:Hu}{mb:Str->Option IX}
theorem U8(hK:(KL w.params).In B)(hC:∀p∈oV,tO B p.1=Ie (Hr p.2)):∀p∈fns,zI (zL w B) p.1 p.2:=(Ia.mpr ⟨Qq hK hC,(Ia.mpr ⟨QO hK hC,(Ia.mpr ⟨R5 hK hC,(Ia.mpr ⟨R4 hK hC,(Ia.mpr ⟨Qz hK hC,(Ia.mpr ⟨Qy hK hC,(Ia.mpr ⟨Qx hK hC,(Ia.mpr ⟨Qw hK hC,(Ia.mpr ⟨Qv hK hC,(Ia.mpr ⟨Qu hK hC,(Ia.mpr ⟨Qt hK hC,(Ia.mpr ⟨Qs hK hC,(Ia.mpr ⟨Qr hK hC,(Ia.mpr ⟨Qp hK hC,(Ia.mpr ⟨Qo hK hC,(Ia.mpr ⟨Qn hK hC,(Ia.mpr ⟨Qm hK hC,(Ia.mpr ⟨Ql hK hC,(Ia.mpr ⟨Qk hK hC,(Ia.mpr ⟨Qj hK hC,(Ia.mpr ⟨Qi hK hC,(Ia.mpr ⟨Qh hK hC,(Ia.mpr ⟨Qg hK hC,(Ia.mpr ⟨Qf hK hC,(Ia.mpr ⟨Qe hK hC,(Ia.mpr ⟨Qd hK hC,(Ia.mpr ⟨Qc hK hC,(Ia.mpr ⟨Qb hK hC,(Ia.mpr ⟨Qa hK hC,(Ia.mpr ⟨Q_ hK hC,(Ia.mpr ⟨QZ hK hC,(Ia.mpr ⟨QY hK hC,(Ia.mpr ⟨QX hK hC,(Ia.mpr ⟨QW hK hC,(Ia.mpr ⟨QV hK hC,(Ia.mpr ⟨QU hK hC,(Ia.mpr ⟨QT hK hC,(Ia.mpr ⟨QS hK hC,(Ia.mpr ⟨QR hK hC,(Ia.mpr ⟨QQ hK hC,(Ia.mpr ⟨QP hK hC,(Ia.mpr ⟨QN hK hC,(Ia.mpr ⟨QM hK hC,(Ia.mpr ⟨QK hK hC,(Ia.mpr ⟨QJ hK hC,(Ia.mpr ⟨QI hK hC,(Ia.mpr ⟨QH hK hC,(Ia.mpr ⟨QG hK hC,(Ia.mpr ⟨QF hK hC,(Ia.mpr ⟨QE hK hC,(Ia.mpr ⟨QD hK hC,(Ia.mpr ⟨QC hK hC,(Ia.mpr ⟨QB hK hC,(Ia.mpr ⟨QA hK hC,(Ia.mpr ⟨Q9 hK hC,(Ia.mpr ⟨Q8 hK hC,(Ia.mpr ⟨Q7 hK hC,(Ia.mpr ⟨Q6 hK hC,(Ia.mpr ⟨Q5 hK hC,(Ia.mpr ⟨Q4 hK hC,(Ia.mpr ⟨Q3 hK hC,(Ia.mpr ⟨Q2 hK hC,(Ia.mpr ⟨Q1 hK hC,(Ia.mpr ⟨Q' hK hC,(Ia.mpr ⟨Pz hK hC,(Ia.mpr ⟨Py hK hC,(Ia.mpr ⟨Px hK hC,(Ia.mpr ⟨Pw hK hC,(Ia.mpr ⟨Pu hK hC,(Ia.mpr ⟨Pt hK hC,(Ia.mpr ⟨Pr hK hC,(Ia.mpr ⟨Pq hK hC,(Ia.mpr ⟨Pp hK hC,(Ia.mpr ⟨Po hK hC,(List.forall_mem_nil _)⟩)⟩)⟩)⟩)⟩)⟩)⟩)⟩)⟩)⟩)⟩)⟩)⟩)⟩)⟩)⟩)⟩)⟩)⟩)⟩)⟩)⟩)⟩)⟩)⟩)⟩)⟩)⟩)⟩)⟩)⟩)⟩)⟩)⟩)⟩)⟩)⟩)⟩)⟩)⟩)⟩)⟩)⟩)⟩)⟩)⟩)⟩)⟩)⟩)⟩)⟩)⟩)⟩)⟩)⟩)⟩)⟩)⟩)⟩)⟩)⟩)⟩)⟩)⟩)⟩)⟩)⟩)⟩)⟩)⟩)⟩)⟩)⟩)⟩)
theorem Rx(hK:(KL w.params).In B){c fi:Nat}(hm:(c,(fi,Ig))∈xV):ClsRec (zL w B) c fi:=λh k=>by have fD:(KL w.params).In h:=hK.keeps k;obtain⟨e1,e2⟩:=Hb (xf (Na w.params) hm);obtain⟨e2,e3⟩:=Hb e2;exact⟨makes_of fD e1,looks_findIn fD e2,λself=>bind_fn fD self e3⟩
theorem RT(hK:(KL w.params).In B):kG (zL w B) 609 606:=⟨_,_,608,_,_,_,_,_,_,_,_,_,_,_,_,_,_,_,_,_,_,_,Gv,λzz zz h=>h,hK 609 (kl "GemError" [(.type "ValueError")] [(.ref 609),(.type "ValueError"),(.type "Exception"),(.type "BaseException"),(.type "object")] 608 [(.ref 629)] [Ie (.ref 592),none,Ie (kv "GemError" 1092),Ie (kv "GemError" 1100),Ie (.builtin "ValueError.__new__"),Ie (.bool Ib)]) (by kernel_rfl),dF (a:=608) (c:=.type "dict") (l:=dz ((KL w.params).lookup 608)) (ep:=3) hK (by kernel_rfl) (by kernel_rfl),by kernel_rfl,hK 606 (kf (s2 67 0) "GemError.__init__" (.ref 599) (kv "gemrows.errors" 1090) (.ref 605)) (by kernel_rfl),rfl,by kernel_rfl⟩
theorem Kk:mZ [.type "ValueError",.type "Exception",.type "BaseException",.type "object"] [.ref 609,.type "ValueError",.type "Exception",.type "BaseException",.type "object"]:=λX b h=>by rw[I1,show(HG X==Gg 609)=Ig from rfl,Fw];exact h
theorem RS(hK:(KL w.params).In B):kG (zL w B) 629 626:=⟨_,_,628,_,_,_,_,_,_,_,_,_,_,_,_,_,_,_,_,_,_,_,Gv,Kk,hK 629 (kl "Raised" [(.ref 609)] [(.ref 629),(.ref 609),(.type "ValueError"),(.type "Exception"),(.type "BaseException"),(.type "object")] 628 [] [Ie (.ref 613),none,Ie (kv "Raised" 1120),Ie (kv "Raised" 1128),Ie (.builtin "ValueError.__new__"),Ie (.bool Ib)]) (by kernel_rfl),dF (a:=628) (c:=.type "dict") (l:=dz ((KL w.params).lookup 628)) (ep:=2) hK (by kernel_rfl) (by kernel_rfl),by kernel_rfl,hK 626 (kf (s2 68 0) "Raised.__init__" .none (kv "gemrows.errors" 1090) (.ref 625)) (by kernel_rfl),rfl,by kernel_rfl⟩
theorem RN(hK:(KL w.params).In B){c fi:Nat}(h:prog.cls c=Ie (fi,Ib)):kG (zL w B) c fi:=by
 have hm:=tH (l:=xV) h;have h2:(c,(fi,Ib))∈[(609,(606,Ib)),(629,(626,Ib))]:=by
  have:∀p∈xV,p.2.2=Ib->p∈[(609,(606,Ib)),(629,(626,Ib))]:=by decide+kernel
  exact this _ hm rfl
 rcases IU.mp h2 with e|h2;.cases e;exact RT hK
 .cases I_.mp h2;exact RS hK
theorem iP{D:Nat}(h:qW D):∃i,(D,(i,Ig))∈xV:=h.imp λzz h=>tH (l:=xV) h
theorem facts (hK : (KL w.params).In B) (hC : ∀ p ∈ oV, tO B p.1 = Ie (Hr p.2)) (eT : B.Ns builtinsNs mb) (hb : ∀ x : Str, x ≠ "__name__" → mb x = bootBuiltins x) (hs : B.get? sysModules ≠ none) : Facts (zL w B) where
  yM := hK
  ga := fun c h => by
    obtain ⟨⟨i, t⟩, hm⟩ := rb h
    obtain ⟨e1, e2⟩ := Hb (xf (Ng w.params) hm)
    cases t with
    | true => exact .inr ⟨e1, e2⟩
    | false => exact .inl e1
  gx := fun c h => let ⟨p, hm⟩ := rb h; (Hb (xf (XU w.params) hm)).1
  sa := fun c h => let ⟨p, hm⟩ := rb h; (Hb (xf (XU w.params) hm)).2
  cd := fun c h => by
    obtain ⟨p, hm⟩ := rb h
    obtain ⟨cd, e1, e2⟩ := IG.mp (xf (Nj w.params) hm)
    obtain ⟨e2, e3⟩ := zh e2
    obtain ⟨e3, e4⟩ := zh e3
    exact ⟨cd, e1, e2, e3, by rw [Hp] at e4; exact e4⟩
  dI := fun c x h hx hn => by
    obtain ⟨p, hm⟩ := rb h
    have e := xf (xf (NZ w.params) hm) (HK.mp hx)
    dsimp only at e
    rw [hn] at e; exact e
  zl := fun c x f h hx => by
    obtain ⟨l, h1, h2⟩ := Wu h
    have e := xf (xf (XS w.params) h1) h2
    dsimp only at e
    rw [show Xs.contains x = Ib from hx] at e
    obtain ⟨e1, e2⟩ := Hb e
    exact ⟨(Hb (xf (XT w.params) h1)).1, e1, (Hb e2).1⟩
  reads := fun c x f h hx => by
    obtain ⟨l, h1, h2⟩ := Wu h
    have e := xf (xf (XS w.params) h1) h2
    dsimp only at e
    rw [show Xs.contains x = Ib from hx] at e
    obtain ⟨_, e2⟩ := Hb e
    obtain ⟨_, e3⟩ := Hb (xf (XT w.params) h1)
    exact ⟨(Hb e3).1, (Hb e2).2, (Hb e3).2⟩
  yes := fun D zP hD hC h => by
    obtain ⟨i, h1⟩ := iP hD
    obtain ⟨p, h2⟩ := rb hC
    have e := xf (xf (XO w.params) h1) h2
    dsimp only at e
    rw [h] at e; exact e
  no := fun D zP hD hC h => by
    obtain ⟨i, h1⟩ := iP hD
    obtain ⟨p, h2⟩ := rb hC
    have e := xf (xf (XO w.params) h1) h2
    dsimp only at e
    rw [h] at e; exact e
  d7 := fun D hD => by
    obtain ⟨i, h1⟩ := iP hD
    obtain ⟨e1, e2⟩ := Hb (xf (XR w.params) h1)
    obtain ⟨a1, e1⟩ := zh e1
    exact ⟨a1, (zh e1).1, (Hb e2).1, (Hb e2).2⟩
  gs := Nc w.params
  pl := fun zP hC => by
    obtain ⟨p, h2⟩ := rb hC
    obtain ⟨a1, e⟩ := zh (xf (XQ w.params) h2)
    obtain ⟨a2, e⟩ := zh e
    obtain ⟨a3, e⟩ := zh e
    exact ⟨a1, a2, a3, (zh e).1⟩
  nt := fun D hD => by
    obtain ⟨i, h1⟩ := iP hD
    obtain ⟨e1, _⟩ := Hb (xf (XR w.params) h1)
    obtain ⟨_, e1⟩ := zh e1
    obtain ⟨_, e1⟩ := zh e1
    obtain ⟨a1, e1⟩ := zh e1
    exact ⟨a1, (zh e1).1, (zh e1).2⟩
  Yh := fun c h => by
    have h : (match uD c kO with | Ie l => l.any (IP 629) | none => Ig) = Ib := h
    cases q : uD c kO with
    | none => rw [q] at h; cases h
    | some l =>
      rw [q] at h
      have e := xf (Ni w.params) (tH q)
      dsimp only at e h
      rw [h] at e; exact e
  glob := Pc hK eT hb
  sys := hs
  XJ := fun a h => by
    obtain ⟨fd, hf⟩ := HJ.mp h
    exact xf (Nb w.params) (tH (l := fns) hf)
  XM := fun a h => by
    obtain ⟨p, h2⟩ := rb h
    obtain ⟨_, e⟩ := zh (xf (XQ w.params) h2)
    obtain ⟨_, e⟩ := zh e
    obtain ⟨_, e⟩ := zh e
    exact (zh e).2
  fns := fun a fd h => by
    have hm := tH (l := fns) h
    obtain ⟨e1, e2⟩ := zh (xf (Nh) hm)
    exact ⟨U8 hK hC _ hm, of_decide_eq_true e1, ID e2⟩
  cls := fun c fi h => Rx hK (tH (l := xV) h)
  exc := fun c fi h => RN hK h
  range := ⟨196, by decide +kernel, rfl⟩
  enum := ⟨203, by decide +kernel, rfl⟩
  sj := ⟨139, by decide +kernel, rfl⟩
end
open PySem PySem.W PySem.Calls PyProof.Rows
noncomputable def nX:DefRec:=⟨Hr "law",Vm (s1 90),rI (s1 90),qT (s1 90),(match s1 90 with|.FunctionDef _ _ _ _ _ _ _ _ _ p=>p|_=>default)⟩
theorem M8:defOf q0 Hh.row.name=Ie (nX,[]):=by kernel_rfl
theorem M3:Hh.row.prog.theDef Hh.row.name=Ie (nX.params,nX.body,nX.scope):=by kernel_rfl
noncomputable def ri(w:World)(h:Hu):Prop:=C3 ((KL w.params).In h) (∀p∈oV,tO h p.1=Ie (Hr p.2)) (h.get? sysModules≠none)
theorem Rt{h h':Hu}(k:∀b o,h.get? b=Ie o->h'.get? b=Ie o){a:Nat}{x:Str}(e:tO h a=Ie x):tO h' a=Ie x:=by unfold tO at e⊢;cases q:h.get? a with|none=>rw[q]at e;cases e|some o=>rw[q]at e;rw[k a o q];exact e
theorem ri.of{w:World}{s:IS}(e:mV s=mW w):ri w s.heap:=by obtain⟨e1,e2⟩:=Hb e;obtain⟨e2,e3⟩:=Hb e2;refine⟨Frag.in_of (as:=KA) (by kernel_rfl) e1,λp hp=>xf e2 hp,λq=>?_⟩;rw[q]at e3;cases e3
theorem ri.keeps(w:World)(h h':Hu)(y:ri w h)(k:∀b o,h.get? b=Ie o->h'.get? b=Ie o):ri w h':=⟨y.1.keeps k,λp hp=>Rt k (y.2 p hp),λq=>by obtain⟨o,ho⟩:=Option.ne_none_iff_exists'.mp y.3;rw[k _ _ ho]at q;cases q⟩
section
variable{w:World}{B:Hu}
theorem yV{f:FM}{C:OW}{h:Hu}{P:Params}{k:List Nat}{v:V}{es:List (List Nat×V)}{s:String}{t:Nat}{u:IX}{l:List (String×Nat×IX)}(e:Hr s=tx k)(h1:VR f C h v u)(h2:DR P f C h es (rT P l)):DR P f C h ((k,v)::es) (rT P ((s,t,u)::l)):=⟨t,u,rT P l,by rw[<-e];rfl,h1,h2⟩
theorem y9{f:FM}{C:OW}{h:Hu}{s:List Nat}{x:String}{t:Nat}(e:Hr x=tx s):VR f C h (.str s) (kv x t):=⟨t,by rw[<-e];rfl⟩
theorem Ri{f:FM}{C:OW}{h:Hu}{P:Params}:DR P f C h oW (rT P gZ):=(yV (by kernel_rfl) rfl (yV (by kernel_rfl) (y9 (by kernel_rfl)) (yV (by kernel_rfl) (y9 (by kernel_rfl)) (yV (by kernel_rfl) (y9 (by kernel_rfl)) (yV (by kernel_rfl) rfl (yV (by kernel_rfl) rfl (yV (by kernel_rfl) rfl (yV (by kernel_rfl) (y9 (by kernel_rfl)) (yV (by kernel_rfl) (y9 (by kernel_rfl)) (yV (by kernel_rfl) (y9 (by kernel_rfl)) (yV (by kernel_rfl) (y9 (by kernel_rfl)) (yV (by kernel_rfl) (y9 (by kernel_rfl)) (yV (by kernel_rfl) (y9 (by kernel_rfl)) (yV (by kernel_rfl) (y9 (by kernel_rfl)) (yV (by kernel_rfl) (y9 (by kernel_rfl)) (yV (by kernel_rfl) (y9 (by kernel_rfl)) (yV (by kernel_rfl) (y9 (by kernel_rfl)) (yV (by kernel_rfl) (y9 (by kernel_rfl)) (yV (by kernel_rfl) (y9 (by kernel_rfl)) (yV (by kernel_rfl) (y9 (by kernel_rfl)) (yV (by kernel_rfl) (y9 (by kernel_rfl)) (yV (by kernel_rfl) (y9 (by kernel_rfl)) (yV (by kernel_rfl) (y9 (by kernel_rfl)) (yV (by kernel_rfl) (y9 (by kernel_rfl)) (yV (by kernel_rfl) (y9 (by kernel_rfl)) (yV (by kernel_rfl) (y9 (by kernel_rfl)) (yV (by kernel_rfl) (y9 (by kernel_rfl)) (yV (by kernel_rfl) (y9 (by kernel_rfl)) (yV (by kernel_rfl) (y9 (by kernel_rfl)) (yV (by kernel_rfl) (y9 (by kernel_rfl)) (yV (by kernel_rfl) (y9 (by kernel_rfl)) (yV (by kernel_rfl) (y9 (by kernel_rfl)) (yV (by kernel_rfl) (y9 (by kernel_rfl)) (yV (by kernel_rfl) (y9 (by kernel_rfl)) (yV (by kernel_rfl) (y9 (by kernel_rfl)) (yV (by kernel_rfl) (y9 (by kernel_rfl)) (yV (by kernel_rfl) (y9 (by kernel_rfl)) (yV (by kernel_rfl) (y9 (by kernel_rfl)) (yV (by kernel_rfl) (y9 (by kernel_rfl)) (yV (by kernel_rfl) (y9 (by kernel_rfl)) rfl))))))))))))))))))))))))))))))))))))))))
theorem Rh{f:FM}{C:OW}{h:Hu}(hK:(KL w.params).In B)(k:∀c o,B.get? c=Ie o->C c=none/\h.get? c=Ie o):DR w.params f C h nR (rT w.params dP):=(yV (by kernel_rfl) (rE hK k (a:=637) (l:=[(kv "Kernel" 1269)]) (ep:=0) (by kernel_rfl) (v8 (by kernel_rfl) rfl)) (yV (by kernel_rfl) (rE hK k (a:=638) (l:=[(kv "Comparable" 1271)]) (ep:=0) (by kernel_rfl) (v8 (by kernel_rfl) rfl)) (yV (by kernel_rfl) (rE hK k (a:=639) (l:=[(kv "Comparable" 1273)]) (ep:=0) (by kernel_rfl) (v8 (by kernel_rfl) rfl)) (yV (by kernel_rfl) (rE hK k (a:=640) (l:=[(kv "Comparable" 1275)]) (ep:=0) (by kernel_rfl) (v8 (by kernel_rfl) rfl)) (yV (by kernel_rfl) (rE hK k (a:=641) (l:=[(kv "Enumerable" 1277)]) (ep:=0) (by kernel_rfl) (v8 (by kernel_rfl) rfl)) (yV (by kernel_rfl) (rE hK k (a:=642) (l:=[(kv "Enumerable" 1279)]) (ep:=0) (by kernel_rfl) (v8 (by kernel_rfl) rfl)) (yV (by kernel_rfl) (rE hK k (a:=643) (l:=[(kv "Enumerable" 1281)]) (ep:=0) (by kernel_rfl) (v8 (by kernel_rfl) rfl)) rfl)))))))
noncomputable def f0(l:I4):FM:=λn=>if n=0 then Ie 633 else if n=1 then Ie 636 else if n=2 then Ie l else none
theorem Xc{f:FM}{C:OW}{h:Hu}:∀{vs:List IX}{ns:List Int},IntsAre vs ns->zS f C h (w3 ns) vs|_,_,.nil=>rfl|_,_,.cons i t x=>⟨_,_,rfl,⟨t,rfl⟩,Xc x⟩
theorem LD(hK:(KL w.params).In B){l:I4}{vs:List IX}{ns:List Int}(hl:B.get? l=Ie {cls:=.type "list",data:=.seq vs.toArray})(hi:IntsAre vs ns):Rel w.params B z0 (f0 l) (λzz=>none) (S2 ns) B:=by
 refine⟨λzz zz e=>e,λzz zz e=>(nomatch e),λzz zz e=>(nomatch e),λn a e=>?_,λn a e=>?_,λn o e=>?_⟩
 .have:n<3:=HO λq=>by unfold f0 at e;rw[if_neg (by omega),if_neg (by omega),if_neg (by omega)]at e;cases e
  exact this
 .unfold z0 at e;unfold f0;split at e;.rw[if_pos ‹_›];exact e
  .split at e;.rewrite[if_neg ‹_›];rw[if_pos ‹_›];exact e
   .cases e
 .match n,e with|0,e=>cases e;exact⟨633,rfl,(rT w.params gZ).toArray,40,hK 633 _ (by kernel_rfl),Ri,by decide⟩|1,e=>cases e;exact⟨636,rfl,(rT w.params dP).toArray,7,hK 636 _ (by kernel_rfl),Rh hK λzz zz e=>⟨rfl,e⟩,by decide⟩|2,e=>cases e;exact⟨l,rfl,_,_,_,hl,Xc hi⟩
end
set_option tactic.hygienic true in theorem walk:WalkO q0 pR (λzz zz=>True) ri Hh.row.toRowW nX [] λf vs=>Dr f vs:=by
 intro w yN zd mg mb G Y a o pm cd doc dV kV h1 h2 h3 h4 h5 h6 args vals as ON Oc OK pb Ob;obtain⟨hK,hC,hS⟩:=Y;wrow_args ON Oc OK pb Ob;rename_i ns _ _ _ _ _ _ _ l vs _ hL _ w1 _ hI _ hc _;have hlen:ns.length<=1000:=by omega
 obtain⟨oL,YF,_,n,PT⟩:=hL;have eO:zd.heap.get? l=Ie {cls:=.type "list",data:=.seq vs.toArray}:=by have w2:Well w.params zd.heap (.ref l) (.list (ofPys (ns.map .int))):=w1;cases w2 with|list hl hw=>rw[YF]at hl;cases hl;rw[YF];injection PT with e1 e2;rw[e1]
 have ha:a=994:=by
  obtain⟨o',es,ep,g1,g2,_,g3⟩:=G.T.g;obtain⟨o2,JE,RY,k1,k2,_,k3⟩:=Wt hK;rw[g1]at k1;cases k1;rw[g2]at k2;cases k2;have e:nsFind (nS w.params).toArray (Hr "law")=Ie (.ref 994):=by kernel_rfl
  have h5:mg (Hr "law")=Ie (.ref a):=h5;rw[<-g3,k3,e]at h5;cases h5;rfl
 subst ha;have F:=facts hK hC G.T.b G.T.builtins hS;obtain⟨zv,P7⟩:=Lg (b:=zL w zd.heap) (ns:=ns) hlen;have ak:xP ⟨zL w zd.heap,Ig,Ig,41⟩ callerA (λzz=>none) zd.heap:=⟨show callerA.depth+3*41+20<=recursionLimit by decide+kernel,show callerA.units+10*41+200<=cLine by decide+kernel,G.T.nolimit,F,λzz=>rfl,[],rfl,trivial,λzz h=>nomatch h⟩;have W0:=P7.go (A:=callerA) (f:=f0 l) (C:=λzz=>none) (s:=zd) (xS:=.ref 994) (vals:=[.ref l]) (LD hK eO hI) ak rfl ⟨_,_,rfl,⟨l,rfl,rfl⟩,rfl⟩;refine II W0 (λv s' p=>?_) λe s' p=>p.elim;obtain⟨f',zm,dn,hv⟩:=p;cases(show v=.bool Ib from hv);exact GoodW.toG ⟨.inl ⟨_,.bool Ib,[],rfl,λzz=>rfl,.bool Ib,by kernel_rfl,λzz=>⟨Gn,λzz h=>nomatch h⟩⟩,dn.rel.base,dn.os,dn.gens.trans h6⟩
end Mine
theorem PySem.Challenge.cw_nz0053_01_holds : PySem.Challenge.rw_nz0053_01.Holds :=
  PySem.W.holds_law Mine.M4 fun Km => PySem.W.holds_open (q := Mine.q0) (loose := Mine.pR) (Xt := fun zz => true) (XP := fun zz zz => True) (Yf := Mine.mV) (Ya := Mine.mW) (YP := Mine.ri) (d := Mine.nX) (kwd := []) (N := 15790) Mine.left (fun zz zz => Mine.ri.of) Mine.ri.keeps (fun zz zz => trivial) (fun zz zz zz zz zz => trivial) Mine.M8 Mine.M3 rfl (fun zz zz => PySem.W.recFacts_nil rfl) rfl Km Mine.M6 ⟨rfl, rfl, rfl, rfl, rfl, by decide +kernel⟩ ⟨[.list [.int 3]], by decide +kernel, by decide +kernel⟩ Mine.walk
